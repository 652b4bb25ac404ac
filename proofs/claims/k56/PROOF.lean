import PyProof.Rows.All
import Wide.All
import OpenK.AllK
import Wide.FinOn
import KE.KStateDown
import Lean
import HandS.ForMost
import HandS.More
import HandS.Exc
import HandS.WordsExc
import HandS.Defaults
import HandS.Conv
import HandS.Star
import HandS.Zip
import HandS.TupAny
import HandS.TupMul
import HandS.Slots
import HandS.Wide
import HandS.Style
import HandS.Flow
import HandS.Small
import HandS.Sort
import HandS.DictComp
import HandS.TupSets
import HandS.RaiseMore
import HandS.DeepEq
import HandS.Deep
import HandS.SortKw
import HandS.Walk
import HandS.Head0
import HandS.Head1
import HandS.Head2
import HandS.HeadEnd
import HandS.HeadHook1
import HandS.HeadHook2
import HandS.HeadHook3
import HandS.HeadHook4
import KE.SortData
import KE.KDictKeyed
import KE.KDictWalk
import KE.DataMinKey
import KE.GoesDict
import KE.GoesMore
import KE.KDictCopyH
import KE.KIndexOf
import HandS.Nested
import KE.DatumOrd
import KE.KSortTupAny
import PySem.Challenge.RW_pinsenough_k56_whole_tables_beside_one_a
set_option Elab.async false
set_option linter.all false
set_option maxRecDepth 100000
set_option maxHeartbeats 4000000
namespace K56
open PySem PySem.Spec PyProof.Rows L2
def top (i : Nat) : Stmt := PySem.Challenge.pw_pinsenough_k56_whole_tables_beside_one_a.main.body.getD i (.Pass ⟨0, 0, 0, 0⟩)
abbrev s_is_integer : Stmt := top 6
def d_is_integer : He.DefD := ⟨("is_integer", none), "is_integer", "is_integer", defArgs s_is_integer, defBody s_is_integer, defScope s_is_integer, [], []⟩
abbrev s_is_below : Stmt := top 7
def d_is_below : He.DefD := ⟨("is_below", none), "is_below", "is_below", defArgs s_is_below, defBody s_is_below, defScope s_is_below, [], []⟩
abbrev s_nodes_in : Stmt := top 8
def d_nodes_in : He.DefD := ⟨("nodes_in", none), "nodes_in", "nodes_in", defArgs s_nodes_in, defBody s_nodes_in, defScope s_nodes_in, [], []⟩
abbrev s_Counted_init : Stmt := inClass (top 10) 1
def d_Counted_init : He.DefD := ⟨("Counted", some "__init__"), "__init__", "Counted.__init__", defArgs s_Counted_init, defBody s_Counted_init, defScope s_Counted_init, [], []⟩
abbrev s_Counted_ways : Stmt := inClass (top 10) 2
def d_Counted_ways : He.DefD := ⟨("Counted", some "ways"), "ways", "Counted.ways", defArgs s_Counted_ways, defBody s_Counted_ways, defScope s_Counted_ways, [], []⟩
abbrev s_readings_many : Stmt := top 11
def d_readings_many : He.DefD := ⟨("readings_many", none), "readings_many", "readings_many", defArgs s_readings_many, defBody s_readings_many, defScope s_readings_many, [], []⟩
abbrev s_reading_by : Stmt := top 12
def d_reading_by : He.DefD := ⟨("reading_by", none), "reading_by", "reading_by", defArgs s_reading_by, defBody s_reading_by, defScope s_reading_by, [], []⟩
abbrev s_renumbered : Stmt := top 14
def d_renumbered : He.DefD := ⟨("renumbered", none), "renumbered", "renumbered", defArgs s_renumbered, defBody s_renumbered, defScope s_renumbered, [], []⟩
abbrev s_least_programs : Stmt := top 16
def d_least_programs : He.DefD := ⟨("least_programs", none), "least_programs", "least_programs", defArgs s_least_programs, defBody s_least_programs, defScope s_least_programs, [], []⟩
abbrev s_made_kinds : Stmt := top 17
def d_made_kinds : He.DefD := ⟨("made_kinds", none), "made_kinds", "made_kinds", defArgs s_made_kinds, defBody s_made_kinds, defScope s_made_kinds, [], []⟩
abbrev s_choices_of : Stmt := top 20
def d_choices_of : He.DefD := ⟨("choices_of", none), "choices_of", "choices_of", defArgs s_choices_of, defBody s_choices_of, defScope s_choices_of, [], []⟩
abbrev s_with_entries : Stmt := top 21
def d_with_entries : He.DefD := ⟨("with_entries", none), "with_entries", "with_entries", defArgs s_with_entries, defBody s_with_entries, defScope s_with_entries, [], []⟩
abbrev s_counted : Stmt := top 22
def d_counted : He.DefD := ⟨("counted", none), "counted", "counted", defArgs s_counted, defBody s_counted, defScope s_counted, [], []⟩
abbrev s_row_by : Stmt := top 23
def d_row_by : He.DefD := ⟨("row_by", none), "row_by", "row_by", defArgs s_row_by, defBody s_row_by, defScope s_row_by, [], []⟩
abbrev s_is_bad : Stmt := top 24
def d_is_bad : He.DefD := ⟨("is_bad", none), "is_bad", "is_bad", defArgs s_is_bad, defBody s_is_bad, defScope s_is_bad, [], []⟩
abbrev s_Rows_init : Stmt := inClass (top 25) 0
def d_Rows_init : He.DefD := ⟨("Rows", some "__init__"), "__init__", "Rows.__init__", defArgs s_Rows_init, defBody s_Rows_init, defScope s_Rows_init, [], []⟩
abbrev s_Rows_offer : Stmt := inClass (top 25) 1
def d_Rows_offer : He.DefD := ⟨("Rows", some "offer"), "offer", "Rows.offer", defArgs s_Rows_offer, defBody s_Rows_offer, defScope s_Rows_offer, [], []⟩
abbrev s_Rows_settle : Stmt := inClass (top 25) 2
def d_Rows_settle : He.DefD := ⟨("Rows", some "settle"), "settle", "Rows.settle", defArgs s_Rows_settle, defBody s_Rows_settle, defScope s_Rows_settle, [], []⟩
abbrev s_harmed_by : Stmt := top 26
def d_harmed_by : He.DefD := ⟨("harmed_by", none), "harmed_by", "harmed_by", defArgs s_harmed_by, defBody s_harmed_by, defScope s_harmed_by, [], []⟩
abbrev s_harmed : Stmt := top 27
def d_harmed : He.DefD := ⟨("harmed", none), "harmed", "harmed", defArgs s_harmed, defBody s_harmed, defScope s_harmed, [], []⟩
abbrev s_numbers_of : Stmt := top 29
def d_numbers_of : He.DefD := ⟨("numbers_of", none), "numbers_of", "numbers_of", defArgs s_numbers_of, defBody s_numbers_of, defScope s_numbers_of, [], []⟩
abbrev s_lessened : Stmt := top 30
def d_lessened : He.DefD := ⟨("lessened", none), "lessened", "lessened", defArgs s_lessened, defBody s_lessened, defScope s_lessened, [], []⟩
abbrev s_with_row : Stmt := top 31
def d_with_row : He.DefD := ⟨("with_row", none), "with_row", "with_row", defArgs s_with_row, defBody s_with_row, defScope s_with_row, [], []⟩
abbrev s_signs_over : Stmt := top 32
def d_signs_over : He.DefD := ⟨("signs_over", none), "signs_over", "signs_over", defArgs s_signs_over, defBody s_signs_over, defScope s_signs_over, [], []⟩
abbrev s_basis_of : Stmt := top 33
def d_basis_of : He.DefD := ⟨("basis_of", none), "basis_of", "basis_of", defArgs s_basis_of, defBody s_basis_of, defScope s_basis_of, [], []⟩
abbrev s_unlike_many : Stmt := top 34
def d_unlike_many : He.DefD := ⟨("unlike_many", none), "unlike_many", "unlike_many", defArgs s_unlike_many, defBody s_unlike_many, defScope s_unlike_many, [], []⟩
abbrev s_l_bag : Stmt := top 36
def d_l_bag : He.DefD := ⟨("_law_bag", none), "_law_bag", "_law_bag", defArgs s_l_bag, defBody s_l_bag, defScope s_l_bag, [], []⟩
abbrev s_l_take : Stmt := top 37
def d_l_take : He.DefD := ⟨("_law_take", none), "_law_take", "_law_take", defArgs s_l_take, defBody s_l_take, defScope s_l_take, [], []⟩
abbrev s_l_some : Stmt := top 38
def d_l_some : He.DefD := ⟨("_law_some", none), "_law_some", "_law_some", defArgs s_l_some, defBody s_l_some, defScope s_l_some, [], []⟩
abbrev s_l_mixed : Stmt := top 39
def d_l_mixed : He.DefD := ⟨("_law_mixed", none), "_law_mixed", "_law_mixed", defArgs s_l_mixed, defBody s_l_mixed, defScope s_l_mixed, [], []⟩
abbrev s_l_alike : Stmt := top 40
def d_l_alike : He.DefD := ⟨("_law_alike", none), "_law_alike", "_law_alike", defArgs s_l_alike, defBody s_l_alike, defScope s_l_alike, [], []⟩
abbrev s_l_signs : Stmt := top 41
def d_l_signs : He.DefD := ⟨("_law_signs", none), "_law_signs", "_law_signs", defArgs s_l_signs, defBody s_l_signs, defScope s_l_signs, [], []⟩
abbrev s_l_entry : Stmt := top 42
def d_l_entry : He.DefD := ⟨("_law_entry", none), "_law_entry", "_law_entry", defArgs s_l_entry, defBody s_l_entry, defScope s_l_entry, [], []⟩
abbrev s_l_told : Stmt := top 43
def d_l_told : He.DefD := ⟨("_law_told", none), "_law_told", "_law_told", defArgs s_l_told, defBody s_l_told, defScope s_l_told, [], []⟩
abbrev s_l_any_table : Stmt := top 44
def d_l_any_table : He.DefD := ⟨("_law_any_table", none), "_law_any_table", "_law_any_table", defArgs s_l_any_table, defBody s_l_any_table, defScope s_l_any_table, [], []⟩
abbrev s_l_plain_table : Stmt := top 45
def d_l_plain_table : He.DefD := ⟨("_law_plain_table", none), "_law_plain_table", "_law_plain_table", defArgs s_l_plain_table, defBody s_l_plain_table, defScope s_l_plain_table, [], []⟩
abbrev s_l_chain_table : Stmt := top 46
def d_l_chain_table : He.DefD := ⟨("_law_chain_table", none), "_law_chain_table", "_law_chain_table", defArgs s_l_chain_table, defBody s_l_chain_table, defScope s_l_chain_table, [], []⟩
abbrev s_l_planted_table : Stmt := top 47
def d_l_planted_table : He.DefD := ⟨("_law_planted_table", none), "_law_planted_table", "_law_planted_table", defArgs s_l_planted_table, defBody s_l_planted_table, defScope s_l_planted_table, [], []⟩
abbrev s_l_table : Stmt := top 48
def d_l_table : He.DefD := ⟨("_law_table", none), "_law_table", "_law_table", defArgs s_l_table, defBody s_l_table, defScope s_l_table, [], []⟩
abbrev s_l_made : Stmt := top 49
def d_l_made : He.DefD := ⟨("_law_made", none), "_law_made", "_law_made", defArgs s_l_made, defBody s_l_made, defScope s_l_made, [], []⟩
abbrev s_l_size : Stmt := top 50
def d_l_size : He.DefD := ⟨("_law_size", none), "_law_size", "_law_size", defArgs s_l_size, defBody s_l_size, defScope s_l_size, [], []⟩
abbrev s_l_grown : Stmt := top 51
def d_l_grown : He.DefD := ⟨("_law_grown", none), "_law_grown", "_law_grown", defArgs s_l_grown, defBody s_l_grown, defScope s_l_grown, [], []⟩
abbrev s_l_program : Stmt := top 52
def d_l_program : He.DefD := ⟨("_law_program", none), "_law_program", "_law_program", defArgs s_l_program, defBody s_l_program, defScope s_l_program, [], []⟩
abbrev s_l_counts : Stmt := top 53
def d_l_counts : He.DefD := ⟨("_law_counts", none), "_law_counts", "_law_counts", defArgs s_l_counts, defBody s_l_counts, defScope s_l_counts, [], []⟩
abbrev s_l_more : Stmt := top 54
def d_l_more : He.DefD := ⟨("_law_more", none), "_law_more", "_law_more", defArgs s_l_more, defBody s_l_more, defScope s_l_more, [], []⟩
abbrev s_l_small_table : Stmt := top 55
def d_l_small_table : He.DefD := ⟨("_law_small_table", none), "_law_small_table", "_law_small_table", defArgs s_l_small_table, defBody s_l_small_table, defScope s_l_small_table, [], []⟩
abbrev s_l_led_numbers : Stmt := top 56
def d_l_led_numbers : He.DefD := ⟨("_law_led_numbers", none), "_law_led_numbers", "_law_led_numbers", defArgs s_l_led_numbers, defBody s_l_led_numbers, defScope s_l_led_numbers, [], []⟩
abbrev s_l_gcd : Stmt := top 57
def d_l_gcd : He.DefD := ⟨("_law_gcd", none), "_law_gcd", "_law_gcd", defArgs s_l_gcd, defBody s_l_gcd, defScope s_l_gcd, [], []⟩
abbrev s_l_less : Stmt := top 58
def d_l_less : He.DefD := ⟨("_law_less", none), "_law_less", "_law_less", defArgs s_l_less, defBody s_l_less, defScope s_l_less, [], []⟩
abbrev s_l_put_in : Stmt := top 59
def d_l_put_in : He.DefD := ⟨("_law_put_in", none), "_law_put_in", "_law_put_in", defArgs s_l_put_in, defBody s_l_put_in, defScope s_l_put_in, [], []⟩
abbrev s_l_span : Stmt := top 60
def d_l_span : He.DefD := ⟨("_law_span", none), "_law_span", "_law_span", defArgs s_l_span, defBody s_l_span, defScope s_l_span, [], []⟩
abbrev s_l_is_nothing_changed : Stmt := top 61
def d_l_is_nothing_changed : He.DefD := ⟨("_law_is_nothing_changed", none), "_law_is_nothing_changed", "_law_is_nothing_changed", defArgs s_l_is_nothing_changed, defBody s_l_is_nothing_changed, defScope s_l_is_nothing_changed, [], []⟩
abbrev s_l_are_more_seen : Stmt := top 62
def d_l_are_more_seen : He.DefD := ⟨("_law_are_more_seen", none), "_law_are_more_seen", "_law_are_more_seen", defArgs s_l_are_more_seen, defBody s_l_are_more_seen, defScope s_l_are_more_seen, [], []⟩
abbrev s_law : Stmt := top 63
def d_law : He.DefD := ⟨("law", none), "law", "law", defArgs s_law, defBody s_law, defScope s_law, [], []⟩
def fn1 : List He.DefD := [d_is_integer, d_is_below, d_nodes_in, d_Counted_init, d_Counted_ways, d_readings_many, d_reading_by, d_renumbered, d_least_programs, d_made_kinds, d_choices_of, d_with_entries, d_counted, d_row_by, d_is_bad, d_Rows_init, d_Rows_offer, d_Rows_settle, d_harmed_by, d_harmed, d_numbers_of, d_lessened, d_with_row, d_signs_over, d_basis_of, d_unlike_many, d_l_bag, d_l_take, d_l_some, d_l_mixed, d_l_alike, d_l_signs, d_l_entry, d_l_told, d_l_any_table]
def fn2 : List He.DefD := [d_l_plain_table, d_l_chain_table, d_l_planted_table, d_l_table, d_l_made, d_l_size, d_l_grown, d_l_program, d_l_counts, d_l_more, d_l_small_table, d_l_led_numbers, d_l_gcd, d_l_less, d_l_put_in, d_l_span, d_l_is_nothing_changed, d_l_are_more_seen, d_law]
def fn : List He.DefD := fn1 ++ fn2
def fa1 : List He.Fa := [.glo "PinError", .glo "NoIndex", .glo "TooMany", .glo "is_integer", .glo "is_below", .glo "nodes_in", .glo "Counted", .glo "readings_many", .glo "reading_by", .glo "renumbered", .glo "least_programs", .glo "made_kinds", .glo "choices_of", .glo "with_entries", .glo "counted", .glo "row_by", .glo "is_bad", .glo "Rows", .glo "harmed_by", .glo "harmed", .glo "numbers_of", .glo "lessened", .glo "with_row", .glo "signs_over", .glo "basis_of", .glo "unlike_many", .glo "_law_bag", .glo "_law_take", .glo "_law_some", .glo "_law_mixed", .glo "_law_alike", .glo "_law_signs", .glo "_law_entry", .glo "_law_told", .glo "_law_any_table", .glo "_law_plain_table", .glo "_law_chain_table", .glo "_law_planted_table", .glo "_law_table", .glo "_law_made"]
def fa2 : List He.Fa := [.glo "_law_size", .glo "_law_grown", .glo "_law_program", .glo "_law_counts", .glo "_law_more", .glo "_law_small_table", .glo "_law_led_numbers", .glo "_law_gcd", .glo "_law_less", .glo "_law_put_in", .glo "_law_span", .glo "_law_is_nothing_changed", .glo "_law_are_more_seen", .glo "law", .free "len", .free "tuple", .free "zip", .free "range", .free "sum", .free "sorted", .free "set", .free "list", .free "all", .free "dict", .free "abs", .free "int", .free "min", .free "max", .free "repr", .free "enumerate", .free "isinstance", .int "MOST_ROWS" 300, .noat "Rows" "old_table", .noat "Rows" "new_table", .noat "Rows" "its_programs", .noat "Rows" "its_line", .meth "Rows" "offer", .meth "Rows" "settle", .meth "Counted" "ways", .cls "Rows", .mkr "Rows", .mkr "Counted"]
def fa : List He.Fa := fa1 ++ fa2
/-- the class with slots -/
def slB (K : PySem.W.Frag) (f : Str) (i : Nat) : Bool := He.eqO (PySem.W.findIn K (.ref (He.ga K "Counted")) f) (some (some (.ref (He.ma K (He.ga K "Counted") f)))) && (He.eqO (PySem.W.specialIn K (.ref (He.ma K (He.ga K "Counted") f)) "__get__") (some (some (.builtin "member_descriptor.__get__"))) && (decide (PySem.W.takesIn K (.ref (He.ma K (He.ga K "Counted") f)) = some true) && (decide (PySem.W.typeIn K (.ref (He.ma K (He.ga K "Counted") f)) = some (.type "member_descriptor")) && decide (PySem.W.slotIn K (He.ma K (He.ga K "Counted") f) (He.ga K "Counted") = some i))))
def exB (K : PySem.W.Frag) : Bool := PySem.W.plainGet K (He.ga K "Counted") Str.empty && (PySem.W.isClsIn K (He.ga K "Counted") && (PySem.W.plainOver K (He.ga K "Counted") && (He.eqO (PySem.W.findIn K (.ref (He.ga K "Counted")) "__setattr__") (some (some (.builtin "object.__setattr__"))) && (slB K "its_table" 2 && (slB K "its_nodes" 0 && slB K "its_numbers" 1)))))
theorem slB_ok {K : PySem.W.Frag} {f : Str} {i : Nat} (h : slB K f i = true) (hi : i < 1000) : SlX.Slot1 K (He.ga K "Counted") f (He.ma K (He.ga K "Counted") f) i := by
  obtain ⟨h1, h⟩ := He.ba h
  obtain ⟨h2, h⟩ := He.ba h
  obtain ⟨h3, h⟩ := He.ba h
  obtain ⟨h4, h5⟩ := He.ba h
  exact ⟨He.eqO_ok h1, He.eqO_ok h2, of_decide_eq_true h3, of_decide_eq_true h4, of_decide_eq_true h5, hi⟩
/-- what the head tells -/
structure Hd (K : PySem.W.Frag) (mg : Str → Option Value) : Prop where
  c : He.SaysD fa fn K
  ex : exB K = true
  g : ∀ (i : Nat) (x : Str), fa[i]? = some (.glo x) → mg x = some (.ref (He.ga K x))
  z : ∀ (i : Nat) (x : Str), fa[i]? = some (.free x) → mg x = none
  n : ∃ t, mg "MOST_ROWS" = some (.int 300 t)
theorem Hd.of {K : PySem.W.Frag} {mg : Str → Option Value} {h : Heap} (X : K.In h) (G : h.Ns mainGlobals mg) (c : He.SaysD fa fn K) (e : exB K = true) : Hd K mg :=
  ⟨c, e, fun i x q => He.glo_ok X G (c.fact i q), fun i x q => He.free_ok X G (c.fact i q), He.int_ok X G (c.fact 71 rfl)⟩
section
variable {K : PySem.W.Frag} {mg : Str → Option Value}
theorem Hd.scls (A : Hd K mg) : SlX.SCls K (He.ga K "Counted") := by
  obtain ⟨h1, h⟩ := He.ba A.ex
  obtain ⟨h2, h⟩ := He.ba h
  obtain ⟨h3, h⟩ := He.ba h
  obtain ⟨h4, h⟩ := He.ba h
  exact ⟨h1, h2, h3, He.eqO_ok h4⟩
theorem Hd.slotT (A : Hd K mg) : SlX.Slot1 K (He.ga K "Counted") "its_table" (He.ma K (He.ga K "Counted") "its_table") 2 := by
  obtain ⟨h1, h⟩ := He.ba A.ex
  obtain ⟨h2, h⟩ := He.ba h
  obtain ⟨h3, h⟩ := He.ba h
  obtain ⟨h4, h⟩ := He.ba h
  obtain ⟨h5, h⟩ := He.ba h
  exact slB_ok h5 (by decide)
theorem Hd.slotN (A : Hd K mg) : SlX.Slot1 K (He.ga K "Counted") "its_nodes" (He.ma K (He.ga K "Counted") "its_nodes") 0 := by
  obtain ⟨h1, h⟩ := He.ba A.ex
  obtain ⟨h2, h⟩ := He.ba h
  obtain ⟨h3, h⟩ := He.ba h
  obtain ⟨h4, h⟩ := He.ba h
  obtain ⟨h5, h⟩ := He.ba h
  obtain ⟨h6, h⟩ := He.ba h
  exact slB_ok h6 (by decide)
theorem Hd.slotU (A : Hd K mg) : SlX.Slot1 K (He.ga K "Counted") "its_numbers" (He.ma K (He.ga K "Counted") "its_numbers") 1 := by
  obtain ⟨h1, h⟩ := He.ba A.ex
  obtain ⟨h2, h⟩ := He.ba h
  obtain ⟨h3, h⟩ := He.ba h
  obtain ⟨h4, h⟩ := He.ba h
  obtain ⟨h5, h⟩ := He.ba h
  obtain ⟨h6, h⟩ := He.ba h
  exact slB_ok h (by decide)
theorem Hd.g_PinError (A : Hd K mg) : mg "PinError" = some (.ref (He.ga K "PinError")) := A.g 0 _ rfl
theorem Hd.g_NoIndex (A : Hd K mg) : mg "NoIndex" = some (.ref (He.ga K "NoIndex")) := A.g 1 _ rfl
theorem Hd.g_TooMany (A : Hd K mg) : mg "TooMany" = some (.ref (He.ga K "TooMany")) := A.g 2 _ rfl
theorem Hd.g_is_integer (A : Hd K mg) : mg "is_integer" = some (.ref (He.ga K "is_integer")) := A.g 3 _ rfl
theorem Hd.g_is_below (A : Hd K mg) : mg "is_below" = some (.ref (He.ga K "is_below")) := A.g 4 _ rfl
theorem Hd.g_nodes_in (A : Hd K mg) : mg "nodes_in" = some (.ref (He.ga K "nodes_in")) := A.g 5 _ rfl
theorem Hd.g_Counted (A : Hd K mg) : mg "Counted" = some (.ref (He.ga K "Counted")) := A.g 6 _ rfl
theorem Hd.g_readings_many (A : Hd K mg) : mg "readings_many" = some (.ref (He.ga K "readings_many")) := A.g 7 _ rfl
theorem Hd.g_reading_by (A : Hd K mg) : mg "reading_by" = some (.ref (He.ga K "reading_by")) := A.g 8 _ rfl
theorem Hd.g_renumbered (A : Hd K mg) : mg "renumbered" = some (.ref (He.ga K "renumbered")) := A.g 9 _ rfl
theorem Hd.g_least_programs (A : Hd K mg) : mg "least_programs" = some (.ref (He.ga K "least_programs")) := A.g 10 _ rfl
theorem Hd.g_made_kinds (A : Hd K mg) : mg "made_kinds" = some (.ref (He.ga K "made_kinds")) := A.g 11 _ rfl
theorem Hd.g_choices_of (A : Hd K mg) : mg "choices_of" = some (.ref (He.ga K "choices_of")) := A.g 12 _ rfl
theorem Hd.g_with_entries (A : Hd K mg) : mg "with_entries" = some (.ref (He.ga K "with_entries")) := A.g 13 _ rfl
theorem Hd.g_counted (A : Hd K mg) : mg "counted" = some (.ref (He.ga K "counted")) := A.g 14 _ rfl
theorem Hd.g_row_by (A : Hd K mg) : mg "row_by" = some (.ref (He.ga K "row_by")) := A.g 15 _ rfl
theorem Hd.g_is_bad (A : Hd K mg) : mg "is_bad" = some (.ref (He.ga K "is_bad")) := A.g 16 _ rfl
theorem Hd.g_Rows (A : Hd K mg) : mg "Rows" = some (.ref (He.ga K "Rows")) := A.g 17 _ rfl
theorem Hd.g_harmed_by (A : Hd K mg) : mg "harmed_by" = some (.ref (He.ga K "harmed_by")) := A.g 18 _ rfl
theorem Hd.g_harmed (A : Hd K mg) : mg "harmed" = some (.ref (He.ga K "harmed")) := A.g 19 _ rfl
theorem Hd.g_numbers_of (A : Hd K mg) : mg "numbers_of" = some (.ref (He.ga K "numbers_of")) := A.g 20 _ rfl
theorem Hd.g_lessened (A : Hd K mg) : mg "lessened" = some (.ref (He.ga K "lessened")) := A.g 21 _ rfl
theorem Hd.g_with_row (A : Hd K mg) : mg "with_row" = some (.ref (He.ga K "with_row")) := A.g 22 _ rfl
theorem Hd.g_signs_over (A : Hd K mg) : mg "signs_over" = some (.ref (He.ga K "signs_over")) := A.g 23 _ rfl
theorem Hd.g_basis_of (A : Hd K mg) : mg "basis_of" = some (.ref (He.ga K "basis_of")) := A.g 24 _ rfl
theorem Hd.g_unlike_many (A : Hd K mg) : mg "unlike_many" = some (.ref (He.ga K "unlike_many")) := A.g 25 _ rfl
theorem Hd.g_l_bag (A : Hd K mg) : mg "_law_bag" = some (.ref (He.ga K "_law_bag")) := A.g 26 _ rfl
theorem Hd.g_l_take (A : Hd K mg) : mg "_law_take" = some (.ref (He.ga K "_law_take")) := A.g 27 _ rfl
theorem Hd.g_l_some (A : Hd K mg) : mg "_law_some" = some (.ref (He.ga K "_law_some")) := A.g 28 _ rfl
theorem Hd.g_l_mixed (A : Hd K mg) : mg "_law_mixed" = some (.ref (He.ga K "_law_mixed")) := A.g 29 _ rfl
theorem Hd.g_l_alike (A : Hd K mg) : mg "_law_alike" = some (.ref (He.ga K "_law_alike")) := A.g 30 _ rfl
theorem Hd.g_l_signs (A : Hd K mg) : mg "_law_signs" = some (.ref (He.ga K "_law_signs")) := A.g 31 _ rfl
theorem Hd.g_l_entry (A : Hd K mg) : mg "_law_entry" = some (.ref (He.ga K "_law_entry")) := A.g 32 _ rfl
theorem Hd.g_l_told (A : Hd K mg) : mg "_law_told" = some (.ref (He.ga K "_law_told")) := A.g 33 _ rfl
theorem Hd.g_l_any_table (A : Hd K mg) : mg "_law_any_table" = some (.ref (He.ga K "_law_any_table")) := A.g 34 _ rfl
theorem Hd.g_l_plain_table (A : Hd K mg) : mg "_law_plain_table" = some (.ref (He.ga K "_law_plain_table")) := A.g 35 _ rfl
theorem Hd.g_l_chain_table (A : Hd K mg) : mg "_law_chain_table" = some (.ref (He.ga K "_law_chain_table")) := A.g 36 _ rfl
theorem Hd.g_l_planted_table (A : Hd K mg) : mg "_law_planted_table" = some (.ref (He.ga K "_law_planted_table")) := A.g 37 _ rfl
theorem Hd.g_l_table (A : Hd K mg) : mg "_law_table" = some (.ref (He.ga K "_law_table")) := A.g 38 _ rfl
theorem Hd.g_l_made (A : Hd K mg) : mg "_law_made" = some (.ref (He.ga K "_law_made")) := A.g 39 _ rfl
theorem Hd.g_l_size (A : Hd K mg) : mg "_law_size" = some (.ref (He.ga K "_law_size")) := A.g 40 _ rfl
theorem Hd.g_l_grown (A : Hd K mg) : mg "_law_grown" = some (.ref (He.ga K "_law_grown")) := A.g 41 _ rfl
theorem Hd.g_l_program (A : Hd K mg) : mg "_law_program" = some (.ref (He.ga K "_law_program")) := A.g 42 _ rfl
theorem Hd.g_l_counts (A : Hd K mg) : mg "_law_counts" = some (.ref (He.ga K "_law_counts")) := A.g 43 _ rfl
theorem Hd.g_l_more (A : Hd K mg) : mg "_law_more" = some (.ref (He.ga K "_law_more")) := A.g 44 _ rfl
theorem Hd.g_l_small_table (A : Hd K mg) : mg "_law_small_table" = some (.ref (He.ga K "_law_small_table")) := A.g 45 _ rfl
theorem Hd.g_l_led_numbers (A : Hd K mg) : mg "_law_led_numbers" = some (.ref (He.ga K "_law_led_numbers")) := A.g 46 _ rfl
theorem Hd.g_l_gcd (A : Hd K mg) : mg "_law_gcd" = some (.ref (He.ga K "_law_gcd")) := A.g 47 _ rfl
theorem Hd.g_l_less (A : Hd K mg) : mg "_law_less" = some (.ref (He.ga K "_law_less")) := A.g 48 _ rfl
theorem Hd.g_l_put_in (A : Hd K mg) : mg "_law_put_in" = some (.ref (He.ga K "_law_put_in")) := A.g 49 _ rfl
theorem Hd.g_l_span (A : Hd K mg) : mg "_law_span" = some (.ref (He.ga K "_law_span")) := A.g 50 _ rfl
theorem Hd.g_l_is_nothing_changed (A : Hd K mg) : mg "_law_is_nothing_changed" = some (.ref (He.ga K "_law_is_nothing_changed")) := A.g 51 _ rfl
theorem Hd.g_l_are_more_seen (A : Hd K mg) : mg "_law_are_more_seen" = some (.ref (He.ga K "_law_are_more_seen")) := A.g 52 _ rfl
theorem Hd.g_law (A : Hd K mg) : mg "law" = some (.ref (He.ga K "law")) := A.g 53 _ rfl
theorem Hd.z_len (A : Hd K mg) : mg "len" = none := A.z 54 _ rfl
theorem Hd.z_tuple (A : Hd K mg) : mg "tuple" = none := A.z 55 _ rfl
theorem Hd.z_zip (A : Hd K mg) : mg "zip" = none := A.z 56 _ rfl
theorem Hd.z_range (A : Hd K mg) : mg "range" = none := A.z 57 _ rfl
theorem Hd.z_sum (A : Hd K mg) : mg "sum" = none := A.z 58 _ rfl
theorem Hd.z_sorted (A : Hd K mg) : mg "sorted" = none := A.z 59 _ rfl
theorem Hd.z_set (A : Hd K mg) : mg "set" = none := A.z 60 _ rfl
theorem Hd.z_list (A : Hd K mg) : mg "list" = none := A.z 61 _ rfl
theorem Hd.z_all (A : Hd K mg) : mg "all" = none := A.z 62 _ rfl
theorem Hd.z_dict (A : Hd K mg) : mg "dict" = none := A.z 63 _ rfl
theorem Hd.z_abs (A : Hd K mg) : mg "abs" = none := A.z 64 _ rfl
theorem Hd.z_int (A : Hd K mg) : mg "int" = none := A.z 65 _ rfl
theorem Hd.z_min (A : Hd K mg) : mg "min" = none := A.z 66 _ rfl
theorem Hd.z_max (A : Hd K mg) : mg "max" = none := A.z 67 _ rfl
theorem Hd.z_repr (A : Hd K mg) : mg "repr" = none := A.z 68 _ rfl
theorem Hd.z_enumerate (A : Hd K mg) : mg "enumerate" = none := A.z 69 _ rfl
theorem Hd.z_isinstance (A : Hd K mg) : mg "isinstance" = none := A.z 70 _ rfl
theorem Hd.na_old_table (A : Hd K mg) : NoAttr K (He.ga K "Rows") "old_table" := He.noat_ok (A.c.fact 72 rfl)
theorem Hd.na_new_table (A : Hd K mg) : NoAttr K (He.ga K "Rows") "new_table" := He.noat_ok (A.c.fact 73 rfl)
theorem Hd.na_its_programs (A : Hd K mg) : NoAttr K (He.ga K "Rows") "its_programs" := He.noat_ok (A.c.fact 74 rfl)
theorem Hd.na_its_line (A : Hd K mg) : NoAttr K (He.ga K "Rows") "its_line" := He.noat_ok (A.c.fact 75 rfl)
theorem Hd.me_offer (A : Hd K mg) : Meth K (He.ga K "Rows") "offer" (He.ma K (He.ga K "Rows") "offer") := He.meth_ok (A.c.fact 76 rfl)
theorem Hd.me_settle (A : Hd K mg) : Meth K (He.ga K "Rows") "settle" (He.ma K (He.ga K "Rows") "settle") := He.meth_ok (A.c.fact 77 rfl)
theorem Hd.me_ways (A : Hd K mg) : Meth K (He.ga K "Counted") "ways" (He.ma K (He.ga K "Counted") "ways") := He.meth_ok (A.c.fact 78 rfl)
theorem Hd.cl_Rows (A : Hd K mg) : Cls K (He.ga K "Rows") := He.cls_ok (A.c.fact 79 rfl)
theorem Hd.mk_Rows (A : Hd K mg) : Mk K (He.ga K "Rows") (He.ma K (He.ga K "Rows") "__init__") := He.mkr_ok (A.c.fact 80 rfl)
theorem Hd.mk_Counted (A : Hd K mg) : Mk K (He.ga K "Counted") (He.ma K (He.ga K "Counted") "__init__") := He.mkr_ok (A.c.fact 81 rfl)
theorem Hd.f_is_integer (A : Hd K mg) : ∃ fd, FunD K "is_integer" "is_integer" (defArgs s_is_integer) (defBody s_is_integer) (defScope s_is_integer) [] [] (He.ga K "is_integer") fd := A.c.def_ 0 (d := d_is_integer) rfl
theorem Hd.f_is_below (A : Hd K mg) : ∃ fd, FunD K "is_below" "is_below" (defArgs s_is_below) (defBody s_is_below) (defScope s_is_below) [] [] (He.ga K "is_below") fd := A.c.def_ 1 (d := d_is_below) rfl
theorem Hd.f_nodes_in (A : Hd K mg) : ∃ fd, FunD K "nodes_in" "nodes_in" (defArgs s_nodes_in) (defBody s_nodes_in) (defScope s_nodes_in) [] [] (He.ga K "nodes_in") fd := A.c.def_ 2 (d := d_nodes_in) rfl
theorem Hd.f_Counted_init (A : Hd K mg) : ∃ fd, FunD K "__init__" "Counted.__init__" (defArgs s_Counted_init) (defBody s_Counted_init) (defScope s_Counted_init) [] [] (He.ma K (He.ga K "Counted") "__init__") fd := A.c.def_ 3 (d := d_Counted_init) rfl
theorem Hd.f_Counted_ways (A : Hd K mg) : ∃ fd, FunD K "ways" "Counted.ways" (defArgs s_Counted_ways) (defBody s_Counted_ways) (defScope s_Counted_ways) [] [] (He.ma K (He.ga K "Counted") "ways") fd := A.c.def_ 4 (d := d_Counted_ways) rfl
theorem Hd.f_readings_many (A : Hd K mg) : ∃ fd, FunD K "readings_many" "readings_many" (defArgs s_readings_many) (defBody s_readings_many) (defScope s_readings_many) [] [] (He.ga K "readings_many") fd := A.c.def_ 5 (d := d_readings_many) rfl
theorem Hd.f_reading_by (A : Hd K mg) : ∃ fd, FunD K "reading_by" "reading_by" (defArgs s_reading_by) (defBody s_reading_by) (defScope s_reading_by) [] [] (He.ga K "reading_by") fd := A.c.def_ 6 (d := d_reading_by) rfl
theorem Hd.f_renumbered (A : Hd K mg) : ∃ fd, FunD K "renumbered" "renumbered" (defArgs s_renumbered) (defBody s_renumbered) (defScope s_renumbered) [] [] (He.ga K "renumbered") fd := A.c.def_ 7 (d := d_renumbered) rfl
theorem Hd.f_least_programs (A : Hd K mg) : ∃ fd, FunD K "least_programs" "least_programs" (defArgs s_least_programs) (defBody s_least_programs) (defScope s_least_programs) [] [] (He.ga K "least_programs") fd := A.c.def_ 8 (d := d_least_programs) rfl
theorem Hd.f_made_kinds (A : Hd K mg) : ∃ fd, FunD K "made_kinds" "made_kinds" (defArgs s_made_kinds) (defBody s_made_kinds) (defScope s_made_kinds) [] [] (He.ga K "made_kinds") fd := A.c.def_ 9 (d := d_made_kinds) rfl
theorem Hd.f_choices_of (A : Hd K mg) : ∃ fd, FunD K "choices_of" "choices_of" (defArgs s_choices_of) (defBody s_choices_of) (defScope s_choices_of) [] [] (He.ga K "choices_of") fd := A.c.def_ 10 (d := d_choices_of) rfl
theorem Hd.f_with_entries (A : Hd K mg) : ∃ fd, FunD K "with_entries" "with_entries" (defArgs s_with_entries) (defBody s_with_entries) (defScope s_with_entries) [] [] (He.ga K "with_entries") fd := A.c.def_ 11 (d := d_with_entries) rfl
theorem Hd.f_counted (A : Hd K mg) : ∃ fd, FunD K "counted" "counted" (defArgs s_counted) (defBody s_counted) (defScope s_counted) [] [] (He.ga K "counted") fd := A.c.def_ 12 (d := d_counted) rfl
theorem Hd.f_row_by (A : Hd K mg) : ∃ fd, FunD K "row_by" "row_by" (defArgs s_row_by) (defBody s_row_by) (defScope s_row_by) [] [] (He.ga K "row_by") fd := A.c.def_ 13 (d := d_row_by) rfl
theorem Hd.f_is_bad (A : Hd K mg) : ∃ fd, FunD K "is_bad" "is_bad" (defArgs s_is_bad) (defBody s_is_bad) (defScope s_is_bad) [] [] (He.ga K "is_bad") fd := A.c.def_ 14 (d := d_is_bad) rfl
theorem Hd.f_Rows_init (A : Hd K mg) : ∃ fd, FunD K "__init__" "Rows.__init__" (defArgs s_Rows_init) (defBody s_Rows_init) (defScope s_Rows_init) [] [] (He.ma K (He.ga K "Rows") "__init__") fd := A.c.def_ 15 (d := d_Rows_init) rfl
theorem Hd.f_Rows_offer (A : Hd K mg) : ∃ fd, FunD K "offer" "Rows.offer" (defArgs s_Rows_offer) (defBody s_Rows_offer) (defScope s_Rows_offer) [] [] (He.ma K (He.ga K "Rows") "offer") fd := A.c.def_ 16 (d := d_Rows_offer) rfl
theorem Hd.f_Rows_settle (A : Hd K mg) : ∃ fd, FunD K "settle" "Rows.settle" (defArgs s_Rows_settle) (defBody s_Rows_settle) (defScope s_Rows_settle) [] [] (He.ma K (He.ga K "Rows") "settle") fd := A.c.def_ 17 (d := d_Rows_settle) rfl
theorem Hd.f_harmed_by (A : Hd K mg) : ∃ fd, FunD K "harmed_by" "harmed_by" (defArgs s_harmed_by) (defBody s_harmed_by) (defScope s_harmed_by) [] [] (He.ga K "harmed_by") fd := A.c.def_ 18 (d := d_harmed_by) rfl
theorem Hd.f_harmed (A : Hd K mg) : ∃ fd, FunD K "harmed" "harmed" (defArgs s_harmed) (defBody s_harmed) (defScope s_harmed) [] [] (He.ga K "harmed") fd := A.c.def_ 19 (d := d_harmed) rfl
theorem Hd.f_numbers_of (A : Hd K mg) : ∃ fd, FunD K "numbers_of" "numbers_of" (defArgs s_numbers_of) (defBody s_numbers_of) (defScope s_numbers_of) [] [] (He.ga K "numbers_of") fd := A.c.def_ 20 (d := d_numbers_of) rfl
theorem Hd.f_lessened (A : Hd K mg) : ∃ fd, FunD K "lessened" "lessened" (defArgs s_lessened) (defBody s_lessened) (defScope s_lessened) [] [] (He.ga K "lessened") fd := A.c.def_ 21 (d := d_lessened) rfl
theorem Hd.f_with_row (A : Hd K mg) : ∃ fd, FunD K "with_row" "with_row" (defArgs s_with_row) (defBody s_with_row) (defScope s_with_row) [] [] (He.ga K "with_row") fd := A.c.def_ 22 (d := d_with_row) rfl
theorem Hd.f_signs_over (A : Hd K mg) : ∃ fd, FunD K "signs_over" "signs_over" (defArgs s_signs_over) (defBody s_signs_over) (defScope s_signs_over) [] [] (He.ga K "signs_over") fd := A.c.def_ 23 (d := d_signs_over) rfl
theorem Hd.f_basis_of (A : Hd K mg) : ∃ fd, FunD K "basis_of" "basis_of" (defArgs s_basis_of) (defBody s_basis_of) (defScope s_basis_of) [] [] (He.ga K "basis_of") fd := A.c.def_ 24 (d := d_basis_of) rfl
theorem Hd.f_unlike_many (A : Hd K mg) : ∃ fd, FunD K "unlike_many" "unlike_many" (defArgs s_unlike_many) (defBody s_unlike_many) (defScope s_unlike_many) [] [] (He.ga K "unlike_many") fd := A.c.def_ 25 (d := d_unlike_many) rfl
theorem Hd.f_l_bag (A : Hd K mg) : ∃ fd, FunD K "_law_bag" "_law_bag" (defArgs s_l_bag) (defBody s_l_bag) (defScope s_l_bag) [] [] (He.ga K "_law_bag") fd := A.c.def_ 26 (d := d_l_bag) rfl
theorem Hd.f_l_take (A : Hd K mg) : ∃ fd, FunD K "_law_take" "_law_take" (defArgs s_l_take) (defBody s_l_take) (defScope s_l_take) [] [] (He.ga K "_law_take") fd := A.c.def_ 27 (d := d_l_take) rfl
theorem Hd.f_l_some (A : Hd K mg) : ∃ fd, FunD K "_law_some" "_law_some" (defArgs s_l_some) (defBody s_l_some) (defScope s_l_some) [] [] (He.ga K "_law_some") fd := A.c.def_ 28 (d := d_l_some) rfl
theorem Hd.f_l_mixed (A : Hd K mg) : ∃ fd, FunD K "_law_mixed" "_law_mixed" (defArgs s_l_mixed) (defBody s_l_mixed) (defScope s_l_mixed) [] [] (He.ga K "_law_mixed") fd := A.c.def_ 29 (d := d_l_mixed) rfl
theorem Hd.f_l_alike (A : Hd K mg) : ∃ fd, FunD K "_law_alike" "_law_alike" (defArgs s_l_alike) (defBody s_l_alike) (defScope s_l_alike) [] [] (He.ga K "_law_alike") fd := A.c.def_ 30 (d := d_l_alike) rfl
theorem Hd.f_l_signs (A : Hd K mg) : ∃ fd, FunD K "_law_signs" "_law_signs" (defArgs s_l_signs) (defBody s_l_signs) (defScope s_l_signs) [] [] (He.ga K "_law_signs") fd := A.c.def_ 31 (d := d_l_signs) rfl
theorem Hd.f_l_entry (A : Hd K mg) : ∃ fd, FunD K "_law_entry" "_law_entry" (defArgs s_l_entry) (defBody s_l_entry) (defScope s_l_entry) [] [] (He.ga K "_law_entry") fd := A.c.def_ 32 (d := d_l_entry) rfl
theorem Hd.f_l_told (A : Hd K mg) : ∃ fd, FunD K "_law_told" "_law_told" (defArgs s_l_told) (defBody s_l_told) (defScope s_l_told) [] [] (He.ga K "_law_told") fd := A.c.def_ 33 (d := d_l_told) rfl
theorem Hd.f_l_any_table (A : Hd K mg) : ∃ fd, FunD K "_law_any_table" "_law_any_table" (defArgs s_l_any_table) (defBody s_l_any_table) (defScope s_l_any_table) [] [] (He.ga K "_law_any_table") fd := A.c.def_ 34 (d := d_l_any_table) rfl
theorem Hd.f_l_plain_table (A : Hd K mg) : ∃ fd, FunD K "_law_plain_table" "_law_plain_table" (defArgs s_l_plain_table) (defBody s_l_plain_table) (defScope s_l_plain_table) [] [] (He.ga K "_law_plain_table") fd := A.c.def_ 35 (d := d_l_plain_table) rfl
theorem Hd.f_l_chain_table (A : Hd K mg) : ∃ fd, FunD K "_law_chain_table" "_law_chain_table" (defArgs s_l_chain_table) (defBody s_l_chain_table) (defScope s_l_chain_table) [] [] (He.ga K "_law_chain_table") fd := A.c.def_ 36 (d := d_l_chain_table) rfl
theorem Hd.f_l_planted_table (A : Hd K mg) : ∃ fd, FunD K "_law_planted_table" "_law_planted_table" (defArgs s_l_planted_table) (defBody s_l_planted_table) (defScope s_l_planted_table) [] [] (He.ga K "_law_planted_table") fd := A.c.def_ 37 (d := d_l_planted_table) rfl
theorem Hd.f_l_table (A : Hd K mg) : ∃ fd, FunD K "_law_table" "_law_table" (defArgs s_l_table) (defBody s_l_table) (defScope s_l_table) [] [] (He.ga K "_law_table") fd := A.c.def_ 38 (d := d_l_table) rfl
theorem Hd.f_l_made (A : Hd K mg) : ∃ fd, FunD K "_law_made" "_law_made" (defArgs s_l_made) (defBody s_l_made) (defScope s_l_made) [] [] (He.ga K "_law_made") fd := A.c.def_ 39 (d := d_l_made) rfl
theorem Hd.f_l_size (A : Hd K mg) : ∃ fd, FunD K "_law_size" "_law_size" (defArgs s_l_size) (defBody s_l_size) (defScope s_l_size) [] [] (He.ga K "_law_size") fd := A.c.def_ 40 (d := d_l_size) rfl
theorem Hd.f_l_grown (A : Hd K mg) : ∃ fd, FunD K "_law_grown" "_law_grown" (defArgs s_l_grown) (defBody s_l_grown) (defScope s_l_grown) [] [] (He.ga K "_law_grown") fd := A.c.def_ 41 (d := d_l_grown) rfl
theorem Hd.f_l_program (A : Hd K mg) : ∃ fd, FunD K "_law_program" "_law_program" (defArgs s_l_program) (defBody s_l_program) (defScope s_l_program) [] [] (He.ga K "_law_program") fd := A.c.def_ 42 (d := d_l_program) rfl
theorem Hd.f_l_counts (A : Hd K mg) : ∃ fd, FunD K "_law_counts" "_law_counts" (defArgs s_l_counts) (defBody s_l_counts) (defScope s_l_counts) [] [] (He.ga K "_law_counts") fd := A.c.def_ 43 (d := d_l_counts) rfl
theorem Hd.f_l_more (A : Hd K mg) : ∃ fd, FunD K "_law_more" "_law_more" (defArgs s_l_more) (defBody s_l_more) (defScope s_l_more) [] [] (He.ga K "_law_more") fd := A.c.def_ 44 (d := d_l_more) rfl
theorem Hd.f_l_small_table (A : Hd K mg) : ∃ fd, FunD K "_law_small_table" "_law_small_table" (defArgs s_l_small_table) (defBody s_l_small_table) (defScope s_l_small_table) [] [] (He.ga K "_law_small_table") fd := A.c.def_ 45 (d := d_l_small_table) rfl
theorem Hd.f_l_led_numbers (A : Hd K mg) : ∃ fd, FunD K "_law_led_numbers" "_law_led_numbers" (defArgs s_l_led_numbers) (defBody s_l_led_numbers) (defScope s_l_led_numbers) [] [] (He.ga K "_law_led_numbers") fd := A.c.def_ 46 (d := d_l_led_numbers) rfl
theorem Hd.f_l_gcd (A : Hd K mg) : ∃ fd, FunD K "_law_gcd" "_law_gcd" (defArgs s_l_gcd) (defBody s_l_gcd) (defScope s_l_gcd) [] [] (He.ga K "_law_gcd") fd := A.c.def_ 47 (d := d_l_gcd) rfl
theorem Hd.f_l_less (A : Hd K mg) : ∃ fd, FunD K "_law_less" "_law_less" (defArgs s_l_less) (defBody s_l_less) (defScope s_l_less) [] [] (He.ga K "_law_less") fd := A.c.def_ 48 (d := d_l_less) rfl
theorem Hd.f_l_put_in (A : Hd K mg) : ∃ fd, FunD K "_law_put_in" "_law_put_in" (defArgs s_l_put_in) (defBody s_l_put_in) (defScope s_l_put_in) [] [] (He.ga K "_law_put_in") fd := A.c.def_ 49 (d := d_l_put_in) rfl
theorem Hd.f_l_span (A : Hd K mg) : ∃ fd, FunD K "_law_span" "_law_span" (defArgs s_l_span) (defBody s_l_span) (defScope s_l_span) [] [] (He.ga K "_law_span") fd := A.c.def_ 50 (d := d_l_span) rfl
theorem Hd.f_l_is_nothing_changed (A : Hd K mg) : ∃ fd, FunD K "_law_is_nothing_changed" "_law_is_nothing_changed" (defArgs s_l_is_nothing_changed) (defBody s_l_is_nothing_changed) (defScope s_l_is_nothing_changed) [] [] (He.ga K "_law_is_nothing_changed") fd := A.c.def_ 51 (d := d_l_is_nothing_changed) rfl
theorem Hd.f_l_are_more_seen (A : Hd K mg) : ∃ fd, FunD K "_law_are_more_seen" "_law_are_more_seen" (defArgs s_l_are_more_seen) (defBody s_l_are_more_seen) (defScope s_l_are_more_seen) [] [] (He.ga K "_law_are_more_seen") fd := A.c.def_ 52 (d := d_l_are_more_seen) rfl
theorem Hd.f_law (A : Hd K mg) : ∃ fd, FunD K "law" "law" (defArgs s_law) (defBody s_law) (defScope s_law) [] [] (He.ga K "law") fd := A.c.def_ 53 (d := d_law) rfl
end
end K56
set_option Elab.async false
set_option linter.all false
set_option maxRecDepth 100000
namespace K56
open PySem PySem.Spec PyProof.Rows L2
abbrev R : PySem.W.OpenRow := PySem.W.OpenLaw.row PySem.Challenge.rw_pinsenough_k56_whole_tables_beside_one_a
def loose1 : List PySem.Str := ["_wall", "PinError", "NoIndex", "TooMany", "is_integer", "is_below", "nodes_in", "Counted", "readings_many", "reading_by", "renumbered", "least_programs", "made_kinds", "MOST_ROWS", "choices_of", "with_entries", "counted", "row_by", "is_bad", "Rows", "harmed_by", "harmed", "numbers_of", "lessened", "with_row", "signs_over", "basis_of", "unlike_many", "_law_bag", "_law_take"]
def loose2 : List PySem.Str := ["_law_some", "_law_mixed", "_law_alike", "_law_signs", "_law_entry", "_law_told", "_law_any_table", "_law_plain_table", "_law_chain_table", "_law_planted_table", "_law_table", "_law_made", "_law_size", "_law_grown", "_law_program", "_law_counts", "_law_more", "_law_small_table", "_law_led_numbers", "_law_gcd", "_law_less", "_law_put_in", "_law_span", "_law_is_nothing_changed", "_law_are_more_seen"]
def loose : List PySem.Str := loose1 ++ loose2
abbrev hk : PySem.W.Hook := He.hookX 5 fa fn [] [("Rows", some "settle")] exB
def ob (s : PySem.W.SharedT) : He.AlX := He.obsX 5 fa fn [] [("Rows", some "settle")] exB (HandSHeadRun.getT s)
theorem ob_eq (s : PySem.W.SharedT) : ob s = hk.obs s.abs := He.obsX_eq (HandSHeadRun.getT_eq s)
set_option maxHeartbeats 0 in
theorem run (w : World) : HandSHeadRun.RunEq R (PySem.W.view R.prog [63]) hk ob 5000 loose w := by
  intro os
  kernel_rfl
end K56
set_option Elab.async false
set_option linter.all false
set_option maxRecDepth 100000
set_option maxHeartbeats 4000000
namespace K56
open PySem PySem.Spec PyProof.Rows L2

/-! ### immutable data -/
inductive D where
  | int (i : Int)
  | tup (l : List D)
mutual
inductive Rp (K : PySem.W.Frag) (H : Hp) : V → D → Prop where
  | int (i : Int) : Rp K H (.int i) (.int i)
  | tup {a : Addr} {vs : List V} {ds : List D} (h : SqT K H a vs) (r : RpL K H vs ds) : Rp K H (.ref a) (.tup ds)
inductive RpL (K : PySem.W.Frag) (H : Hp) : List V → List D → Prop where
  | nil : RpL K H [] []
  | cons {v : V} {d : D} {vs : List V} {ds : List D} (h : Rp K H v d) (t : RpL K H vs ds) : RpL K H (v :: vs) (d :: ds)
end
/-- every tuple stands as it stood -/
def Tu (H H' : Hp) : Prop := ∀ a xs, Rd H a (.tup xs) → Rd H' a (.tup xs)
theorem Tu.refl (H : Hp) : Tu H H := fun _ _ h => h
theorem Tu.trans {H H1 H2 : Hp} (a : Tu H H1) (b : Tu H1 H2) : Tu H H2 := fun x xs h => b x xs (a x xs h)
theorem tu_same {H H' : Hp} (e : Same H H') : Tu H H' := fun a xs h => by
  rcases h with h | ⟨o, h⟩
  · exact .inl (e _ _ h)
  · exact .inr ⟨o, e _ _ h⟩
theorem Tu.sq {K : PySem.W.Frag} {H H' : Hp} {a : Addr} {xs : List V} (e : Tu H H') (h : SqT K H a xs) : SqT K H' a xs := by
  rcases h with h | h
  · exact .inl (e _ _ h)
  · exact .inr h
/-- what is no tuple -/
def noTup : HO → Bool
  | .tup _ => false
  | .frz _ (.tup _) => false
  | _ => true
theorem tu_upd {H : Hp} {a : Addr} {o u : HO} (h : H a = some o) (hn : noTup o = true) : Tu H (upd H a u) := fun b xs r => by
  by_cases e : b = a
  · subst e
    rcases r with r | ⟨z, r⟩
    · rw [h] at r; cases r; cases hn
    · rw [h] at r; cases r; cases hn
  · rcases r with r | ⟨z, r⟩
    · exact .inl (by rw [upd_ne e]; exact r)
    · exact .inr ⟨z, by rw [upd_ne e]; exact r⟩
theorem same_new {H : Hp} {p : Addr} {o : HO} (h : H p = none) : Same H (upd H p o) := fun a u e => by
  rw [upd_ne (ne_of_none e h)]
  exact e
theorem tu_new {H : Hp} {p : Addr} {o : HO} (h : H p = none) : Tu H (upd H p o) := tu_same (same_new h)
/-- an object that the elder heap does not know may change -/
theorem same_mut {H H' : Hp} {p : Addr} {o : HO} (e : Same H H') (h : H p = none) : Same H (upd H' p o) := fun a u ha => by
  rw [upd_ne (ne_of_none ha h)]
  exact e a u ha
mutual
theorem Rp.mono {K : PySem.W.Frag} {H H' : Hp} (e : Tu H H') : ∀ {v : V} {d : D}, Rp K H v d → Rp K H' v d
  | _, _, .int i => .int i
  | _, _, .tup h r => .tup (e.sq h) (RpL.mono e r)
theorem RpL.mono {K : PySem.W.Frag} {H H' : Hp} (e : Tu H H') : ∀ {vs : List V} {ds : List D}, RpL K H vs ds → RpL K H' vs ds
  | _, _, .nil => .nil
  | _, _, .cons h t => .cons (Rp.mono e h) (RpL.mono e t)
end
section
variable {K : PySem.W.Frag} {H : Hp} {v : V} {vs ws : List V} {d : D} {ds es : List D} {a p : Addr}
theorem Rp.int_inv {i : Int} (r : Rp K H v (.int i)) : v = .int i := by cases r; rfl
theorem Rp.tup_inv (r : Rp K H v (.tup ds)) : ∃ a vs, v = .ref a ∧ SqT K H a vs ∧ RpL K H vs ds := by
  cases r with
  | tup h r => exact ⟨_, _, rfl, h, r⟩
theorem RpL.length : ∀ {vs : List V} {ds : List D}, RpL K H vs ds → vs.length = ds.length
  | _, _, .nil => rfl
  | _, _, .cons _ t => congrArg Nat.succ t.length
theorem RpL.get : ∀ {vs : List V} {ds : List D} {i : Nat} {d : D}, RpL K H vs ds → ds[i]? = some d → ∃ v, vs[i]? = some v ∧ Rp K H v d
  | _, _, _, _, .nil, e => by simp at e
  | _, _, 0, _, .cons r _, e => by simp at e; subst e; exact ⟨_, rfl, r⟩
  | _, _, i + 1, d, .cons _ t, e => by
    obtain ⟨v, h1, h2⟩ := RpL.get (i := i) (d := d) t (by simpa using e)
    exact ⟨v, by simpa using h1, h2⟩
theorem RpL.get' : ∀ {vs : List V} {ds : List D} {i : Nat} {v : V}, RpL K H vs ds → vs[i]? = some v → ∃ d, ds[i]? = some d ∧ Rp K H v d
  | _, _, _, _, .nil, e => by simp at e
  | _, _, 0, _, .cons r _, e => by simp at e; subst e; exact ⟨_, rfl, r⟩
  | _, _, i + 1, v, .cons _ t, e => by
    obtain ⟨d, h1, h2⟩ := RpL.get' (i := i) (v := v) t (by simpa using e)
    exact ⟨d, by simpa using h1, h2⟩
theorem RpL.app : ∀ {vs : List V} {ds : List D} {ws : List V} {es : List D}, RpL K H vs ds → RpL K H ws es → RpL K H (vs ++ ws) (ds ++ es)
  | _, _, _, _, .nil, s => s
  | _, _, _, _, .cons r t, s => .cons r (RpL.app t s)
theorem RpL.one (r : Rp K H v d) : RpL K H [v] [d] := .cons r .nil
theorem RpL.snoc (s : RpL K H vs ds) (r : Rp K H v d) : RpL K H (vs ++ [v]) (ds ++ [d]) := s.app (.one r)
theorem RpL.take : ∀ {vs : List V} {ds : List D} (n : Nat), RpL K H vs ds → RpL K H (vs.take n) (ds.take n)
  | _, _, 0, _ => .nil
  | _, _, _ + 1, .nil => .nil
  | _, _, n + 1, .cons r t => .cons r (RpL.take n t)
theorem RpL.drop : ∀ {vs : List V} {ds : List D} (n : Nat), RpL K H vs ds → RpL K H (vs.drop n) (ds.drop n)
  | _, _, 0, r => r
  | _, _, _ + 1, .nil => .nil
  | _, _, n + 1, .cons _ t => RpL.drop n t
theorem RpL.rev : ∀ {vs : List V} {ds : List D}, RpL K H vs ds → RpL K H vs.reverse ds.reverse
  | _, _, .nil => .nil
  | _, _, .cons r t => by rw [List.reverse_cons, List.reverse_cons]; exact (RpL.rev t).snoc r
theorem RpL.ints : ∀ (ns : List Int), RpL K H (ns.map V.int) (ns.map D.int)
  | [] => .nil
  | n :: ns => .cons (.int n) (RpL.ints ns)
theorem RpL.ints_inv : ∀ {ns : List Int} {vs : List V}, RpL K H vs (ns.map D.int) → vs = ns.map V.int
  | [], _, r => by cases r; rfl
  | n :: ns, _, .cons h t => by rw [h.int_inv, t.ints_inv]; rfl
theorem rp_new (hn : H p = none) (r : RpL K H vs ds) : Rp K (upd H p (.tup vs)) (.ref p) (.tup ds) := .tup (.of upd_same) (r.mono (tu_new hn))
theorem rp_of (h : H p = some (.tup vs)) (r : RpL K H vs ds) : Rp K H (.ref p) (.tup ds) := .tup (.of h) r
end
/-! ### a def that is called by its name -/
structure Cl (P : Program) (w : World) (K : PySem.W.Frag) (mg : Str → Option Value) (base : Heap) (x : Str) (ps : List Str) (k : Nat) (sp : Sp) : Prop where
  ex : ∃ f fd, mg x = some (.ref f) ∧ FnOk P w K mg base CX0 k f fd ps sp ∧ PySem.W.keepIn K (.ref f) = true ∧ Binds K fd ps []
theorem Cl.mono {P : Program} {w : World} {K : PySem.W.Frag} {mg : Str → Option Value} {base : Heap} {x : Str} {ps : List Str} {j k : Nat} {sp : Sp} (c : Cl P w K mg base x ps j sp) (h : j ≤ k) : Cl P w K mg base x ps k sp := by
  obtain ⟨f, fd, h1, h2, h3, h4⟩ := c.ex
  exact ⟨f, fd, h1, h2.mono h, h3, h4⟩
theorem Cl.imp {P : Program} {w : World} {K : PySem.W.Frag} {mg : Str → Option Value} {base : Heap} {x : Str} {ps : List Str} {k : Nat} {sp sp' : Sp} (c : Cl P w K mg base x ps k sp) (h : ∀ vs H Q E, sp' vs H Q E → sp vs H Q E) : Cl P w K mg base x ps k sp' := by
  obtain ⟨f, fd, h1, h2, h3, h4⟩ := c.ex
  exact ⟨f, fd, h1, h2.imp h, h3, h4⟩
theorem pe_cl {X : Cx} {x : Str} {ps : List Str} {k : Nat} {sp : Sp} {p pos : Pos} {e : Expr} {es : List Expr} {t : TA} (C : Cl X.prog X.w X.K X.mg X.base x ps k sp) (hr : Room k X.A) (hg : Gl X x) (ha : PA X (e :: es) t)
    (hd : (x == ("__debug__" : Str)) = false := by decide) (hst : starEach (e :: es) X.env = (false, eval e X.env) :: starEach es X.env := by rfl) (hpl : (backTo pos (starEach es X.env)).any (·.1) = false := by rfl) : PE X (.Call (.Name x p) (e :: es) [] pos) (tCall sp [] E0 t) := by
  obtain ⟨f, fd, hm, F, hk, hb⟩ := C.ex
  exact pe_call F hr hg hm hk hb .nil pass0 ha hd hst hpl
theorem Cl.of {P : Program} {w : World} {K : PySem.W.Frag} {mg : Str → Option Value} {base : Heap} {x : Str} {ps N : List Str} {k : Nat} {sp : Sp} {f : Addr} {fd : FuncData} {st : Stmt} (F : FunD K x x (defArgs st) (defBody st) (defScope st) [] [] f fd) (hm : mg x = some (.ref f)) (S : FnScope N ps (defScope st))
    (hb : ∀ (kV doc pm : Value) (an : Option Addr) (cdv ct : Value) (us : List Value), us.length = ps.length → bindArgs (PySem.W.fnOf x x (defArgs st) (defBody st) (defScope st) .none kV doc pm an cdv ct) ⟨us, []⟩ = pure (ps.zip us))
    (len : ∀ vs H Q E, sp vs H Q E → vs.length = ps.length)
    (hbody : ∀ (cdv : Value) (A : Around) (outer : List Env) (s : Shared) (H : Hp) (vs : List V) (Q : VK) (E : XK), Room k (A.deeper (envOfC x (defScope st) s.heap.objs.size f cdv)) → sp vs H Q E →
      ∃ t, PSs (cxOf CX0 P w K mg base N x (defScope st) f cdv A outer s H E).nox (defBody st) t ∧ t { nx := fun _ H' => Q .non H', rt := Q } (start N vs) H) : Cl P w K mg base x ps (k + 1) sp := by
  refine ⟨f, fd, hm, F.ok S len (fun cdv A outer s H vs Q E hr h => ?_), F.kp, F.bindsN hb⟩
  obtain ⟨t, h1, h2⟩ := hbody cdv A outer s H vs Q E hr h
  exact ⟨t, h1.nox, h2⟩
end K56
set_option Elab.async false
set_option linter.all false
set_option maxRecDepth 100000
set_option maxHeartbeats 4000000
namespace K56
open PySem PySem.Spec PyProof.Rows L2
theorem hu64 {A : Around} {k : Nat} (hr : Room k A) : A.units + 64 < cLine := hr.units
theorem sz0 : 0 ≤ sizeLine := Nat.zero_le _
theorem sz1 : 1 ≤ sizeLine := by decide
theorem sz2 : 2 ≤ sizeLine := by decide
theorem sz3 : 3 ≤ sizeLine := by decide
theorem sz4 : 4 ≤ sizeLine := by decide
theorem sz5 : 5 ≤ sizeLine := by decide
theorem sz6 : 6 ≤ sizeLine := by decide
def rGetL (K : PySem.W.Frag) : V → V → Hp → VK → Prop := fun x y H Q => ∃ (p : Addr) (xs : List V) (j : Nat) (v : V), x = .ref p ∧ y = .int (j : Int) ∧ SqL K H p xs ∧ xs[j]? = some v ∧ Q v H
theorem get_list {X : Cx} : PGet X (rGetL X.K) := by
  intro pins s σ H o i ov iv Q I r1 r2 h
  obtain ⟨p, xs, j, v, rfl, rfl, hq, he, q⟩ := h
  cases r1
  obtain ⟨t, rfl⟩ := r2
  obtain ⟨its, r, pl, hz⟩ := I.list hq
  obtain ⟨w, ew, rw'⟩ := r.get he
  have hn := line63
  have hl : j < xs.length := (List.getElem?_eq_some_iff.mp he).1
  exact wpAny_getItem_list pl.isList (Int.natCast_nonneg j) (by omega) (by simpa using ew) ⟨v, H, I, rw', q⟩
/-- a statement, then the rest, from a word between them -/
def tMid (t u : TS) : TS := fun D σ H => ∃ Mid : L2.St → Hp → Prop, t { D with nx := Mid } σ H ∧ ∀ σ' H', Mid σ' H' → u D σ' H'
theorem pss_mid {X : Cx} {st : Stmt} {rest : List Stmt} {t u : TS} (h1 : PS X st t) (h2 : PSs X rest u) : PSs X (st :: rest) (tMid t u) := by
  refine ⟨fun pins s σ H D I h => ?_⟩
  obtain ⟨Mid, hm, hu⟩ := h
  refine wpAny_execs_cons (thn (h1.run pins s σ H { D with nx := Mid } I hm) fun f s1 q => ?_)
  cases f with
  | next =>
    obtain ⟨σ', H', I', q⟩ := q
    exact h2.run pins s1 σ' H' D I' (hu σ' H' q)
  | _ => exact q
/-! ### comprehensions: the readings of the block's parts may name its context, as long as they are one -/
section
variable {X : Cx} {elt tg iter tg1 iter1 kx vx : Expr} {ifs ifs1 : List Expr} {scope : Scope} {own : List (Str × Nat)} {vs1 : List Nat} {pos spos py : Pos} {wi : TI} {i : Nat} {y : Str}
  {g g1 : Shared → Hp → Addr → List (Str × Addr) → List Addr → TG} {tt tt1 : Shared → Hp → Addr → List (Str × Addr) → List Addr → TT} {te tk tv : Shared → Hp → Addr → List (Str × Addr) → List Addr → TE} {wi1 : Shared → Hp → Addr → List (Str × Addr) → List Addr → TI}
abbrev one5 {α : Type} (X : Cx) (f : Shared → Hp → Addr → List (Str × Addr) → List Addr → α) : α := f X.s_0 X.H_0 0 [] []
theorem pe_lcF (hc : X.calm = true) (hN : X.N.Nodup) (hi : PI X tg iter wi) (ok : BlkOk X.N X.env.scope scope own)
    (hg : ∀ s H C cl fp, PG (X.blk s H scope (compEnvC scope cl C X.env) fp) tg (g s H C cl fp)) (ht : ∀ s H C cl fp, PTs (X.blk s H scope (compEnvC scope cl C X.env) fp) ifs (tt s H C cl fp))
    (he : ∀ s H C cl fp, PE (X.blk s H scope (compEnvC scope cl C X.env) fp) elt (te s H C cl fp))
    (eg : ∀ s H C cl fp, g s H C cl fp = one5 X g := by intros; rfl) (et : ∀ s H C cl fp, tt s H C cl fp = one5 X tt := by intros; rfl) (ee : ∀ s H C cl fp, te s H C cl fp = one5 X te := by intros; rfl)
    (hs : ∀ x, foldedSetIterable iter X.env x = pure x := by intro _; rfl) : PE X (.ListComp elt [⟨tg, iter, ifs, 0⟩] scope pos) (tLc wi (one5 X g) (one5 X tt) (one5 X te) (own.map (·.2))) :=
  pe_lc hc hN hi ok (fun s H C cl fp => eg s H C cl fp ▸ hg s H C cl fp) (fun s H C cl fp => et s H C cl fp ▸ ht s H C cl fp) (fun s H C cl fp => ee s H C cl fp ▸ he s H C cl fp) hs
theorem ps_setLcF (hc : X.calm = true) (hN : X.N.Nodup) (hy : X.N[i]? = some y) (hyl : X.env.scope.names.lookup y = some .local)
    (hsw : swapsWith (.ListComp elt [⟨tg, iter, ifs, 0⟩] scope pos) (some (.Name y py)) spos.line X.env = pure true) (hi : PI X tg iter wi) (ok : BlkOk X.N X.env.scope scope own)
    (hg : ∀ s H C cl fp, PG (X.blk s H scope (compEnvC scope cl C X.env) fp) tg (g s H C cl fp)) (ht : ∀ s H C cl fp, PTs (X.blk s H scope (compEnvC scope cl C X.env) fp) ifs (tt s H C cl fp))
    (he : ∀ s H C cl fp, PE (X.blk s H scope (compEnvC scope cl C X.env) fp) elt (te s H C cl fp))
    (eg : ∀ s H C cl fp, g s H C cl fp = one5 X g := by intros; rfl) (et : ∀ s H C cl fp, tt s H C cl fp = one5 X tt := by intros; rfl) (ee : ∀ s H C cl fp, te s H C cl fp = one5 X te := by intros; rfl)
    (hs : ∀ x, foldedSetIterable iter X.env x = pure x := by intro _; rfl) : PS X (.Assign [.Name y py] (.ListComp elt [⟨tg, iter, ifs, 0⟩] scope pos) spos) (tAsg (tLc wi (one5 X g) (one5 X tt) (one5 X te) (own.map (·.2))) (gName i)) :=
  ps_setLc hc hN hy hyl hsw hi ok (fun s H C cl fp => eg s H C cl fp ▸ hg s H C cl fp) (fun s H C cl fp => et s H C cl fp ▸ ht s H C cl fp) (fun s H C cl fp => ee s H C cl fp ▸ he s H C cl fp) hs
theorem pe_lc2F (hc : X.calm = true) (hN : X.N.Nodup) (hi : PI X tg iter wi) (ok : BlkOk X.N X.env.scope scope own) (hv : ∀ i ∈ vs1, i ∈ own.map (·.2))
    (hg : ∀ s H C cl fp, PG (X.blk s H scope (compEnvC scope cl C X.env) fp) tg (g s H C cl fp)) (ht : ∀ s H C cl fp, PTs (X.blk s H scope (compEnvC scope cl C X.env) fp) ifs (tt s H C cl fp))
    (hi1 : ∀ s H C cl fp, PI (X.blk s H scope (compEnvC scope cl C X.env) fp) tg1 iter1 (wi1 s H C cl fp)) (hg1 : ∀ s H C cl fp, PG (X.blk s H scope (compEnvC scope cl C X.env) fp) tg1 (g1 s H C cl fp)) (ht1 : ∀ s H C cl fp, PTs (X.blk s H scope (compEnvC scope cl C X.env) fp) ifs1 (tt1 s H C cl fp))
    (he : ∀ s H C cl fp, PE (X.blk s H scope (compEnvC scope cl C X.env) fp) elt (te s H C cl fp))
    (eg : ∀ s H C cl fp, g s H C cl fp = one5 X g := by intros; rfl) (et : ∀ s H C cl fp, tt s H C cl fp = one5 X tt := by intros; rfl) (ew : ∀ s H C cl fp, wi1 s H C cl fp = one5 X wi1 := by intros; rfl) (eg1 : ∀ s H C cl fp, g1 s H C cl fp = one5 X g1 := by intros; rfl) (et1 : ∀ s H C cl fp, tt1 s H C cl fp = one5 X tt1 := by intros; rfl) (ee : ∀ s H C cl fp, te s H C cl fp = one5 X te := by intros; rfl)
    (hs : ∀ x, foldedSetIterable iter X.env x = pure x := by intro _; rfl) (hs1 : ∀ env x, foldedSetIterable iter1 env x = pure x := by intro _ _; rfl) : PE X (.ListComp elt [⟨tg, iter, ifs, 0⟩, ⟨tg1, iter1, ifs1, 0⟩] scope pos) (tLc2 wi (one5 X g) (one5 X tt) (one5 X wi1) (one5 X g1) (one5 X tt1) (one5 X te) (own.map (·.2)) vs1) :=
  pe_lc2 hc hN hi ok hv (fun s H C cl fp => eg s H C cl fp ▸ hg s H C cl fp) (fun s H C cl fp => et s H C cl fp ▸ ht s H C cl fp) (fun s H C cl fp => ew s H C cl fp ▸ hi1 s H C cl fp) (fun s H C cl fp => eg1 s H C cl fp ▸ hg1 s H C cl fp) (fun s H C cl fp => et1 s H C cl fp ▸ ht1 s H C cl fp) (fun s H C cl fp => ee s H C cl fp ▸ he s H C cl fp) hs hs1
theorem ps_setLc2F (hc : X.calm = true) (hN : X.N.Nodup) (hy : X.N[i]? = some y) (hyl : X.env.scope.names.lookup y = some .local)
    (hsw : swapsWith (.ListComp elt [⟨tg, iter, ifs, 0⟩, ⟨tg1, iter1, ifs1, 0⟩] scope pos) (some (.Name y py)) spos.line X.env = pure true) (hi : PI X tg iter wi) (ok : BlkOk X.N X.env.scope scope own) (hv : ∀ i ∈ vs1, i ∈ own.map (·.2))
    (hg : ∀ s H C cl fp, PG (X.blk s H scope (compEnvC scope cl C X.env) fp) tg (g s H C cl fp)) (ht : ∀ s H C cl fp, PTs (X.blk s H scope (compEnvC scope cl C X.env) fp) ifs (tt s H C cl fp))
    (hi1 : ∀ s H C cl fp, PI (X.blk s H scope (compEnvC scope cl C X.env) fp) tg1 iter1 (wi1 s H C cl fp)) (hg1 : ∀ s H C cl fp, PG (X.blk s H scope (compEnvC scope cl C X.env) fp) tg1 (g1 s H C cl fp)) (ht1 : ∀ s H C cl fp, PTs (X.blk s H scope (compEnvC scope cl C X.env) fp) ifs1 (tt1 s H C cl fp))
    (he : ∀ s H C cl fp, PE (X.blk s H scope (compEnvC scope cl C X.env) fp) elt (te s H C cl fp))
    (eg : ∀ s H C cl fp, g s H C cl fp = one5 X g := by intros; rfl) (et : ∀ s H C cl fp, tt s H C cl fp = one5 X tt := by intros; rfl) (ew : ∀ s H C cl fp, wi1 s H C cl fp = one5 X wi1 := by intros; rfl) (eg1 : ∀ s H C cl fp, g1 s H C cl fp = one5 X g1 := by intros; rfl) (et1 : ∀ s H C cl fp, tt1 s H C cl fp = one5 X tt1 := by intros; rfl) (ee : ∀ s H C cl fp, te s H C cl fp = one5 X te := by intros; rfl)
    (hs : ∀ x, foldedSetIterable iter X.env x = pure x := by intro _; rfl) (hs1 : ∀ env x, foldedSetIterable iter1 env x = pure x := by intro _ _; rfl) : PS X (.Assign [.Name y py] (.ListComp elt [⟨tg, iter, ifs, 0⟩, ⟨tg1, iter1, ifs1, 0⟩] scope pos) spos) (tAsg (tLc2 wi (one5 X g) (one5 X tt) (one5 X wi1) (one5 X g1) (one5 X tt1) (one5 X te) (own.map (·.2)) vs1) (gName i)) :=
  ps_setLc2 hc hN hy hyl hsw hi ok hv (fun s H C cl fp => eg s H C cl fp ▸ hg s H C cl fp) (fun s H C cl fp => et s H C cl fp ▸ ht s H C cl fp) (fun s H C cl fp => ew s H C cl fp ▸ hi1 s H C cl fp) (fun s H C cl fp => eg1 s H C cl fp ▸ hg1 s H C cl fp) (fun s H C cl fp => et1 s H C cl fp ▸ ht1 s H C cl fp) (fun s H C cl fp => ee s H C cl fp ▸ he s H C cl fp) hs hs1
theorem pe_dcF (hc : X.calm = true) (hN : X.N.Nodup) (hi : PI X tg iter wi) (ok : BlkOk X.N X.env.scope scope own)
    (hg : ∀ s H C cl fp, PG (X.blk s H scope (compEnvC scope cl C X.env) fp) tg (g s H C cl fp)) (ht : ∀ s H C cl fp, PTs (X.blk s H scope (compEnvC scope cl C X.env) fp) ifs (tt s H C cl fp))
    (hk : ∀ s H C cl fp, PE (X.blk s H scope (compEnvC scope cl C X.env) fp) kx (tk s H C cl fp)) (he : ∀ s H C cl fp, PE (X.blk s H scope (compEnvC scope cl C X.env) fp) vx (tv s H C cl fp))
    (eg : ∀ s H C cl fp, g s H C cl fp = one5 X g := by intros; rfl) (et : ∀ s H C cl fp, tt s H C cl fp = one5 X tt := by intros; rfl) (ek : ∀ s H C cl fp, tk s H C cl fp = one5 X tk := by intros; rfl) (ev : ∀ s H C cl fp, tv s H C cl fp = one5 X tv := by intros; rfl)
    (hs : ∀ x, foldedSetIterable iter X.env x = pure x := by intro _; rfl) : PE X (.DictComp kx vx [⟨tg, iter, ifs, 0⟩] scope pos) (tDc wi (one5 X g) (one5 X tt) (one5 X tk) (one5 X tv) (own.map (·.2))) :=
  pe_dc hc hN hi ok (fun s H C cl fp => eg s H C cl fp ▸ hg s H C cl fp) (fun s H C cl fp => et s H C cl fp ▸ ht s H C cl fp) (fun s H C cl fp => ek s H C cl fp ▸ hk s H C cl fp) (fun s H C cl fp => ev s H C cl fp ▸ he s H C cl fp) hs
end
end K56
set_option Elab.async false
set_option linter.all false
set_option maxRecDepth 100000
set_option maxHeartbeats 4000000
namespace K56
open PySem PySem.Spec PyProof.Rows L2
/-! ### entries, tables, programs: plain data -/
structure En where
  sign : Nat
  parts : List Nat
  kind : Nat
  deriving DecidableEq
structure Tb where
  many : Nat
  signs : List Nat
  ents : List En
inductive Pg where
  | n0 (s : Nat)
  | n1 (s : Nat) (p : Pg)
  | n2 (s : Nat) (p q : Pg)
  deriving DecidableEq
def natD (l : List Nat) : D := .tup (l.map fun (n : Nat) => D.int (n : Int))
def En.d (e : En) : D := .tup [.int (e.sign : Int), natD e.parts, .int (e.kind : Int)]
def Tb.d (t : Tb) : D := .tup [.int (t.many : Int), natD t.signs, .tup (t.ents.map En.d)]
def Pg.sign : Pg → Nat
  | .n0 s => s
  | .n1 s _ => s
  | .n2 s _ _ => s
def Pg.parts : Pg → List Pg
  | .n0 _ => []
  | .n1 _ p => [p]
  | .n2 _ p q => [p, q]
def mkP (s : Nat) : List Pg → Pg
  | [] => .n0 s
  | [p] => .n1 s p
  | p :: q :: _ => .n2 s p q
theorem mkP_parts (p : Pg) : mkP p.sign p.parts = p := by cases p <;> rfl
def Pg.d : Pg → D
  | .n0 s => .tup [.int (s : Int)]
  | .n1 s p => .tup [.int (s : Int), p.d]
  | .n2 s p q => .tup [.int (s : Int), p.d, q.d]
theorem Pg.d_eq (p : Pg) : p.d = .tup (.int (p.sign : Int) :: p.parts.map Pg.d) := by cases p <;> rfl
def Pg.size : Pg → Nat
  | .n0 _ => 1
  | .n1 _ p => 1 + p.size
  | .n2 _ p q => 1 + (p.size + q.size)
def Pg.height : Pg → Nat
  | .n0 _ => 0
  | .n1 _ p => p.height + 1
  | .n2 _ p q => max p.height q.height + 1
theorem Pg.size_pos (p : Pg) : 0 < p.size := by cases p <;> simp only [Pg.size] <;> omega
theorem Pg.height_lt : ∀ p : Pg, p.height < p.size
  | .n0 _ => by simp [Pg.size, Pg.height]
  | .n1 _ p => by have := p.height_lt; simp only [Pg.size, Pg.height]; omega
  | .n2 _ p q => by have := p.height_lt; have := q.height_lt; simp only [Pg.size, Pg.height]; omega
/-- the program is one of these signs -/
def Pg.ok (signs : List Nat) : Pg → Prop
  | .n0 s => signs[s]? = some 0
  | .n1 s p => signs[s]? = some 1 ∧ p.ok signs
  | .n2 s p q => signs[s]? = some 2 ∧ p.ok signs ∧ q.ok signs
structure En.ok (many : Nat) (signs : List Nat) (e : En) : Prop where
  ar : signs[e.sign]? = some e.parts.length
  ps : ∀ p ∈ e.parts, p < many
  kd : e.kind < many
structure Tb.ok (t : Tb) : Prop where
  m1 : 1 ≤ t.many
  m4 : t.many ≤ 4
  sg : ∀ s ∈ t.signs, s ≤ 2
  s6 : t.signs.length ≤ 6
  en : ∀ e ∈ t.ents, e.ok t.many t.signs
  e31 : t.ents.length ≤ 31
/-! ### numbers of readings -/
/-- the product of what parts have -/
def wayP : List (Nat → Nat) → List Nat → Nat
  | v :: vs, k :: ks => v k * wayP vs ks
  | _, _ => 1
/-- a sign over parts with such numbers -/
def led (es : List En) (s : Nat) (vs : List (Nat → Nat)) (k : Nat) : Nat :=
  ((es.filter fun e => e.sign == s && e.kind == k).map fun e => wayP vs e.parts).sum
def cnt (es : List En) : Pg → Nat → Nat
  | .n0 s => led es s []
  | .n1 s p => led es s [cnt es p]
  | .n2 s p q => led es s [cnt es p, cnt es q]
theorem cnt_eq (es : List En) (p : Pg) : cnt es p = led es p.sign (p.parts.map (cnt es)) := by cases p <;> rfl
/-- as a row -/
def cntL (t : Tb) (p : Pg) : List Nat := (List.range t.many).map (cnt t.ents p)
theorem cntL_length (t : Tb) (p : Pg) : (cntL t p).length = t.many := by unfold cntL; rw [List.length_map, List.length_range]
theorem cntL_get (t : Tb) (p : Pg) {k : Nat} (h : k < t.many) : (cntL t p)[k]? = some (cnt t.ents p k) := by
  unfold cntL
  rw [List.getElem?_map, List.getElem?_range h]; rfl
theorem led_nil (s : Nat) (vs : List (Nat → Nat)) (k : Nat) : led [] s vs k = 0 := rfl
theorem led_snoc (es : List En) (e : En) (s : Nat) (vs : List (Nat → Nat)) (k : Nat) : led (es ++ [e]) s vs k = led es s vs k + (if e.sign = s ∧ e.kind = k then wayP vs e.parts else 0) := by
  unfold led
  rw [List.filter_append, List.map_append, List.sum_append]
  congr 1
  by_cases h : e.sign = s ∧ e.kind = k
  · obtain ⟨h1, h2⟩ := h
    simp [h1, h2]
  · rw [if_neg h]
    have : (e.sign == s && e.kind == k) = false := by
      rw [Bool.and_eq_false_iff]
      by_cases h1 : e.sign = s
      · exact .inr (by simpa using fun h2 => h ⟨h1, h2⟩)
      · exact .inl (by simpa using h1)
    simp [this]
/-! ### nodes -/
def shiftN (b : Nat) (l : List (Nat × List Nat)) : List (Nat × List Nat) := l.map fun x => (x.1, x.2.map (b + ·))
def nodesOf : Pg → List (Nat × List Nat)
  | .n0 s => [(s, [])]
  | .n1 s p => (s, [1]) :: shiftN 1 (nodesOf p)
  | .n2 s p q => (s, [1, 1 + (nodesOf p).length]) :: (shiftN 1 (nodesOf p) ++ shiftN (1 + (nodesOf p).length) (nodesOf q))
def nodeD (x : Nat × List Nat) : D := .tup [.int (x.1 : Int), natD x.2]
theorem shiftN_length (b : Nat) (l : List (Nat × List Nat)) : (shiftN b l).length = l.length := by unfold shiftN; rw [List.length_map]
theorem nodesOf_length : ∀ p : Pg, (nodesOf p).length = p.size
  | .n0 _ => rfl
  | .n1 _ p => by simp only [nodesOf, List.length_cons, shiftN_length, Pg.size, nodesOf_length p]; omega
  | .n2 _ p q => by simp only [nodesOf, List.length_cons, List.length_append, shiftN_length, Pg.size, nodesOf_length p, nodesOf_length q]; omega
/-- the programs at the nodes -/
def progsOf : Pg → List Pg
  | .n0 s => [.n0 s]
  | .n1 s p => .n1 s p :: progsOf p
  | .n2 s p q => .n2 s p q :: (progsOf p ++ progsOf q)
theorem progsOf_length : ∀ p : Pg, (progsOf p).length = p.size
  | .n0 _ => rfl
  | .n1 _ p => by simp only [progsOf, List.length_cons, Pg.size, progsOf_length p]; omega
  | .n2 _ p q => by simp only [progsOf, List.length_cons, List.length_append, Pg.size, progsOf_length p, progsOf_length q]; omega
theorem progsOf_head (p : Pg) : (progsOf p)[0]? = some p := by cases p <;> rfl
/-- a node tells its program's sign and, by later places, its parts -/
def NodeOk (qs : List Pg) (i : Nat) (x : Nat × List Nat) (p : Pg) : Prop := x.1 = p.sign ∧ x.2.length = p.parts.length ∧ ∀ (j : Nat) (a : Nat), x.2[j]? = some a → i < a ∧ ∃ q, p.parts[j]? = some q ∧ qs[a]? = some q
theorem nodeOk_shift {qs : List Pg} {i b : Nat} {x : Nat × List Nat} {p : Pg} {rs : List Pg} (h : NodeOk qs i x p) (hr : ∀ a q, qs[a]? = some q → rs[b + a]? = some q) : NodeOk rs (b + i) (x.1, x.2.map (b + ·)) p := by
  obtain ⟨h1, h2, h3⟩ := h
  refine ⟨h1, by rw [List.length_map]; exact h2, fun j a e => ?_⟩
  rw [List.getElem?_map] at e
  cases e2 : x.2[j]? with
  | none => rw [e2] at e; cases e
  | some a' =>
    rw [e2] at e
    have e3 : b + a' = a := Option.some.inj e
    obtain ⟨l, q, q1, q2⟩ := h3 j a' e2
    exact ⟨by omega, q, q1, by rw [← e3]; exact hr a' q q2⟩
theorem nodes_progs : ∀ (p : Pg) (i : Nat) (x : Nat × List Nat), (nodesOf p)[i]? = some x → ∃ r, (progsOf p)[i]? = some r ∧ NodeOk (progsOf p) i x r
  | .n0 s, i, x, h => by
    cases i with
    | zero =>
      have e : (s, []) = x := Option.some.inj h
      subst e
      exact ⟨_, rfl, rfl, rfl, fun j a q => by simp at q⟩
    | succ i => simp [nodesOf] at h
  | .n1 s p, i, x, h => by
    cases i with
    | zero =>
      have e : (s, [1]) = x := Option.some.inj h
      subst e
      refine ⟨_, rfl, rfl, rfl, fun j a q => ?_⟩
      cases j with
      | zero =>
        have e : 1 = a := Option.some.inj q
        subst e
        exact ⟨by omega, p, rfl, progsOf_head p⟩
      | succ j => simp at q
    | succ i =>
      have h' : (shiftN 1 (nodesOf p))[i]? = some x := h
      unfold shiftN at h'
      rw [List.getElem?_map] at h'
      cases e : (nodesOf p)[i]? with
      | none => rw [e] at h'; cases h'
      | some y =>
        rw [e] at h'
        have e2 := Option.some.inj h'
        subst e2
        obtain ⟨r, r1, r2⟩ := nodes_progs p i y e
        refine ⟨r, r1, ?_⟩
        rw [Nat.add_comm]
        exact nodeOk_shift r2 fun a q hq => by rw [Nat.add_comm]; exact hq
  | .n2 s p q, i, x, h => by
    have hh : (progsOf (.n2 s p q)) = .n2 s p q :: (progsOf p ++ progsOf q) := rfl
    cases i with
    | zero =>
      have e : (s, [1, 1 + (nodesOf p).length]) = x := Option.some.inj h
      subst e
      refine ⟨_, rfl, rfl, rfl, fun j a e => ?_⟩
      cases j with
      | zero =>
        have e : 1 = a := Option.some.inj e
        subst e
        refine ⟨by omega, p, rfl, ?_⟩
        rw [hh]
        show (progsOf p ++ progsOf q)[0]? = some p
        rw [List.getElem?_append_left (by rw [progsOf_length]; exact p.size_pos)]
        exact progsOf_head p
      | succ j =>
        cases j with
        | zero =>
          have e : 1 + (nodesOf p).length = a := Option.some.inj e
          subst e
          refine ⟨by omega, q, rfl, ?_⟩
          rw [hh, Nat.add_comm]
          show (progsOf p ++ progsOf q)[(nodesOf p).length]? = some q
          rw [List.getElem?_append_right (by rw [progsOf_length, nodesOf_length]; exact Nat.le_refl _), progsOf_length, nodesOf_length, Nat.sub_self]
          exact progsOf_head q
        | succ j => simp at e
    | succ i =>
      have h' : (shiftN 1 (nodesOf p) ++ shiftN (1 + (nodesOf p).length) (nodesOf q))[i]? = some x := h
      by_cases hi : i < (nodesOf p).length
      · rw [List.getElem?_append_left (by rw [shiftN_length]; exact hi)] at h'
        unfold shiftN at h'
        rw [List.getElem?_map] at h'
        cases e : (nodesOf p)[i]? with
        | none => rw [e] at h'; cases h'
        | some y =>
          rw [e] at h'
          have e2 := Option.some.inj h'
          subst e2
          obtain ⟨r, r1, r2⟩ := nodes_progs p i y e
          have lt : ∀ a z, (progsOf p)[a]? = some z → (progsOf p ++ progsOf q)[a]? = some z := fun a z hz => by
            rw [List.getElem?_append_left (List.getElem?_eq_some_iff.mp hz).1]; exact hz
          refine ⟨r, lt i r r1, ?_⟩
          rw [Nat.add_comm]
          exact nodeOk_shift r2 fun a z hz => by rw [Nat.add_comm]; exact lt a z hz
      · rw [List.getElem?_append_right (by rw [shiftN_length]; omega), shiftN_length] at h'
        unfold shiftN at h'
        rw [List.getElem?_map] at h'
        cases e : (nodesOf q)[i - (nodesOf p).length]? with
        | none => rw [e] at h'; cases h'
        | some y =>
          rw [e] at h'
          have e2 := Option.some.inj h'
          subst e2
          obtain ⟨r, r1, r2⟩ := nodes_progs q _ y e
          have lt : ∀ a z, (progsOf q)[a]? = some z → (progsOf p ++ progsOf q)[(nodesOf p).length + a]? = some z := fun a z hz => by
            rw [List.getElem?_append_right (by rw [progsOf_length, nodesOf_length]; omega), progsOf_length, nodesOf_length, Nat.add_sub_cancel_left]; exact hz
          refine ⟨r, ?_, ?_⟩
          · have z := lt _ r r1
            have e3 : (nodesOf p).length + (i - (nodesOf p).length) = i := by omega
            rw [e3] at z
            exact z
          · have e3 : i + 1 = (1 + (nodesOf p).length) + (i - (nodesOf p).length) := by omega
            rw [e3]
            refine nodeOk_shift r2 fun a z hz => ?_
            have z1 := lt a z hz
            have e4 : 1 + (nodesOf p).length + a = (nodesOf p).length + a + 1 := by omega
            rw [e4]
            exact z1
/-! ### sizes of numbers -/
theorem wayP_lt : ∀ (vs : List (Nat → Nat)) (bs : List Nat) (ks : List Nat), vs.length = bs.length → (∀ (j : Nat) (v : Nat → Nat) (b : Nat), vs[j]? = some v → bs[j]? = some b → ∀ k, v k < 2 ^ b) → wayP vs ks ≤ 2 ^ bs.sum
  | [], _, _, _, _ => by simp only [wayP]; exact Nat.one_le_two_pow
  | v :: vs, [], _, h, _ => by simp at h
  | v :: vs, b :: bs, [], _, _ => by simp only [wayP]; exact Nat.one_le_two_pow
  | v :: vs, b :: bs, k :: ks, h, hb => by
    simp only [wayP]
    rw [List.sum_cons, Nat.pow_add]
    exact Nat.mul_le_mul (Nat.le_of_lt (hb 0 v b rfl rfl k)) (wayP_lt vs bs ks (by simpa using h) fun j v b h1 h2 => hb (j + 1) v b (by simpa using h1) (by simpa using h2))
theorem sum_le_mul : ∀ (l : List Nat) (b : Nat), (∀ x ∈ l, x ≤ b) → l.sum ≤ l.length * b
  | [], b, _ => by simp
  | x :: l, b, h => by
    rw [List.sum_cons, List.length_cons, Nat.succ_mul]
    have h1 := h x List.mem_cons_self
    have h2 := sum_le_mul l b fun y hy => h y (List.mem_cons_of_mem _ hy)
    omega
theorem led_lt {es : List En} (h : es.length ≤ 31) (s : Nat) (vs : List (Nat → Nat)) (bs : List Nat) (hl : vs.length = bs.length) (hb : ∀ (j : Nat) (v : Nat → Nat) (b : Nat), vs[j]? = some v → bs[j]? = some b → ∀ k, v k < 2 ^ b) (k : Nat) : led es s vs k < 2 ^ (5 + bs.sum) := by
  unfold led
  have h1 := sum_le_mul ((es.filter fun e => e.sign == s && e.kind == k).map fun e => wayP vs e.parts) (2 ^ bs.sum) fun x hx => by
    obtain ⟨e, _, rfl⟩ := List.mem_map.mp hx
    exact wayP_lt vs bs e.parts hl hb
  rw [List.length_map] at h1
  have h2 := List.length_filter_le (fun e : En => e.sign == s && e.kind == k) es
  have h3 : (es.filter fun e => e.sign == s && e.kind == k).length * 2 ^ bs.sum ≤ 31 * 2 ^ bs.sum := Nat.mul_le_mul_right _ (by omega)
  have h4 : 31 * 2 ^ bs.sum < 2 ^ 5 * 2 ^ bs.sum := Nat.mul_lt_mul_of_pos_right (by decide) (Nat.two_pow_pos _)
  rw [Nat.pow_add]
  omega
theorem cnt_lt {es : List En} (h : es.length ≤ 31) : ∀ (p : Pg) (k : Nat), cnt es p k < 2 ^ (5 * p.size)
  | .n0 s, k => by
    have q := led_lt h s [] [] rfl (fun j v b h1 => by simp at h1) k
    simpa [cnt, Pg.size] using q
  | .n1 s p, k => by
    have q := led_lt h s [cnt es p] [5 * p.size] rfl (fun j v b h1 h2 => by
      cases j with
      | zero => simp at h1 h2; subst h1; subst h2; exact cnt_lt h p
      | succ j => simp at h1) k
    have e : 5 + [5 * p.size].sum = 5 * (Pg.n1 s p).size := by simp [Pg.size]; omega
    rw [e] at q
    exact q
  | .n2 s p r, k => by
    have q := led_lt h s [cnt es p, cnt es r] [5 * p.size, 5 * r.size] rfl (fun j v b h1 h2 => by
      cases j with
      | zero => simp at h1 h2; subst h1; subst h2; exact cnt_lt h p
      | succ j =>
        cases j with
        | zero => simp at h1 h2; subst h1; subst h2; exact cnt_lt h r
        | succ j => simp at h1) k
    have e : 5 + [5 * p.size, 5 * r.size].sum = 5 * (Pg.n2 s p r).size := by simp [Pg.size]; omega
    rw [e] at q
    exact q
theorem led_take (es : List En) {i : Nat} {e : En} (h : es[i]? = some e) (s : Nat) (vs : List (Nat → Nat)) (k : Nat) : led (es.take (i + 1)) s vs k = led (es.take i) s vs k + (if e.sign = s ∧ e.kind = k then wayP vs e.parts else 0) := by
  rw [List.take_succ, h]
  exact led_snoc _ _ _ _ _
theorem progs_ok {signs : List Nat} : ∀ (p : Pg), p.ok signs → ∀ q ∈ progsOf p, q.ok signs
  | .n0 s, h, q, hq => by
    have e : q = .n0 s := by simpa [progsOf] using hq
    rw [e]; exact h
  | .n1 s p, h, q, hq => by
    rcases List.mem_cons.mp hq with e | hq
    · rw [e]; exact h
    · exact progs_ok p h.2 q hq
  | .n2 s p r, h, q, hq => by
    rcases List.mem_cons.mp hq with e | hq
    · rw [e]; exact h
    · rcases List.mem_append.mp hq with hq | hq
      · exact progs_ok p h.2.1 q hq
      · exact progs_ok r h.2.2 q hq
theorem ok_arity {signs : List Nat} {p : Pg} (h : p.ok signs) : signs[p.sign]? = some p.parts.length := by
  cases p with
  | n0 s => exact h
  | n1 s p => exact h.1
  | n2 s p q => exact h.1
theorem ok_parts {signs : List Nat} {p q : Pg} (h : p.ok signs) (hq : q ∈ p.parts) : q.ok signs := by
  cases p with
  | n0 s => simp [Pg.parts] at hq
  | n1 s p =>
    have e : q = p := by simpa [Pg.parts] using hq
    rw [e]; exact h.2
  | n2 s p1 p2 =>
    have e : q = p1 ∨ q = p2 := by simpa [Pg.parts] using hq
    rcases e with e | e
    · rw [e]; exact h.2.1
    · rw [e]; exact h.2.2
theorem progs_size {p q : Pg} : q ∈ progsOf p → q.size ≤ p.size := by
  induction p with
  | n0 s => intro h; have e : q = .n0 s := by simpa [progsOf] using h
            rw [e]; exact Nat.le_refl _
  | n1 s p ih =>
    intro h
    rcases List.mem_cons.mp h with e | h
    · rw [e]; exact Nat.le_refl _
    · have := ih h
      simp only [Pg.size]; omega
  | n2 s p r ih1 ih2 =>
    intro h
    rcases List.mem_cons.mp h with e | h
    · rw [e]; exact Nat.le_refl _
    · rcases List.mem_append.mp h with h | h
      · have := ih1 h
        simp only [Pg.size]; omega
      · have := ih2 h
        simp only [Pg.size]; omega
end K56
set_option Elab.async false
set_option linter.all false
set_option maxRecDepth 100000
set_option maxHeartbeats 4000000
namespace K56
open PySem PySem.Spec PyProof.Rows L2
/-! ### comprehensions whose items are data -/
section
variable {J : It} {n : Nat} {G : Hp → Prop} {Y : Nat → Hp → V → Hp → Prop} {K : PySem.W.Frag}
theorem lc_gen (w : Walk J n G Y) {g : TG} {tt : TT} {te : TE} {vs : List Nat} {σ : L2.St} {H1 : Hp} {Dl : Addr} {Qd : Hp → Prop} (I : Hp → Prop) (Good : Nat → List D → Prop) (hz : n ≤ 1000000)
    (hI0 : I (upd H1 Dl (.lst []))) (hIm : ∀ H o, I H → I (upd H Dl o)) (hG : ∀ H, I H → G H) (hg0 : Good 0 [])
    (hs : ∀ i x H H' ds, i < n → I H → Y i H x H' → Good i ds → ∀ (Qe : V → Hp → Prop) (Qn : Hp → Prop), (∀ y d H4, I H4 → H4 Dl = H Dl → Tu H H4 → Rp K H4 y d → Good (i + 1) (ds ++ [d]) → Qe y H4) →
      (∀ H3, I H3 → H3 Dl = H Dl → Tu H H3 → Good (i + 1) ds → Qn H3) → g x (wipe σ vs) H' fun σ2 H2 => wipe σ2 vs = wipe σ vs ∧ tt σ2 H2 fun b H3 => if b = true then te σ2 H3 Qe else Qn H3)
    (hd : ∀ H ws ds, I H → H Dl = some (.lst ws) → RpL K H ws ds → Good n ds → ds.length ≤ n → Qd H) :
    ∃ W : Nat → Nat → Hp → Prop, (∃ m, W 0 m (upd H1 Dl (.lst []))) ∧ ∀ i m H, W i m H →
      (J.stop i H ∧ Qd H) ∨ (J.go i H ∧ ∃ Nx : Hp → Prop, (∀ H', Nx H' → ∃ m', m' < m ∧ W (i + 1) m' H') ∧ ∀ x H', J.yld i H x H' → g x (wipe σ vs) H' fun σ2 H2 => wipe σ2 vs = wipe σ vs ∧ tt σ2 H2 fun b H3 =>
        if b = true then te σ2 H3 fun y H4 => ∃ acc, H4 Dl = some (.lst acc) ∧ acc.length < sizeLine ∧ Nx (upd H4 Dl (.lst (acc ++ [y]))) else Nx H3) := by
  refine lc_it w (fun i H => I H ∧ ∃ acc ds, H Dl = some (.lst acc) ∧ RpL K H acc ds ∧ Good i ds ∧ ds.length ≤ i) ⟨hI0, [], [], upd_same, .nil, hg0, Nat.le_refl _⟩ (fun i H _ p => hG H p.1) ?_ ?_
  · rintro i x H H' hi ⟨hi0, acc, ds, hA, hr, hgd, hl⟩ y
    refine hs i x H H' ds hi hi0 y hgd _ _ (fun z d H4 i4 e4 tu r4 g4 => ?_) (fun H3 i3 e3 tu g3 => ?_)
    · refine ⟨acc, e4.trans hA, ?_, hIm _ _ i4, acc ++ [z], ds ++ [d], upd_same, ?_, g4, ?_⟩
      · rw [hr.length]
        exact Nat.lt_of_le_of_lt (show ds.length ≤ 1000000 by omega) (by decide)
      · have t : Tu H4 (upd H4 Dl (.lst (acc ++ [z]))) := tu_upd (e4.trans hA) rfl
        exact ((hr.mono tu).snoc r4).mono t
      · rw [List.length_append, List.length_singleton]; omega
    · exact ⟨i3, acc, ds, e3.trans hA, hr.mono tu, g3, by omega⟩
  · rintro H ⟨i0, acc, ds, hA, hr, hgd, hl⟩
    exact hd H acc ds i0 hA hr hgd hl
/-- nothing that stood is changed -/
theorem lc_same (w : Walk J n G Y) {g : TG} {tt : TT} {te : TE} {vs : List Nat} {σ : L2.St} {H1 : Hp} {Dl : Addr} {Qd : Hp → Prop} (hD : H1 Dl = none) (Good : Nat → List D → Prop) (hz : n ≤ 1000000)
    (hG : ∀ H, Same H1 H → G H) (hg0 : Good 0 [])
    (hs : ∀ i x H H' ds, i < n → Same H1 H → Y i H x H' → Good i ds → ∀ (Qe : V → Hp → Prop) (Qn : Hp → Prop), (∀ y d H4, Same H H4 → Rp K H4 y d → Good (i + 1) (ds ++ [d]) → Qe y H4) →
      (∀ H3, Same H H3 → Good (i + 1) ds → Qn H3) → g x (wipe σ vs) H' fun σ2 H2 => wipe σ2 vs = wipe σ vs ∧ tt σ2 H2 fun b H3 => if b = true then te σ2 H3 Qe else Qn H3)
    (hd : ∀ H ws ds, Same H1 H → H Dl = some (.lst ws) → RpL K H ws ds → Good n ds → ds.length ≤ n → Qd H) :
    ∃ W : Nat → Nat → Hp → Prop, (∃ m, W 0 m (upd H1 Dl (.lst []))) ∧ ∀ i m H, W i m H →
      (J.stop i H ∧ Qd H) ∨ (J.go i H ∧ ∃ Nx : Hp → Prop, (∀ H', Nx H' → ∃ m', m' < m ∧ W (i + 1) m' H') ∧ ∀ x H', J.yld i H x H' → g x (wipe σ vs) H' fun σ2 H2 => wipe σ2 vs = wipe σ vs ∧ tt σ2 H2 fun b H3 =>
        if b = true then te σ2 H3 fun y H4 => ∃ acc, H4 Dl = some (.lst acc) ∧ acc.length < sizeLine ∧ Nx (upd H4 Dl (.lst (acc ++ [y]))) else Nx H3) := by
  refine lc_gen (K := K) w (fun H => Same H1 H ∧ ∃ o, H Dl = some o) Good hz ⟨same_new hD, _, upd_same⟩ (fun H o h => ⟨same_mut h.1 hD, _, upd_same⟩) (fun H h => hG H h.1) hg0 (fun i x H H' ds hi hI y hg Qe Qn he hn => ?_) (fun H ws ds hI => hd H ws ds hI.1)
  obtain ⟨s1, o, ho⟩ := hI
  exact hs i x H H' ds hi s1 y hg Qe Qn (fun z d H4 s4 r4 g4 => he z d H4 ⟨s1.trans s4, o, s4 _ _ ho⟩ ((s4 _ _ ho).trans ho.symm) (tu_same s4) r4 g4) (fun H3 s3 g3 => hn H3 ⟨s1.trans s3, o, s3 _ _ ho⟩ ((s3 _ _ ho).trans ho.symm) (tu_same s3) g3)
/-- the items are told one by one -/
theorem lc_map (w : Walk J n G Y) {g : TG} {te : TE} {vs : List Nat} {σ : L2.St} {H1 : Hp} {Dl : Addr} {Qd : Hp → Prop} (hD : H1 Dl = none) (ds : List D) (hl : ds.length = n) (hz : n ≤ 1000000)
    (hG : ∀ H, Same H1 H → G H)
    (hs : ∀ i x H H' d, ds[i]? = some d → Same H1 H → Y i H x H' → ∀ (Qe : V → Hp → Prop), (∀ y H4, Same H H4 → Rp K H4 y d → Qe y H4) → g x (wipe σ vs) H' fun σ2 H2 => wipe σ2 vs = wipe σ vs ∧ te σ2 H2 Qe)
    (hd : ∀ H ws, Same H1 H → H Dl = some (.lst ws) → RpL K H ws ds → Qd H) :
    ∃ W : Nat → Nat → Hp → Prop, (∃ m, W 0 m (upd H1 Dl (.lst []))) ∧ ∀ i m H, W i m H →
      (J.stop i H ∧ Qd H) ∨ (J.go i H ∧ ∃ Nx : Hp → Prop, (∀ H', Nx H' → ∃ m', m' < m ∧ W (i + 1) m' H') ∧ ∀ x H', J.yld i H x H' → g x (wipe σ vs) H' fun σ2 H2 => wipe σ2 vs = wipe σ vs ∧ tYes σ2 H2 fun b H3 =>
        if b = true then te σ2 H3 fun y H4 => ∃ acc, H4 Dl = some (.lst acc) ∧ acc.length < sizeLine ∧ Nx (upd H4 Dl (.lst (acc ++ [y]))) else Nx H3) := by
  refine lc_same (K := K) w hD (fun i es => es = ds.take i) hz hG rfl (fun i x H H' es hi s1 y hg Qe Qn he _ => ?_) (fun H ws es s1 hw hr hg _ => hd H ws s1 hw (by rw [hg, ← hl, List.take_length] at hr; exact hr))
  subst hg
  have hd' : ds[i]? = some ds[i] := by simp [hl, hi]
  have q := hs i x H H' _ hd' s1 y Qe (fun z H4 s4 r4 => he z _ H4 s4 r4 (by rw [List.take_succ, hd']; rfl))
  exact q
end
/-! ### what data are made of -/
section
variable {K : PySem.W.Frag} {H : Hp} {v : V} {d1 d2 d3 : D}
theorem RpL.nil_inv {vs : List V} (r : RpL K H vs []) : vs = [] := by cases r; rfl
theorem RpL.cons_inv {vs : List V} {d : D} {ds : List D} (r : RpL K H vs (d :: ds)) : ∃ v ws, vs = v :: ws ∧ Rp K H v d ∧ RpL K H ws ds := by
  cases r with
  | cons h t => exact ⟨_, _, rfl, h, t⟩
theorem nats_inv {l : List Nat} {v : V} (r : Rp K H v (natD l)) : ∃ a, v = .ref a ∧ SqT K H a (l.map fun (n : Nat) => V.int (n : Int)) := by
  obtain ⟨a, vs, rfl, h, q⟩ := r.tup_inv
  have e : (l.map fun (n : Nat) => D.int (n : Int)) = (l.map fun (n : Nat) => (n : Int)).map D.int := by rw [List.map_map]; rfl
  rw [e] at q
  have e2 := q.ints_inv
  rw [List.map_map] at e2
  subst e2
  exact ⟨a, rfl, h⟩
theorem RpL.nats : ∀ (l : List Nat), RpL K H (l.map fun (n : Nat) => V.int (n : Int)) (l.map fun (n : Nat) => D.int (n : Int))
  | [] => .nil
  | n :: l => .cons (.int n) (RpL.nats l)
theorem nats_of {l : List Nat} {a : Addr} (h : SqT K H a (l.map fun (n : Nat) => V.int (n : Int))) : Rp K H (.ref a) (natD l) := .tup h (RpL.nats l)
theorem en_inv {e : En} (r : Rp K H v e.d) : ∃ a p, v = .ref a ∧ SqT K H a [.int (e.sign : Int), .ref p, .int (e.kind : Int)] ∧ SqT K H p (e.parts.map fun (n : Nat) => V.int (n : Int)) := by
  obtain ⟨a, vs, rfl, h, q⟩ := r.tup_inv
  obtain ⟨v1, w1, rfl, r1, q⟩ := q.cons_inv
  obtain ⟨v2, w2, rfl, r2, q⟩ := q.cons_inv
  obtain ⟨v3, w3, rfl, r3, q⟩ := q.cons_inv
  cases q.nil_inv
  cases r1.int_inv
  cases r3.int_inv
  obtain ⟨p, rfl, hp⟩ := nats_inv r2
  exact ⟨a, p, rfl, h, hp⟩
theorem tb_inv {t : Tb} (r : Rp K H v t.d) : ∃ a s e vs, v = .ref a ∧ SqT K H a [.int (t.many : Int), .ref s, .ref e] ∧ SqT K H s (t.signs.map fun (n : Nat) => V.int (n : Int)) ∧ SqT K H e vs ∧ RpL K H vs (t.ents.map En.d) := by
  obtain ⟨a, vs, rfl, h, q⟩ := r.tup_inv
  obtain ⟨v1, w1, rfl, r1, q⟩ := q.cons_inv
  obtain ⟨v2, w2, rfl, r2, q⟩ := q.cons_inv
  obtain ⟨v3, w3, rfl, r3, q⟩ := q.cons_inv
  cases q.nil_inv
  cases r1.int_inv
  obtain ⟨s, rfl, hs⟩ := nats_inv r2
  obtain ⟨e, ws, rfl, he, re⟩ := r3.tup_inv
  exact ⟨a, s, e, ws, rfl, h, hs, he, re⟩
theorem pg_inv {p : Pg} (r : Rp K H v p.d) : ∃ a vs, v = .ref a ∧ SqT K H a (.int (p.sign : Int) :: vs) ∧ RpL K H vs (p.parts.map Pg.d) := by
  rw [Pg.d_eq] at r
  obtain ⟨a, vs, rfl, h, q0⟩ := r.tup_inv
  obtain ⟨v1, w1, rfl, r1, q1⟩ := q0.cons_inv
  cases r1.int_inv
  exact ⟨a, w1, rfl, h, q1⟩
theorem pg_of {p : Pg} {a : Addr} {vs : List V} (h : SqT K H a (.int (p.sign : Int) :: vs)) (r : RpL K H vs (p.parts.map Pg.d)) : Rp K H (.ref a) p.d := by
  rw [Pg.d_eq]
  exact .tup h (.cons (.int _) r)
theorem node_inv {x : Nat × List Nat} (r : Rp K H v (nodeD x)) : ∃ a p, v = .ref a ∧ SqT K H a [.int (x.1 : Int), .ref p] ∧ SqT K H p (x.2.map fun (n : Nat) => V.int (n : Int)) := by
  obtain ⟨a, vs, rfl, h, q⟩ := r.tup_inv
  obtain ⟨v1, w1, rfl, r1, q⟩ := q.cons_inv
  obtain ⟨v2, w2, rfl, r2, q⟩ := q.cons_inv
  cases q.nil_inv
  cases r1.int_inv
  obtain ⟨p, rfl, hp⟩ := nats_inv r2
  exact ⟨a, p, rfl, h, hp⟩
end
/-- t[1:] of a tuple that is not empty -/
theorem cut_tail (x : V) (xs : List V) : cutV (x :: xs) (some 1) none = xs := by
  have e : HT.sIx (x :: xs).length 0 (some 1) = 1 := by
    have q := HT.sIx_nat (x :: xs).length 0 1
    rw [show ((1 : Nat) : Int) = 1 from rfl] at q
    rw [q]
    simp
  unfold cutV
  rw [e, HT.sIx_none]
  simp
theorem cut_tail_ne (x : V) (xs : List V) : ¬ (HT.sIx (x :: xs).length 0 (some 1) = 0 ∧ HT.sIx (x :: xs).length (x :: xs).length none = (x :: xs).length) := by
  have e : HT.sIx (x :: xs).length 0 (some 1) = 1 := by
    have q := HT.sIx_nat (x :: xs).length 0 1
    rw [show ((1 : Nat) : Int) = 1 from rfl] at q
    rw [q]
    simp
  rw [e]
  intro h
  cases h.1
end K56
set_option Elab.async false
set_option linter.all false
set_option maxRecDepth 100000
set_option maxHeartbeats 4000000
namespace K56
open PySem PySem.Spec PyProof.Rows L2
section
variable {X : Cx} {o : Expr} {f : Str} {pos : Pos} {ta : TE}
/-- (.., o.f, ..) = : an attribute of an instance -/
def gFld (K : PySem.W.Frag) (ta : TE) (f : Str) : TG := fun y σ H Q => ta σ H fun x H2 => ∃ a C dx fs, x = .ref a ∧ H2 a = some (.ins C dx fs) ∧ Cls K C ∧ NoAttr K C f ∧ fs.length < 1000 ∧ Q σ (upd H2 a (.ins C dx (putF f y fs)))
theorem pg_fld (ha : PE X o ta) : PG X (.Attribute o f pos) (gFld X.K ta f) := by
  refine ⟨fun pins s σ H v u Q I r h => ?_⟩
  refine PySem.W.kas_attr (thn (ha.run pins s σ H _ I h) fun ov s1 ⟨x, H1, I1, rx, a, C, dx, fs, ex, ea, c, n, l, q⟩ => ?_)
  subst ex
  obtain rfl : ov = Value.ref a := rx
  exact setattr_ok I1 ea c n l r fun s3 I3 => ⟨σ, _, I3, q⟩
/-- .. with slots -/
def gSlt (K : PySem.W.Frag) (ta : TE) (f : Str) : TG := fun y σ H Q => ta σ H fun x H2 => ∃ a C dx p vs i, x = .ref a ∧ SlX.Slt H2 a C dx vs ∧ SlX.SCls K C ∧ SlX.Slot1 K C f p i ∧ Q σ (SlX.slH H2 a C dx (SlX.putS i y vs))
theorem pg_sl (ha : PE X o ta) : PG X (.Attribute o f pos) (gSlt X.K ta f) := by
  refine ⟨fun pins s σ H v u Q I r h => ?_⟩
  refine PySem.W.kas_attr (thn (ha.run pins s σ H _ I h) fun ov s1 ⟨x, H1, I1, rx, a, C, dx, p, vs, i, ex, hsl, c, t, q⟩ => ?_)
  subst ex
  obtain rfl : ov = Value.ref a := rx
  exact SlX.setslot_ok I1 hsl c t r fun s3 I3 => ⟨σ, _, I3, q⟩
end
/-! ### methods -/
theorem FnOk.raw0 {P : Program} {w : World} {K : PySem.W.Frag} {mg : Str → Option Value} {base : Heap} {k : Nat} {f : Addr} {fd : FuncData} {ps : List Str} {sp : Sp} (F : FnOk P w K mg base CX0 k f fd ps sp) (hb : Binds K fd ps []) : FnR P w K mg base CX0 k f sp :=
  (F.raw hb .nil).imp fun vs H Q E h => by rw [List.append_nil]; exact h
structure Me (P : Program) (w : World) (K : PySem.W.Frag) (mg : Str → Option Value) (base : Heap) (f : Addr) (ps : List Str) (k : Nat) (sp : Sp) : Prop where
  ex : ∃ fd, FnOk P w K mg base CX0 k f fd ps sp ∧ Binds K fd ps []
theorem Me.of {P : Program} {w : World} {K : PySem.W.Frag} {mg : Str → Option Value} {base : Heap} {x qual : Str} {ps N : List Str} {k : Nat} {sp : Sp} {f : Addr} {fd : FuncData} {st : Stmt} (F : FunD K x qual (defArgs st) (defBody st) (defScope st) [] [] f fd) (S : FnScope N ps (defScope st))
    (hb : ∀ (kV doc pm : Value) (an : Option Addr) (cdv ct : Value) (us : List Value), us.length = ps.length → bindArgs (PySem.W.fnOf x qual (defArgs st) (defBody st) (defScope st) .none kV doc pm an cdv ct) ⟨us, []⟩ = pure (ps.zip us))
    (len : ∀ vs H Q E, sp vs H Q E → vs.length = ps.length)
    (hbody : ∀ (cdv : Value) (A : Around) (outer : List Env) (s : Shared) (H : Hp) (vs : List V) (Q : VK) (E : XK), Room k (A.deeper (envOfC qual (defScope st) s.heap.objs.size f cdv)) → sp vs H Q E →
      ∃ t, PSs (cxOf CX0 P w K mg base N qual (defScope st) f cdv A outer s H E).nox (defBody st) t ∧ t { nx := fun _ H' => Q .non H', rt := Q } (start N vs) H) : Me P w K mg base f ps (k + 1) sp := by
  refine ⟨fd, F.ok S len (fun cdv A outer s H vs Q E hr h => ?_), F.bindsN hb⟩
  obtain ⟨t, h1, h2⟩ := hbody cdv A outer s H vs Q E hr h
  exact ⟨t, h1.nox, h2⟩
section
variable {X : Cx} {x : Str} {f C : Addr} {ps : List Str} {k : Nat} {sp : Sp} {p pos apos : Pos} {e o : Expr} {es : List Expr} {t : TA} {ta : TE} {m : Str}
/-- C(e, ..) -/
theorem pe_mkC (c : Me X.prog X.w X.K X.mg X.base f ps k sp) (M : Mk X.K C f) (hr : Room (k + 1) X.A) (hg : Gl X x) (hm : X.mg x = some (.ref C)) (ha : PA X (e :: es) t)
    (hdb : (x == ("__debug__" : Str)) = false := by decide) (hst : starEach (e :: es) X.env = (false, eval e X.env) :: starEach es X.env := by rfl) (hpl : (backTo pos (starEach es X.env)).any (·.1) = false := by rfl) :
    PE X (.Call (.Name x p) (e :: es) [] pos) (tMake C sp [] E0 t) := by
  obtain ⟨fd, F, hb⟩ := c.ex
  exact pe_make M F hr hg hm hb .nil pass0 ha hdb hst hpl
/-- o.m(e, ..), o with slots -/
theorem pe_meSl {pl : Sem Bool} (c : Me X.prog X.w X.K X.mg X.base f ps k sp) (hc : SlX.SCls X.K C) (hm : Meth X.K C m f) (hr : Room k X.A) (he : PE X o ta) (ha : PA X (e :: es) t)
    (hst : starEach (e :: es) X.env = (false, eval e X.env) :: starEach es X.env := by rfl) (hpl : (backTo pos (starEach es X.env)).any (·.1) = false := by rfl)
    (ht : eval (.Call (.Attribute o m apos) (e :: es) [] pos) X.env = (do
      let ov ← eval o X.env
      standAt apos.atName
      let (f, first) ← holding [ov] (getMethod ov m pl)
      callWith pos f first (backTo pos (starEach (e :: es) X.env)) (backToKw pos (keywordEach [] X.env))) := by rfl) :
    PE X (.Call (.Attribute o m apos) (e :: es) [] pos) (SlX.tMethSl C sp E0 ta t) := by
  obtain ⟨fd, F, hb⟩ := c.ex
  exact SlX.pe_methSl he hc hm (FnOk.raw0 F hb) hr pass0 ha hst hpl ht
/-- o.m(e, ..), o.m(), o an instance -/
theorem pe_me {pl : Sem Bool} (c : Me X.prog X.w X.K X.mg X.base f ps k sp) (hc : Cls X.K C) (hm : Meth X.K C m f) (hr : Room k X.A) (he : PE X o ta) (ha : PA X (e :: es) t)
    (hst : starEach (e :: es) X.env = (false, eval e X.env) :: starEach es X.env := by rfl) (hpl : (backTo pos (starEach es X.env)).any (·.1) = false := by rfl)
    (ht : eval (.Call (.Attribute o m apos) (e :: es) [] pos) X.env = (do
      let ov ← eval o X.env
      standAt apos.atName
      let (f, first) ← holding [ov] (getMethod ov m pl)
      callWith pos f first (backTo pos (starEach (e :: es) X.env)) (backToKw pos (keywordEach [] X.env))) := by rfl) :
    PE X (.Call (.Attribute o m apos) (e :: es) [] pos) (tMeth C m sp [] E0 ta t) := by
  obtain ⟨fd, F, hb⟩ := c.ex
  exact pe_meth he hc hm F hr hb .nil pass0 ha hst hpl ht
theorem pe_me0 {pl : Sem Bool} (c : Me X.prog X.w X.K X.mg X.base f ps k sp) (hc : Cls X.K C) (hm : Meth X.K C m f) (hr : Room k X.A) (he : PE X o ta)
    (ht : eval (.Call (.Attribute o m apos) [] [] pos) X.env = (do
      let ov ← eval o X.env
      standAt apos.atName
      let (f, first) ← holding [ov] (getMethod ov m pl)
      callWith pos f first (backTo pos (starEach [] X.env)) (backToKw pos (keywordEach [] X.env))) := by rfl) :
    PE X (.Call (.Attribute o m apos) [] [] pos) (tMeth C m sp [] E0 ta tNil) := by
  obtain ⟨fd, F, hb⟩ := c.ex
  exact pe_meth0 he hc hm F hr hb .nil pass0 ht
end
end K56
set_option Elab.async false
set_option linter.all false
set_option maxRecDepth 100000
set_option maxHeartbeats 4000000
namespace K56
open PySem PySem.Spec PyProof.Rows L2
/-! ### the bag -/
/-- at b the bag, its script's list (at a, the ints cs) -/
structure Bag (b a : Addr) (cs : List Int) (H : Hp) : Prop where
  ne : a ≠ b
  inn : H a = some (.lst (cs.map V.int))
  pos : ∀ c ∈ cs, 0 ≤ c
  few : cs.length ≤ 1000
  at_ : ∃ i0 i1 i2 : Int, H b = some (.lst [.int i0, .int i1, .int i2, .ref a]) ∧ 0 ≤ i0 ∧ 0 ≤ i1 ∧ i1 < 2147483647
/-- all but the object at b is kept -/
def But (b : Addr) (H H' : Hp) : Prop := ∀ x o, x ≠ b → H x = some o → H' x = some o
/-- from H0 to H: all but the bag is kept, the bag is one -/
structure Gb (b a : Addr) (cs : List Int) (H0 H : Hp) : Prop where
  b0 : Bag b a cs H0
  but : But b H0 H
  b1 : Bag b a cs H
section
variable {b a l p x : Addr} {cs : List Int} {H H0 H1 H2 : Hp} {o : HO} {K : PySem.W.Frag}
theorem Bag.tr (B : Bag b a cs H) : ∃ o, H b = some o ∧ noTup o = true := by
  obtain ⟨i0, i1, i2, h, _⟩ := B.at_
  exact ⟨_, h, rfl⟩
theorem Gb.refl (B : Bag b a cs H) : Gb b a cs H H := ⟨B, fun _ _ _ h => h, B⟩
theorem Gb.trans (g : Gb b a cs H0 H1) (h : Gb b a cs H1 H2) : Gb b a cs H0 H2 := ⟨g.b0, fun x o n e => h.but x o n (g.but x o n e), h.b1⟩
theorem Bag.same (B : Bag b a cs H) (e : Same H H1) : Bag b a cs H1 := by
  obtain ⟨i0, i1, i2, h, r⟩ := B.at_
  exact ⟨B.ne, e _ _ B.inn, B.pos, B.few, i0, i1, i2, e _ _ h, r⟩
theorem Gb.same (g : Gb b a cs H0 H1) (e : Same H1 H2) : Gb b a cs H0 H2 := ⟨g.b0, fun x o n q => e _ _ (g.but x o n q), g.b1.same e⟩
theorem Gb.tu (g : Gb b a cs H0 H1) : Tu H0 H1 := fun x xs r => by
  obtain ⟨o, h, n⟩ := g.b0.tr
  have nb : x ≠ b := fun e => by
    rw [e] at r
    rcases r with r | ⟨z, r⟩
    · rw [h] at r; cases r; cases n
    · rw [h] at r; cases r; cases n
  rcases r with r | ⟨z, r⟩
  · exact .inl (g.but _ _ nb r)
  · exact .inr ⟨z, g.but _ _ nb r⟩
theorem Gb.back (g : Gb b a cs H0 H1) (h : H1 p = none) : H0 p = none := by
  obtain ⟨o, hb, _⟩ := g.b1.tr
  cases q : H0 p with
  | none => rfl
  | some u =>
    have nb : p ≠ b := fun e => by rw [e, hb] at h; cases h
    rw [g.but p u nb q] at h
    cases h
/-- an object that H0 does not know is new, or changes -/
theorem Gb.mut (g : Gb b a cs H0 H1) (h : H0 l = none) : Gb b a cs H0 (upd H1 l o) := by
  obtain ⟨i0, i1, i2, hb, r⟩ := g.b1.at_
  obtain ⟨ob, hb0, _⟩ := g.b0.tr
  have n1 : b ≠ l := ne_of_none hb0 h
  have n2 : a ≠ l := ne_of_none g.b0.inn h
  refine ⟨g.b0, fun x u nx e => ?_, g.b0.ne, by rw [upd_ne n2]; exact g.b1.inn, g.b1.pos, g.b1.few, i0, i1, i2, by rw [upd_ne n1]; exact hb, r⟩
  rw [upd_ne (ne_of_none e h)]
  exact g.but x u nx e
theorem Gb.new (g : Gb b a cs H0 H1) (h : H1 p = none) : Gb b a cs H0 (upd H1 p o) := g.mut (g.back h)
theorem Gb.nb (g : Gb b a cs H0 H1) (h : H0 l = none) : l ≠ b := by
  obtain ⟨ob, hb0, _⟩ := g.b0.tr
  exact (ne_of_none hb0 h).symm
theorem Bag.nb (g : Bag b a cs H0) (h : H0 l = none) : l ≠ b := by
  obtain ⟨ob, hb0, _⟩ := g.tr
  exact (ne_of_none hb0 h).symm
theorem Gb.at (g : Gb b a cs H0 H1) (n : l ≠ b) (h : H0 l = some o) : H1 l = some o := g.but _ _ n h
theorem same_gb (B : Bag b a cs H) (e : Same H H1) : Gb b a cs H H1 := (Gb.refl B).same e
end
/-- an int below n is drawn -/
def spTake : Sp := fun vs H Q _ => ∃ (b a : Addr) (cs : List Int) (n : Int), vs = [.ref b, .int n] ∧ Bag b a cs H ∧ 0 < n ∧ n < 1000000000 ∧ ∀ (i : Int) (H' : Hp), 0 ≤ i → i < n → Gb b a cs H H' → Q (.int i) H'
section
variable {P : Program} {w : World} {K : PySem.W.Frag} {mg : Str → Option Value} {base : Heap}
theorem bag_set {b a : Addr} {cs : List Int} {H H0 : Hp} {j0 j1 j2 : Int} (g : Gb b a cs H0 H) (h0 : 0 ≤ j0) (h1 : 0 ≤ j1) (h2 : j1 < 2147483647) : Gb b a cs H0 (upd H b (.lst [.int j0, .int j1, .int j2, .ref a])) :=
  ⟨g.b0, fun x o n e => by rw [upd_ne n]; exact g.but x o n e, g.b0.ne, by rw [upd_ne g.b0.ne]; exact g.b1.inn, g.b0.pos, g.b0.few, j0, j1, j2, upd_same, h0, h1, h2⟩
theorem cut_ints (cs : List Int) (lo hi : Option Int) : ∃ ds : List Int, cutV (cs.map V.int) lo hi = ds.map V.int ∧ (∀ d ∈ ds, d ∈ cs) ∧ ds.length ≤ cs.length := by
  refine ⟨(cs.drop (HT.sIx (cs.map V.int).length 0 lo)).take (HT.sIx (cs.map V.int).length (cs.map V.int).length hi - HT.sIx (cs.map V.int).length 0 lo), ?_, fun d hd => List.mem_of_mem_drop (List.mem_of_mem_take hd), ?_⟩
  · unfold cutV
    rw [List.map_take, List.map_drop]
  · rw [List.length_take, List.length_drop]; omega
theorem sz_ok {n : Nat} (h : n ≤ 1000000) : n ≤ sizeLine := Nat.le_trans h (by decide)
theorem sz_lt {n : Nat} (h : n ≤ 1000000) : n < sizeLine := Nat.lt_of_le_of_lt h (by decide)
/-- a slot of the bag is stored -/
theorem cmul_r {i j : Int} (h1 : -(2 ^ 64) < j) (h2 : j < 2 ^ 64) : CMul i j := .inr ⟨h1, h2⟩
theorem cmul_l {i j : Int} (h1 : -(2 ^ 64) < i) (h2 : i < 2 ^ 64) : CMul i j := .inl ⟨h1, h2⟩
theorem sc_l_take : FnScope ["_law_bag_here", "_law_many", "_law_begin", "_law_second", "_law_cell", "_law_stirred", "_law_value"] ["_law_bag_here", "_law_many"] (defScope s_l_take) := ⟨rfl, rfl, rfl, by decide +kernel, rfl, by decide +kernel, by decide +kernel⟩
theorem ok_l_take (A : Hd K mg) : Cl P w K mg base "_law_take" ["_law_bag_here", "_law_many"] 1 spTake := by
  obtain ⟨fd, F⟩ := A.f_l_take
  refine Cl.of F A.g_l_take sc_l_take (fun _ _ _ _ _ _ us hl => match us, hl with | [_, _], _ => rfl) (fun vs H Q E h => (by obtain ⟨b, a, cs, n, rfl, B, n0, n1, k⟩ := h; rfl)) (fun cdv Ar outer s H vs Q E hr h => ?_)
  obtain ⟨b, a, cs, n, rfl, B, n0, n1, k⟩ := h
  refine ⟨_, (pss_mid (ps_if (pt_cmpR op_eq (pe_ix ix_list (pv 0) pe_int (fun _ _ => rfl)) pe_int (nomark _)) (pss_cons (ps_set (i := 4) sc_l_take.nd rfl (.inl rfl) (pe_ix ix_list (pe_op op_cat (pe_slice sl_list (pe_ix ix_list (pv 0) pe_int (fun _ _ => rfl)) (po_some (pe_ix ix_list (pv 0) pe_int (fun _ _ => rfl))) po_none) (pe_lst (pa_cons pe_int pa_nil))) pe_int (fun _ _ => rfl)))
  (pss_cons (ps_augS (pv 0) pe_int get_list pe_int ip_add set_list)
  (pss_mid (ps_if (pt_cmpR op_ge (pv 4) (pe_op op_pow pe_int pe_int) (nomark _)) (pss_one (ps_asg (pv 4) (pg_sub (pv 0) pe_int set_list))) pss_nil)
  (pss_cons (ps_set (i := 5) sc_l_take.nd rfl (.inl rfl) (pe_op op_add (pe_op op_add (pe_op op_mul (pe_ix ix_list (pv 0) pe_int (fun _ _ => rfl)) pe_int) (pe_op op_mod (pe_callTy call_int1 (by rfl) A.z_int (by decide +kernel) (pa_cons (pv 4) pa_nil)) pe_int)) (pe_op op_mul pe_int (pe_ix ix_list (pv 0) pe_int (fun _ _ => rfl)))))
  (pss_one (ps_asg (pe_op op_mod (pe_callTy call_int1 (by rfl) A.z_int (by decide +kernel) (pa_cons (pv 5) pa_nil)) pe_int) (pg_sub (pv 0) pe_int set_list))))))) pss_nil)
  (pss_cons (ps_if (pt_cmpR op_gt (pe_ix ix_list (pv 0) pe_int (fun _ _ => rfl)) pe_int (nomark _)) (pss_cons (ps_set (i := 6) sc_l_take.nd rfl (.inl rfl) (pe_op op_mod (pe_callTy call_int1 (by rfl) A.z_int (by decide +kernel) (pa_cons (pe_ix ix_list (pv 0) pe_int (fun _ _ => rfl)) pa_nil)) (pv 1)))
  (pss_cons (ps_asg (pe_op op_fdiv (pe_callTy call_int1 (by rfl) A.z_int (by decide +kernel) (pa_cons (pe_ix ix_list (pv 0) pe_int (fun _ _ => rfl)) pa_nil)) (pv 1)) (pg_sub (pv 0) pe_int set_list))
  (pss_one (ps_ret (pv 6))))) pss_nil)
  (pss_cons (ps_set (i := 2) sc_l_take.nd rfl (.inl rfl) (pe_op op_mod (pe_callTy call_int1 (by rfl) A.z_int (by decide +kernel) (pa_cons (pe_op op_mul (pe_op op_add (pe_ix ix_list (pv 0) pe_int (fun _ _ => rfl)) pe_int) pe_int) pa_nil)) pe_int))
  (pss_cons (ps_set (i := 3) sc_l_take.nd rfl (.inl rfl) (pe_op op_mod (pe_callTy call_int1 (by rfl) A.z_int (by decide +kernel) (pa_cons (pe_op op_mul (pe_op op_mod (pe_callTy call_int1 (by rfl) A.z_int (by decide +kernel) (pa_cons (pe_op op_mul (pv 2) (pv 2)) pa_nil)) pe_int) pe_int) pa_nil)) pe_int))
  (pss_one (ps_ret (pe_op op_mod (pe_callTy call_int1 (by rfl) A.z_int (by decide +kernel) (pa_cons (pe_op op_fdiv (pv 3) pe_int) pa_nil)) (pv 1)))))))), ?_⟩
  obtain ⟨i0, i1, i2, hb, p0, p1, p2⟩ := B.at_
  refine ⟨fun σ' H1 => ∃ s2 s3 s4 s5 s6, σ' = [some (.ref b), some (.int n), s2, s3, s4, s5, s6] ∧ Gb b a cs H H1, ?_, ?_⟩
  · refine ⟨_, rfl, b, _, 0, _, rfl, rfl, .of hb, rfl, rfl, _, rfl, ite2 (fun _ => ?_) (fun _ => ?_)⟩
    · -- a cell is read
      refine ⟨_, rfl, b, _, 3, _, rfl, rfl, .of hb, rfl, ?_⟩
      refine ⟨_, rfl, b, _, 2, _, rfl, rfl, .of hb, rfl, i2, rfl, a, _, rfl, .of B.inn, fun p hp => ?_⟩
      have g1 : Gb b a cs H (upd H p (.lst (cutV (cs.map V.int) (some i2) none))) := (Gb.refl B).new hp
      refine ⟨sz_ok (by decide), fun p2 hp2 => ?_⟩
      have g2 := g1.new (o := .lst [V.int 0]) hp2
      obtain ⟨ds, ed, hd, ld⟩ := cut_ints cs (some i2) none
      have hl : (cutV (cs.map V.int) (some i2) none).length ≤ 1000 := Nat.le_trans (cutV_length _ _ _) (by rw [List.length_map]; exact B.few)
      refine ⟨p, p2, _, _, rfl, rfl, by rw [upd_ne (ne_of_none upd_same hp2)]; exact upd_same, upd_same, sz_ok (by simp only [List.length_singleton]; omega), fun p3 hp3 => ?_⟩
      have g3 := g2.new (o := .lst (cutV (cs.map V.int) (some i2) none ++ [V.int 0])) hp3
      obtain ⟨c, c0, hc⟩ : ∃ c : Int, 0 ≤ c ∧ atI (cutV (cs.map V.int) (some i2) none ++ [V.int 0]) 0 = some (V.int c) := by
        rw [ed]
        cases ds with
        | nil => exact ⟨0, by decide, rfl⟩
        | cons d r => exact ⟨d, B.pos d (hd d List.mem_cons_self), atI_nat (j := 0) rfl⟩
      refine ⟨p3, _, 0, _, rfl, rfl, .of upd_same, hc, ?_⟩
      generalize upd (upd (upd H p (.lst (cutV (cs.map V.int) (some i2) none))) p2 (.lst [V.int 0])) p3 (.lst (cutV (cs.map V.int) (some i2) none ++ [V.int 0])) = H3 at g3
      clear g1 g2 hp2 hp3 hc ed
      obtain ⟨j0, j1, j2, hb3, q0, q1, q2⟩ := g3.b1.at_
      -- bag[2] += 1
      refine ⟨_, rfl, b, _, 2, _, rfl, rfl, .of hb3, rfl, j2, 1, rfl, rfl, b, _, 2, 2, rfl, rfl, hb3, rfl, ?_⟩
      have g4 := bag_set (j2 := j2 + 1) g3 q0 q1 q2
      have hb4 : upd H3 b (.lst [V.int j0, V.int j1, V.int (j2 + 1), V.ref a]) b = some (.lst [V.int j0, V.int j1, V.int (j2 + 1), V.ref a]) := upd_same
      show tMid _ _ _ _ (upd H3 b (.lst [V.int j0, V.int j1, V.int (j2 + 1), V.ref a]))
      generalize upd H3 b (.lst [V.int j0, V.int j1, V.int (j2 + 1), V.ref a]) = H4 at g4 hb4
      refine ⟨fun σ' H' => ∃ j0', 0 ≤ j0' ∧ σ' = [some (.ref b), some (.int n), none, none, some (.int c), none, none] ∧ Gb b a cs H H' ∧ H' b = some (.lst [V.int j0', V.int j1, V.int (j2 + 1), V.ref a]), ?_, ?_⟩
      · refine ⟨_, rfl, 10, 18, rfl, rfl, ⟨by decide, by decide, by decide⟩, _, _, rfl, rfl, _, rfl, ite2 (fun _ => ?_) (fun _ => ?_)⟩
        · refine ⟨_, rfl, _, rfl, b, _, 0, 0, rfl, rfl, hb4, rfl, ?_⟩
          exact ⟨c, c0, rfl, bag_set g4 c0 q1 q2, upd_same⟩
        · exact ⟨j0, q0, rfl, g4, hb4⟩
      · rintro σ' H5 ⟨k0, r0, rfl, g5, hb5⟩
        refine ⟨_, rfl, b, _, 1, _, rfl, rfl, .of hb5, rfl, _, _, rfl, rfl, cmul_r (by decide) (by decide), _, rfl, .inl ⟨c, rfl, c, 2147483647, rfl, rfl, (by decide : (0 : Int) < 2147483647), _, _, rfl, rfl, _, rfl, b, _, 2, _, rfl, rfl, .of hb5, rfl, 7919, _, rfl, rfl, cmul_l (by decide) (by decide), _, _, rfl, rfl, ?_⟩⟩
        refine ⟨_, rfl, .inl ⟨_, rfl, _, 2147483647, rfl, rfl, (by decide : (0 : Int) < 2147483647), _, rfl, b, _, 1, 1, rfl, rfl, hb5, rfl, ?_⟩⟩
        exact ⟨_, _, _, _, _, rfl, bag_set g5 r0 (Int.emod_nonneg _ (by decide)) (Int.emod_lt_of_pos _ (by decide))⟩
    · exact ⟨_, _, _, _, _, rfl, .refl B⟩
  · rintro σ' H1 ⟨s2, s3, s4, s5, s6, rfl, g⟩
    obtain ⟨j0, j1, j2, hb3, q0, q1, q2⟩ := g.b1.at_
    refine ⟨_, rfl, b, _, 0, _, rfl, rfl, .of hb3, rfl, _, _, rfl, rfl, _, rfl, ite2 (fun _ => ?_) (fun _ => ?_)⟩
    · refine ⟨_, rfl, b, _, 0, _, rfl, rfl, .of hb3, rfl, .inl ⟨_, rfl, _, rfl, _, _, rfl, rfl, n0, ?_⟩⟩
      refine ⟨_, rfl, b, _, 0, _, rfl, rfl, .of hb3, rfl, .inl ⟨_, rfl, _, rfl, _, _, rfl, rfl, ⟨n0, by omega⟩, _, rfl, b, _, 0, 0, rfl, rfl, hb3, rfl, ?_⟩⟩
      exact ⟨_, rfl, k _ _ (Int.emod_nonneg _ (by omega)) (Int.emod_lt_of_pos _ n0) (bag_set g (Int.ediv_nonneg q0 (by omega)) q1 q2)⟩
    · refine ⟨_, rfl, b, _, 1, _, rfl, rfl, .of hb3, rfl, _, _, rfl, rfl, _, _, rfl, rfl, cmul_r (by decide) (by decide), .inl ⟨_, rfl, _, 1000000007, rfl, rfl, (by decide : (0 : Int) < 1000000007), ?_⟩⟩
      have z0 : 0 ≤ (j1 + 1) * 39373 % 1000000007 := Int.emod_nonneg _ (by decide)
      have z1 : (j1 + 1) * 39373 % 1000000007 < 1000000007 := Int.emod_lt_of_pos _ (by decide)
      generalize (j1 + 1) * 39373 % 1000000007 = z at z0 z1
      refine ⟨_, rfl, _, rfl, _, _, rfl, rfl, cmul_r (by omega) (by omega), .inl ⟨_, rfl, _, 998244353, rfl, rfl, (by decide : (0 : Int) < 998244353), _, _, rfl, rfl, cmul_r (by decide) (by decide), .inl ⟨_, rfl, _, 998244353, rfl, rfl, (by decide : (0 : Int) < 998244353), ?_⟩⟩⟩
      refine ⟨_, rfl, _, 7, rfl, rfl, ⟨by decide, by decide⟩, .inl ⟨_, rfl, _, rfl, _, _, rfl, rfl, n0, ?_⟩⟩
      exact k _ _ (Int.emod_nonneg _ (by omega)) (Int.emod_lt_of_pos _ n0) g
end
end K56
set_option Elab.async false
set_option linter.all false
set_option maxRecDepth 100000
set_option maxHeartbeats 4000000
namespace K56
open PySem PySem.Spec PyProof.Rows L2
/-! ### nodes_in -/
def foundL (ps : List Pg) : List (Nat × List Nat) := ps.foldl (fun acc q => acc ++ shiftN (1 + acc.length) (nodesOf q)) []
def topsL (ps : List Pg) : List Nat := (List.range ps.length).map fun i => 1 + (foundL (ps.take i)).length
theorem foundL_snoc (ps : List Pg) (q : Pg) : foundL (ps ++ [q]) = foundL ps ++ shiftN (1 + (foundL ps).length) (nodesOf q) := by
  unfold foundL
  rw [List.foldl_append]; rfl
theorem topsL_snoc (ps : List Pg) (q : Pg) : topsL (ps ++ [q]) = topsL ps ++ [1 + (foundL ps).length] := by
  unfold topsL
  rw [List.length_append, List.length_singleton, List.range_succ, List.map_append]
  congr 1
  · refine List.map_congr_left fun i hi => ?_
    rw [List.take_append_of_le_length (Nat.le_of_lt (List.mem_range.mp hi))]
  · simp
theorem nodesOf_parts (p : Pg) : nodesOf p = (p.sign, topsL p.parts) :: foundL p.parts := by
  cases p with
  | n0 s => rfl
  | n1 s p => simp [nodesOf, Pg.sign, Pg.parts, topsL, foundL, List.range_succ]
  | n2 s p q => simp [nodesOf, Pg.sign, Pg.parts, topsL, foundL, List.range_succ, shiftN_length]
def spNodes (K : PySem.W.Frag) (h : Nat) : Sp := fun vs H Q _ => ∃ (v : V) (p : Pg), vs = [v] ∧ Rp K H v p.d ∧ p.height < h ∧ p.size ≤ 5000 ∧
  ∀ (l : Addr) (ws : List V) (H' : Hp), H l = none → Same H H' → H' l = some (.lst ws) → RpL K H' ws ((nodesOf p).map nodeD) → Q (.ref l) H'
theorem parts_height {p q : Pg} (h : q ∈ p.parts) : q.height < p.height ∧ q.size < p.size := by
  cases p with
  | n0 s => simp [Pg.parts] at h
  | n1 s p =>
    have e : q = p := by simpa [Pg.parts] using h
    subst e
    simp only [Pg.height, Pg.size]; omega
  | n2 s p1 p2 =>
    have e : q = p1 ∨ q = p2 := by simpa [Pg.parts] using h
    have := p1.size_pos
    have := p2.size_pos
    rcases e with e | e
    · subst e; simp only [Pg.height, Pg.size]; omega
    · subst e; simp only [Pg.height, Pg.size]; omega
theorem foundL_le (p : Pg) (i : Nat) : (foundL (p.parts.take i)).length ≤ p.size := by
  cases p with
  | n0 s => simp [Pg.parts, foundL]
  | n1 s p =>
    match i with
    | 0 => simp [Pg.parts, foundL]
    | i + 1 => simp [Pg.parts, foundL, shiftN_length, nodesOf_length, Pg.size]
  | n2 s p q =>
    match i with
    | 0 => simp [Pg.parts, foundL]
    | 1 => simp [Pg.parts, foundL, shiftN_length, nodesOf_length, Pg.size]; omega
    | i + 2 => simp [Pg.parts, foundL, shiftN_length, nodesOf_length, Pg.size]
section
variable {P : Program} {w : World} {K : PySem.W.Frag} {mg : Str → Option Value} {base : Heap}
theorem sc_nodes_in : FnScope ["program", "part", "found", "tops", "begin", "sign", "nodes", "node"] ["program"] (defScope s_nodes_in) := ⟨rfl, rfl, rfl, by decide +kernel, rfl, by decide +kernel, by decide +kernel⟩
theorem ok_nodes_in (A : Hd K mg) : ∀ h : Nat, Cl P w K mg base "nodes_in" ["program"] (h + 1) (spNodes K h) := by
  intro h
  induction h with
  | zero =>
    obtain ⟨fd, F⟩ := A.f_nodes_in
    refine Cl.of F A.g_nodes_in sc_nodes_in (fun _ _ _ _ _ _ us hl => match us, hl with | [_], _ => rfl) (fun vs H Q E h => (by obtain ⟨v, p, rfl, _⟩ := h; rfl)) (fun cdv Ar outer s H vs Q E hr h => ?_)
    obtain ⟨v, p, rfl, r, hh, _⟩ := h
    exact absurd hh (Nat.not_lt_zero _)
  | succ n ih =>
    obtain ⟨fd, F⟩ := A.f_nodes_in
    refine Cl.of F A.g_nodes_in sc_nodes_in (fun _ _ _ _ _ _ us hl => match us, hl with | [_], _ => rfl) (fun vs H Q E h => (by obtain ⟨v, p, rfl, _⟩ := h; rfl)) (fun cdv Ar outer s H vs Q E hr h => ?_)
    obtain ⟨v, p, rfl, r, hh, hz, k⟩ := h
    refine ⟨_, (pss_cons (ps_if (pt_cmpR op_isN (pv 0) pe_non (nomark _)) pss_never pss_nil)
  (pss_cons (ps_par (i := 2) (j := 3) (by rfl) sc_nodes_in.nd rfl rfl (by decide) rfl rfl (pa_cons (pe_lst pa_nil) (pa_cons (pe_lst pa_nil) pa_nil)) rfl)
  (pss_cons (ps_for PassesOwn.never (by rfl) (pi_tup (pe_slice sl_tupA (pv 0) (po_some pe_int) po_none)) (pg_name (i := 1) sc_nodes_in.nd rfl (.inl rfl))
  (pss_cons (ps_set (i := 4) sc_nodes_in.nd rfl (.inr rfl) (pe_op op_add pe_int (pe_callB call_len_seq (by rfl) A.z_len PySem.boot_len (pa_cons (pv 2) pa_nil))))
  (pss_cons (ps_expr (pe_bm PySem.F.plainAttrs_list PySem.F.slot_list_append PySem.F.type_list_append mt_append (pv 3) (pa_cons (pv 4) pa_nil)))
  (pss_one (ps_expr (pe_bm PySem.F.plainAttrs_list PySem.F.slot_list_extend PySem.F.type_list_extend mt_extend (pv 2) (pa_cons (pe_lcF (own := [("sign", 5), ("nodes", 6)]) (by rfl) sc_nodes_in.nd (pi_list (pe_cl ih (hr.mono (Nat.le_refl _)) (by rfl) (pa_cons (pv 1) pa_nil))) (blkOk_by (by rfl)) (fun _ _ _ _ _ => (pg_tup rfl (pgs_cons (pg_name (i := 5) sc_nodes_in.nd rfl (.inl rfl)) (pgs_cons (pg_name (i := 6) sc_nodes_in.nd rfl (.inl rfl)) pgs_nil)))) (fun _ _ _ _ _ => pts_nil) (fun _ _ _ _ _ => (pe_tup (pa_cons (pv 5) (pa_cons (pe_tupleOf (by rfl) A.z_tuple (pe_lcF (own := [("node", 7)]) (by rfl) sc_nodes_in.nd (pi_tup (pv 6)) (blkOk_by (by rfl)) (fun _ _ _ _ _ => (pg_name (i := 7) sc_nodes_in.nd rfl (.inl rfl))) (fun _ _ _ _ _ => pts_nil) (fun _ _ _ _ _ => (pe_op op_add (pv 4) (pv 7))))) pa_nil))))) pa_nil)))))))
  (pss_one (ps_ret (pe_lst (pa_cons (pe_tup (pa_cons (pe_ix ix_tup (pv 0) pe_int (fun _ _ => rfl)) (pa_cons (pe_tupleOf (by rfl) A.z_tuple (pv 3)) pa_nil))) (StX.pa_star (pv 2) pa_nil)))))))), ?_⟩
    obtain ⟨a, xs, rfl, ha, rx⟩ := pg_inv r
    refine ⟨_, rfl, rfl, _, rfl, ite2 (fun z => ?_) (fun _ => ?_)⟩
    · cases of_decide_eq_true z
    refine ⟨Nat.zero_le _, fun l hl => ⟨Nat.zero_le _, fun m hm => ⟨_, _, rfl, ?_⟩⟩⟩
    have nlm : l ≠ m := ne_of_none upd_same hm
    have s1 : Same H (upd (upd H l (.lst [])) m (.lst [])) := (same_new hl).trans (same_new hm)
    have hm0 : H m = none := (same_new hl).free hm
    have hl1 : (upd (upd H l (.lst [])) m (.lst [])) l = some (.lst []) := by rw [upd_ne nlm]; exact upd_same
    have hm1 : (upd (upd H l (.lst [])) m (.lst [])) m = some (.lst []) := upd_same
    generalize upd (upd H l (.lst [])) m (.lst []) = H1 at s1 hl1 hm1
    clear hm
    refine ⟨_, rfl, 1, rfl, a, _, rfl, (tu_same s1).sq ha, fun q => absurd q (cut_tail_ne _ _), fun _ p3 hp3 => ?_⟩
    rw [cut_tail]
    refine ⟨p3, rfl, ⟨_, .of upd_same⟩, ?_⟩
    have s2 : Same H (upd H1 p3 (.tup xs)) := s1.trans (same_new hp3)
    have s2l : (upd H1 p3 (.tup xs)) l = some (.lst []) := same_new hp3 _ _ hl1
    have s2m : (upd H1 p3 (.tup xs)) m = some (.lst []) := same_new hp3 _ _ hm1
    have s2p : (upd H1 p3 (.tup xs)) p3 = some (.tup xs) := upd_same
    generalize upd H1 p3 (.tup xs) = H2 at s2 s2l s2m s2p
    clear s1 hl1 hm1 hp3
    have hxl : xs.length = p.parts.length := by rw [rx.length, List.length_map]
    refine for_tup (K := K) (a := p3) (xs := xs) (fun i σ H' => ∃ s1 s4 s5 s6 s7 fs, σ = [some (.ref a), s1, some (.ref l), some (.ref m), s4, s5, s6, s7] ∧ Same H H' ∧ H' p3 = some (.tup xs) ∧ H' l = some (.lst fs) ∧ RpL K H' fs ((foundL (p.parts.take i)).map nodeD) ∧
      H' m = some (.lst ((topsL (p.parts.take i)).map fun (n : Nat) => V.int (n : Int)))) ⟨_, _, _, _, _, [], rfl, s2, s2p, s2l, .nil, s2m⟩ (fun i σ H' _ ⟨_, _, _, _, _, _, _, _, e, _⟩ => .of e) ?_ ?_
    · rintro i x σ H' hi ⟨c1, c4, c5, c6, c7, fs, rfl, s3, e3, el, rf, em⟩
      have hi' : i < p.parts.length := by rw [← hxl]; exact (List.getElem?_eq_some_iff.mp hi).1
      have hq : p.parts[i]? = some p.parts[i] := by simp [hi']
      generalize p.parts[i] = q at hq
      obtain ⟨d, hd, rq⟩ := (rx.mono (tu_same s3)).get' hi
      rw [List.getElem?_map, hq] at hd
      cases hd
      have hpq := parts_height (List.mem_of_getElem? hq)
      have tk : p.parts.take (i + 1) = p.parts.take i ++ [q] := by rw [List.take_succ, hq]; rfl
      have fl : fs.length = (foundL (p.parts.take i)).length := by rw [rf.length, List.length_map]
      have fz := foundL_le p i
      -- begin = 1 + len(found); tops.append(begin)
      refine ⟨_, rfl, l, _, rfl, .inl (.of el), _, _, rfl, rfl, ?_⟩
      refine ⟨_, rfl, .inl ⟨rfl, _, .of em⟩, _, rfl, m, _, _, rfl, rfl, em, ?_, ?_⟩
      · rw [List.length_map, topsL, List.length_map, List.length_range, List.length_take]
        have : p.parts.length ≤ 2 := by cases p <;> simp [Pg.parts]
        exact sz_lt (by omega)
      have nlm' : l ≠ m := nlm
      have e4l : (upd H' m (.lst ((topsL (p.parts.take i)).map (fun (n : Nat) => V.int (n : Int)) ++ [V.int (1 + (fs.length : Int))]))) l = some (.lst fs) := by rw [upd_ne nlm]; exact el
      have e4m : (upd H' m (.lst ((topsL (p.parts.take i)).map (fun (n : Nat) => V.int (n : Int)) ++ [V.int (1 + (fs.length : Int))]))) m = some (.lst ((topsL (p.parts.take (i + 1))).map fun (n : Nat) => V.int (n : Int))) := by
        rw [upd_same, tk, topsL_snoc, List.map_append, fl]
        simp
      have s4 : Same H (upd H' m (.lst ((topsL (p.parts.take i)).map (fun (n : Nat) => V.int (n : Int)) ++ [V.int (1 + (fs.length : Int))]))) := same_mut s3 hm0
      have t4 : Tu H' (upd H' m (.lst ((topsL (p.parts.take i)).map (fun (n : Nat) => V.int (n : Int)) ++ [V.int (1 + (fs.length : Int))]))) := tu_upd em rfl
      have np3 : p3 ≠ m := ne_of e3 em (by intro z; cases z)
      have e4p : (upd H' m (.lst ((topsL (p.parts.take i)).map (fun (n : Nat) => V.int (n : Int)) ++ [V.int (1 + (fs.length : Int))]))) p3 = some (.tup xs) := by rw [upd_ne np3]; exact e3
      generalize upd H' m (.lst ((topsL (p.parts.take i)).map (fun (n : Nat) => V.int (n : Int)) ++ [V.int (1 + (fs.length : Int))])) = H4 at e4l e4m s4 t4 e4p
      -- found.extend([..])
      refine ⟨_, rfl, .inl ⟨rfl, _, .of e4l⟩, _, rfl, x, q, rfl, rq.mono t4, by omega, by omega, fun l2 ws H5 hl2 s5 e5 r5 => ?_⟩
      refine ⟨l2, rfl, ⟨_, .of e5⟩, fun Dl hD => ?_⟩
      have w2l : ws.length = (nodesOf q).length := by rw [r5.length, List.length_map]
      refine lc_map (K := K) (walk_list (K := K) (a := l2) (xs := ws)) hD ((shiftN (1 + fs.length) (nodesOf q)).map nodeD) (by rw [List.length_map, shiftN_length, w2l]) (by rw [w2l, nodesOf_length]; omega) (fun H6 s6 => .of (s6 _ _ e5)) ?_ ?_
      · rintro j x2 H6 _ d2 hd2 s6 ⟨rfl, hx2⟩ Qe he
        obtain ⟨d3, hd3, r3⟩ := (r5.mono (tu_same s6)).get' hx2
        rw [List.getElem?_map] at hd3
        cases hn : (nodesOf q)[j]? with
        | none => rw [hn] at hd3; cases hd3
        | some y =>
          rw [hn] at hd3
          cases hd3
          unfold shiftN at hd2
          rw [List.getElem?_map, List.getElem?_map, hn] at hd2
          cases hd2
          obtain ⟨t, u, rfl, ht, hu⟩ := node_inv r3
          refine ⟨t, _, rfl, ht, rfl, _, _, rfl, _, _, rfl, rfl, rfl, ?_⟩
          refine ⟨_, rfl, _, rfl, u, rfl, ⟨_, hu⟩, fun Dl2 hD2 => ?_⟩
          refine lc_map (K := K) (walk_tup (K := K) (a := u) (xs := y.2.map fun (n : Nat) => V.int (n : Int))) hD2 ((y.2.map (1 + fs.length + ·)).map fun (n : Nat) => D.int (n : Int)) (by simp) ?_ (fun H7 s7 => (tu_same s7).sq hu) ?_ ?_
          · obtain ⟨r9, _, _, h92, _⟩ := nodes_progs q j y hn
            have : r9.parts.length ≤ 2 := by cases r9 <;> simp [Pg.parts]
            rw [List.length_map]; omega
          · rintro i3 x3 H7 _ d3 hd3 s7 ⟨rfl, hx3⟩ Qe3 he3
            rw [List.getElem?_map] at hx3
            cases hy : y.2[i3]? with
            | none => rw [hy] at hx3; cases hx3
            | some z =>
              rw [hy] at hx3
              cases hx3
              rw [List.getElem?_map, List.getElem?_map, hy] at hd3
              cases hd3
              refine ⟨rfl, _, rfl, _, rfl, _, _, rfl, rfl, ?_⟩
              have e : (1 + (fs.length : Int)) + (z : Int) = ((1 + fs.length + z : Nat) : Int) := by simp
              show Qe3 (.int (1 + (fs.length : Int) + (z : Int))) _
              rw [e]
              exact he3 _ _ (Same.refl _) (.int _)
          · intro H7 w7 s7 e7 r7
            refine .inl ⟨Dl2, _, rfl, .of e7, fun q7 hq7 => ⟨sz2, fun q8 hq8 => ?_⟩⟩
            have s8 : Same H7 (upd (upd H7 q7 (.tup w7)) q8 (.tup [.int (y.1 : Int), .ref q7])) := (same_new hq7).trans (same_new hq8)
            refine he _ _ (s7.trans s8) ?_
            refine .tup (.of upd_same) (.cons (.int _) (.one ?_))
            exact .tup (.of (same_new hq8 _ _ upd_same)) (r7.mono (tu_same s8))
      · intro H6 w6 s6 e6 r6
        have el6 : H6 l = some (.lst fs) := s6 _ _ (s5 _ _ e4l)
        have nle : l ≠ Dl := by
          intro z
          rw [z] at e4l
          rw [s5 _ _ e4l] at hD
          cases hD
        refine ⟨l, Dl, fs, w6, rfl, rfl, el6, e6, ?_, ?_⟩
        · rw [r6.length, List.length_map, shiftN_length, nodesOf_length, fl]
          exact sz_ok (by omega)
        · have t6 : Tu H6 (upd H6 l (.lst (fs ++ w6))) := tu_upd el6 rfl
          refine ⟨_, _, _, _, _, fs ++ w6, rfl, same_mut ((s4.trans s5).trans s6) hl, ?_, upd_same, ?_, ?_⟩
          · have n : p3 ≠ l := ne_of e4p e4l (by intro z; cases z)
            rw [upd_ne n]
            exact s6 _ _ (s5 _ _ e4p)
          · rw [tk, foundL_snoc, List.map_append, ← fl]
            exact (((rf.mono t4).mono ((tu_same s5).trans (tu_same s6))).app r6).mono t6
          · rw [upd_ne nlm.symm]
            exact s6 _ _ (s5 _ _ e4m)
    · rintro σ H' ⟨c1, c4, c5, c6, c7, fs, rfl, s3, e3, el, rf, em⟩
      rw [hxl, List.take_length] at rf em
      -- return [(program[0], tuple(tops)), *found]
      refine ⟨_, rfl, a, _, 0, _, rfl, rfl, (tu_same s3).sq ha, atI_nat (j := 0) rfl, ?_⟩
      refine ⟨_, rfl, .inl ⟨m, _, rfl, .of em, fun q1 hq1 => ⟨sz2, fun q2 hq2 => ?_⟩⟩⟩
      have s5 := (same_new (o := .tup ((topsL p.parts).map fun (n : Nat) => V.int (n : Int))) hq1).trans (same_new (o := .tup [.int (p.sign : Int), .ref q1]) hq2)
      refine ⟨_, rfl, l, fs, rfl, .inr (.of (s5 _ _ el)), ?_⟩
      have fz := foundL_le p p.parts.length
      rw [List.take_length] at fz
      refine ⟨sz_ok (by simp only [List.length_cons, List.length_append, List.length_nil, rf.length, List.length_map]; omega), fun q3 hq3 => ?_⟩
      have s6 := s5.trans (same_new (o := .lst (V.ref q2 :: (fs ++ []))) hq3)
      refine k q3 _ _ ((s3.trans s5).free hq3) (s3.trans s6) upd_same ?_
      have rf' : RpL K H' (fs ++ []) ((foundL p.parts).map nodeD) := by rw [List.append_nil]; exact rf
      rw [nodesOf_parts, List.map_cons]
      refine .cons ?_ (rf'.mono (tu_same s6))
      refine .tup (.of (same_new hq3 _ _ upd_same)) (.cons (.int _) (.one ?_))
      exact nats_of (.of (same_new hq3 _ _ (same_new hq2 _ _ upd_same)))
end
end K56
set_option Elab.async false
set_option linter.all false
set_option maxRecDepth 100000
set_option maxHeartbeats 4000000
namespace K56
open PySem PySem.Spec PyProof.Rows L2
/-! ### Counted -/
theorem wayP_snoc : ∀ (vs : List (Nat → Nat)) (ks : List Nat) (f : Nat → Nat) (k : Nat), vs.length = ks.length → wayP (vs ++ [f]) (ks ++ [k]) = wayP vs ks * f k
  | [], [], f, k, _ => by simp [wayP]
  | [], _ :: _, _, _, h => by simp at h
  | _ :: _, [], _, _, h => by simp at h
  | v :: vs, a :: ks, f, k, h => by
    have q := wayP_snoc vs ks f k (by simpa using h)
    simp only [List.cons_append, wayP, q]
    rw [Nat.mul_assoc]
theorem take_snoc {α : Type} {l : List α} {i : Nat} {x : α} (h : l[i]? = some x) : l.take (i + 1) = l.take i ++ [x] := by rw [List.take_succ, h]; rfl
theorem slt_same {H H' : Hp} {a C dx : Addr} {vs : List (Option V)} (h : SlX.Slt H a C dx vs) (e : Same H H') : SlX.Slt H' a C dx vs := by
  rcases h with ⟨h1, h2⟩ | ⟨h1, h2⟩
  · exact .inl ⟨e _ _ h1, h2⟩
  · exact .inr ⟨e _ _ h1, e _ _ h2⟩
/-- an instance with slots: its two objects are no tuples and no lists -/
structure Sla (H : Hp) (a C dx : Addr) (vs : List (Option V)) : Prop where
  s : SlX.Slt H a C dx vs
  ne : dx ≠ a
  oa : ∃ o, H a = some o ∧ noTup o = true ∧ ∀ xs, o ≠ .lst xs
  od : ∃ o, H dx = some o ∧ noTup o = true ∧ ∀ xs, o ≠ .lst xs
theorem Sla.same {H H' : Hp} {a C dx : Addr} {vs : List (Option V)} (h : Sla H a C dx vs) (e : Same H H') : Sla H' a C dx vs := by
  obtain ⟨oa, ha, na⟩ := h.oa
  obtain ⟨od, hd, nd⟩ := h.od
  exact ⟨slt_same h.s e, h.ne, ⟨oa, e _ _ ha, na⟩, ⟨od, e _ _ hd, nd⟩⟩
theorem Sla.put {H : Hp} {a C dx : Addr} {vs vs' : List (Option V)} (h : Sla H a C dx vs) : Sla (SlX.slH H a C dx vs') a C dx vs' :=
  ⟨SlX.slH_slt h.ne, h.ne, ⟨_, upd_same, by unfold SlX.SlO; rfl, fun xs z => by unfold SlX.SlO at z; cases z⟩, ⟨.xd [], by unfold SlX.slH; rw [upd_ne h.ne, upd_same], rfl, fun xs z => by cases z⟩⟩
theorem Sla.tu {H : Hp} {a C dx : Addr} {vs vs' : List (Option V)} (h : Sla H a C dx vs) : Tu H (SlX.slH H a C dx vs') := by
  obtain ⟨oa, ha, na, _⟩ := h.oa
  obtain ⟨od, hd, nd, _⟩ := h.od
  unfold SlX.slH
  exact (tu_upd hd nd).trans (tu_upd (by rw [upd_ne h.ne.symm]; exact ha) na)
theorem Sla.lst {H : Hp} {a C dx l : Addr} {vs vs' : List (Option V)} {xs : List V} (h : Sla H a C dx vs) (hl : H l = some (.lst xs)) : SlX.slH H a C dx vs' l = some (.lst xs) := by
  obtain ⟨oa, ha, _, na⟩ := h.oa
  obtain ⟨od, hd, _, nd⟩ := h.od
  rw [SlX.slH_ne (fun z => na xs (by rw [z, ha] at hl; exact Option.some.inj hl)) (fun z => nd xs (by rw [z, hd] at hl; exact Option.some.inj hl))]
  exact hl
theorem Sla.mut {H0 H : Hp} {a C dx : Addr} {vs' : List (Option V)} (e : Same H0 H) (h1 : H0 a = none) (h2 : H0 dx = none) : Same H0 (SlX.slH H a C dx vs') := by
  unfold SlX.slH
  exact same_mut (same_mut e h2) h1
theorem Sla.upd {H : Hp} {a C dx l : Addr} {vs : List (Option V)} {xs ys : List V} (h : Sla H a C dx vs) (hl : H l = some (.lst xs)) : Sla (upd H l (.lst ys)) a C dx vs := by
  obtain ⟨oa, ha, na, ma⟩ := h.oa
  obtain ⟨od, hd, nd, md⟩ := h.od
  have n1 : a ≠ l := fun z => ma xs (by rw [z, hl] at ha; exact (Option.some.inj ha).symm)
  have n2 : dx ≠ l := fun z => md xs (by rw [z, hl] at hd; exact (Option.some.inj hd).symm)
  refine ⟨?_, h.ne, ⟨oa, by rw [upd_ne n1]; exact ha, na, ma⟩, ⟨od, by rw [upd_ne n2]; exact hd, nd, md⟩⟩
  rcases h.s with ⟨h1, h2⟩ | ⟨h1, h2⟩
  · exact .inl ⟨by rw [upd_ne n1]; exact h1, h2⟩
  · exact .inr ⟨by rw [upd_ne n1]; exact h1, by rw [upd_ne n2]; exact h2⟩
abbrev cC (K : PySem.W.Frag) : Addr := He.ga K "Counted"
def spWays (K : PySem.W.Frag) : Sp := fun vs H Q _ => ∃ (x dx u tp : Addr) (slots : List (Option V)) (l : Addr) (ws : List V) (ts ks : List Nat) (fs : List (Nat → Nat)),
  vs = [.ref x, .ref u, .ref tp] ∧ SlX.Slt H x (cC K) dx slots ∧ slots[1]? = some (some (.ref l)) ∧ H l = some (.lst ws) ∧ SqT K H u (ts.map fun (n : Nat) => V.int (n : Int)) ∧ SqT K H tp (ks.map fun (n : Nat) => V.int (n : Int)) ∧
  ts.length = ks.length ∧ fs.length = ks.length ∧ ks.length ≤ 2 ∧
  (∀ (j t : Nat) (f : Nat → Nat) (k : Nat), ts[j]? = some t → fs[j]? = some f → ks[j]? = some k → ∃ (q : Addr) (row : List V), ws[t]? = some (.ref q) ∧ SqT K H q row ∧ row[k]? = some (.int (f k : Nat)) ∧ f k < 2 ^ 6000) ∧
  ∀ H', Same H H' → Q (.int (wayP fs ks : Nat)) H'
section
variable {P : Program} {w : World} {K : PySem.W.Frag} {mg : Str → Option Value} {base : Heap}
theorem natAbs_lt {n b : Nat} (h : n < 2 ^ b) : ((n : Int)).natAbs < 2 ^ b := by rw [Int.natAbs_natCast]; exact h
theorem sc_Counted_ways : FnScope ["self", "tops", "parts", "found", "top", "part"] ["self", "tops", "parts"] (defScope s_Counted_ways) := ⟨rfl, rfl, rfl, by decide +kernel, rfl, by decide +kernel, by decide +kernel⟩
theorem ok_ways (A : Hd K mg) : Me P w K mg base (He.ma K (cC K) "ways") ["self", "tops", "parts"] 1 (spWays K) := by
  obtain ⟨fd, F⟩ := A.f_Counted_ways
  refine Me.of F sc_Counted_ways (fun _ _ _ _ _ _ us hl => match us, hl with | [_, _, _], _ => rfl) (fun vs H Q E h => (by obtain ⟨x, dx, u, tp, slots, l, ws, ts, ks, fs, rfl, _⟩ := h; rfl)) (fun cdv Ar outer s H vs Q E hr h => ?_)
  obtain ⟨x, dx, u, tp, slots, l, ws, ts, ks, fs, rfl, hs, hn, hl, hu, ht, l1, l2, l3, hv, k⟩ := h
  refine ⟨_, (pss_cons (ps_set (i := 3) sc_Counted_ways.nd rfl (.inl rfl) pe_int)
  (pss_cons (ps_for PassesOwn.never (by rfl) (RZ.pi_zipA (by rfl) A.z_zip (pa_cons (pv 1) (pa_cons (pv 2) pa_nil))) (pg_tup rfl (pgs_cons (pg_name (i := 4) sc_Counted_ways.nd rfl (.inl rfl)) (pgs_cons (pg_name (i := 5) sc_Counted_ways.nd rfl (.inl rfl)) pgs_nil)))
  (pss_one (ps_set (i := 3) sc_Counted_ways.nd rfl (.inl rfl) (pe_op op_mulW (pv 3) (pe_ix ix_tup (pe_ix ix_list (SlX.pe_sl (pv 0)) (pv 4) (fun _ _ => rfl)) (pv 5) (fun _ _ => rfl))))))
  (pss_one (ps_ret (pv 3))))), ?_⟩
  refine ⟨_, rfl, _, rfl, u, tp, _, _, rfl, .inr ⟨hu, ht, ?_⟩⟩
  refine RZ.for_zipT (K := K) (xs := ts.map fun (n : Nat) => V.int (n : Int)) (ys := ks.map fun (n : Nat) => V.int (n : Int)) (by simp [l1]) (fun i σ H' => ∃ s4 s5, σ = [some (.ref x), some (.ref u), some (.ref tp), some (.int (wayP (fs.take i) (ks.take i) : Nat)), s4, s5] ∧ Same H H' ∧ wayP (fs.take i) (ks.take i) < 2 ^ (6000 * i + 1) ∧ i ≤ ks.length)
    ⟨_, _, rfl, Same.refl _, by simp [wayP], Nat.zero_le _⟩ (fun i σ H' ⟨_, _, _, e, _⟩ => ⟨(tu_same e).sq hu, (tu_same e).sq ht⟩) ?_ ?_
  · rintro i y z T σ H' hy hz ⟨s4, s5, rfl, e, b, hi⟩ hT
    rw [List.getElem?_map] at hy hz
    cases ey : ts[i]? with
    | none => rw [ey] at hy; cases hy
    | some t =>
      cases ez : ks[i]? with
      | none => rw [ez] at hz; cases hz
      | some kk =>
        rw [ey] at hy
        rw [ez] at hz
        cases hy
        cases hz
        have hik : i < ks.length := (List.getElem?_eq_some_iff.mp ez).1
        have ef : fs[i]? = some fs[i] := by simp [l2, hik]
        generalize fs[i] = f at ef
        obtain ⟨q, row, h1, h2, h3, h4⟩ := hv i t f kk ey ef ez
        have e2 : Same H (upd H' T (.tup [.int (t : Int), .int (kk : Int)])) := e.trans (same_new hT)
        refine ⟨T, _, rfl, .of upd_same, rfl, _, _, rfl, _, _, rfl, rfl, ?_⟩
        refine ⟨_, rfl, _, rfl, x, cC K, dx, _, slots, _, _, rfl, slt_same hs e2, A.scls, A.slotU, hn, _, rfl, l, ws, _, _, rfl, rfl, .of (e2 _ _ hl), atI_nat h1, ?_⟩
        refine ⟨_, rfl, q, row, _, _, rfl, rfl, (tu_same e2).sq h2, atI_nat h3, _, _, rfl, rfl, ?_, ?_⟩
        · refine wide_mul (natAbs_lt b) (natAbs_lt h4) (by omega) (by decide) (by omega)
        · have ew : wayP (fs.take (i + 1)) (ks.take (i + 1)) = wayP (fs.take i) (ks.take i) * f kk := by
            rw [take_snoc ef, take_snoc ez, wayP_snoc _ _ _ _ (by rw [List.length_take, List.length_take, l2])]
          refine ⟨some (.int (t : Int)), some (.int (kk : Int)), ?_, e2, ?_, hik⟩
          · rw [ew]
            simp only [Int.natCast_mul]
            rfl
          · rw [ew, show 6000 * (i + 1) + 1 = (6000 * i + 1) + 6000 by omega, Nat.pow_add]
            exact Nat.mul_lt_mul'' b h4
  · rintro σ H' ⟨s4, s5, rfl, e, b, hi⟩
    refine ⟨_, rfl, ?_⟩
    have e1 : fs.take (ts.map fun (n : Nat) => V.int (n : Int)).length = fs := by rw [List.length_map, l1, ← l2]; exact List.take_length ..
    have e2 : ks.take (ts.map fun (n : Nat) => V.int (n : Int)).length = ks := by rw [List.length_map, l1]; exact List.take_length ..
    rw [e1, e2]
    exact k H' e
end
end K56
set_option Elab.async false
set_option linter.all false
set_option maxRecDepth 100000
set_option maxHeartbeats 4000000
namespace K56
open PySem PySem.Spec PyProof.Rows L2
/-! ### Counted(..), readings_many -/
def spCInit (K : PySem.W.Frag) : Sp := fun vs H Q _ => ∃ (H0 : Hp) (x dx d : Addr) (tv pv : V) (t : Tb) (p : Pg),
  vs = [.ref x, tv, pv, .ref d] ∧ Same H0 H ∧ H0 x = none ∧ H0 dx = none ∧ dx ≠ x ∧ H x = some (.ins (cC K) dx []) ∧ H dx = some (.own x) ∧ H0 d = some (.dK []) ∧ Rp K H tv t.d ∧ t.ok ∧ Rp K H pv p.d ∧ p.ok t.signs ∧ p.height < 40 ∧ p.size ≤ 1100 ∧
  ∀ (l : Addr) (ws : List V) (v0 : V) (slots : List (Option V)) (H' : Hp), Same H0 H' → Sla H' x (cC K) dx slots → slots[1]? = some (some (.ref l)) → H' l = some (.lst ws) → ws[0]? = some v0 → Rp K H' v0 (natD (cntL t p)) → Q .non H'
/-- the nodes from place n - i on are told -/
def DoneN (K : PySem.W.Frag) (H : Hp) (t : Tb) (qs : List Pg) (lo : Nat) (ws : List V) : Prop :=
  ws.length = qs.length ∧ ∀ (j : Nat) (q : Pg), lo ≤ j → qs[j]? = some q → ∃ a, ws[j]? = some (.ref a) ∧ SqT K H a ((cntL t q).map fun (n : Nat) => V.int (n : Int))
theorem DoneN.mono {K : PySem.W.Frag} {H H' : Hp} {t : Tb} {qs : List Pg} {lo : Nat} {ws : List V} (h : DoneN K H t qs lo ws) (e : Tu H H') : DoneN K H' t qs lo ws := ⟨h.1, fun j q hj hq => by
  obtain ⟨a, h1, h2⟩ := h.2 j q hj hq
  exact ⟨a, h1, e.sq h2⟩⟩
theorem rep_zero (n : Nat) : (List.replicate n [V.int 0]).flatten = List.replicate n (V.int 0) := by
  induction n with
  | zero => rfl
  | succ n ih => rw [List.replicate_succ, List.flatten_cons, ih, List.replicate_succ]; rfl
def ledL (es : List En) (s : Nat) (vs : List (Nat → Nat)) (m : Nat) : List V := (List.range m).map fun k => V.int (led es s vs k : Nat)
theorem ledL_nil (s : Nat) (vs : List (Nat → Nat)) (m : Nat) : List.replicate m (V.int 0) = ledL [] s vs m := by
  unfold ledL
  refine List.ext_getElem (by simp) fun i h1 h2 => ?_
  simp [led]
theorem ledL_len (es : List En) (s : Nat) (vs : List (Nat → Nat)) (m : Nat) : (ledL es s vs m).length = m := by unfold ledL; rw [List.length_map, List.length_range]
theorem ledL_get (es : List En) (s : Nat) (vs : List (Nat → Nat)) {m k : Nat} (h : k < m) : (ledL es s vs m)[k]? = some (V.int (led es s vs k : Nat)) := by
  unfold ledL
  rw [List.getElem?_map, List.getElem?_range h]; rfl
theorem ledL_skip (es : List En) {i : Nat} {e : En} (h : es[i]? = some e) (s : Nat) (vs : List (Nat → Nat)) (m : Nat) (hn : e.sign ≠ s) : ledL (es.take (i + 1)) s vs m = ledL (es.take i) s vs m := by
  unfold ledL
  refine List.map_congr_left fun k _ => ?_
  rw [led_take es h, if_neg fun z => hn z.1]; rfl
theorem ledL_put (es : List En) {i : Nat} {e : En} (h : es[i]? = some e) (vs : List (Nat → Nat)) (m : Nat) : (ledL (es.take i) e.sign vs m).set e.kind (V.int ((led (es.take i) e.sign vs e.kind : Nat) + (wayP vs e.parts : Nat))) = ledL (es.take (i + 1)) e.sign vs m := by
  refine List.ext_getElem? fun k => ?_
  by_cases hk : k < m
  · rw [ledL_get _ _ _ hk, led_take es h]
    by_cases ek : e.kind = k
    · rw [← ek, List.getElem?_set_self (by rw [ledL_len, ek]; exact hk), if_pos ⟨rfl, rfl⟩]
      simp
    · rw [List.getElem?_set_ne ek, ledL_get _ _ _ hk, if_neg fun z => ek z.2]
      simp
  · rw [List.getElem?_eq_none (by rw [List.length_set, ledL_len]; omega), List.getElem?_eq_none (by rw [ledL_len]; omega)]
theorem cntL_led (t : Tb) (q : Pg) : ((cntL t q).map fun (n : Nat) => V.int (n : Int)) = ledL t.ents q.sign (q.parts.map (cnt t.ents)) t.many := by
  unfold cntL ledL
  rw [List.map_map, ← cnt_eq]; rfl
section
variable {P : Program} {w : World} {K : PySem.W.Frag} {mg : Str → Option Value} {base : Heap}
theorem sc_Counted_init : FnScope ["self", "table", "program", "pins", "node", "numbers", "sign", "tops", "its", "parts", "kind"] ["self", "table", "program", "pins"] (defScope s_Counted_init) := ⟨rfl, rfl, rfl, by decide +kernel, rfl, by decide +kernel, by decide +kernel⟩
theorem ok_cinit (A : Hd K mg) : Me P w K mg base (He.ma K (cC K) "__init__") ["self", "table", "program", "pins"] 42 (spCInit K) := by
  obtain ⟨fd, F⟩ := A.f_Counted_init
  refine Me.of F sc_Counted_init (fun _ _ _ _ _ _ us hl => match us, hl with | [_, _, _, _], _ => rfl) (fun vs H Q E h => (by obtain ⟨H0, x, dx, d, tv, pv, t, p, rfl, _⟩ := h; rfl)) (fun cdv Ar outer s H vs Q E hr h => ?_)
  obtain ⟨H0, x, dx, d, tv, pw, t, p, rfl, s0, x0, d0, ne, hx, hdx, hd, rt, tok, rp, pok, hh, hz, k⟩ := h
  refine ⟨_, (pss_cons (ps_asg (pe_tup (pa_cons (pv 1) (pa_cons (pe_cl (ok_nodes_in A 40) (hr.mono (by decide)) (by rfl) (pa_cons (pv 2) pa_nil)) pa_nil))) (pg_tup rfl (pgs_cons (pg_sl (pv 0)) (pgs_cons (pg_sl (pv 0)) pgs_nil))))
  (pss_cons (SlX.ps_sl (pv 0) (pe_op op_rep (pe_lst (pa_cons (pe_tup pa_nil) pa_nil)) (pe_callB call_len_seq (by rfl) A.z_len PySem.boot_len (pa_cons (SlX.pe_sl (pv 0)) pa_nil))))
  (pss_one (ps_for PassesOwn.never (by rfl) (pi_range3 (by rfl) A.z_range (pa_cons (pe_op op_sub (pe_callB call_len_seq (by rfl) A.z_len PySem.boot_len (pa_cons (SlX.pe_sl (pv 0)) pa_nil)) pe_int) (pa_cons (pe_un un_neg pe_int) (pa_cons (pe_un un_neg pe_int) pa_nil)))) (pg_name (i := 4) sc_Counted_init.nd rfl (.inl rfl))
  (pss_cons (ps_asg (pe_ix ix_list (SlX.pe_sl (pv 0)) (pv 4) (fun _ _ => rfl)) (pg_tup rfl (pgs_cons (pg_name (i := 6) sc_Counted_init.nd rfl (.inl rfl)) (pgs_cons (pg_name (i := 7) sc_Counted_init.nd rfl (.inl rfl)) pgs_nil))))
  (pss_cons (ps_set (i := 5) sc_Counted_init.nd rfl (.inl rfl) (pe_op op_rep (pe_lst (pa_cons pe_int pa_nil)) (pe_ix ix_tup (pv 1) pe_int (fun _ _ => rfl))))
  (pss_cons (ps_for PassesOwn.never (by rfl) (pi_tup (pe_ix ix_tup (pv 1) pe_int (fun _ _ => rfl))) (pg_tup rfl (pgs_cons (pg_name (i := 8) sc_Counted_init.nd rfl (.inl rfl)) (pgs_cons (pg_name (i := 9) sc_Counted_init.nd rfl (.inl rfl)) (pgs_cons (pg_name (i := 10) sc_Counted_init.nd rfl (.inl rfl)) pgs_nil))))
  (pss_one (ps_if (PW.pt (pw_and (pt_cmpR op_eq (pv 8) (pv 6) (nomark _)) (pw_and1 (pt_cmpR op_eq (pe_dget2 (hu_of hr) (pv 3) (pv 4) (pv 10) ⟨by rfl, by rfl, by rfl, by rfl⟩) (pv 10) (nomark _))))) (pss_one (ps_augS (pv 5) (pv 10) get_list (pe_meSl (ok_ways A) A.scls A.me_ways (hr.mono (by decide)) (pv 0) (pa_cons (pv 7) (pa_cons (pv 9) pa_nil))) ip_add set_list)) pss_nil)))
  (pss_one (ps_asg (pe_tupleOf (by rfl) A.z_tuple (pv 5)) (pg_sub (SlX.pe_sl (pv 0)) (pv 4) set_list)))))))))), ?_⟩
  obtain ⟨ta, ts, te, evs, rfl, ht, hts, hte, re⟩ := tb_inv rt
  have A0 : Sla H x (cC K) dx [] := ⟨.inl ⟨hx, rfl⟩, ne, ⟨_, hx, rfl, fun _ z => by cases z⟩, ⟨_, hdx, rfl, fun _ z => by cases z⟩⟩
  -- self.its_table, self.its_nodes = (table, nodes_in(program))
  refine ⟨_, rfl, _, rfl, pw, p, rfl, rp, hh, by omega, fun l ws H1 hl s1 e1 r1 => ⟨sz2, fun q hq => ?_⟩⟩
  have s2 : Same H (upd H1 q (.tup [.ref ta, .ref l])) := s1.trans (same_new hq)
  have el2 : (upd H1 q (.tup [.ref ta, .ref l])) l = some (.lst ws) := same_new hq _ _ e1
  have rl2 := r1.mono (tu_new (o := .tup [V.ref ta, V.ref l]) hq)
  have q2 : (upd H1 q (.tup [.ref ta, .ref l])) q = some (.tup [.ref ta, .ref l]) := upd_same
  show gTup K 2 _ _ _ (upd H1 q (.tup [.ref ta, .ref l])) _
  generalize upd H1 q (.tup [.ref ta, .ref l]) = H2 at s2 el2 rl2 q2
  have A2 := A0.same s2
  refine ⟨q, _, rfl, .of q2, rfl, _, _, rfl, _, rfl, x, _, dx, _, _, _, rfl, A2.s, A.scls, A.slotT, ?_⟩
  have A3 := A2.put (vs' := SlX.putS 2 (.ref ta) [])
  have t3 := A2.tu (vs' := SlX.putS 2 (.ref ta) [])
  have el3 := A2.lst (vs' := SlX.putS 2 (.ref ta) []) el2
  have s3 : Same H0 (SlX.slH H2 x (cC K) dx (SlX.putS 2 (.ref ta) [])) := Sla.mut (s0.trans s2) x0 d0
  refine ⟨_, _, rfl, _, rfl, x, _, dx, _, _, _, rfl, A3.s, A.scls, A.slotN, rfl, ?_⟩
  have A4 := A3.put (vs' := SlX.putS 0 (.ref l) (SlX.putS 2 (.ref ta) []))
  have t4 := t3.trans (A3.tu (vs' := SlX.putS 0 (.ref l) (SlX.putS 2 (.ref ta) [])))
  have el4 := A3.lst (vs' := SlX.putS 0 (.ref l) (SlX.putS 2 (.ref ta) [])) el3
  have s4 : Same H0 (SlX.slH (SlX.slH H2 x (cC K) dx (SlX.putS 2 (.ref ta) [])) x (cC K) dx (SlX.putS 0 (.ref l) (SlX.putS 2 (.ref ta) []))) := Sla.mut s3 x0 d0
  show tSeq _ _ _ _ (SlX.slH (SlX.slH H2 x (cC K) dx (SlX.putS 2 (.ref ta) [])) x (cC K) dx (SlX.putS 0 (.ref l) (SlX.putS 2 (.ref ta) [])))
  have tH : Tu H (SlX.slH (SlX.slH H2 x (cC K) dx (SlX.putS 2 (.ref ta) [])) x (cC K) dx (SlX.putS 0 (.ref l) (SlX.putS 2 (.ref ta) []))) := (tu_same s2).trans t4
  have rl4 := rl2.mono t4
  generalize SlX.slH (SlX.slH H2 x (cC K) dx (SlX.putS 2 (.ref ta) [])) x (cC K) dx (SlX.putS 0 (.ref l) (SlX.putS 2 (.ref ta) [])) = H4 at A4 el4 s4 tH rl4
  clear t4 A3 t3 el3 s3 A2 q2 rl2 el2 s2
  have hlen : ws.length = p.size := by rw [r1.length, List.length_map, nodesOf_length]
  -- self.its_numbers = [()] * len(self.its_nodes)
  refine ⟨sz0, fun b1 hb1 => ⟨sz1, fun b2 hb2 => ?_⟩⟩
  have s5 := (same_new (o := .tup []) hb1).trans (same_new (o := .lst [V.ref b1]) hb2)
  have A5 := A4.same s5
  refine ⟨_, rfl, x, _, dx, _, _, _, _, rfl, A5.s, A.scls, A.slotN, rfl, l, ws, rfl, .inl (.of (s5 _ _ el4)), b2, _, _, rfl, rfl, upd_same, by omega, by omega, ?_, fun b3 hb3 => ?_⟩
  · simp only [List.length_singleton, Int.toNat_natCast]
    exact sz_ok (by omega)
  have s6 := s5.trans (same_new (o := .lst (List.replicate ((ws.length : Int)).toNat [V.ref b1]).flatten) hb3)
  have A6 := A4.same s6
  refine ⟨_, rfl, x, _, dx, _, _, _, rfl, A6.s, A.scls, A.slotU, ?_⟩
  obtain ⟨us, eus⟩ : ∃ us, (List.replicate ((ws.length : Int)).toNat [V.ref b1]).flatten = us := ⟨_, rfl⟩
  have hus : us.length = p.size := by
    rw [← eus]
    have : ∀ n : Nat, (List.replicate n [V.ref b1]).flatten.length = n := fun n => by induction n with
      | zero => rfl
      | succ n ih => rw [List.replicate_succ, List.flatten_cons, List.length_append, ih]; simp; omega
    rw [this, Int.toNat_natCast, hlen]
  have A7 := A6.put (vs' := SlX.putS 1 (.ref b3) (SlX.putS 0 (.ref l) (SlX.putS 2 (.ref ta) [])))
  have t7 := (tu_same s6).trans (A6.tu (vs' := SlX.putS 1 (.ref b3) (SlX.putS 0 (.ref l) (SlX.putS 2 (.ref ta) []))))
  have el7 := A6.lst (vs' := SlX.putS 1 (.ref b3) (SlX.putS 0 (.ref l) (SlX.putS 2 (.ref ta) []))) (s6 _ _ el4)
  have eu7 := A6.lst (vs' := SlX.putS 1 (.ref b3) (SlX.putS 0 (.ref l) (SlX.putS 2 (.ref ta) []))) (l := b3) (xs := us) (by rw [← eus]; exact upd_same)
  have s7 : Same H0 (SlX.slH _ x (cC K) dx (SlX.putS 1 (.ref b3) (SlX.putS 0 (.ref l) (SlX.putS 2 (.ref ta) [])))) := Sla.mut (s4.trans s6) x0 d0
  have hb30 : H0 b3 = none := s4.free (s5.free hb3)
  show tSeq _ _ _ _ (SlX.slH _ x (cC K) dx (SlX.putS 1 (.ref b3) (SlX.putS 0 (.ref l) (SlX.putS 2 (.ref ta) []))))
  generalize SlX.slH (upd _ b3 _) x (cC K) dx (SlX.putS 1 (.ref b3) (SlX.putS 0 (.ref l) (SlX.putS 2 (.ref ta) []))) = H7 at A7 t7 el7 eu7 s7
  have tH7 : Tu H H7 := tH.trans t7
  have rl7 := rl4.mono t7
  have hsl : ∀ v, (SlX.putS 1 v (SlX.putS 0 (.ref l) (SlX.putS 2 (.ref ta) []))) = [some (.ref l), some v, some (.ref ta)] := fun _ => rfl
  rw [hsl] at A7
  have nlb : l ≠ b3 := ne_of_none (s5 _ _ el4) hb3
  clear A6 A5 s6 s5 eus hb3 hb2 hb1 rl4 tH el4
  -- the loop
  refine ⟨_, rfl, x, _, dx, _, _, _, _, rfl, A7.s, A.scls, A.slotN, rfl, l, ws, rfl, .inl (.of el7), _, _, rfl, rfl, _, rfl, _, rfl, _, _, _, _, rfl, RgC.neg (i := (ws.length : Int) - 1) (j := -1) (by omega) (by omega) (by decide) (by decide), ?_⟩
  have en : (((ws.length : Int) - 1) - -1).toNat = p.size := by omega
  rw [en]
  refine for_rangeC (fun i σ H' => ∃ s4 s5 s6 s7 s8 s9 s10 us, σ = [some (.ref x), some (.ref ta), some pw, some (.ref d), s4, s5, s6, s7, s8, s9, s10] ∧ Same H0 H' ∧ Tu H H' ∧ Sla H' x (cC K) dx [some (.ref l), some (.ref b3), some (.ref ta)] ∧ H' l = some (.lst ws) ∧ RpL K H' ws ((nodesOf p).map nodeD) ∧
    H' b3 = some (.lst us) ∧ DoneN K H' t (progsOf p) (p.size - i) us) ⟨_, _, _, _, _, _, _, us, rfl, s7, tH7, A7, el7, rl7, eu7, by rw [progsOf_length]; exact hus, fun j q hj hq => ?_⟩ ?_ ?_
  · have := (List.getElem?_eq_some_iff.mp hq).1
    rw [progsOf_length] at this
    omega
  · rintro i σ H' hi ⟨c4, c5, c6, c7, c8, c9, c10, us, rfl, s0', tH', A', el, rl, eu, hdn⟩
    have ei : ((ws.length : Int) - 1 + (i : Nat) * -1) = ((p.size - 1 - i : Nat) : Int) := by omega
    rw [ei]
    -- sign, tops = self.its_nodes[node]
    have hj : p.size - 1 - i < (nodesOf p).length := by rw [nodesOf_length]; omega
    have hn : (nodesOf p)[p.size - 1 - i]? = some (nodesOf p)[p.size - 1 - i] := by simp [hj]
    generalize (nodesOf p)[p.size - 1 - i] = nd at hn
    obtain ⟨r, hr1, hr2, hr3, hr4⟩ := nodes_progs p _ nd hn
    obtain ⟨v, hv, rv⟩ := rl.get (d := nodeD nd) (by rw [List.getElem?_map, hn]; rfl)
    obtain ⟨na, nu, rfl, hna, hnu⟩ := node_inv rv
    refine ⟨_, rfl, x, _, dx, _, _, _, _, rfl, A'.s, A.scls, A.slotN, rfl, _, rfl, l, ws, _, _, rfl, rfl, .of el, atI_nat hv, na, _, rfl, hna, rfl, _, _, rfl, _, _, rfl, rfl, ?_⟩
    -- numbers = [0] * table[0]
    refine ⟨sz1, fun b1 hb1 => ?_⟩
    have s1' := same_new (o := .lst [V.int 0]) hb1
    refine ⟨_, rfl, ta, _, 0, _, rfl, rfl, (tu_same s1').sq (tH'.sq ht), atI_nat (j := 0) rfl, b1, _, _, rfl, rfl, upd_same, by omega, by have := tok.m4; omega, ?_, fun b2 hb2 => ?_⟩
    · have := tok.m4
      simp only [List.length_singleton, Int.toNat_natCast]
      exact sz_ok (by omega)
    have s2' := s1'.trans (same_new (o := .lst (List.replicate ((t.many : Int)).toNat [V.int 0]).flatten) hb2)
    have eb2 : (upd (upd H' b1 (.lst [V.int 0])) b2 (.lst (List.replicate ((t.many : Int)).toNat [V.int 0]).flatten)) b2 = some (.lst (ledL [] r.sign (r.parts.map (cnt t.ents)) t.many)) := by
      rw [upd_same, Int.toNat_natCast, rep_zero, ledL_nil r.sign (r.parts.map (cnt t.ents))]
    have n20 : H' b2 = none := s1'.free hb2
    show tSeq _ _ _ _ (upd (upd H' b1 (.lst [V.int 0])) b2 (.lst (List.replicate ((t.many : Int)).toNat [V.int 0]).flatten))
    generalize upd (upd H' b1 (.lst [V.int 0])) b2 (.lst (List.replicate ((t.many : Int)).toNat [V.int 0]).flatten) = H8 at s2' eb2
    clear s1' hb1 hb2
    have n23 : b2 ≠ b3 := (ne_of_none eu n20).symm
    -- for its, parts, kind in table[2]
    refine ⟨_, rfl, ta, _, 2, _, rfl, rfl, (tu_same s2').sq (tH'.sq ht), atI_nat (j := 2) rfl, te, rfl, ⟨_, (tu_same s2').sq (tH'.sq hte)⟩, ?_⟩
    have evl : evs.length = t.ents.length := by rw [re.length, List.length_map]
    refine for_tup (K := K) (a := te) (xs := evs) (fun i2 σ H9 => ∃ s8 s9 s10, σ = [some (.ref x), some (.ref ta), some pw, some (.ref d), some (.int ((p.size - 1 - i : Nat) : Int)), some (.ref b2), some (.int (nd.1 : Int)), some (.ref nu), s8, s9, s10] ∧ Same H' H9 ∧
      H9 b2 = some (.lst (ledL (t.ents.take i2) r.sign (r.parts.map (cnt t.ents)) t.many))) ⟨_, _, _, rfl, s2', by rw [List.take_zero]; exact eb2⟩ (fun i2 σ H9 _ ⟨_, _, _, _, e, _⟩ => (tu_same e).sq (tH'.sq hte)) ?_ ?_
    · rintro i2 ev σ H9 hev ⟨c8, c9, c10, rfl, s9, e9⟩
      have hil : i2 < t.ents.length := by rw [← evl]; exact (List.getElem?_eq_some_iff.mp hev).1
      have hen : t.ents[i2]? = some t.ents[i2] := by simp [hil]
      generalize t.ents[i2] = en at hen
      obtain ⟨dd, hdd, rd⟩ := re.get' hev
      rw [List.getElem?_map, hen] at hdd
      cases hdd
      obtain ⟨ea, ep, rfl, hea, hep⟩ := en_inv rd
      have eok := tok.en en (List.mem_of_getElem? hen)
      have t9 : Tu H H9 := tH'.trans (tu_same s9)
      refine ⟨ea, _, rfl, t9.sq hea, rfl, _, _, rfl, _, _, rfl, _, _, rfl, rfl, ?_⟩
      refine ⟨_, rfl, _, rfl, rfl, _, rfl, ite2 (fun z => ?_) (fun z => ?_)⟩
      · have es : en.sign = r.sign := by
          have z2 := of_decide_eq_true z
          injection z2 with z3
          rw [← hr2]; omega
        have hdd : H9 d = some (.dK []) := s9 _ _ (s0' _ _ hd)
        refine ⟨_, rfl, d, rfl, .inl ⟨_, .inl hdd⟩, _, rfl, _, rfl, _, DGet.k (k := Sum.inl _) hdd, _, rfl, rfl, _, rfl, ite2 (fun _ => ?_) (fun z => absurd (decide_eq_true rfl) z)⟩
        have ear : r.parts.length = en.parts.length := by
          have h1 := ok_arity (progs_ok p pok r (List.mem_of_getElem? hr1))
          have h2 := eok.ar
          rw [es, h1] at h2
          exact Option.some.inj h2
        refine ⟨_, rfl, _, rfl, b2, _, en.kind, _, rfl, rfl, .of e9, ledL_get _ _ _ eok.kd, ?_⟩
        refine ⟨_, rfl, x, dx, _, rfl, slt_same A'.s s9, _, rfl, _, rfl, x, dx, nu, ep, _, b3, us, nd.2, en.parts, r.parts.map (cnt t.ents), rfl, slt_same A'.s s9, rfl, s9 _ _ eu, (tu_same s9).sq hnu, t9.sq hep, by rw [hr3, ear], by rw [List.length_map, ear], ?_, ?_, fun H10 s10 => ?_⟩
        · rw [← ear]
          cases r <;> simp [Pg.parts]
        · intro j tt f kk h1 h2 h3
          obtain ⟨lt, q, hq1, hq2⟩ := hr4 j tt h1
          rw [List.getElem?_map, hq1] at h2
          cases h2
          obtain ⟨a9, ha9, hs9⟩ := hdn.2 tt q (by omega) hq2
          have kl : kk < t.many := eok.ps kk (List.mem_of_getElem? h3)
          have qs := progs_size (p := p) (List.mem_of_getElem? hq2)
          refine ⟨a9, _, ha9, (tu_same s9).sq hs9, ?_, ?_⟩
          · rw [List.getElem?_map, cntL_get t q kl]; rfl
          · exact Nat.lt_of_lt_of_le (cnt_lt tok.e31 q kk) (Nat.pow_le_pow_right (by decide) (by omega))
        · refine ⟨_, _, rfl, rfl, b2, _, _, en.kind, rfl, rfl, s10 _ _ e9, ?_, ?_⟩
          · unfold ixN
            rw [ledL_len, if_pos (by omega), if_pos (by have := eok.kd; omega), Int.toNat_natCast]
          · refine ⟨_, _, _, rfl, same_mut (s9.trans s10) n20, ?_⟩
            rw [upd_same, ← es]
            exact congrArg (fun z => some (HO.lst z)) (ledL_put t.ents hen _ t.many)
      · have ns : en.sign ≠ r.sign := fun e => z (decide_eq_true (by rw [e, ← hr2]))
        refine ⟨_, _, _, rfl, s9, ?_⟩
        rw [ledL_skip t.ents hen _ _ _ ns]
        exact e9
    · rintro σ H9 ⟨c8, c9, c10, rfl, s9, e9⟩
      rw [evl, List.take_length] at e9
      -- self.its_numbers[node] = tuple(numbers)
      refine ⟨_, rfl, .inl ⟨b2, _, rfl, .of e9, fun b4 hb4 => ?_⟩⟩
      have s10 := s9.trans (same_new (o := .tup (ledL t.ents r.sign (r.parts.map (cnt t.ents)) t.many)) hb4)
      have eu10 := s10 _ _ eu
      refine ⟨_, rfl, x, _, dx, _, _, _, _, rfl, slt_same A'.s s10, A.scls, A.slotU, rfl, _, rfl, b3, us, _, p.size - 1 - i, rfl, rfl, eu10, ?_, ?_⟩
      · unfold ixN
        rw [hdn.1, progsOf_length, if_pos (by omega), if_pos (by omega), Int.toNat_natCast]
      · have t11 : Tu H' (upd (upd H9 b4 (.tup (ledL t.ents r.sign (r.parts.map (cnt t.ents)) t.many))) b3 (.lst (us.set (p.size - 1 - i) (.ref b4)))) := (tu_same s10).trans (tu_upd eu10 rfl)
        have eu11 : (upd (upd H9 b4 (.tup (ledL t.ents r.sign (r.parts.map (cnt t.ents)) t.many))) b3 (.lst (us.set (p.size - 1 - i) (.ref b4)))) b4 = some (.tup (ledL t.ents r.sign (r.parts.map (cnt t.ents)) t.many)) := by
          rw [upd_ne (ne_of upd_same eu10 (by intro z; cases z))]
          exact upd_same
        refine ⟨_, _, _, _, _, _, _, us.set (p.size - 1 - i) (.ref b4), rfl, same_mut (s0'.trans s10) hb30, tH'.trans t11, (A'.same s10).upd eu10, ?_, rl.mono t11, upd_same, ?_, ?_⟩
        · rw [upd_ne nlb]
          exact s10 _ _ el
        · rw [List.length_set]; exact hdn.1
        · intro j q hj hq
          by_cases ej : j = p.size - 1 - i
          · subst ej
            rw [hr1] at hq
            cases hq
            refine ⟨b4, List.getElem?_set_self (by rw [hdn.1, progsOf_length]; omega), ?_⟩
            rw [cntL_led]
            exact .of eu11
          · obtain ⟨a9, h1, h2⟩ := hdn.2 j q (by omega) hq
            exact ⟨a9, by rw [List.getElem?_set_ne (fun z => ej z.symm)]; exact h1, t11.sq h2⟩
  · rintro σ H' ⟨c4, c5, c6, c7, c8, c9, c10, us, rfl, s0', tH', A', el, rl, eu, hdn⟩
    obtain ⟨a9, h1, h2⟩ := hdn.2 0 p (by omega) (progsOf_head p)
    exact k b3 us _ _ H' s0' A' rfl eu h1 (nats_of h2)
end
end K56
set_option Elab.async false
set_option linter.all false
set_option maxRecDepth 100000
set_option maxHeartbeats 4000000
namespace K56
open PySem PySem.Spec PyProof.Rows L2
/-! ### readings_many, numbers_of -/
def spReads (K : PySem.W.Frag) : Sp := fun vs H Q _ => ∃ (d : Addr) (tv pv : V) (t : Tb) (p : Pg),
  vs = [tv, pv, .ref d] ∧ H d = some (.dK []) ∧ Rp K H tv t.d ∧ t.ok ∧ Rp K H pv p.d ∧ p.ok t.signs ∧ p.height < 40 ∧ p.size ≤ 1100 ∧ ∀ (v : V) (H' : Hp), Same H H' → Rp K H' v (natD (cntL t p)) → Q v H'
def spNumbers (K : PySem.W.Frag) : Sp := fun vs H Q _ => ∃ (ov tv pv : V) (o t : Tb) (p : Pg),
  vs = [ov, tv, pv] ∧ Rp K H ov o.d ∧ o.ok ∧ Rp K H tv t.d ∧ t.ok ∧ Rp K H pv p.d ∧ p.ok o.signs ∧ p.ok t.signs ∧ p.height < 40 ∧ p.size ≤ 1100 ∧ ∀ (v : V) (H' : Hp), Same H H' → Rp K H' v (natD (cntL o p ++ cntL t p)) → Q v H'
def choicesL {α : Type} (xs : List α) : Nat → List (List α)
  | 0 => [[]]
  | n + 1 => (choicesL xs n).flatMap fun r => xs.map fun x => r ++ [x]
def rowD (r : List Pg) : D := .tup (r.map Pg.d)
def spChoices (K : PySem.W.Frag) : Sp := fun vs H Q _ => ∃ (a : Addr) (xs : List V) (ps : List Pg) (n : Nat),
  vs = [.ref a, .int (n : Int)] ∧ SqL K H a xs ∧ RpL K H xs (ps.map Pg.d) ∧ ps.length ≤ 20 ∧ n ≤ 2 ∧ ∀ (l : Addr) (ws : List V) (H' : Hp), H l = none → Same H H' → H' l = some (.lst ws) → RpL K H' ws ((choicesL ps n).map rowD) → Q (.ref l) H'
/-- the programs of all signs over some programs -/
def oversL (signs : List Nat) (ps : List Pg) : List Pg := (List.range signs.length).flatMap fun s => (choicesL ps (signs.getD s 0)).map (mkP s)
def spOver (K : PySem.W.Frag) : Sp := fun vs H Q _ => ∃ (a : Addr) (sv : V) (xs : List V) (ps : List Pg) (signs : List Nat),
  vs = [sv, .ref a] ∧ Rp K H sv (natD signs) ∧ (∀ s ∈ signs, s ≤ 2) ∧ signs.length ≤ 6 ∧ SqL K H a xs ∧ RpL K H xs (ps.map Pg.d) ∧ ps.length ≤ 20 ∧ ∀ (l : Addr) (ws : List V) (H' : Hp), H l = none → Same H H' → H' l = some (.lst ws) → RpL K H' ws ((oversL signs ps).map Pg.d) → Q (.ref l) H'
theorem choices_len {α : Type} (xs : List α) (m : Nat) (h : xs.length ≤ m) : ∀ n, (choicesL xs n).length ≤ m ^ n
  | 0 => by simp [choicesL]
  | n + 1 => by
    have ih := choices_len xs m h n
    simp only [choicesL, List.length_flatMap, List.length_map]
    have e : ((choicesL xs n).map fun _ => xs.length).sum = (choicesL xs n).length * xs.length := by
      generalize choicesL xs n = l
      induction l with
      | nil => simp
      | cons a l ih => rw [List.map_cons, List.sum_cons, ih, List.length_cons, Nat.succ_mul]; omega
    rw [e, Nat.pow_succ]
    exact Nat.mul_le_mul ih h
theorem choices_row {α : Type} {xs : List α} : ∀ (n : Nat) (r : List α), r ∈ choicesL xs n → r.length = n ∧ ∀ x ∈ r, x ∈ xs
  | 0, r, h => by
    have e : r = [] := by simpa [choicesL] using h
    rw [e]
    exact ⟨rfl, fun x hx => by cases hx⟩
  | n + 1, r, h => by
    simp only [choicesL, List.mem_flatMap, List.mem_map] at h
    obtain ⟨r', h1, x, h2, rfl⟩ := h
    obtain ⟨l, m⟩ := choices_row n r' h1
    refine ⟨by rw [List.length_append, l]; rfl, fun y hy => ?_⟩
    rcases List.mem_append.mp hy with hy | hy
    · exact m y hy
    · rw [List.mem_singleton.mp hy]; exact h2
theorem mkP_d (s : Nat) (r : List Pg) (h : r.length ≤ 2) : (mkP s r).d = .tup (.int (s : Int) :: r.map Pg.d) := by
  match r, h with
  | [], _ => rfl
  | [p], _ => rfl
  | [p, q], _ => rfl
section
variable {P : Program} {w : World} {K : PySem.W.Frag} {mg : Str → Option Value} {base : Heap}
theorem sc_readings_many : FnScope ["table", "program", "pins"] ["table", "program", "pins"] (defScope s_readings_many) := ⟨rfl, rfl, rfl, by decide +kernel, rfl, by decide +kernel, by decide +kernel⟩
theorem ok_readings_many (A : Hd K mg) : Cl P w K mg base "readings_many" ["table", "program", "pins"] 44 (spReads K) := by
  obtain ⟨fd, F⟩ := A.f_readings_many
  refine Cl.of F A.g_readings_many sc_readings_many (fun _ _ _ _ _ _ us hl => match us, hl with | [_, _, _], _ => rfl) (fun vs H Q E h => (by obtain ⟨d, tv, pw, t, p, rfl, hd, rt, tok, rp, pok, hh, hz, k⟩ := h; rfl)) (fun cdv Ar outer s H vs Q E hr h => ?_)
  obtain ⟨d, tv, pw, t, p, rfl, hd, rt, tok, rp, pok, hh, hz, k⟩ := h
  refine ⟨_, (pss_one (ps_ret (pe_ix ix_list (SlX.pe_sl (pe_mkC (ok_cinit A) A.mk_Counted (hr.mono (by decide)) (by rfl) A.g_Counted (pa_cons (pv 0) (pa_cons (pv 1) (pa_cons (pv 2) pa_nil))))) pe_int (fun _ _ => rfl)))), ?_⟩
  refine ⟨_, rfl, _, rfl, _, rfl, fun x dx nx ndx nex => ?_⟩
  have s1 : Same H (upd (upd H dx (.own x)) x (.ins (cC K) dx [])) := same_mut (same_mut (Same.refl H) ndx) nx
  refine ⟨H, x, dx, d, tv, pw, t, p, rfl, s1, nx, ndx, nex, upd_same, by rw [upd_ne nex]; exact upd_same, hd, rt.mono (tu_same s1), tok, rp.mono (tu_same s1), pok, hh, hz, fun l ws v0 slots H' s2 A2 e1 e2 e3 r3 => ⟨rfl, ?_⟩⟩
  exact ⟨x, _, dx, _, slots, _, _, rfl, A2.s, A.scls, A.slotU, e1, l, ws, _, _, rfl, rfl, .of e2, atI_nat (j := 0) e3, k _ _ s2 r3⟩
theorem sc_numbers_of : FnScope ["one", "other", "program"] ["one", "other", "program"] (defScope s_numbers_of) := ⟨rfl, rfl, rfl, by decide +kernel, rfl, by decide +kernel, by decide +kernel⟩
theorem ok_numbers_of (A : Hd K mg) : Cl P w K mg base "numbers_of" ["one", "other", "program"] 45 (spNumbers K) := by
  obtain ⟨fd, F⟩ := A.f_numbers_of
  refine Cl.of F A.g_numbers_of sc_numbers_of (fun _ _ _ _ _ _ us hl => match us, hl with | [_, _, _], _ => rfl) (fun vs H Q E h => (by obtain ⟨ov, tv, pw, o, t, p, rfl, ro, ook, rt, tok, rp, pok, pok2, hh, hz, k⟩ := h; rfl)) (fun cdv Ar outer s H vs Q E hr h => ?_)
  obtain ⟨ov, tv, pw, o, t, p, rfl, ro, ook, rt, tok, rp, pok, pok2, hh, hz, k⟩ := h
  refine ⟨_, (pss_one (ps_ret (pe_tup (StX.pa_star (pe_cl (ok_readings_many A) (hr.mono (by decide)) (by rfl) (pa_cons (pv 0) (pa_cons (pv 2) (pa_cons pe_dnewK pa_nil)))) (StX.pa_star (pe_cl (ok_readings_many A) (hr.mono (by decide)) (by rfl) (pa_cons (pv 1) (pa_cons (pv 2) (pa_cons pe_dnewK pa_nil)))) pa_nil))))), ?_⟩
  refine ⟨_, rfl, _, rfl, fun d1 hd1 => ?_⟩
  have s1 := same_new (o := .dK []) hd1
  refine ⟨d1, ov, pw, o, p, rfl, upd_same, ro.mono (tu_same s1), ook, rp.mono (tu_same s1), pok, hh, hz, fun v1 H2 s2 r2 => ?_⟩
  obtain ⟨a1, rfl, h1⟩ := nats_inv r2
  have s12 := s1.trans s2
  refine ⟨a1, _, rfl, .inl h1, _, rfl, _, rfl, fun d2 hd2 => ?_⟩
  have s3 := s12.trans (same_new (o := .dK []) hd2)
  refine ⟨d2, tv, pw, t, p, rfl, upd_same, rt.mono (tu_same s3), tok, rp.mono (tu_same s3), pok2, hh, hz, fun v2 H4 s4 r4 => ?_⟩
  obtain ⟨a2, rfl, h2⟩ := nats_inv r4
  refine ⟨a2, _, rfl, .inl h2, ?_⟩
  have e : (List.map (fun (n : Nat) => V.int (n : Int)) (cntL o p) ++ (List.map (fun (n : Nat) => V.int (n : Int)) (cntL t p) ++ [])) = (cntL o p ++ cntL t p).map (fun (n : Nat) => V.int (n : Int)) := by simp
  refine ⟨?_, fun q hq => k _ _ ((s3.trans s4).trans (same_new hq)) (nats_of (.of (upd_same.trans (congrArg (fun z => some (HO.tup z)) e))))⟩
  simp only [List.length_append, List.length_map, cntL_length, List.length_nil]
  have := ook.m4
  have := tok.m4
  exact sz_ok (by omega)
theorem sc_choices_of : FnScope ["things", "many", "found", "place", "row", "thing"] ["things", "many"] (defScope s_choices_of) := ⟨rfl, rfl, rfl, by decide +kernel, rfl, by decide +kernel, by decide +kernel⟩
theorem ok_choices_of (A : Hd K mg) : Cl P w K mg base "choices_of" ["things", "many"] 1 (spChoices K) := by
  obtain ⟨fd, F⟩ := A.f_choices_of
  refine Cl.of F A.g_choices_of sc_choices_of (fun _ _ _ _ _ _ us hl => match us, hl with | [_, _], _ => rfl) (fun vs H Q E h => (by obtain ⟨a, xs, ps, n, rfl, ha, rx, hp, hn, k⟩ := h; rfl)) (fun cdv Ar outer s H vs Q E hr h => ?_)
  obtain ⟨a, xs, ps, n, rfl, ha, rx, hp, hn, k⟩ := h
  refine ⟨_, (pss_cons (ps_set (i := 2) sc_choices_of.nd rfl (.inl rfl) (pe_lst (pa_cons (pe_tup pa_nil) pa_nil)))
  (pss_cons (ps_for PassesOwn.never (by rfl) (pi_range1 (by rfl) A.z_range (pa_cons (pv 1) pa_nil)) (pg_name (i := 3) sc_choices_of.nd rfl (.inl rfl))
  (pss_one (ps_setLc2F (i := 2) (own := [("row", 4), ("thing", 5)]) (vs1 := [5]) (by rfl) sc_choices_of.nd rfl rfl (sw_true rfl rfl rfl (by decide +kernel)) (pi_list (pv 2)) (blkOk_by (by rfl)) (by decide) (fun _ _ _ _ _ => (pg_name (i := 4) sc_choices_of.nd rfl (.inl rfl))) (fun _ _ _ _ _ => pts_nil) (fun _ _ _ _ _ => (pi_list (pv 0))) (fun _ _ _ _ _ => (pg_name (i := 5) sc_choices_of.nd rfl (.inl rfl))) (fun _ _ _ _ _ => pts_nil) (fun _ _ _ _ _ => (pe_tup (StX.pa_star (pv 4) (pa_cons (pv 5) pa_nil)))))))
  (pss_one (ps_ret (pv 2))))), ?_⟩
  refine ⟨sz0, fun b1 hb1 => ⟨sz1, fun b2 hb2 => ?_⟩⟩
  have s2 := (same_new (o := .tup []) hb1).trans (same_new (o := .lst [V.ref b1]) hb2)
  have e2 : (upd (upd H b1 (.tup [])) b2 (.lst [V.ref b1])) b2 = some (.lst [V.ref b1]) := upd_same
  have r2 : RpL K (upd (upd H b1 (.tup [])) b2 (.lst [V.ref b1])) [V.ref b1] ((choicesL ps 0).map rowD) := .one (.tup (.of (same_new hb2 _ _ upd_same)) .nil)
  have n2 : H b2 = none := (same_new hb1).free hb2
  show tSeq _ _ _ _ (upd (upd H b1 (.tup [])) b2 (.lst [V.ref b1]))
  generalize upd (upd H b1 (.tup [])) b2 (.lst [V.ref b1]) = H2 at s2 e2 r2
  refine ⟨_, rfl, _, rfl, by omega, by omega, ?_⟩
  rw [Int.toNat_natCast]
  refine for_range (fun i σ H' => ∃ s3 s4 s5 l ws, σ = [some (.ref a), some (.int (n : Int)), some (.ref l), s3, s4, s5] ∧ Same H H' ∧ H l = none ∧ H' l = some (.lst ws) ∧ RpL K H' ws ((choicesL ps i).map rowD)) ⟨_, _, _, b2, _, rfl, s2, n2, e2, r2⟩ ?_ ?_
  · rintro i σ H' hi ⟨c3, c4, c5, l, ws, rfl, s3, hl, el, rl⟩
    refine ⟨_, rfl, l, rfl, ⟨_, .of el⟩, fun Dl hD => ?_⟩
    have wl : ws.length = (choicesL ps i).length := by rw [rl.length, List.length_map]
    refine ⟨fun j m H4 => m = ws.length - j ∧ j ≤ ws.length ∧ Same H' H4 ∧ ∃ acc, H4 Dl = some (.lst acc) ∧ RpL K H4 acc ((((choicesL ps i).take j).flatMap fun r => ps.map fun x => r ++ [x]).map rowD), ⟨_, rfl, Nat.zero_le _, same_new hD, [], upd_same, .nil⟩, ?_⟩
    rintro j m H4 ⟨rfl, hj, s4, acc, ea, ra⟩
    by_cases hlt : j < ws.length
    · have hv : ws[j]? = some ws[j] := by simp [hlt]
      generalize ws[j] = rv at hv
      have hr : (choicesL ps i)[j]? = some (choicesL ps i)[j] := by simp [← wl, hlt]
      generalize (choicesL ps i)[j] = r at hr
      refine .inr ⟨⟨ws, rv, .of (s4 _ _ el), hv⟩, fun H5 => Same H' H5 ∧ ∃ acc, H5 Dl = some (.lst acc) ∧ RpL K H5 acc ((((choicesL ps i).take (j + 1)).flatMap fun r => ps.map fun x => r ++ [x]).map rowD), fun H5 h5 => ⟨_, by omega, rfl, by omega, h5⟩, ?_⟩
      rintro x H5 ⟨rfl, hx⟩
      have ex := hx ws (.of (s4 _ _ el))
      rw [hv] at ex
      cases ex
      obtain ⟨dr, hdr, rr⟩ := (rl.mono (tu_same s4)).get' hv
      rw [List.getElem?_map, hr] at hdr
      cases hdr
      obtain ⟨ar, vr, rfl, har, rvr⟩ := rr.tup_inv
      obtain ⟨lr, mr⟩ := choices_row i r (List.mem_of_getElem? hr)
      refine ⟨rfl, _, rfl, a, rfl, ⟨_, (s3.trans s4).seq ha⟩, fun j2 m2 H6 => m2 = xs.length - j2 ∧ j2 ≤ xs.length ∧ Same H' H6 ∧ SqT K H6 ar vr ∧ RpL K H6 vr (r.map Pg.d) ∧ ∃ acc, H6 Dl = some (.lst acc) ∧ RpL K H6 acc (((((choicesL ps i).take j).flatMap fun r => ps.map fun x => r ++ [x]) ++ ((ps.take j2).map fun x => r ++ [x])).map rowD), ⟨_, rfl, Nat.zero_le _, s4, har, rvr, acc, ea, by simpa using ra⟩, ?_⟩
      have tk : ((choicesL ps i).take (j + 1)).flatMap (fun r => ps.map fun x => r ++ [x]) = (((choicesL ps i).take j).flatMap fun r => ps.map fun x => r ++ [x]) ++ (ps.map fun x => r ++ [x]) := by
        rw [take_snoc hr, List.flatMap_append]
        simp
      rintro j2 m2 H6 ⟨rfl, hj2, s6, har6, rv6, acc6, ea6, ra6⟩
      have s36 := s3.trans s6
      have xl : xs.length = ps.length := by rw [rx.length, List.length_map]
      by_cases hlt2 : j2 < xs.length
      · have hx2 : xs[j2]? = some xs[j2] := by simp [hlt2]
        generalize xs[j2] = xv at hx2
        have hp2 : ps[j2]? = some ps[j2] := by simp [← xl, hlt2]
        generalize ps[j2] = q at hp2
        refine .inr ⟨⟨xs, xv, s36.seq ha, hx2⟩, fun H7 => Same H' H7 ∧ SqT K H7 ar vr ∧ RpL K H7 vr (r.map Pg.d) ∧ ∃ acc, H7 Dl = some (.lst acc) ∧ RpL K H7 acc (((((choicesL ps i).take j).flatMap fun r => ps.map fun x => r ++ [x]) ++ ((ps.take (j2 + 1)).map fun x => r ++ [x])).map rowD), fun H7 h7 => ⟨_, by omega, rfl, by omega, h7⟩, ?_⟩
        rintro x2 H7 ⟨rfl, hx3⟩
        have ex2 := hx3 xs (s36.seq ha)
        rw [hx2] at ex2
        cases ex2
        obtain ⟨dq, hdq, rq⟩ := (rx.mono (tu_same s36)).get' hx2
        rw [List.getElem?_map, hp2] at hdq
        cases hdq
        refine ⟨rfl, _, rfl, ar, vr, rfl, .inl har6, _, rfl, ?_⟩
        refine ⟨?_, fun q1 hq1 => ?_⟩
        · simp only [List.length_append, List.length_cons, List.length_nil, rvr.length, List.length_map, lr]
          exact sz_ok (by omega)
        have s7 := same_new (o := .tup (vr ++ [xv])) hq1
        refine ⟨acc6, s7 _ _ ea6, ?_, ?_⟩
        · rw [ra6.length, List.length_map, List.length_append, List.length_flatMap, List.length_map, List.length_take]
          have h1 : ((List.take j (choicesL ps i)).map fun r => (ps.map fun x => r ++ [x]).length).sum ≤ (List.take j (choicesL ps i)).length * 20 := by
            have := sum_le_mul ((List.take j (choicesL ps i)).map fun r => (ps.map fun x => r ++ [x]).length) 20 (fun x hx => by
              obtain ⟨r, _, rfl⟩ := List.mem_map.mp hx
              rw [List.length_map]; exact hp)
            rw [List.length_map] at this
            exact this
          have h2 : (choicesL ps i).length ≤ 20 ^ i := choices_len ps 20 hp i
          have h3 : 20 ^ i ≤ 20 ^ 2 := Nat.pow_le_pow_right (by decide) (by omega)
          rw [List.length_take] at h1
          exact sz_lt (by omega)
        have t7 : Tu H7 (upd (upd H7 q1 (.tup (vr ++ [xv]))) Dl (.lst (acc6 ++ [V.ref q1]))) := (tu_same s7).trans (tu_upd (s7 _ _ ea6) rfl)
        refine ⟨same_mut (s6.trans s7) hD, t7.sq har6, rv6.mono t7, _, upd_same, ?_⟩
        have eM : ((((((choicesL ps i).take j).flatMap fun r => ps.map fun x => r ++ [x]) ++ ((ps.take (j2 + 1)).map fun x => r ++ [x])).map rowD)) = ((((((choicesL ps i).take j).flatMap fun r => ps.map fun x => r ++ [x]) ++ ((ps.take j2).map fun x => r ++ [x])).map rowD)) ++ [rowD (r ++ [q])] := by
          rw [take_snoc hp2]
          simp
        rw [eM]
        refine (ra6.mono t7).app (.one ?_)
        refine .tup (.of (by rw [upd_ne (ne_of upd_same (s7 _ _ ea6) (by intro z; cases z))]; exact upd_same)) ?_
        rw [List.map_append]
        exact (rv6.mono t7).app (.one (rq.mono t7))
      · have e2' : j2 = xs.length := by omega
        subst e2'
        refine .inl ⟨⟨xs, s36.seq ha, Nat.le_refl _⟩, s6, acc6, ea6, ?_⟩
        rw [tk]
        rw [xl, List.take_length] at ra6
        exact ra6
    · have e' : j = ws.length := by omega
      subst e'
      refine .inl ⟨⟨ws, .of (s4 _ _ el), Nat.le_refl _⟩, ?_⟩
      have n3 : H Dl = none := s3.free hD
      refine ⟨_, _, _, Dl, acc, rfl, s3.trans s4, n3, ea, ?_⟩
      rw [wl, List.take_length] at ra
      exact ra
  · rintro σ H' ⟨c3, c4, c5, l, ws, rfl, s3, hl, el, rl⟩
    exact ⟨_, rfl, k l ws H' hl s3 el rl⟩
end
end K56
set_option Elab.async false
set_option linter.all false
set_option maxRecDepth 100000
set_option maxHeartbeats 4000000
namespace K56
open PySem PySem.Spec PyProof.Rows L2
open Sem (wp)
/-! ### enumerate(tuple) -/
theorem meets_enumT (l : Addr) (items : Array Value) :
    Meets (Builtin.«enumerate.__new__» ⟨[.type "enumerate", .ref l], []⟩) (fun _ R s => s.heap.IsTuple l items ∧
      R (.ok (.ret (.ref (s.heap.push { cls := .type "tuple_iterator", data := .fields #[.ref l, .int 0 0] }).objs.size)))
        { s with heap := (s.heap.push { cls := .type "tuple_iterator", data := .fields #[.ref l, .int 0 0] }).push { cls := .type "enumerate", data := .fields #[.none, .bool false, .ref s.heap.objs.size, rawInt 0, .none, .none] } }) :=
  .of_wp fun prog w A R s h => by
    obtain ⟨hp, g, d, tk, os⟩ := s
    obtain ⟨hL, h⟩ := h
    have hsub := sub_enumerate
    wp_walk using wpAny_pyIter_tuple hL
    refine wpAny_stack_any fun st => wpAny_pure ?_
    split
    · rename_i c _ _ _ _ _
      cases (c == Value.type "enumerate")
      · wp_walk using wpAny_pyIter_tuple hL
        exact ⟨_, rfl, h⟩
      · wp_walk using wpAny_pyIter_tuple hL
        exact ⟨_, rfl, h⟩
    · wp_walk using wpAny_pyIter_tuple hL
      exact ⟨_, rfl, h⟩
theorem call_enumT {prog : Program} {w : World} {A : Around} {E : Value → Shared → Prop} {s : Shared} {l : Addr} {items : Array Value} {Q : Value → Shared → Prop} (hL : s.heap.IsTuple l items)
    (h : ∀ h', IsEnum h' (s.heap.objs.size + 1) s.heap.objs.size 0 .none → h'.IsTupleIter s.heap.objs.size l 0 → h'.objs.size = s.heap.objs.size + 2 →
      (∀ b o, s.heap.get? b = some o → h'.get? b = some o) → Q (.ref (s.heap.objs.size + 1)) { s with heap := h' }) :
    wpAny (model prog w) A (call (.type "enumerate") [.ref l]) Q E s := by
  refine callType_new F.called_enumerate (by decide) (F.typeCall_enumerate_1 _) (F.newCall_enumerate_1 _) (fun obj => F.args_object_init_2 obj _) F.entry_enumerate_new
    (meets_enumT l items) ⟨hL, ?_⟩
  have hz : (s.heap.push { cls := .type "tuple_iterator", data := .fields #[.ref l, .int 0 0] }).objs.size = s.heap.objs.size + 1 := Heap.size_push ..
  show _ ∧ _
  rw [hz]
  have he : IsEnum ((s.heap.push { cls := .type "tuple_iterator", data := .fields #[.ref l, .int 0 0] }).push
      { cls := .type "enumerate", data := .fields #[.none, .bool false, .ref s.heap.objs.size, rawInt 0, .none, .none] }) (s.heap.objs.size + 1) s.heap.objs.size 0 .none := by
    have := Heap.get?_push_size (s.heap.push { cls := .type "tuple_iterator", data := .fields #[.ref l, .int 0 0] })
      (o := { cls := .type "enumerate", data := .fields #[.none, .bool false, .ref s.heap.objs.size, rawInt 0, .none, .none] }) rfl
    rw [hz] at this; exact this
  refine ⟨⟨_, he, rfl⟩, h _ he ⟨_, Heap.get?_push_of_some _ (Heap.get?_push_size _ rfl), rfl, rfl⟩ (by rw [Heap.size_push, hz]) fun b o x => Heap.get?_push_of_some _ (Heap.get?_push_of_some _ x)⟩
/-- the tuple at a, each item in a new pair -/
def IteT (K : PySem.W.Frag) (a : Addr) : It :=
  ⟨fun i H => ∃ (xs : List V) (x : V), SqT K H a xs ∧ xs[i]? = some x, fun i H v H' => ∃ T x, v = .ref T ∧ H T = none ∧ H' = upd H T (.tup [.int (i : Nat), x]) ∧ ∀ xs, SqT K H a xs → xs[i]? = some x, fun i H => ∃ xs : List V, SqT K H a xs ∧ xs.length ≤ i⟩
theorem turn_enumT {P : Program} {w : World} {K : PySem.W.Frag} {elts : List Expr} {kk : Nat} {tpos : Pos} (a e it : Addr) :
    Turn P w K (.Tuple elts kk tpos) (IteT K a) [e, it] e (fun i h => (∃ old, IsEnum h e it ((i : Nat) : Int) old) ∧ h.IsTupleIter it a i ∧ e ≠ it ∧ a ≠ it ∧ a ≠ e) where
  mem := by simp
  obj := fun i h st b hb => by
    obtain ⟨⟨old, he⟩, ⟨o, ho, hc, hd⟩, _⟩ := st
    have e' : b = e ∨ b = it := by simpa using hb
    rcases e' with z | z
    · rw [z]; exact ⟨_, he, fun v q => nomatch q⟩
    · rw [z]; exact ⟨o, ho, fun v q => by rw [hd] at q; cases q⟩
  keep := fun i h h' st k => let ⟨⟨old, he⟩, hi, hne⟩ := st; ⟨⟨old, k e (by simp) _ he⟩, hi.at fun o q => k it (by simp) o q, hne⟩
  item := by
    intro X hP hw hK hc i pins s σ H E I hf st hg
    subst hP hw hK
    obtain ⟨⟨old, he⟩, hit, hne, hat, hae⟩ := st
    obtain ⟨xs, x, hq, hx⟩ := hg
    obtain ⟨its, rv, p, hz⟩ := I.tuple hq
    obtain ⟨u, hu, ru⟩ := rv.get hx
    have hel : e < s.heap.objs.size := Heap.lt_size he
    have hil : it < s.heap.objs.size := by obtain ⟨_, q, _⟩ := hit; exact Heap.lt_size q
    have hi : i < its.toArray.size := by
      have := (List.getElem?_eq_some_iff.mp hu).1
      simpa using this
    have D := Draws.tuple (prog := X.prog) (w := X.w) (A := X.A.in1) (I.ok.hd hc) it a hat its.toArray
    refine wpAny_pyNext_enum_itemD D he ⟨hit, (show s.heap.IsTuple a its.toArray from p)⟩ hi hne (by simp [hne, hae.symm]) fun x' h' tk hx' ho hst' hT hsz hk => ?_
    obtain rfl : x' = u := by
      have hx'' : its.toArray[i]? = some x' := hx'
      have : its.toArray[i]? = some u := by simpa using hu
      rw [this] at hx''
      exact (Option.some.inj hx'').symm
    obtain ⟨hit', _⟩ := hst'
    refine ⟨_, rfl, wpAny_letOwnedTupleGo_enum (s := { s with heap := h', toks := tk + 1 }) ho fun h'' he' sb => ?_⟩
    have hT2 : h''.get? s.heap.objs.size = some { cls := .type "tuple", data := .seq #[.int i tk, x'] } := (sb.2 _ (Nat.ne_of_gt hel)).trans hT
    have new : ObjOk X.prog X.w (upd H s.heap.objs.size (.tup [.int (i : Nat), x])) h'' s.heap.objs.size (.tup [.int (i : Nat), x]) :=
      ⟨by show 2 ≤ sizeLine; decide, [.int i tk, x'], .cons ⟨_, rfl⟩ (.cons ru .nil), ⟨_, hT2, rfl, _, rfl⟩⟩
    have I1 : Inv X pins σ (upd H s.heap.objs.size (.tup [.int (i : Nat), x])) { s with heap := h'', toks := tk + 1 } :=
      I.turnedNew (ch := [e, it]) (fun b ob hb q => (sb.2 b (fun z => hb (by simp [z]))).trans (hk b ob (fun z => hb (by simp [z])) (fun z => hb (by simp [z])) q)) hf (Nat.le_refl _) new
    refine ⟨.ref s.heap.objs.size, _, I1, rfl, ⟨_, x, rfl, I.hok.fresh (Nat.le_refl _), rfl, fun ys hy => by rw [I.tuple_inj hy hq]; exact hx⟩, ⟨⟨x', ?_⟩, hit'.at fun o q => (sb.2 it (Ne.symm hne)).trans q, hne, hat, hae⟩, fun b hb => ?_⟩
    · have e1 : ((i + 1 : Nat) : Int) = (i : Int) + 1 := by omega
      rw [e1]; exact he'
    · have hb' : b < s.heap.objs.size := by
        have e' : b = e ∨ b = it := by simpa using hb
        rcases e' with z | z
        · rw [z]; exact hel
        · rw [z]; exact hil
      rw [upd_ne (Nat.ne_of_lt hb')]
      exact (hf b hb).1
  done := by
    intro X hP hw hK hc i pins s σ H E I hf st hg
    subst hP hw hK
    obtain ⟨⟨old, he⟩, hit, hne, hat, hae⟩ := st
    obtain ⟨xs, hq, hx⟩ := hg
    obtain ⟨its, rv, p, hz⟩ := I.tuple hq
    obtain ⟨f0, f1, f2, f3, f4, f5⟩ := hf it (by simp)
    have hl := rv.length
    have D := Draws.tuple (prog := X.prog) (w := X.w) (A := X.A.in1) (I.ok.hd hc) it a hat its.toArray
    have hT : s.TypeIs (.ref e) "enumerate" := ⟨_, he, rfl⟩
    unfold pyNext
    refine wpAny_bind (wpAny_attempt (wpAny_callSpecial?_slot (name := Str.ofString "__next__") hT F.slot_enumerate_next
      (wpAny_call_entry F.slot_enumerate_next hT F.entry_enumerate_next ?_ (F.args_enumerate_next_1 _))))
    show wpAny _ _ (field (.ref e) 2 >>= _) _ _ _
    refine wpAny_bind (wpAny_field he rfl (x := .ref it) rfl ?_)
    refine wpAny_bind (wpAny_nextOf_tuple_end (I.ok.hd hc) hit (show s.heap.IsTuple a its.toArray from p) (by simp; omega) fun h' x he' hx' => ?_)
    obtain ⟨o, ho, hc'⟩ := hx'
    refine wpAny_bind (wpAny_isInstance (T := "StopIteration") (b := true) ⟨o, ho, hc'⟩ isSubtype_stop ?_)
    exact wpAny_pure ⟨rfl, I.turned (t' := s.toks) (fun b o hb q => he' b o hb q) f0 f1 f3 f4 f5⟩
  self := fun A i s Q E st h => let ⟨⟨_, he⟩, _⟩ := st; wpAny_pyIter_enum he h
def iEnumT (K : PySem.W.Frag) (ta : TA) : TI := fun σ H R => ta σ H fun vs H1 => ∃ a xs, vs = [.ref a] ∧ SqT K H1 a xs ∧ R (IteT K a) H1
theorem pi_enumT {X : Cx} {e : Expr} {ta : TA} {p pos tpos : Pos} {elts : List Expr} {kk : Nat} (hg : Gl X "enumerate") (hm : X.mg "enumerate" = none) (ha : PA X [e] ta) (hs : starEach [e] X.env = [(false, eval e X.env)] := by rfl) :
    PI X (.Tuple elts kk tpos) (.Call (.Name "enumerate" p) [e] [] pos) (iEnumT X.K ta) := by
  refine ⟨fun pins s σ H R I h => ?_⟩
  refine Call_ (ld_blt I hg hm boot_enumerate (PyProof.Rows.callWith_type1 (thn (ha.run pos pins s σ H _ I h) fun us s1 ⟨vs, H1, I1, r1, q1⟩ => ?_) hs rfl))
  obtain ⟨a, xs, ex, hq, q⟩ := q1
  subst ex
  cases r1 with
  | cons r rr =>
    cases rr
    cases r
    obtain ⟨its, rv, p', hz⟩ := I1.tuple hq
    have hal : a < s1.heap.objs.size := by obtain ⟨o, q, _⟩ := p'; exact Heap.lt_size q
    refine call_enumT (show s1.heap.IsTuple a its.toArray from p') fun h' he hit hsz hk => wpAny_pyIter_enum he ?_
    have I2 : Inv X pins σ H1 { s1 with heap := h' } := I1.kept (t' := s1.toks) hk
    refine ⟨s1.heap.objs.size + 1, [s1.heap.objs.size + 1, s1.heap.objs.size], _, _, H1, rfl, I2, turn_enumT a (s1.heap.objs.size + 1) s1.heap.objs.size, ⟨⟨.none, he⟩, hit, Nat.succ_ne_self _, Nat.ne_of_lt hal, Nat.ne_of_lt (Nat.lt_succ_of_lt hal)⟩, fun b hb => ?_, q⟩
    have e' : b = s1.heap.objs.size + 1 ∨ b = s1.heap.objs.size := by simpa using hb
    have hle : s1.heap.objs.size ≤ b := by
      rcases e' with z | z
      · rw [z]; exact Nat.le_add_right _ _
      · rw [z]; exact Nat.le_refl _
    exact I1.fpOk hle (I1.hok.fresh hle)
theorem walk_enumT {K : PySem.W.Frag} {a : Addr} {xs : List V} : Walk (IteT K a) xs.length (fun H => SqT K H a xs) (YPair (fun i => some (.int (i : Nat))) (fun i => xs[i]?)) := by
  refine ⟨fun i _ hi q => ⟨xs, xs[i], q, by simp [hi]⟩, fun _ q => ⟨xs, q, Nat.le_refl _⟩, fun i H v H' _ q y => ?_⟩
  obtain ⟨T, x, h1, h2, h3, h4⟩ := y
  exact ⟨T, .int (i : Nat), x, h1, h2, h3, rfl, h4 xs q⟩
end K56
set_option Elab.async false
set_option linter.all false
set_option maxRecDepth 100000
set_option maxHeartbeats 4000000
namespace K56
open PySem PySem.Spec PyProof.Rows L2
open Sem (wp)
/-! ### data as keys, and as what sorting reads -/
mutual
def D.nk : D → NestedKey
  | .int i => .num i
  | .tup l => .tup (D.nks l)
def D.nks : List D → List NestedKey
  | [] => []
  | d :: l => d.nk :: D.nks l
end
mutual
def D.py : D → PyData
  | .int i => .int i
  | .tup l => .tuple (D.pys l)
def D.pys : List D → List PyData
  | [] => []
  | d :: l => d.py :: D.pys l
end
mutual
theorem D.nk_inj : ∀ (a b : D), a.nk = b.nk → a = b
  | .int i, .int j, e => by simp only [D.nk, NestedKey.num.injEq] at e; rw [e]
  | .tup l, .tup m, e => by simp only [D.nk, NestedKey.tup.injEq] at e; rw [D.nks_inj l m e]
  | .int i, .tup m, e => by simp [D.nk] at e
  | .tup l, .int j, e => by simp [D.nk] at e
theorem D.nks_inj : ∀ (a b : List D), D.nks a = D.nks b → a = b
  | [], [], _ => rfl
  | x :: a, y :: b, e => by
    simp only [D.nks, List.cons.injEq] at e
    rw [D.nk_inj x y e.1, D.nks_inj a b e.2]
  | [], _ :: _, e => by simp [D.nks] at e
  | _ :: _, [], e => by simp [D.nks] at e
end
mutual
theorem D.py_inj : ∀ (a b : D), a.py = b.py → a = b
  | .int i, .int j, e => by simp only [D.py, PyData.int.injEq] at e; rw [e]
  | .tup l, .tup m, e => by simp only [D.py, PyData.tuple.injEq] at e; rw [D.pys_inj l m e]
  | .int i, .tup m, e => by simp [D.py] at e
  | .tup l, .int j, e => by simp [D.py] at e
theorem D.pys_inj : ∀ (a b : List D), D.pys a = D.pys b → a = b
  | [], [], _ => rfl
  | x :: a, y :: b, e => by
    simp only [D.pys, List.cons.injEq] at e
    rw [D.py_inj x y e.1, D.pys_inj a b e.2]
  | [], _ :: _, e => by simp [D.pys] at e
  | _ :: _, [], e => by simp [D.pys] at e
end
theorem D.pys_map : ∀ l : List D, D.pys l = l.map D.py
  | [] => rfl
  | d :: l => by rw [D.pys, D.pys_map l]; rfl
theorem D.nks_map : ∀ l : List D, D.nks l = l.map D.nk
  | [] => rfl
  | d :: l => by rw [D.nks, D.nks_map l]; rfl
noncomputable instance : DecidableEq D := fun a b => Classical.propDecidable _
section
variable {X : Cx} {pins : List (Addr × Obj)} {σ : L2.St} {H : Hp} {s : Shared}
mutual
theorem nested_of (I : Inv X pins σ H s) : ∀ (v : V) (d : D) (u : Value), Rp X.K H v d → RelV v u → NestedIs s.heap d.nk u
  | _, _, u, .int i, r => by
    obtain ⟨t, rfl⟩ := r
    exact .int i t
  | _, _, u, .tup (vs := vs) h t, r => by
    obtain rfl : u = Value.ref _ := r
    obtain ⟨its, rv, ⟨o, ho, hc, n, hd⟩, _⟩ := I.tuple h
    exact .tup ho hc hd (by simpa using nesteds_of I vs _ its t rv)
theorem nesteds_of (I : Inv X pins σ H s) : ∀ (vs : List V) (ds : List D) (us : List Value), RpL X.K H vs ds → Vals vs us → NestedAll s.heap (D.nks ds) us
  | _, _, _, .nil, .nil => .nil
  | _, _, _, .cons h t, .cons r rs => .cons (nested_of I _ _ _ h r) (nesteds_of I _ _ _ t rs)
end
mutual
theorem reads_of (I : Inv X pins σ H s) : ∀ (v : V) (d : D) (u : Value), Rp X.K H v d → RelV v u → Reads s.heap u d.py []
  | _, _, u, .int i, r => by
    obtain ⟨t, rfl⟩ := r
    exact .int i t
  | _, _, u, .tup (vs := vs) h t, r => by
    obtain rfl : u = Value.ref _ := r
    obtain ⟨its, rv, ⟨o, ho, hc, n, hd⟩, _⟩ := I.tuple h
    exact .tuple ho hc hd (by simpa using readss_of I vs _ its t rv)
theorem readss_of (I : Inv X pins σ H s) : ∀ (vs : List V) (ds : List D) (us : List Value), RpL X.K H vs ds → Vals vs us → ReadsAll s.heap us (D.pys ds) []
  | _, _, _, .nil, .nil => .nil
  | _, _, _, .cons h t, .cons r rs => .cons (as := []) (bs := []) (reads_of I _ _ _ h r) (readss_of I _ _ _ t rs)
end
end
/-- hash(d) -/
def D.hs (w : World) (d : D) : Int := d.nk.hash w
/-- at a stands a tuple that is the key d -/
def KeyAt (h : Heap) (d : D) (a : Addr) : Prop := NestedIs h d.nk (.ref a) ∧ d.nk.depth ≤ 8
section
variable {P : Program} {w : World} {A : Around} {E : Value → Shared → Prop} {s : Shared}
theorem KeyAt.keep {h h' : Heap} {d : D} {a : Addr} (k : KeyAt h d a) (e : ∀ b o vs n, h.get? b = some o → o.data = .seq vs n → h'.get? b = some o) : KeyAt h' d a := ⟨NestedIs.at e _ _ k.1, k.2⟩
theorem KeyAt.keep' {h h' : Heap} {d : D} {a : Addr} (k : KeyAt h d a) (e : ∀ b o, h.get? b = some o → h'.get? b = some o) : KeyAt h' d a := k.keep fun b o _ _ q _ => e b o q
theorem KeyAt.inj {h : Heap} {d e : D} {a : Addr} (x : KeyAt h d a) (y : KeyAt h e a) : d = e := D.nk_inj _ _ (NestedIs.inj _ _ _ x.1 y.1)
/-- two keys asked for == -/
theorem keyEq {x y : D} {a b : Addr} {Q : Bool → Shared → Prop} (hu : A.units + 8 < cLine) (ka : KeyAt s.heap x a) (kb : KeyAt s.heap y b) (yes : x = y → Q true s) (no : x ≠ y → Q false s) : wpAny (model P w) A (eqBool (.ref a) (.ref b)) Q E s := by
  refine (nestedKind P w).eqBool hu ka kb ?_
  by_cases e : x = y
  · rw [decide_eq_true (congrArg D.nk e)]; exact yes e
  · rw [decide_eq_false (fun z => e (D.nk_inj _ _ z))]; exact no e
/-- what the model asks of a value in passing: it is so, at any place -/
def Says (P : Program) (w : World) (m : Sem Bool) (b : Bool) (s : Shared) : Prop := ∀ (A : Around) (E : Value → Shared → Prop) (Q : Bool → Shared → Prop), Q b s → wpAny (model P w) A m Q E s
mutual
theorem plain_key : ∀ (d : D) (v : Value) (n : Nat), NestedIs s.heap d.nk v → d.nk.depth ≤ n → Says P w (hashByValue n v) true s
  | .int i, v, n, x, _ => by
    intro A E Q q
    cases x with
    | bool e => cases n <;> exact wpAny_pure q
    | int _ t => cases n <;> exact wpAny_pure q
  | .tup l, v, n, x, hn => by
    intro A E Q q
    cases x with
    | @tup a o vs m _ ho hc hd hk =>
      cases n with
      | zero => simp [D.nk, NestedKey.depth] at hn
      | succ n =>
        have all := plain_keys l vs.toList n hk (by simp only [D.nk, NestedKey.depth] at hn; omega)
        unfold hashByValue
        refine wpAny_bind (wpAny_specialOf ⟨o, ho, hc⟩ F.slot_tuple_hash.lookup ?_)
        refine wpAny_bind (wpAny_seqItems ho hd (wpAny_bind ?_))
        show wpAny _ _ (forIn vs _ _) _ _ s
        rw [← Array.forIn_toList]
        refine wpAny_forIn_list _ (fun rest st z => st.1 = none ∧ z = s ∧ ∀ u ∈ rest, Says P w (hashByValue n u) true s) _ ?_ ?_ _ _ ⟨rfl, rfl, all⟩
        · rintro u rest st z ⟨e1, rfl, hr⟩
          refine wpAny_bind (hr u List.mem_cons_self _ _ _ (wp_if_neg (by decide) (wpAny_pure ⟨rfl, rfl, fun y hy => hr y (List.mem_cons_of_mem _ hy)⟩)))
        · rintro ⟨e1, e2⟩ z ⟨he, rfl, _⟩
          obtain rfl : e1 = none := he
          exact wpAny_pure q
theorem plain_keys : ∀ (l : List D) (vs : List Value) (n : Nat), NestedAll s.heap (D.nks l) vs → NestedKey.depthAll (D.nks l) ≤ n → ∀ u ∈ vs, Says P w (hashByValue n u) true s
  | [], vs, n, x, _ => by cases x; intro u hu; cases hu
  | d :: l, vs, n, x, hn => by
    cases x with
    | cons h t =>
      simp only [D.nks, NestedKey.depthAll] at hn
      intro u hu
      rcases List.mem_cons.mp hu with e | hu
      · rw [e]; exact plain_key d _ n h (by omega)
      · exact plain_keys l _ n t (by omega) u hu
end
mutual
theorem bare_key : ∀ (d : D) (v : Value) (n : Nat), NestedIs s.heap d.nk v → d.nk.depth ≤ n → Says P w (ofAClassStatement n v) false s
  | .int i, v, n, x, _ => by
    intro A E Q q
    cases x with
    | bool e => cases n <;> exact wpAny_pure q
    | int _ t => cases n <;> exact wpAny_pure q
  | .tup l, v, n, x, hn => by
    intro A E Q q
    cases x with
    | @tup a o vs m _ ho hc hd hk =>
      cases n with
      | zero => simp [D.nk, NestedKey.depth] at hn
      | succ n =>
        have all := bare_keys l vs.toList n hk (by simp only [D.nk, NestedKey.depth] at hn; omega)
        unfold ofAClassStatement
        refine wpAny_bind (wpAny_typeOf ⟨o, ho, hc⟩ ?_)
        dsimp only
        have et : ("tuple" : String) == "tuple" := by decide
        simp only [et, if_true]
        refine wpAny_bind (wpAny_pure ?_)
        simp only [Bool.not_true, Bool.false_eq_true, if_false]
        refine wpAny_bind (wpAny_seqItems ho hd (wpAny_bind ?_))
        show wpAny _ _ (forIn vs _ _) _ _ s
        rw [← Array.forIn_toList]
        refine wpAny_forIn_list _ (fun rest st z => st.1 = none ∧ z = s ∧ ∀ u ∈ rest, Says P w (ofAClassStatement n u) false s) _ ?_ ?_ _ _ ⟨rfl, rfl, all⟩
        · rintro u rest st z ⟨e1, rfl, hr⟩
          refine wpAny_bind (hr u List.mem_cons_self _ _ _ (wp_if_neg (by decide) (wpAny_pure ⟨rfl, rfl, fun y hy => hr y (List.mem_cons_of_mem _ hy)⟩)))
        · rintro ⟨e1, e2⟩ z ⟨he, rfl, _⟩
          obtain rfl : e1 = none := he
          exact wpAny_pure q
theorem bare_keys : ∀ (l : List D) (vs : List Value) (n : Nat), NestedAll s.heap (D.nks l) vs → NestedKey.depthAll (D.nks l) ≤ n → ∀ u ∈ vs, Says P w (ofAClassStatement n u) false s
  | [], vs, n, x, _ => by cases x; intro u hu; cases hu
  | d :: l, vs, n, x, hn => by
    cases x with
    | cons h t =>
      simp only [D.nks, NestedKey.depthAll] at hn
      intro u hu
      rcases List.mem_cons.mp hu with e | hu
      · rw [e]; exact bare_key d _ n h (by omega)
      · exact bare_keys l _ n t (by omega) u hu
end
/-- a search among keys is not seen -/
theorem unseen {d : D} {a : Addr} (k : KeyAt s.heap d a) {ys : List Value} (hy : ∀ y ∈ ys, ∃ e b, y = Value.ref b ∧ KeyAt s.heap e b) : Says P w (searchCouldBeSeen (.ref a) ys) false s := by
  intro A E Q q
  unfold searchCouldBeSeen
  refine wpAny_bind (wpAny_forIn_list _ (fun rest st z => st.1 = none ∧ z = s ∧ ∀ y ∈ rest, ∃ e b, y = Value.ref b ∧ KeyAt s.heap e b) _ ?_ ?_ _ _ ⟨rfl, rfl, hy⟩)
  · rintro y rest st z ⟨_, rfl, hr⟩
    obtain ⟨e, b, rfl, kb⟩ := hr y List.mem_cons_self
    have fin : ∀ y ∈ rest, ∃ e b, y = Value.ref b ∧ KeyAt z.heap e b := fun u hu => hr u (List.mem_cons_of_mem _ hu)
    by_cases hv : (a == b || (carriedByValue (.ref a) && carriedByValue (.ref b))) = true
    · exact wp_if_pos hv (wpAny_pure ⟨rfl, rfl, fin⟩)
    · refine wp_if_neg hv (wpAny_bind ((nestedKind P w).quiet k (wp_if_neg (by decide) ?_)))
      refine wpAny_bind ((nestedKind P w).quiet kb (wp_if_neg (by decide) ?_))
      refine wpAny_bind (bare_key d _ 8 k.1 k.2 _ _ _ (wp_if_neg (by decide) ?_))
      exact wpAny_bind (bare_key e _ 8 kb.1 kb.2 _ _ _ (wp_if_neg (by decide) (wpAny_pure ⟨rfl, rfl, fin⟩)))
  · rintro ⟨e1, e2⟩ z ⟨he, rfl, _⟩
    obtain rfl : e1 = none := he
    exact wpAny_pure q
end
end K56
set_option Elab.async false
set_option linter.all false
set_option maxRecDepth 100000
set_option maxHeartbeats 4000000
namespace K56
open PySem PySem.Spec PyProof.Rows L2
open Sem (wp)
/-! ### sets of keys -/
/-- the rows that a set of these keys holds -/
def binRows (w : World) (L : List (Addr × D)) : Array (Int × Value) := (L.map fun p => (p.2.hs w, Value.ref p.1)).toArray
/-- at S stands a set of the keys L -/
structure Bin (w : World) (h : Heap) (S : Addr) (L : List (Addr × D)) (t : SetTable) : Prop where
  obj : ∃ o ep, h.get? S = some o ∧ o.ExactSet ∧ o.data = .set (binRows w L) ep t
  tab : TabOk t (L.map fun p => p.2.hs w)
  nd : (L.map (·.2)).Nodup
  keys : ∀ p ∈ L, KeyAt h p.2 p.1
  val : t.plain = true
  led : w.params.followText "set-order" = true ∨ t.led = true
  room : L.length * 5 < t.mask * 3
  few : L.length < 64
/-- the way's state at a step -/
abbrev stepAt (t : SetTable) (h : Int) (c : Nat) : SetTable.Probe := nth t.mask (runAt t.mask (SetTable.bits h % (t.mask + 1)) (SetTable.bits h)) c
theorem step_clean (t : SetTable) (h : Int) (c : Nat) : (stepAt t h c).dummy = none := by
  have all : ∀ (n : Nat) (p : SetTable.Probe), p.dummy = none → (nth t.mask p n).dummy = none := fun n => by
    induction n with
    | zero => exact fun _ e => e
    | succ n ih => exact fun p e => ih _ (by unfold adv; split <;> exact e)
  exact all c _ rfl
section
variable {P : Program} {w : World} {A : Around} {E : Value → Shared → Prop} {s : Shared} {S : Addr} {L : List (Addr × D)} {t : SetTable}
theorem binRows_at {i : Nat} {p : Addr × D} (e : L[i]? = some p) : (binRows w L)[i]? = some (p.2.hs w, Value.ref p.1) := by
  unfold binRows
  rw [List.getElem?_toArray, List.getElem?_map, e]; rfl
theorem binRows_size : (binRows w L).size = L.length := by simp [binRows]
theorem Bin.places (B : Bin w s.heap S L t) : t.place.toList.length = L.length := by
  rw [Array.length_toList, B.tab.sz, List.length_map]
theorem fit_of {T : SetTable} {hs : List Int} (x : TabOk T hs) {n : Nat} (e : n = hs.length) (r : n ≤ T.mask) : T.fits n = true := by
  have := x.sz
  simp only [SetTable.fits, SetTable.fill, x.dm, Bool.and_eq_true, beq_iff_eq, decide_eq_true_eq]
  exact ⟨by omega, show T.place.size + 0 ≤ T.mask by omega⟩
theorem Bin.fit (B : Bin w s.heap S L t) : t.fits (binRows w L).size = true := by
  have := B.room
  exact fit_of B.tab (by rw [binRows_size, List.length_map]) (by rw [binRows_size]; omega)
theorem Bin.stays (B : Bin w s.heap S L t) : ¬ t.gaveWay = true := by
  simp only [SetTable.gaveWay, mask_odd B.tab.mok]
  decide
theorem Bin.ready (B : Bin w s.heap S L t) {m : Array (Int × Value) × Nat × SetTable → Prop} {Q : (Array (Int × Value) × Nat × SetTable) → Shared → Prop} (q : ∀ ep, Q (binRows w L, ep, t) s) : wpAny (model P w) A (setState S) Q E s := by
  obtain ⟨o, ep, ho, _, hd⟩ := B.obj
  exact wpAny_setState_of ho hd B.fit (q ep)
/-- the search for a key, from the c-th step of its way; N: the first empty slot on it -/
theorem Bin.seek (B : Bin w s.heap S L t) {x : Addr} {k : D} (kx : KeyAt s.heap k x) (hu : A.units + 8 < cLine) {N : Nat} (hf : N < 10 * SetTable.turns t.mask) (h0 : way t.mask (k.hs w) N ∉ t.place.toList)
    (hb : ∀ c, c < N → way t.mask (k.hs w) c ∈ t.place.toList) {Q : SetFound → Shared → Prop} (yes : k ∈ L.map (·.2) → Q (.there none) s) (no : k ∉ L.map (·.2) → Q (.free (way t.mask (k.hs w) N) false) s) :
    ∀ (f c : Nat) (at_ : Option SetTable.Probe), at_.getD (t.probeStart (k.hs w)) = stepAt t (k.hs w) c → c ≤ N → N < f + c →
      (∀ (i : Nat) (p : Addr × D), L[i]? = some p → p.2 = k → ∃ d, c ≤ d ∧ d < N ∧ t.place.toList[i]? = some (way t.mask (k.hs w) d)) → wpAny (model P w) A (setSearchFrom S (.ref x) (k.hs w) true f at_) Q E s := by
  intro f
  induction f with
  | zero => intro c at_ _ h1 h2; exact absurd h2 (by omega)
  | succ f ih =>
    intro c at_ hat h1 h2 hat2
    rw [setSearchFrom_succ]
    refine wpAny_bind (B.ready (m := fun _ => True) fun ep => ?_)
    dsimp only
    refine wp_if_neg B.stays ?_
    have shift : ∀ q, nth t.mask (stepAt t (k.hs w) c) q = stepAt t (k.hs w) (c + q) := fun q => (nth_add t.mask c _ q).symm
    have wj : ∀ q, (nth t.mask (stepAt t (k.hs w) c) q).j = way t.mask (k.hs w) (c + q) := fun q => by rw [shift q]
    have hashes : ∀ (i : Nat) (p : Addr × D), L[i]? = some p → (((binRows w L)[i]?.map (·.1)).getD 0) = p.2.hs w := fun i p e => by rw [binRows_at e]; rfl
    have met := go_spec t B.tab.ris B.tab.dm (fun i => ((binRows w L)[i]?.map (·.1)).getD 0) (k.hs w) (10 * SetTable.turns t.mask) (N - c) (stepAt t (k.hs w) c) (step_clean t _ c) (by omega)
      (fun q hq => by rw [wj]; exact hb _ (by omega)) (by rw [wj, Nat.add_sub_cancel' h1]; exact h0)
    -- what has the key is not passed
    have ahead : ∀ q, c + q ≤ N → (∀ q' (i : Nat), q' < q → t.place.toList[i]? = some (nth t.mask (stepAt t (k.hs w) c) q').j → (((binRows w L)[i]?.map (·.1)).getD 0) ≠ k.hs w) → ∀ (i : Nat) (p : Addr × D), L[i]? = some p → p.2 = k → ∃ d, c + q ≤ d ∧ d < N ∧ t.place.toList[i]? = some (way t.mask (k.hs w) d) := by
      intro q _ hno i p hp hk
      obtain ⟨d, d1, d2, d3⟩ := hat2 i p hp hk
      refine ⟨d, ?_, d2, d3⟩
      rcases Nat.lt_or_ge d (c + q) with z | z
      · refine absurd ?_ (hno (d - c) i (by omega) (by rw [wj, Nat.add_sub_cancel' d1]; exact d3))
        rw [hashes i p hp, hk]
      · exact z
    rcases met with ⟨q, i, m1, m2, m3, m4, m5⟩ | ⟨m1, m2⟩
    · have pr : t.probe (fun i => ((binRows w L)[i]?.map (·.1)).getD 0) (k.hs w) (at_.getD (t.probeStart (k.hs w))) = some (.candidate (way t.mask (k.hs w) (c + q)) i (stepAt t (k.hs w) (c + (q + 1)))) := by
        rw [hat, ← wj, ← shift]; exact m5
      rw [pr]
      dsimp only
      rw [wj] at m2
      have il : i < L.length := by rw [← B.places]; exact (List.getElem?_eq_some_iff.mp m2).1
      obtain ⟨p, hp⟩ : ∃ p, L[i]? = some p := ⟨_, List.getElem?_eq_getElem il⟩
      have kp := B.keys p (List.mem_of_getElem? hp)
      have after : wpAny (model P w) A (searchRest S (.ref x) (k.hs w) true f (binRows w L) t (way t.mask (k.hs w) (c + q)) i (stepAt t (k.hs w) (c + (q + 1)))) Q E s := by
        unfold searchRest
        rw [binRows_at hp]
        dsimp only
        refine wpAny_bind (wpAny_holding (keyEq hu kp kx (fun e => ?_) fun ne => ?_))
        · exact wpAny_bind (B.ready (m := fun _ => True) fun ep => wp_if_pos (by decide) (wpAny_pure (yes (List.mem_map.mpr ⟨p, List.mem_of_getElem? hp, e⟩))))
        · refine wpAny_bind (B.ready (m := fun _ => True) fun ep => wp_if_neg (by decide) ?_)
          rw [sameMem]
          have sl : t.slot (way t.mask (k.hs w) (c + q)) = .live i := slot_live B.tab.ris m2
          simp only [if_true, sl, binRows_at hp]
          refine wpAny_bind (wpAny_isSame_ref_self (wpAny_bind (wpAny_pure ?_)))
          simp only [if_true]
          refine wp_if_neg (by decide) (ih (c + (q + 1)) _ rfl (by omega) (by omega) fun i2 p2 hp2 hk2 => ?_)
          obtain ⟨d, d1, d2, d3⟩ := ahead q (by omega) m4 i2 p2 hp2 hk2
          refine ⟨d, ?_, d2, d3⟩
          have : d ≠ c + q := fun z => by
            rw [z] at d3
            have := slot_live B.tab.ris d3
            rw [sl] at this
            injection this with this
            rw [← this, hp] at hp2
            exact ne ((congrArg Prod.snd (Option.some.inj hp2)).trans hk2)
          omega
      by_cases ld : t.led = true
      · exact wp_if_neg (by rw [ld]; decide) after
      · refine wp_if_pos (by rw [Bool.not_eq_true] at ld; rw [ld]; rfl) (wpAny_bind (unseen kx (fun y hy => ?_) _ _ _ (wp_if_neg (by decide) after)))
        obtain ⟨r, hr, e⟩ := List.mem_map.mp hy
        have hr1 : r ∈ binRows w L := (by simpa using hr : r ∈ binRows w L ∧ _).1
        unfold binRows at hr1
        obtain ⟨p2, hp2, e2⟩ := List.mem_map.mp (List.mem_toArray.mp hr1)
        exact ⟨p2.2, p2.1, by rw [← e, ← e2], B.keys p2 hp2⟩
    · have pr : t.probe (fun i => ((binRows w L)[i]?.map (·.1)).getD 0) (k.hs w) (at_.getD (t.probeStart (k.hs w))) = some (.empty (way t.mask (k.hs w) N) none) := by
        have e := wj (N - c)
        rw [Nat.add_sub_cancel' h1] at e
        rw [hat, ← e]; exact m2
      rw [pr]
      refine wpAny_pure (no fun hm => ?_)
      obtain ⟨p, hp, hk⟩ := List.mem_map.mp hm
      obtain ⟨i, hi, e⟩ := List.getElem_of_mem hp
      have hp' : L[i]? = some p := by rw [List.getElem?_eq_getElem hi, e]
      obtain ⟨d, d1, d2, d3⟩ := ahead (N - c) (by omega) m1 i p hp' hk
      omega
theorem Bin.search (B : Bin w s.heap S L t) {x : Addr} {k : D} (kx : KeyAt s.heap k x) (hu : A.units + 8 < cLine) {Q : SetFound → Shared → Prop} (yes : k ∈ L.map (·.2) → Q (.there none) s)
    (no : ∀ N, k ∉ L.map (·.2) → way t.mask (k.hs w) N ∉ t.place.toList → (∀ c, c < N → way t.mask (k.hs w) c ∈ t.place.toList) → Q (.free (way t.mask (k.hs w) N) false) s) : wpAny (model P w) A (setSearch S (.ref x) (k.hs w) true) Q E s := by
  have rm := B.room
  obtain ⟨N, n1, n2, n3⟩ := B.tab.first (by rw [List.length_map]; omega) (k.hs w)
  have big : 10 * SetTable.turns t.mask ≤ 1420 := by
    unfold SetTable.turns
    rcases B.tab.mok with e | e | e <;> omega
  unfold setSearch
  refine B.seek kx hu n1 n2 n3 yes (fun z => no N z n2 n3) 100000 0 none rfl (Nat.zero_le _) (by omega) fun i p hp hk => ?_
  have il : i < t.place.toList.length := by rw [B.places]; exact (List.getElem?_eq_some_iff.mp hp).1
  obtain ⟨c, c1, c2⟩ := B.tab.before n2 (i := i) (h := k.hs w) (by rw [List.getElem?_map, hp, ← hk]; rfl) (List.getElem?_eq_getElem il)
  exact ⟨c, Nat.zero_le _, c1, by rw [c2]; exact List.getElem?_eq_getElem il⟩
end
end K56
set_option Elab.async false
set_option linter.all false
set_option maxRecDepth 100000
set_option maxHeartbeats 4000000
namespace K56
open PySem PySem.Spec PyProof.Rows L2
open Sem (wp)
/-! ### a key put in -/
theorem all_picked {α : Type} (L : List α) : (List.range L.length).filterMap (fun i => L[i]?) = L := by
  suffices h : ∀ n, n ≤ L.length → (List.range n).filterMap (fun i => L[i]?) = L.take n by rw [h _ (Nat.le_refl _), List.take_length]
  intro n
  induction n with
  | zero => simp
  | succ n ih =>
    intro hn
    rw [List.range_succ, List.filterMap_append, ih (by omega), take_snoc (List.getElem?_eq_getElem hn)]
    simp [List.getElem?_eq_getElem (show n < L.length from hn)]
theorem picked {w : World} {L : List (Addr × D)} : ∀ l : List Nat, (∀ i ∈ l, i < L.length) →
    l.filterMap (fun i => (binRows w L)[i]?) = (binRows w (l.filterMap fun i => L[i]?)).toList ∧ (l.filterMap fun i => L[i]?).map (fun p => p.2.hs w) = l.map (fun i => ((binRows w L).map (·.1)).getD i 0)
  | [], _ => ⟨rfl, rfl⟩
  | i :: l, h => by
    obtain ⟨e1, e2⟩ := picked l fun j hj => h j (List.mem_cons_of_mem _ hj)
    obtain ⟨p, hp⟩ : ∃ p, L[i]? = some p := ⟨_, List.getElem?_eq_getElem (h i List.mem_cons_self)⟩
    have hr : (binRows w L)[i]? = some (p.2.hs w, Value.ref p.1) := binRows_at hp
    refine ⟨?_, ?_⟩
    · rw [List.filterMap_cons_some hr, List.filterMap_cons_some hp, e1]; simp [binRows]
    · rw [List.filterMap_cons_some hp, List.map_cons, List.map_cons, e2]
      congr 1
      simp [Array.getD_eq_getD_getElem?, hr]
theorem binRows_put {w : World} (L : List (Addr × D)) (n : Nat) (x : Addr) (k : D) (hn : n ≤ L.length) : SetTable.insertAt (binRows w L) n (k.hs w, Value.ref x) = binRows w (L.take n ++ (x, k) :: L.drop n) := by
  refine Array.ext' ?_
  rw [SetTable.toList_insertAt]
  simp [binRows, List.map_take, List.map_drop]
theorem put_in_perm {α : Type} (L : List α) (n : Nat) (x : α) : (L.take n ++ x :: L.drop n).Perm (x :: L) := by
  have e := List.perm_middle (a := x) (l₁ := L.take n) (l₂ := L.drop n)
  rwa [List.take_append_drop] at e
theorem keyAt_set {h h' : Heap} {d : D} {a S : Addr} {o : Obj} {es : Array (Int × Value)} {ep : Nat} {t : SetTable} (k : KeyAt h d a) (ho : h.get? S = some o) (hd : o.data = .set es ep t) (sb : Heap.SameBut S h h') : KeyAt h' d a :=
  k.keep fun b ob vs n e q => (sb.2 b fun z => by rw [z, ho] at e; cases e; rw [hd] at q; cases q).trans e
section
variable {P : Program} {w : World} {A : Around} {E : Value → Shared → Prop} {s : Shared} {S : Addr} {L : List (Addr × D)} {t : SetTable}
/-- the table is laid anew -/
theorem bin_relay {o : Obj} {ep : Nat} (ho : s.heap.get? S = some o) (hx : o.ExactSet) (hd : o.data = .set (binRows w L) ep t) (tab : TabOk t (L.map fun p => p.2.hs w)) (fl : L.length ≤ t.mask) (nd : (L.map (·.2)).Nodup)
    (keys : ∀ p ∈ L, KeyAt s.heap p.2 p.1) (val : t.plain = true) (led : w.params.followText "set-order" = true ∨ t.led = true) (few : L.length < 64) {want M : Nat} (e1 : SetTable.sizeAbove want = M + 1) (hM : MaskOk M) (e3 : L.length * 5 < M * 3)
    {Q : Unit → Shared → Prop} (q : ∀ h' L' t', Heap.SameBut S s.heap h' → Bin w h' S L' t' → L'.Perm L → Q () { s with heap := h' }) : wpAny (model P w) A (setRelay S want) Q E s := by
  have hM' : M ≤ 127 := by rcases hM with e | e | e <;> omega
  obtain ⟨t', ord, r1, r2, r3, r4, r5, r6, r7⟩ := relaid_ok t (hs := (binRows w L).map (·.1)) (wanted := want) (M := M) (by omega) hM (by rw [Array.size_map, binRows_size]; omega)
  rw [Array.size_map, binRows_size] at r2
  obtain ⟨p1, p2⟩ := picked (w := w) (L := L) ord.toList fun i hi => List.mem_range.mp (r2.mem_iff.mp hi)
  have pm : (ord.toList.filterMap fun i => L[i]?).Perm L := by
    have := r2.filterMap (fun i => L[i]?)
    rwa [all_picked] at this
  rw [← p2] at r3
  have p3 : ord.filterMap (fun i => (binRows w L)[i]?) = binRows w (ord.toList.filterMap fun i => L[i]?) := Array.ext' (by rw [← p1]; simp)
  generalize ord.toList.filterMap (fun i => L[i]?) = L2 at pm r3 p3
  have n2 : (binRows w L2).size = (binRows w L).size := by rw [binRows_size, binRows_size, pm.length_eq]
  rw [setRelay_eq]
  refine wpAny_bind (wpAny_setState_of ho hd (fit_of tab (by rw [binRows_size, List.length_map]) (by rw [binRows_size]; exact fl)) ?_)
  dsimp only
  refine wp_if_neg (by rw [e1, sizeLine_eq]; omega) ?_
  rw [r1]
  dsimp only
  rw [p3]
  refine wpAny_bind (wp_if_neg (by rw [n2]; simp) (wpAny_pure ?_))
  dsimp only
  refine wpAny_storeSet_of ho hd ?_ (by rw [binRows_size, pm.length_eq, sizeLine_eq]; omega)
  have sb : Heap.SameBut S s.heap (s.heap.update S (Obj.putSet (binRows w L2) t')) := Heap.SameBut.update ..
  refine q _ L2 t' sb ⟨⟨_, _, store_at ho hd, ⟨hx.1, hx.2.1, hx.2.2⟩, rfl⟩, r3, (pm.map (·.2)).nodup_iff.mpr nd, fun p hp => keyAt_set (keys p (pm.mem_iff.mp hp)) ho hd sb, by rw [r6]; exact val, by rw [r5]; exact led, ?_, by rw [pm.length_eq]; exact few⟩ pm
  rw [pm.length_eq, r4]; exact e3
theorem sizes_at {m n : Nat} (hm : MaskOk m) (lo : n * 5 < m * 3) (hi : (n + 1) * 5 ≥ m * 3) (few : n + 1 < 64) : ∃ M, SetTable.sizeAbove (SetTable.grown (n + 1)) = M + 1 ∧ MaskOk M ∧ (n + 1) * 5 < M * 3 := by
  rcases hm with e | e | e
  · have : n = 4 := by omega
    subst this
    exact ⟨31, by decide +kernel, .inr (.inl rfl), by decide⟩
  · have : n = 18 := by omega
    subst this
    exact ⟨127, by decide +kernel, .inr (.inr rfl), by decide⟩
  · omega
/-- one more key -/
theorem Bin.add (B : Bin w s.heap S L t) {x : Addr} {k : D} (kx : KeyAt s.heap k x) (hu : A.units + 8 < cLine) (few : L.length + 1 < 64) {Q : Bool → Shared → Prop}
    (q : ∀ b h' L' t', Heap.SameBut S s.heap h' → Bin w h' S L' t' → (k ∈ L.map (·.2) ∧ L' = L ∨ k ∉ L.map (·.2) ∧ L'.Perm ((x, k) :: L)) → Q b { s with heap := h' }) : wpAny (model P w) A (setAddHashed S (.ref x) (k.hs w)) Q E s := by
  obtain ⟨o, ep, ho, hx, hd⟩ := B.obj
  unfold setAddHashed
  refine wpAny_holding ?_
  rw [show (100000 : Nat) = 99999 + 1 from rfl, setAddHashedIn_succ]
  refine wpAny_bind (B.ready (m := fun _ => True) fun _ => ?_)
  dsimp only
  refine wp_if_neg (by simp [byScan, Value.scannable]) (wpAny_bind (B.search kx hu (fun hm => wpAny_pure (q false s.heap L t (Heap.SameBut.refl S s.heap) B (.inl ⟨hm, rfl⟩))) fun N hm h1 h2 => ?_))
  dsimp only
  refine wpAny_bind (B.ready (m := fun _ => True) fun _ => ?_)
  dsimp only
  obtain ⟨g1, g2, g3, g4, g5, g6, g7, g8, g9⟩ := B.tab.put h1 h2
  have gp : (t.put (way t.mask (k.hs w) N)).1.plain = true := by rw [g6]; exact B.val
  generalize t.put (way t.mask (k.hs w) N) = pt at g1 g3 g4 g5 g6 g9 gp ⊢
  obtain ⟨t1, j⟩ := pt
  dsimp only at g1 g3 g4 g5 g6 g9 gp ⊢
  subst g1
  generalize SetTable.below t.place (way t.mask (k.hs w) N) = j at g2 g3 ⊢
  rw [List.length_map] at g2 g9
  simp only [gp, if_true]
  refine wpAny_bind (plain_key k (.ref x) 8 kx.1 kx.2 A E _ ?_)
  simp only [if_true]
  rw [binRows_put L j x k g2]
  have eh : (L.take j ++ (x, k) :: L.drop j).map (fun p => p.2.hs w) = (L.map fun p => p.2.hs w).take j ++ k.hs w :: (L.map fun p => p.2.hs w).drop j := by
    rw [List.map_append, List.map_cons, List.map_take, List.map_drop]
  rw [← eh] at g3
  have pm := put_in_perm L j (x, k)
  generalize L.take j ++ (x, k) :: L.drop j = L1 at pm g3 ⊢
  have ln : L1.length = L.length + 1 := pm.length_eq
  have nd : (L1.map (·.2)).Nodup := (pm.map (·.2)).nodup_iff.mpr (List.nodup_cons.mpr ⟨hm, B.nd⟩)
  refine wpAny_bind (wpAny_storeSet_of ho hd ?_ (by rw [binRows_size, ln, sizeLine_eq]; omega))
  have sb : Heap.SameBut S s.heap (s.heap.update S (Obj.putSet (binRows w L1) t1)) := Heap.SameBut.update ..
  have ho1 := store_at (es' := binRows w L1) (t' := t1) ho hd
  generalize s.heap.update S (Obj.putSet (binRows w L1) t1) = h1 at sb ho1 ⊢
  have ks : ∀ p ∈ L1, KeyAt h1 p.2 p.1 := fun p hp => by
    rcases List.mem_cons.mp (pm.mem_iff.mp hp) with e | hp
    · rw [e]; exact keyAt_set kx ho hd sb
    · exact keyAt_set (B.keys p hp) ho hd sb
  have ld : w.params.followText "set-order" = true ∨ t1.led = true := by rw [g5]; exact B.led
  have rm := B.room
  have full : t1.tooFull = decide ((L.length + 1) * 5 ≥ t1.mask * 3) := by unfold SetTable.tooFull; rw [g9]
  by_cases hf : (L.length + 1) * 5 ≥ t1.mask * 3
  · obtain ⟨M, z1, z2, z3⟩ := sizes_at (n := L.length) B.tab.mok rm (by rw [← g4]; exact hf) few
    rw [binRows_size]
    simp only [full, decide_eq_true hf, Bool.not_false, Bool.true_and, if_true]
    refine wpAny_bind (bin_relay (s := { s with heap := h1 }) ho1 ⟨hx.1, hx.2.1, hx.2.2⟩ rfl g3 (by rw [ln, g4]; rcases B.tab.mok with e | e | e <;> omega) nd ks gp ld (by rw [ln]; exact few) z1 z2 (by rw [ln]; exact z3) fun h2 L2 t2 sb2 B2 pm2 => ?_)
    exact wpAny_pure (q true h2 L2 t2 (sb.trans sb2) B2 (.inr ⟨hm, pm2.trans pm⟩))
  · simp only [full, decide_eq_false hf, Bool.not_false, Bool.and_false, Bool.false_eq_true, if_false]
    exact wpAny_pure (q true h1 L1 t1 sb ⟨⟨_, _, ho1, ⟨hx.1, hx.2.1, hx.2.2⟩, rfl⟩, g3, nd, ks, gp, ld, by rw [ln]; omega, by rw [ln]; exact few⟩ (.inr ⟨hm, pm⟩))
end
end K56
set_option Elab.async false
set_option linter.all false
set_option maxRecDepth 100000
set_option maxHeartbeats 4000000
namespace K56
open PySem PySem.Spec PyProof.Rows L2
open Sem (wp)
/-! ### set(xs) -/
/-- what the set holds behind the first i items -/
structure Held (ks : List (Addr × D)) (i : Nat) (L : List (Addr × D)) : Prop where
  sub : ∀ p ∈ L, p ∈ ks.take i
  all : ∀ p ∈ ks.take i, p.2 ∈ L.map (·.2)
  len : L.length ≤ i
theorem Held.one {ks L L' : List (Addr × D)} {i : Nat} {p : Addr × D} (g : Held ks i L) (e : ks[i]? = some p) (c : p.2 ∈ L.map (·.2) ∧ L' = L ∨ p.2 ∉ L.map (·.2) ∧ L'.Perm (p :: L)) : Held ks (i + 1) L' := by
  have tk := take_snoc e
  have old : ∀ r ∈ ks.take (i + 1), r ∈ ks.take i ∨ r = p := fun r hr => by
    rw [tk] at hr
    rcases List.mem_append.mp hr with hr | hr
    · exact .inl hr
    · exact .inr (List.mem_singleton.mp hr)
  have up : ∀ r ∈ ks.take i, r ∈ ks.take (i + 1) := fun r hr => by rw [tk]; exact List.mem_append_left _ hr
  rcases c with ⟨hm, rfl⟩ | ⟨_, pm⟩
  · refine ⟨fun r hr => up r (g.sub r hr), fun r hr => ?_, by have := g.len; omega⟩
    rcases old r hr with z | rfl
    · exact g.all r z
    · exact hm
  · have mm : ∀ d, d ∈ L'.map (·.2) ↔ d = p.2 ∨ d ∈ L.map (·.2) := fun d => by rw [(pm.map (·.2)).mem_iff, List.map_cons, List.mem_cons]
    refine ⟨fun r hr => ?_, fun r hr => ?_, by rw [pm.length_eq, List.length_cons]; have := g.len; omega⟩
    · rcases List.mem_cons.mp (pm.mem_iff.mp hr) with rfl | z
      · rw [tk]; simp
      · exact up r (g.sub r z)
    · rcases old r hr with z | rfl
      · exact (mm _).2 (.inr (g.all r z))
      · exact (mm _).2 (.inl rfl)
section
variable {P : Program} {w : World} {A : Around} {E : Value → Shared → Prop} {s : Shared}
abbrev newSet (w : World) : Obj := { cls := .type "set", dict := none, data := .set #[] 0 (.fresh 0 0 (!w.params.followText "set-order")) }
theorem bin_new {h : Heap} {S : Addr} (e : h.get? S = some { cls := .type "set", dict := none, data := .set #[] 0 (.fresh 0 0 (!w.params.followText "set-order")) }) : Bin w h S [] (.fresh 0 0 (!w.params.followText "set-order")) := by
  refine ⟨⟨_, 0, e, ⟨rfl, rfl, rfl⟩, rfl⟩, ⟨.nil, rfl, rfl, .inl rfl, (fun _ hx => nomatch hx), fun i h j hi => by simp at hi⟩, .nil, (fun _ hp => nomatch hp), rfl, ?_, (show 0 * 5 < 7 * 3 by decide), (show 0 < 64 by decide)⟩
  cases w.params.followText "set-order"
  · exact .inr rfl
  · exact .inl rfl
theorem Bin.keep {h h' : Heap} {S : Addr} {L : List (Addr × D)} {t : SetTable} (B : Bin w h S L t) (e : ∀ o, h.get? S = some o → h'.get? S = some o) (k : ∀ p ∈ L, KeyAt h' p.2 p.1) : Bin w h' S L t := by
  obtain ⟨o, ep, ho, r⟩ := B.obj
  exact ⟨⟨o, ep, e o ho, r⟩, B.tab, B.nd, k, B.val, B.led, B.room, B.few⟩
theorem fill_loop {I : Addr} {fp wr : List Addr} {G : Array GenState → Array GenState → Prop} {n : Nat} {Pv : Nat → Value → Prop} {St : Nat → Shared → Prop} {R : Result → Shared → Prop} (W : WalksS P w A.in1 I fp wr G n Pv St) {S : Addr} (hS : S ∉ fp)
    {ks : List (Addr × D)} (hn : n = ks.length) (few : ks.length < 64) (hv : ∀ i v, Pv i v → ∃ p, ks[i]? = some p ∧ v = .ref p.1) {h0 : Heap} (hk : ∀ p ∈ ks, KeyAt h0 p.2 p.1) (n0 : ∀ b ∈ S :: wr, h0.get? b = none) (hu : A.in1.units + 8 < cLine) :
    ∀ (j i : Nat) (s : Shared), i + j = n → St i s → (∀ b o, h0.get? b = some o → s.heap.get? b = some o) → (∃ L t, Bin w s.heap S L t ∧ Held ks i L) →
      (∀ s' L t, Moved (S :: wr) G s s' → Bin w s'.heap S L t → Held ks n L → (∀ b o, h0.get? b = some o → s'.heap.get? b = some o) → R (.ok (.ret .none)) s') →
      codeAny (model P w) A (.builtin "set.update.loop" ⟨[.ref S, .ref I], []⟩) R s := by
  have big : ∀ b ∈ wr, b ∈ S :: wr := fun b hb => List.mem_cons_of_mem _ hb
  have Sw : S ∉ wr := fun z => hS (W.sub _ z)
  have stand : ∀ {s s' : Shared}, Moved wr G s s' → (∀ b o, h0.get? b = some o → s.heap.get? b = some o) → ∀ b o, h0.get? b = some o → s'.heap.get? b = some o := fun m k b o e =>
    m.heap b o (fun hb => by rw [n0 b (big b hb)] at e; cases e) (k b o e)
  have opened : ∀ {s : Shared}, wpAny (model P w) A.in1 (Builtin.«set.update.loop» ⟨[.ref S, .ref I], []⟩) (fun _ _ => True) (fun _ _ => True) s → True := fun _ => trivial
  intro j
  induction j with
  | zero =>
    intro i s hi st kp ⟨L, t, B, g⟩ hR
    obtain rfl : i = n := by omega
    refine codeAny_builtin F.entry_set_update_loop ?_
    rw [Around.under_plainId F.plain_set_update_loop _]
    show wpAny _ A.in1 (pyNext (.ref I) >>= _) _ _ s
    refine wpAny_bind (W.done s _ _ st fun s' m => wpAny_pure ?_)
    have kp' := stand m kp
    exact hR s' L t (m.mono big) (B.keep (fun o e => m.heap S o Sw e) fun p hp => (hk p (List.mem_of_mem_take (g.sub p hp))).keep' kp') g kp'
  | succ j ih =>
    intro i s hi st kp ⟨L, t, B, g⟩ hR
    refine codeAny_builtin F.entry_set_update_loop ?_
    rw [Around.under_plainId F.plain_set_update_loop _]
    show wpAny _ A.in1 (pyNext (.ref I) >>= _) _ _ s
    refine wpAny_bind (W.item i s _ _ (by omega) st fun v s1 hpv st1 m => ?_)
    obtain ⟨p, hp, rfl⟩ := hv i v hpv
    have kp1 := stand m kp
    have B1 := B.keep (fun o e => m.heap S o Sw e) fun p hp => (hk p (List.mem_of_mem_take (g.sub p hp))).keep' kp1
    have kx : KeyAt s1.heap p.2 p.1 := (hk p (List.mem_of_getElem? hp)).keep' kp1
    have few1 : L.length + 1 < 64 := by
      have := g.len
      have := (List.getElem?_eq_some_iff.mp hp).1
      omega
    show wpAny _ A.in1 (holding [Value.ref p.1] (setAdd S (.ref p.1)) >>= _) _ _ s1
    unfold setAdd
    refine wpAny_bind (wpAny_holding (wpAny_holding (wpAny_bind ((nestedKind P w).pyHash hu kx ?_))))
    show wpAny (model P w) A.in1 (setAddHashed S (.ref p.1) (p.2.hs w)) _ _ { s1 with toks := s1.toks + (nestedKind P w).draws p.2.nk }
    refine Bin.add (P := P) (s := { s1 with toks := s1.toks + (nestedKind P w).draws p.2.nk }) B1 kx hu few1 fun b h' L' t' sb B' c => wpAny_pure ⟨plainId_quiet F.plain_set_update_loop _, ?_⟩
    have kp2 : ∀ b o, h0.get? b = some o → h'.get? b = some o := fun b o e => (sb.2 b fun z => by rw [z, n0 S List.mem_cons_self] at e; cases e).trans (kp1 b o e)
    refine ih (i + 1) _ (by omega) (W.frame _ s1 _ _ st1 (Nat.le_add_right _ _) fun b hb o e => (sb.2 b fun z => hS (z ▸ hb)).trans e) kp2 ⟨L', t', B', g.one hp c⟩ fun s2 L2 t2 m2 B2 g2 k2 => ?_
    exact hR s2 L2 t2 (Moved.trans W.gtrans ((m.mono big).then_heap (Nat.le_add_right _ _) fun b o hb e => (sb.2 b fun z => hb (z ▸ List.mem_cons_self)).trans e) m2) B2 g2 k2
/-- set(xs) of a list -/
theorem call_setlist {l : Addr} {items : Array Value} (ks : List (Addr × D)) {Q : Value → Shared → Prop} (hh : A.handled = none) (hl : s.heap.IsList l items) (hit : items.toList = ks.map fun p => Value.ref p.1)
    (hk : ∀ p ∈ ks, KeyAt s.heap p.2 p.1) (few : ks.length < 64) (hu : A.units + 11 < cLine)
    (q : ∀ h' tk L t, Bin w h' s.heap.objs.size L t → Held ks ks.length L → (∀ b o, s.heap.get? b = some o → h'.get? b = some o) → Q (.ref s.heap.objs.size) { s with heap := h', toks := tk }) : wpAny (model P w) A (call (.type "set") [.ref l]) Q E s := by
  have isz : items.size = ks.length := by simpa using congrArg List.length hit
  have hv : ∀ (i : Nat) (v : Value), items[i]? = some v → ∃ p, ks[i]? = some p ∧ v = .ref p.1 := fun i v e => by
    rw [← Array.getElem?_toList, hit, List.getElem?_map, Option.map_eq_some_iff] at e
    obtain ⟨p, e1, e2⟩ := e
    exact ⟨p, e1, e2.symm⟩
  obtain ⟨c, tl, hmro⟩ := F.called_set.mro
  have hmade := F.called_set.made
  have hsub := F.called_set.sub
  have h1 := F.called_set.notType
  have h2 := F.called_set.canCreate
  have hct := F.typeCall_set_1 (.ref l)
  refine wpAny_call (codeAny_of_tree ?_)
  show wpAny _ _ (callAny (.type "set") _) _ _ _
  refine wpAny_pure ⟨Code.quiet_builtin _ (by decide +kernel), codeAny_builtin F.entry_type_call ?_⟩
  rw [Around.under_plain (weight_type_call_type "set" [.ref l] []) rfl]
  repeat (any_goals (first | assumption | wp_step))
  have none_ : ∀ b, s.heap.objs.size ≤ b → s.heap.get? b = none := fun b hb => by
    cases e : s.heap.get? b with
    | none => rfl
    | some o => exact absurd (Heap.lt_size e) (Nat.not_lt.mpr hb)
  have lS : l < s.heap.objs.size := by obtain ⟨o, e, _⟩ := hl; exact Heap.lt_size e
  generalize eN : ({ cls := .type "set", dict := none, data := .set #[] 0 (.fresh 0 0 (!w.params.followText "set-order")) } : Obj) = new
  have frN : new.isFreed = false := by rw [← eN]; rfl
  have hz1 : (s.heap.push new).objs.size = s.heap.objs.size + 1 := Heap.size_push ..
  refine codeAny_mono (code_set_led1 (.ref l) (E := E) (Q₁ := fun obj s₁ => obj = .ref s.heap.objs.size ∧ s₁ = { s with heap := s.heap.push new }) (by rw [eN]; exact ⟨rfl, rfl⟩)) fun r s₁ hr => ?_
  cases r with
  | error e => exact hr
  | ok fl =>
    cases fl with
    | ret obj =>
      obtain ⟨rfl, rfl⟩ := hr
      have hS : (s.heap.push new).get? s.heap.objs.size = some new := Heap.get?_push_size _ frN
      have hT : Shared.TypeIs { s with heap := s.heap.push new } (.ref s.heap.objs.size) "set" := ⟨_, hS, by rw [← eN]⟩
      have hli := F.called_set.init.lookup
      have hbi := F.called_set.init.bind (.ref s.heap.objs.size)
      repeat (any_goals (first | assumption | wp_step))
      refine codeAny_mono (codeAny_call_builtin (R := wants (fun r s₂ => r = .none ∧ ∃ h' tk L t, s₂ = { s with heap := h', toks := tk } ∧ Bin w h' s.heap.objs.size L t ∧ Held ks ks.length L ∧ (∀ b o, s.heap.get? b = some o → h'.get? b = some o)) E)
        F.called_set.init.plain F.entry_set_init (check_set_init_1 hT ?_)) fun r₂ s₂ hr₂ => ?_
      · have hl1 : (s.heap.push new).IsList l items := hl.push _
        obtain ⟨⟨oc, odc, odt, osl⟩, ho, hc, n, hd⟩ := id hl1
        simp only at hc hd
        subst hc; subst hd
        have f1 := F.sub_list_set
        have f2 := F.sub_list_frozenset
        have f3 : (Value.type "list" == Value.type "dict") = false := by decide
        unfold Builtin.«set.__init__» noKeywords Builtin.Frozenset.updateFrom
        subst eN
        generalize hPI : pyIter = PI
        wp_walk
        subst hPI
        refine wpAny_pyIter_list (s := { s with heap := s.heap.push _ }) hl1 ?_
        refine wpAny_bind (wpAny_runValue ?_)
        have hI : l ≠ (s.heap.push (newSet w)).objs.size := by rw [hz1]; exact Nat.ne_of_lt (Nat.lt_succ_of_lt lS)
        refine fill_loop (Walks.list (A := A.in1.in1.in1) (by simpa using hh) _ l hI items).toS (S := s.heap.objs.size) ?_ (h0 := s.heap) isz few hv hk ?_ (by simp only [Around.in1_units]; omega) (items.size - 0) 0 _ (by omega) ⟨⟨_, Heap.get?_push_size _ rfl, rfl, rfl⟩, hl1.push _⟩
          (fun b o e => Heap.get?_push_of_some _ (Heap.get?_push_of_some _ e)) ⟨[], _, bin_new (Heap.get?_push_of_some _ hS), ⟨(fun _ z => nomatch z), (fun _ z => by simp at z), Nat.le_refl _⟩⟩ ?_
        · rw [hz1]
          simp only [List.mem_cons, List.not_mem_nil, or_false, not_or]
          exact ⟨Nat.ne_of_lt (Nat.lt_succ_self _), Nat.ne_of_gt lS⟩
        · intro b hb
          rcases List.mem_cons.mp hb with rfl | hb
          · exact none_ _ (Nat.le_refl _)
          · rw [List.mem_singleton.mp hb, hz1]; exact none_ _ (Nat.le_succ _)
        · rintro ⟨h', g2, d2, tk, os2⟩ L t m B g k
          obtain rfl : g2 = s.gens := m.gens
          obtain rfl : d2 = s.drawn := m.drawn
          obtain rfl : os2 = s.os := m.os
          refine wpAny_pure ?_
          show wpAny _ _ (ret Value.none) _ _ _
          exact wpAny_pure ⟨rfl, h', tk, L, t, rfl, B, isz ▸ g, k⟩
      · cases r₂ with
        | error e => exact hr₂
        | ok fl₂ =>
          cases fl₂ with
          | ret r =>
            obtain ⟨rfl, h', tk, L, t, rfl, B, g, k⟩ := hr₂
            repeat (any_goals (first | assumption | wp_step))
            exact q _ _ _ _ B g k
          | _ => exact hr₂.elim
    | _ => exact hr.elim
/-- set(xs) of a tuple -/
theorem call_settuple {l : Addr} {items : Array Value} (ks : List (Addr × D)) {Q : Value → Shared → Prop} (hh : A.handled = none) (hl : s.heap.IsTuple l items) (hit : items.toList = ks.map fun p => Value.ref p.1)
    (hk : ∀ p ∈ ks, KeyAt s.heap p.2 p.1) (few : ks.length < 64) (hu : A.units + 11 < cLine)
    (q : ∀ h' tk L t, Bin w h' s.heap.objs.size L t → Held ks ks.length L → (∀ b o, s.heap.get? b = some o → h'.get? b = some o) → Q (.ref s.heap.objs.size) { s with heap := h', toks := tk }) : wpAny (model P w) A (call (.type "set") [.ref l]) Q E s := by
  have isz : items.size = ks.length := by simpa using congrArg List.length hit
  have hv : ∀ (i : Nat) (v : Value), items[i]? = some v → ∃ p, ks[i]? = some p ∧ v = .ref p.1 := fun i v e => by
    rw [← Array.getElem?_toList, hit, List.getElem?_map, Option.map_eq_some_iff] at e
    obtain ⟨p, e1, e2⟩ := e
    exact ⟨p, e1, e2.symm⟩
  obtain ⟨c, tl, hmro⟩ := F.called_set.mro
  have hmade := F.called_set.made
  have hsub := F.called_set.sub
  have h1 := F.called_set.notType
  have h2 := F.called_set.canCreate
  have hct := F.typeCall_set_1 (.ref l)
  refine wpAny_call (codeAny_of_tree ?_)
  show wpAny _ _ (callAny (.type "set") _) _ _ _
  refine wpAny_pure ⟨Code.quiet_builtin _ (by decide +kernel), codeAny_builtin F.entry_type_call ?_⟩
  rw [Around.under_plain (weight_type_call_type "set" [.ref l] []) rfl]
  repeat (any_goals (first | assumption | wp_step))
  have none_ : ∀ b, s.heap.objs.size ≤ b → s.heap.get? b = none := fun b hb => by
    cases e : s.heap.get? b with
    | none => rfl
    | some o => exact absurd (Heap.lt_size e) (Nat.not_lt.mpr hb)
  have lS : l < s.heap.objs.size := by obtain ⟨o, e, _⟩ := hl; exact Heap.lt_size e
  generalize eN : ({ cls := .type "set", dict := none, data := .set #[] 0 (.fresh 0 0 (!w.params.followText "set-order")) } : Obj) = new
  have frN : new.isFreed = false := by rw [← eN]; rfl
  have hz1 : (s.heap.push new).objs.size = s.heap.objs.size + 1 := Heap.size_push ..
  refine codeAny_mono (code_set_led1 (.ref l) (E := E) (Q₁ := fun obj s₁ => obj = .ref s.heap.objs.size ∧ s₁ = { s with heap := s.heap.push new }) (by rw [eN]; exact ⟨rfl, rfl⟩)) fun r s₁ hr => ?_
  cases r with
  | error e => exact hr
  | ok fl =>
    cases fl with
    | ret obj =>
      obtain ⟨rfl, rfl⟩ := hr
      have hS : (s.heap.push new).get? s.heap.objs.size = some new := Heap.get?_push_size _ frN
      have hT : Shared.TypeIs { s with heap := s.heap.push new } (.ref s.heap.objs.size) "set" := ⟨_, hS, by rw [← eN]⟩
      have hli := F.called_set.init.lookup
      have hbi := F.called_set.init.bind (.ref s.heap.objs.size)
      repeat (any_goals (first | assumption | wp_step))
      refine codeAny_mono (codeAny_call_builtin (R := wants (fun r s₂ => r = .none ∧ ∃ h' tk L t, s₂ = { s with heap := h', toks := tk } ∧ Bin w h' s.heap.objs.size L t ∧ Held ks ks.length L ∧ (∀ b o, s.heap.get? b = some o → h'.get? b = some o)) E)
        F.called_set.init.plain F.entry_set_init (check_set_init_1 hT ?_)) fun r₂ s₂ hr₂ => ?_
      · have hl1 : (s.heap.push new).IsTuple l items := hl.push _
        obtain ⟨⟨oc, odc, odt, osl⟩, ho, hc, n, hd⟩ := id hl1
        simp only at hc hd
        subst hc; subst hd
        have f1 := F.sub_tuple_set
        have f2 := F.sub_tuple_frozenset
        have f3 : (Value.type "tuple" == Value.type "dict") = false := by decide
        unfold Builtin.«set.__init__» noKeywords Builtin.Frozenset.updateFrom
        subst eN
        generalize hPI : pyIter = PI
        wp_walk
        subst hPI
        refine wpAny_pyIter_tuple (s := { s with heap := s.heap.push _ }) hl1 ?_
        refine wpAny_bind (wpAny_runValue ?_)
        have hI : l ≠ (s.heap.push (newSet w)).objs.size := by rw [hz1]; exact Nat.ne_of_lt (Nat.lt_succ_of_lt lS)
        refine fill_loop (Walks.tuple (A := A.in1.in1.in1) (by simpa using hh) _ l hI items).toS (S := s.heap.objs.size) ?_ (h0 := s.heap) isz few hv hk ?_ (by simp only [Around.in1_units]; omega) (items.size - 0) 0 _ (by omega) ⟨⟨_, Heap.get?_push_size _ rfl, rfl, rfl⟩, hl1.push _⟩
          (fun b o e => Heap.get?_push_of_some _ (Heap.get?_push_of_some _ e)) ⟨[], _, bin_new (Heap.get?_push_of_some _ hS), ⟨(fun _ z => nomatch z), (fun _ z => by simp at z), Nat.le_refl _⟩⟩ ?_
        · rw [hz1]
          simp only [List.mem_cons, List.not_mem_nil, or_false, not_or]
          exact ⟨Nat.ne_of_lt (Nat.lt_succ_self _), Nat.ne_of_gt lS⟩
        · intro b hb
          rcases List.mem_cons.mp hb with rfl | hb
          · exact none_ _ (Nat.le_refl _)
          · rw [List.mem_singleton.mp hb, hz1]; exact none_ _ (Nat.le_succ _)
        · rintro ⟨h', g2, d2, tk, os2⟩ L t m B g k
          obtain rfl : g2 = s.gens := m.gens
          obtain rfl : d2 = s.drawn := m.drawn
          obtain rfl : os2 = s.os := m.os
          refine wpAny_pure ?_
          show wpAny _ _ (ret Value.none) _ _ _
          exact wpAny_pure ⟨rfl, h', tk, L, t, rfl, B, isz ▸ g, k⟩
      · cases r₂ with
        | error e => exact hr₂
        | ok fl₂ =>
          cases fl₂ with
          | ret r =>
            obtain ⟨rfl, h', tk, L, t, rfl, B, g, k⟩ := hr₂
            repeat (any_goals (first | assumption | wp_step))
            exact q _ _ _ _ B g k
          | _ => exact hr₂.elim
    | _ => exact hr.elim
end
end K56
set_option Elab.async false
set_option linter.all false
set_option maxRecDepth 100000
set_option maxHeartbeats 4000000
namespace K56
open PySem PySem.Spec PyProof.Rows L2
open Sem (wp)
/-! ### sorted(..) of data -/
section
variable {P : Program} {w : World} {A : Around} {E : Value → Shared → Prop} {s : Shared}
theorem eachIs_refs : ∀ {out : List Value} {L : List (Addr × D)}, PySem.W.EachIs (fun v (p : Addr × D) => v = Value.ref p.1) out L → out = L.map fun p => Value.ref p.1
  | _, _, .nil => rfl
  | _, _, .cons h t => by rw [List.map_cons, h, eachIs_refs t]
theorem refs_each {R : Value → (Addr × D) → Prop} : ∀ (L : List (Addr × D)), (∀ p ∈ L, R (.ref p.1) p) → PySem.W.EachIs R (L.map fun p => Value.ref p.1) L
  | [], _ => .nil
  | p :: L, h => .cons (h p List.mem_cons_self) (refs_each L fun q hq => h q (List.mem_cons_of_mem _ hq))
theorem sorted_data_of {a : Addr} {L : List (Addr × D)} {Q : Value → Shared → Prop}
    (col : ∀ Q' : List Value → Shared → Prop, (∀ s1 vs, (∀ b o, s.heap.get? b = some o → s1.heap.get? b = some o) → s1.gens = s.gens → s1.os = s.os → vs.Perm (L.map fun p => Value.ref p.1) → Q' vs s1) → wpAny (model P w) A.in1 (collect (.ref a)) Q' E s)
    (al : ∀ p ∈ L, ∀ q ∈ L, PySem.W.alike p.2.py q.2.py = true) (ne : ∀ p ∈ L, ∃ x r, p.2 = .tup (x :: r)) (rd : ∀ p ∈ L, Reads s.heap (.ref p.1) p.2.py []) (few : L.length ≤ 1000) (hu : ∀ p ∈ L, A.units + 3 + p.2.py.depth < cLine)
    (q : ∀ (s1 s' : Shared) (p : Addr) (L' : List (Addr × D)) (c : Nat), (∀ b o, s.heap.get? b = some o → s1.heap.get? b = some o) → (∀ b o, s1.heap.get? b = some o → s'.heap.get? b = some o) → s1.gens = s.gens → s'.gens = s.gens → s1.os = s.os → s'.os = s.os → s1.heap.objs.size ≤ p → s'.heap.get? p = some (seqObj "list" (L'.map fun p => Value.ref p.1).toArray c) → L'.Perm L → Q (.ref p) s') :
    wpAny (model P w) A (call (.builtin "sorted") [.ref a]) Q E s := by
  refine Calls.call_function_entry kind_sorted plain_sorted entry_sorted (args_sorted1 _) ?_
  unfold Builtin.«sorted»
  refine wpAny_bind (m := checkCount "sorted" 1 1 _) (wpAny_pure (wpAny_bind (col _ fun s1 vs k1 g1 o1 pm => ?_)))
  obtain ⟨L1, p1, rfl⟩ := L2.perm_lift (fun p : Addr × D => Value.ref p.1) pm L rfl
  have l1 : L1.length = L.length := p1.length_eq
  have big : L1.length ≤ sizeLine := by rw [sizeLine_eq]; omega
  refine wpAny_bind (wpAny_newList ?_ (by rw [List.length_map]; exact big))
  have hoL : (s1.heap.push (seqObj "list" (L1.map fun p => Value.ref p.1).toArray 0)).get? s1.heap.objs.size = some (seqObj "list" (L1.map fun p => Value.ref p.1).toArray 0) := Heap.get?_push_size _ rfl
  have hin : ∀ p ∈ L1, p ∈ L := fun p hp => p1.mem_iff.mp hp
  refine wpAny_bind (wpAny_holding (PySem.W.list_sort_data (s := { s1 with heap := s1.heap.push (seqObj "list" (L1.map fun p => Value.ref p.1).toArray 0) }) (R := fun v p => v = Value.ref p.1) (enc := fun p : Addr × D => p.2.py) hoL (refs_each L1 fun _ _ => rfl)
    (refs_each L1 fun p hp => ⟨[], PyProof.Rows.Reads.keeps (fun b o e => Heap.get?_push_of_some _ (k1 b o e)) (rd p (hin p hp)), fun z => nomatch z⟩) ?_ (.inl ?_) big (fun p hp => ?_) fun out _ ho => ?_))
  · intro d hd d' hd'
    obtain ⟨p, hp, rfl⟩ := List.mem_map.mp hd
    obtain ⟨p', hp', rfl⟩ := List.mem_map.mp hd'
    exact al p (hin p hp) p' (hin p' hp')
  · intro d hd
    obtain ⟨p, hp, rfl⟩ := List.mem_map.mp hd
    obtain ⟨x, r, e⟩ := ne p (hin p hp)
    exact ⟨x.py, D.pys r, by rw [e]; rfl⟩
  · have := hu p (hin p hp)
    simp only [Around.in1_units]
    omega
  · have eo := eachIs_refs ho
    obtain ⟨c, hc⟩ := sortedHeap_at (vs := L1.map fun p => Value.ref p.1) (out := List.toArray out) hoL
    refine wpAny_pure ⟨_, rfl, q s1 _ s1.heap.objs.size (L1.mergeSort _) c k1 (fun b u e => ?_) g1 g1 o1 o1 (Nat.le_refl _) (by rw [← eo]; exact hc) ((List.mergeSort_perm _ _).trans p1)⟩
    have lt := Heap.lt_size e
    show (sortedHeap (s1.heap.push (seqObj "list" (L1.map fun p => Value.ref p.1).toArray 0)) s1.heap.objs.size (L1.map fun p => Value.ref p.1) (List.toArray out)).get? b = some u
    rw [sortedHeap_old (Nat.ne_of_lt lt) (by rw [size_push']; exact Nat.lt_succ_of_lt lt)]
    exact Heap.get?_push_of_some _ e
end
/-! ### the set at its address, the tuples themselves apart -/
def Bin0 (w : World) (h : Heap) (S : Addr) (L : List (Addr × D)) : Prop := ∃ t, (∃ o ep, h.get? S = some o ∧ o.ExactSet ∧ o.data = .set (binRows w L) ep t) ∧ TabOk t (L.map fun p => p.2.hs w) ∧ (L.map (·.2)).Nodup ∧ t.plain = true ∧
  (w.params.followText "set-order" = true ∨ t.led = true) ∧ L.length * 5 < t.mask * 3 ∧ L.length < 64
def SetO (w : World) (S : Addr) (L : List (Addr × D)) : HO := .ext fun h => Bin0 w h S L
theorem setO_ok {P : Program} {w : World} {H : Hp} {h : Heap} {S : Addr} {L : List (Addr × D)} (B : Bin0 w h S L) : ObjOk P w H h S (SetO w S L) := by
  have ⟨t, ⟨o, ep, ho, r⟩, z⟩ := B
  refine ⟨B, ⟨o, ho⟩, fun h1 h2 p k => ?_⟩
  have ⟨t', ⟨o', ep', ho', r'⟩, z'⟩ := (p : Bin0 w h1 S L)
  exact ⟨t', ⟨o', ep', k o' ho', r'⟩, z'⟩
section
variable {X : Cx} {pins : List (Addr × Obj)} {σ : L2.St} {H : Hp} {s : Shared}
theorem keyAt_of (I : Inv X pins σ H s) {a : Addr} {d : D} (r : Rp X.K H (.ref a) d) (h : d.nk.depth ≤ 8) : KeyAt s.heap d a := ⟨nested_of I _ _ _ r rfl, h⟩
theorem vals_refs : ∀ {L : List (Addr × D)} {us : List Value}, Vals (L.map fun p => V.ref p.1) us → us = L.map fun p => Value.ref p.1
  | [], _, .nil => rfl
  | p :: L, _, .cons r t => by
    obtain rfl : _ = Value.ref p.1 := r
    rw [List.map_cons, vals_refs t]
theorem refs_vals : ∀ (L : List (Addr × D)), Vals (L.map fun p => V.ref p.1) (L.map fun p => Value.ref p.1)
  | [] => .nil
  | _ :: L => .cons rfl (refs_vals L)
/-- tuples that stand, as addresses with their data -/
def Row (K : PySem.W.Frag) (H : Hp) (L : List (Addr × D)) : Prop := ∀ p ∈ L, Rp K H (.ref p.1) p.2
theorem row_of {K : PySem.W.Frag} {H : Hp} : ∀ {vs : List V} {ds : List D}, RpL K H vs ds → (∀ d ∈ ds, ∃ l, d = .tup l) → ∃ L : List (Addr × D), vs = L.map (fun p => V.ref p.1) ∧ ds = L.map (·.2) ∧ Row K H L
  | _, _, .nil, _ => ⟨[], rfl, rfl, fun _ h => nomatch h⟩
  | _, _, .cons (v := v) (d := d) h t, hd => by
    obtain ⟨L, e1, e2, hL⟩ := row_of t fun x hx => hd x (List.mem_cons_of_mem _ hx)
    obtain ⟨l, rfl⟩ := hd d List.mem_cons_self
    obtain ⟨a, ws, rfl, h1, h2⟩ := h.tup_inv
    refine ⟨(a, .tup l) :: L, by rw [List.map_cons, e1], by rw [List.map_cons, e2], fun p hp => ?_⟩
    rcases List.mem_cons.mp hp with rfl | hp
    · exact .tup h1 h2
    · exact hL p hp
theorem rpL_of {K : PySem.W.Frag} {H : Hp} : ∀ {L : List (Addr × D)}, Row K H L → RpL K H (L.map fun p => V.ref p.1) (L.map (·.2))
  | [], _ => .nil
  | p :: L, h => .cons (h p List.mem_cons_self) (rpL_of fun q hq => h q (List.mem_cons_of_mem _ hq))
/-- set(xs) -/
def rSetD (K : PySem.W.Frag) (w : World) : List V → Hp → VK → Prop := fun xs H Q => ∃ (l : Addr) (L : List (Addr × D)), xs = [.ref l] ∧ (SqL K H l (L.map fun p => V.ref p.1) ∨ SqT K H l (L.map fun p => V.ref p.1)) ∧ Row K H L ∧ (∀ p ∈ L, p.2.nk.depth ≤ 8) ∧ L.length < 64 ∧
  ∀ a M, H a = none → (∀ p ∈ M, p ∈ L) → (∀ d, d ∈ L.map (·.2) → d ∈ M.map (·.2)) → (M.map (·.2)).Nodup → Q (.ref a) (upd H a (SetO w a M))
theorem cr_setD (hc : X.calm = true) (hu : X.A.units + 64 < cLine) : CallR X (.type "set") (rSetD X.K X.w) := by
  intro pins s σ H xs us Q I r h
  obtain ⟨l, L, rfl, hl, hr, hdp, few, q⟩ := h
  rw [Vals.ref1 r]
  have hn : H s.heap.objs.size = none := I.hok.fresh (Nat.le_refl _)
  have hk : ∀ p ∈ L, KeyAt s.heap p.2 p.1 := fun p hp => keyAt_of I (hr p hp) (hdp p hp)
  have fin : ∀ (h' : Heap) (tk : Nat) (M : List (Addr × D)) (t : SetTable), Bin X.w h' s.heap.objs.size M t → Held L L.length M → (∀ b o, s.heap.get? b = some o → h'.get? b = some o) → EP X pins σ Q (.ref s.heap.objs.size) { s with heap := h', toks := tk } := by
    intro h' tk M t B g k
    refine ⟨.ref s.heap.objs.size, _, I.laid (t' := tk) k (Nat.le_refl _) (setO_ok ⟨t, B.obj, B.tab, B.nd, B.val, B.led, B.room, B.few⟩), rfl, q _ M hn (fun p hp => List.mem_of_mem_take (g.sub p hp)) (fun d hd => ?_) B.nd⟩
    obtain ⟨p, hp, rfl⟩ := List.mem_map.mp hd
    exact g.all p (by rw [List.take_length]; exact hp)
  rcases hl with hl | hl
  · obtain ⟨its, rv, pl, _⟩ := I.list hl
    exact call_setlist L (I.ok.hd hc) pl.isList (by simpa using vals_refs rv) hk few (by omega) fin
  · obtain ⟨its, rv, pl, _⟩ := I.tuple hl
    exact call_settuple L (I.ok.hd hc) (show s.heap.IsTuple l its.toArray from pl) (by simpa using vals_refs rv) hk few (by omega) fin
/-- what sorting asks of the rows -/
structure Sorts (L : List (Addr × D)) : Prop where
  al : ∀ p ∈ L, ∀ q ∈ L, PySem.W.alike p.2.py q.2.py = true
  ne : ∀ p ∈ L, ∃ x r, p.2 = .tup (x :: r)
  dp : ∀ p ∈ L, p.2.py.depth ≤ 60
  few : L.length ≤ 1000
def rSorted (K : PySem.W.Frag) (w : World) : List V → Hp → VK → Prop := fun xs H Q => ∃ (a : Addr) (L : List (Addr × D)), xs = [.ref a] ∧ (H a = some (SetO w a L) ∨ SqL K H a (L.map fun p => V.ref p.1) ∨ SqT K H a (L.map fun p => V.ref p.1)) ∧ Row K H L ∧ Sorts L ∧
  ∀ (p : Addr) (M : List (Addr × D)), H p = none → M.Perm L → Q (.ref p) (upd H p (.lst (M.map fun q => V.ref q.1)))
theorem cr_sortedD (hc : X.calm = true) (hu : X.A.units + 64 < cLine) : CallR X (.builtin "sorted") (rSorted X.K X.w) := by
  intro pins s σ H xs us Q I r h
  obtain ⟨a, L, rfl, ha, hr, so, q⟩ := h
  rw [Vals.ref1 r]
  have nk : ∀ p ∈ L, p.2.nk.depth ≤ p.2.nk.depth := fun _ _ => Nat.le_refl _
  refine sorted_data_of (L := L) ?_ so.al so.ne (fun p hp => reads_of I _ _ _ (hr p hp) rfl) so.few (fun p hp => by have := so.dp p hp; omega) fun s1 s' p M c k0 k g0 g o0 o hp hg pm => ?_
  · intro Q' q'
    rcases ha with ha | ha | ha
    · have B0 : Bin0 X.w s.heap a L := (I.hok a _ ha).1
      obtain ⟨t, ⟨o, ep, ho, hx, hd⟩, tb, nd, pl, ld, rm, fw⟩ := B0
      have fit : t.fits (binRows X.w L).size = true := fit_of tb (by rw [binRows_size, List.length_map]) (by rw [binRows_size]; omega)
      refine collect_set (A := X.A.in1) (I.ok.hd hc) ⟨o, ho, hx.1, hd⟩ fit (by unfold scanBound; rw [binRows_size]; omega) tb.ris ld fun s1 vs k1 hz g1 o1 pm => ?_
      refine q' s1 vs k1 g1 o1 ?_
      have e : (binRows X.w L).toList.map (·.2) = L.map fun p => Value.ref p.1 := by simp [binRows]
      rw [← e]; exact pm
    · obtain ⟨its, rv, ⟨o, n, ho, hcl, _, hd⟩, hz⟩ := I.list ha
      refine wpAny_collect_seq (A := X.A.in1) a (.inl rfl) ho hcl hd (fun h' k => q' _ _ k rfl rfl ?_) (by simpa [← rv.length] using hz)
      rw [vals_refs rv]
    · obtain ⟨its, rv, ⟨o, ho, hcl, n, hd⟩, hz⟩ := I.tuple ha
      refine wpAny_collect_seq (A := X.A.in1) a (.inr rfl) ho hcl hd (fun h' k => q' _ _ k rfl rfl ?_) (by simpa [← rv.length] using hz)
      rw [vals_refs rv]
  · have I1 : Inv X pins σ H s1 := I.call' (ch := []) o0 (Un.kept k0) (I.hok.kept k0) (by rw [g0]; exact I.bare) (fun _ z => nomatch z)
    have hn : H p = none := I1.hok.fresh hp
    have ml : (M.map fun q => V.ref q.1).length ≤ sizeLine := by
      rw [List.length_map, pm.length_eq, sizeLine_eq]
      have := so.few
      omega
    have J : Inv X pins σ (upd H p (.lst (M.map fun q => V.ref q.1))) s' := I1.call' (ch := []) (o.trans o0.symm) (Un.laid k hp hn) (I1.hok.laid k hp ⟨ml, _, c, refs_vals M, hg⟩) (by rw [g]; exact I.bare) (fun _ z => nomatch z)
    exact ⟨.ref p, _, J, rfl, q p M hn pm⟩
end
end K56
set_option Elab.async false
set_option linter.all false
set_option maxRecDepth 100000
set_option maxHeartbeats 4000000
namespace K56
open PySem PySem.Spec PyProof.Rows L2
open Sem (wp)
/-! ### == and < of data -/
mutual
theorem dp_of {K : PySem.W.Frag} {H : Hp} : ∀ {v : V} {d : D}, Rp K H v d → Dp K H v d.py
  | _, _, .int i => .int i
  | _, _, .tup h r => .tup h (dps_of r)
theorem dps_of {K : PySem.W.Frag} {H : Hp} : ∀ {vs : List V} {ds : List D}, RpL K H vs ds → DpAll K H vs (D.pys ds)
  | _, _, .nil => .nil
  | _, _, .cons h t => .cons (dp_of h) (dps_of t)
end
mutual
theorem eqv_py : ∀ d e : D, PyData.eqv d.py e.py = decide (d = e)
  | .int i, .int j => by
    simp only [D.py, PyData.eqv, D.int.injEq]
    rw [Bool.eq_iff_iff]; simp
  | .tup l, .tup m => by
    have := eqv_pys l m
    simp only [D.py, PyData.eqv, this, D.tup.injEq]
  | .int i, .tup m => by simp [D.py, PyData.eqv]
  | .tup l, .int j => by simp [D.py, PyData.eqv]
theorem eqv_pys : ∀ d e : List D, PyData.eqvAll (D.pys d) (D.pys e) = decide (d = e)
  | [], [] => by simp [D.pys, PyData.eqvAll]
  | [], _ :: _ => by simp [D.pys, PyData.eqvAll]
  | _ :: _, [] => by simp [D.pys, PyData.eqvAll]
  | x :: a, y :: b => by
    have h1 := eqv_py x y
    have h2 := eqv_pys a b
    simp only [D.pys, PyData.eqvAll, h1, h2, List.cons.injEq]
    by_cases e1 : x = y <;> by_cases e2 : a = b <;> simp [e1, e2]
end
mutual
theorem lay_py : ∀ d : D, d.py.canLay0 = true
  | .int _ => rfl
  | .tup l => by simp only [D.py, PyData.canLay0]; exact lay_pys l
theorem lay_pys : ∀ d : List D, PyData.canLayAll0 (D.pys d) = true
  | [] => rfl
  | x :: a => by simp only [D.pys, PyData.canLayAll0, lay_py x, lay_pys a, Bool.and_self]
end
theorem shaped_py {d : D} (h : d.py.depth ≤ 64) : SeqAt.shaped d.py = true := by
  unfold SeqAt.shaped
  rw [lay_py, decide_eq_true h]; rfl
theorem shaped_lst {l : List D} (h : PyData.depthAll (D.pys l) ≤ 63) : SeqAt.shaped (.list (D.pys l)) = true := by
  unfold SeqAt.shaped
  rw [show PyData.canLay0 (.list (D.pys l)) = true by simp only [PyData.canLay0]; exact lay_pys l, decide_eq_true (by simp only [PyData.depth]; omega)]; rfl
theorem eqv_lst (a b : List D) : PyData.eqv (.list (D.pys a)) (.list (D.pys b)) = decide (a = b) := by
  simp only [PyData.eqv, eqv_pys]
theorem dl_of {K : PySem.W.Frag} {H : Hp} {a : Addr} {vs : List V} {ds : List D} (h : SqL K H a vs) (r : RpL K H vs ds) : Dp K H (.ref a) (.list (D.pys ds)) := .lst h (dps_of r)
section
variable {X : Cx}
/-- == of data (tuples, numbers), of lists of data -/
def rEqQ (K : PySem.W.Frag) (neg : Bool) : R2 := fun x y H Q => (∃ d e, Rp K H x d ∧ Rp K H y e ∧ d.py.depth ≤ 64 ∧ e.py.depth ≤ 64 ∧ Q (.bl (neg ^^ decide (d = e))) H) ∨
  ∃ a b xs ys d e, x = .ref a ∧ y = .ref b ∧ SqL K H a xs ∧ SqL K H b ys ∧ RpL K H xs d ∧ RpL K H ys e ∧ PyData.depthAll (D.pys d) ≤ 63 ∧ PyData.depthAll (D.pys e) ≤ 63 ∧ Q (.bl (neg ^^ decide (d = e))) H
theorem op_eqQ (hu : X.A.units + 64 < cLine) : OpR X (compareOp .Eq) (rEqQ X.K false) := by
  intro pins s σ H x y v u Q I rx ry h
  refine op_eqD hu pins s σ H x y v u Q I rx ry ?_
  rcases h with ⟨d, e, r1, r2, d1, d2, q⟩ | ⟨a, b, xs, ys, d, e, rfl, rfl, h1, h2, r1, r2, d1, d2, q⟩
  · exact ⟨_, _, dp_of r1, dp_of r2, shaped_py d1, shaped_py d2, by rw [eqv_py]; simpa using q⟩
  · exact ⟨_, _, dl_of h1 r1, dl_of h2 r2, shaped_lst d1, shaped_lst d2, by rw [eqv_lst]; simpa using q⟩
theorem op_neQ (hu : X.A.units + 64 < cLine) : OpR X (compareOp .NotEq) (rEqQ X.K true) := by
  intro pins s σ H x y v u Q I rx ry h
  refine op_neD hu pins s σ H x y v u Q I rx ry ?_
  rcases h with ⟨d, e, r1, r2, d1, d2, q⟩ | ⟨a, b, xs, ys, d, e, rfl, rfl, h1, h2, r1, r2, d1, d2, q⟩
  · exact ⟨_, _, dp_of r1, dp_of r2, shaped_py d1, shaped_py d2, by rw [eqv_py]; simpa using q⟩
  · exact ⟨_, _, dl_of h1 r1, dl_of h2 r2, shaped_lst d1, shaped_lst d2, by rw [eqv_lst]; simpa using q⟩
def dLt (d e : D) : Bool := PySem.W.dataLt d.py e.py
def rLtD (K : PySem.W.Frag) : R2 := fun x y H Q => ∃ d e, Rp K H x d ∧ Rp K H y e ∧ PySem.W.alike d.py e.py = true ∧ d.py.depth ≤ 60 ∧ Q (.bl (dLt d e)) H
theorem op_ltD (hu : X.A.units + 64 < cLine) : OpR X (compareOp .Lt) (rLtD X.K) := by
  intro pins s σ H x y v u Q I rx ry h
  obtain ⟨d, e, r1, r2, al, dp, q⟩ := h
  have m : min d.py.depth e.py.depth ≤ d.py.depth := Nat.min_le_left _ _
  exact PySem.W.lt_data (reads_of I _ _ _ r1 rx) (reads_of I _ _ _ r2 ry) al (by cases d <;> simp [D.py]) (by omega) ⟨.bl _, H, I, rfl, q⟩
end
/-! ### sum(t), t a tuple of ints -/
section
variable {X : Cx}
theorem sum_tup {prog : Program} {w : World} {A : Around} {E : Value → Shared → Prop} {s : Shared} {l : Addr} {its : List Value} {ns : List Int} {Q : Value → Shared → Prop} (hh : A.handled = none) (hl : s.heap.IsTuple l its.toArray) (hi : IntsAre its ns)
    (h : ∀ h' tk t', (∀ b o, s.heap.get? b = some o → h'.get? b = some o) → Q (.int ns.sum t') { s with heap := h', toks := tk }) : wpAny (model prog w) A (call (.builtin "sum") [.ref l]) Q E s := by
  have lS : l < s.heap.objs.size := by obtain ⟨o, e, _⟩ := hl; exact Heap.lt_size e
  have el := hi.length
  have pre : ∀ n, n ≤ ns.length → preSum (fun i => ns.getD i 0) n = (ns.take n).sum := by
    intro n
    induction n with
    | zero => intro _; simp [preSum]
    | succ n ih =>
      intro hn
      have e : ns[n]? = some ns[n] := List.getElem?_eq_getElem hn
      rw [take_snoc e, List.sum_append, ← ih (by omega)]
      simp [preSum, List.getD_eq_getElem?_getD, e]
  refine call_sum_walkAnyS (wpAny_pyIter_tuple hl ⟨s.heap.objs.size, [s.heap.objs.size, l], [s.heap.objs.size], _, its.toArray.size, _, _, fun i => ns.getD i 0, rfl,
    (Walks.tuple (A := A.in1) (by simpa using hh) s.heap.objs.size l (Nat.ne_of_lt lS) its.toArray).toS, ⟨⟨_, Heap.get?_push_size _ rfl, rfl, rfl⟩, hl.push _⟩, ?_, ?_, ?_⟩)
  · intro b hb
    rw [Heap.size_push]
    rcases List.mem_cons.mp hb with rfl | hb
    · exact Nat.lt_succ_self _
    · rw [List.mem_singleton.mp hb]; exact Nat.lt_succ_of_lt lS
  · intro i v e
    have e' : its[i]? = some v := by simpa using e
    have il : i < ns.length := by rw [← el]; exact (List.getElem?_eq_some_iff.mp e').1
    have en : ns[i]? = some ns[i] := List.getElem?_eq_getElem il
    obtain ⟨t, h1⟩ := hi.get i _ en
    rw [h1] at e'
    exact ⟨t, by rw [← Option.some.inj e']; simp [List.getD_eq_getElem?_getD, en]⟩
  · intro s' t' m
    have e0 : preSum (fun i => ns.getD i 0) its.toArray.size = ns.sum := by
      rw [List.size_toArray, el, pre _ (Nat.le_refl _), List.take_length]
    rw [e0]
    obtain ⟨h', g', d', tk', os'⟩ := s'
    obtain rfl : g' = s.gens := m.gens
    obtain rfl : d' = s.drawn := m.drawn
    obtain rfl : os' = s.os := m.os
    refine h h' tk' t' fun b o e => m.heap b o ?_ (Heap.get?_push_of_some _ e)
    rw [List.mem_singleton]
    exact Nat.ne_of_lt (Heap.lt_size e)
def rSumT (K : PySem.W.Frag) : List V → Hp → VK → Prop := fun vs H Q => ∃ (a : Addr) (ns : List Int), vs = [V.ref a] ∧ SqT K H a (ns.map V.int) ∧ Q (.int ns.sum) H
theorem cr_sumT (hc : X.calm = true) : CallR X (.builtin "sum") (rSumT X.K) := by
  intro pins s σ H vs us Q I r h
  obtain ⟨a, ns, rfl, hs, q⟩ := h
  obtain ⟨its, rv, hl, _⟩ := I.tuple hs
  rw [Vals.ref1 r]
  exact sum_tup (I.ok.hd hc) (show s.heap.IsTuple a its.toArray from hl) rv.ints fun h' tk t' hk => ⟨.int _, H, I.kept hk, ⟨_, rfl⟩, q⟩
end
/-! ### t.index(x), t a tuple of ints that is known to have no dict -/
section
variable {X : Cx} {pos apos : Pos} {o e : Expr} {to : TE} {t : TA}
/-- a tuple told whole -/
def Ft (H : Hp) (a : Addr) (vs : List V) : Prop := ∃ ob : Obj, H a = some (.frz ob (.tup vs)) ∧ ob.dict = none
theorem Ft.sq {K : PySem.W.Frag} {H : Hp} {a : Addr} {vs : List V} (f : Ft H a vs) : SqT K H a vs := by
  obtain ⟨ob, h, _⟩ := f
  exact .inl (.inr ⟨ob, h⟩)
theorem Ft.same {H H' : Hp} {a : Addr} {vs : List V} (f : Ft H a vs) (s : Same H H') : Ft H' a vs := by
  obtain ⟨ob, h, d⟩ := f
  exact ⟨ob, s _ _ h, d⟩
def tTix (to : TE) (t : TA) : TE := fun σ H Q => to σ H fun x H1 => ∃ (a : Addr) (ns : List Int), x = .ref a ∧ Ft H1 a (ns.map V.int) ∧ t σ H1 fun vs H2 => ∃ k : Int, vs = [.int k] ∧ Ft H2 a (ns.map V.int) ∧ k ∈ ns ∧ Q (.int (ns.idxOf k : Nat)) H2
theorem pe_tix (ho : PE X o to) (ha : PA X [e] t)
    (hbase : attributeBase o "index" X.env (eval o X.env) = eval o X.env := by rfl)
    (hfew : ((backTo pos (starEach [e] X.env)).all (fun x => !x.1) && (backToKw pos (keywordEach [] X.env)).all (fun x => x.1.isSome)
      && decide ([e].length + ([] : List Keyword).length + (if ([] : List Keyword).isEmpty then 0 else 1) < 30)) = true := by rfl)
    (hline : (apos.endLine == pos.line) = true := by rfl) (hs : starEach [e] X.env = [(false, eval e X.env)] := by rfl) :
    PE X (.Call (.Attribute o "index" apos) [e] [] pos) (tTix to t) := by
  refine ⟨fun pins s σ H Q I h => ?_⟩
  refine wpAny_Call_method_late hbase hfew hline rfl (thn (ho.run pins s σ H _ I h) fun v s1 ⟨x, H1, I1, r1, a, ns, ex, f1, q1⟩ => ?_)
  subst ex
  obtain rfl : v = Value.ref a := r1
  have ty : s1.TypeIs (.ref a) "tuple" ∧ ∀ b, Value.ref a = .ref b → ∃ ob, s1.heap.get? b = some ob ∧ ob.dict = none := by
    obtain ⟨ob, ha, hd⟩ := f1
    obtain ⟨h0, _, its, _, ⟨o2, ho2, hc2, _⟩⟩ := I1.hok a _ ha
    rw [h0] at ho2; cases ho2
    exact ⟨⟨_, h0, hc2⟩, fun b eb => by cases eb; exact ⟨_, h0, hd⟩⟩
  refine ⟨"tuple", "tuple.index", PySem.F.plainAttrs_tuple, PySem.F.slot_tuple_index, PySem.F.type_tuple_index, ty.1, ty.2, ?_⟩
  have hA := ha.run pos pins s1 σ H1 _ I1 q1
  rw [hs] at hA ⊢
  refine Calls.callWith_builtin (by rfl) (Calls.evalArgs_plain ?_)
  refine thn hA fun us s2 ⟨vs, H2, I2, r2, k, ev, f2, hk, q⟩ => ?_
  subst ev
  obtain ⟨u, rfl, t, rfl⟩ := vals1 r2
  obtain ⟨its, rv, hl, _⟩ := I2.tuple f2.sq
  exact PySem.SeqAt.tuple_index_ints (show s2.heap.IsTuple a its.toArray from hl) rv.ints hk ⟨.int _, H2, I2.tok _, ⟨_, rfl⟩, q⟩
end
end K56
set_option Elab.async false
set_option linter.all false
set_option maxRecDepth 100000
set_option maxHeartbeats 4000000
namespace K56
open PySem PySem.Spec PyProof.Rows L2
open Sem (wp)
section
variable {X : Cx}
/-! ### tuple(list), tuple(range(..)), the tuple told whole -/
theorem frz_ok {P : Program} {w : World} {H : Hp} {h : Heap} {a : Addr} {ob : Obj} {vs : List V} {its : Array Value} (ha : h.get? a = some ob) (hc : ob.cls = .type "tuple") (hd : ob.data = .seq its 0) (hl : vs.length ≤ sizeLine) (r : Vals vs its.toList) : ObjOk P w H h a (.frz ob (.tup vs)) :=
  ⟨ha, hl, its.toList, r, by rw [Array.toArray_toList]; exact ⟨ob, ha, hc, 0, hd⟩⟩
theorem cr_tupF : CallR X (.type "tuple") (fun xs H Q => ∃ (l : Addr) (ys : List V), xs = [.ref l] ∧ SqL X.K H l ys ∧ ∀ (p : Addr) (ob : Obj), H p = none → ob.dict = none → Q (.ref p) (upd H p (.frz ob (.tup ys)))) := by
  intro pins s σ H xs us Q I r h
  obtain ⟨l, ys, rfl, hq, q⟩ := h
  rw [Vals.ref1 r]
  obtain ⟨its, r', pl, hz⟩ := I.list hq
  have hlen := r'.length
  refine call_tuple_list pl.isList (fun h' kp => ?_) (by simp only [List.size_toArray] <;> omega)
  have I1 : Inv X pins σ H { s with heap := h' } := I.kept (t' := s.toks) kp
  exact ⟨.ref h'.objs.size, _, I1.laid (t' := s.toks) (fun b o e => Heap.get?_push_of_some _ e) (Nat.le_refl _) (frz_ok (Heap.get?_push_size _ rfl) rfl rfl hz (by simpa using r')), rfl, q _ _ (I1.hok.fresh (Nat.le_refl _)) rfl⟩
def tTupRgF (te : L2.St → Hp → (Int → Int → Hp → Prop) → Prop) : TE := fun σ H Q => te σ H fun a b H1 => -(2 ^ 62) ≤ a ∧ a < 2 ^ 62 ∧ -(2 ^ 62) ≤ b ∧ b < 2 ^ 62 ∧ (b - a).toNat ≤ 1000 ∧ ∀ (p : Addr) (ob : Obj), H1 p = none → ob.dict = none → Q (.ref p) (upd H1 p (.frz ob (.tup (rgV a b))))
theorem pe_tupRgF {e : Expr} {te : L2.St → Hp → (Int → Int → Hp → Prop) → Prop} {p pos : Pos} (hc : X.calm = true) (hg : Gl X "tuple") (hm : X.mg "tuple" = none) (he : PRg X e te) (na : starEach [e] X.env = (false, eval e X.env) :: starEach [] X.env := by rfl) : PE X (.Call (.Name "tuple" p) [e] [] pos) (tTupRgF te) := by
  refine ⟨fun pins s σ H Q I h => ?_⟩
  refine Call_ (ld_blt I hg hm boot_tuple (PyProof.Rows.callWith_type1 (args_cons (thn (he pins s σ H _ I h) fun x s1 ⟨r, a, b, t, u, v, H1, ex, hr, I1, b1, b2, b3, b4, b5, q⟩ => args_nil ?_) na) na))
  subst ex
  refine call_tuple_range (n := (b - a).toNat) (I1.ok.hd hc) hr (small_one b1 b2 b3 b4) (rangeSize_nat a b) (by omega) fun h' tk acc hk hi => ?_
  have I2 : Inv X pins σ H1 { s1 with heap := h', toks := tk } := I1.kept hk
  exact ⟨.ref h'.objs.size, _, I2.laid (t' := tk) (fun c o e => Heap.get?_push_of_some _ e) (Nat.le_refl _) (frz_ok (Heap.get?_push_size _ rfl) rfl rfl (by rw [rgV_length, sizeLine_eq]; omega) (vals_rg hi)), rfl, q _ _ (I2.hok.fresh (Nat.le_refl _)) rfl⟩
/-! ### (x, y)[::-1] -/
theorem rev_two {prog : Program} {w : World} {A : Around} {E : Value → Shared → Prop} {s : Shared} {t sl : Addr} {a b : Value} {u : Tok} {Q : Value → Shared → Prop} (ht : IsTup s.heap t #[a, b]) (hs : s.heap.IsSliceOf sl .none .none (.int (-1) u))
    (h : Q (.ref s.heap.objs.size) { s with heap := s.heap.push { cls := .type "tuple", data := .seq #[b, a] } }) : wpAny (model prog w) A (getItem (.ref t) (.ref sl)) Q E s := by
  obtain ⟨os, hos, hcs, hds⟩ := id hs
  have hTs : s.TypeIs (.ref sl) "slice" := ⟨os, hos, hcs⟩
  unfold getItem
  try with_reducible refine wpAny_holding ?_
  first | refine wpAny_bind (wpAny_pure ?_) | skip
  refine wpAny_bind (wpAny_sequenceKey ht.typeIs (by decide) ?_)
  refine wpAny_bind ((wpAny_callSpecial?_slot (name := Str.ofString "__getitem__") ht.typeIs PyProof.Rows.slot_tuple_getitem (wpAny_call_entry PyProof.Rows.slot_tuple_getitem ht.typeIs entry_tuple_getitem ?_ (args_tuple_getitem _ _))))
  show wpAny _ _ (Builtin.Tuple.tupleItemsOf (.ref t) >>= _) _ _ s
  refine wpAny_bind (tupleItemsOf_ ht (wpAny_bind (wpAny_typeOf hTs ?_)))
  rw [if_pos (by decide)]
  refine wpAny_bind ?_
  show wpAny _ _ (Builtin.Slice.sliceApplied (.ref sl) (pure (2 : Int))) _ _ s
  unfold Builtin.Slice.sliceApplied Builtin.Slice.sliceFields
  refine wpAny_bind (wpAny_bind (wpAny_field hos hds (x := .none) rfl (wpAny_bind (wpAny_field hos hds (x := .none) rfl (wpAny_bind (wpAny_field hos hds (x := .int (-1) u) rfl (wpAny_pure ?_)))))))
  refine wpAny_bind (slicePart_int ?_)
  refine wp_if_neg (by decide) (wpAny_bind (slicePart_none (wpAny_bind (slicePart_none (wpAny_bind (wpAny_pure (wpAny_pure ?_)))))))
  refine wp_if_neg (show ¬ ((false : Bool) = true) from Bool.false_ne_true) ?_
  show wpAny _ _ (Builtin.Tuple.tupleExact #[b, a] >>= fun v => ret v) _ _ s
  first
    | exact wpAny_bind (m := Builtin.Tuple.tupleExact _) (wpAny_newObj_type (wpAny_pure ⟨_, rfl, wpAny_pure h⟩) (show 2 ≤ sizeLine by decide))
    | exact wpAny_bind (m := Builtin.Tuple.tupleExact _) (wpAny_newObj_type (wpAny_bind (wpAny_pure (wpAny_pure ⟨_, rfl, wpAny_pure h⟩))) (show 2 ≤ sizeLine by decide))
def tRev2 (K : PySem.W.Frag) (te : TE) : TE := fun σ H Q => te σ H fun x H1 => ∃ (a : Addr) (u v : V), x = .ref a ∧ SqT K H1 a [u, v] ∧ ∀ p, H1 p = none → Q (.ref p) (upd H1 p (.tup [v, u]))
theorem pe_rev2 {e : Expr} {te : TE} {k : Nat} {p1 p2 p3 pos : Pos} (he : PE X e te) : PE X (.Subscript e (.Slice none none (some (.UnaryOp .USub (.Constant (.int 1) k p1) p2)) p3) pos) (tRev2 X.K te) := by
  refine ⟨fun pins s σ H Q I h => ?_⟩
  refine Subscript_ (thn (he.run pins s σ H _ I h) fun v s1 ⟨x, H1, I1, r1, a, x1, x2, ex, hx, q⟩ => ?_)
  subst ex
  obtain rfl : v = Value.ref a := r1
  have hst : PO X (some (.UnaryOp .USub (.Constant (.int 1) k p1) p2)) (tPart (tUn (rU fun i => .int (-i)) (tC (.int 1)))) := po_some (pe_un un_neg pe_int)
  refine wpAny_Slice (thn (po_none.run pins s1 σ H1 (fun o H2 => o = none ∧ H2 = H1) I1 ⟨rfl, rfl⟩) fun vl s2 ⟨l, H2, I2, pl, el, e2⟩ => ?_)
  subst el e2
  refine thn (po_none.run pins s2 σ H2 (fun o H3 => o = none ∧ H3 = H2) I2 ⟨rfl, rfl⟩) fun vu s3 ⟨u, H3, I3, pu, eu, e3⟩ => ?_
  subst eu e3
  refine thn (hst.run pins s3 σ H3 (fun o H4 => o = some (-1) ∧ H4 = H3) I3 ⟨1, rfl, -1, rfl, rfl, rfl⟩) fun vs s4 ⟨o, H4, I4, ps, eo, e4⟩ => ?_
  subst eo e4
  have I5 : Inv X pins σ H4 { s4 with heap := s4.heap.push { cls := .type "slice", data := .fields #[vl, vu, vs] } } := I4.kept (t' := s4.toks) fun b ob q => Heap.get?_push_of_some _ q
  obtain ⟨its, r, ht, hz⟩ := I5.tuple hx
  show wpAny (model X.prog X.w) X.A (subscriptTail e (.Slice none none (some (.UnaryOp .USub (.Constant (.int 1) k p1) p2)) p3) (.ref a) (.ref s4.heap.objs.size)) (EP X pins σ Q) X.xe { s4 with heap := s4.heap.push { cls := .type "slice", data := .fields #[vl, vu, vs] } }
  refine tail_any (ops := [.ref a, .ref s4.heap.objs.size]) ht.typeIs (PyProof.Rows.slot_tuple_getitem.lookup) ?_ (by with_unfolding_all rfl)
  cases r with
  | cons ra rr => cases rr with
    | cons rb rn => cases rn with
      | nil =>
        cases pl
        cases pu
        cases ps with
        | int i tt =>
          refine rev_two ht (Heap.IsSliceOf.new _ _ _ _) ?_
          exact ⟨.ref _, _, I5.laid (t' := s4.toks) (o := .tup [x2, x1]) (fun b ob q => Heap.get?_push_of_some _ q) (Nat.le_refl _) ⟨(by show 2 ≤ sizeLine; decide), _, .cons rb (.cons ra .nil), IsTup.new _ _⟩, rfl, q _ (I5.hok.fresh (Nat.le_refl _))⟩
/-! ### (x,) * k, k nought or one -/
theorem tup_rep {l : Addr} {v : Value} {n : Nat} {dd : Option Addr} {sl : Array (Option Value)} {k : Int} {u : Tok} (hk : k = 0 ∨ k = 1) :
    Meets (Builtin.«tuple.__mul__» ⟨[.ref l, .int k u], []⟩) (fun _ R s => s.heap.get? l = some { cls := .type "tuple", dict := dd, data := .seq #[v] n, slots := sl } ∧
      (k = 1 → R (.ok (.ret (.ref l))) s) ∧ (k = 0 → R (.ok (.ret (Value.ref s.heap.objs.size))) { s with heap := s.heap.push { cls := Value.type "tuple", data := Data.seq #[] }, toks := s.toks })) :=
  .of_wp fun prog w A R s h => by
    obtain ⟨hp, g, d, tk, os⟩ := s
    obtain ⟨hl, h1, h0⟩ := h
    have f1 := AutoSeq1.idx_int
    rcases hk with rfl | rfl
    · wp_walk using wpAny_loadPart' hl
      exact ⟨_, rfl, h0 rfl⟩
    · wp_walk using wpAny_loadPart' hl
      exact ⟨_, rfl, h1 rfl⟩
def rRep1 (K : PySem.W.Frag) : R2 := fun x y H Q => ∃ (l : Addr) (v : V) (k : Int), x = .ref l ∧ y = .int k ∧ SqT K H l [v] ∧ ((k = 1 ∧ Q (.ref l) H) ∨ (k = 0 ∧ ∀ p, H p = none → Q (.ref p) (upd H p (.tup []))))
theorem op_rep1 : OpR X (binaryOp .Mult) (rRep1 X.K) := by
  intro pins s σ H x y v u Q I rx ry h
  obtain ⟨l, z, k, rfl, rfl, hT, q⟩ := h
  obtain rfl : v = Value.ref l := rx
  obtain ⟨t, rfl⟩ := ry
  obtain ⟨its, r, ⟨⟨cls, dd, data, sl⟩, ho, hc, n, hd⟩, hs⟩ := I.tuple hT
  simp only at hc hd
  subst hc hd
  cases r with
  | cons r1 rn =>
    cases rn with
    | nil =>
      have hk : k = 0 ∨ k = 1 := by rcases q with ⟨e, _⟩ | ⟨e, _⟩ <;> simp [e]
      refine wpAny_binaryOp_repeat_ref (T := "tuple") (U := "int") (by decide) ⟨_, ho, rfl⟩ (fun s' => typeIs_int s' k t) noFill_tuple_mul PySem.F.fills_int_mul PySem.F.slot_int_rmul repeat_tuple PySem.F.slot_int_index.lookup
        (call_meets PySem.F.slot_int_rmul (typeIs_int s k t) PySem.F.entry_int_rmul (PySem.F.args_int_rmul_2 _ _) (int_rmul_tuple k t l _ n dd sl)
          ⟨ho, rfl, ⟨_, ho, rfl⟩, call_meets PySem.F.slot_tuple_mul ⟨_, ho, rfl⟩ PySem.F.entry_tuple_mul (PySem.F.args_tuple_mul_2 _ _) (tup_rep hk) ⟨ho, fun e => ?_, fun e => ?_⟩⟩)
      · rcases q with ⟨_, q⟩ | ⟨e', _⟩
        · exact ⟨.ref l, H, I, rfl, q⟩
        · omega
      · rcases q with ⟨e', _⟩ | ⟨_, q⟩
        · omega
        · exact ⟨.ref _, _, I.laid (t' := s.toks) (o := .tup []) (fun b ob q => Heap.get?_push_of_some _ q) (Nat.le_refl _) ⟨Nat.zero_le _, [], .nil, IsTup.new _ _⟩, rfl, q _ (I.hok.fresh (Nat.le_refl _))⟩
end
end K56
set_option Elab.async false
set_option linter.all false
set_option maxRecDepth 100000
set_option maxHeartbeats 4000000
namespace K56
open PySem PySem.Spec PyProof.Rows L2
open Sem (wp)
/-! ### dicts whose keys are data and whose values are objects -/
abbrev Nd : Type := List (D × Addr × Addr)
noncomputable def ndAt (xs : Nd) (k : D) : Option (Addr × Addr) := (xs.find? fun x => decide (x.1 = k)).map (·.2)
noncomputable def ndPut (xs : Nd) (k : D) (q v : Addr) : Nd := if (ndAt xs k).isSome then xs.map fun x => if x.1 = k then (x.1, x.2.1, v) else x else xs ++ [(k, q, v)]
noncomputable def ndDrop (xs : Nd) (k : D) : Nd := xs.filter fun x => decide (¬ x.1 = k)
/-- as the library tells such a dict -/
def ndC (xs : Nd) : List (NestedKey × Addr × Value) := xs.map fun x => (x.1.nk, x.2.1, Value.ref x.2.2)
theorem nk_dec (a b : D) : (decide (a.nk = b.nk)) = decide (a = b) := by
  by_cases e : a = b
  · rw [decide_eq_true e, decide_eq_true (congrArg D.nk e)]
  · rw [decide_eq_false e, decide_eq_false (fun z => e (D.nk_inj _ _ z))]
theorem ndC_at (xs : Nd) (k : D) : atKey (ndC xs) k.nk = (ndAt xs k).map fun p => (p.1, Value.ref p.2) := by
  induction xs with
  | nil => rfl
  | cons x xs ih =>
    unfold atKey ndC ndAt at ih ⊢
    rw [List.map_cons, List.find?_cons, List.find?_cons, nk_dec]
    cases decide (x.1 = k) with
    | true => rfl
    | false => exact ih
theorem ndC_put (xs : Nd) (k : D) (q v : Addr) : storedH (ndC xs) k.nk q (.ref v) = ndC (ndPut xs k q v) := by
  unfold storedH ndPut
  rw [ndC_at, Option.isSome_map]
  split
  · unfold ndC
    rw [List.map_map, List.map_map]
    refine List.map_congr_left fun x _ => ?_
    simp only [Function.comp_apply, putAt]
    by_cases e : x.1 = k
    · rw [if_pos (congrArg D.nk e), if_pos e]
    · rw [if_neg (fun z => e (D.nk_inj _ _ z)), if_neg e]
  · simp [ndC]
theorem ndC_drop (xs : Nd) (k : D) : withoutH (ndC xs) k.nk = ndC (ndDrop xs k) := by
  unfold withoutH ndC ndDrop
  rw [List.filter_map]
  congr 1
  refine List.filter_congr fun x _ => ?_
  simp only [Function.comp_apply]
  by_cases e : x.1 = k
  · simp [e]
  · have : ¬ x.1.nk = k.nk := fun z => e (D.nk_inj _ _ z)
    simp [e, this]
theorem ndC_keys (xs : Nd) : (ndC xs).map (·.1) = (xs.map (·.1)).map D.nk := by simp [ndC]
theorem ndC_nd {xs : Nd} : ((ndC xs).map (·.1)).Nodup ↔ (xs.map (·.1)).Nodup := by
  rw [ndC_keys]
  exact ⟨fun h => List.Pairwise.of_map D.nk (fun _ _ h e => h (congrArg D.nk e)) h, fun h => List.pairwise_map.mpr (h.imp fun hn e => hn (D.nk_inj _ _ e))⟩
theorem ndAt_mem {xs : Nd} {k : D} {p : Addr × Addr} (h : ndAt xs k = some p) : (k, p) ∈ xs := by
  unfold ndAt at h
  obtain ⟨x, e1, e2⟩ := Option.map_eq_some_iff.mp h
  have m := List.mem_of_find?_eq_some e1
  have e : x.1 = k := by simpa using List.find?_some e1
  rw [← e, ← e2]; exact m
theorem ndAt_none {xs : Nd} {k : D} : ndAt xs k = none ↔ k ∉ xs.map (·.1) := by
  unfold ndAt
  rw [Option.map_eq_none_iff, List.find?_eq_none]
  constructor
  · intro h m
    obtain ⟨x, hx, e⟩ := List.mem_map.mp m
    exact h x hx (by simpa using e)
  · intro h x hx e
    exact h (List.mem_map.mpr ⟨x, hx, by simpa using e⟩)
theorem ndAt_some {xs : Nd} {k : D} (h : k ∈ xs.map (·.1)) : ∃ p, ndAt xs k = some p := by
  cases e : ndAt xs k with
  | none => exact absurd h (ndAt_none.mp e)
  | some p => exact ⟨p, rfl⟩
/-- what stands in it behind a store -/
theorem mem_put {xs : Nd} {k : D} {q v : Addr} {x : D × Addr × Addr} (h : x ∈ ndPut xs k q v) : (x ∈ xs ∧ x.1 ≠ k) ∨ (x.1 = k ∧ x.2.2 = v ∧ (x.2.1 = q ∨ ∃ y ∈ xs, y.1 = k ∧ y.2.1 = x.2.1)) := by
  unfold ndPut at h
  split at h
  · obtain ⟨y, hy, e⟩ := List.mem_map.mp h
    by_cases c : y.1 = k
    · rw [if_pos c] at e
      rw [← e]
      exact .inr ⟨c, rfl, .inr ⟨y, hy, c, rfl⟩⟩
    · rw [if_neg c] at e
      rw [← e]
      exact .inl ⟨hy, c⟩
  · rename_i hn
    rcases List.mem_append.mp h with h | h
    · refine .inl ⟨h, fun c => hn ?_⟩
      obtain ⟨p, hp⟩ := ndAt_some (List.mem_map.mpr ⟨x, h, c⟩)
      rw [hp]; rfl
    · rw [List.mem_singleton.mp h]
      exact .inr ⟨rfl, rfl, .inl rfl⟩
theorem keys_put (xs : Nd) (k : D) (q v : Addr) (d : D) : d ∈ (ndPut xs k q v).map (·.1) ↔ d ∈ xs.map (·.1) ∨ d = k := by
  unfold ndPut
  split
  · rename_i h
    have hk : k ∈ xs.map (·.1) := by
      cases e : ndAt xs k with
      | none => rw [e] at h; cases h
      | some p => exact List.mem_map.mpr ⟨_, ndAt_mem e, rfl⟩
    have e : (xs.map fun x => if x.1 = k then (x.1, x.2.1, v) else x).map (·.1) = xs.map (·.1) := by
      rw [List.map_map]
      refine List.map_congr_left fun x _ => ?_
      simp only [Function.comp_apply]
      split <;> rfl
    rw [e]
    exact ⟨.inl, fun z => z.elim id (fun z => z ▸ hk)⟩
  · simp
theorem len_put (xs : Nd) (k : D) (q v : Addr) : (ndPut xs k q v).length ≤ xs.length + 1 := by
  unfold ndPut
  split <;> simp
theorem len_put_new {xs : Nd} {k : D} (h : k ∉ xs.map (·.1)) (q v : Addr) : ndPut xs k q v = xs ++ [(k, q, v)] := by
  unfold ndPut
  rw [ndAt_none.mpr h]; rfl
theorem keys_drop (xs : Nd) (k d : D) : d ∈ (ndDrop xs k).map (·.1) ↔ d ∈ xs.map (·.1) ∧ d ≠ k := by
  unfold ndDrop
  simp only [List.mem_map, List.mem_filter, decide_eq_true_eq]
  constructor
  · rintro ⟨x, ⟨h1, h2⟩, rfl⟩; exact ⟨⟨x, h1, rfl⟩, h2⟩
  · rintro ⟨⟨x, h1, rfl⟩, h2⟩; exact ⟨x, ⟨h1, h2⟩, rfl⟩
theorem mem_drop {xs : Nd} {k : D} {x : D × Addr × Addr} (h : x ∈ ndDrop xs k) : x ∈ xs ∧ x.1 ≠ k := by
  unfold ndDrop at h
  simpa using h
theorem len_drop (xs : Nd) (k : D) : (ndDrop xs k).length ≤ xs.length := List.length_filter_le _ _
/-! ### at its address, the keys' tuples apart -/
def ndEs (P : Program) (w : World) (xs : Nd) : Array DictEntry := ((ndC xs).map (entryOfKey (nestedKind P w))).toArray
def Nd0 (P : Program) (w : World) (h : Heap) (d : Addr) (xs : Nd) (ep : Nat) : Prop := (d == sysModules) = false ∧ xs.length ≤ 100000 ∧ (xs.map (·.1)).Nodup ∧ ∃ o, h.get? d = some o ∧ o.ExactDict ∧ o.data = .dict (ndEs P w xs) ep
def NdO (P : Program) (w : World) (d : Addr) (xs : Nd) (ep : Nat) : HO := .ext fun h => Nd0 P w h d xs ep
theorem ndO_ok {P : Program} {w : World} {H : Hp} {h : Heap} {d : Addr} {xs : Nd} {ep : Nat} (B : Nd0 P w h d xs ep) : ObjOk P w H h d (NdO P w d xs ep) := by
  have ⟨e1, e2, e3, o, ho, r⟩ := B
  refine ⟨B, ⟨o, ho⟩, fun h1 h2 p k => ?_⟩
  have ⟨z1, z2, z3, o', ho', r'⟩ := (p : Nd0 P w h1 d xs ep)
  exact ⟨z1, z2, z3, o', k o' ho', r'⟩
/-- the keys stand -/
def NdK (K : PySem.W.Frag) (H : Hp) (xs : Nd) : Prop := ∀ x ∈ xs, Rp K H (.ref x.2.1) x.1 ∧ x.1.nk.depth ≤ 8
theorem NdK.mono {K : PySem.W.Frag} {H H' : Hp} {xs : Nd} (k : NdK K H xs) (t : Tu H H') : NdK K H' xs := fun x hx => ⟨(k x hx).1.mono t, (k x hx).2⟩
theorem NdK.put {K : PySem.W.Frag} {H : Hp} {xs : Nd} (h : NdK K H xs) {k : D} {q v : Addr} (r : Rp K H (.ref q) k) (d : k.nk.depth ≤ 8) : NdK K H (ndPut xs k q v) := fun x hx => by
  rcases mem_put hx with ⟨hx, _⟩ | ⟨e, _, e2 | ⟨y, hy, e2, e3⟩⟩
  · exact h x hx
  · rw [e, e2]; exact ⟨r, d⟩
  · have := h y hy
    rw [e, ← e3, ← e2]; exact this
theorem NdK.drop {K : PySem.W.Frag} {H : Hp} {xs : Nd} (h : NdK K H xs) (k : D) : NdK K H (ndDrop xs k) := fun x hx => h x (mem_drop hx).1
section
variable {X : Cx} {pins : List (Addr × Obj)} {σ : L2.St} {H : Hp} {s : Shared} {d : Addr} {xs : Nd} {ep : Nat}
theorem nd_is (I : Inv X pins σ H s) (hd : H d = some (NdO X.prog X.w d xs ep)) : Nd0 X.prog X.w s.heap d xs ep := (I.hok d _ hd).1
theorem nd_of (I : Inv X pins σ H s) (hd : H d = some (NdO X.prog X.w d xs ep)) (hk : NdK X.K H xs) : s.heap.DictOfH (nestedKind X.prog X.w) d (ndC xs) := by
  obtain ⟨_, _, nd, o, ho, hx, hdt⟩ := nd_is I hd
  refine ⟨o, _, ep, ho, hx, hdt, by simp [ndEs], fun x hm => ?_, ndC_nd.mpr nd⟩
  obtain ⟨y, hy, rfl⟩ := List.mem_map.mp hm
  exact ⟨nested_of I _ _ _ (hk y hy).1 rfl, (hk y hy).2⟩
/-- what a change of it leaves -/
theorem nd_new (I : Inv X pins σ H s) {ys : Nd} {h' : Heap} (e0 : (d == sysModules) = false) (hl : ys.length ≤ 100000) (x : h'.DictOfH (nestedKind X.prog X.w) d (ndC ys)) : ∃ ep', Nd0 X.prog X.w h' d ys ep' := by
  obtain ⟨o, es, ep', ho, hx, hdt, he, _, hn⟩ := x
  have ee : es = ndEs X.prog X.w ys := Array.ext' (by rw [he]; simp [ndEs])
  exact ⟨ep', e0, hl, ndC_nd.mp hn, o, ho, hx, by rw [hdt, ee]⟩
theorem nd_write (I : Inv X pins σ H s) (hd : H d = some (NdO X.prog X.w d xs ep)) {ys : Nd} {h' : Heap} {tk : Nat} (hl : ys.length ≤ 100000) (x : h'.DictOfH (nestedKind X.prog X.w) d (ndC ys)) (sb : Heap.SameBut d s.heap h') :
    ∃ ep', Inv X pins σ (upd H d (NdO X.prog X.w d ys ep')) { s with heap := h', toks := tk } := by
  obtain ⟨e0, _⟩ := nd_is I hd
  obtain ⟨ep', B⟩ := nd_new I (ys := ys) e0 hl x
  obtain ⟨_, _, _, o, ho, _⟩ := id B
  exact ⟨ep', I.write (by rw [hd]; trivial) (.inl rfl) (fun b u hb e => (sb.2 b hb).trans e) ⟨o, ho⟩ (ndO_ok B)⟩
end
section
variable {X : Cx} {pos pos' apos : Pos} {e o i f : Expr} {te td ty tx : TE}
theorem room8 (hu : X.A.units + 64 < cLine) : (nestedKind X.prog X.w).room X.A.in1 := show X.A.in1.units + 8 < cLine by simp only [Around.in1_units]; omega
theorem room7 (hu : X.A.units + 64 < cLine) : (nestedKind X.prog X.w).room X.A := show X.A.units + 8 < cLine by omega
/-- {} -/
def tDNewN (P : Program) (w : World) : TE := fun σ H Q => ∀ p, H p = none → Q (.ref p) (upd H p (NdO P w p [] 0))
theorem pe_dnewN : PE X (.Dict [] [] pos) (tDNewN X.prog X.w) := ⟨fun pins s σ H Q I h =>
  wpAny_Dict_empty ⟨.ref s.heap.objs.size, _, I.laid (a := s.heap.objs.size) (o := NdO X.prog X.w s.heap.objs.size [] 0) (t' := s.toks) (fun _ _ q => Heap.get?_push_of_some _ q) (Nat.le_refl _)
    (ndO_ok ⟨beq_eq_false_iff_ne.mpr (Ne.symm (Nat.ne_of_lt I.big)), Nat.zero_le _, .nil, _, Heap.get?_push_size _ rfl, ⟨rfl, rfl, rfl⟩, rfl⟩), rfl, h _ (I.hok.fresh (Nat.le_refl _))⟩⟩
/-- y in d, y not in d -/
def tNdIn (K : PySem.W.Frag) (P : Program) (w : World) (neg : Bool) (ty td : TE) : TE := fun σ H Q => ty σ H fun y H1 => td σ H1 fun x H2 => ∃ (a : Addr) (xs : Nd) (ep : Nat) (q : Addr) (k : D), x = .ref a ∧ H2 a = some (NdO P w a xs ep) ∧ NdK K H2 xs ∧ y = .ref q ∧ Rp K H2 (.ref q) k ∧ k.nk.depth ≤ 8 ∧
  Q (.bl (neg ^^ decide (k ∈ xs.map (·.1)))) H2
theorem at_isSome (xs : Nd) (k : D) : (atKey (ndC xs) k.nk).isSome = decide (k ∈ xs.map (·.1)) := by
  rw [ndC_at, Option.isSome_map]
  by_cases h : k ∈ xs.map (·.1)
  · obtain ⟨p, hp⟩ := ndAt_some h
    rw [hp, decide_eq_true h]; rfl
  · rw [ndAt_none.mpr h, decide_eq_false h]; rfl
theorem pc_kin (hu : X.A.units + 64 < cLine) (hi : PE X i ty) (ho : PE X o td) : PC X .In i o (tNdIn X.K X.prog X.w false ty td) := by
  refine ⟨fun pins s σ H Q I h => ?_⟩
  refine thn (hi.run pins s σ H _ I h) fun iv s1 ⟨y, H1, I1, ry, q1⟩ => thn (ho.run pins s1 σ H1 _ I1 q1) fun u s2 ⟨x, H2, I2, rx, a, xs, ep, q, k, ex, hd, hk, ey, rk, dp, q2⟩ => ?_
  subst ex ey
  obtain rfl : u = Value.ref a := rx
  obtain rfl : iv = Value.ref q := ry
  refine wpAny_in_heap (room8 hu) (⟨nested_of I2 _ _ _ rk rfl, dp⟩ : (nestedKind X.prog X.w).is s2.heap k.nk q) (nd_is I2 hd).1 (nd_of I2 hd hk) ?_
  rw [at_isSome]
  exact ⟨.bl _, H2, I2.tok _, rfl, by simpa using q2⟩
theorem pc_knotin (hu : X.A.units + 64 < cLine) (hi : PE X i ty) (ho : PE X o td) : PC X .NotIn i o (tNdIn X.K X.prog X.w true ty td) := by
  refine ⟨fun pins s σ H Q I h => ?_⟩
  refine thn (hi.run pins s σ H _ I h) fun iv s1 ⟨y, H1, I1, ry, q1⟩ => thn (ho.run pins s1 σ H1 _ I1 q1) fun u s2 ⟨x, H2, I2, rx, a, xs, ep, q, k, ex, hd, hk, ey, rk, dp, q2⟩ => ?_
  subst ex ey
  obtain rfl : u = Value.ref a := rx
  obtain rfl : iv = Value.ref q := ry
  show wpAny _ _ (do return Value.bool (!(← contains (.ref a) (.ref q)))) _ _ s2
  refine wpAny_bind (wpAny_contains_heap (room8 hu) (⟨nested_of I2 _ _ _ rk rfl, dp⟩ : (nestedKind X.prog X.w).is s2.heap k.nk q) (nd_is I2 hd).1 (nd_of I2 hd hk) (wpAny_pure ?_))
  rw [at_isSome]
  exact ⟨.bl _, H2, I2.tok _, rfl, by simpa using q2⟩
/-- d[y] -/
def tNdGet (K : PySem.W.Frag) (P : Program) (w : World) (td ty : TE) : TE := fun σ H Q => td σ H fun x H1 => ty σ H1 fun y H2 => ∃ (a : Addr) (xs : Nd) (ep : Nat) (q : Addr) (k : D) (b v : Addr), x = .ref a ∧ H2 a = some (NdO P w a xs ep) ∧ NdK K H2 xs ∧ y = .ref q ∧ Rp K H2 (.ref q) k ∧ k.nk.depth ≤ 8 ∧
  ndAt xs k = some (b, v) ∧ Q (.ref v) H2
theorem pe_kget (hu : X.A.units + 64 < cLine) (ho : PE X o td) (hi : PE X i ty) (hs : NoSl i) : PE X (.Subscript o i pos) (tNdGet X.K X.prog X.w td ty) := by
  refine ⟨fun pins s σ H Q I h => ?_⟩
  refine subD_of PySem.F.slot_dict_getitem.lookup hs (thn (ho.run pins s σ H _ I h) fun u s1 ⟨x, H1, I1, rx, q1⟩ => thn (hi.run pins s1 σ H1 _ I1 q1) fun iv s2 ⟨y, H2, I2, ry, a, xs, ep, q, k, b, v, ex, hd, hk, ey, rk, dp, g, q2⟩ => ?_)
  subst ex ey
  obtain rfl : u = Value.ref a := rx
  obtain rfl : iv = Value.ref q := ry
  have m := nd_of I2 hd hk
  exact ⟨m.typeIs, wpAny_getItem_heap (p := (b, .ref v)) (room8 hu) (⟨nested_of I2 _ _ _ rk rfl, dp⟩ : (nestedKind X.prog X.w).is s2.heap k.nk q) m (by rw [ndC_at, g]; rfl) ⟨.ref v, H2, I2.tok _, rfl, q2⟩⟩
/-- d[y] = v -/
def rSetN (K : PySem.W.Frag) (P : Program) (w : World) : TSet := fun o i v H Q => ∃ (a : Addr) (xs : Nd) (ep : Nat) (q : Addr) (k : D) (z : Addr), o = .ref a ∧ H a = some (NdO P w a xs ep) ∧ NdK K H xs ∧ i = .ref q ∧ Rp K H (.ref q) k ∧ k.nk.depth ≤ 8 ∧ v = .ref z ∧ xs.length < 10000 ∧
  ∀ ep', Q (upd H a (NdO P w a (ndPut xs k q z) ep'))
theorem set_kdict (hu : X.A.units + 64 < cLine) : PSet X (rSetN X.K X.prog X.w) := by
  intro pins s σ H o i v ov iv u Q I ro ri rv h
  obtain ⟨a, xs, ep, q, k, z, rfl, hd, hk, rfl, rk, dp, rfl, hl, q2⟩ := h
  obtain rfl : ov = Value.ref a := ro
  obtain rfl : iv = Value.ref q := ri
  obtain rfl : u = Value.ref z := rv
  refine wpAny_setItem_heap (room8 hu) (⟨nested_of I _ _ _ rk rfl, dp⟩ : (nestedKind X.prog X.w).is s.heap k.nk q) (nd_of I hd hk) (fun h' x sb => ?_) (by simp only [ndC, List.length_map]; rw [sizeLine_eq]; omega)
  rw [ndC_put] at x
  obtain ⟨ep', J⟩ := nd_write (tk := s.toks + (nestedKind X.prog X.w).draws k.nk) I hd (by have := len_put xs k q z; omega) x sb
  exact ⟨_, J, q2 ep'⟩
/-- d.pop(y), there -/
def tNdPop (K : PySem.W.Frag) (P : Program) (w : World) (td ty : TE) : TE := fun σ H Q => td σ H fun x H1 => ∃ (a : Addr) (xs : Nd) (ep : Nat), x = .ref a ∧ H1 a = some (NdO P w a xs ep) ∧ ty σ H1 fun y H2 => ∃ (q : Addr) (k : D) (b v : Addr), H2 a = some (NdO P w a xs ep) ∧ NdK K H2 xs ∧ y = .ref q ∧ Rp K H2 (.ref q) k ∧ k.nk.depth ≤ 8 ∧
  ndAt xs k = some (b, v) ∧ ∀ ep', Q (.ref v) (upd H2 a (NdO P w a (ndDrop xs k) ep'))
theorem nd_plain {pins : List (Addr × Obj)} {σ : L2.St} {H : Hp} {s : Shared} {a : Addr} {xs : Nd} {ep : Nat} (I : Inv X pins σ H s) (hd : H a = some (NdO X.prog X.w a xs ep)) : s.TypeIs (.ref a) "dict" ∧ ∀ b, Value.ref a = .ref b → ∃ ob, s.heap.get? b = some ob ∧ ob.dict = none := by
  obtain ⟨_, _, _, ob, ho, hx, _⟩ := nd_is I hd
  exact ⟨⟨ob, ho, hx.1⟩, fun b e => by cases e; exact ⟨ob, ho, hx.2.1⟩⟩
theorem pe_kpop (hu : X.A.units + 64 < cLine) (ho : PE X o td) (he : PE X e ty) (m : M1 X o "pop" apos e pos) : PE X (.Call (.Attribute o "pop" apos) [e] [] pos) (tNdPop X.K X.prog X.w td ty) := by
  refine ⟨fun pins s σ H Q I h => ?_⟩
  refine wpAny_Call_method m.base m.few m.line PySem.F.plainAttrs_dict PySem.F.slot_dict_pop PySem.F.type_dict_pop (thn (ho.run pins s σ H _ I h) fun u s1 ⟨x, H1, I1, rx, a, xs, ep, ex, hd, q1⟩ => ?_)
  subst ex
  obtain rfl : u = Value.ref a := rx
  obtain ⟨t1, t2⟩ := nd_plain I1 hd
  refine ⟨t1, t2, ?_⟩
  rw [m.trees]
  refine Calls.callWith_builtin rfl (Calls.evalArgs_plain (Calls.spliced_cons (thn (he.run pins s1 σ H1 _ I1 q1) fun iv s2 ⟨y, H2, I2, ry, q, k, b, v, hd2, hk, ey, rk, dp, g, q2⟩ => Calls.spliced_nil ?_)))
  subst ey
  obtain rfl : iv = Value.ref q := ry
  refine call_pop_heap (p := (b, .ref v)) (.inl rfl) (PySem.F.args_dict_pop_2 _ _) (room8 hu) (⟨nested_of I2 _ _ _ rk rfl, dp⟩ : (nestedKind X.prog X.w).is s2.heap k.nk q) (nd_is I2 hd2).1 (nd_of I2 hd2 hk) (by rw [ndC_at, g]; rfl) (fun h' x sb => ?_) (by have := (nd_is I2 hd2).2.1; simp only [ndC, List.length_map]; rw [sizeLine_eq]; omega)
  rw [ndC_drop] at x
  obtain ⟨ep', J⟩ := nd_write (tk := s2.toks + (nestedKind X.prog X.w).draws k.nk) I2 hd2 (Nat.le_trans (len_drop xs k) (nd_is I2 hd2).2.1) x sb
  exact ⟨.ref v, _, J, rfl, q2 ep'⟩
/-- d.setdefault(y, v) -/
def tNdSet (K : PySem.W.Frag) (P : Program) (w : World) (td ty tv : TE) : TE := fun σ H Q => td σ H fun x H1 => ∃ (a : Addr) (xs : Nd) (ep : Nat), x = .ref a ∧ H1 a = some (NdO P w a xs ep) ∧ ty σ H1 fun y H2 => tv σ H2 fun z H3 => ∃ (q : Addr) (k : D) (v : Addr), H3 a = some (NdO P w a xs ep) ∧ NdK K H3 xs ∧ y = .ref q ∧ Rp K H3 (.ref q) k ∧ k.nk.depth ≤ 8 ∧ z = .ref v ∧ xs.length < 10000 ∧
  (∀ b u, ndAt xs k = some (b, u) → Q (.ref u) H3) ∧ (k ∉ xs.map (·.1) → ∀ ep', Q (.ref v) (upd H3 a (NdO P w a (xs ++ [(k, q, v)]) ep')))
theorem pe_ksetd (hu : X.A.units + 64 < cLine) (ho : PE X o td) (he : PE X e ty) (hf : PE X f tx) (m : M2 X o "setdefault" apos e f pos) : PE X (.Call (.Attribute o "setdefault" apos) [e, f] [] pos) (tNdSet X.K X.prog X.w td ty tx) := by
  refine ⟨fun pins s σ H Q I h => ?_⟩
  refine wpAny_Call_method m.base m.few m.line PySem.F.plainAttrs_dict PySem.F.slot_dict_setdefault PySem.F.type_dict_setdefault (thn (ho.run pins s σ H _ I h) fun u s1 ⟨x, H1, I1, rx, a, xs, ep, ex, hd, q1⟩ => ?_)
  subst ex
  obtain rfl : u = Value.ref a := rx
  obtain ⟨t1, t2⟩ := nd_plain I1 hd
  refine ⟨t1, t2, ?_⟩
  rw [m.trees]
  refine Calls.callWith_builtin rfl (Calls.evalArgs_plain (Calls.spliced_cons (thn (he.run pins s1 σ H1 _ I1 q1) fun iv s2 ⟨y, H2, I2, ry, q2⟩ =>
    Calls.spliced_cons (thn (hf.run pins s2 σ H2 _ I2 q2) fun fv s3 ⟨z, H3, I3, rz, q, k, v, hd3, hk, ey, rk, dp, ez, hl, qs, qn⟩ => Calls.spliced_nil ?_))))
  subst ey ez
  obtain rfl : iv = Value.ref q := ry
  obtain rfl : fv = Value.ref v := rz
  refine call_setdefault_heap (room8 hu) (⟨nested_of I3 _ _ _ rk rfl, dp⟩ : (nestedKind X.prog X.w).is s3.heap k.nk q) (nd_is I3 hd3).1 (nd_of I3 hd3 hk) (fun p hp => ?_) (fun hn h' x sb => ?_) (by simp only [ndC, List.length_map]; rw [sizeLine_eq]; omega)
  · rw [ndC_at] at hp
    obtain ⟨p', e1, rfl⟩ := Option.map_eq_some_iff.mp hp
    exact ⟨.ref p'.2, H3, I3.tok _, rfl, qs p'.1 p'.2 e1⟩
  · rw [ndC_at, Option.map_eq_none_iff] at hn
    have hn' := ndAt_none.mp hn
    rw [ndC_put, len_put_new hn'] at x
    obtain ⟨ep', J⟩ := nd_write (tk := s3.toks + (nestedKind X.prog X.w).draws k.nk) I3 hd3 (by rw [List.length_append, List.length_singleton]; omega) x sb
    exact ⟨.ref v, _, J, rfl, qn hn' ep'⟩
theorem keys_vals : ∀ xs : Nd, Vals (xs.map fun x => V.ref x.2.1) (xs.map fun x => Value.ref x.2.1)
  | [] => .nil
  | _ :: xs => .cons rfl (keys_vals xs)
/-- len(d), list(d) -/
theorem call_lenK : CallR X (.builtin "len") (fun vs H Q => ∃ (a : Addr) (xs : Nd) (ep : Nat), vs = [V.ref a] ∧ H a = some (NdO X.prog X.w a xs ep) ∧ Q (.int xs.length) H) := by
  intro pins s σ H vs us Q I r h
  obtain ⟨a, xs, ep, rfl, hd, q⟩ := h
  rw [Vals.ref1 r]
  obtain ⟨e0, _, _, o, ho, hx, hdt⟩ := nd_is I hd
  have l : (ndEs X.prog X.w xs).size = xs.length := by simp [ndEs, ndC]
  have hr : s.heap.DictRaw a (ndEs X.prog X.w xs) ep := ⟨o, ho, hx, hdt⟩
  refine PyProof.Rows.call_len_slot (n := (xs.length : Int)) hr.typeIs PySem.F.slot_dict_len (fun Q' hq => call_len_raw e0 hr ?_) (by omega) (by omega) ⟨.int xs.length, H, I.tok _, ⟨_, rfl⟩, q⟩
  rw [l]; exact hq
theorem call_list_K (hc : X.calm = true) : CallR X (.type "list") (fun vs H Q => ∃ (a : Addr) (xs : Nd) (ep : Nat), vs = [V.ref a] ∧ H a = some (NdO X.prog X.w a xs ep) ∧ ∀ p, H p = none → Q (.ref p) (upd H p (.lst (xs.map fun x => V.ref x.2.1)))) := by
  intro pins s σ H vs us Q I r h
  obtain ⟨a, xs, ep, rfl, hd, q⟩ := h
  rw [Vals.ref1 r]
  obtain ⟨e0, hl, _, o, ho, hx, hdt⟩ := nd_is I hd
  have l : (ndEs X.prog X.w xs).size = xs.length := by simp [ndEs, ndC]
  refine PySem.W.kdl_call (kdl_raw e0 hx hdt) (I.ok.hd hc) ho (by rw [l, sizeLine_eq]; omega) fun h' tk acc c' kp e it => ?_
  have ea : acc.toList = xs.map fun x => Value.ref x.2.1 := by
    refine List.ext_getElem? fun j => ?_
    rw [List.getElem?_map]
    cases hj : acc.toList[j]? with
    | none =>
      have h1 := List.getElem?_eq_none_iff.mp hj
      rw [Array.length_toList, it.1, l] at h1
      rw [List.getElem?_eq_none h1]; rfl
    | some v =>
      obtain ⟨en, hen, hv⟩ := it.2 j v (by rw [← Array.getElem?_toList]; exact hj)
      rw [← Array.getElem?_toList] at hen
      simp only [ndEs, ndC, List.map_map, List.getElem?_map] at hen
      obtain ⟨x, e1, e2⟩ := Option.map_eq_some_iff.mp hen
      rw [e1, hv, ← e2]; rfl
  have hv : Vals (xs.map fun x => V.ref x.2.1) acc.toList := by rw [ea]; exact keys_vals xs
  exact ⟨.ref s.heap.objs.size, _, I.laid (t' := tk) (o := .lst (xs.map fun x => V.ref x.2.1)) kp (Nat.le_refl _) ⟨by rw [List.length_map, sizeLine_eq]; omega, acc.toList, c', hv, by rw [Array.toArray_toList]; exact e⟩, rfl, q _ (I.hok.fresh (Nat.le_refl _))⟩
end
end K56
set_option Elab.async false
set_option linter.all false
set_option maxRecDepth 100000
set_option maxHeartbeats 4000000
namespace K56
open PySem PySem.Spec PyProof.Rows L2
open Sem (wp)
/-! ### for k in d -/
def ItN (P : Program) (w : World) (d : Addr) (xs : Nd) (ep : Nat) : It :=
  ⟨fun i H => H d = some (NdO P w d xs ep) ∧ i < xs.length, fun i H x H' => H' = H ∧ ∃ y, xs[i]? = some y ∧ x = .ref y.2.1, fun i H => H d = some (NdO P w d xs ep) ∧ xs.length ≤ i⟩
theorem ndEs_at {P : Program} {w : World} {xs : Nd} {i : Nat} {y : D × Addr × Addr} (h : xs[i]? = some y) : ∃ en : DictEntry, (ndEs P w xs)[i]? = some en ∧ en.key = .ref y.2.1 := by
  refine ⟨entryOfKey (nestedKind P w) (y.1.nk, y.2.1, .ref y.2.2), ?_, rfl⟩
  rw [← Array.getElem?_toList]
  simp [ndEs, ndC, h]
theorem ndEs_size {P : Program} {w : World} {xs : Nd} : (ndEs P w xs).size = xs.length := by simp [ndEs, ndC]
theorem turn_nd {P : Program} {w : World} {K : PySem.W.Frag} {tg : Expr} {d : Addr} {xs : Nd} {ep : Nat} (it : Addr) : Turn P w K tg (ItN P w d xs ep) [it] it (fun i h => h.IsKeyIter it d i xs.length ep) where
  mem := List.mem_singleton.mpr rfl
  obj := fun i h st b hb => by
    obtain rfl := List.mem_singleton.mp hb
    obtain ⟨oi, e, c, dd⟩ := st
    exact ⟨oi, e, fun v z => by rw [dd] at z; cases z⟩
  keep := fun i h h' st k => st.at fun oi e => k it (List.mem_singleton.mpr rfl) oi e
  item := fun X hP hw hK hc i pins s σ H E I hf st hg => by
    subst hP hw hK
    obtain ⟨hd, hi⟩ := hg
    obtain ⟨f0, f1, f2, f3, f4, f5⟩ := hf it (List.mem_singleton.mpr rfl)
    obtain ⟨_, _, _, o, ho, _, hdt⟩ := nd_is I hd
    obtain ⟨y, hy⟩ : ∃ y, xs[i]? = some y := ⟨_, List.getElem?_eq_getElem hi⟩
    obtain ⟨en, h1, h2⟩ := ndEs_at (P := _) (w := _) hy
    refine next_key_item st ho hdt ndEs_size h1 fun h' st' sb => ?_
    have J := I.turned (t' := s.toks) (fun b ob hb e => (sb.2 b hb).trans e) f0 f1 f3 f4 f5
    obtain ⟨oi, e, c, dd⟩ := id st'
    exact ⟨en.key, rfl, go_of (s := { s with heap := h' }) e c dd (by decide) ⟨.ref y.2.1, H, J, h2, ⟨rfl, y, hy, rfl⟩, st', fun b hb => (hf b hb).1⟩⟩
  done := fun X hP hw hK hc i pins s σ H E I hf st hg => by
    subst hP hw hK
    obtain ⟨hd, hi⟩ := hg
    obtain ⟨f0, f1, f2, f3, f4, f5⟩ := hf it (List.mem_singleton.mpr rfl)
    obtain ⟨_, _, _, o, ho, _, hdt⟩ := nd_is I hd
    exact next_key_end (I.ok.hd hc) st ho hdt ndEs_size hi fun h' eb => ⟨rfl, I.turned (t' := s.toks) (fun b ob hb e => eb b ob hb e) f0 f1 f3 f4 f5⟩
  self := fun A i s Q E st h => wpAny_pyIter_keyiter st h
def iNd (P : Program) (w : World) (td : TE) : TI := fun σ H R => td σ H fun x H1 => ∃ (d : Addr) (xs : Nd) (ep : Nat), x = .ref d ∧ H1 d = some (NdO P w d xs ep) ∧ R (ItN P w d xs ep) H1
theorem pi_kkeys {X : Cx} {tg e : Expr} {td : TE} (he : PE X e td) : PI X tg e (iNd X.prog X.w td) := by
  refine ⟨fun pins s σ H R I h => ?_⟩
  refine thn (he.run pins s σ H _ I h) fun u s1 ⟨x, H1, I1, rx, d, xs, ep, ex, hd, q⟩ => ?_
  subst ex
  obtain rfl : u = Value.ref d := rx
  obtain ⟨e0, _, _, o, ho, hx, hdt⟩ := nd_is I1 hd
  refine iter_keys e0 ho hx hdt (pi_one (tk := s1.toks) I1 _ (turn_nd _) ⟨_, Heap.get?_push_size _ rfl, rfl, ?_⟩ q)
  rw [ndEs_size] <;> rfl
theorem walk_nd {P : Program} {w : World} {d : Addr} {xs : Nd} {ep : Nat} : Walk (ItN P w d xs ep) xs.length (fun H => H d = some (NdO P w d xs ep)) (fun i H x H' => H' = H ∧ ∃ y, xs[i]? = some y ∧ x = .ref y.2.1) :=
  ⟨fun _ _ hi q => ⟨q, hi⟩, fun _ q => ⟨q, Nat.le_refl _⟩, fun _ _ _ _ _ _ y => y⟩
/-! ### d != {} -/
theorem ne_empty {P : Program} {w : World} {A : Around} {E : Value → Shared → Prop} {s : Shared} {a b : Addr} {es : Array DictEntry} {ep ep' : Nat} {Q : Value → Shared → Prop} (ha : (a == sysModules) = false) (hb : (b == sysModules) = false) (da : s.heap.DictRaw a es ep) (db : s.heap.DictRaw b #[] ep')
    (hu : A.units + 2 < cLine) (h : Q (.bool (!es.isEmpty)) s) : wpAny (model P w) A (compareOp .NotEq (.ref a) (.ref b)) Q E s := by
  obtain ⟨oa, hoa, hxa, hda⟩ := id da
  obtain ⟨ob, hob, hxb, hdb⟩ := id db
  show wpAny _ _ (richCompare .NotEq (.ref a) (.ref b)) _ _ s
  refine wpAny_richCompare_same_room (op := .NotEq) da.typeIs db.typeIs PySem.F.slot_dict_ne (wpAny_call_entry PySem.F.slot_dict_ne da.typeIs PySem.F.entry_dict_ne ?_ (PySem.F.args_dict_ne_2 _ _)) (by omega)
  show wpAny _ _ (Builtin.Dict.dictSlotArgs "__ne__" ⟨[.ref a, .ref b], []⟩ >>= _) _ _ s
  refine wpAny_bind ?_
  unfold Builtin.Dict.dictSlotArgs
  refine wpAny_bind (wpAny_notOrdered_dict da.typeIs ?_)
  show wpAny _ _ (pure (Value.ref a, Value.ref b)) _ _ s
  refine wpAny_pure ?_
  refine wpAny_bind (wpAny_isInstance (T := "dict") db.typeIs PySem.F.sub_dict_dict ?_)
  simp only [Bool.not_true, Bool.false_eq_true, if_false]
  refine wpAny_bind (wpAny_pure (wpAny_bind (wpAny_pure ?_)))
  unfold Builtin.Dict.samePairs Builtin.Dict.showsAll
  rw [if_neg (show ¬ (a == sysModules) = true by rw [ha]; exact Bool.false_ne_true), if_neg (show ¬ (b == sysModules) = true by rw [hb]; exact Bool.false_ne_true)]
  refine wpAny_bind (wpAny_bind (wpAny_pure (wpAny_bind (wpAny_pure ?_))))
  refine wpAny_bind (wpAny_dictEntries hoa hda ?_)
  dsimp only
  refine wpAny_bind (wpAny_dictEntries hob hdb ?_)
  by_cases he : es = #[]
  · subst he
    refine wp_if_neg (by decide) (wpAny_bind (wpAny_dictEpoch hoa hda (wpAny_bind ?_)))
    rw [Std.Legacy.Range.forIn_eq_forIn_range']
    refine wpAny_pure ?_
    refine wpAny_pure (wpAny_pure ⟨_, rfl, (fun z => nomatch z), h⟩)
  · have hz : (es.size != (#[] : Array DictEntry).size) = true := by
      have : es.size ≠ 0 := fun z => he (Array.eq_empty_of_size_eq_zero z)
      simpa using this
    have hq : (!es.isEmpty) = true := by simpa using he
    rw [hq] at h
    exact wp_if_pos hz (wpAny_bind (wpAny_rule (wpAny_pure (wpAny_pure ⟨_, rfl, (fun z => nomatch z), h⟩))))
section
variable {X : Cx} {pins : List (Addr × Obj)} {σ : L2.St} {H : Hp} {s : Shared}
/-- d != {}: of keys of any kind -/
def rNeE (P : Program) (w : World) : R2 := fun x y H Q => ∃ (a b : Addr), x = .ref a ∧ y = .ref b ∧ H b = some (.dK []) ∧ ((∃ kvs, H a = some (.dK kvs) ∧ Q (.bl (!kvs.isEmpty)) H) ∨ ∃ xs ep, H a = some (NdO P w a xs ep) ∧ Q (.bl (!xs.isEmpty)) H)
theorem dk_raw {kvs : List (Key × V)} {a : Addr} (I : Inv X pins σ H s) (h : H a = some (.dK kvs)) : (a == sysModules) = false ∧ ∃ es ep, s.heap.DictRaw a es ep ∧ es.size = kvs.length := by
  obtain ⟨z, e0, vs, r, dd⟩ := dk_of I.hok h
  obtain ⟨es, ep, h1, h2, _⟩ := dd.raw
  exact ⟨e0, es, ep, h1, by rw [h2, r.length]⟩
theorem op_neE (hu : X.A.units + 64 < cLine) : OpR X (compareOp .NotEq) (rNeE X.prog X.w) := by
  intro pins s σ H x y v u Q I rx ry h
  obtain ⟨a, b, rfl, rfl, hb, h⟩ := h
  obtain rfl : v = Value.ref a := rx
  obtain rfl : u = Value.ref b := ry
  obtain ⟨eb, es', ep', r', l'⟩ := dk_raw I hb
  have l0 : es' = #[] := Array.eq_empty_of_size_eq_zero l'
  subst l0
  rcases h with ⟨kvs, ha, q⟩ | ⟨xs, ep, ha, q⟩
  · obtain ⟨ea, es, ep, r, l⟩ := dk_raw I ha
    refine ne_empty ea eb r r' (by omega) ⟨.bl _, H, I, rfl, ?_⟩
    have : es.isEmpty = kvs.isEmpty := by
      rw [Bool.eq_iff_iff, Array.isEmpty_iff_size_eq_zero, List.isEmpty_iff_length_eq_zero, l]
    rw [this]; exact q
  · obtain ⟨ea, _, _, o, ho, hx, hdt⟩ := nd_is I ha
    refine ne_empty ea eb ⟨o, ho, hx, hdt⟩ r' (by omega) ⟨.bl _, H, I, rfl, ?_⟩
    have : (ndEs X.prog X.w xs).isEmpty = xs.isEmpty := by
      rw [Bool.eq_iff_iff, Array.isEmpty_iff_size_eq_zero, List.isEmpty_iff_length_eq_zero, ndEs_size]
    rw [this]; exact q
end
end K56
set_option Elab.async false
set_option linter.all false
set_option maxRecDepth 100000
set_option maxHeartbeats 4000000
namespace K56
open PySem PySem.Spec PyProof.Rows L2
open Sem (wp)
/-! ### list(zip(xs, ys)): the first pair is held by the list, so the zip makes each of the others anew -/
/-- the zip at z has handed out what stands at T -/
abbrev ZipHeld (h : Heap) (z TI TO T : Addr) (f : Bool) : Prop := h.get? z = some { cls := .type "zip", dict := none, data := .fields #[rawInt T, .bool f, .bool false, .ref TI, .ref TO], slots := #[] }
section
variable {prog : Program} {w : World} {A : Around} {E : Value → Shared → Prop} {s : Shared} {z TI TO i1 i2 l1 l2 T : Addr} {k : Nat} {xs ys : Array Value} {f : Bool} {ob : Obj}
theorem wpAny_alive {M : Model} {a : Addr} {Q : Option Obj → Shared → Prop} (h : Q (s.heap.get? a) s) : wpAny M A (loadIfAlive a) Q E s := fun Γ p _ => by
  unfold loadIfAlive
  rw [Sem.wp_loadIfAlive]
  exact h
theorem held_head {α : Type} {m : Bool → Sem α} {Q : α → Shared → Prop} (hz : ZipHeld s.heap z TI TO T f) (hT : s.heap.get? T = some ob) (q : ∀ h', ZipHeld h' z TI TO T true → Heap.SameBut z s.heap h' → wpAny (model prog w) A (m false) Q E { s with heap := h' }) :
    wpAny (model prog w) A (Builtin.SmallTypes.ownedTupleIsFree (.ref z) >>= m) Q E s := by
  refine wpAny_bind ?_
  unfold Builtin.SmallTypes.ownedTupleIsFree
  refine wpAny_bind (wpAny_field hz rfl (x := rawInt T) rfl ?_)
  show wpAny _ _ (loadIfAlive (Int.toNat (T : Int)) >>= _) _ _ s
  rw [Int.toNat_natCast]
  refine wpAny_bind (wpAny_alive ?_)
  rw [hT]
  refine wp_if_neg (by simp) (wpAny_bind (wpAny_field hz rfl (x := .bool f) rfl ?_))
  cases f with
  | true => exact wp_if_neg (by decide) (wpAny_pure (q s.heap hz (Heap.SameBut.refl z s.heap)))
  | false =>
    refine wp_if_pos (by decide) (wpAny_bind (wpAny_setField_rec hz (by simp) fun h' hz' sb => wpAny_pure ?_))
    exact q h' hz' sb
/-- what stands apart -/
structure Apart (z i1 i2 l1 l2 TI : Addr) : Prop where
  i1z : i1 ≠ z
  i2z : i2 ≠ z
  i12 : i1 ≠ i2
  l1z : l1 ≠ z
  l2z : l2 ≠ z
  l11 : l1 ≠ i1
  l12 : l1 ≠ i2
  l21 : l2 ≠ i1
  l22 : l2 ≠ i2
  tz : TI ≠ z
  t1 : TI ≠ i1
  t2 : TI ≠ i2
theorem held_item (D : Apart z i1 i2 l1 l2 TI) (hz : ZipHeld s.heap z TI TO T f) (hT : s.heap.get? T = some ob) (hTI : IsPair s.heap TI (.ref i1) (.ref i2)) (h1 : s.heap.IsListIter i1 l1 k) (h2 : s.heap.IsListIter i2 l2 k) (hl1 : s.heap.IsList l1 xs) (hl2 : s.heap.IsList l2 ys)
    {x y : Value} (hx : xs[k]? = some x) (hy : ys[k]? = some y) {Q : Option Value → Shared → Prop}
    (q : ∀ h', ZipHeld h' z TI TO T true → h'.IsListIter i1 l1 (k + 1) → h'.IsListIter i2 l2 (k + 1) → IsPair h' s.heap.objs.size x y → (∀ c o, c ≠ z → c ≠ i1 → c ≠ i2 → s.heap.get? c = some o → h'.get? c = some o) → Q (some (.ref s.heap.objs.size)) { s with heap := h' }) :
    wpAny (model prog w) A (pyNext (.ref z)) Q E s := by
  have hTy : s.TypeIs (.ref z) "zip" := ⟨_, hz, rfl⟩
  unfold pyNext
  refine wpAny_bind (wpAny_attempt (wpAny_callSpecial?_slot (name := Str.ofString "__next__") hTy PySem.F.slot_zip_next (wpAny_call_entry PySem.F.slot_zip_next hTy PySem.F.entry_zip_next ?_ (PySem.F.args_zip_next_1 _))))
  show wpAny _ _ (field (.ref z) 2 >>= _) _ _ _
  refine wpAny_bind (wpAny_field hz rfl (x := .bool false) rfl ?_)
  show wpAny _ _ (field (.ref z) 3 >>= _) _ _ _
  refine wpAny_bind (wpAny_field hz rfl (x := .ref TI) rfl ?_)
  refine wpAny_bind (wpAny_seqItems hTI rfl ?_)
  refine wp_if_neg (show ¬ ((false : Bool) = true) from Bool.false_ne_true) (held_head hz hT fun g1 z1 s1 => ?_)
  refine wp_if_neg (by decide) ?_
  simp only [← Array.forIn_toList, List.forIn_cons, List.forIn_nil]
  refine wpAny_bind (wpAny_bind (wpAny_bind (wpAny_holding ?_)))
  show wpAny _ _ (Builtin.SmallTypes.nextOf (.ref i1) >>= _) _ _ _
  refine wpAny_bind (wpAny_nextOf_list_item (h1.extBut s1.extBut D.i1z) (hl1.extBut s1.extBut D.l1z) hx fun g2 a2 s2 => wpAny_pure ?_)
  refine wpAny_pure ?_
  refine wpAny_bind (wpAny_bind (wpAny_holding ?_))
  show wpAny _ _ (Builtin.SmallTypes.nextOf (.ref i2) >>= _) _ _ _
  refine wpAny_bind (wpAny_nextOf_list_item ((h2.extBut s1.extBut D.i2z).extBut s2.extBut D.i12.symm) ((hl2.extBut s1.extBut D.l2z).extBut s2.extBut D.l21) hy fun g3 a3 s3 => wpAny_pure ?_)
  refine wpAny_pure (wpAny_pure (wpAny_bind (wpAny_newTuple ?_ (show 2 ≤ sizeLine by decide))))
  have hsz : g3.objs.size = s.heap.objs.size := by rw [s3.1, s2.1, s1.1]
  have kp : ∀ c o, c ≠ z → c ≠ i1 → c ≠ i2 → s.heap.get? c = some o → g3.get? c = some o := fun c o c1 c2 c3 e => s3.extBut _ _ c3 (s2.extBut _ _ c2 (s1.extBut _ _ c1 e))
  have z3 : ZipHeld g3 z TI TO T true := s3.extBut _ _ D.i2z.symm (s2.extBut _ _ D.i1z.symm z1)
  refine wpAny_pure ⟨_, rfl, wpAny_pure ?_⟩
  show Q (some (.ref g3.objs.size)) _
  rw [hsz]
  exact q _ (Heap.get?_push_of_some _ z3) ((a2.extBut s3.extBut D.i12).at fun o e => Heap.get?_push_of_some _ e) (a3.at fun o e => Heap.get?_push_of_some _ e) (by have := Heap.get?_push_size g3 (o := { cls := .type "tuple", data := .seq #[x, y] }) rfl; rwa [hsz] at this) fun c o c1 c2 c3 e => Heap.get?_push_of_some _ (kp c o c1 c2 c3 e)
theorem held_end (hh : A.handled = none) (D : Apart z i1 i2 l1 l2 TI) (hz : ZipHeld s.heap z TI TO T f) (hT : s.heap.get? T = some ob) (hTI : IsPair s.heap TI (.ref i1) (.ref i2)) (h1 : s.heap.IsListIter i1 l1 k) (hl1 : s.heap.IsList l1 xs) (hx : xs[k]? = none) {Q : Option Value → Shared → Prop}
    (q : ∀ h', (∀ c o, c ≠ z → c ≠ i1 → s.heap.get? c = some o → h'.get? c = some o) → Q none { s with heap := h' }) : wpAny (model prog w) A (pyNext (.ref z)) Q E s := by
  have hTy : s.TypeIs (.ref z) "zip" := ⟨_, hz, rfl⟩
  unfold pyNext
  refine wpAny_bind (wpAny_attempt (wpAny_callSpecial?_slot (name := Str.ofString "__next__") hTy PySem.F.slot_zip_next (wpAny_call_entry PySem.F.slot_zip_next hTy PySem.F.entry_zip_next ?_ (PySem.F.args_zip_next_1 _))))
  show wpAny _ _ (field (.ref z) 2 >>= _) _ _ _
  refine wpAny_bind (wpAny_field hz rfl (x := .bool false) rfl ?_)
  show wpAny _ _ (field (.ref z) 3 >>= _) _ _ _
  refine wpAny_bind (wpAny_field hz rfl (x := .ref TI) rfl ?_)
  refine wpAny_bind (wpAny_seqItems hTI rfl ?_)
  refine wp_if_neg (show ¬ ((false : Bool) = true) from Bool.false_ne_true) (held_head hz hT fun g1 z1 s1 => ?_)
  refine wp_if_neg (by decide) ?_
  simp only [← Array.forIn_toList, List.forIn_cons, List.forIn_nil]
  refine wpAny_bind (wpAny_bind (wpAny_bind (wpAny_holding ?_)))
  show wpAny _ _ (Builtin.SmallTypes.nextOf (.ref i1) >>= _) _ _ _
  refine wpAny_bind (wpAny_nextOf_list_end hh (h1.extBut s1.extBut D.i1z) (hl1.extBut s1.extBut D.l1z) hx fun g2 e x2 he => ?_)
  obtain ⟨o, ho, hc⟩ := he
  refine wpAny_bind (wpAny_isInstance (T := "StopIteration") (b := true) ⟨o, ho, hc⟩ isSubtype_stop ?_)
  exact wpAny_pure (q g2 fun c o c1 c2 e => x2 _ _ c2 (s1.extBut _ _ c1 e))
/-- the pairs that stand at the addresses -/
def Pairs (h : Heap) (xs ys : Array Value) (ps : List Addr) : Prop := ∀ (j : Nat) (p : Addr), ps[j]? = some p → ∃ x y, xs[j]? = some x ∧ ys[j]? = some y ∧ IsPair h p x y
theorem Pairs.keep {h h' : Heap} {ps : List Addr} (g : Pairs h xs ys ps) (k : ∀ p ∈ ps, ∀ o, h.get? p = some o → h'.get? p = some o) : Pairs h' xs ys ps := fun j p e => by
  obtain ⟨x, y, e1, e2, e3⟩ := g j p e
  exact ⟨x, y, e1, e2, k p (List.mem_of_getElem? e) _ e3⟩
theorem Pairs.more {h : Heap} {ps : List Addr} (g : Pairs h xs ys ps) {p : Addr} {x y : Value} (e1 : xs[ps.length]? = some x) (e2 : ys[ps.length]? = some y) (e3 : IsPair h p x y) : Pairs h xs ys (ps ++ [p]) := fun j q e => by
  rcases Nat.lt_trichotomy j ps.length with l | l | l
  · rw [List.getElem?_append_left l] at e
    exact g j q e
  · subst l
    have e' : p = q := by simpa using e
    subst e'
    exact ⟨x, y, e1, e2, e3⟩
  · rw [List.getElem?_eq_none (by simp; omega)] at e
    cases e
/-- the list's loop, from the second pair on -/
theorem held_loop {S : Addr} {res : Value} {R : Result → Shared → Prop} (hh : A.handled = none) (D : Apart z i1 i2 l1 l2 TI) {n : Nat} (hxs : xs.size = n) (hys : ys.size = n) (hn : n ≤ 1000) {h0 : Heap} (hS0 : h0.get? S = none) (hz0 : ∀ c ∈ [z, i1, i2], h0.get? c = none)
    (sz : S ≠ z) (s1 : S ≠ i1) (s2 : S ≠ i2) (sT : S ≠ TI) (sl1 : S ≠ l1) (sl2 : S ≠ l2) (Tz : T ≠ z) (T1 : T ≠ i1) (T2 : T ≠ i2) (TS : T ≠ S) :
    ∀ (j i : Nat) (s : Shared) (ps : List Addr) (c : Nat) (f : Bool), i + j = n → ps.length = i → ZipHeld s.heap z TI TO T f → (∃ ob, s.heap.get? T = some ob) → IsPair s.heap TI (.ref i1) (.ref i2) → s.heap.IsListIter i1 l1 i → s.heap.IsListIter i2 l2 i → s.heap.IsList l1 xs → s.heap.IsList l2 ys →
      (∀ b o, h0.get? b = some o → s.heap.get? b = some o) → s.heap.get? S = some { cls := .type "list", dict := none, data := .seq (ps.map Value.ref).toArray c, slots := #[] } → Pairs s.heap xs ys ps → (∀ p ∈ ps, p ≠ S ∧ p ≠ z ∧ p ≠ i1 ∧ p ≠ i2 ∧ h0.get? p = none) → ps.Nodup →
      (∀ s' ps' c', (∀ b o, h0.get? b = some o → s'.heap.get? b = some o) → s'.gens = s.gens → s'.os = s.os → s'.drawn = s.drawn → ps'.length = n → s'.heap.get? S = some { cls := .type "list", dict := none, data := .seq (ps'.map Value.ref).toArray c', slots := #[] } → Pairs s'.heap xs ys ps' → (∀ p ∈ ps', p ≠ S ∧ h0.get? p = none) → ps'.Nodup → R (.ok (.ret res)) s') →
      codeAny (model prog w) A (.builtin "list.extend.loop" ⟨[.ref S, .ref z, res], []⟩) R s := by
  intro j
  induction j with
  | zero =>
    intro i s ps c f hi hp hz ⟨ob, hT⟩ hTI h1 h2 hl1 hl2 k0 hS g ap nd hR
    refine codeAny_builtin PySem.F.entry_extend_loop ?_
    rw [Around.under_plainId PySem.F.plain_extend_loop _]
    show wpAny _ A.in1 (pyNext (.ref z) >>= _) _ _ s
    refine wpAny_bind (held_end (by simpa using hh) D hz hT hTI h1 hl1 (Array.getElem?_eq_none (by omega)) fun h' kp => wpAny_pure ?_)
    refine hR { s with heap := h' } ps c (fun b o e => kp b o (fun q => by rw [q, hz0 z (by simp)] at e; cases e) (fun q => by rw [q, hz0 i1 (by simp)] at e; cases e) (k0 b o e)) rfl rfl rfl (by omega) (kp S _ sz s1 hS) (g.keep fun p hp o e => kp p o (ap p hp).2.1 (ap p hp).2.2.1 e) (fun p hp => ⟨(ap p hp).1, (ap p hp).2.2.2.2⟩) nd
  | succ j ih =>
    intro i s ps c f hi hp hz ⟨ob, hT⟩ hTI h1 h2 hl1 hl2 k0 hS g ap nd hR
    have ix : i < xs.size := by omega
    have iy : i < ys.size := by omega
    have hx : xs[i]? = some xs[i] := Array.getElem?_eq_getElem ix
    have hy : ys[i]? = some ys[i] := Array.getElem?_eq_getElem iy
    generalize xs[i] = x at hx
    generalize ys[i] = y at hy
    refine codeAny_builtin PySem.F.entry_extend_loop ?_
    rw [Around.under_plainId PySem.F.plain_extend_loop _]
    show wpAny _ A.in1 (pyNext (.ref z) >>= _) _ _ s
    refine wpAny_bind (held_item D hz hT hTI h1 h2 hl1 hl2 hx hy fun h' z' a1 a2 pr kp => ?_)
    have lt : ∀ b o, s.heap.get? b = some o → b ≠ s.heap.objs.size := fun b o e => Nat.ne_of_lt (Heap.lt_size e)
    have hS' := kp S _ sz s1 s2 hS
    show wpAny _ A.in1 (updateSeq S (·.push (.ref s.heap.objs.size)) >>= _) _ _ _
    have esz : (ps.map Value.ref).toArray.size ≤ 1000 := by rw [List.size_toArray, List.length_map]; omega
    refine wpAny_bind (wpAny_updateSeq (s := { s with heap := h' }) hS' rfl (wpAny_pure ⟨plainId_quiet PySem.F.plain_extend_loop _, ?_⟩) (by rw [sizeLine_eq]; omega) (by show ((ps.map Value.ref).toArray.push _).size ≤ sizeLine + 1; rw [Array.size_push, sizeLine_eq]; omega))
    have up : ∀ b o, b ≠ S → h'.get? b = some o → (h'.update S (Obj.mapSeq (·.push (.ref s.heap.objs.size)))).get? b = some o := fun b o hb e => (Heap.get?_update_other _ _ (Ne.symm hb)).trans e
    have both : ∀ b o, b ≠ S → b ≠ z → b ≠ i1 → b ≠ i2 → s.heap.get? b = some o → (h'.update S (Obj.mapSeq (·.push (.ref s.heap.objs.size)))).get? b = some o := fun b o h1 h2 h3 h4 e => up b o h1 (kp b o h2 h3 h4 e)
    have nS : s.heap.objs.size ≠ S := (lt S _ hS).symm
    have nz : s.heap.objs.size ≠ z := (lt z _ hz).symm
    have n1 : s.heap.objs.size ≠ i1 := by obtain ⟨o, e, _⟩ := h1; exact (lt i1 _ e).symm
    have n2 : s.heap.objs.size ≠ i2 := by obtain ⟨o, e, _⟩ := h2; exact (lt i2 _ e).symm
    have selfS := Heap.get?_update_self (Obj.mapSeq (·.push (Value.ref s.heap.objs.size))) hS' rfl
    have earr : ((ps ++ [s.heap.objs.size]).map Value.ref).toArray = (ps.map Value.ref).toArray.push (.ref s.heap.objs.size) := by simp
    obtain ⟨c2, hc2⟩ : ∃ c2, (h'.update S (Obj.mapSeq (·.push (.ref s.heap.objs.size)))).get? S = some { cls := .type "list", dict := none, data := .seq ((ps ++ [s.heap.objs.size]).map Value.ref).toArray c2, slots := #[] } := ⟨_, by rw [selfS, earr]; rfl⟩
    refine ih (i + 1) { s with heap := h'.update S (Obj.mapSeq (·.push (.ref s.heap.objs.size))) } (ps ++ [s.heap.objs.size]) c2 true (by omega) (by simp [hp]) (up _ _ (Ne.symm sz) z') ⟨ob, both T ob TS Tz T1 T2 hT⟩ (both TI _ (Ne.symm sT) D.tz D.t1 D.t2 hTI) (a1.at fun o e => up _ o (Ne.symm s1) e) (a2.at fun o e => up _ o (Ne.symm s2) e)
      (hl1.at fun o e => both l1 o (Ne.symm sl1) D.l1z D.l11 D.l12 e) (hl2.at fun o e => both l2 o (Ne.symm sl2) D.l2z D.l21 D.l22 e)
      (fun b o e => both b o (fun q => by rw [q, hS0] at e; cases e) (fun q => by rw [q, hz0 z (by simp)] at e; cases e) (fun q => by rw [q, hz0 i1 (by simp)] at e; cases e) (fun q => by rw [q, hz0 i2 (by simp)] at e; cases e) (k0 b o e)) hc2 ?_ ?_ ?_ hR
    · refine (g.keep fun p hp' o e => both p o (ap p hp').1 (ap p hp').2.1 (ap p hp').2.2.1 (ap p hp').2.2.2.1 e).more (by rw [hp]; exact hx) (by rw [hp]; exact hy) (up _ _ nS pr)
    · intro p hp'
      rcases List.mem_append.mp hp' with q | q
      · exact ap p q
      · rw [List.mem_singleton.mp q]
        refine ⟨nS, nz, n1, n2, ?_⟩
        cases e : h0.get? s.heap.objs.size with
        | none => rfl
        | some o => exact absurd rfl (lt _ o (k0 _ o e))
    · refine List.nodup_append.mpr ⟨nd, (by simp), fun p hp' q hq => ?_⟩
      rw [List.mem_singleton.mp hq]
      obtain ⟨j', hj, e⟩ := List.getElem_of_mem hp'
      obtain ⟨x', y', _, _, pr'⟩ := g j' p (by rw [List.getElem?_eq_getElem hj, e])
      exact lt p _ pr'
end
end K56
set_option Elab.async false
set_option linter.all false
set_option maxRecDepth 100000
set_option maxHeartbeats 4000000
namespace K56
open PySem PySem.Spec PyProof.Rows L2
open Sem (wp)
theorem zip_no_len : typeLookup (.type "zip") "__len__" = pure none := by rw [typeLookup_type, builtinLookup_eq_fast]; kernel_rfl
theorem zip_no_hint : typeLookup (.type "zip") "__length_hint__" = pure none := by rw [typeLookup_type, builtinLookup_eq_fast]; kernel_rfl
section
variable {prog : Program} {w : World} {A : Around} {E : Value → Shared → Prop} {s : Shared} {z TI TO i1 i2 l1 l2 : Addr} {xs ys : Array Value}
theorem list_of_zip (hh : A.handled = none) (D : ZipApart z TI TO i1 i2 l1 l2) {a b : Value} (hz : IsZip s.heap z TI TO .none) (hTI : IsPair s.heap TI (.ref i1) (.ref i2)) (hTO : IsPair s.heap TO a b) (h1 : s.heap.IsListIter i1 l1 0) (h2 : s.heap.IsListIter i2 l2 0) (hl1 : s.heap.IsList l1 xs) (hl2 : s.heap.IsList l2 ys)
    {n : Nat} (hxs : xs.size = n) (hys : ys.size = n) (n1 : 1 ≤ n) (hn : n ≤ 1000) {h0 : Heap} (k0 : ∀ b o, h0.get? b = some o → s.heap.get? b = some o) (hz0 : ∀ c ∈ [z, i1, i2, TO], h0.get? c = none) {Q : Value → Shared → Prop}
    (q : ∀ s' ps c, (∀ b o, h0.get? b = some o → s'.heap.get? b = some o) → s'.gens = s.gens → s'.os = s.os → s'.drawn = s.drawn → ps.length = n → s'.heap.get? s.heap.objs.size = some { cls := .type "list", dict := none, data := .seq (ps.map Value.ref).toArray c, slots := #[] } → Pairs s'.heap xs ys ps → (∀ p ∈ ps, p ≠ s.heap.objs.size ∧ h0.get? p = none) → ps.Nodup → Q (.ref s.heap.objs.size) s') :
    wpAny (model prog w) A (call (.type "list") [.ref z]) Q E s := by
  have lt : ∀ b o, s.heap.get? b = some o → s.heap.objs.size ≠ b := fun b o e => Nat.ne_of_gt (Heap.lt_size e)
  have Sz := lt z _ hz
  have S1 : s.heap.objs.size ≠ i1 := by obtain ⟨o, e, _⟩ := h1; exact lt i1 _ e
  have S2 : s.heap.objs.size ≠ i2 := by obtain ⟨o, e, _⟩ := h2; exact lt i2 _ e
  have ST := lt TI _ hTI
  have SO := lt TO _ hTO
  have Sl1 : s.heap.objs.size ≠ l1 := by obtain ⟨o, e, _⟩ := hl1; exact lt l1 _ e
  have Sl2 : s.heap.objs.size ≠ l2 := by obtain ⟨o, e, _⟩ := hl2; exact lt l2 _ e
  have S0 : h0.get? s.heap.objs.size = none := by
    cases e : h0.get? s.heap.objs.size with
    | none => rfl
    | some o => exact absurd rfl (lt _ o (k0 _ o e))
  refine callType_codes (Q₁ := fun obj s₁ => obj = .ref s.heap.objs.size ∧ s₁ = { s with heap := s.heap.push { cls := .type "list", data := .seq #[] } }) PySem.F.called_list (PySem.F.typeCall_list_1 _) PySem.F.entry_list_init (code_list_new _ ⟨rfl, rfl⟩) fun obj s₁ e₁ => ?_
  obtain ⟨rfl, rfl⟩ := e₁
  have hS : (s.heap.push { cls := .type "list", data := .seq #[] }).get? s.heap.objs.size = some { cls := .type "list", data := .seq #[] } := Heap.get?_push_size _ rfl
  refine ⟨⟨_, hS, rfl⟩, PySem.F.args_list_init_2 _ _, ?_⟩
  show wpAny _ _ (do let old ← Builtin.List.listItems (.ref s.heap.objs.size); Builtin.List.listUpdate (.ref s.heap.objs.size) (fun _ => #[]); letGo old.toList.reverse; Builtin.List.listExtendWith (.ref s.heap.objs.size) (.ref z) .none) _ _ _
  refine wpAny_bind ?_
  unfold Builtin.List.listItems
  refine wpAny_bind (wpAny_seqItems hS rfl (wpAny_pure ?_))
  show wpAny _ _ (updateSeq s.heap.objs.size (fun _ => #[]) >>= fun _ => letGo (#[] : Array Value).toList.reverse >>= fun _ => Builtin.List.listExtendWith (.ref s.heap.objs.size) (.ref z) .none) _ _ _
  refine wpAny_bind (wpAny_updateSeq hS rfl (wpAny_bind (wpAny_letGo ?_)))
  have hS2 := Heap.get?_update_self (Obj.mapSeq (fun _ => (#[] : Array Value))) hS rfl
  have up2 : ∀ b o, s.heap.get? b = some o → ((s.heap.push { cls := .type "list", data := .seq #[] }).update s.heap.objs.size (Obj.mapSeq (fun _ => (#[] : Array Value)))).get? b = some o := fun b o e => (Heap.get?_update_other _ _ (lt b o e)).trans (Heap.get?_push_of_some _ e)
  generalize (s.heap.push { cls := .type "list", data := .seq #[] }).update s.heap.objs.size (Obj.mapSeq (fun _ => (#[] : Array Value))) = g2 at hS2 up2 ⊢
  unfold Builtin.List.listExtendWith
  have hz2 : IsZip g2 z TI TO .none := up2 z _ hz
  refine wpAny_bind (wpAny_typeOf (T := "zip") ⟨_, hz2, rfl⟩ ?_)
  have c1 : Builtin.List.listSameRef (.ref s.heap.objs.size) (.ref z) = false := by simp [Builtin.List.listSameRef, Sz]
  have c2 : (Value.type "zip" == Value.type "list") = false := by decide
  have c3 : (Value.type "zip" == Value.type "tuple") = false := by decide
  simp only [c1, c2, c3, Bool.or_false, Bool.false_eq_true, if_false]
  refine wpAny_bind (wpAny_pyIter_zip hz2 (wpAny_bind (wpAny_holding ?_)))
  unfold Builtin.List.listLengthHint
  refine wpAny_bind (wpAny_specialOf (T := "zip") ⟨_, hz2, rfl⟩ zip_no_len ?_)
  refine wpAny_bind (wpAny_specialOf (T := "zip") ⟨_, hz2, rfl⟩ zip_no_hint (wpAny_pure ?_))
  show wpAny _ _ (rule "list.extend.makes-room" >>= fun _ => Builtin.List.listTouch (.ref s.heap.objs.size) >>= fun _ => again (.builtin "list.extend.loop" ⟨[.ref s.heap.objs.size, .ref z, .none], []⟩)) _ _ _
  refine wpAny_bind (wpAny_rule (wpAny_bind ?_))
  show wpAny _ _ (updateSeq s.heap.objs.size (·.push .none) >>= fun _ => updateSeq s.heap.objs.size (·.pop)) _ _ _
  refine wpAny_bind (wpAny_updateSeq (s := { s with heap := g2 }) hS2 rfl ?_ (by decide) (by decide))
  have hS3 := Heap.get?_update_self (Obj.mapSeq (·.push Value.none)) hS2 rfl
  refine wpAny_updateSeq hS3 rfl (wpAny_pure ⟨plainId_quiet PySem.F.plain_extend_loop _, ?_⟩) (by decide) (by decide)
  have hS4 := Heap.get?_update_self (Obj.mapSeq (·.pop)) hS3 rfl
  have up4 : ∀ b o, s.heap.get? b = some o → ((g2.update s.heap.objs.size (Obj.mapSeq (·.push Value.none))).update s.heap.objs.size (Obj.mapSeq (·.pop))).get? b = some o := fun b o e => (Heap.get?_update_other _ _ (lt b o e)).trans ((Heap.get?_update_other _ _ (lt b o e)).trans (up2 b o e))
  generalize (g2.update s.heap.objs.size (Obj.mapSeq (·.push Value.none))).update s.heap.objs.size (Obj.mapSeq (·.pop)) = g4 at hS4 up4 ⊢
  obtain ⟨c4, hS4⟩ : ∃ c, g4.get? s.heap.objs.size = some { cls := .type "list", dict := none, data := .seq #[] c, slots := #[] } := ⟨_, hS4⟩
  have ix : 0 < xs.size := by omega
  have iy : 0 < ys.size := by omega
  have hx : xs[0]? = some xs[0] := Array.getElem?_eq_getElem ix
  have hy : ys[0]? = some ys[0] := Array.getElem?_eq_getElem iy
  generalize xs[0] = x at hx
  generalize ys[0] = y at hy
  refine codeAny_builtin PySem.F.entry_extend_loop ?_
  rw [Around.under_plainId PySem.F.plain_extend_loop _]
  show wpAny _ _ (pyNext (.ref z) >>= _) _ _ _
  refine wpAny_bind (wpAny_pyNext_zip_item (s := { s with heap := g4 }) D (up4 z _ hz) (up4 TI _ hTI) (up4 TO _ hTO) (h1.at fun o e => up4 i1 o e) (h2.at fun o e => up4 i2 o e) (hl1.at fun o e => up4 l1 o e) (hl2.at fun o e => up4 l2 o e) hx hy fun g5 z5 _ a1 a2 pr _ kp => ?_)
  have lt4 : ∀ b o, g4.get? b = some o → g4.objs.size ≠ b := fun b o e => Nat.ne_of_gt (Heap.lt_size e)
  have TS := lt4 _ _ hS4
  have Tz := lt4 z _ (up4 z _ hz)
  have T1 : g4.objs.size ≠ i1 := by obtain ⟨o, e, _⟩ := h1; exact lt4 i1 _ (up4 _ _ e)
  have T2 : g4.objs.size ≠ i2 := by obtain ⟨o, e, _⟩ := h2; exact lt4 i2 _ (up4 _ _ e)
  have hS5 := kp s.heap.objs.size _ Sz SO S1 S2 hS4
  show wpAny _ _ (updateSeq s.heap.objs.size (·.push (.ref g4.objs.size)) >>= _) _ _ _
  refine wpAny_bind (wpAny_updateSeq (s := { s with heap := g5 }) hS5 rfl (wpAny_pure ⟨plainId_quiet PySem.F.plain_extend_loop _, ?_⟩) (by decide) (show 1 ≤ sizeLine + 1 by decide))
  have hS6 := Heap.get?_update_self (Obj.mapSeq (·.push (Value.ref g4.objs.size))) hS5 rfl
  have up6 : ∀ b o, b ≠ s.heap.objs.size → g5.get? b = some o → (g5.update s.heap.objs.size (Obj.mapSeq (·.push (.ref g4.objs.size)))).get? b = some o := fun b o hb e => (Heap.get?_update_other _ _ (Ne.symm hb)).trans e
  generalize g5.update s.heap.objs.size (Obj.mapSeq (·.push (.ref g4.objs.size))) = g6 at hS6 up6 ⊢
  obtain ⟨c6, hS6⟩ : ∃ c, g6.get? s.heap.objs.size = some { cls := .type "list", dict := none, data := .seq ([g4.objs.size].map Value.ref).toArray c, slots := #[] } := ⟨_, hS6⟩
  have far : ∀ b o, b ≠ z → b ≠ TO → b ≠ i1 → b ≠ i2 → s.heap.get? b = some o → g6.get? b = some o := fun b o b1 b2 b3 b4 e => up6 b o (lt b o e).symm (kp b o b1 b2 b3 b4 (up4 b o e))
  have pr6 : IsPair g6 g4.objs.size x y := up6 _ _ TS pr
  refine held_loop (prog := prog) (w := w) (A := A.in1) (T := g4.objs.size) (by simpa using hh) ⟨D.i1z, D.i2z, D.i12, D.l1z, D.l2z, D.l1i1, D.l1i2, D.l2i1, D.l2i2, D.TIz, D.TIi1, D.TIi2⟩ hxs hys hn (h0 := h0) S0 (fun c hc => hz0 c (by simp only [List.mem_cons, List.not_mem_nil, or_false] at hc ⊢; rcases hc with e | e | e <;> simp [e])) Sz S1 S2 ST Sl1 Sl2 Tz T1 T2 TS (n - 1) 1 { s with heap := g6 } [g4.objs.size] c6 false (by omega) rfl
    (up6 z _ Sz.symm z5) ⟨_, pr6⟩ (far TI _ D.TIz D.TITO D.TIi1 D.TIi2 hTI) (a1.at fun o e => up6 i1 o S1.symm e) (a2.at fun o e => up6 i2 o S2.symm e) (hl1.at fun o e => far l1 o D.l1z D.l1TO D.l1i1 D.l1i2 e) (hl2.at fun o e => far l2 o D.l2z D.l2TO D.l2i1 D.l2i2 e)
    (fun b o e => far b o (fun q => by rw [q, hz0 z (by simp)] at e; cases e) (fun q => by rw [q, hz0 TO (by simp)] at e; cases e) (fun q => by rw [q, hz0 i1 (by simp)] at e; cases e) (fun q => by rw [q, hz0 i2 (by simp)] at e; cases e) (k0 b o e)) hS6 ?_ ?_ ((by simp)) ?_
  · intro j p e
    cases j with
    | zero =>
      have e' : g4.objs.size = p := by simpa using e
      subst e'
      exact ⟨x, y, hx, hy, pr6⟩
    | succ j => simp at e
  · intro p hp
    rw [List.mem_singleton.mp hp]
    refine ⟨TS, Tz, T1, T2, ?_⟩
    cases e : h0.get? g4.objs.size with
    | none => rfl
    | some o => exact absurd rfl (lt4 _ o (up4 _ o (k0 _ o e)))
  · intro s' ps' c' b1 b2 b3 b4 b5 b6 b7 b8 b9
    exact ⟨rfl, q s' ps' c' b1 b2 b3 b4 b5 b6 b7 b8 b9⟩
end
/-! ### list(zip(xs, ys)) as an expression -/
section
variable {X : Cx} {e e2 : Expr} {ta : TA} {p p2 pos pos2 : Pos}
def tListZip (K : PySem.W.Frag) (ta : TA) : TE := fun σ H Q => ta σ H fun vs H1 => ∃ (a b : Addr) (xs ys : List V), vs = [.ref a, .ref b] ∧ SqL K H1 a xs ∧ SqL K H1 b ys ∧ xs.length = ys.length ∧ 1 ≤ xs.length ∧ xs.length ≤ 1000 ∧
  ∀ (l : Addr) (ps : List Addr) (H2 : Hp), H1 l = none → (∀ c o, H1 c = some o → H2 c = some o) → H2 l = some (.lst (ps.map V.ref)) → ps.length = xs.length → (∀ (j : Nat) (q : Addr) (x y : V), ps[j]? = some q → xs[j]? = some x → ys[j]? = some y → H2 q = some (.tup [x, y])) → Q (.ref l) H2
/-- several new objects tracked at once -/
noncomputable def layL (H : Hp) (ns : List (Addr × HO)) : Hp := fun c => ((ns.find? fun p => decide (p.1 = c)).map (·.2)).or (H c)
theorem layL_old {H : Hp} {ns : List (Addr × HO)} {c : Addr} (h : ∀ p ∈ ns, p.1 ≠ c) : layL H ns c = H c := by
  unfold layL
  rw [List.find?_eq_none.mpr fun p hp => by simpa using h p hp]; rfl
theorem layL_new {H : Hp} : ∀ {ns : List (Addr × HO)} {p : Addr × HO}, (ns.map (·.1)).Nodup → p ∈ ns → layL H ns p.1 = some p.2
  | q :: ns, p, nd, hp => by
    rw [List.map_cons, List.nodup_cons] at nd
    unfold layL
    rcases List.mem_cons.mp hp with rfl | hp
    · rw [List.find?_cons, decide_eq_true rfl]; rfl
    · have ne : q.1 ≠ p.1 := fun e => nd.1 (e ▸ List.mem_map.mpr ⟨p, hp, rfl⟩)
      rw [List.find?_cons, decide_eq_false ne]
      have := layL_new (H := H) nd.2 hp
      unfold layL at this
      exact this
theorem layL_cases {H : Hp} {ns : List (Addr × HO)} {c : Addr} {o : HO} (h : layL H ns c = some o) : (c, o) ∈ ns ∨ ((∀ p ∈ ns, p.1 ≠ c) ∧ H c = some o) := by
  unfold layL at h
  cases e : ns.find? fun p => decide (p.1 = c) with
  | none =>
    rw [e] at h
    exact .inr ⟨fun p hp => by simpa using List.find?_eq_none.mp e p hp, h⟩
  | some p =>
    rw [e] at h
    have e2 : p.2 = o := Option.some.inj h
    have e1 : p.1 = c := by simpa using List.find?_some e
    rw [← e1, ← e2]
    exact .inl (List.mem_of_find?_eq_some e)
theorem layL_inv {pins : List (Addr × Obj)} {σ : L2.St} {H : Hp} {s s' : Shared} {ns : List (Addr × HO)} (I : Inv X pins σ H s) (k : ∀ b o, s.heap.get? b = some o → s'.heap.get? b = some o) (g : s'.gens = s.gens) (o : s'.os = s.os) (fr : ∀ p ∈ ns, s.heap.get? p.1 = none)
    (new : ∀ p ∈ ns, ObjOk X.prog X.w (layL H ns) s'.heap p.1 p.2) : Inv X pins σ (layL H ns) s' ∧ ∀ p ∈ ns, H p.1 = none := by
  have hn : ∀ p ∈ ns, H p.1 = none := fun p hp => by
    cases e : H p.1 with
    | none => rfl
    | some u =>
      have := (I.hok _ _ e).lt
      have q : ∃ o, s.heap.get? p.1 = some o := by
        have ok := I.hok _ _ e
        cases u with
        | lst xs => obtain ⟨_, _, _, _, z⟩ := ok; exact ⟨_, z⟩
        | tup xs => obtain ⟨_, _, _, o, z, _⟩ := ok; exact ⟨o, z⟩
        | dK kvs => obtain ⟨_, _, _, _, o, _, _, z, _⟩ := ok; exact ⟨o, z⟩
        | dT kvs => obtain ⟨_, _, _, _, o, _, _, z, _⟩ := ok; exact ⟨o, z⟩
        | set S n => obtain ⟨o, _, _, _, z, _⟩ := ok; exact ⟨o, z⟩
        | ins C dx fs => obtain ⟨_, _, _, z, _⟩ := ok; exact ⟨_, z⟩
        | own y => exact ok
        | xd fs => obtain ⟨_, ⟨o, _, _, z, _⟩, _⟩ := ok; exact ⟨o, z⟩
        | rng lo hi => obtain ⟨_, _, _, z⟩ := ok; exact ⟨_, z⟩
        | frz ob u => exact ⟨_, ok.1⟩
        | tbl ps => exact ⟨_, ok⟩
        | met f y => exact ⟨_, ok⟩
        | ext φ => exact ok.2.1
      obtain ⟨o, z⟩ := q
      rw [fr p hp] at z
      cases z
  have old : ∀ c u, H c = some u → layL H ns c = some u := fun c u e => by
    rw [layL_old fun p hp q => by rw [← q, hn p hp] at e; cases e]; exact e
  refine ⟨I.call' (ch := []) o ⟨fun b u q _ _ _ => k b u q, fun b u q _ _ _ => ⟨u.slots, k b u q⟩, fun b u q n _ => ?_, fun b u q _ => ⟨u, k b u q⟩, fun b xs q => old b _ q, fun b o u q => old b _ q, fun b ps q => ⟨#[], by rw [old b _ q]; simp⟩⟩ (fun b u e => ?_) (by rw [g]; exact I.bare) (fun _ z => nomatch z), hn⟩
  · rw [layL_old fun p hp z => by rw [← z, fr p hp] at q; cases q]; exact n
  · rcases layL_cases e with h | ⟨_, h⟩
    · exact new _ h
    · exact (I.hok b u h).stay (fun c v _ q => k c v q) (fun c q => old c _ q) fun c xs q => old c _ q
theorem vals_at {xs : List V} {us : List Value} {j : Nat} {x : V} {u : Value} (r : Vals xs us) (h1 : xs[j]? = some x) (h2 : us[j]? = some u) : RelV x u := by
  obtain ⟨u', e, r'⟩ := r.get h1
  rw [e] at h2
  cases h2
  exact r'
theorem pe_listZip (hc : X.calm = true) (hg : Gl X "list") (hm : X.mg "list" = none) (hg2 : Gl X "zip") (hm2 : X.mg "zip" = none) (ha : PA X [e, e2] ta) (hs : starEach [e, e2] X.env = (false, eval e X.env) :: starEach [e2] X.env := by rfl) (hpl : (backTo pos2 (starEach [e2] X.env)).any (·.1) = false := by rfl)
    (na : starEach [.Call (.Name "zip" p2) [e, e2] [] pos2] X.env = (false, eval (.Call (.Name "zip" p2) [e, e2] [] pos2) X.env) :: starEach [] X.env := by rfl) : PE X (.Call (.Name "list" p) [.Call (.Name "zip" p2) [e, e2] [] pos2] [] pos) (tListZip X.K ta) := by
  refine ⟨fun pins s σ H Q I h => ?_⟩
  refine Call_ (ld_blt I hg hm boot_list (PyProof.Rows.callWith_type1 (args_cons ?_ na) na))
  refine Call_ (ld_blt I hg2 hm2 PyProof.Rows.boot_zip (PyProof.Rows.callWith_type1 (thn (ha.run pos2 pins s σ H _ I h) fun us s1 ⟨vs, H1, I1, r1, a, b, xs, ys, ex, hqx, hqy, hl, n1, hn, q⟩ => ?_) hs hpl))
  subst ex
  cases r1 with
  | cons ra rr => cases rr with
    | cons rb rn =>
      cases rn
      cases ra
      cases rb
      obtain ⟨its, rv, p1, _⟩ := I1.list hqx
      obtain ⟨its2, rv2, p2, _⟩ := I1.list hqy
      have e1 := rv.length
      have e2 := rv2.length
      refine call_zip_2 p1.isList p2.isList fun h' hz hTI hTO h1 h2 hsz hk => args_nil ?_
      have none_ : ∀ c, s1.heap.objs.size ≤ c → s1.heap.get? c = none := fun c hc => by
        cases e : s1.heap.get? c with
        | none => rfl
        | some o => exact absurd (Heap.lt_size e) (Nat.not_lt.mpr hc)
      refine list_of_zip (s := { s1 with heap := h' }) (by simpa using I1.ok.hd hc) (PySem.W.ktu_apart s1.heap.objs.size a b p1.lt p2.lt) hz hTI hTO h1 h2 (p1.isList.at fun o e => hk a o e) (p2.isList.at fun o e => hk b o e) (n := xs.length) (by rw [List.size_toArray]; omega) (by rw [List.size_toArray]; omega) n1 hn (h0 := s1.heap) hk (fun c hc => none_ c ?_) fun s' ps c k g o d lp hS pr fr nd => ?_
      · simp only [List.mem_cons, List.not_mem_nil, or_false] at hc
        rcases hc with z | z | z | z <;> rw [z]
        · exact Nat.le_add_right _ _
        · exact Nat.le_refl _
        · exact Nat.le_add_right _ _
        · exact Nat.le_add_right _ _
      · -- what is tracked anew
        have S0 : s1.heap.get? h'.objs.size = none := none_ _ (by rw [hsz]; exact Nat.le_add_right _ _)
        let ns : List (Addr × HO) := (h'.objs.size, .lst (ps.map V.ref)) :: (ps.zip (xs.zip ys)).map fun p => (p.1, .tup [p.2.1, p.2.2])
        have zl : (ps.zip (xs.zip ys)).map (·.1) = ps := by
          rw [List.map_fst_zip]
          rw [List.length_zip]; omega
        have nk : (ns.map (·.1)) = h'.objs.size :: ps := by
          show h'.objs.size :: _ = _
          rw [List.map_map]
          exact congrArg _ zl
        have nd' : (ns.map (·.1)).Nodup := by
          rw [nk, List.nodup_cons]
          exact ⟨fun m => (fr _ m).1 rfl, nd⟩
        have frs : ∀ p ∈ ns, s1.heap.get? p.1 = none := fun p hp => by
          have : p.1 ∈ h'.objs.size :: ps := by rw [← nk]; exact List.mem_map.mpr ⟨p, hp, rfl⟩
          rcases List.mem_cons.mp this with z | z
          · rw [z]; exact S0
          · exact (fr _ z).2
        have vps : ∀ l : List Addr, Vals (l.map V.ref) (l.map Value.ref) := fun l => by
          induction l with
          | nil => exact .nil
          | cons _ l ih => exact .cons rfl ih
        obtain ⟨J, hn0⟩ := layL_inv (s' := s') (ns := ns) I1 k g o frs (fun p hp => by
          rcases List.mem_cons.mp hp with z | z
          · rw [z]
            exact ⟨by rw [List.length_map, sizeLine_eq]; omega, ps.map Value.ref, c, vps ps, hS⟩
          · obtain ⟨t, ht, rfl⟩ := List.mem_map.mp z
            obtain ⟨j, hj, et⟩ := List.getElem_of_mem ht
            have et' : (ps.zip (xs.zip ys))[j]? = some t := by rw [List.getElem?_eq_getElem hj, et]
            rw [List.getElem?_zip_eq_some] at et'
            obtain ⟨z1, z2⟩ := et'
            rw [List.getElem?_zip_eq_some] at z2
            obtain ⟨u, v, u1, v1, pr1⟩ := pr j _ z1
            exact ⟨(by show 2 ≤ sizeLine; decide), [u, v], .cons (vals_at rv z2.1 (by simpa using u1)) (.cons (vals_at rv2 z2.2 (by simpa using v1)) .nil), ⟨_, pr1, rfl, _, rfl⟩⟩)
        refine ⟨.ref h'.objs.size, layL H1 ns, J, rfl, q h'.objs.size ps _ (hn0 _ List.mem_cons_self) (fun c u e => ?_) (layL_new nd' (p := (h'.objs.size, .lst (ps.map V.ref))) List.mem_cons_self) lp fun j p x y f1 f2 f3 => ?_⟩
        · rw [layL_old fun p hp z => by rw [← z, hn0 p hp] at e; cases e]; exact e
        · refine layL_new nd' (p := (p, .tup [x, y])) (List.mem_cons_of_mem _ (List.mem_map.mpr ⟨(p, x, y), ?_, rfl⟩))
          exact List.mem_of_getElem? (i := j) (by rw [List.getElem?_zip_eq_some]; exact ⟨f1, by rw [List.getElem?_zip_eq_some]; exact ⟨f2, f3⟩⟩)
end
end K56
set_option Elab.async false
set_option linter.all false
set_option maxRecDepth 100000
set_option maxHeartbeats 4000000
namespace K56
open PySem PySem.Spec PyProof.Rows L2 LamX NdefX
open Sem (wp)
/-! ### min(d, key=lambda y: ..) over a dict's keys -/
/-- the lambda as a function of the library's kind (its body stands apart) -/
abbrev lamF (q : Str) (params : Arguments) (scope : Scope) (cl : List (Str × Addr)) (c' : Addr) : NF := ⟨"<lambda>", q, params, [], scope, cl, c'⟩
section
variable {X : Cx} {pins : List (Addr × Obj)} {σ : L2.St} {H : Hp} {s : Shared}
/-- a call of it -/
theorem lam_run {A : Around} {outer : List Env} {k : Nat} {f c' : Addr} {pm ctv : Value} {params : Arguments} {body : Expr} {scope : Scope} {q : Str} {cl : List (Str × Addr)} {N ps fr : List Str} {us : List Value} {vs : List V} {ws : List (Option V)} {Q : VK} {t : TE}
    (S : NScope N ps fr scope) (hr : Room (k + 1) A) (e0 : Env0 X.prog X.w X.K X.mg X.base A outer s H) (hf : s.heap.get? f = some (PySem.W.kla_obj "<lambda>" q params body scope cl pm c' ctv)) (hc : H c' = some (CodeO c' q))
    (hbind : bindArgs (PySem.W.kla_fn "<lambda>" q params body scope cl pm (.ref c') ctv) ⟨us, []⟩ = pure (ps.zip us)) (C : CellsAt cl fr ws s.heap H) (r : Vals vs us) (hl : vs.length = ps.length)
    (hbody : Room k (A.deeper (envF (lamF q params scope cl c') f s.heap.objs.size)) → PE (ncx CX0 X.prog X.w X.K X.mg X.base N (lamF q params scope cl c') f A outer s H E0) body t) (ht : t (startF N vs ws) H Q) :
    codeAny (model X.prog X.w) A (.call (.ref f) ⟨us, []⟩) (CR CX0 outer X.prog X.w H s Q E0) s := by
  have lim : s.heap.NoLimit := e0.mod.nolimit.keeps fun b o e => (e0.bs b o e).1
  obtain ⟨⟨oc, vs', tt, hoc, hdc, hvc⟩, _, _⟩ := e0.hok c' _ hc
  refine PySem.W.kla_callFunE hr.depth hf rfl S.co S.gen rfl ⟨c', oc, vs', tt, rfl, hoc, hdc, hvc⟩ ?_
  rw [hbind]
  refine wpAny_pure (wpAny_newFunctionEnv S.nocell (fun ⟨n, _⟩ hy => S.par n (List.of_mem_zip hy).1) (fun h₁ hns hsb => ⟨lim.fresh _ hsb, ?_⟩) S.kind)
  show codeAny _ _ (.expr body (envF (lamF q params scope cl c') f s.heap.objs.size)) _ _
  have kp : ∀ b o, s.heap.get? b = some o → h₁.get? b = some o := fun b o e => hsb.extBut b o (Nat.ne_of_lt (Heap.lt_size e)) (Heap.get?_push_of_some _ e)
  have J := inv_startN (CX := CX0) (E := E0) (F := lamF q params scope cl c') (f := f) (tk := s.toks + (ps.zip us).length) S hr.hd e0 hl r C hns kp
  refine PySem.W.kla_codeExpr (wpAny_mono ((hbody (hr.deeper _)).run [] _ _ H Q J ht) (fun v s' hq => ?_) fun e s' hq => hq)
  obtain ⟨w', H', J', rv, q'⟩ := hq
  exact ⟨w', H', J'.os, J'.bare, J'.base, J'.hok, rv, q'⟩
/-- the least key's tuple is one of the keys -/
def tMinLam (K : PySem.W.Frag) (P : Program) (w : World) (T : List (Addr × Str)) (N : List Str) (js : List Nat) (td tb : TE) : TE := fun σ H Q => td σ H fun x H1 => Tabs T H1 ∧ ∃ (a : Addr) (xs : Nd) (ep : Nat), x = .ref a ∧ H1 a = some (NdO P w a xs ep) ∧ xs ≠ [] ∧
  ∀ H2, ExtN H1 H2 → Tabs T H2 → ∃ kd : Nat → D, (∀ (i : Nat) (y : D × Addr × Addr), xs[i]? = some y → tb (startF N [.ref y.2.1] (js.map (slotAt σ))) H2 fun v H3 => H3 = H2 ∧ Rp K H2 v (kd i)) ∧ (∀ i j, i < xs.length → j < xs.length → PySem.W.alike (kd i).py (kd j).py = true) ∧ (∀ i, i < xs.length → (kd i).py.depth ≤ 50) ∧
    ∀ y ∈ xs, Q (.ref y.2.1) H2
theorem pe_minLam {T : List (Addr × Str)} {c P : Addr} {k : Nat} {o body : Expr} {td tb : TE} {params : Arguments} {scope : Scope} {N fr : List Str} {y : Str} {js : List Nat} {p lpos pos kpos : Pos} (hcm : X.calm = true) (hg : Gl X "min") (hm : X.mg "min" = none) (ho : PE X o td)
    (TB : TabB X.base X.mg c P) (hcode : X.env.code = .ref c) (hmT : (P, X.env.qual ++ "<lambda>") ∈ T) (hu : ∀ p ∈ T, p.1 = P → p.2 = X.env.qual ++ "<lambda>") (hr : Room (k + 2) X.A) (S : NScope N [y] fr scope)
    (hfree : ∀ y ∈ scope.names, y.2 = .free → X.env.scope.names.lookup y.1 = some .cell ∨ X.env.scope.names.lookup y.1 = some .free) (hfr : ∀ y ∈ fr, (y, NameKind.free) ∈ scope.names) (hjs : js.map (fun j => X.N[j]?) = fr.map some) (hdef : defaultsOf params X.env = ([], []))
    (hbind : ∀ (q : Str) (cl : List (Str × Addr)) (pm cv ctv u : Value), bindArgs (PySem.W.kla_fn "<lambda>" q params body scope cl pm cv ctv) ⟨[u], []⟩ = pure [(y, u)])
    (hbody : ∀ (A : Around) (outer : List Env) (s : Shared) (H : Hp) (f c' : Addr) (cl : List (Str × Addr)), Room k (A.deeper (envF (lamF (X.env.qual ++ "<lambda>") params scope cl c') f s.heap.objs.size)) → PE (ncx CX0 X.prog X.w X.K X.mg X.base N (lamF (X.env.qual ++ "<lambda>") params scope cl c') f A outer s H E0) body tb)
    (hs : backTo pos (starEach [o] X.env) = (false, eval o X.env) :: backTo pos (starEach [] X.env) := by rfl) (hkw : backToKw pos (keywordEach [⟨some "key", .Lambda params body scope lpos, kpos⟩] X.env) = [(some (Str.ofString "key"), do let v ← eval (.Lambda params body scope lpos) X.env; standAt pos; pure v)] := by rfl) :
    PE X (.Call (.Name "min" p) [o] [⟨some "key", .Lambda params body scope lpos, kpos⟩] pos) (tMinLam X.K X.prog X.w T N js td tb) := by
  refine ⟨fun pins s σ H Q I h => ?_⟩
  refine wpAny_Call_Name_kw (ld_blt I hg hm (show bootBuiltins "min" = some (.builtin "min") by decide +kernel) ?_)
  refine PyProof.Rows.callWith_kw ?_ hs (by rw [hs]; rfl) (by rw [hkw]; rfl) (by rw [hkw]; rfl)
  rw [hs]
  refine Calls.spliced_cons (thn (ho.run pins s σ H _ I h) fun u s1 ⟨x, H1, I1, rx, hT, a, xs, ep, ex, hd, hne, hrest⟩ => Calls.spliced_nil ?_)
  subst ex
  obtain rfl : u = Value.ref a := rx
  rw [hkw]
  show wpAny _ _ (evalAll [do let v ← eval (.Lambda params body scope lpos) X.env; standAt pos; pure v]) _ _ s1
  have hfc : ∀ y ∈ scope.names, y.2 = .free → ∃ c, X.env.cells.lookup y.1 = some c := fun y hy e => (hfree y hy e).elim (fun z => I1.ok.has _ (.inl z)) fun z => I1.ok.has _ (.inr z)
  refine wpAny_bind (wpAny_bind (lam_make2 I1 TB hcode hmT hu hT hdef hfc fun f c' pm ctv H2 s2 I2 eN T2 hf hfn hfs hco => wpAny_bind (wpAny_standAt (wpAny_pure ?_))))
  refine wpAny_bind (wpAny_pure (wpAny_pure ?_))
  show wpAny _ _ (call (.builtin "min") [.ref a] [(Str.ofString "key", .ref f)]) _ _ s2
  obtain ⟨kd, hk1, hk2, hk3, hq⟩ := hrest H2 eN T2
  have hd2 : H2 a = some (NdO X.prog X.w a xs ep) := eN _ _ hd (fun ps z => by unfold NdO at z; cases z)
  obtain ⟨e0, _, _, oa, hoa, hxa, hda⟩ := nd_is I2 hd2
  have caps : Caps X (cloFrom X.env.cells scope.names []) fr js := Caps.made I2.ok hfree hfr hjs
  refine call_min_walkK (iter_keys e0 hoa hxa hda ?_)
  have la : a < s2.heap.objs.size := Heap.lt_size hoa
  have fpI : FpOk X pins H2 s2.heap.objs.size := I2.fpOk (Nat.le_refl _) (I2.hok.fresh (Nat.le_refl _))
  have z2 : (s2.heap.push { cls := .type "dict_keyiterator", data := .fields #[.ref a, .int 0 0, .int (ndEs X.prog X.w xs).size 0, .int ep 0] }).objs.size = s2.heap.objs.size + 1 := Heap.size_push ..
  have fpS : FpOk X pins H2 (s2.heap.objs.size + 1) := I2.fpOk (Nat.le_succ _) (I2.hok.fresh (Nat.le_succ _))
  have lf : f < s2.heap.objs.size := Heap.lt_size hf
  refine ⟨s2.heap.objs.size, _, _, _, (ndEs X.prog X.w xs).size, _, _, fun s' => Inv X pins σ H2 s' ∧ s'.heap.get? f = some (PySem.W.kla_obj "<lambda>" (X.env.qual ++ "<lambda>") params body scope (cloFrom X.env.cells scope.names []) pm c' ctv), fun i v s' => i < xs.length ∧ ∃ z, RelV z v ∧ Rp X.K H2 z (kd i), fun i j => dLt (kd i) (kd j), rfl,
    (walks_raw (A := X.A.in1) (by simpa using I2.ok.hd hcm) s2.heap.objs.size a (Nat.ne_of_lt la) hda).toS, ⟨⟨_, Heap.get?_push_size _ rfl, rfl, rfl⟩, Heap.get?_push_of_some _ hoa⟩, ?_, by rw [ndEs_size]; exact List.length_pos_iff.mpr hne, ⟨?_, ?_, ?_, ?_⟩, ⟨I2.kept (t' := s2.toks) fun b o e => Heap.get?_push_of_some _ e, Heap.get?_push_of_some _ hf⟩, ?_⟩
  · intro b hb
    rw [z2]
    rcases List.mem_cons.mp hb with rfl | hb
    · exact Nat.lt_succ_self _
    · rw [List.mem_singleton.mp hb]; exact Nat.lt_succ_of_lt la
  · -- the table of the walk moves
    rintro s3 s4 ⟨I3, f3⟩ m
    rw [z2] at m
    obtain ⟨h4, g4, d4, t4, o4⟩ := s4
    obtain rfl : g4 = s3.gens := m.gens
    obtain rfl : d4 = s3.drawn := m.drawn
    obtain rfl : o4 = s3.os := m.os
    refine ⟨I3.turnedL (t' := t4) (ch := [s2.heap.objs.size + 1, s2.heap.objs.size]) (fun b o hb e => m.heap b o hb e) (fun b hb => ?_), m.heap f _ ?_ f3⟩
    · rcases List.mem_cons.mp hb with rfl | hb
      · exact fpS
      · rw [List.mem_singleton.mp hb]; exact fpI
    · simp only [List.mem_cons, List.not_mem_nil, or_false, not_or]
      exact ⟨Nat.ne_of_lt (Nat.lt_succ_of_lt lf), Nat.ne_of_lt lf⟩
  · rintro i v s3 s4 h m; exact h
  · -- the lambda is asked
    rintro i v s3 o3 Q' E' hi ⟨en, hen, rfl⟩ ⟨I3, f3⟩ ⟨st3, ho3⟩ hS q'
    rw [ndEs_size] at hi
    obtain ⟨y0, hy0⟩ : ∃ y, xs[i]? = some y := ⟨_, List.getElem?_eq_getElem hi⟩
    obtain ⟨en', h1, h2⟩ := ndEs_at (P := X.prog) (w := X.w) hy0
    rw [hen] at h1
    cases h1
    have rc : codeAny (model X.prog X.w) X.A.in1 (.call (.ref f) ⟨[en.key], []⟩) (CR CX0 X.stack X.prog X.w H2 s3 (fun z H3 => H3 = H2 ∧ Rp X.K H2 z (kd i)) E0) s3 :=
      lam_run (ps := [y]) (vs := [.ref y0.2.1]) S (hr.in1) I3.env0.in1 f3 hco (hbind _ _ _ _ _ _) (cells_of I3 caps) (.cons h2 .nil) rfl (fun hr' => hbody _ _ _ _ _ _ _ hr') (hk1 i y0 hy0)
    refine wpAny_call (codeAny_mono rc fun r s4 hq4 => ?_)
    cases r with
    | error e => exact (show False from hq4).elim
    | ok fl =>
      cases fl with
      | ret u =>
        obtain ⟨z, H3, os, bare, un, hok, rz, rfl, rp⟩ := hq4
        have I4 : Inv X pins σ H3 s4 := I3.call' (ch := []) os un hok bare (fun _ z => nomatch z)
        have kp : ∀ b ob, H3 b = none → b ∉ frs X.stack → s3.heap.get? b = some ob → s4.heap.get? b = some ob := fun b ob n nf e => un.keep b ob e n nf (by simp)
        have nst : ∀ b, s2.heap.objs.size ≤ b → b ∉ frs X.stack := fun b hb z => by
          rcases List.mem_cons.mp (I2.stkSub _ z) with e | e
          · have h1 := I2.lt
            rw [← e] at h1
            exact Nat.lt_irrefl _ (Nat.lt_of_lt_of_le h1 hb)
          · exact I2.nofs hb e
        have a4 : s4.heap.get? a = some oa := by
          obtain ⟨_, _, _, o', ho', hx', hd'⟩ := nd_is I4 hd2
          rw [ho']
          obtain ⟨c1, c2, c3, c4⟩ := o'
          obtain ⟨b1, b2, b3, b4⟩ := oa
          obtain ⟨x1, x2, x3⟩ := hx'
          obtain ⟨y1, y2, y3⟩ := hxa
          simp only at x1 x2 x3 y1 y2 y3 hd' hda
          subst x1 x2 x3 y1 y2 y3 hd' hda
          rfl
        have nI := fpI.1
        have nS := fpS.1
        exact q' _ _ ⟨I4, kp f _ hfn hfs f3⟩ ⟨st3.at fun o e => kp _ o nI (nst _ (Nat.le_refl _)) e, a4⟩ (by rw [z2] at hS ⊢; exact kp _ _ nS (nst _ (Nat.le_succ _)) hS) ⟨hi, z, rz, rp⟩ fun j k' h => h
      | next => exact False.elim hq4
      | brk => exact False.elim hq4
      | cont => exact False.elim hq4
  · rintro i j ki kj s3 Q' E' ⟨I3, _⟩ ⟨li, zi, ri, pi⟩ ⟨lj, zj, rj, pj⟩ q'
    have m0 : min (kd i).py.depth (kd j).py.depth ≤ (kd i).py.depth := Nat.min_le_left _ _
    have d0 := hk3 i li
    have un := hr.un
    exact PySem.W.rcLt_alike _ _ X.A.in1 s3 ki kj [] [] (reads_of I3 _ _ _ pi ri) (reads_of I3 _ _ _ pj rj) (hk2 i j li lj) (by cases kd i <;> simp [D.py]) (by simp only [Around.in1_units]; omega) _ _ _ _ q'
  · rintro v s3 ⟨en, hen, rfl⟩ ⟨I3, _⟩
    have li : argBest (fun i j => dLt (kd i) (kd j)) ((ndEs X.prog X.w xs).size - 1) < xs.length := by
      have h0 := (Array.getElem?_eq_some_iff.mp hen).1
      exact Nat.lt_of_lt_of_eq h0 ndEs_size
    generalize argBest (fun i j => dLt (kd i) (kd j)) ((ndEs X.prog X.w xs).size - 1) = m at hen li
    obtain ⟨y0, hy0⟩ : ∃ y, xs[m]? = some y := ⟨_, List.getElem?_eq_getElem li⟩
    obtain ⟨en', h1, h2⟩ := ndEs_at (P := X.prog) (w := X.w) hy0
    rw [hen] at h1
    cases h1
    exact ⟨.ref y0.2.1, H2, I3, h2, hq y0 (List.mem_of_getElem? hy0)⟩
end
end K56
set_option Elab.async false
set_option linter.all false
set_option maxRecDepth 100000
set_option maxHeartbeats 4000000
namespace K56
open PySem PySem.Spec PyProof.Rows L2
open Sem (wp)
/-! ### where no repr is under way: the promise of a def that asks for one -/
structure FnG (P : Program) (w : World) (K : PySem.W.Frag) (mg : Str → Option Value) (base : Heap) (k : Nat) (f : Addr) (fd : FuncData) (ps : List Str) (sp : Sp) : Prop where
  len : ∀ vs H Q E, sp vs H Q E → vs.length = ps.length
  run : ∀ (A : Around) (outer : List Env) (s : Shared) (H : Hp) (us : List Value) (vs : List V) (Q : VK) (E : XK), Room k A → A.guards = some [] → Env0 P w K mg base A outer s H → Vals vs us → sp vs H Q E → codeAny (model P w) A (.call (.ref f) ⟨us, []⟩) (CR CX0 outer P w H s Q E) s
structure ClG (P : Program) (w : World) (K : PySem.W.Frag) (mg : Str → Option Value) (base : Heap) (x : Str) (ps : List Str) (k : Nat) (sp : Sp) : Prop where
  ex : ∃ f fd, mg x = some (.ref f) ∧ FnG P w K mg base k f fd ps sp ∧ PySem.W.keepIn K (.ref f) = true
theorem ClG.of {P : Program} {w : World} {K : PySem.W.Frag} {mg : Str → Option Value} {base : Heap} {x : Str} {ps N : List Str} {k : Nat} {sp : Sp} {f : Addr} {fd : FuncData} {st : Stmt} (F : FunD K x x (defArgs st) (defBody st) (defScope st) [] [] f fd) (hm : mg x = some (.ref f)) (S : FnScope N ps (defScope st))
    (hb : ∀ (kV doc pm : Value) (an : Option Addr) (cdv ct : Value) (us : List Value), us.length = ps.length → bindArgs (PySem.W.fnOf x x (defArgs st) (defBody st) (defScope st) .none kV doc pm an cdv ct) ⟨us, []⟩ = pure (ps.zip us))
    (len : ∀ vs H Q E, sp vs H Q E → vs.length = ps.length)
    (hbody : ∀ (cdv : Value) (A : Around) (outer : List Env) (s : Shared) (H : Hp) (vs : List V) (Q : VK) (E : XK), Room k (A.deeper (envOfC x (defScope st) s.heap.objs.size f cdv)) → A.guards = some [] → sp vs H Q E →
      ∃ t, PSs (cxOf CX0 P w K mg base N x (defScope st) f cdv A outer s H E).nox (defBody st) t ∧ t { nx := fun _ H' => Q .non H', rt := Q } (start N vs) H) : ClG P w K mg base x ps (k + 1) sp := by
  refine ⟨f, fd, hm, ⟨len, fun A outer s H us vs Q E hr hg e0 r hsp => ?_⟩, F.kp⟩
  have hbn := F.bindsN hb
  obtain ⟨oc, od, dV, kV, doc, pm, an, cdv, ct, osl, rfl, lk, hcd, _, _⟩ := F.ex
  have hl := len _ _ _ _ hsp
  have KX : K.In s.heap := e0.mod.kin.keeps fun b o e => (e0.bs b o e).1
  refine LamX.run_ofS (N := N) (ps := ps) lk hcd S hr e0 (by
    have z := hbn s us KX (by rw [List.append_nil, ← r.length]; exact hl)
    rwa [List.append_nil] at z) r hl fun hr' => ?_
  obtain ⟨t, h1, h2⟩ := hbody cdv A outer s H vs Q E hr' hg hsp
  exact ⟨t, h1.nox, h2⟩
section
variable {X : Cx} {x : Str} {ps : List Str} {k : Nat} {sp : Sp} {p pos : Pos} {e : Expr} {es : List Expr} {t : TA}
/-- f(e, ..), no repr under way here -/
theorem pe_clG (C : ClG X.prog X.w X.K X.mg X.base x ps k sp) (hr : Room k X.A) (hgd : X.A.guards = some []) (hg : Gl X x) (ha : PA X (e :: es) t)
    (hd : (x == ("__debug__" : Str)) = false := by decide) (hst : starEach (e :: es) X.env = (false, eval e X.env) :: starEach es X.env := by rfl) (hpl : (backTo pos (starEach es X.env)).any (·.1) = false := by rfl) : PE X (.Call (.Name x p) (e :: es) [] pos) (tCall sp [] E0 t) := by
  obtain ⟨f, fd, hm, F, hk⟩ := C.ex
  refine ⟨fun pins s σ H Q I h => ?_⟩
  refine wpAny_Call_Name_kw (ld_glob I hg hm ?_ hd)
  refine PySem.W.callWith_K (h₀ := X.base) I.ok.mod.kin hk (thn (ha.run pos pins s σ H _ I h) fun us s1 ⟨vs, H1, I1, r, q⟩ => ⟨I1.kIn, ?_⟩) hst hpl
  have q : sp vs H1 Q E0 := by have z := q; dsimp only at z; rw [List.append_nil] at z; exact z
  refine wpAny_call (codeAny_mono (F.run X.A X.stack s1 H1 us vs Q E0 hr hgd I1.env0 r q) fun r s' hq => ?_)
  cases r with
  | error e => exact (show False from hq).elim
  | ok fl =>
    cases fl with
    | ret u => exact I1.after hq
    | next => exact False.elim hq
    | brk => exact False.elim hq
    | cont => exact False.elim hq
/-- repr of a list of data -/
def rReprL (K : PySem.W.Frag) : List V → Hp → VK → Prop := fun vs H Q => ∃ (a : Addr) (xs : List V) (ds : List D), vs = [.ref a] ∧ SqL K H a xs ∧ RpL K H xs ds ∧ PyData.depthAll (D.pys ds) ≤ 50 ∧ PyData.showable (.list (D.pys ds)) = true ∧ (PyData.shown (.list (D.pys ds))).length ≤ sizeLine ∧ Q (.str (PyData.shown (.list (D.pys ds)))) H
mutual
theorem nodict_py : ∀ d : D, PyData.hasDict d.py = false
  | .int _ => rfl
  | .tup l => by simp only [D.py, PyData.hasDict]; exact nodict_pys l
theorem nodict_pys : ∀ l : List D, PyData.hasDictAll (D.pys l) = false
  | [] => rfl
  | d :: l => by simp only [D.pys, PyData.hasDictAll, nodict_py d, nodict_pys l, Bool.or_self]
end
theorem cr_reprL (hgd : X.A.guards = some []) (hu : X.A.units + 64 < cLine) : CallR X (.builtin "repr") (rReprL X.K) := by
  intro pins s σ H vs us Q I r h
  obtain ⟨a, xs, ds, rfl, hl, rd, dp, sh, sz, q⟩ := h
  rw [Vals.ref1 r]
  obtain ⟨its, rv, ⟨o, n, ho, hc, _, hd⟩, _⟩ := I.list hl
  have rr : Reads s.heap (.ref a) (.list (D.pys ds)) [a] := .list ho hc hd (by simpa using readss_of I xs ds its rd rv)
  exact repr_of_reads' rr sh (fun z => by simp only [PyData.hasDict, nodict_pys] at z; cases z) hgd (by simp only [PyData.depth]; omega) (fun _ _ e => e) (fun h' u tk k => ⟨.str _, H, I.kept (t' := tk) k, ⟨u, rfl⟩, q⟩) sz
end
end K56
set_option Elab.async false
set_option linter.all false
set_option maxRecDepth 100000
set_option maxHeartbeats 4000000
namespace K56
open PySem PySem.Spec PyProof.Rows L2
/-! ### rows of numbers, and what is linear in them -/
abbrev Vec := Nat → Int
inductive Lin (n : Nat) : (Vec → Int) → Prop where
  | zero : Lin n fun _ => 0
  | at_ (k : Nat) (c : Int) (h : k < n) : Lin n fun v => c * v k
  | add {f g : Vec → Int} (a : Lin n f) (b : Lin n g) : Lin n fun v => f v + g v
theorem Lin.ext {n : Nat} {φ : Vec → Int} (h : Lin n φ) {v u : Vec} (e : ∀ k, k < n → v k = u k) : φ v = φ u := by
  induction h with
  | zero => rfl
  | at_ k c h => show c * v k = c * u k; rw [e k h]
  | add _ _ ih1 ih2 => show _ + _ = _ + _; rw [ih1, ih2]
theorem Lin.mix {n : Nat} {φ : Vec → Int} (h : Lin n φ) (v u : Vec) (a b : Int) : φ (fun k => v k * a - u k * b) = φ v * a - φ u * b := by
  induction h with
  | zero => simp
  | at_ k c h =>
    show c * (v k * a - u k * b) = c * v k * a - c * u k * b
    rw [Int.mul_sub, Int.mul_assoc, Int.mul_assoc]
  | @add f g _ _ ih1 ih2 =>
    show f _ + g _ = (f v + g v) * a - (f u + g u) * b
    rw [ih1, ih2, Int.add_mul, Int.add_mul]
    omega
theorem Lin.nil {n : Nat} {φ : Vec → Int} (h : Lin n φ) {v : Vec} (e : ∀ k, k < n → v k = 0) : φ v = 0 := by
  have q := h.ext (u := fun _ => 0) e
  rw [q]
  have m := h.mix (fun _ => 0) (fun _ => 0) 0 0
  simpa using m
theorem Lin.smul {n : Nat} {φ : Vec → Int} (h : Lin n φ) (c : Int) : Lin n fun v => c * φ v := by
  induction h with
  | zero => have e : (fun v : Vec => c * (0 : Int)) = fun _ => 0 := by funext v; exact Int.mul_zero c
            rw [e]; exact .zero
  | at_ k d h => have e : (fun v : Vec => c * (d * v k)) = fun v => (c * d) * v k := by funext v; rw [Int.mul_assoc]
                 rw [e]; exact .at_ k _ h
  | @add f g _ _ ih1 ih2 => have e : (fun v : Vec => c * (f v + g v)) = fun v => c * f v + c * g v := by funext v; rw [Int.mul_add]
                            rw [e]; exact .add ih1 ih2
/-! ### a row lessened by leads -/
abbrev Lead := Nat × Vec × Nat
def less1 (f : Vec) (x : Lead) : Vec := if f x.1 ≠ 0 then fun k => f k * x.2.1 x.1 - x.2.1 k * f x.1 else f
def lessF (f : Vec) (B : List Lead) : Vec := B.foldl less1 f
theorem lessF_lin {n : Nat} : ∀ (B : List Lead) (f : Vec), (∀ x ∈ B, x.2.1 x.1 ≠ 0) → ∃ c : Int, c ≠ 0 ∧ ∀ φ, Lin n φ → (∀ x ∈ B, φ x.2.1 = 0) → φ (lessF f B) = φ f * c
  | [], f, _ => ⟨1, by decide, fun φ _ _ => by simp [lessF]⟩
  | x :: B, f, h => by
    obtain ⟨c, hc, q⟩ := lessF_lin (n := n) B (less1 f x) fun y hy => h y (List.mem_cons_of_mem _ hy)
    by_cases e : f x.1 ≠ 0
    · refine ⟨x.2.1 x.1 * c, Int.mul_ne_zero (h x (List.mem_cons_self ..)) hc, fun φ l z => ?_⟩
      have q1 := q φ l fun y hy => z y (List.mem_cons_of_mem _ hy)
      have e1 : less1 f x = fun k => f k * x.2.1 x.1 - x.2.1 k * f x.1 := by unfold less1; rw [if_pos e]
      show φ (lessF (less1 f x) B) = _
      rw [q1, e1, l.mix, z x (List.mem_cons_self ..), Int.zero_mul, Int.sub_zero, Int.mul_assoc]
    · refine ⟨c, hc, fun φ l z => ?_⟩
      have q1 := q φ l fun y hy => z y (List.mem_cons_of_mem _ hy)
      have e1 : less1 f x = f := by unfold less1; rw [if_neg e]
      show φ (lessF (less1 f x) B) = _
      rw [q1, e1]
theorem less1_zero {f : Vec} {x : Lead} {p : Nat} (h1 : f p = 0) (h2 : x.2.1 p = 0) : less1 f x p = 0 := by
  unfold less1
  split
  · simp [h1, h2]
  · exact h1
theorem lessF_keep : ∀ (B : List Lead) (f : Vec) (p : Nat), f p = 0 → (∀ x ∈ B, x.2.1 p = 0) → lessF f B p = 0
  | [], _, _, h, _ => h
  | x :: B, f, p, h, z => lessF_keep B (less1 f x) p (less1_zero h (z x (List.mem_cons_self ..))) fun y hy => z y (List.mem_cons_of_mem _ hy)
/-- each lead is nought at the places of those before it -/
def Ech (B : List Lead) : Prop := B.Pairwise fun x y => y.2.1 x.1 = 0
theorem lessF_zero : ∀ (B : List Lead) (f : Vec), Ech B → ∀ x ∈ B, lessF f B x.1 = 0
  | [], _, _, x, h => by cases h
  | y :: B, f, e, x, h => by
    have e' := List.pairwise_cons.mp e
    show lessF (less1 f y) B x.1 = 0
    rcases List.mem_cons.mp h with rfl | h
    · refine lessF_keep B _ _ ?_ e'.1
      unfold less1
      split
      · show f x.1 * x.2.1 x.1 - x.2.1 x.1 * f x.1 = 0
        rw [Int.mul_comm]; omega
      · rename_i z
        exact Classical.byContradiction z
    · exact lessF_zero B (less1 f y) e'.2 x h
def Bd (f : Vec) (b : Nat) : Prop := ∀ k, (f k).natAbs < 2 ^ b
theorem Bd.mono {f : Vec} {a b : Nat} (h : Bd f a) (e : a ≤ b) : Bd f b := fun k => Nat.lt_of_lt_of_le (h k) (Nat.pow_le_pow_right (by decide) e)
theorem natAbs_mul_lt {x y : Int} {a b : Nat} (h1 : x.natAbs < 2 ^ a) (h2 : y.natAbs < 2 ^ b) : (x * y).natAbs < 2 ^ (a + b) := by
  rw [Int.natAbs_mul, Nat.pow_add]
  exact Nat.mul_lt_mul'' h1 h2
theorem natAbs_sub_lt {x y : Int} {a : Nat} (h1 : x.natAbs < 2 ^ a) (h2 : y.natAbs < 2 ^ a) : (x - y).natAbs < 2 ^ (a + 1) := by
  rw [Nat.pow_succ]
  omega
theorem less1_bd {f : Vec} {x : Lead} {b : Nat} (h1 : Bd f b) (h2 : Bd x.2.1 x.2.2) : Bd (less1 f x) (b + (x.2.2 + 1)) := by
  unfold less1
  split
  · intro k
    have p1 := natAbs_mul_lt (h1 k) (h2 x.1)
    have p2 := natAbs_mul_lt (h2 k) (h1 x.1)
    rw [Nat.add_comm x.2.2 b] at p2
    exact natAbs_sub_lt p1 p2
  · exact h1.mono (by omega)
def bitS (B : List Lead) : Nat := (B.map fun x => x.2.2 + 1).sum
theorem lessF_bd : ∀ (B : List Lead) (f : Vec) (b : Nat), Bd f b → (∀ x ∈ B, Bd x.2.1 x.2.2) → Bd (lessF f B) (b + bitS B)
  | [], _, _, h, _ => h
  | x :: B, f, b, h, z => by
    have q := lessF_bd B (less1 f x) _ (less1_bd h (z x (List.mem_cons_self ..))) fun y hy => z y (List.mem_cons_of_mem _ hy)
    show Bd (lessF (less1 f x) B) _
    refine q.mono ?_
    simp only [bitS, List.map_cons, List.sum_cons]
    omega
theorem lessF_take {B : List Lead} {i : Nat} {x : Lead} (h : B[i]? = some x) (f : Vec) : lessF f (B.take (i + 1)) = less1 (lessF f (B.take i)) x := by
  have e : B.take (i + 1) = B.take i ++ [x] := by rw [List.take_succ, h]; rfl
  rw [e]
  unfold lessF
  rw [List.foldl_append]
  rfl
theorem bitS_take (B : List Lead) (i : Nat) : bitS (B.take i) ≤ bitS B := by
  unfold bitS
  have e : B = B.take i ++ B.drop i := (List.take_append_drop i B).symm
  have e2 : (B.map fun x => x.2.2 + 1).sum = ((B.take i).map fun x => x.2.2 + 1).sum + ((B.drop i).map fun x => x.2.2 + 1).sum := by
    conv => lhs; rw [e]
    rw [List.map_append, List.sum_append]
  omega
theorem bitS_snoc (B : List Lead) (x : Lead) : bitS (B ++ [x]) = bitS B + (x.2.2 + 1) := by
  unfold bitS
  rw [List.map_append, List.sum_append]
  simp
end K56
set_option Elab.async false
set_option linter.all false
set_option maxRecDepth 100000
set_option maxHeartbeats 4000000
namespace K56
open PySem PySem.Spec PyProof.Rows L2
/-! ### the numbers of a program are linear in those of each part -/
theorem led_cons (e : En) (es : List En) (s : Nat) (vs : List (Nat → Nat)) (k : Nat) : led (e :: es) s vs k = (if e.sign = s ∧ e.kind = k then wayP vs e.parts else 0) + led es s vs k := by
  unfold led
  by_cases h : e.sign = s ∧ e.kind = k
  · obtain ⟨h1, h2⟩ := h
    simp [List.filter_cons, h1, h2]
  · rw [if_neg h]
    have : (e.sign == s && e.kind == k) = false := by
      rw [Bool.and_eq_false_iff]
      by_cases h1 : e.sign = s
      · exact .inr (by simpa using fun h2 => h ⟨h1, h2⟩)
      · exact .inl (by simpa using h1)
    simp [List.filter_cons, this]
/-- the rows of both tables, one after the other -/
def numV (o t : Tb) (p : Pg) : Vec := fun k => if k < o.many then (cnt o.ents p k : Nat) else (cnt t.ents p (k - o.many) : Nat)
theorem led_lin {n : Nat} (V : Pg → Vec) (mk : Pg → List (Nat → Nat)) (s k : Nat) : ∀ (es : List En), (∀ e ∈ es, e.sign = s → ∃ (c : Int) (j : Nat), j < n ∧ ∀ x, (wayP (mk x) e.parts : Int) = c * V x j) → ∃ ψ, Lin n ψ ∧ ∀ x, (led es s (mk x) k : Int) = ψ (V x)
  | [], _ => ⟨_, .zero, fun x => rfl⟩
  | e :: es, h => by
    obtain ⟨ψ, h1, h2⟩ := led_lin V mk s k es fun y hy => h y (List.mem_cons_of_mem _ hy)
    by_cases c : e.sign = s ∧ e.kind = k
    · obtain ⟨d, j, hj, q⟩ := h e (List.mem_cons_self ..) c.1
      refine ⟨_, .add (.at_ j d hj) h1, fun x => ?_⟩
      rw [led_cons, if_pos c]
      show ((_ + _ : Nat) : Int) = _
      rw [Int.natCast_add, q, h2]
    · refine ⟨ψ, h1, fun x => ?_⟩
      rw [led_cons, if_neg c, Nat.zero_add]
      exact h2 x
theorem lin_of {n : Nat} {V W : Pg → Vec} (h : ∀ k, k < n → ∃ ψ, Lin n ψ ∧ ∀ x, W x k = ψ (V x)) {φ : Vec → Int} (l : Lin n φ) : ∃ ψ, Lin n ψ ∧ ∀ x, φ (W x) = ψ (V x) := by
  induction l with
  | zero => exact ⟨_, .zero, fun x => rfl⟩
  | at_ k c hk =>
    obtain ⟨ψ, h1, h2⟩ := h k hk
    exact ⟨_, h1.smul c, fun x => by show c * _ = c * _; rw [h2]⟩
  | add _ _ ih1 ih2 =>
    obtain ⟨ψ1, a1, b1⟩ := ih1
    obtain ⟨ψ2, a2, b2⟩ := ih2
    exact ⟨_, .add a1 a2, fun x => by show _ + _ = _ + _; rw [b1, b2]⟩
section
variable {o t : Tb} (ho : o.ok) (ht : t.ok) (hs : t.signs = o.signs)
include ho ht hs
theorem num_at (p : Pg) {k : Nat} (h : k < o.many) : numV o t p k = (cnt o.ents p k : Nat) := by unfold numV; rw [if_pos h]
theorem num_at2 (p : Pg) (k : Nat) : numV o t p (o.many + k) = (cnt t.ents p k : Nat) := by
  unfold numV
  rw [if_neg (by omega)]
  congr 2
  omega
/-- a program with a hole for one part -/
theorem num_mk (mk : Pg → Pg) (s a : Nat) (hsg : o.signs[s]? = some a) (vs : List En → Pg → List (Nat → Nat)) (hm : ∀ es x, cnt es (mk x) = led es s (vs es x))
    (hw : ∀ (E : List En) (ks : List Nat), ks.length = a → ∃ (c : Int) (k : Nat), k ∈ ks ∧ ∀ x, (wayP (vs E x) ks : Int) = c * (cnt E x k : Nat)) {φ : Vec → Int} (l : Lin (o.many + t.many) φ) : ∃ ψ, Lin (o.many + t.many) ψ ∧ ∀ x, φ (numV o t (mk x)) = ψ (numV o t x) := by
  refine lin_of (V := numV o t) (W := fun x => numV o t (mk x)) (fun k hk => ?_) l
  by_cases c : k < o.many
  · obtain ⟨ψ, h1, h2⟩ := led_lin (n := o.many + t.many) (numV o t) (vs o.ents) s k o.ents fun e he hse => by
      have ok := ho.en e he
      have ar : e.parts.length = a := by
        have q := ok.ar
        rw [hse, hsg] at q
        exact (Option.some.inj q).symm
      obtain ⟨d, j, hj, q⟩ := hw o.ents e.parts ar
      have hjm := ok.ps j hj
      exact ⟨d, j, by omega, fun x => by rw [q, num_at ho ht hs x hjm]⟩
    refine ⟨ψ, h1, fun x => ?_⟩
    rw [num_at ho ht hs _ c, hm]
    exact h2 x
  · obtain ⟨ψ, h1, h2⟩ := led_lin (n := o.many + t.many) (numV o t) (vs t.ents) s (k - o.many) t.ents fun e he hse => by
      have ok := ht.en e he
      have ar : e.parts.length = a := by
        have q := ok.ar
        rw [hse, hs, hsg] at q
        exact (Option.some.inj q).symm
      obtain ⟨d, j, hj, q⟩ := hw t.ents e.parts ar
      have hjm := ok.ps j hj
      exact ⟨d, o.many + j, by omega, fun x => by rw [q, num_at2 ho ht hs x j]⟩
    refine ⟨ψ, h1, fun x => ?_⟩
    have e : numV o t (mk x) k = (cnt t.ents (mk x) (k - o.many) : Nat) := by unfold numV; rw [if_neg c]
    rw [e, hm]
    exact h2 x
theorem num_n1 {s : Nat} (hsg : o.signs[s]? = some 1) {φ : Vec → Int} (l : Lin (o.many + t.many) φ) : ∃ ψ, Lin (o.many + t.many) ψ ∧ ∀ x, φ (numV o t (.n1 s x)) = ψ (numV o t x) :=
  num_mk ho ht hs (fun x => .n1 s x) s 1 hsg (fun E x => [cnt E x]) (fun _ _ => rfl) (fun E ks hl => by
    match ks, hl with
    | [k], _ => exact ⟨1, k, by simp, fun x => by simp [wayP]⟩) l
theorem num_n2a {s : Nat} (hsg : o.signs[s]? = some 2) (b : Pg) {φ : Vec → Int} (l : Lin (o.many + t.many) φ) : ∃ ψ, Lin (o.many + t.many) ψ ∧ ∀ x, φ (numV o t (.n2 s x b)) = ψ (numV o t x) :=
  num_mk ho ht hs (fun x => .n2 s x b) s 2 hsg (fun E x => [cnt E x, cnt E b]) (fun _ _ => rfl) (fun E ks hl => by
    match ks, hl with
    | [k, j], _ => exact ⟨(cnt E b j : Nat), k, by simp, fun x => by simp [wayP, Int.mul_comm]⟩) l
theorem num_n2b {s : Nat} (hsg : o.signs[s]? = some 2) (a : Pg) {φ : Vec → Int} (l : Lin (o.many + t.many) φ) : ∃ ψ, Lin (o.many + t.many) ψ ∧ ∀ x, φ (numV o t (.n2 s a x)) = ψ (numV o t x) :=
  num_mk ho ht hs (fun x => .n2 s a x) s 2 hsg (fun E x => [cnt E a, cnt E x]) (fun _ _ => rfl) (fun E ks hl => by
    match ks, hl with
    | [k, j], _ => exact ⟨(cnt E a k : Nat), j, by simp, fun x => by simp [wayP]⟩) l
/-- what is nought at the programs that were found is nought at all -/
theorem span_all (ps : List Pg) (hok : ∀ p ∈ ps, p.ok o.signs)
    (h0 : ∀ s φ, Lin (o.many + t.many) φ → (∀ p ∈ ps, φ (numV o t p) = 0) → o.signs[s]? = some 0 → φ (numV o t (.n0 s)) = 0)
    (h1 : ∀ s φ, Lin (o.many + t.many) φ → (∀ p ∈ ps, φ (numV o t p) = 0) → o.signs[s]? = some 1 → ∀ a ∈ ps, φ (numV o t (.n1 s a)) = 0)
    (h2 : ∀ s φ, Lin (o.many + t.many) φ → (∀ p ∈ ps, φ (numV o t p) = 0) → o.signs[s]? = some 2 → ∀ a ∈ ps, ∀ b ∈ ps, φ (numV o t (.n2 s a b)) = 0) :
    ∀ p : Pg, p.ok o.signs → ∀ φ, Lin (o.many + t.many) φ → (∀ q ∈ ps, φ (numV o t q) = 0) → φ (numV o t p) = 0
  | .n0 s, ok, φ, l, z => h0 s φ l z ok
  | .n1 s p, ok, φ, l, z => by
    obtain ⟨ψ, a, b⟩ := num_n1 ho ht hs ok.1 l
    rw [b]
    exact span_all ps hok h0 h1 h2 p ok.2 ψ a fun q hq => by rw [← b]; exact h1 s φ l z ok.1 q hq
  | .n2 s p r, ok, φ, l, z => by
    obtain ⟨ψ, a, b⟩ := num_n2a ho ht hs ok.1 r l
    rw [b]
    refine span_all ps hok h0 h1 h2 p ok.2.1 ψ a fun q hq => ?_
    rw [← b]
    obtain ⟨χ, a', b'⟩ := num_n2b ho ht hs ok.1 q l
    rw [b']
    refine span_all ps hok h0 h1 h2 r ok.2.2 χ a' fun q' hq' => ?_
    rw [← b']
    exact h2 s φ l z ok.1 q hq q' hq'
end
theorem choices_1 {α : Type} {xs : List α} {x : α} (h : x ∈ xs) : [x] ∈ choicesL xs 1 := by
  simp only [choicesL, List.mem_flatMap, List.mem_map]
  exact ⟨[], by simp, x, h, rfl⟩
theorem choices_2 {α : Type} {xs : List α} {x y : α} (h : x ∈ xs) (h2 : y ∈ xs) : [x, y] ∈ choicesL xs 2 := by
  show _ ∈ (choicesL xs 1).flatMap fun r => xs.map fun x => r ++ [x]
  rw [List.mem_flatMap]
  exact ⟨[x], choices_1 h, List.mem_map.mpr ⟨y, h2, rfl⟩⟩
theorem overs_mem {signs : List Nat} {ps : List Pg} {s a : Nat} {r : List Pg} (h : signs[s]? = some a) (hr : r ∈ choicesL ps a) : mkP s r ∈ oversL signs ps := by
  unfold oversL
  rw [List.mem_flatMap]
  refine ⟨s, List.mem_range.mpr (List.getElem?_eq_some_iff.mp h).1, List.mem_map.mpr ⟨r, ?_, rfl⟩⟩
  have e : signs.getD s 0 = a := by simp [List.getD_eq_getElem?_getD, h]
  rw [e]
  exact hr
/-- over programs that are ok: ok, and no greater than that -/
theorem overs_ok {signs : List Nat} {ps : List Pg} (h2 : ∀ s ∈ signs, s ≤ 2) (hok : ∀ p ∈ ps, p.ok signs) {z h : Nat} (hz : ∀ p ∈ ps, p.size ≤ z ∧ p.height ≤ h) {q : Pg} (hq : q ∈ oversL signs ps) : q.ok signs ∧ q.size ≤ 2 * z + 1 ∧ q.height ≤ h + 1 := by
  unfold oversL at hq
  rw [List.mem_flatMap] at hq
  obtain ⟨s, hs, hq⟩ := hq
  obtain ⟨r, hr, rfl⟩ := List.mem_map.mp hq
  have hs := List.mem_range.mp hs
  have e : signs[s]? = some (signs.getD s 0) := by simp [List.getD_eq_getElem?_getD, hs]
  have hm : signs.getD s 0 ≤ 2 := h2 _ (List.mem_of_getElem? e)
  generalize signs.getD s 0 = a at *
  obtain ⟨l, m⟩ := choices_row a r hr
  match r, l, hm with
  | [], l, _ => cases l; exact ⟨e, by simp only [mkP, Pg.size]; omega, by simp only [mkP, Pg.height]; omega⟩
  | [p], l, _ =>
    cases l
    have q := hz p (m p (by simp))
    exact ⟨⟨e, hok p (m p (by simp))⟩, by simp only [mkP, Pg.size]; omega, by simp only [mkP, Pg.height]; omega⟩
  | [p, p'], l, _ =>
    cases l
    have q := hz p (m p (by simp))
    have q' := hz p' (m p' (by simp))
    exact ⟨⟨e, hok p (m p (by simp)), hok p' (m p' (by simp))⟩, by simp only [mkP, Pg.size]; omega, by simp only [mkP, Pg.height]; omega⟩
  | p :: p' :: p'' :: r, l, hm => simp only [List.length_cons] at l; omega
theorem num_bd {o t : Tb} (ho : o.ok) (ht : t.ok) (p : Pg) : Bd (numV o t p) (5 * p.size) := fun k => by
  unfold numV
  split
  · rw [Int.natAbs_natCast]; exact cnt_lt ho.e31 p k
  · rw [Int.natAbs_natCast]; exact cnt_lt ht.e31 p _
/-- as the list that numbers_of gives -/
theorem numV_list (o t : Tb) (p : Pg) : (cntL o p ++ cntL t p).map (fun (n : Nat) => V.int (n : Int)) = (List.range (o.many + t.many)).map fun k => V.int (numV o t p k) := by
  refine List.ext_getElem (by simp [cntL_length]) fun i h1 h2 => ?_
  simp only [List.length_map, List.length_append, cntL_length] at h1
  rw [List.getElem_map, List.getElem_map, List.getElem_range]
  unfold numV
  by_cases c : i < o.many
  · rw [if_pos c, List.getElem_append_left (by rw [cntL_length]; exact c)]
    simp [cntL]
  · rw [if_neg c, List.getElem_append_right (by rw [cntL_length]; omega)]
    simp [cntL]
end K56
set_option Elab.async false
set_option linter.all false
set_option maxRecDepth 100000
set_option maxHeartbeats 4000000
namespace K56
open PySem PySem.Spec PyProof.Rows L2
/-! ### what the search for a basis keeps -/
theorem nodup_lt : ∀ (n : Nat) (l : List Nat), l.Nodup → (∀ x ∈ l, x < n) → l.length ≤ n
  | 0, l, _, h => by
    match l, h with
    | [], _ => exact Nat.le_refl _
    | x :: l, h => exact absurd (h x (List.mem_cons_self ..)) (Nat.not_lt_zero _)
  | n + 1, l, d, h => by
    by_cases c : n ∈ l
    · have q := nodup_lt n (l.erase n) (d.erase n) fun x hx => by
        have h1 := (d.mem_erase_iff).mp hx
        have h2 := h x h1.2
        have h3 := h1.1
        omega
      rw [List.length_erase_of_mem c] at q
      omega
    · have q := nodup_lt n l d fun x hx => by
        have h2 := h x hx
        have h3 : x ≠ n := fun e => c (e ▸ hx)
        omega
      omega
def Sb : Nat → Nat
  | 0 => 0
  | j + 1 => 2 * Sb j + 5 * 2 ^ (j + 1) + 1
theorem Sb_mono {i j : Nat} (h : i ≤ j) : Sb i ≤ Sb j := by
  induction h with
  | refl => exact Nat.le_refl _
  | step _ ih => simp only [Sb]; omega
theorem Sb8 : Sb 8 ≤ 20000 := by decide
structure BI (o t : Tb) (ps : List Pg) (B : List Lead) : Prop where
  len : B.length = ps.length
  ok : ∀ (i : Nat) (p : Pg), ps[i]? = some p → p.ok o.signs ∧ p.size + 1 ≤ 2 ^ (i + 1) ∧ p.height ≤ i + 1
  ech : Ech B
  nz : ∀ x ∈ B, x.2.1 x.1 ≠ 0
  bd : ∀ x ∈ B, Bd x.2.1 x.2.2
  nd : (B.map (·.1)).Nodup
  lt : ∀ x ∈ B, x.1 < o.many + t.many
  bits : bitS B ≤ Sb B.length
  spn : ∀ φ, Lin (o.many + t.many) φ → (∀ p ∈ ps, φ (numV o t p) = 0) → ∀ x ∈ B, φ x.2.1 = 0
section
variable {o t : Tb} {ps : List Pg} {B : List Lead}
theorem BI.nil : BI o t [] [] where
  len := rfl
  ok := fun i p h => by simp at h
  ech := List.Pairwise.nil
  nz := fun x h => by cases h
  bd := fun x h => by cases h
  nd := List.nodup_nil
  lt := fun x h => by cases h
  bits := Nat.le_refl _
  spn := fun φ _ _ x h => by cases h
theorem BI.few (h : BI o t ps B) : B.length ≤ o.many + t.many := by
  have q := nodup_lt (o.many + t.many) (B.map (·.1)) h.nd fun x hx => by
    obtain ⟨y, hy, rfl⟩ := List.mem_map.mp hx
    exact h.lt y hy
  rwa [List.length_map] at q
theorem BI.all (h : BI o t ps B) : ∀ p ∈ ps, p.ok o.signs ∧ p.size + 1 ≤ 2 ^ ps.length ∧ p.height ≤ ps.length := fun p hp => by
  obtain ⟨i, hi, e⟩ := List.getElem_of_mem hp
  obtain ⟨h1, h2, h3⟩ := h.ok i p (by rw [List.getElem?_eq_getElem hi, e])
  refine ⟨h1, Nat.le_trans h2 (Nat.pow_le_pow_right (by decide) hi), by omega⟩
theorem BI.step (h : BI o t ps B) (ho : o.ok) (ht : t.ok) {q : Pg} {p : Nat} (hq : q.ok o.signs) (hz : q.size + 1 ≤ 2 ^ (ps.length + 1)) (hh : q.height ≤ ps.length + 1) (hp : p < o.many + t.many) (hne : lessF (numV o t q) B p ≠ 0) :
    BI o t (ps ++ [q]) (B ++ [(p, lessF (numV o t q) B, 5 * q.size + bitS B)]) := by
  have hL := h.len
  refine ⟨by simp [hL], fun i r hr => ?_, ?_, ?_, ?_, ?_, ?_, ?_, ?_⟩
  · by_cases c : i < ps.length
    · rw [List.getElem?_append_left c] at hr
      exact h.ok i r hr
    · have e : i = ps.length := by
        have z := (List.getElem?_eq_some_iff.mp hr).1
        rw [List.length_append, List.length_singleton] at z
        omega
      subst e
      rw [List.getElem?_append_right (Nat.le_refl _), Nat.sub_self] at hr
      cases hr
      exact ⟨hq, hz, hh⟩
  · refine List.pairwise_append.mpr ⟨h.ech, List.pairwise_singleton .., fun x hx y hy => ?_⟩
    rw [List.mem_singleton.mp hy]
    exact lessF_zero B _ h.ech x hx
  · intro x hx
    rcases List.mem_append.mp hx with hx | hx
    · exact h.nz x hx
    · rw [List.mem_singleton.mp hx]; exact hne
  · intro x hx
    rcases List.mem_append.mp hx with hx | hx
    · exact h.bd x hx
    · rw [List.mem_singleton.mp hx]; exact lessF_bd B _ _ (num_bd ho ht q) h.bd
  · rw [List.map_append]
    refine List.nodup_append.mpr ⟨h.nd, by simp, fun a ha b hb e => ?_⟩
    obtain ⟨x, hx, rfl⟩ := List.mem_map.mp ha
    have e2 : b = p := by simpa using hb
    rw [e2] at e
    exact hne (e ▸ lessF_zero B (numV o t q) h.ech x hx)
  · intro x hx
    rcases List.mem_append.mp hx with hx | hx
    · exact h.lt x hx
    · rw [List.mem_singleton.mp hx]; exact hp
  · rw [bitS_snoc, List.length_append, List.length_singleton]
    have b := h.bits
    simp only [Sb]
    rw [hL] at b ⊢
    omega
  · intro φ l z x hx
    have zp : ∀ r ∈ ps, φ (numV o t r) = 0 := fun r hr => z r (List.mem_append_left _ hr)
    have zB := h.spn φ l zp
    rcases List.mem_append.mp hx with hx | hx
    · exact zB x hx
    · rw [List.mem_singleton.mp hx]
      obtain ⟨c, _, q1⟩ := lessF_lin (n := o.many + t.many) B (numV o t q) h.nz
      show φ (lessF (numV o t q) B) = 0
      rw [q1 φ l zB, z q (by simp), Int.zero_mul]
/-- nothing more is found: the programs say all -/
theorem BI.done (h : BI o t ps B) (ho : o.ok) (ht : t.ok) (hs : t.signs = o.signs) (hcl : ∀ q ∈ oversL o.signs ps, ∀ k, k < o.many + t.many → lessF (numV o t q) B k = 0) :
    ∀ p : Pg, p.ok o.signs → ∀ φ, Lin (o.many + t.many) φ → (∀ q ∈ ps, φ (numV o t q) = 0) → φ (numV o t p) = 0 := by
  have key : ∀ q ∈ oversL o.signs ps, ∀ φ, Lin (o.many + t.many) φ → (∀ p ∈ ps, φ (numV o t p) = 0) → φ (numV o t q) = 0 := fun q hq φ l z => by
    obtain ⟨c, hc, q1⟩ := lessF_lin (n := o.many + t.many) B (numV o t q) h.nz
    have e := q1 φ l (h.spn φ l z)
    rw [l.nil (hcl q hq)] at e
    rcases Int.mul_eq_zero.mp e.symm with e | e
    · exact e
    · exact absurd e hc
  refine span_all ho ht hs ps (fun p hp => (h.all p hp).1) (fun s φ l z hsg => ?_) (fun s φ l z hsg a ha => ?_) (fun s φ l z hsg a ha b hb => ?_)
  · exact key (.n0 s) (overs_mem (r := []) hsg (by simp [choicesL])) φ l z
  · exact key (.n1 s a) (overs_mem (r := [a]) hsg (choices_1 ha)) φ l z
  · exact key (.n2 s a b) (overs_mem (r := [a, b]) hsg (choices_2 ha hb)) φ l z
end
end K56
set_option Elab.async false
set_option linter.all false
set_option maxRecDepth 100000
set_option maxHeartbeats 4000000
namespace K56
open PySem PySem.Spec PyProof.Rows L2
/-! ### what can be made -/
inductive Made (es : List En) : Nat → Prop where
  | by_ (e : En) (h : e ∈ es) (hp : ∀ k ∈ e.parts, Made es k) : Made es e.kind
/-- what is found so far: a program for each kind -/
abbrev Fnd := Nat → Option Pg
def putF' (b : Fnd) (k : Nat) (p : Pg) : Fnd := fun j => if j = k then some p else b j
def cntB (b : Fnd) (m : Nat) : Nat := ((List.range m).map fun k => if (b k).isSome then 1 else 0).sum
theorem sum_le {f g : Nat → Nat} : ∀ (l : List Nat), (∀ k ∈ l, f k ≤ g k) → (l.map f).sum ≤ (l.map g).sum
  | [], _ => Nat.le_refl _
  | x :: l, h => by
    rw [List.map_cons, List.sum_cons, List.map_cons, List.sum_cons]
    exact Nat.add_le_add (h x (List.mem_cons_self ..)) (sum_le l fun k hk => h k (List.mem_cons_of_mem _ hk))
theorem sum_lt {f g : Nat → Nat} : ∀ (l : List Nat), (∀ k ∈ l, f k ≤ g k) → (∃ k ∈ l, f k < g k) → (l.map f).sum < (l.map g).sum
  | [], _, h => by obtain ⟨k, hk, _⟩ := h; cases hk
  | x :: l, h, ⟨k, hk, hl⟩ => by
    rw [List.map_cons, List.sum_cons, List.map_cons, List.sum_cons]
    have h1 := h x (List.mem_cons_self ..)
    have h2 := sum_le l fun k hk => h k (List.mem_cons_of_mem _ hk)
    rcases List.mem_cons.mp hk with rfl | hk
    · omega
    · have h3 := sum_lt l (fun k hk => h k (List.mem_cons_of_mem _ hk)) ⟨k, hk, hl⟩
      omega
theorem sum_one (m : Nat) : ((List.range m).map fun _ => 1).sum = m := by
  induction m with
  | zero => rfl
  | succ m ih => rw [List.range_succ, List.map_append, List.sum_append, ih]; rfl
theorem cntB_le (b : Fnd) (m : Nat) : cntB b m ≤ m := by
  unfold cntB
  have q := sum_le (f := fun k => if (b k).isSome then 1 else 0) (g := fun _ => 1) (List.range m) fun k _ => by
    show (if (b k).isSome = true then 1 else 0) ≤ 1
    split <;> omega
  rw [sum_one m] at q
  exact q
theorem cntB_new {b : Fnd} {m k : Nat} (hk : k < m) (h : b k = none) (p : Pg) : cntB b m + 1 ≤ cntB (putF' b k p) m := by
  unfold cntB
  refine sum_lt _ (fun j _ => ?_) ⟨k, List.mem_range.mpr hk, ?_⟩
  · unfold putF'
    by_cases e : j = k
    · rw [if_pos e]
      split <;> simp
    · rw [if_neg e]
      exact Nat.le_refl _
  · simp [putF', h]
theorem cntB_old (b : Fnd) (m k : Nat) (p : Pg) : cntB b m ≤ cntB (putF' b k p) m := by
  unfold cntB
  refine sum_le _ fun j _ => ?_
  unfold putF'
  by_cases e : j = k
  · rw [if_pos e]
    split <;> simp
  · rw [if_neg e]
    exact Nat.le_refl _
structure LI (t : Tb) (b : Fnd) : Prop where
  ok : ∀ k p, b k = some p → k < t.many ∧ p.ok t.signs ∧ Made t.ents k ∧ p.size + 1 ≤ 2 ^ cntB b t.many
theorem LI.nil (t : Tb) : LI t fun _ => none := ⟨fun k p h => by cases h⟩
theorem LI.size {t : Tb} {b : Fnd} (h : LI t b) (tok : t.ok) {k : Nat} {p : Pg} (e : b k = some p) : p.size ≤ 15 := by
  obtain ⟨_, _, _, z⟩ := h.ok k p e
  have h1 := cntB_le b t.many
  have h2 := tok.m4
  have h3 : 2 ^ cntB b t.many ≤ 2 ^ 4 := Nat.pow_le_pow_right (by decide) (by omega)
  omega
/-- an entry all parts of which are found -/
theorem LI.put {t : Tb} {b : Fnd} (h : LI t b) (tok : t.ok) {e : En} (he : e ∈ t.ents) {qs : List Pg} (hl : qs.length = e.parts.length) (hq : ∀ (j k : Nat) (q : Pg), e.parts[j]? = some k → qs[j]? = some q → b k = some q) (hlt : ∀ p, b e.kind = some p → (mkP e.sign qs).size ≤ p.size) :
    (mkP e.sign qs).ok t.signs ∧ LI t (putF' b e.kind (mkP e.sign qs)) := by
  have eok := tok.en e he
  have pl : e.parts.length ≤ 2 := tok.sg _ (List.mem_of_getElem? eok.ar)
  have all : ∀ q ∈ qs, ∃ k ∈ e.parts, b k = some q := fun q hm => by
    obtain ⟨j, hj, e1⟩ := List.getElem_of_mem hm
    have hj' : j < e.parts.length := by omega
    exact ⟨e.parts[j], List.getElem_mem hj', hq j _ q (List.getElem?_eq_getElem hj') (by rw [List.getElem?_eq_getElem hj, e1])⟩
  have okq : ∀ q ∈ qs, q.ok t.signs ∧ q.size + 1 ≤ 2 ^ cntB b t.many := fun q hm => by
    obtain ⟨k, _, e1⟩ := all q hm
    obtain ⟨_, h2, _, h4⟩ := h.ok k q e1
    exact ⟨h2, h4⟩
  have ar := eok.ar
  rw [← hl] at ar
  have hp : (mkP e.sign qs).ok t.signs ∧ (mkP e.sign qs).size + 1 ≤ 2 ^ (cntB b t.many + 1) := by
    have p1 : 1 ≤ 2 ^ cntB b t.many := Nat.one_le_two_pow
    rw [Nat.pow_succ]
    match qs, ar, okq, (show qs.length ≤ 2 by omega) with
    | [], ar, okq, _ => exact ⟨ar, by simp only [mkP, Pg.size]; omega⟩
    | [p], ar, okq, _ =>
      have h1 := okq p (by simp)
      exact ⟨⟨ar, h1.1⟩, by simp only [mkP, Pg.size]; omega⟩
    | [p, q], ar, okq, _ =>
      have h1 := okq p (by simp)
      have h2 := okq q (by simp)
      exact ⟨⟨ar, h1.1, h2.1⟩, by simp only [mkP, Pg.size]; omega⟩
    | p :: q :: r :: qs, _, _, hl => simp only [List.length_cons] at hl; omega
  refine ⟨hp.1, ⟨fun k p hk => ?_⟩⟩
  unfold putF' at hk
  have co := cntB_old b t.many e.kind (mkP e.sign qs)
  by_cases c : k = e.kind
  · rw [if_pos c] at hk
    cases hk
    subst c
    refine ⟨eok.kd, hp.1, .by_ e he fun k hk => ?_, ?_⟩
    · obtain ⟨j, hj, e1⟩ := List.getElem_of_mem hk
      have hj' : j < qs.length := by omega
      obtain ⟨_, _, h3, _⟩ := h.ok k _ (hq j k _ (by rw [List.getElem?_eq_getElem hj, e1]) (List.getElem?_eq_getElem hj'))
      exact h3
    · cases hb : b e.kind with
      | none =>
        have cn := cntB_new eok.kd hb (mkP e.sign qs)
        exact Nat.le_trans hp.2 (Nat.pow_le_pow_right (by decide) cn)
      | some p =>
        obtain ⟨_, _, _, h4⟩ := h.ok _ p hb
        have h5 := hlt p hb
        have h6 : 2 ^ cntB b t.many ≤ 2 ^ cntB (putF' b e.kind (mkP e.sign qs)) t.many := Nat.pow_le_pow_right (by decide) co
        omega
  · rw [if_neg c] at hk
    obtain ⟨h1, h2, h3, h4⟩ := h.ok k p hk
    have h6 : 2 ^ cntB b t.many ≤ 2 ^ cntB (putF' b e.kind (mkP e.sign qs)) t.many := Nat.pow_le_pow_right (by decide) co
    exact ⟨h1, h2, h3, by omega⟩
/-- closed: all that can be made is found -/
theorem LI.done {t : Tb} {b : Fnd} (h : LI t b) (cl : ∀ e ∈ t.ents, (∀ k ∈ e.parts, (b k).isSome = true) → (b e.kind).isSome = true) (k : Nat) : (b k).isSome = true ↔ Made t.ents k := by
  constructor
  · intro z
    obtain ⟨p, hp⟩ := Option.isSome_iff_exists.mp z
    exact (h.ok k p hp).2.2.1
  · intro m
    induction m with
    | by_ e he _ ih => exact cl e he ih
def mu (r : Pg → Nat) (N : Nat) (b : Fnd) (m : Nat) : Nat := ((List.range m).map fun k => match b k with | none => N + 1 | some p => r p).sum
theorem mu_lt {r : Pg → Nat} {N m k : Nat} {b : Fnd} {p : Pg} (hk : k < m) (hp : r p ≤ N) (h : ∀ q, b k = some q → r p < r q) : mu r N (putF' b k p) m < mu r N b m := by
  have key : ∀ j, (match putF' b k p j with | none => N + 1 | some p => r p) ≤ (match b j with | none => N + 1 | some p => r p) ∧ (j = k → (match putF' b k p j with | none => N + 1 | some p => r p) < (match b j with | none => N + 1 | some p => r p)) := fun j => by
    by_cases e : j = k
    · have e1 : putF' b k p j = some p := by unfold putF'; rw [if_pos e]
      rw [e1, e]
      cases hb : b k with
      | none => exact ⟨by show r p ≤ N + 1; omega, fun _ => by show r p < N + 1; omega⟩
      | some q => have := h q hb; exact ⟨by show r p ≤ r q; omega, fun _ => this⟩
    · have e1 : putF' b k p j = b j := by unfold putF'; rw [if_neg e]
      rw [e1]
      exact ⟨Nat.le_refl _, fun z => absurd z e⟩
  unfold mu
  exact sum_lt _ (fun j _ => (key j).1) ⟨k, List.mem_range.mpr hk, (key k).2 rfl⟩
/-! ### programs as what is compared -/
theorem Pg.alike : ∀ p q : Pg, PySem.W.alike p.d.py q.d.py = true
  | .n0 _, .n0 _ => by simp [Pg.d, D.py, D.pys, PySem.W.alike, PySem.W.alikeAll]
  | .n0 _, .n1 _ _ => by simp [Pg.d, D.py, D.pys, PySem.W.alike, PySem.W.alikeAll]
  | .n0 _, .n2 _ _ _ => by simp [Pg.d, D.py, D.pys, PySem.W.alike, PySem.W.alikeAll]
  | .n1 _ _, .n0 _ => by simp [Pg.d, D.py, D.pys, PySem.W.alike, PySem.W.alikeAll]
  | .n1 _ p, .n1 _ q => by simp [Pg.d, D.py, D.pys, PySem.W.alike, PySem.W.alikeAll, Pg.alike p q]
  | .n1 _ p, .n2 _ q _ => by simp [Pg.d, D.py, D.pys, PySem.W.alike, PySem.W.alikeAll, Pg.alike p q]
  | .n2 _ _ _, .n0 _ => by simp [Pg.d, D.py, D.pys, PySem.W.alike, PySem.W.alikeAll]
  | .n2 _ p _, .n1 _ q => by simp [Pg.d, D.py, D.pys, PySem.W.alike, PySem.W.alikeAll, Pg.alike p q]
  | .n2 _ p p', .n2 _ q q' => by simp [Pg.d, D.py, D.pys, PySem.W.alike, PySem.W.alikeAll, Pg.alike p q, Pg.alike p' q']
theorem Pg.dep : ∀ p : Pg, p.d.py.depth ≤ p.height + 1
  | .n0 _ => by simp [Pg.d, D.py, D.pys, PyData.depth, PyData.depthAll, Pg.height]
  | .n1 _ p => by
    have q := p.dep
    simp only [Pg.d, D.py, D.pys, PyData.depth, PyData.depthAll, Pg.height]
    omega
  | .n2 _ p r => by
    have q := p.dep
    have q' := r.dep
    simp only [Pg.d, D.py, D.pys, PyData.depth, PyData.depthAll, Pg.height]
    omega
/-- a program with its size -/
def pairD (p : Pg) : D := .tup [.int (p.size : Int), p.d]
theorem pair_alike (p q : Pg) : PySem.W.alike (pairD p).py (pairD q).py = true := by simp [pairD, D.py, D.pys, PySem.W.alike, PySem.W.alikeAll, Pg.alike p q]
theorem pair_dep (p : Pg) : (pairD p).py.depth ≤ p.height + 2 := by
  have q := p.dep
  simp only [pairD, D.py, D.pys, PyData.depth, PyData.depthAll]
  omega
theorem dLt_irrefl (d : D) : dLt d d = false := PySem.W.dataLt_self _
theorem dLt_trans {a b c : D} (h1 : dLt a b = true) (h2 : dLt b c = true) : dLt a c = true := PyProof.Rows.lex_trans _ _ _ h1 h2
theorem pair_size {p q : Pg} (h : dLt (pairD p) (pairD q) = true) : p.size ≤ q.size := by
  unfold dLt pairD at h
  simp only [D.py, D.pys] at h
  rw [PySem.W.dataLt_pair (by simp [PySem.W.alike]) (Pg.alike p q)] at h
  by_cases c : PyData.eqv (.int (p.size : Int)) (.int (q.size : Int)) = true
  · have e := eqv_py (.int (p.size : Int)) (.int (q.size : Int))
    simp only [D.py] at e
    rw [e] at c
    have e2 := of_decide_eq_true c
    simp only [D.int.injEq] at e2
    omega
  · rw [if_neg c, PySem.W.dataLt_int] at h
    have := of_decide_eq_true h
    omega
/-- all programs of these signs up to a height -/
def allP (signs : List Nat) : Nat → List Pg
  | 0 => []
  | h + 1 => oversL signs (allP signs h)
theorem allP_mem {signs : List Nat} : ∀ (h : Nat) (p : Pg), p.ok signs → p.height < h → p ∈ allP signs h
  | 0, p, _, hh => absurd hh (Nat.not_lt_zero _)
  | h + 1, .n0 s, ok, _ => overs_mem (r := []) ok (by simp [choicesL])
  | h + 1, .n1 s p, ok, hh => overs_mem (r := [p]) ok.1 (choices_1 (allP_mem h p ok.2 (by simp only [Pg.height] at hh; omega)))
  | h + 1, .n2 s p q, ok, hh => overs_mem (r := [p, q]) ok.1 (choices_2 (allP_mem h p ok.2.1 (by simp only [Pg.height] at hh; omega)) (allP_mem h q ok.2.2 (by simp only [Pg.height] at hh; omega)))
/-- how many programs are less -/
def rankP (signs : List Nat) (p : Pg) : Nat := ((allP signs 16).filter fun q => dLt (pairD q) (pairD p)).length
theorem filter_lt {α : Type} {f g : α → Bool} : ∀ (l : List α), (∀ x, f x = true → g x = true) → (∃ x ∈ l, f x = false ∧ g x = true) → (l.filter f).length < (l.filter g).length
  | [], _, h => by obtain ⟨x, hx, _⟩ := h; cases hx
  | y :: l, h, ⟨x, hx, h1, h2⟩ => by
    have le : (l.filter f).length ≤ (l.filter g).length := by
      clear hx h1 h2 x
      induction l with
      | nil => exact Nat.le_refl _
      | cons z l ih =>
        rw [List.filter_cons, List.filter_cons]
        cases e : f z with
        | true => rw [h z e]; simpa using ih
        | false =>
          cases e2 : g z with
          | true => simp; omega
          | false => simpa using ih
    rcases List.mem_cons.mp hx with rfl | hx
    · rw [List.filter_cons, List.filter_cons, h1, h2]
      simp
      omega
    · have ih := filter_lt l h ⟨x, hx, h1, h2⟩
      rw [List.filter_cons, List.filter_cons]
      cases e : f y with
      | true => rw [h y e]; simpa using ih
      | false =>
        cases e2 : g y with
        | true => simp; omega
        | false => simpa using ih
theorem rank_lt {signs : List Nat} {p q : Pg} (ok : p.ok signs) (hz : p.size ≤ 15) (h : dLt (pairD p) (pairD q) = true) : rankP signs p < rankP signs q := by
  have hh := p.height_lt
  exact filter_lt _ (fun x hx => dLt_trans hx h) ⟨p, allP_mem 16 p ok (by omega), dLt_irrefl _, h⟩
theorem rank_le (signs : List Nat) (p : Pg) : rankP signs p ≤ (allP signs 16).length := List.length_filter_le ..
end K56
set_option Elab.async false
set_option linter.all false
set_option maxRecDepth 100000
set_option maxHeartbeats 4000000
namespace K56
open PySem PySem.Spec PyProof.Rows L2
/-! ### entries as keys and as what is sorted -/
theorem nats_inj : ∀ (a b : List Nat), (a.map fun (n : Nat) => D.int (n : Int)) = (b.map fun (n : Nat) => D.int (n : Int)) → a = b
  | [], [], _ => rfl
  | x :: a, y :: b, e => by
    simp only [List.map_cons, List.cons.injEq, D.int.injEq] at e
    rw [nats_inj a b e.2, Int.ofNat_inj.mp e.1]
  | [], _ :: _, e => by simp at e
  | _ :: _, [], e => by simp at e
theorem natD_inj {a b : List Nat} (e : natD a = natD b) : a = b := by
  unfold natD at e
  exact nats_inj a b (by simpa using e)
theorem En.d_inj {a b : En} (e : a.d = b.d) : a = b := by
  unfold En.d at e
  simp only [D.tup.injEq, List.cons.injEq, D.int.injEq, and_true] at e
  obtain ⟨e1, e2, e3⟩ := e
  have h1 : a.sign = b.sign := Int.ofNat_inj.mp e1
  have h2 := natD_inj e2
  have h3 : a.kind = b.kind := Int.ofNat_inj.mp e3
  cases a
  cases b
  simp only at h1 h2 h3
  subst h1 h2 h3
  rfl
theorem nats_nk : ∀ l : List Nat, NestedKey.depthAll (D.nks (l.map fun (n : Nat) => D.int (n : Int))) = 0
  | [] => by simp [D.nks, NestedKey.depthAll]
  | n :: l => by
    have q := nats_nk l
    simp only [List.map_cons, D.nks, NestedKey.depthAll, D.nk, NestedKey.depth] at q ⊢
    omega
theorem natD_nk (l : List Nat) : (natD l).nk.depth = 1 := by
  unfold natD
  simp only [D.nk, NestedKey.depth, nats_nk]
theorem En.nk (e : En) : e.d.nk.depth ≤ 8 := by
  have q := natD_nk e.parts
  unfold natD at q
  unfold En.d natD
  simp only [D.nk, D.nks, NestedKey.depth, NestedKey.depthAll] at q ⊢
  omega
theorem nats_dep : ∀ l : List Nat, PyData.depthAll (D.pys (l.map fun (n : Nat) => D.int (n : Int))) = 0
  | [] => by simp [D.pys, PyData.depthAll]
  | n :: l => by
    have q := nats_dep l
    simp only [List.map_cons, D.pys, PyData.depthAll, D.py, PyData.depth] at q ⊢
    omega
theorem natD_dep (l : List Nat) : (natD l).py.depth ≤ 1 := by
  unfold natD
  simp only [D.py, PyData.depth, nats_dep]
  omega
theorem En.dep (e : En) : e.d.py.depth ≤ 60 := by
  have q := natD_dep e.parts
  unfold natD at q
  unfold En.d natD
  simp only [D.py, D.pys, PyData.depth, PyData.depthAll] at q ⊢
  omega
theorem nats_alike : ∀ (a b : List Nat), PySem.W.alikeAll (D.pys (a.map fun (n : Nat) => D.int (n : Int))) (D.pys (b.map fun (n : Nat) => D.int (n : Int))) = true
  | [], _ => by simp [D.pys, PySem.W.alikeAll]
  | _ :: _, [] => by simp [D.pys, PySem.W.alikeAll]
  | x :: a, y :: b => by
    have q := nats_alike a b
    simp only [List.map_cons, D.pys, D.py, PySem.W.alikeAll, PySem.W.alike, q, Bool.and_self]
theorem natD_alike (a b : List Nat) : PySem.W.alike (natD a).py (natD b).py = true := by
  unfold natD
  simp only [D.py, PySem.W.alike, nats_alike]
theorem En.alike (a b : En) : PySem.W.alike a.d.py b.d.py = true := by
  have q := natD_alike a.parts b.parts
  unfold En.d
  simp only [D.py, D.pys, PySem.W.alike, PySem.W.alikeAll, q, Bool.and_self]
/-- the rows of entries -/
theorem ents_row {K : PySem.W.Frag} {H : Hp} {vs : List V} {es : List En} (r : RpL K H vs (es.map En.d)) : ∃ L : List (Addr × D), vs = L.map (fun p => V.ref p.1) ∧ es.map En.d = L.map (·.2) ∧ Row K H L :=
  row_of r fun d hd => by
    obtain ⟨e, _, rfl⟩ := List.mem_map.mp hd
    exact ⟨_, rfl⟩
theorem ents_back {es : List En} : ∀ {M : List (Addr × D)}, (∀ p ∈ M, p.2 ∈ es.map En.d) → ∃ fs : List En, M.map (·.2) = fs.map En.d
  | [], _ => ⟨[], rfl⟩
  | p :: M, h => by
    obtain ⟨fs, q⟩ := ents_back (M := M) fun x hx => h x (List.mem_cons_of_mem _ hx)
    obtain ⟨e, _, he⟩ := List.mem_map.mp (h p (List.mem_cons_self ..))
    exact ⟨e :: fs, by rw [List.map_cons, List.map_cons, q, he]⟩
theorem ents_sorts {es : List En} {L : List (Addr × D)} (h : ∀ p ∈ L, p.2 ∈ es.map En.d) (hf : L.length ≤ 1000) : Sorts L where
  al := fun p hp q hq => by
    obtain ⟨a, _, ha⟩ := List.mem_map.mp (h p hp)
    obtain ⟨b, _, hb⟩ := List.mem_map.mp (h q hq)
    rw [← ha, ← hb]
    exact En.alike a b
  ne := fun p hp => by
    obtain ⟨a, _, ha⟩ := List.mem_map.mp (h p hp)
    exact ⟨_, _, ha.symm⟩
  dp := fun p hp => by
    obtain ⟨a, _, ha⟩ := List.mem_map.mp (h p hp)
    rw [← ha]
    exact En.dep a
  few := hf
theorem mem_of_map {es : List En} {e : En} (h : e.d ∈ es.map En.d) : e ∈ es := by
  obtain ⟨a, ha, he⟩ := List.mem_map.mp h
  rw [← En.d_inj he]
  exact ha
theorem nodup_of_map {β γ : Type} {f : β → γ} : ∀ {l : List β}, (l.map f).Nodup → l.Nodup
  | [], _ => List.nodup_nil
  | x :: l, h => by
    rw [List.map_cons, List.nodup_cons] at h
    exact List.nodup_cons.mpr ⟨fun hx => h.1 (List.mem_map_of_mem hx), nodup_of_map h.2⟩
/-- t + u, whichever tuple it is -/
theorem rCatA_of {K : PySem.W.Frag} {H : Hp} {Q : VK} {a b : Addr} {xs ys : List V} (ha : SqT K H a xs) (hb : SqT K H b ys) (hz : xs.length + ys.length ≤ sizeLine) (k : ∀ p H', Same H H' → SqT K H' p (xs ++ ys) → Q (.ref p) H') : rCatA K (.ref a) (.ref b) H Q := by
  refine ⟨a, b, xs, ys, rfl, rfl, ha, hb, hz, fun e => k b H (Same.refl _) (by rw [e]; exact hb), fun _ e => k a H (Same.refl _) (by rw [e, List.append_nil]; exact ha), fun _ _ p hp => k p _ (same_new hp) (.of upd_same)⟩
theorem sub_len {α : Type} [BEq α] [LawfulBEq α] : ∀ {l m : List α}, l.Nodup → (∀ x ∈ l, x ∈ m) → l.length ≤ m.length
  | [], m, _, _ => Nat.zero_le _
  | x :: l, m, d, h => by
    have d' := List.nodup_cons.mp d
    have hx := h x (List.mem_cons_self ..)
    have q := sub_len (l := l) (m := m.erase x) d'.2 fun y hy => by
      have hne : y ≠ x := fun e => d'.1 (e ▸ hy)
      exact (List.mem_erase_of_ne hne).mpr (h y (List.mem_cons_of_mem _ hy))
    have q2 := List.length_erase_of_mem hx
    have q3 := List.length_pos_of_mem hx
    rw [List.length_cons]
    omega
/-- sorted(set(xs)) of entries: what comes out -/
theorem sortset_ents {K : PySem.W.Frag} {w : World} {H : Hp} {l : Addr} {vs : List V} {es : List En} {Q : VK} (hl : SqL K H l vs ∨ SqT K H l vs) (r : RpL K H vs (es.map En.d)) (few : es.length < 64)
    (k : ∀ (p : Addr) (H' : Hp) (ws : List V) (fs : List En), Same H H' → H p = none → H' p = some (.lst ws) → RpL K H' ws (fs.map En.d) → fs.Nodup → fs.length ≤ es.length → (∀ e, e ∈ fs ↔ e ∈ es) → Q (.ref p) H') :
    rSetD K w [.ref l] H fun x H1 => rSorted K w [x] H1 Q := by
  obtain ⟨L, rfl, hL, hr⟩ := ents_row r
  have lL : L.length = es.length := by
    have q := congrArg List.length hL
    simpa using q.symm
  have mL : ∀ p ∈ L, p.2 ∈ es.map En.d := fun p hp => by rw [hL]; exact List.mem_map_of_mem hp
  refine ⟨l, L, rfl, hl, hr, fun p hp => ?_, by omega, fun a M ha hM hM2 hnd => ?_⟩
  · obtain ⟨e, _, he⟩ := List.mem_map.mp (mL p hp)
    rw [← he]
    exact En.nk e
  have sA := same_new (o := SetO w a M) ha
  have hrM : Row K (upd H a (SetO w a M)) M := fun p hp => (hr p (hM p hp)).mono (tu_same sA)
  obtain ⟨fs0, hfs0⟩ := ents_back (es := es) (M := M) fun p hp => mL p (hM p hp)
  have lM : M.length ≤ es.length := by
    have h1 : ∀ x ∈ M.map (·.2), x ∈ es.map En.d := fun x hx => by
      obtain ⟨p, hp, rfl⟩ := List.mem_map.mp hx
      exact mL p (hM p hp)
    have h2 := sub_len hnd h1
    simpa using h2
  refine ⟨a, M, rfl, .inl upd_same, hrM, ents_sorts (es := es) (fun p hp => mL p (hM p hp)) (by omega), fun p N hp pm => ?_⟩
  have sB := same_new (o := .lst (N.map fun q => V.ref q.1)) hp
  obtain ⟨fs, hfs⟩ := ents_back (es := es) (M := N) fun q hq => mL q (hM q (pm.mem_iff.mp hq))
  have hrN : Row K (upd (upd H a (SetO w a M)) p (.lst (N.map fun q => V.ref q.1))) N := fun q hq => (hrM q (pm.mem_iff.mp hq)).mono (tu_same sB)
  have pmf : (fs.map En.d).Perm (M.map (·.2)) := by rw [← hfs]; exact pm.map _
  refine k p _ _ fs (sA.trans sB) (sA.free hp) upd_same (by rw [← hfs]; exact rpL_of hrN) (nodup_of_map (f := En.d) (pmf.nodup_iff.mpr hnd)) ?_ fun e => ⟨fun he => ?_, fun he => ?_⟩
  · have q := pmf.length_eq
    simp only [List.length_map] at q
    omega
  · have h1 := pmf.mem_iff.mp (List.mem_map_of_mem (f := En.d) he)
    obtain ⟨p, hp, he2⟩ := List.mem_map.mp h1
    have h2 := mL p (hM p hp)
    rw [he2] at h2
    exact mem_of_map h2
  · have h1 := hM2 e.d (by rw [← hL]; exact List.mem_map_of_mem he)
    exact mem_of_map (pmf.mem_iff.mpr h1)
end K56
set_option Elab.async false
set_option linter.all false
set_option maxRecDepth 100000
set_option maxHeartbeats 4000000
namespace K56
open PySem PySem.Spec PyProof.Rows L2
section
variable {J : It} {n : Nat} {G : Hp → Prop} {Y : Nat → Hp → V → Hp → Prop}
/-- the items of a comprehension are told one by one, as they stand -/
theorem lc_vals (w : Walk J n G Y) {g : TG} {te : TE} {vs : List Nat} {σ : L2.St} {H1 : Hp} {Dl : Addr} {Qd : Hp → Prop} (hD : H1 Dl = none) (xs : List V) (hl : xs.length = n) (hz : n ≤ 1000000)
    (hG : ∀ H, Same H1 H → G H)
    (hs : ∀ i x H H' v, xs[i]? = some v → Same H1 H → Y i H x H' → ∀ (Qe : V → Hp → Prop), (∀ H4, Same H H4 → Qe v H4) → g x (wipe σ vs) H' fun σ2 H2 => wipe σ2 vs = wipe σ vs ∧ te σ2 H2 Qe)
    (hd : ∀ H, Same H1 H → H Dl = some (.lst xs) → Qd H) :
    ∃ W : Nat → Nat → Hp → Prop, (∃ m, W 0 m (upd H1 Dl (.lst []))) ∧ ∀ i m H, W i m H →
      (J.stop i H ∧ Qd H) ∨ (J.go i H ∧ ∃ Nx : Hp → Prop, (∀ H', Nx H' → ∃ m', m' < m ∧ W (i + 1) m' H') ∧ ∀ x H', J.yld i H x H' → g x (wipe σ vs) H' fun σ2 H2 => wipe σ2 vs = wipe σ vs ∧ tYes σ2 H2 fun b H3 =>
        if b = true then te σ2 H3 fun y H4 => ∃ acc, H4 Dl = some (.lst acc) ∧ acc.length < sizeLine ∧ Nx (upd H4 Dl (.lst (acc ++ [y]))) else Nx H3) := by
  refine lc_it w (fun i H => Same H1 H ∧ H Dl = some (.lst (xs.take i))) ⟨same_new hD, upd_same⟩ (fun i H _ p => hG H p.1) ?_ ?_
  · rintro i x H H' hi ⟨s1, e1⟩ y
    have hv : xs[i]? = some xs[i] := by simp [hl, hi]
    have q := hs i x H H' _ hv s1 y (fun y H4 => ∃ acc, H4 Dl = some (.lst acc) ∧ acc.length < sizeLine ∧ (fun H => Same H1 H ∧ H Dl = some (.lst (xs.take (i + 1)))) (upd H4 Dl (.lst (acc ++ [y])))) fun H4 s4 => ?_
    · exact q
    · refine ⟨xs.take i, s4 _ _ e1, ?_, same_mut (s1.trans s4) hD, ?_⟩
      · rw [List.length_take]
        exact Nat.lt_of_le_of_lt (show min i xs.length ≤ 1000000 by omega) (by decide)
      · rw [upd_same, List.take_succ, hv]; rfl
  · rintro H ⟨s1, e1⟩
    rw [← hl, List.take_length] at e1
    exact hd H s1 e1
end
/-! ### dicts by kinds -/
structure KD (kvs : List (Key × V)) (m : Nat) (R : V → Pg → Prop) (b : Fnd) : Prop where
  keys : ∀ x ∈ kvs, ∃ k : Nat, k < m ∧ x.1 = .inl (k : Int)
  nd : (kvs.map (·.1)).Nodup
  no : ∀ k : Nat, b k = none → valV kvs (.inl (k : Int)) = none
  yes : ∀ (k : Nat) (p : Pg), b k = some p → ∃ v, valV kvs (.inl (k : Int)) = some v ∧ R v p
section
variable {kvs : List (Key × V)} {m k : Nat} {R R' : V → Pg → Prop} {b : Fnd} {v : V} {p : Pg}
theorem KD.nil : KD [] m R fun _ => none where
  keys := fun x h => by cases h
  nd := List.nodup_nil
  no := fun _ _ => rfl
  yes := fun _ _ h => by cases h
theorem KD.mono (h : KD kvs m R b) (f : ∀ v p, R v p → R' v p) : KD kvs m R' b := ⟨h.keys, h.nd, h.no, fun k p e => by
  obtain ⟨v, h1, h2⟩ := h.yes k p e
  exact ⟨v, h1, f v p h2⟩⟩
theorem KD.some (h : KD kvs m R b) (k : Nat) : (valV kvs (.inl (k : Int))).isSome = (b k).isSome := by
  cases e : b k with
  | none => rw [h.no k e]; rfl
  | some p => obtain ⟨v, h1, _⟩ := h.yes k p e; rw [h1]; rfl
theorem key_ne {i j : Nat} (h : i ≠ j) : (Sum.inl (i : Int) : Key) ≠ .inl (j : Int) := fun e => h (Int.ofNat_inj.mp (Sum.inl.inj e))
theorem putK_keys_old (e : (kvs.any fun kv => decide (kv.1 = (Sum.inl (k : Int) : Key))) = true) : (putK kvs (.inl (k : Int)) v).map (·.1) = kvs.map (·.1) := by
  unfold putK
  rw [if_pos e, List.map_map]
  refine List.map_congr_left fun x _ => ?_
  show (if x.1 = Sum.inl (k : Int) then (x.1, v) else x).1 = x.1
  split <;> rfl
theorem KD.put (h : KD kvs m R b) (hk : k < m) (r : R v p) : KD (putK kvs (.inl (k : Int)) v) m R (putF' b k p) := by
  have nv : (kvs.any fun kv => decide (kv.1 = (Sum.inl (k : Int) : Key))) = false → putK kvs (.inl (k : Int)) v = kvs ++ [(.inl (k : Int), v)] := fun e => by
    unfold putK
    rw [if_neg (by rw [e]; decide)]
  refine ⟨fun x hx => ?_, ?_, fun j hj => ?_, fun j q hj => ?_⟩
  · have : x.1 ∈ (putK kvs (.inl (k : Int)) v).map (·.1) := List.mem_map_of_mem hx
    cases e : (kvs.any fun kv => decide (kv.1 = (Sum.inl (k : Int) : Key))) with
    | true =>
      rw [putK_keys_old e] at this
      obtain ⟨y, hy, hxy⟩ := List.mem_map.mp this
      obtain ⟨j, h1, h2⟩ := h.keys y hy
      exact ⟨j, h1, by rw [← hxy]; exact h2⟩
    | false =>
      rw [nv e] at hx
      rcases List.mem_append.mp hx with hx | hx
      · exact h.keys x hx
      · rw [List.mem_singleton.mp hx]; exact ⟨k, hk, rfl⟩
  · cases e : (kvs.any fun kv => decide (kv.1 = (Sum.inl (k : Int) : Key))) with
    | true => rw [putK_keys_old e]; exact h.nd
    | false =>
      rw [nv e, List.map_append]
      refine List.nodup_append.mpr ⟨h.nd, by simp, fun a ha c hc z => ?_⟩
      obtain ⟨y, hy, rfl⟩ := List.mem_map.mp ha
      have e2 : c = .inl (k : Int) := by simpa using hc
      rw [List.any_eq_false] at e
      exact e y hy (decide_eq_true (z.trans e2))
  · unfold putF' at hj
    by_cases c : j = k
    · rw [if_pos c] at hj; cases hj
    · rw [if_neg c] at hj
      rw [valV_put, if_neg (key_ne c)]
      exact h.no j hj
  · unfold putF' at hj
    rw [valV_put]
    by_cases c : j = k
    · rw [if_pos c] at hj
      cases hj
      rw [c, if_pos rfl]
      exact ⟨v, rfl, r⟩
    · rw [if_neg c] at hj
      rw [if_neg (key_ne c)]
      exact h.yes j q hj
theorem keys_nat : ∀ {kvs : List (Key × V)}, (∀ x ∈ kvs, ∃ k : Nat, k < m ∧ x.1 = .inl (k : Int)) → ∃ ks : List Nat, kvs.map (·.1) = ks.map (fun (k : Nat) => (Sum.inl (k : Int) : Key)) ∧ ∀ k ∈ ks, k < m
  | [], _ => ⟨[], rfl, fun k hk => by cases hk⟩
  | x :: kvs, h => by
    obtain ⟨k, h1, h2⟩ := h x (List.mem_cons_self ..)
    obtain ⟨ks, h3, h4⟩ := keys_nat (kvs := kvs) fun y hy => h y (List.mem_cons_of_mem _ hy)
    refine ⟨k :: ks, by rw [List.map_cons, List.map_cons, h2, h3], fun j hj => ?_⟩
    rcases List.mem_cons.mp hj with rfl | hj
    · exact h1
    · exact h4 j hj
/-- the keys: which they are -/
theorem KD.list (h : KD kvs m R b) : ∃ ks : List Nat, kvs.map (·.1) = ks.map (fun (k : Nat) => (Sum.inl (k : Int) : Key)) ∧ ks.Nodup ∧ (∀ k ∈ ks, k < m) ∧ ks.length ≤ m ∧ kvs.length = ks.length ∧ ∀ k, k ∈ ks ↔ (b k).isSome = true := by
  obtain ⟨ks, h1, h2⟩ := keys_nat h.keys
  have nd : ks.Nodup := nodup_of_map (f := fun (k : Nat) => (Sum.inl (k : Int) : Key)) (by rw [← h1]; exact h.nd)
  have hl : kvs.length = ks.length := by
    have q := congrArg List.length h1
    simpa using q
  refine ⟨ks, h1, nd, h2, nodup_lt m ks nd h2, hl, fun k => ?_⟩
  rw [← h.some k, ← valV_any, List.any_eq_true]
  have e : ∀ k : Nat, k ∈ ks ↔ (Sum.inl (k : Int) : Key) ∈ kvs.map (·.1) := fun k => by
    rw [h1]
    constructor
    · intro z; exact List.mem_map_of_mem (f := fun (k : Nat) => (Sum.inl (k : Int) : Key)) z
    · intro z
      obtain ⟨j, hj, e⟩ := List.mem_map.mp z
      have : j = k := Int.ofNat_inj.mp (Sum.inl.inj e)
      rw [← this]; exact hj
  rw [e, List.mem_map]
  constructor
  · rintro ⟨x, hx, e⟩; exact ⟨x, hx, decide_eq_true e⟩
  · rintro ⟨x, hx, e⟩; exact ⟨x, hx, of_decide_eq_true e⟩
end
theorem eq_of_lt : ∀ (l m : List Int), l.Pairwise (· < ·) → m.Pairwise (· < ·) → (∀ x, x ∈ l ↔ x ∈ m) → l = m
  | [], [], _, _, _ => rfl
  | [], y :: m, _, _, h => by have := (h y).mpr (List.mem_cons_self ..); cases this
  | x :: l, [], _, _, h => by have := (h x).mp (List.mem_cons_self ..); cases this
  | x :: l, y :: m, p, q, h => by
    have p' := List.pairwise_cons.mp p
    have q' := List.pairwise_cons.mp q
    have e : x = y := by
      rcases List.mem_cons.mp ((h x).mp (List.mem_cons_self ..)) with e | h1
      · exact e
      · rcases List.mem_cons.mp ((h y).mpr (List.mem_cons_self ..)) with e | h2
        · exact e.symm
        · have a := q'.1 x h1
          have b := p'.1 y h2
          omega
    subst e
    refine congrArg (x :: ·) (eq_of_lt l m p'.2 q'.2 fun z => ⟨fun hz => ?_, fun hz => ?_⟩)
    · rcases List.mem_cons.mp ((h z).mp (List.mem_cons_of_mem _ hz)) with e | h1
      · have := p'.1 z hz; omega
      · exact h1
    · rcases List.mem_cons.mp ((h z).mpr (List.mem_cons_of_mem _ hz)) with e | h1
      · have := q'.1 z hz; omega
      · exact h1
/-- the kinds that can be made, ascending -/
noncomputable def madeL (t : Tb) : List Nat := (List.range t.many).filter fun k => @decide (Made t.ents k) (Classical.propDecidable _)
theorem madeL_mem {t : Tb} (k : Nat) : k ∈ madeL t ↔ k < t.many ∧ Made t.ents k := by
  unfold madeL
  rw [List.mem_filter, List.mem_range]
  constructor
  · rintro ⟨h1, h2⟩; exact ⟨h1, @of_decide_eq_true _ (Classical.propDecidable _) h2⟩
  · rintro ⟨h1, h2⟩; exact ⟨h1, @decide_eq_true _ (Classical.propDecidable _) h2⟩
theorem cast_pair : ∀ {l : List Nat}, l.Pairwise (· < ·) → (l.map fun (k : Nat) => (k : Int)).Pairwise (· < ·) := fun h => List.pairwise_map.mpr (h.imp fun {a b} z => by omega)
/-- sorted keys are just these -/
theorem sorted_made {t : Tb} {b : Fnd} (h : LI t b) (hd : ∀ k, (b k).isSome = true ↔ Made t.ents k) {ks : List Nat} (nd : ks.Nodup) (hk : ∀ k, k ∈ ks ↔ (b k).isSome = true) {ys : List Int} (pm : ys.Perm (ks.map fun (k : Nat) => (k : Int))) (so : ys.Pairwise (· ≤ ·)) : ys = (madeL t).map fun (k : Nat) => (k : Int) := by
  have ndk : (ks.map fun (k : Nat) => (k : Int)).Nodup := List.pairwise_map.mpr (nd.imp fun {a b} z => fun e => z (Int.ofNat_inj.mp e))
  have ndy : ys.Nodup := pm.nodup_iff.mpr ndk
  refine eq_of_lt _ _ ?_ (cast_pair (List.Pairwise.filter _ List.pairwise_lt_range)) fun x => ?_
  · have := so.and ndy
    exact this.imp fun {a b} z => by omega
  · rw [pm.mem_iff, List.mem_map, List.mem_map]
    constructor
    · rintro ⟨k, h1, h2⟩
      have h3 := (hk k).mp h1
      obtain ⟨p, hp⟩ := Option.isSome_iff_exists.mp h3
      exact ⟨k, (madeL_mem k).mpr ⟨(h.ok k p hp).1, (hd k).mp h3⟩, h2⟩
    · rintro ⟨k, h1, h2⟩
      exact ⟨k, (hk k).mpr ((hd k).mpr ((madeL_mem k).mp h1).2), h2⟩
/-- the programs of the parts -/
theorem parts_fnd {b : Fnd} : ∀ (ks : List Nat), (∀ k ∈ ks, (b k).isSome = true) → ∃ qs : List Pg, qs.length = ks.length ∧ ∀ (j k : Nat) (q : Pg), ks[j]? = some k → qs[j]? = some q → b k = some q
  | [], _ => ⟨[], rfl, fun j k q h => by simp at h⟩
  | k :: ks, h => by
    obtain ⟨qs, h1, h2⟩ := parts_fnd ks fun j hj => h j (List.mem_cons_of_mem _ hj)
    obtain ⟨p, hp⟩ := Option.isSome_iff_exists.mp (h k (List.mem_cons_self ..))
    refine ⟨p :: qs, by simp [h1], fun j k' q e1 e2 => ?_⟩
    cases j with
    | zero => simp at e1 e2; rw [← e1, ← e2]; exact hp
    | succ j => exact h2 j k' q (by simpa using e1) (by simpa using e2)
theorem mkP_size (s : Nat) (qs : List Pg) (h : qs.length ≤ 2) : ((mkP s qs).size : Int) = 1 + (qs.map fun q => (q.size : Int)).sum := by
  match qs, h with
  | [], _ => rfl
  | [p], _ => simp [mkP, Pg.size]
  | [p, q], _ => simp [mkP, Pg.size]
  | _ :: _ :: _ :: _, h => simp only [List.length_cons] at h; omega
end K56
set_option Elab.async false
set_option linter.all false
set_option maxRecDepth 100000
set_option maxHeartbeats 4000000
namespace K56
open PySem PySem.Spec PyProof.Rows L2
/-! ### signs_over -/
theorem overs_take (signs : List Nat) (ps : List Pg) (i : Nat) (h : i < signs.length) : (List.range (i + 1)).flatMap (fun s => (choicesL ps (signs.getD s 0)).map (mkP s)) = (List.range i).flatMap (fun s => (choicesL ps (signs.getD s 0)).map (mkP s)) ++ (choicesL ps (signs.getD i 0)).map (mkP i) := by
  rw [List.range_succ, List.flatMap_append]
  simp
theorem overs_len (ps : List Pg) (hp : ps.length ≤ 20) (signs : List Nat) (hs : ∀ s ∈ signs, s ≤ 2) : ∀ (i : Nat), i ≤ signs.length → ((List.range i).flatMap (fun s => (choicesL ps (signs.getD s 0)).map (mkP s))).length ≤ 400 * i
  | 0, _ => by simp
  | i + 1, h => by
    have ih := overs_len ps hp signs hs i (by omega)
    rw [overs_take signs ps i (by omega), List.length_append, List.length_map]
    have hx : signs.getD i 0 ≤ 2 := by
      have h' : i < signs.length := h
      have e : signs.getD i 0 = signs[i] := by simp [List.getD_eq_getElem?_getD, h']
      rw [e]
      exact hs _ (List.getElem_mem _)
    have h1 := choices_len ps 20 hp (signs.getD i 0)
    have h2 : 20 ^ (signs.getD i 0) ≤ 20 ^ 2 := Nat.pow_le_pow_right (by decide) hx
    omega
section
variable {P : Program} {w : World} {K : PySem.W.Frag} {mg : Str → Option Value} {base : Heap}
theorem sc_signs_over : FnScope ["signs", "programs", "found", "sign", "many", "parts"] ["signs", "programs"] (defScope s_signs_over) := ⟨rfl, rfl, rfl, by decide +kernel, rfl, by decide +kernel, by decide +kernel⟩
theorem ok_signs_over (A : Hd K mg) : Cl P w K mg base "signs_over" ["signs", "programs"] 3 (spOver K) := by
  obtain ⟨fd, F⟩ := A.f_signs_over
  refine Cl.of F A.g_signs_over sc_signs_over (fun _ _ _ _ _ _ us hl => match us, hl with | [_, _], _ => rfl) (fun vs H Q E h => (by obtain ⟨a, sv, xs, ps, signs, rfl, rs, hs2, hsl, ha, rx, hp, k⟩ := h; rfl)) (fun cdv Ar outer s H vs Q E hr h => ?_)
  obtain ⟨a, sv, xs, ps, signs, rfl, rs, hs2, hsl, ha, rx, hp, k⟩ := h
  refine ⟨_, (pss_cons (ps_set (i := 2) sc_signs_over.nd rfl (.inl rfl) (pe_lst pa_nil))
  (pss_cons (ps_for PassesOwn.never (by rfl) (pi_enumT (by rfl) A.z_enumerate (pa_cons (pv 0) pa_nil)) (pg_tup rfl (pgs_cons (pg_name (i := 3) sc_signs_over.nd rfl (.inr rfl)) (pgs_cons (pg_name (i := 4) sc_signs_over.nd rfl (.inl rfl)) pgs_nil)))
  (pss_one (ps_expr (pe_bm PySem.F.plainAttrs_list PySem.F.slot_list_extend PySem.F.type_list_extend mt_extend (pv 2) (pa_cons (pe_lcF (own := [("parts", 5)]) (by rfl) sc_signs_over.nd (pi_list (pe_cl (ok_choices_of A) (hr.mono (by decide)) (by rfl) (pa_cons (pv 1) (pa_cons (pv 4) pa_nil)))) (blkOk_by (by rfl)) (fun _ _ _ _ _ => (pg_name (i := 5) sc_signs_over.nd rfl (.inl rfl))) (fun _ _ _ _ _ => pts_nil) (fun _ _ _ _ _ => (pe_tup (pa_cons (pv 3) (StX.pa_star (pv 5) pa_nil))))) pa_nil)))))
  (pss_one (ps_ret (pv 2))))), ?_⟩
  obtain ⟨sa, rfl, hsa⟩ := nats_inv rs
  refine ⟨sz0, fun b1 hb1 => ?_⟩
  have s1 : Same H (upd H b1 (.lst [])) := same_new hb1
  have e1 : (upd H b1 (.lst [])) b1 = some (.lst []) := upd_same
  show tSeq _ _ _ _ (upd H b1 (.lst []))
  generalize upd H b1 (.lst []) = H1 at s1 e1
  refine ⟨_, rfl, sa, _, rfl, (tu_same s1).sq hsa, ?_⟩
  refine for_it (walk_enumT (K := K) (xs := signs.map fun (n : Nat) => V.int (n : Int))) (fun i σ H' => ∃ s3 s4 s5 ws, σ = [some (.ref sa), some (.ref a), some (.ref b1), s3, s4, s5] ∧ Same H H' ∧ H' b1 = some (.lst ws) ∧ RpL K H' ws (((List.range i).flatMap fun s => (choicesL ps (signs.getD s 0)).map (mkP s)).map Pg.d))
    ⟨_, _, _, [], rfl, s1, e1, .nil⟩ (fun i σ H' _ ⟨_, _, _, _, _, e, _⟩ => (tu_same e).sq hsa) ?_ ?_
  · rintro i x σ H' H2 hi ⟨c3, c4, c5, ws, rfl, s2, e2, r2⟩ ⟨T, u, v, rfl, hT, rfl, hu, hv⟩
    rw [List.length_map] at hi
    cases hu
    have hg : signs[i]? = some signs[i] := by simp [hi]
    have hgd : signs.getD i 0 = signs[i] := by simp [List.getD_eq_getElem?_getD, hi]
    dsimp only at hv
    rw [List.getElem?_map, hg] at hv
    cases hv
    have hle := hs2 _ (List.getElem_mem hi)
    generalize signs[i] = m at hg hgd hle
    have nT : b1 ≠ T := ne_of_none e2 hT
    have s3 : Same H (upd H' T (.tup [.int (i : Int), .int (m : Int)])) := s2.trans (same_new hT)
    have e3 : (upd H' T (.tup [.int (i : Int), .int (m : Int)])) b1 = some (.lst ws) := by rw [upd_ne nT]; exact e2
    have eT : (upd H' T (.tup [.int (i : Int), .int (m : Int)])) T = some (.tup [.int (i : Int), .int (m : Int)]) := upd_same
    have r3 := r2.mono (tu_new (o := .tup [.int (i : Int), .int (m : Int)]) hT)
    generalize upd H' T (.tup [.int (i : Int), .int (m : Int)]) = H3 at s3 e3 eT r3
    refine ⟨T, _, rfl, .of eT, rfl, _, _, rfl, _, _, rfl, rfl, ?_⟩
    refine ⟨_, rfl, .inl ⟨rfl, _, .of e3⟩, _, rfl, _, rfl, a, xs, ps, m, rfl, s3.seq ha, rx.mono (tu_same s3), hp, hle, fun l ws4 H4 hl s4 e4 r4 => ?_⟩
    refine ⟨l, rfl, ⟨_, .of e4⟩, fun Dl hD => ?_⟩
    have wl : ws4.length = (choicesL ps m).length := by rw [r4.length, List.length_map]
    have cl := choices_len ps 20 hp m
    have c2 : 20 ^ m ≤ 20 ^ 2 := Nat.pow_le_pow_right (by decide) hle
    refine lc_map (K := K) (walk_list (K := K) (a := l) (xs := ws4)) hD (((choicesL ps m).map (mkP i)).map Pg.d) (by rw [List.length_map, List.length_map, wl]) (by omega) (fun H6 s6 => .of (s6 _ _ e4)) ?_ ?_
    · rintro j x2 H6 _ d2 hd2 s6 ⟨rfl, hx2⟩ Qe he
      obtain ⟨d3, hd3, r6⟩ := (r4.mono (tu_same s6)).get' hx2
      rw [List.getElem?_map] at hd3
      rw [List.getElem?_map, List.getElem?_map] at hd2
      cases hn : (choicesL ps m)[j]? with
      | none => rw [hn] at hd3; cases hd3
      | some r =>
        rw [hn] at hd3 hd2
        cases hd3
        cases hd2
        obtain ⟨lr, mr⟩ := choices_row m r (List.mem_of_getElem? hn)
        obtain ⟨ar, vr, rfl, har, rvr⟩ := r6.tup_inv
        refine ⟨rfl, _, rfl, _, rfl, ar, vr, rfl, .inl har, ?_⟩
        have rl : vr.length = r.length := by rw [rvr.length, List.length_map]
        refine ⟨sz_ok (by simp only [List.length_cons, List.length_append, List.length_nil]; omega), fun q1 hq1 => ?_⟩
        have s7 := same_new (o := .tup (V.int (i : Int) :: (vr ++ []))) hq1
        refine he _ _ s7 ?_
        rw [mkP_d i r (by omega)]
        refine .tup (.of upd_same) (.cons (.int _) ?_)
        have r7 := rvr.mono (tu_same s7)
        rw [List.append_nil] at r7 ⊢
        exact r7
    · intro H6 w6 s6 e6 r6
      have eb6 : H6 b1 = some (.lst ws) := s6 _ _ (s4 _ _ e3)
      have nle : b1 ≠ Dl := ne_of_none (s4 _ _ e3) hD
      have ol := overs_len ps hp signs hs2 i (by omega)
      refine ⟨b1, Dl, ws, w6, rfl, rfl, eb6, e6, ?_, ?_⟩
      · rw [r6.length, List.length_map, List.length_map, (show ws.length = _ from r2.length), List.length_map]
        exact sz_ok (by omega)
      · have t6 : Tu H6 (upd H6 b1 (.lst (ws ++ w6))) := tu_upd eb6 rfl
        refine ⟨_, _, _, ws ++ w6, rfl, same_mut ((s3.trans s4).trans s6) hb1, upd_same, ?_⟩
        rw [overs_take signs ps i hi, hgd, List.map_append]
        exact ((r3.mono ((tu_same s4).trans (tu_same s6))).app r6).mono t6
  · rintro σ H' ⟨c3, c4, c5, ws, rfl, s2, e2, r2⟩
    rw [List.length_map] at r2
    exact ⟨_, rfl, k b1 ws H' hb1 s2 e2 r2⟩
end
end K56
set_option Elab.async false
set_option linter.all false
set_option maxRecDepth 100000
set_option maxHeartbeats 4000000
namespace K56
open PySem PySem.Spec PyProof.Rows L2
/-! ### lessened, with_row -/
def Vc (n : Nat) (f : Vec) : List V := (List.range n).map fun k => V.int (f k)
theorem Vc_len (n : Nat) (f : Vec) : (Vc n f).length = n := by simp [Vc]
theorem Vc_get {n k : Nat} (f : Vec) (h : k < n) : (Vc n f)[k]? = some (.int (f k)) := by
  unfold Vc
  rw [List.getElem?_map, List.getElem?_range h]; rfl
theorem Vc_get' {n k : Nat} {f : Vec} {v : V} (h : (Vc n f)[k]? = some v) : k < n ∧ v = .int (f k) := by
  have hk : k < n := by
    have q := (List.getElem?_eq_some_iff.mp h).1
    rwa [Vc_len] at q
  rw [Vc_get f hk] at h
  exact ⟨hk, (Option.some.inj h).symm⟩
structure BasV (K : PySem.W.Frag) (H : Hp) (z : Addr) (n : Nat) (bs : List V) (B : List Lead) : Prop where
  len : bs.length = B.length
  at_ : ∀ (i : Nat) (x : Lead), B[i]? = some x → x.1 < n ∧ ∃ t l, bs[i]? = some (.ref t) ∧ SqT K H t [.int (x.1 : Int), .ref l] ∧ SqL K H l (Vc n x.2.1) ∧ l ≠ z
theorem BasV.mono {K : PySem.W.Frag} {H H' : Hp} {z : Addr} {n : Nat} {bs : List V} {B : List Lead} (h : BasV K H z n bs B) (e : Same H H') : BasV K H' z n bs B :=
  ⟨h.len, fun i x hx => by
    obtain ⟨h1, t, l, h2, h3, h4, h5⟩ := h.at_ i x hx
    exact ⟨h1, t, l, h2, (tu_same e).sq h3, e.seq h4, h5⟩⟩
theorem seq_upd {K : PySem.W.Frag} {H : Hp} {l z : Addr} {o : HO} {xs : List V} (h : SqL K H l xs) (n : l ≠ z) : SqL K (upd H z o) l xs := by
  rcases h with (h | ⟨q, h⟩) | h
  · exact .inl (.inl (by rw [upd_ne n]; exact h))
  · exact .inl (.inr ⟨q, by rw [upd_ne n]; exact h⟩)
  · exact .inr h
theorem BasV.upd {K : PySem.W.Frag} {H : Hp} {z : Addr} {n : Nat} {bs xs ys : List V} {B : List Lead} (h : BasV K H z n bs B) (e : H z = some (.lst xs)) : BasV K (upd H z (.lst ys)) z n bs B :=
  ⟨h.len, fun i x hx => by
    obtain ⟨h1, t, l, h2, h3, h4, h5⟩ := h.at_ i x hx
    exact ⟨h1, t, l, h2, (tu_upd e rfl).sq h3, seq_upd h4 h5, h5⟩⟩
def spLess (K : PySem.W.Frag) : Sp := fun vs H Q _ => ∃ (a b z : Addr) (n c : Nat) (f : Vec) (bs : List V) (B : List Lead),
  vs = [.ref a, .ref b] ∧ SqL K H a (Vc n f) ∧ SqL K H b bs ∧ BasV K H z n bs B ∧ Bd f c ∧ (∀ x ∈ B, Bd x.2.1 x.2.2) ∧ 0 < c ∧ c + bitS B ≤ 400000 ∧ n ≤ 10 ∧ ∀ (l : Addr) (H' : Hp), Same H H' → (l = a ∨ H l = none) → SqL K H' l (Vc n (lessF f B)) → Q (.ref l) H'
def spWith (K : PySem.W.Frag) : Sp := fun vs H Q _ => ∃ (a b z : Addr) (n c : Nat) (f : Vec) (bs : List V) (B : List Lead),
  vs = [.ref b, .ref a] ∧ SqT K H a (Vc n f) ∧ SqL K H b bs ∧ BasV K H z n bs B ∧ Bd f c ∧ (∀ x ∈ B, Bd x.2.1 x.2.2) ∧ 0 < c ∧ c + bitS B ≤ 400000 ∧ n ≤ 10 ∧ B.length ≤ 10 ∧ (∃ o, H z = some o) ∧
  (∀ H', Same H H' → (∀ k, k < n → lessF f B k = 0) → Q .non H') ∧
  (∀ (l : Addr) (H' : Hp) (p : Nat) (bs' : List V), Same H H' → H l = none → p < n → lessF f B p ≠ 0 → H' l = some (.lst bs') → BasV K H' z n bs' (B ++ [(p, lessF f B, c + bitS B)]) → Q (.ref l) H')
theorem bitS_mem {B : List Lead} {i : Nat} {x : Lead} (h : B[i]? = some x) : bitS (B.take i) + x.2.2 + 1 ≤ bitS B := by
  have q := bitS_take B (i + 1)
  have e : B.take (i + 1) = B.take i ++ [x] := by rw [List.take_succ, h]; rfl
  rw [e, bitS_snoc] at q
  omega
theorem dep_int (i : Int) : (D.int i).py.depth = 0 := by simp [D.py, PyData.depth]
theorem dep_ints : ∀ l : List Int, PyData.depthAll (D.pys (l.map D.int)) ≤ 0
  | [] => by simp [D.pys, PyData.depthAll]
  | i :: l => by
    have q := dep_ints l
    simp only [List.map_cons, D.pys, PyData.depthAll, dep_int] at q ⊢
    omega
section
variable {P : Program} {w : World} {K : PySem.W.Frag} {mg : Str → Option Value} {base : Heap}
theorem sc_lessened : FnScope ["row", "basis", "place", "lead", "up", "down", "item", "part"] ["row", "basis"] (defScope s_lessened) := ⟨rfl, rfl, rfl, by decide +kernel, rfl, by decide +kernel, by decide +kernel⟩
theorem ok_lessened (A : Hd K mg) : Cl P w K mg base "lessened" ["row", "basis"] 1 (spLess K) := by
  obtain ⟨fd, F⟩ := A.f_lessened
  refine Cl.of F A.g_lessened sc_lessened (fun _ _ _ _ _ _ us hl => match us, hl with | [_, _], _ => rfl) (fun vs H Q E h => (by obtain ⟨a, b, z, n, c, f, bs, B, rfl, ha, hb, hB, bf, bB, hc, hbit, hn, k⟩ := h; rfl)) (fun cdv Ar outer s H vs Q E hr h => ?_)
  obtain ⟨a, b, z, n, c, f, bs, B, rfl, ha, hb, hB, bf, bB, hc, hbit, hn, k⟩ := h
  refine ⟨_, (pss_cons (ps_for PassesOwn.never (by rfl) (pi_list (pv 1)) (pg_tup rfl (pgs_cons (pg_name (i := 2) sc_lessened.nd rfl (.inl rfl)) (pgs_cons (pg_name (i := 3) sc_lessened.nd rfl (.inl rfl)) pgs_nil)))
  (pss_one (ps_if (pt_cmpR op_ne (pe_ix ix_list (pv 0) (pv 2) (fun _ _ => rfl)) pe_int (nomark _)) (pss_cons (ps_asg (pe_tup (pa_cons (pe_ix ix_list (pv 3) (pv 2) (fun _ _ => rfl)) (pa_cons (pe_ix ix_list (pv 0) (pv 2) (fun _ _ => rfl)) pa_nil))) (pg_tup rfl (pgs_cons (pg_name (i := 4) sc_lessened.nd rfl (.inr rfl)) (pgs_cons (pg_name (i := 5) sc_lessened.nd rfl (.inr rfl)) pgs_nil))))
  (pss_one (ps_setLcF (i := 0) (own := [("item", 6), ("part", 7)]) (by rfl) sc_lessened.nd rfl rfl (sw_true rfl rfl rfl (by decide +kernel)) (RZ.pi_zipA (by rfl) A.z_zip (pa_cons (pv 0) (pa_cons (pv 3) pa_nil))) (blkOk_by (by rfl)) (fun _ _ _ _ _ => (pg_tup rfl (pgs_cons (pg_name (i := 6) sc_lessened.nd rfl (.inl rfl)) (pgs_cons (pg_name (i := 7) sc_lessened.nd rfl (.inl rfl)) pgs_nil)))) (fun _ _ _ _ _ => pts_nil) (fun _ _ _ _ _ => (pe_op op_sub (pe_op op_mulW (pv 6) (pv 4)) (pe_op op_mulW (pv 7) (pv 5))))))) pss_nil)))
  (pss_one (ps_ret (pv 0)))), ?_⟩
  refine ⟨_, rfl, b, rfl, ⟨_, hb⟩, ?_⟩
  refine for_list (K := K) (a := b) (xs := bs) (fun i σ H' => ∃ l s2 s3 s4 s5 s6 s7, σ = [some (.ref l), some (.ref b), s2, s3, s4, s5, s6, s7] ∧ Same H H' ∧ SqL K H' l (Vc n (lessF f (B.take i))) ∧ (l = a ∨ H l = none)) ⟨a, _, _, _, _, _, _, rfl, Same.refl _, ha, .inl rfl⟩ (fun i σ H' _ ⟨_, _, _, _, _, _, _, _, e, _⟩ => e.seq hb) ?_ ?_
  · rintro i v σ H' hv ⟨l, c2, c3, c4, c5, c6, c7, rfl, s1, hl, fr⟩
    have hi : i < B.length := by rw [← hB.len]; exact (List.getElem?_eq_some_iff.mp hv).1
    have hx : B[i]? = some B[i] := by simp [hi]
    have bx := bB _ (List.getElem_mem hi)
    generalize B[i] = x at hx bx
    obtain ⟨hp, t, ld, h1, h2, h3, _⟩ := (hB.mono s1).at_ i x hx
    rw [hv] at h1
    cases h1
    have bT := bitS_mem hx
    have bg : Bd (lessF f (B.take i)) (c + bitS (B.take i)) := lessF_bd _ f c bf fun y hy => bB y (List.mem_of_mem_take hy)
    have step := lessF_take hx f
    refine ⟨t, _, rfl, h2, rfl, _, _, rfl, _, _, rfl, rfl, ?_⟩
    refine ⟨_, rfl, _, rfl, l, _, _, _, rfl, rfl, hl, atI_nat (Vc_get _ hp), rfl, ?_⟩
    refine ⟨_, rfl, ite2 (fun z => ?_) (fun z => ?_)⟩
    · have hne : lessF f (B.take i) x.1 ≠ 0 := fun q => by simp [q] at z
      refine ⟨_, rfl, _, rfl, ld, _, _, _, rfl, rfl, h3, atI_nat (Vc_get _ hp), ?_⟩
      refine ⟨_, rfl, _, rfl, l, _, _, _, rfl, rfl, hl, atI_nat (Vc_get _ hp), ?_⟩
      refine ⟨sz2, fun q1 hq1 => ?_⟩
      have s2 : Same H' (upd H' q1 (.tup [.int (x.2.1 x.1), .int (lessF f (B.take i) x.1)])) := same_new hq1
      have e2 : (upd H' q1 (.tup [.int (x.2.1 x.1), .int (lessF f (B.take i) x.1)])) q1 = some (.tup [.int (x.2.1 x.1), .int (lessF f (B.take i) x.1)]) := upd_same
      show gTup _ _ _ _ _ (upd H' q1 (.tup [.int (x.2.1 x.1), .int (lessF f (B.take i) x.1)])) _
      generalize upd H' q1 (.tup [.int (x.2.1 x.1), .int (lessF f (B.take i) x.1)]) = H2 at s2 e2
      refine ⟨q1, _, rfl, .of e2, rfl, _, _, rfl, _, _, rfl, rfl, ?_⟩
      refine ⟨_, rfl, _, rfl, l, ld, _, _, rfl, .inl ⟨s2.seq hl, s2.seq h3, fun Dl hD => ?_⟩⟩
      refine lc_map (K := K) (walk_zip (K := K) (a := l) (b := ld) (xs := Vc n (lessF f (B.take i))) (ys := Vc n x.2.1) (n := n) (by rw [Vc_len, Vc_len]; omega)) hD (((List.range n).map fun k => less1 (lessF f (B.take i)) x k).map D.int) (by simp) (by omega) (fun H6 s6 => ⟨s6.seq (s2.seq hl), s6.seq (s2.seq h3)⟩) ?_ ?_
      · rintro j y H3 H4 d hd s3 ⟨T, u, v, rfl, hT, rfl, hu, hv⟩ Qe he
        obtain ⟨hj, rfl⟩ := Vc_get' hu
        obtain ⟨_, rfl⟩ := Vc_get' hv
        rw [List.getElem?_map, List.getElem?_map, List.getElem?_range hj] at hd
        cases hd
        refine ⟨T, _, rfl, .of upd_same, rfl, _, _, rfl, _, _, rfl, rfl, rfl, ?_⟩
        refine ⟨_, rfl, _, rfl, _, _, rfl, rfl, wide_mul (bg j) ((bx.mono (Nat.le_succ _)) x.1) (by omega) (by omega) (by omega), ?_⟩
        refine ⟨_, rfl, _, rfl, _, _, rfl, rfl, wide_mul ((bx.mono (Nat.le_succ _)) j) (bg x.1) (by omega) (by omega) (by omega), ?_⟩
        refine ⟨_, _, rfl, rfl, he _ _ (same_new hT) ?_⟩
        have e : less1 (lessF f (B.take i)) x j = lessF f (B.take i) j * x.2.1 x.1 - x.2.1 j * lessF f (B.take i) x.1 := by unfold less1; rw [if_pos hne]
        show Rp K _ _ (D.int (less1 (lessF f (B.take i)) x j))
        rw [e]
        exact .int _
      · intro H6 w6 s6 e6 r6
        have ew := r6.ints_inv
        rw [List.map_map] at ew
        refine ⟨Dl, _, _, _, _, _, _, rfl, (s1.trans s2).trans s6, .of ?_, .inr ((s1.trans s2).free hD)⟩
        rw [e6, ew, step]
        rfl
    · have hz : lessF f (B.take i) x.1 = 0 := by simpa using z
      refine ⟨l, _, _, _, _, _, _, rfl, s1, ?_, fr⟩
      rw [step]
      unfold less1
      rw [if_neg (fun q => q hz)]
      exact hl
  · rintro σ H' ⟨l, c2, c3, c4, c5, c6, c7, rfl, s1, hl, fr⟩
    rw [hB.len, List.take_length] at hl
    exact ⟨_, rfl, k l H' s1 fr hl⟩
theorem sc_with_row : FnScope ["basis", "row", "left", "places", "place", "item"] ["basis", "row"] (defScope s_with_row) := ⟨rfl, rfl, rfl, by decide +kernel, rfl, by decide +kernel, by decide +kernel⟩
theorem ok_with_row (A : Hd K mg) : Cl P w K mg base "with_row" ["basis", "row"] 2 (spWith K) := by
  obtain ⟨fd, F⟩ := A.f_with_row
  refine Cl.of F A.g_with_row sc_with_row (fun _ _ _ _ _ _ us hl => match us, hl with | [_, _], _ => rfl) (fun vs H Q E h => (by obtain ⟨a, b, z, n, c, f, bs, B, rfl, ha, hb, hB, bf, bB, hc, hbit, hn, hBl, ⟨oz, hoz⟩, k0, k1⟩ := h; rfl)) (fun cdv Ar outer s H vs Q E hr h => ?_)
  obtain ⟨a, b, z, n, c, f, bs, B, rfl, ha, hb, hB, bf, bB, hc, hbit, hn, hBl, ⟨oz, hoz⟩, k0, k1⟩ := h
  refine ⟨_, (pss_cons (ps_set (i := 2) sc_with_row.nd rfl (.inl rfl) (pe_cl (ok_lessened A) (hr.mono (by decide)) (by rfl) (pa_cons (pe_callTy call_list_of (by rfl) A.z_list (by decide +kernel) (pa_cons (pv 1) pa_nil)) (pa_cons (pv 0) pa_nil))))
  (pss_cons (ps_setLcF (i := 3) (own := [("place", 4), ("item", 5)]) (by rfl) sc_with_row.nd rfl rfl (sw_true rfl rfl rfl (by decide +kernel)) (pi_enum (by rfl) A.z_enumerate (pa_cons (pv 2) pa_nil)) (blkOk_by (by rfl)) (fun _ _ _ _ _ => (pg_tup rfl (pgs_cons (pg_name (i := 4) sc_with_row.nd rfl (.inl rfl)) (pgs_cons (pg_name (i := 5) sc_with_row.nd rfl (.inl rfl)) pgs_nil)))) (fun _ _ _ _ _ => (pts_one (pt_cmpR op_ne (pv 5) pe_int (nomark _)))) (fun _ _ _ _ _ => (pv 4)))
  (pss_one (ps_ret (pe_ifExp (pt_cmpR (op_eqQ (hu64 hr)) (pv 3) (pe_lst pa_nil) (nomark _)) pe_non (pe_lst (StX.pa_star (pv 0) (pa_cons (pe_tup (pa_cons (pe_ix ix_list (pv 3) pe_int (fun _ _ => rfl)) (pa_cons (pv 2) pa_nil))) pa_nil)))))))), ?_⟩
  refine ⟨_, rfl, a, _, rfl, .inr ha, fun l0 hl0 => ?_⟩
  have s1 : Same H (upd H l0 (.lst (Vc n f))) := same_new hl0
  refine ⟨_, rfl, l0, b, z, n, c, f, bs, B, rfl, .of upd_same, s1.seq hb, hB.mono s1, bf, bB, hc, hbit, hn, fun l H2 s2 fr hl => ?_⟩
  have nlz : l ≠ z := fun e => by
    subst e
    rcases fr with e | e
    · rw [← e] at hl0; rw [hl0] at hoz; cases hoz
    · rw [s1 _ _ hoz] at e; cases e
  clear fr
  have s12 := s1.trans s2
  generalize upd H l0 (.lst (Vc n f)) = H1 at s1 s2
  generalize hg : lessF f B = g at *
  refine ⟨_, rfl, l, _, rfl, hl, fun Dl hD => ?_⟩
  refine lc_same (K := K) (walk_enum (K := K) (a := l) (xs := Vc n g)) hD (fun i ds => ds = (((List.range i).filter fun k => g k ≠ 0).map fun (k : Nat) => (k : Int)).map D.int) (by rw [Vc_len]; omega) (fun H6 s6 => s6.seq hl) rfl ?_ ?_
  · rintro j y H3 H4 ds hj s3 ⟨T, u, v, rfl, hT, rfl, hu, hv⟩ hds Qe Qn he hn'
    rw [Vc_len] at hj
    cases hu
    obtain ⟨_, rfl⟩ := Vc_get' hv
    refine ⟨T, _, rfl, .of upd_same, rfl, _, _, rfl, _, _, rfl, rfl, rfl, ?_⟩
    refine ⟨_, rfl, rfl, _, rfl, ite2 (fun z => ?_) (fun z => ?_)⟩
    · refine ⟨_, rfl, he _ _ _ (same_new hT) (.int _) ?_⟩
      have gz : g j ≠ 0 := fun q => by simp [q] at z
      rw [hds, List.range_succ, List.filter_append, List.map_append, List.map_append]
      simp [gz]
    · have gz : g j = 0 := by simpa using z
      refine hn' _ (same_new hT) ?_
      rw [hds, List.range_succ, List.filter_append]
      simp [gz]
  · intro H6 ws ds s6 e6 r6 hds _
    rw [Vc_len] at hds
    subst hds
    have ew := r6.ints_inv
    subst ew
    have hmem : ∀ k, k ∈ ((List.range n).filter fun k => g k ≠ 0) ↔ k < n ∧ g k ≠ 0 := fun k => by simp [List.mem_filter]
    generalize ((List.range n).filter fun k => g k ≠ 0) = F at *
    have s16 := s12.trans s6
    refine ⟨_, rfl, sz0, fun q1 hq1 => ?_⟩
    have s7 := same_new (o := .lst []) hq1
    have dd := dep_ints (F.map fun (k : Nat) => (k : Int))
    refine .inr ⟨Dl, q1, _, [], _, [], rfl, rfl, .of (s7 _ _ e6), .of upd_same, r6.mono (tu_same s7), .nil, by omega, by simp [D.pys, PyData.depthAll], _, rfl, ite2 (fun z => ?_) (fun z => ?_)⟩
    · refine k0 _ (s16.trans s7) fun k hk => ?_
      have e : F = [] := by simpa using z
      exact Classical.byContradiction fun hne => by
        have q := (hmem k).mpr ⟨hk, hne⟩
        rw [e] at q
        cases q
    · have e : F ≠ [] := fun h => by simp [h] at z
      match F, e with
      | p :: F', _ =>
        obtain ⟨hp, hpn⟩ := (hmem p).mp (List.mem_cons_self ..)
        have s17 := s16.trans s7
        have s27 := s6.trans s7
        have e7 := s7 _ _ e6
        generalize upd H6 q1 (.lst []) = H7 at s17 s27 e7
        refine ⟨_, rfl, b, bs, rfl, .inr (s17.seq hb), _, rfl, Dl, _, _, _, rfl, rfl, .of e7, atI_nat (j := 0) rfl, _, rfl, sz2, fun q2 hq2 => ?_⟩
        have s8 := same_new (o := .tup [.int (p : Int), .ref l]) hq2
        refine ⟨sz_ok (by simp only [List.length_append, List.length_cons, List.length_nil, hB.len]; omega), fun q3 hq3 => ?_⟩
        have s9 := same_new (o := .lst (bs ++ [V.ref q2])) hq3
        refine k1 q3 _ p (bs ++ [V.ref q2]) (s17.trans (s8.trans s9)) ((s17.trans s8).free hq3) hp hpn upd_same ?_
        have hB' := hB.mono (s17.trans (s8.trans s9))
        refine ⟨by rw [List.length_append, List.length_append, hB.len]; rfl, fun i x hx => ?_⟩
        by_cases c1 : i < B.length
        · rw [List.getElem?_append_left c1] at hx
          rw [List.getElem?_append_left (by rw [hB.len]; exact c1)]
          exact hB'.at_ i x hx
        · have e1 : i = B.length := by
            have q := (List.getElem?_eq_some_iff.mp hx).1
            rw [List.length_append, List.length_singleton] at q
            omega
          subst e1
          rw [List.getElem?_append_right (Nat.le_refl _), Nat.sub_self] at hx
          cases hx
          refine ⟨hp, q2, l, ?_, .of (s9 _ _ upd_same), (s27.trans (s8.trans s9)).seq hl, nlz⟩
          rw [List.getElem?_append_right (by rw [hB.len]; exact Nat.le_refl _), hB.len, Nat.sub_self]
          rfl
end
end K56
set_option Elab.async false
set_option linter.all false
set_option maxRecDepth 100000
set_option maxHeartbeats 4000000
namespace K56
open PySem PySem.Spec PyProof.Rows L2
/-! ### basis_of -/
/-- the programs that were found say all of two tables -/
structure Basis (o t : Tb) (ps : List Pg) : Prop where
  few : ps.length ≤ 8
  ok : ∀ p ∈ ps, p.ok o.signs ∧ p.size ≤ 600 ∧ p.height ≤ 9
  all : ∀ p : Pg, p.ok o.signs → ∀ φ, Lin (o.many + t.many) φ → (∀ q ∈ ps, φ (numV o t q) = 0) → φ (numV o t p) = 0
def spBasis (K : PySem.W.Frag) : Sp := fun vs H Q _ => ∃ (ov tv : V) (o t : Tb), vs = [ov, tv] ∧ Rp K H ov o.d ∧ o.ok ∧ Rp K H tv t.d ∧ t.ok ∧ t.signs = o.signs ∧ o.many + t.many ≤ 8 ∧
  ∀ (v : V) (H' : Hp) (ps : List Pg), Same H H' → Rp K H' v (.tup (ps.map Pg.d)) → Basis o t ps → Q v H'
structure WI (K : PySem.W.Frag) (o t : Tb) (H0 H' : Hp) (pl rl : Addr) (ps : List Pg) (B : List Lead) (wp bs : List V) : Prop where
  s : Same H0 H'
  np : H0 pl = none
  ep : H' pl = some (.lst wp)
  rp : RpL K H' wp (ps.map Pg.d)
  er : SqL K H' rl bs
  ne : rl ≠ pl
  bv : BasV K H' pl (o.many + t.many) bs B
  bi : BI o t ps B
theorem WI.same {K : PySem.W.Frag} {o t : Tb} {H0 H1 H2 : Hp} {pl rl : Addr} {ps : List Pg} {B : List Lead} {wp bs : List V} (h : WI K o t H0 H1 pl rl ps B wp bs) (e : Same H1 H2) : WI K o t H0 H2 pl rl ps B wp bs :=
  ⟨h.s.trans e, h.np, e _ _ h.ep, h.rp.mono (tu_same e), e.seq h.er, h.ne, h.bv.mono e, h.bi⟩
section
variable {P : Program} {w : World} {K : PySem.W.Frag} {mg : Str → Option Value} {base : Heap}
theorem sc_basis_of : FnScope ["one", "other", "programs", "rows", "is_done", "program", "more"] ["one", "other"] (defScope s_basis_of) := ⟨rfl, rfl, rfl, by decide +kernel, rfl, by decide +kernel, by decide +kernel⟩
theorem ok_basis_of (A : Hd K mg) : Cl P w K mg base "basis_of" ["one", "other"] 46 (spBasis K) := by
  obtain ⟨fd, F⟩ := A.f_basis_of
  refine Cl.of F A.g_basis_of sc_basis_of (fun _ _ _ _ _ _ us hl => match us, hl with | [_, _], _ => rfl) (fun vs H Q E h => (by obtain ⟨ov, tv, o, t, rfl, ro, ook, rt, tok, hsg, hn, k⟩ := h; rfl)) (fun cdv Ar outer s H vs Q E hr h => ?_)
  obtain ⟨ov, tv, o, t, rfl, ro, ook, rt, tok, hsg, hn, k⟩ := h
  refine ⟨_, (pss_cons (ps_par3 (i := 2) (j := 3) (l := 4) (by rfl) sc_basis_of.nd rfl rfl rfl (by decide) (by decide) (by decide) rfl rfl rfl (pa_cons (pe_lst pa_nil) (pa_cons (pe_lst pa_nil) (pa_cons pe_bl pa_nil))) rfl)
  (pss_cons (ps_while PassesOwn.never (pt_not (pt_val (pv 4) (fun _ => rfl)))
  (pss_cons (ps_set (i := 4) sc_basis_of.nd rfl (.inl rfl) pe_bl)
  (pss_one (ps_for PassesOwn.never (by rfl) (pi_list (pe_cl (ok_signs_over A) (hr.mono (by decide)) (by rfl) (pa_cons (pe_ix ix_tup (pv 0) pe_int (fun _ _ => rfl)) (pa_cons (pe_callTy call_list_of (by rfl) A.z_list (by decide +kernel) (pa_cons (pv 2) pa_nil)) pa_nil)))) (pg_name (i := 5) sc_basis_of.nd rfl (.inl rfl))
  (pss_cons (ps_set (i := 6) sc_basis_of.nd rfl (.inl rfl) (pe_cl (ok_with_row A) (hr.mono (by decide)) (by rfl) (pa_cons (pv 3) (pa_cons (pe_cl (ok_numbers_of A) (hr.mono (by decide)) (by rfl) (pa_cons (pv 0) (pa_cons (pv 1) (pa_cons (pv 5) pa_nil)))) pa_nil))))
  (pss_one (ps_if (pt_cmpR op_notN (pv 6) pe_non (nomark _)) (pss_cons (ps_expr (pe_bm PySem.F.plainAttrs_list PySem.F.slot_list_append PySem.F.type_list_append mt_append (pv 2) (pa_cons (pv 5) pa_nil)))
  (pss_one (ps_par (i := 3) (j := 4) (by rfl) sc_basis_of.nd rfl rfl (by decide) rfl rfl (pa_cons (pv 6) (pa_cons pe_bl pa_nil)) rfl))) pss_nil)))))))
  (pss_one (ps_ret (pe_tupleOf (by rfl) A.z_tuple (pv 2)))))), ?_⟩
  have om := ook.m1
  refine ⟨sz0, fun pl hpl => ⟨sz0, fun rl hrl => ⟨_, _, _, rfl, ?_⟩⟩⟩
  have s2 : Same H (upd (upd H pl (.lst [])) rl (.lst [])) := (same_new hpl).trans (same_new hrl)
  have ep : (upd (upd H pl (.lst [])) rl (.lst [])) pl = some (.lst []) := same_new hrl _ _ upd_same
  have nrp : rl ≠ pl := fun e => by rw [e, upd_same] at hrl; cases hrl
  have w0 : WI K o t H (upd (upd H pl (.lst [])) rl (.lst [])) pl rl [] [] [] [] := ⟨s2, hpl, ep, .nil, .of upd_same, nrp, ⟨rfl, fun i x h => by simp at h⟩, BI.nil⟩
  generalize upd (upd H pl (.lst [])) rl (.lst []) = H1 at w0
  clear s2 ep nrp hrl
  refine ⟨fun m σ H' => ∃ c5 c6 rl d ps B wp bs, σ = [some ov, some tv, some (.ref pl), some (.ref rl), some (.bl d), c5, c6] ∧ WI K o t H H' pl rl ps B wp bs ∧ (d = true → ∀ q ∈ oversL o.signs ps, ∀ k, k < o.many + t.many → lessF (numV o t q) B k = 0) ∧ m = 2 * (o.many + t.many - B.length) + (if d = true then 0 else 1),
    ⟨_, _, _, rl, false, [], [], [], [], rfl, w0, (by intro z; cases z), rfl⟩, ?_⟩
  clear w0 rl
  rintro m σ H' ⟨c5, c6, rl, d, ps0, B0, wp0, bs0, rfl, w1, hd, rfl⟩
  refine ⟨_, rfl, d, rfl, ?_⟩
  cases d with
  | true =>
    refine (ite2 (fun z => by cases z) (fun _ => ?_))
    have bi := w1.bi
    have fw := bi.few
    refine ⟨_, rfl, .inl ⟨pl, _, rfl, .of w1.ep, fun q1 hq1 => k _ _ ps0 (w1.s.trans (same_new hq1)) (rp_new hq1 w1.rp) ⟨by rw [← bi.len]; omega, fun p hp => ?_, bi.done ook tok hsg (hd rfl)⟩⟩⟩
    obtain ⟨h1, h2, h3⟩ := bi.all p hp
    have : ps0.length ≤ 8 := by rw [← bi.len]; omega
    have : 2 ^ ps0.length ≤ 2 ^ 8 := Nat.pow_le_pow_right (by decide) this
    exact ⟨h1, by omega, by omega⟩
  | false =>
    refine (ite2 (fun _ => ?_) (fun z => absurd rfl z))
    refine ⟨fun σ' H2 => ∃ c5 c6 rl d ps B wp bs, σ' = [some ov, some tv, some (.ref pl), some (.ref rl), some (.bl d), c5, c6] ∧ WI K o t H H2 pl rl ps B wp bs ∧ ((d = true ∧ ps = ps0 ∧ B = B0 ∧ ∀ q ∈ oversL o.signs ps0, ∀ k, k < o.many + t.many → lessF (numV o t q) B0 k = 0) ∨ (d = false ∧ B0.length < B.length)), ?_, ?_⟩
    · rintro σ' H2 ⟨c5, c6, rl, d, ps, B, wp, bs, rfl, w2, h2⟩
      refine ⟨_, ?_, c5, c6, rl, d, ps, B, wp, bs, rfl, w2, ?_, rfl⟩
      · have fw := w2.bi.few
        rcases h2 with ⟨rfl, _, rfl, _⟩ | ⟨rfl, h⟩
        · simp
        · simp; omega
      · rintro rfl
        rcases h2 with ⟨_, rfl, rfl, h⟩ | ⟨h, _⟩
        · exact h
        · cases h
    have bi0 := w1.bi
    have fw0 := bi0.few
    have l0 : ps0.length ≤ 8 := by rw [← bi0.len]; omega
    obtain ⟨oa, osg, oe, oes, rfl, hoa, hos, _⟩ := tb_inv ro
    -- signs_over(one[1], list(programs))
    refine ⟨_, rfl, oa, _, _, _, rfl, rfl, (tu_same w1.s).sq hoa, atI_nat (j := 1) rfl, ?_⟩
    refine ⟨_, rfl, pl, wp0, rfl, .inl (.of w1.ep), fun l1 hl1 => ?_⟩
    have w2 := w1.same (same_new (o := .lst wp0) hl1)
    have e1 : (upd H' l1 (.lst wp0)) l1 = some (.lst wp0) := upd_same
    refine ⟨l1, .ref osg, wp0, ps0, o.signs, rfl, nats_of ((tu_same w2.s).sq hos), ook.sg, ook.s6, .of e1, w2.rp, by omega, fun l ws H3 hl s3 e3 r3 => ?_⟩
    have w3 := w2.same s3
    refine ⟨l, rfl, ⟨_, .of e3⟩, ?_⟩
    have npl : l ≠ pl := fun e => by rw [e, w2.ep] at hl; cases hl
    have wl : ws.length = (oversL o.signs ps0).length := by rw [r3.length, List.length_map]
    clear e1 w2
    refine for_list (K := K) (a := l) (xs := ws) (fun i σ' H2 => ∃ c5 c6 rl d ps B wp bs, σ' = [some (.ref oa), some tv, some (.ref pl), some (.ref rl), some (.bl d), c5, c6] ∧ WI K o t H H2 pl rl ps B wp bs ∧ H2 l = some (.lst ws) ∧ RpL K H2 ws ((oversL o.signs ps0).map Pg.d) ∧
      ((d = true ∧ ps = ps0 ∧ B = B0 ∧ ∀ j, j < i → ∀ q, (oversL o.signs ps0)[j]? = some q → ∀ k, k < o.many + t.many → lessF (numV o t q) B0 k = 0) ∨ (d = false ∧ B0.length < B.length)))
      ⟨_, _, rl, true, ps0, B0, wp0, bs0, rfl, w3, e3, r3, .inl ⟨rfl, rfl, rfl, fun j hj => absurd hj (Nat.not_lt_zero _)⟩⟩ (fun i σ' H2 _ ⟨_, _, _, _, _, _, _, _, _, _, e, _⟩ => .of e) ?_ ?_
    · rintro i x σ' H4 hx ⟨c5, c6, rl, d, ps, B, wp, bs, rfl, w4, e4, r4, alt⟩
      obtain ⟨dq, hdq, rq⟩ := r4.get' hx
      rw [List.getElem?_map] at hdq
      cases hq : (oversL o.signs ps0)[i]? with
      | none => rw [hq] at hdq; cases hdq
      | some q =>
        rw [hq] at hdq
        cases hdq
        have hmem := List.mem_of_getElem? hq
        obtain ⟨qok, qz, qh⟩ := overs_ok ook.sg (fun p hp => (bi0.all p hp).1) (z := 2 ^ ps0.length - 1) (h := ps0.length) (fun p hp => ⟨by have := (bi0.all p hp).2.1; omega, (bi0.all p hp).2.2⟩) hmem
        have hle : B0.length ≤ B.length := by
          rcases alt with ⟨_, _, e, _⟩ | ⟨_, e⟩
          · rw [e]; exact Nat.le_refl _
          · omega
        have bi := w4.bi
        have fw := bi.few
        have lps : ps0.length ≤ ps.length := by rw [← bi.len, ← bi0.len]; exact hle
        have l8 : ps.length ≤ 8 := by rw [← bi.len]; omega
        have p1 : 2 ^ (ps0.length + 1) ≤ 2 ^ (ps.length + 1) := Nat.pow_le_pow_right (by decide) (by omega)
        have p2 : 2 ^ (ps.length + 1) ≤ 2 ^ 9 := Nat.pow_le_pow_right (by decide) (by omega)
        have p3 : 2 ^ (ps0.length + 1) = 2 * 2 ^ ps0.length := by rw [Nat.pow_succ, Nat.mul_comm]
        have p4 : 1 ≤ 2 ^ ps0.length := Nat.one_le_two_pow
        have qz1 : q.size + 1 ≤ 2 ^ (ps.length + 1) := by omega
        have bb : bitS B ≤ 20000 := Nat.le_trans bi.bits (Nat.le_trans (Sb_mono (by omega)) Sb8)
        refine ⟨_, rfl, _, rfl, _, rfl, _, rfl, _, tv, x, o, t, q, rfl, ro.mono (tu_same w4.s), ook, rt.mono (tu_same w4.s), tok, rq, qok, by rw [hsg]; exact qok, by omega, by omega, fun nv H5 s5 rn => ?_⟩
        obtain ⟨na, rfl, hna⟩ := nats_inv rn
        rw [numV_list] at hna
        have w5 := w4.same s5
        have e5 := s5 _ _ e4
        have r5 := r4.mono (tu_same s5)
        have rq5 := rq.mono (tu_same s5)
        refine ⟨na, rl, pl, o.many + t.many, 5 * q.size, numV o t q, bs, B, rfl, hna, w5.er, w5.bv, num_bd ook tok q, bi.bd, by have := q.size_pos; omega, by omega, by omega, by omega, ⟨_, w5.ep⟩, fun H6 s6 hz => ?_, fun l2 H6 p bs' s6 fr hp hne el hB => ?_⟩
        · refine ⟨_, rfl, rfl, _, rfl, ite2 (fun z => by cases z) (fun _ => ?_)⟩
          refine ⟨_, _, rl, d, ps, B, wp, bs, rfl, w5.same s6, s6 _ _ e5, r5.mono (tu_same s6), ?_⟩
          rcases alt with ⟨a1, a2, a3, a4⟩ | h
          · refine .inl ⟨a1, a2, a3, fun j hj q' hq' => ?_⟩
            by_cases c : j < i
            · exact a4 j c q' hq'
            · have e : j = i := by omega
              rw [e, hq] at hq'
              cases hq'
              rw [← a3]
              exact hz
          · exact .inr h
        · refine ⟨_, rfl, rfl, _, rfl, ite2 (fun _ => ?_) (fun z => absurd rfl z)⟩
          have w6 := w5.same s6
          refine ⟨_, rfl, .inl ⟨rfl, _, .of w6.ep⟩, _, rfl, pl, _, _, rfl, rfl, w6.ep, ?_, ?_⟩
          · rw [w6.rp.length, List.length_map]
            exact sz_lt (by omega)
          refine ⟨_, rfl, _, _, rfl, ?_⟩
          have t7 : Tu H6 (upd H6 pl (.lst (wp ++ [x]))) := tu_upd w6.ep rfl
          have nl2 : l2 ≠ pl := fun e => by rw [e, w5.ep] at fr; cases fr
          refine ⟨_, _, l2, false, ps ++ [q], B ++ [(p, lessF (numV o t q) B, 5 * q.size + bitS B)], wp ++ [x], bs', rfl, ⟨same_mut w6.s w6.np, w6.np, upd_same, ?_, .of ?_, nl2, hB.upd w6.ep, bi.step ook tok qok qz1 (by omega) hp hne⟩, ?_, ?_, .inr ⟨rfl, ?_⟩⟩
          · rw [List.map_append]
            exact (w6.rp.mono t7).app (.one ((rq5.mono (tu_same s6)).mono t7))
          · rw [upd_ne nl2]; exact el
          · rw [upd_ne npl]; exact s6 _ _ e5
          · exact (r5.mono (tu_same s6)).mono t7
          · rw [List.length_append, List.length_singleton]; omega
    · rintro σ' H4 ⟨c5, c6, rl, d, ps, B, wp, bs, rfl, w4, e4, r4, alt⟩
      refine ⟨c5, c6, rl, d, ps, B, wp, bs, rfl, w4, ?_⟩
      rcases alt with ⟨a1, a2, a3, a4⟩ | h
      · refine .inl ⟨a1, a2, a3, fun q hq => ?_⟩
        obtain ⟨j, hj, e⟩ := List.getElem_of_mem hq
        exact a4 j (by rw [wl]; exact hj) q (by rw [List.getElem?_eq_getElem hj, e])
      · exact .inr h
end
end K56
set_option Elab.async false
set_option linter.all false
set_option maxRecDepth 100000
set_option maxHeartbeats 4000000
namespace K56
open PySem PySem.Spec PyProof.Rows L2
/-! ### unlike_many -/
def tot (t : Tb) (l : List Nat) (p : Pg) : Nat := (l.map (cnt t.ents p)).sum
def sumV (l : List Nat) (v : Vec) : Int := (l.map v).sum
theorem sumV_lin {n : Nat} : ∀ (l : List Nat), (∀ k ∈ l, k < n) → ∃ φ, Lin n φ ∧ ∀ v, φ v = sumV l v
  | [], _ => ⟨_, .zero, fun v => rfl⟩
  | k :: l, h => by
    obtain ⟨φ, h1, h2⟩ := sumV_lin l fun x hx => h x (List.mem_cons_of_mem _ hx)
    refine ⟨_, .add (.at_ k 1 (h k (List.mem_cons_self ..))) h1, fun v => ?_⟩
    show 1 * v k + φ v = sumV (k :: l) v
    rw [h2, Int.one_mul]
    unfold sumV
    rw [List.map_cons, List.sum_cons]
theorem sum_cast : ∀ (l : List Nat) (f : Nat → Nat) (g : Nat → Int), (∀ k ∈ l, g k = (f k : Nat)) → (l.map g).sum = ((l.map f).sum : Nat)
  | [], _, _, _ => rfl
  | k :: l, f, g, h => by
    rw [List.map_cons, List.sum_cons, List.map_cons, List.sum_cons, sum_cast l f g fun x hx => h x (List.mem_cons_of_mem _ hx), h k (List.mem_cons_self ..)]
    simp
theorem tot_one {o t : Tb} {l : List Nat} (h : ∀ k ∈ l, k < o.many) (p : Pg) : sumV l (numV o t p) = (tot o l p : Nat) := sum_cast l _ _ fun k hk => by unfold numV; rw [if_pos (h k hk)]
theorem tot_other {o t : Tb} (l : List Nat) (p : Pg) : sumV (l.map (o.many + ·)) (numV o t p) = (tot t l p : Nat) := by
  unfold sumV
  rw [List.map_map]
  refine sum_cast l _ _ fun k hk => ?_
  show numV o t p (o.many + k) = _
  unfold numV
  rw [if_neg (by omega)]
  congr 2
  omega
/-- alike on the basis: alike on all -/
theorem tot_all {o t : Tb} {ps : List Pg} (b : Basis o t ps) {sL oL : List Nat} (h1 : ∀ k ∈ sL, k < o.many) (h2 : ∀ k ∈ oL, k < t.many) (z : ∀ p ∈ ps, tot o sL p = tot t oL p) : ∀ p : Pg, p.ok o.signs → tot o sL p = tot t oL p := by
  obtain ⟨φ, l1, e1⟩ := sumV_lin (n := o.many + t.many) sL fun k hk => by have := h1 k hk; omega
  obtain ⟨ψ, l2, e2⟩ := sumV_lin (n := o.many + t.many) (oL.map (o.many + ·)) fun k hk => by
    obtain ⟨j, hj, rfl⟩ := List.mem_map.mp hk
    have := h2 j hj
    omega
  have key : ∀ p : Pg, φ (numV o t p) + (-1) * ψ (numV o t p) = 0 ↔ tot o sL p = tot t oL p := fun p => by
    rw [e1, e2, tot_one h1, tot_other]
    omega
  exact fun p hp => (key p).mp (b.all p hp _ (.add l1 (l2.smul (-1))) fun q hq => (key q).mpr (z q hq))
def spUnlike (K : PySem.W.Frag) : Sp := fun vs H Q _ => ∃ (ov tv : V) (sa oa : Addr) (o t : Tb) (sL oL : List Nat), vs = [ov, .ref sa, tv, .ref oa] ∧ Rp K H ov o.d ∧ o.ok ∧ Rp K H tv t.d ∧ t.ok ∧ t.signs = o.signs ∧ o.many + t.many ≤ 8 ∧
  SqT K H sa (sL.map fun (n : Nat) => V.int (n : Int)) ∧ (∀ k ∈ sL, k < o.many) ∧ sL.length ≤ 20 ∧ SqT K H oa (oL.map fun (n : Nat) => V.int (n : Int)) ∧ (∀ k ∈ oL, k < t.many) ∧ oL.length ≤ 20 ∧
  (∀ H', Same H H' → (∀ p : Pg, p.ok o.signs → tot o sL p = tot t oL p) → Q .non H') ∧
  (∀ (v : V) (H' : Hp) (p : Pg), Same H H' → Rp K H' v p.d → p.ok o.signs → p.size ≤ 600 → p.height ≤ 9 → tot o sL p ≠ tot t oL p → Q v H')
section
variable {P : Program} {w : World} {K : PySem.W.Frag} {mg : Str → Option Value} {base : Heap}
theorem sc_unlike_many : FnScope ["one", "some", "other", "others", "program", "numbers", "mine", "kind"] ["one", "some", "other", "others"] (defScope s_unlike_many) := ⟨rfl, rfl, rfl, by decide +kernel, rfl, by decide +kernel, by decide +kernel⟩
theorem ok_unlike_many (A : Hd K mg) : Cl P w K mg base "unlike_many" ["one", "some", "other", "others"] 47 (spUnlike K) := by
  obtain ⟨fd, F⟩ := A.f_unlike_many
  refine Cl.of F A.g_unlike_many sc_unlike_many (fun _ _ _ _ _ _ us hl => match us, hl with | [_, _, _, _], _ => rfl) (fun vs H Q E h => (by obtain ⟨ov, tv, sa, oa, o, t, sL, oL, rfl, ro, ook, rt, tok, hsg, hn, hsa, hsL, lsL, hoa, hoL, loL, k0, k1⟩ := h; rfl)) (fun cdv Ar outer s H vs Q E hr h => ?_)
  obtain ⟨ov, tv, sa, oa, o, t, sL, oL, rfl, ro, ook, rt, tok, hsg, hn, hsa, hsL, lsL, hoa, hoL, loL, k0, k1⟩ := h
  refine ⟨_, (pss_cons (ps_for PassesOwn.never (by rfl) (pi_tup (pe_cl (ok_basis_of A) (hr.mono (by decide)) (by rfl) (pa_cons (pv 0) (pa_cons (pv 2) pa_nil)))) (pg_name (i := 4) sc_unlike_many.nd rfl (.inl rfl))
  (pss_cons (ps_set (i := 5) sc_unlike_many.nd rfl (.inr rfl) (pe_cl (ok_numbers_of A) (hr.mono (by decide)) (by rfl) (pa_cons (pv 0) (pa_cons (pv 2) (pa_cons (pv 4) pa_nil)))))
  (pss_cons (ps_set (i := 6) sc_unlike_many.nd rfl (.inl rfl) (pe_callB (cr_sum (by rfl)) (by rfl) A.z_sum (by decide +kernel) (pa_cons (pe_lcF (own := [("kind", 7)]) (by rfl) sc_unlike_many.nd (pi_tup (pv 1)) (blkOk_by (by rfl)) (fun _ _ _ _ _ => (pg_name (i := 7) sc_unlike_many.nd rfl (.inl rfl))) (fun _ _ _ _ _ => pts_nil) (fun _ _ _ _ _ => (pe_ix ix_tup (pv 5) (pv 7) (fun _ _ => rfl)))) pa_nil)))
  (pss_one (ps_if (pt_cmpR op_ne (pv 6) (pe_callB (cr_sum (by rfl)) (by rfl) A.z_sum (by decide +kernel) (pa_cons (pe_lcF (own := [("kind", 7)]) (by rfl) sc_unlike_many.nd (pi_tup (pv 3)) (blkOk_by (by rfl)) (fun _ _ _ _ _ => (pg_name (i := 7) sc_unlike_many.nd rfl (.inl rfl))) (fun _ _ _ _ _ => pts_nil) (fun _ _ _ _ _ => (pe_ix ix_tup (pv 5) (pe_op op_add (pe_ix ix_tup (pv 0) pe_int (fun _ _ => rfl)) (pv 7)) (fun _ _ => rfl)))) pa_nil)) (nomark _)) (pss_one (ps_ret (pv 4))) pss_nil)))))
  (pss_one (ps_ret pe_non))), ?_⟩
  refine ⟨_, rfl, _, rfl, ov, tv, o, t, rfl, ro, ook, rt, tok, hsg, hn, fun v H1 ps s1 rv bas => ?_⟩
  obtain ⟨ba, bv, rfl, hba, rb⟩ := rv.tup_inv
  refine ⟨ba, rfl, ⟨_, hba⟩, ?_⟩
  have bl : bv.length = ps.length := by rw [rb.length, List.length_map]
  refine for_tup (K := K) (a := ba) (xs := bv) (fun i σ' H2 => ∃ c4 c5 c6 c7, σ' = [some ov, some (.ref sa), some tv, some (.ref oa), c4, c5, c6, c7] ∧ Same H1 H2 ∧ ∀ j, j < i → ∀ q, ps[j]? = some q → tot o sL q = tot t oL q) ⟨_, _, _, _, rfl, Same.refl _, fun j hj => absurd hj (Nat.not_lt_zero _)⟩ (fun i σ' H2 _ ⟨_, _, _, _, _, e, _⟩ => (tu_same e).sq hba) ?_ ?_
  · rintro i x σ' H2 hx ⟨c4, c5, c6, c7, rfl, s2, hj⟩
    obtain ⟨dq, hdq, rq⟩ := (rb.mono (tu_same s2)).get' hx
    rw [List.getElem?_map] at hdq
    cases hq : ps[i]? with
    | none => rw [hq] at hdq; cases hdq
    | some q =>
      rw [hq] at hdq
      cases hdq
      obtain ⟨qok, qz, qh⟩ := bas.ok q (List.mem_of_getElem? hq)
      have s12 := s1.trans s2
      refine ⟨_, rfl, _, rfl, _, rfl, ov, tv, x, o, t, q, rfl, ro.mono (tu_same s12), ook, rt.mono (tu_same s12), tok, rq, qok, by rw [hsg]; exact qok, by omega, by omega, fun nv H3 s3 rn => ?_⟩
      obtain ⟨na, rfl, hna⟩ := nats_inv rn
      rw [numV_list] at hna
      change SqT K H3 na (Vc (o.many + t.many) (numV o t q)) at hna
      have s13 := s12.trans s3
      refine ⟨_, rfl, sa, rfl, ⟨_, (tu_same s13).sq hsa⟩, fun Dl hD => ?_⟩
      refine lc_map (K := K) (walk_tup (K := K) (a := sa) (xs := sL.map fun (n : Nat) => V.int (n : Int))) hD ((sL.map (numV o t q)).map D.int) (by simp) (by rw [List.length_map]; omega) (fun H6 s6 => (tu_same (s13.trans s6)).sq hsa) ?_ ?_
      · rintro j y H4 _ d hd s4 ⟨rfl, hy⟩ Qe he
        rw [List.getElem?_map] at hy
        rw [List.getElem?_map, List.getElem?_map] at hd
        cases hk : sL[j]? with
        | none => rw [hk] at hy; cases hy
        | some kk =>
          rw [hk] at hy hd
          cases hy
          cases hd
          have hlt := hsL kk (List.mem_of_getElem? hk)
          exact ⟨rfl, _, rfl, _, rfl, na, _, _, _, rfl, rfl, (tu_same s4).sq hna, atI_nat (Vc_get _ (by omega)), he _ _ (Same.refl _) (.int _)⟩
      · intro H4 w4 s4 e4 r4
        cases r4.ints_inv
        refine ⟨Dl, _, rfl, .of e4, ?_⟩
        have s14 := s13.trans s4
        obtain ⟨oad, osg, oe, oes, rfl, hoad, _⟩ := tb_inv ro
        refine ⟨_, rfl, _, rfl, oa, rfl, ⟨_, (tu_same s14).sq hoa⟩, fun D2 hD2 => ?_⟩
        refine lc_map (K := K) (walk_tup (K := K) (a := oa) (xs := oL.map fun (n : Nat) => V.int (n : Int))) hD2 (((oL.map (o.many + ·)).map (numV o t q)).map D.int) (by simp) (by rw [List.length_map]; omega) (fun H6 s6 => (tu_same (s14.trans s6)).sq hoa) ?_ ?_
        · rintro j y H5 _ d hd s5 ⟨rfl, hy⟩ Qe he
          rw [List.getElem?_map] at hy
          rw [List.getElem?_map, List.getElem?_map, List.getElem?_map] at hd
          cases hk : oL[j]? with
          | none => rw [hk] at hy; cases hy
          | some kk =>
            rw [hk] at hy hd
            cases hy
            cases hd
            have hlt := hoL kk (List.mem_of_getElem? hk)
            refine ⟨rfl, _, rfl, _, rfl, oad, _, _, _, rfl, rfl, (tu_same (s14.trans s5)).sq hoad, atI_nat (j := 0) rfl, _, rfl, _, _, rfl, rfl, ?_⟩
            refine ⟨na, _, ((o.many + kk : Nat) : Int), _, rfl, by simp, (tu_same (s4.trans s5)).sq hna, atI_nat (Vc_get _ (by omega)), he _ _ (Same.refl _) (.int _)⟩
        · intro H5 w5 s5 e5 r5
          cases r5.ints_inv
          refine ⟨D2, _, rfl, .of e5, rfl, _, rfl, ?_⟩
          have e1 : (sL.map (numV o t q)).sum = (tot o sL q : Nat) := tot_one hsL q
          have e2 : ((oL.map (o.many + ·)).map (numV o t q)).sum = (tot t oL q : Nat) := tot_other oL q
          rw [e1, e2]
          refine ite2 (fun z => ?_) (fun z => ?_)
          · refine ⟨_, rfl, k1 _ _ q (s14.trans s5) (rq.mono (tu_same ((s3.trans s4).trans s5))) qok qz qh fun e => ?_⟩
            rw [e] at z
            simp at z
          · refine ⟨_, _, _, _, rfl, ((s2.trans s3).trans s4).trans s5, fun j' hj' q' hq' => ?_⟩
            by_cases c : j' < i
            · exact hj j' c q' hq'
            · have e : j' = i := by omega
              rw [e, hq] at hq'
              cases hq'
              have z' : ((tot o sL q : Nat) : Int) = (tot t oL q : Nat) := by simpa using z
              omega
  · rintro σ' H2 ⟨c4, c5, c6, c7, rfl, s2, hj⟩
    refine k0 _ (s1.trans s2) (tot_all bas hsL hoL fun p hp => ?_)
    obtain ⟨j, hl, e⟩ := List.getElem_of_mem hp
    exact hj j (by rw [bl]; exact hl) p (by rw [List.getElem?_eq_getElem hl, e])
end
end K56
set_option Elab.async false
set_option linter.all false
set_option maxRecDepth 100000
set_option maxHeartbeats 4000000
namespace K56
open PySem PySem.Spec PyProof.Rows L2
/-! ### with_entries, renumbered -/
def spEntries (K : PySem.W.Frag) : Sp := fun vs H Q _ => ∃ (tv : V) (m : Addr) (ws : List V) (t : Tb) (more : List En), vs = [tv, .ref m] ∧ Rp K H tv t.d ∧ SqT K H m ws ∧ RpL K H ws (more.map En.d) ∧ t.ents.length + more.length < 64 ∧
  ∀ (v : V) (H' : Hp) (fs : List En), Same H H' → Rp K H' v (Tb.mk t.many t.signs fs).d → fs.Nodup → fs.length ≤ t.ents.length + more.length → (∀ e, e ∈ fs ↔ e ∈ t.ents ∨ e ∈ more) → Q v H'
theorem idx_nodup {α : Type} [BEq α] [LawfulBEq α] : ∀ (l : List α) (i : Nat) (x : α), l.Nodup → l[i]? = some x → l.idxOf x = i
  | [], i, x, _, h => by simp at h
  | y :: l, 0, x, _, h => by
    have e : y = x := by simpa using h
    rw [e]
    exact List.idxOf_cons_self
  | y :: l, i + 1, x, d, h => by
    have d' := List.nodup_cons.mp d
    have h' : l[i]? = some x := by simpa using h
    have hne : y ≠ x := fun e => d'.1 (e ▸ List.mem_of_getElem? h')
    have hb : (y == x) = false := beq_eq_false_iff_ne.mpr hne
    rw [List.idxOf_cons, idx_nodup l i x d'.2 h', hb]
    rfl
theorem idx_map (l : List Nat) (x : Nat) : (l.map fun (n : Nat) => (n : Int)).idxOf (x : Int) = l.idxOf x := by
  induction l with
  | nil => rfl
  | cons y l ih =>
    rw [List.map_cons, List.idxOf_cons, List.idxOf_cons, ih]
    by_cases e : y = x
    · simp [e]
    · have e2 : (y : Int) ≠ (x : Int) := fun z => e (Int.ofNat_inj.mp z)
      have h1 : (y == x) = false := by simpa using e
      have h2 : ((y : Int) == (x : Int)) = false := by simpa using e2
      rw [h1, h2]
theorem perm_of_map {l m : List En} (h : (l.map En.d).Perm (m.map En.d)) : l.Perm m := by
  induction l generalizing m with
  | nil =>
    have q := h.length_eq
    match m, q with
    | [], _ => exact .nil
  | cons e l ih =>
    have he : e ∈ m := mem_of_map (h.mem_iff.mp (List.mem_map_of_mem (List.mem_cons_self ..)))
    have q := List.perm_cons_erase he
    have h2 : ((e :: l).map En.d).Perm ((e :: m.erase e).map En.d) := h.trans (q.map _)
    rw [List.map_cons, List.map_cons] at h2
    exact ((ih h2.cons_inv).cons e).trans q.symm
def moveE (order : List Nat) (e : En) : En := ⟨e.sign, e.parts.map order.idxOf, order.idxOf e.kind⟩
structure Order (order : List Nat) (n : Nat) : Prop where
  nd : order.Nodup
  all : ∀ k, k ∈ order ↔ k < n
def spRen (K : PySem.W.Frag) : Sp := fun vs H Q _ => ∃ (tv : V) (ka sa : Addr) (t : Tb) (order : List Nat), vs = [tv, .ref ka, .ref sa] ∧ Rp K H tv t.d ∧ t.ok ∧ Ft H ka (order.map fun (n : Nat) => V.int (n : Int)) ∧ Order order t.many ∧ Ft H sa ((List.range t.signs.length).map fun (n : Nat) => V.int (n : Int)) ∧
  ∀ (v : V) (H' : Hp) (fs : List En), Same H H' → Rp K H' v (Tb.mk t.many t.signs fs).d → fs.Perm (t.ents.map (moveE order)) → Q v H'
section
variable {P : Program} {w : World} {K : PySem.W.Frag} {mg : Str → Option Value} {base : Heap}
theorem sc_with_entries : FnScope ["table", "more", "many", "signs", "entries"] ["table", "more"] (defScope s_with_entries) := ⟨rfl, rfl, rfl, by decide +kernel, rfl, by decide +kernel, by decide +kernel⟩
theorem ok_with_entries (A : Hd K mg) : Cl P w K mg base "with_entries" ["table", "more"] 1 (spEntries K) := by
  obtain ⟨fd, F⟩ := A.f_with_entries
  refine Cl.of F A.g_with_entries sc_with_entries (fun _ _ _ _ _ _ us hl => match us, hl with | [_, _], _ => rfl) (fun vs H Q E h => (by obtain ⟨tv, m, ws, t, more, rfl, rt, hm, rm, few, k⟩ := h; rfl)) (fun cdv Ar outer s H vs Q E hr h => ?_)
  obtain ⟨tv, m, ws, t, more, rfl, rt, hm, rm, few, k⟩ := h
  refine ⟨_, (pss_cons (ps_asg (pv 0) (pg_tup rfl (pgs_cons (pg_name (i := 2) sc_with_entries.nd rfl (.inl rfl)) (pgs_cons (pg_name (i := 3) sc_with_entries.nd rfl (.inl rfl)) (pgs_cons (pg_name (i := 4) sc_with_entries.nd rfl (.inl rfl)) pgs_nil)))))
  (pss_one (ps_ret (pe_tup (pa_cons (pv 2) (pa_cons (pv 3) (pa_cons (pe_tupleOf (by rfl) A.z_tuple (pe_callB (cr_sortedD (by rfl) (hu64 hr)) (by rfl) A.z_sorted (by decide +kernel) (pa_cons (pe_callTy (cr_setD (by rfl) (hu64 hr)) (by rfl) A.z_set (by decide +kernel) (pa_cons (pe_op op_catA (pv 4) (pv 1)) pa_nil)) pa_nil))) pa_nil))))))), ?_⟩
  obtain ⟨ta, sa, ea, es, rfl, hta, hsa, hea, re⟩ := tb_inv rt
  refine ⟨_, rfl, ta, _, rfl, hta, rfl, _, _, rfl, _, _, rfl, _, _, rfl, rfl, ?_⟩
  refine ⟨_, rfl, _, rfl, _, rfl, _, rfl, rCatA_of hea hm ?_ fun p H1 s1 h1 => ?_⟩
  · rw [re.length, rm.length, List.length_map, List.length_map]; exact sz_ok (by omega)
  have r1 : RpL K H1 (es ++ ws) ((t.ents ++ more).map En.d) := by
    rw [List.map_append]
    exact (re.mono (tu_same s1)).app (rm.mono (tu_same s1))
  simp only [tNil]
  refine sortset_ents (.inr h1) r1 (by rw [List.length_append]; omega) fun q H2 ws2 fs s2 hq e2 r2 nd le hmem => ?_
  refine .inl ⟨q, ws2, rfl, .of e2, fun q3 hq3 => ⟨sz3, fun q4 hq4 => ?_⟩⟩
  have s3 := same_new (o := .tup ws2) hq3
  have s4 := same_new (o := .tup [.int (t.many : Int), .ref sa, .ref q3]) hq4
  have s24 := s2.trans (s3.trans s4)
  refine k _ _ fs (s1.trans s24) ?_ nd (by rw [List.length_append] at le; exact le) fun e => by rw [hmem, List.mem_append]
  refine .tup (.of upd_same) (.cons (.int _) (.cons (nats_of ((tu_same (s1.trans s24)).sq hsa)) (.one ?_)))
  exact .tup (.of (s4 _ _ upd_same)) (r2.mono (tu_same (s3.trans s4)))
theorem sc_renumbered : FnScope ["table", "kinds", "signs", "moved", "many", "parts", "entries", "sign", "places", "kind", "place"] ["table", "kinds", "signs"] (defScope s_renumbered) := ⟨rfl, rfl, rfl, by decide +kernel, rfl, by decide +kernel, by decide +kernel⟩
theorem ok_renumbered (A : Hd K mg) : Cl P w K mg base "renumbered" ["table", "kinds", "signs"] 1 (spRen K) := by
  obtain ⟨fd, F⟩ := A.f_renumbered
  refine Cl.of F A.g_renumbered sc_renumbered (fun _ _ _ _ _ _ us hl => match us, hl with | [_, _, _], _ => rfl) (fun vs H Q E h => (by obtain ⟨tv, ka, sg, t, order, rfl, rt, tok, hka, ord, hsg, k⟩ := h; rfl)) (fun cdv Ar outer s H vs Q E hr h => ?_)
  obtain ⟨tv, ka, sg, t, order, rfl, rt, tok, hka, ord, hsg, k⟩ := h
  refine ⟨_, (pss_cons (ps_asg (pv 0) (pg_tup rfl (pgs_cons (pg_name (i := 4) sc_renumbered.nd rfl (.inl rfl)) (pgs_cons (pg_name (i := 5) sc_renumbered.nd rfl (.inr rfl)) (pgs_cons (pg_name (i := 6) sc_renumbered.nd rfl (.inl rfl)) pgs_nil)))))
  (pss_cons (ps_set (i := 3) sc_renumbered.nd rfl (.inl rfl) (pe_lst pa_nil))
  (pss_cons (ps_for PassesOwn.never (by rfl) (pi_tup (pv 6)) (pg_tup rfl (pgs_cons (pg_name (i := 7) sc_renumbered.nd rfl (.inl rfl)) (pgs_cons (pg_name (i := 8) sc_renumbered.nd rfl (.inl rfl)) (pgs_cons (pg_name (i := 9) sc_renumbered.nd rfl (.inl rfl)) pgs_nil))))
  (pss_one (ps_expr (pe_bm PySem.F.plainAttrs_list PySem.F.slot_list_append PySem.F.type_list_append mt_append (pv 3) (pa_cons (pe_tup (pa_cons (pe_tix (pv 2) (pa_cons (pv 7) pa_nil)) (pa_cons (pe_tupleOf (by rfl) A.z_tuple (pe_lcF (own := [("place", 10)]) (by rfl) sc_renumbered.nd (pi_tup (pv 8)) (blkOk_by (by rfl)) (fun _ _ _ _ _ => (pg_name (i := 10) sc_renumbered.nd rfl (.inl rfl))) (fun _ _ _ _ _ => pts_nil) (fun _ _ _ _ _ => (pe_tix (pv 1) (pa_cons (pv 10) pa_nil))))) (pa_cons (pe_tix (pv 1) (pa_cons (pv 9) pa_nil)) pa_nil)))) pa_nil)))))
  (pss_one (ps_ret (pe_tup (pa_cons (pv 4) (pa_cons (pe_tupleOf (by rfl) A.z_tuple (pe_lcF (own := [("sign", 7)]) (by rfl) sc_renumbered.nd (pi_tup (pv 2)) (blkOk_by (by rfl)) (fun _ _ _ _ _ => (pg_name (i := 7) sc_renumbered.nd rfl (.inl rfl))) (fun _ _ _ _ _ => pts_nil) (fun _ _ _ _ _ => (pe_ix ix_tup (pv 5) (pv 7) (fun _ _ => rfl))))) (pa_cons (pe_tupleOf (by rfl) A.z_tuple (pe_callB (cr_sortedD (by rfl) (hu64 hr)) (by rfl) A.z_sorted (by decide +kernel) (pa_cons (pv 3) pa_nil))) pa_nil))))))))), ?_⟩
  obtain ⟨ta, sa, ea, es, rfl, hta, hsa, hea, re⟩ := tb_inv rt
  refine ⟨_, rfl, ta, _, rfl, hta, rfl, _, _, rfl, _, _, rfl, _, _, rfl, rfl, ?_⟩
  refine ⟨sz0, fun ml hml => ?_⟩
  have s1 : Same H (upd H ml (.lst [])) := same_new hml
  have e1 : (upd H ml (.lst [])) ml = some (.lst []) := upd_same
  refine ⟨_, rfl, ea, rfl, ⟨_, (tu_same s1).sq hea⟩, ?_⟩
  have el : es.length = t.ents.length := by rw [re.length, List.length_map]
  have e31 := tok.e31
  have s6' := tok.s6
  refine for_tup (K := K) (a := ea) (xs := es) (fun i σ' H2 => ∃ c7 c8 c9 c10 wm, σ' = [some (.ref ta), some (.ref ka), some (.ref sg), some (.ref ml), some (.int (t.many : Int)), some (.ref sa), some (.ref ea), c7, c8, c9, c10] ∧ Same H H2 ∧ H2 ml = some (.lst wm) ∧ RpL K H2 wm (((t.ents.take i).map (moveE order)).map En.d))
    ⟨_, _, _, _, [], rfl, s1, e1, .nil⟩ (fun i σ' H2 _ ⟨_, _, _, _, _, _, e, _⟩ => (tu_same e).sq hea) ?_ ?_
  · rintro i x σ' H2 hx ⟨c7, c8, c9, c10, wm, rfl, s2, e2, r2⟩
    obtain ⟨d, hd, rd⟩ := (re.mono (tu_same s2)).get' hx
    rw [List.getElem?_map] at hd
    cases he : t.ents[i]? with
    | none => rw [he] at hd; cases hd
    | some e =>
      rw [he] at hd
      cases hd
      have eok := tok.en e (List.mem_of_getElem? he)
      have sl : e.sign < t.signs.length := (List.getElem?_eq_some_iff.mp eok.ar).1
      have pl : e.parts.length ≤ 2 := tok.sg _ (List.mem_of_getElem? eok.ar)
      obtain ⟨a, p, rfl, ha, hp⟩ := en_inv rd
      have nsI : ∀ l : List Nat, (l.map fun (n : Nat) => V.int (n : Int)) = (l.map fun (n : Nat) => (n : Int)).map V.int := fun l => by rw [List.map_map]; rfl
      have fK : Ft H2 ka ((order.map fun (n : Nat) => (n : Int)).map V.int) := by rw [← nsI]; exact hka.same s2
      have fS : Ft H2 sg (((List.range t.signs.length).map fun (n : Nat) => (n : Int)).map V.int) := by rw [← nsI]; exact hsg.same s2
      have iS : ((List.range t.signs.length).map fun (n : Nat) => (n : Int)).idxOf (e.sign : Int) = e.sign := by
        rw [idx_map]
        exact idx_nodup _ _ _ List.nodup_range (List.getElem?_range sl)
      refine ⟨a, _, rfl, ha, rfl, _, _, rfl, _, _, rfl, _, _, rfl, rfl, ?_⟩
      refine ⟨_, rfl, .inl ⟨rfl, _, .of e2⟩, _, rfl, sg, _, rfl, fS, _, rfl, _, rfl, fS, List.mem_map_of_mem (List.mem_range.mpr sl), ?_⟩
      rw [iS]
      refine ⟨_, rfl, p, rfl, ⟨_, hp⟩, fun Dl hD => ?_⟩
      refine lc_map (K := K) (walk_tup (K := K) (a := p) (xs := e.parts.map fun (n : Nat) => V.int (n : Int))) hD ((e.parts.map order.idxOf).map fun (n : Nat) => D.int (n : Int)) (by simp) (by rw [List.length_map]; omega) (fun H6 s6 => (tu_same s6).sq hp) ?_ ?_
      · rintro j y H3 _ d3 hd3 s3 ⟨rfl, hy⟩ Qe hQ
        rw [List.getElem?_map] at hy
        rw [List.getElem?_map, List.getElem?_map] at hd3
        cases hk : e.parts[j]? with
        | none => rw [hk] at hy; cases hy
        | some kk =>
          rw [hk] at hy hd3
          cases hy
          cases hd3
          have hlt := eok.ps kk (List.mem_of_getElem? hk)
          refine ⟨rfl, _, rfl, ka, _, rfl, fK.same s3, _, rfl, _, rfl, fK.same s3, List.mem_map_of_mem ((ord.all kk).mpr hlt), ?_⟩
          rw [idx_map]
          exact hQ _ _ (Same.refl _) (.int _)
      · intro H3 w3 s3 e3 r3
        refine .inl ⟨Dl, _, rfl, .of e3, fun q4 hq4 => ?_⟩
        have s4 := s3.trans (same_new (o := .tup w3) hq4)
        refine ⟨_, rfl, ka, _, rfl, fK.same s4, _, rfl, _, rfl, fK.same s4, List.mem_map_of_mem ((ord.all _).mpr eok.kd), ?_⟩
        rw [idx_map]
        refine ⟨sz3, fun q5 hq5 => ?_⟩
        have s5 := s4.trans (same_new (o := .tup [.int (e.sign : Int), .ref q4, .int (order.idxOf e.kind : Nat)]) hq5)
        have e5 := s5 _ _ e2
        have g5 : Rp K (upd (upd H3 q4 (.tup w3)) q5 (.tup [.int (e.sign : Int), .ref q4, .int (order.idxOf e.kind : Nat)])) (.ref q5) (moveE order e).d := by
          refine .tup (.of upd_same) (.cons (.int _) (.cons ?_ (.one (.int _))))
          exact .tup (.of (same_new hq5 _ _ upd_same)) (r3.mono (tu_same ((same_new hq4).trans (same_new hq5))))
        refine ⟨ml, _, _, rfl, rfl, e5, ?_, ?_⟩
        · rw [r2.length, List.length_map, List.length_map, List.length_take]
          exact sz_lt (by omega)
        have t6 : Tu (upd (upd H3 q4 (.tup w3)) q5 (.tup [.int (e.sign : Int), .ref q4, .int (order.idxOf e.kind : Nat)])) (upd (upd (upd H3 q4 (.tup w3)) q5 (.tup [.int (e.sign : Int), .ref q4, .int (order.idxOf e.kind : Nat)])) ml (.lst (wm ++ [.ref q5]))) := tu_upd e5 rfl
        refine ⟨_, _, _, _, _, rfl, same_mut (s2.trans s5) hml, upd_same, ?_⟩
        rw [take_snoc he, List.map_append, List.map_append]
        exact ((r2.mono (tu_same s5)).mono t6).app (.one (g5.mono t6))
  · rintro σ' H2 ⟨c7, c8, c9, c10, wm, rfl, s2, e2, r2⟩
    rw [el, List.take_length] at r2
    have nsI : ∀ l : List Nat, (l.map fun (n : Nat) => V.int (n : Int)) = (l.map fun (n : Nat) => (n : Int)).map V.int := fun l => by rw [List.map_map]; rfl
    refine ⟨_, rfl, _, rfl, sg, rfl, ⟨_, (hsg.same s2).sq⟩, fun Dl hD => ?_⟩
    refine lc_map (K := K) (walk_tup (K := K) (a := sg) (xs := (List.range t.signs.length).map fun (n : Nat) => V.int (n : Int))) hD (t.signs.map fun (n : Nat) => D.int (n : Int)) (by simp) (by simp; omega) (fun H6 s6 => ((hsg.same s2).same s6).sq) ?_ ?_
    · rintro j y H3 _ d3 hd3 s3 ⟨rfl, hy⟩ Qe hQ
      rw [List.getElem?_map] at hd3
      cases hk : t.signs[j]? with
      | none => rw [hk] at hd3; cases hd3
      | some kk =>
        rw [hk] at hd3
        cases hd3
        have hl := (List.getElem?_eq_some_iff.mp hk).1
        rw [List.getElem?_map, List.getElem?_range hl] at hy
        cases hy
        refine ⟨rfl, _, rfl, _, rfl, sa, _, _, _, rfl, rfl, (tu_same (s2.trans s3)).sq hsa, atI_nat (by rw [List.getElem?_map, hk]; rfl), hQ _ _ (Same.refl _) (.int _)⟩
    · intro H3 w3 s3 e3 r3
      refine .inl ⟨Dl, _, rfl, .of e3, fun q4 hq4 => ?_⟩
      have s4 := s3.trans (same_new (o := .tup w3) hq4)
      obtain ⟨L, rfl, hL, hr⟩ := ents_row (r2.mono (tu_same s4))
      have mL : ∀ p ∈ L, p.2 ∈ (t.ents.map (moveE order)).map En.d := fun p hp => by rw [hL]; exact List.mem_map_of_mem hp
      have lL : L.length = t.ents.length := by
        have q := congrArg List.length hL
        simpa using q.symm
      refine ⟨_, rfl, ml, L, rfl, .inr (.inl (.of (s4 _ _ e2))), hr, ents_sorts mL (by omega), fun p M hp pm => ?_⟩
      have s5 := s4.trans (same_new (o := .lst (M.map fun q => V.ref q.1)) hp)
      obtain ⟨fs, hfs⟩ := ents_back (es := t.ents.map (moveE order)) (M := M) fun q hq => mL q (pm.mem_iff.mp hq)
      refine .inl ⟨p, _, rfl, .of upd_same, fun q6 hq6 => ⟨sz3, fun q7 hq7 => ?_⟩⟩
      have s6 := same_new (o := .tup (M.map fun q => V.ref q.1)) hq6
      have s7 := same_new (o := .tup [.int (t.many : Int), .ref q4, .ref q6]) hq7
      have s57 := s5.trans (s6.trans s7)
      refine k _ _ fs (s2.trans s57) ?_ ?_
      · refine .tup (.of upd_same) (.cons (.int _) (.cons ?_ (.one ?_)))
        · exact .tup (.of (((same_new hp).trans (s6.trans s7)) _ _ upd_same)) (r3.mono (tu_same ((same_new hq4).trans ((same_new hp).trans (s6.trans s7)))))
        · refine .tup (.of (s7 _ _ upd_same)) ?_
          rw [← hfs]
          exact rpL_of fun q hq => (hr q (pm.mem_iff.mp hq)).mono (tu_same ((same_new hp).trans (s6.trans s7)))
      · have q : (fs.map En.d).Perm ((t.ents.map (moveE order)).map En.d) := by rw [← hfs, hL]; exact pm.map _
        exact perm_of_map q
end
end K56
set_option Elab.async false
set_option linter.all false
set_option maxRecDepth 100000
set_option maxHeartbeats 4000000
namespace K56
open PySem PySem.Spec PyProof.Rows L2
/-! ### least_programs, made_kinds -/
def spLeast (K : PySem.W.Frag) : Sp := fun vs H Q _ => ∃ (tv : V) (t : Tb), vs = [tv] ∧ Rp K H tv t.d ∧ t.ok ∧
  ∀ (d : Addr) (kvs : List (Key × V)) (H' : Hp), Same H H' → H' d = some (.dK kvs) → kvs.map (·.1) = (madeL t).map (fun (k : Nat) => (Sum.inl (k : Int) : Key)) → Q (.ref d) H'
def spMadeK (K : PySem.W.Frag) : Sp := fun vs H Q _ => ∃ (tv : V) (t : Tb), vs = [tv] ∧ Rp K H tv t.d ∧ t.ok ∧
  ∀ (l : Addr) (H' : Hp), Same H H' → H' l = some (.lst ((madeL t).map fun (k : Nat) => V.int (k : Int))) → Q (.ref l) H'
theorem mkP_le (s : Nat) (qs : List Pg) (z : Nat) (h : qs.length ≤ 2) (hz : ∀ q ∈ qs, q.size ≤ z) : (mkP s qs).size ≤ 2 * z + 1 := by
  match qs, h, hz with
  | [], _, _ => simp only [mkP, Pg.size]; omega
  | [p], _, hz => have := hz p (by simp); simp only [mkP, Pg.size]; omega
  | [p, q], _, hz => have := hz p (by simp); have := hz q (by simp); simp only [mkP, Pg.size]; omega
  | _ :: _ :: _ :: _, h, _ => simp only [List.length_cons] at h; omega
theorem pair_inv {K : PySem.W.Frag} {H : Hp} {v : V} {p : Pg} (r : Rp K H v (pairD p)) : ∃ t q, v = .ref t ∧ SqT K H t [.int (p.size : Int), q] ∧ Rp K H q p.d := by
  obtain ⟨t, vs, rfl, h, q⟩ := r.tup_inv
  obtain ⟨v1, w1, rfl, r1, q⟩ := q.cons_inv
  obtain ⟨v2, w2, rfl, r2, q⟩ := q.cons_inv
  cases q.nil_inv
  cases r1.int_inv
  exact ⟨t, v2, rfl, h, r2⟩
section
variable {P : Program} {w : World} {K : PySem.W.Frag} {mg : Str → Option Value} {base : Heap}
theorem sc_least_programs : FnScope ["table", "best", "is_new", "sign", "parts", "kind", "size", "found", "part"] ["table"] (defScope s_least_programs) := ⟨rfl, rfl, rfl, by decide +kernel, rfl, by decide +kernel, by decide +kernel⟩
theorem ok_least_programs (A : Hd K mg) : Cl P w K mg base "least_programs" ["table"] 1 (spLeast K) := by
  obtain ⟨fd, F⟩ := A.f_least_programs
  refine Cl.of F A.g_least_programs sc_least_programs (fun _ _ _ _ _ _ us hl => match us, hl with | [_], _ => rfl) (fun vs H Q E h => (by obtain ⟨tv, t, rfl, rt, tok, k⟩ := h; rfl)) (fun cdv Ar outer s H vs Q E hr h => ?_)
  obtain ⟨tv, t, rfl, rt, tok, k⟩ := h
  refine ⟨_, (pss_cons (ps_asg (pe_tup (pa_cons pe_dnewK (pa_cons pe_bl pa_nil))) (pg_tup rfl (pgs_cons (pg_name (i := 1) sc_least_programs.nd rfl (.inr rfl)) (pgs_cons (pg_name (i := 2) sc_least_programs.nd rfl (.inl rfl)) pgs_nil))))
  (pss_cons (ps_while PassesOwn.never (pt_val (pv 2) (fun _ => rfl))
  (pss_cons (ps_set (i := 2) sc_least_programs.nd rfl (.inl rfl) pe_bl)
  (pss_one (ps_for PassesOwn.never (by rfl) (pi_tup (pe_ix ix_tup (pv 0) pe_int (fun _ _ => rfl))) (pg_tup rfl (pgs_cons (pg_name (i := 3) sc_least_programs.nd rfl (.inl rfl)) (pgs_cons (pg_name (i := 4) sc_least_programs.nd rfl (.inl rfl)) (pgs_cons (pg_name (i := 5) sc_least_programs.nd rfl (.inl rfl)) pgs_nil))))
  (pss_one (ps_if (pt_val (pe_callB (cr_all (by rfl)) (by rfl) A.z_all (by decide +kernel) (pa_cons (pe_lcF (own := [("part", 8)]) (by rfl) sc_least_programs.nd (pi_tup (pv 4)) (blkOk_by (by rfl)) (fun _ _ _ _ _ => (pg_name (i := 8) sc_least_programs.nd rfl (.inl rfl))) (fun _ _ _ _ _ => pts_nil) (fun _ _ _ _ _ => (pe_cmp (pc_din (hu_of hr) (pv 8) (pv 1)) (by with_unfolding_all rfl)))) pa_nil)) (fun _ => rfl)) (pss_cons (ps_set (i := 6) sc_least_programs.nd rfl (.inl rfl) (pe_op op_add pe_int (pe_callB (cr_sum (by rfl)) (by rfl) A.z_sum (by decide +kernel) (pa_cons (pe_lcF (own := [("part", 8)]) (by rfl) sc_least_programs.nd (pi_tup (pv 4)) (blkOk_by (by rfl)) (fun _ _ _ _ _ => (pg_name (i := 8) sc_least_programs.nd rfl (.inl rfl))) (fun _ _ _ _ _ => pts_nil) (fun _ _ _ _ _ => (pe_ix ix_tup (pe_dget (hu_of hr) (pv 1) (pv 8) (fun _ _ => rfl)) pe_int (fun _ _ => rfl)))) pa_nil))))
  (pss_cons (ps_set (i := 7) sc_least_programs.nd rfl (.inl rfl) (pe_tup (pa_cons (pv 6) (pa_cons (pe_tup (pa_cons (pv 3) (StX.pa_star (pe_lcF (own := [("part", 8)]) (by rfl) sc_least_programs.nd (pi_tup (pv 4)) (blkOk_by (by rfl)) (fun _ _ _ _ _ => (pg_name (i := 8) sc_least_programs.nd rfl (.inl rfl))) (fun _ _ _ _ _ => pts_nil) (fun _ _ _ _ _ => (pe_ix ix_tup (pe_dget (hu_of hr) (pv 1) (pv 8) (fun _ _ => rfl)) pe_int (fun _ _ => rfl)))) pa_nil))) pa_nil))))
  (pss_one (ps_if (PW.pt (pw_or (pt_cmp (pc_dnotin (hu_of hr) (pv 5) (pv 1)) (by with_unfolding_all rfl)) (pw_or1 (pt_cmpR (op_ltD (hu64 hr)) (pv 7) (pe_dget (hu_of hr) (pv 1) (pv 5) (fun _ _ => rfl)) (nomark _))))) (pss_cons (ps_dput (hu_of hr) (pv 1) (pv 5) (pv 7) rfl)
  (pss_one (ps_set (i := 2) sc_least_programs.nd rfl (.inl rfl) pe_bl))) pss_nil)))) pss_nil))))))
  (pss_one (ps_ret (pe_dcF (own := [("kind", 5)]) (by rfl) sc_least_programs.nd (pi_list (pe_callB (call_sortedDI (by rfl)) (by rfl) A.z_sorted (by decide +kernel) (pa_cons (pv 1) pa_nil))) (blkOk_by (by rfl)) (fun _ _ _ _ _ => (pg_name (i := 5) sc_least_programs.nd rfl (.inl rfl))) (fun _ _ _ _ _ => pts_nil) (fun _ _ _ _ _ => (pv 5)) (fun _ _ _ _ _ => (pe_ix ix_tup (pe_dget (hu_of hr) (pv 1) (pv 5) (fun _ _ => rfl)) pe_int (fun _ _ => rfl)))))))), ?_⟩
  obtain ⟨ta, sa, ea, es, rfl, hta, hsa, hea, re⟩ := tb_inv rt
  have e31 := tok.e31
  have m4 := tok.m4
  have el : es.length = t.ents.length := by rw [re.length, List.length_map]
  refine fun dp hdp => ⟨sz2, fun q1 hq1 => ?_⟩
  have s1 : Same H (upd (upd H dp (.dK [])) q1 (.tup [.ref dp, .bl true])) := (same_new hdp).trans (same_new hq1)
  have e1 : (upd (upd H dp (.dK [])) q1 (.tup [.ref dp, .bl true])) dp = some (.dK []) := same_new hq1 _ _ upd_same
  have t1 : (upd (upd H dp (.dK [])) q1 (.tup [.ref dp, .bl true])) q1 = some (.tup [.ref dp, .bl true]) := upd_same
  refine ⟨q1, _, rfl, .of t1, rfl, _, _, rfl, _, _, rfl, rfl, ?_⟩
  refine ⟨fun m σ H' => ∃ c3 c4 c5 c6 c7 c8 fl kvs b, σ = [some (.ref ta), some (.ref dp), some (.bl fl), c3, c4, c5, c6, c7, c8] ∧ Same H H' ∧ H' dp = some (.dK kvs) ∧ KD kvs t.many (fun v p => Rp K H' v (pairD p)) b ∧ LI t b ∧ (fl = false → ∀ e ∈ t.ents, (∀ k ∈ e.parts, (b k).isSome = true) → (b e.kind).isSome = true) ∧
      m = 2 * mu (rankP t.signs) (allP t.signs 16).length b t.many + (if fl = true then 1 else 0),
    ⟨_, _, _, _, _, _, _, true, [], fun _ => none, rfl, s1, e1, KD.nil, LI.nil t, (by intro z; cases z), rfl⟩, ?_⟩
  rintro m σ H' ⟨c3, c4, c5, c6, c7, c8, fl, kvs, b0, rfl, s2, e2, kd, li, hcl, rfl⟩
  refine ⟨_, rfl, fl, rfl, ?_⟩
  cases fl with
  | false =>
    refine (ite2 (fun z => by cases z) (fun _ => ?_))
    have dn := li.done (hcl rfl)
    obtain ⟨ks, hk1, hk2, hk3, hk4, hk5, hk6⟩ := kd.list
    refine ⟨_, rfl, dp, kvs, ks.map fun (k : Nat) => (k : Int), rfl, .inl e2, by rw [hk1, List.map_map]; rfl, by rw [List.length_map]; omega, fun ys p pm so hp => ?_⟩
    have ey := sorted_made li dn hk2 hk6 pm so
    have s3 := same_new (o := .lst (ys.map V.int)) hp
    refine ⟨p, rfl, ⟨_, .of upd_same⟩, fun D hD => ?_⟩
    refine ⟨fun i m H4 => m = ys.length - i ∧ i ≤ ys.length ∧ Same (upd H' p (.lst (ys.map V.int))) H4 ∧ ∃ kvs2, H4 D = some (.dK kvs2) ∧ kvs2.map (·.1) = ((madeL t).take i).map (fun (k : Nat) => (Sum.inl (k : Int) : Key)), ⟨_, rfl, Nat.zero_le _, same_new hD, [], upd_same, rfl⟩, ?_⟩
    have ly : ys.length = (madeL t).length := by rw [ey, List.length_map]
    have ml : (madeL t).length ≤ 4 := by
      have q := List.length_filter_le (fun k => @decide (Made t.ents k) (Classical.propDecidable _)) (List.range t.many)
      rw [List.length_range] at q
      exact Nat.le_trans q m4
    rintro i m H4 ⟨rfl, hi, s4, kvs2, e4, hk7⟩
    by_cases hlt : i < ys.length
    · have hm : (madeL t)[i]? = some (madeL t)[i] := by simp [← ly, hlt]
      generalize (madeL t)[i] = kk at hm
      have hyi : (ys.map V.int)[i]? = some (.int (kk : Int)) := by rw [ey, List.getElem?_map, List.getElem?_map, hm]; rfl
      refine .inr ⟨⟨_, _, s4.seq (.of upd_same), hyi⟩, fun H5 => Same (upd H' p (.lst (ys.map V.int))) H5 ∧ ∃ kvs2, H5 D = some (.dK kvs2) ∧ kvs2.map (·.1) = ((madeL t).take (i + 1)).map (fun (k : Nat) => (Sum.inl (k : Int) : Key)), fun H5 h5 => ⟨_, by omega, rfl, by omega, h5⟩, ?_⟩
      rintro x H5 ⟨rfl, hx⟩
      have ex := hx _ (s4.seq (.of upd_same))
      rw [hyi] at ex
      cases ex
      have hmk := (madeL_mem kk).mp (List.mem_of_getElem? hm)
      obtain ⟨pg, hpg⟩ := Option.isSome_iff_exists.mp ((dn kk).mpr hmk.2)
      obtain ⟨v, hv1, hv2⟩ := kd.yes kk pg hpg
      obtain ⟨tt, qv, rfl, htt, hqv⟩ := pair_inv hv2
      have s34 := s3.trans s4
      have e5 := s34 _ _ e2
      refine ⟨rfl, _, rfl, _, rfl, _, rfl, dp, .ref tt, rfl, .inl ⟨kvs, .inl (kk : Int), .inl e5, rfl, hv1.symm⟩, ?_⟩
      refine ⟨tt, _, 1, _, rfl, rfl, (tu_same s34).sq htt, atI_nat (j := 1) rfl, kvs2, .inl (kk : Int), rfl, e4, ?_, same_mut s4 hD, _, upd_same, ?_⟩
      · have q := congrArg List.length hk7
        rw [List.length_map, List.length_map, List.length_take] at q
        rw [q]
        exact sz_lt (by omega)
      · have nn : valV kvs2 (.inl (kk : Int)) = none := by
          cases hv : valV kvs2 (.inl (kk : Int)) with
          | none => rfl
          | some z =>
            have q := valV_in hv
            rw [hk7, List.mem_map] at q
            obtain ⟨j, hj, e⟩ := q
            have ej : j = kk := Int.ofNat_inj.mp (Sum.inl.inj e)
            rw [ej] at hj
            have nd : (madeL t).Nodup := (List.Pairwise.filter _ List.pairwise_lt_range).imp fun {a b} z => by omega
            obtain ⟨j2, hj2, e2'⟩ := List.getElem_of_mem hj
            rw [List.length_take] at hj2
            rw [List.getElem_take] at e2'
            have i1 := idx_nodup _ i kk nd hm
            have i2 := idx_nodup _ j2 kk nd (by rw [List.getElem?_eq_getElem (by omega), e2'])
            omega
        rw [putK_new _ nn, List.map_append, hk7, take_snoc hm, List.map_append]
        rfl
    · have e' : i = ys.length := by omega
      subst e'
      rw [ly, List.take_length] at hk7
      exact .inl ⟨⟨_, s4.seq (.of upd_same), by rw [List.length_map]; exact Nat.le_refl _⟩, k D kvs2 H4 ((s2.trans s3).trans s4) e4 hk7⟩
  | true =>
    refine (ite2 (fun _ => ?_) (fun z => absurd rfl z))
    generalize hN : (allP t.signs 16).length = N at *
    refine ⟨fun σ' H2 => ∃ c3 c4 c5 c6 c7 c8 fl kvs b, σ' = [some (.ref ta), some (.ref dp), some (.bl fl), c3, c4, c5, c6, c7, c8] ∧ Same H H2 ∧ H2 dp = some (.dK kvs) ∧ KD kvs t.many (fun v p => Rp K H2 v (pairD p)) b ∧ LI t b ∧
      ((fl = false ∧ b = b0 ∧ ∀ e ∈ t.ents, (∀ k ∈ e.parts, (b0 k).isSome = true) → (b0 e.kind).isSome = true) ∨ (fl = true ∧ mu (rankP t.signs) N b t.many < mu (rankP t.signs) N b0 t.many)), ?_, ?_⟩
    · rintro σ' H2 ⟨c3, c4, c5, c6, c7, c8, fl, kvs, b, rfl, s3, e3, kd3, li3, h3⟩
      refine ⟨_, ?_, c3, c4, c5, c6, c7, c8, fl, kvs, b, rfl, s3, e3, kd3, li3, ?_, rfl⟩
      · rcases h3 with ⟨rfl, rfl, _⟩ | ⟨rfl, h⟩
        · simp
        · simp; omega
      · rintro rfl
        rcases h3 with ⟨_, rfl, h⟩ | ⟨h, _⟩
        · exact h
        · cases h
    refine ⟨_, rfl, ta, _, _, _, rfl, rfl, (tu_same s2).sq hta, atI_nat (j := 2) rfl, ea, rfl, ⟨_, (tu_same s2).sq hea⟩, ?_⟩
    refine for_tup (K := K) (a := ea) (xs := es) (fun i σ' H2 => ∃ c3 c4 c5 c6 c7 c8 fl kvs b, σ' = [some (.ref ta), some (.ref dp), some (.bl fl), c3, c4, c5, c6, c7, c8] ∧ Same H H2 ∧ H2 dp = some (.dK kvs) ∧ KD kvs t.many (fun v p => Rp K H2 v (pairD p)) b ∧ LI t b ∧
      ((fl = false ∧ b = b0 ∧ ∀ j, j < i → ∀ e, t.ents[j]? = some e → (∀ k ∈ e.parts, (b0 k).isSome = true) → (b0 e.kind).isSome = true) ∨ (fl = true ∧ mu (rankP t.signs) N b t.many < mu (rankP t.signs) N b0 t.many)))
      ⟨_, _, _, _, _, _, false, kvs, b0, rfl, s2, e2, kd, li, .inl ⟨rfl, rfl, fun j hj => absurd hj (Nat.not_lt_zero _)⟩⟩ (fun i σ' H2 _ ⟨_, _, _, _, _, _, _, _, _, _, e, _⟩ => (tu_same e).sq hea) ?_ ?_
    · clear e2 kd li s2
      rintro i x σ' H2 hx ⟨c3, c4, c5, c6, c7, c8, fl, kvs, b, rfl, s2, e2, kd, li, alt⟩
      obtain ⟨d, hdd, rd⟩ := (re.mono (tu_same s2)).get' hx
      rw [List.getElem?_map] at hdd
      cases he : t.ents[i]? with
      | none => rw [he] at hdd; cases hdd
      | some e =>
        rw [he] at hdd
        cases hdd
        have hem := List.mem_of_getElem? he
        have eok := tok.en e hem
        have pl : e.parts.length ≤ 2 := tok.sg _ (List.mem_of_getElem? eok.ar)
        obtain ⟨a, p, rfl, ha, hp⟩ := en_inv rd
        refine ⟨a, _, rfl, ha, rfl, _, _, rfl, _, _, rfl, _, _, rfl, rfl, ?_⟩
        refine ⟨_, rfl, p, rfl, ⟨_, hp⟩, fun Dl hD => ?_⟩
        refine lc_vals (walk_tup (K := K) (a := p) (xs := e.parts.map fun (n : Nat) => V.int (n : Int))) hD (e.parts.map fun k => V.bl (b k).isSome) (by simp) (by rw [List.length_map]; omega) (fun H6 s6 => (tu_same s6).sq hp) ?_ ?_
        · rintro j y H3 _ v hv s3 ⟨rfl, hy⟩ Qe hQ
          rw [List.getElem?_map] at hy hv
          cases hk : e.parts[j]? with
          | none => rw [hk] at hy; cases hy
          | some kk =>
            rw [hk] at hy hv
            cases hy
            cases hv
            refine ⟨rfl, _, rfl, _, rfl, dp, _, rfl, .inl ⟨kvs, .inl (kk : Int), .inl (s3 _ _ e2), rfl, rfl⟩, ?_⟩
            rw [kd.some kk]
            exact hQ _ (Same.refl _)
        intro H3 s3 e3
        refine ⟨Dl, e.parts.map fun k => (b k).isSome, rfl, .of (by rw [List.map_map]; exact e3), _, rfl, ite2 (fun z => ?_) (fun z => ?_)⟩
        rotate_left
        · refine ⟨_, _, _, _, _, _, fl, kvs, b, rfl, s2.trans s3, s3 _ _ e2, kd.mono fun v p r => r.mono (tu_same s3), li, ?_⟩
          rcases alt with ⟨a1, a2, a3⟩ | h
          · refine .inl ⟨a1, a2, fun j hj e' he' hall => ?_⟩
            by_cases c : j < i
            · exact a3 j c e' he' hall
            · have ej : j = i := by omega
              rw [ej, he] at he'
              cases he'
              refine absurd ?_ z
              rw [a2]
              simpa using hall
          · exact .inr h
        have hall : ∀ k ∈ e.parts, (b k).isSome = true := by simpa using z
        obtain ⟨qs, hq1, hq2⟩ := parts_fnd e.parts hall
        have kd3 := kd.mono (R' := fun v p => Rp K H3 v (pairD p)) fun v p r => r.mono (tu_same s3)
        have e23 := s3 _ _ e2
        have s23 := s2.trans s3
        have hp3 := (tu_same s3).sq hp
        clear z kd e2 e3 s2 hp
        -- size
        refine ⟨_, rfl, p, rfl, ⟨_, hp3⟩, fun D2 hD2 => ?_⟩
        refine lc_vals (walk_tup (K := K) (a := p) (xs := e.parts.map fun (n : Nat) => V.int (n : Int))) hD2 (qs.map fun q => V.int (q.size : Int)) (by simp [hq1]) (by rw [List.length_map]; omega) (fun H6 s6 => (tu_same s6).sq hp3) ?_ ?_
        · rintro j y H4 _ v hv s4 ⟨rfl, hy⟩ Qe hQ
          rw [List.getElem?_map] at hy hv
          cases hk : e.parts[j]? with
          | none => rw [hk] at hy; cases hy
          | some kk =>
            cases hqj : qs[j]? with
            | none => rw [hqj] at hv; cases hv
            | some q =>
              rw [hk] at hy
              rw [hqj] at hv
              cases hy
              cases hv
              obtain ⟨v, hv1, hv2⟩ := kd3.yes kk q (hq2 j kk q hk hqj)
              obtain ⟨tt, qv, rfl, htt, hqv⟩ := pair_inv hv2
              exact ⟨rfl, _, rfl, _, rfl, dp, .ref tt, rfl, .inl ⟨kvs, .inl (kk : Int), .inl (s4 _ _ e23), rfl, hv1.symm⟩, tt, _, 0, _, rfl, rfl, (tu_same s4).sq htt, atI_nat (j := 0) rfl, hQ _ (Same.refl _)⟩
        intro H4 s4 e4
        refine ⟨D2, qs.map fun q => (q.size : Int), rfl, .of (by rw [List.map_map]; exact e4), _, _, rfl, rfl, ?_⟩
        have hsz := mkP_size e.sign qs (by omega)
        dsimp only
        rw [← hsz]
        -- found
        have hp4 := (tu_same s4).sq hp3
        refine ⟨_, rfl, _, rfl, _, rfl, p, rfl, ⟨_, hp4⟩, fun D3 hD3 => ?_⟩
        refine lc_map (K := K) (walk_tup (K := K) (a := p) (xs := e.parts.map fun (n : Nat) => V.int (n : Int))) hD3 (qs.map Pg.d) (by simp [hq1]) (by rw [List.length_map]; omega) (fun H6 s6 => (tu_same s6).sq hp4) ?_ ?_
        · rintro j y H5 _ v hv s5 ⟨rfl, hy⟩ Qe hQ
          rw [List.getElem?_map] at hy hv
          cases hk : e.parts[j]? with
          | none => rw [hk] at hy; cases hy
          | some kk =>
            cases hqj : qs[j]? with
            | none => rw [hqj] at hv; cases hv
            | some q =>
              rw [hk] at hy
              rw [hqj] at hv
              cases hy
              cases hv
              obtain ⟨v, hv1, hv2⟩ := kd3.yes kk q (hq2 j kk q hk hqj)
              obtain ⟨tt, qv, rfl, htt, hqv⟩ := pair_inv hv2
              have s45 := s4.trans s5
              exact ⟨rfl, _, rfl, _, rfl, dp, .ref tt, rfl, .inl ⟨kvs, .inl (kk : Int), .inl (s45 _ _ e23), rfl, hv1.symm⟩, tt, _, 1, _, rfl, rfl, (tu_same s45).sq htt, atI_nat (j := 1) rfl, hQ _ _ (Same.refl _) (hqv.mono (tu_same s45))⟩
        intro H5 w5 s5 e5 r5
        refine ⟨D3, w5, rfl, .inr (.of e5), ?_⟩
        have w5l : w5.length ≤ 2 := by rw [r5.length, List.length_map]; omega
        refine ⟨sz_ok (by simp only [List.length_cons, List.length_append, List.length_nil]; omega), fun q6 hq6 => ⟨sz2, fun q7 hq7 => ?_⟩⟩
        have s6 : Same H5 (upd H5 q6 (.tup (V.int (e.sign : Int) :: (w5 ++ [])))) := same_new hq6
        have e6 : (upd H5 q6 (.tup (V.int (e.sign : Int) :: (w5 ++ [])))) q6 = some (.tup (V.int (e.sign : Int) :: (w5 ++ []))) := upd_same
        generalize upd H5 q6 (.tup (V.int (e.sign : Int) :: (w5 ++ []))) = H6 at s6 e6 hq7
        have s7 : Same H6 (upd H6 q7 (.tup [.int ((mkP e.sign qs).size : Int), .ref q6])) := same_new hq7
        have e7 : (upd H6 q7 (.tup [.int ((mkP e.sign qs).size : Int), .ref q6])) q7 = some (.tup [.int ((mkP e.sign qs).size : Int), .ref q6]) := upd_same
        generalize upd H6 q7 (.tup [.int ((mkP e.sign qs).size : Int), .ref q6]) = H7 at s7 e7
        have rnew : Rp K H7 (.ref q7) (pairD (mkP e.sign qs)) := by
          refine .tup (.of e7) (.cons (.int _) (.one ?_))
          rw [mkP_d e.sign qs (by omega)]
          refine .tup (.of (s7 _ _ e6)) (.cons (.int _) ?_)
          rw [List.append_nil]
          exact r5.mono (tu_same (s6.trans s7))
        have s37 := (s4.trans s5).trans (s6.trans s7)
        have e27 := s37 _ _ e23
        have s27 := s23.trans s37
        have kd7 := kd3.mono (R' := fun v p => Rp K H7 v (pairD p)) fun v p r => r.mono (tu_same s37)
        have few : kvs.length ≤ t.many := by
          obtain ⟨ks, _, _, _, h4, h5, _⟩ := kd7.list
          omega
        have t8 : Tu H7 (upd H7 dp (.dK (putK kvs (.inl (e.kind : Int)) (.ref q7)))) := tu_upd e27 rfl
        have put : (∀ p, b e.kind = some p → dLt (pairD (mkP e.sign qs)) (pairD p) = true) → KD (putK kvs (.inl (e.kind : Int)) (.ref q7)) t.many (fun v p => Rp K (upd H7 dp (.dK (putK kvs (.inl (e.kind : Int)) (.ref q7)))) v (pairD p)) (putF' b e.kind (mkP e.sign qs)) ∧ LI t (putF' b e.kind (mkP e.sign qs)) ∧
            mu (rankP t.signs) N (putF' b e.kind (mkP e.sign qs)) t.many < mu (rankP t.signs) N b0 t.many := fun hlt => by
          obtain ⟨ok1, li1⟩ := li.put tok hem hq1 hq2 fun p hp => pair_size (hlt p hp)
          refine ⟨(kd7.mono fun v p r => r.mono t8).put eok.kd (rnew.mono t8), li1, ?_⟩
          have sz15 : (mkP e.sign qs).size ≤ 15 := li1.size tok (k := e.kind) (by unfold putF'; rw [if_pos rfl])
          have m1 : mu (rankP t.signs) N (putF' b e.kind (mkP e.sign qs)) t.many < mu (rankP t.signs) N b t.many := mu_lt eok.kd (by rw [← hN]; exact rank_le _ _) fun q hq => rank_lt ok1 sz15 (hlt q hq)
          rcases alt with ⟨_, a2, _⟩ | ⟨_, h⟩
          · rw [← a2]; exact m1
          · omega
        refine ⟨_, rfl, _, rfl, dp, _, rfl, .inl ⟨kvs, .inl (e.kind : Int), .inl e27, rfl, rfl⟩, _, rfl, ?_⟩
        rw [kd7.some]
        cases hb : b e.kind with
        | none =>
          obtain ⟨g1, g2, g3⟩ := put fun p hp => by rw [hb] at hp; cases hp
          refine ite2 (fun _ => ?_) (fun z => absurd rfl z)
          refine ⟨_, rfl, _, rfl, _, rfl, dp, _, rfl, .inl ⟨kvs, .inl (e.kind : Int), e27, rfl, sz_lt (by omega), rfl⟩, ?_⟩
          exact ⟨_, _, _, _, _, _, true, _, _, rfl, same_mut s27 hdp, upd_same, g1, g2, .inr ⟨rfl, g3⟩⟩
        | some pb =>
          refine ite2 (fun z => by cases z) (fun _ => ?_)
          obtain ⟨v, hv1, hv2⟩ := kd7.yes e.kind pb hb
          have hbz := li.size tok hb
          have hh1 := pb.height_lt
          refine ⟨_, rfl, _, rfl, _, rfl, dp, v, rfl, .inl ⟨kvs, .inl (e.kind : Int), .inl e27, rfl, hv1.symm⟩, _, _, rnew, hv2, pair_alike _ _, ?_, _, rfl, ?_⟩
          · have pd := pair_dep (mkP e.sign qs)
            have hl := (mkP e.sign qs).height_lt
            have mz := mkP_le e.sign qs 15 (by omega) fun q hq => by
              obtain ⟨j, hj, e1⟩ := List.getElem_of_mem hq
              have hj' : j < e.parts.length := by omega
              exact li.size tok (hq2 j _ q (List.getElem?_eq_getElem hj') (by rw [List.getElem?_eq_getElem hj, e1]))
            omega
          refine ite2 (fun z => ?_) (fun z => ?_)
          · obtain ⟨g1, g2, g3⟩ := put fun p hp => by
              rw [hb] at hp
              cases hp
              exact z
            refine ⟨_, rfl, _, rfl, _, rfl, dp, _, rfl, .inl ⟨kvs, .inl (e.kind : Int), e27, rfl, sz_lt (by omega), rfl⟩, ?_⟩
            exact ⟨_, _, _, _, _, _, true, _, _, rfl, same_mut s27 hdp, upd_same, g1, g2, .inr ⟨rfl, g3⟩⟩
          · refine ⟨_, _, _, _, _, _, fl, kvs, b, rfl, s27, e27, kd7, li, ?_⟩
            rcases alt with ⟨a1, a2, a3⟩ | h
            · refine .inl ⟨a1, a2, fun j hj e' he' hall' => ?_⟩
              by_cases c : j < i
              · exact a3 j c e' he' hall'
              · have ej : j = i := by omega
                rw [ej, he] at he'
                cases he'
                rw [← a2, hb]
                rfl
            · exact .inr h
    · rintro σ' H4 ⟨c3, c4, c5, c6, c7, c8, fl, kvs, b, rfl, s3, e3, kd3, li3, alt⟩
      refine ⟨c3, c4, c5, c6, c7, c8, fl, kvs, b, rfl, s3, e3, kd3, li3, ?_⟩
      rcases alt with ⟨a1, a2, a3⟩ | h
      · refine .inl ⟨a1, a2, fun e he => ?_⟩
        obtain ⟨j, hj, e1⟩ := List.getElem_of_mem he
        exact a3 j (by rw [el]; exact hj) e (by rw [List.getElem?_eq_getElem hj, e1])
      · exact .inr h
theorem sc_made_kinds : FnScope ["table"] ["table"] (defScope s_made_kinds) := ⟨rfl, rfl, rfl, by decide +kernel, rfl, by decide +kernel, by decide +kernel⟩
theorem ok_made_kinds (A : Hd K mg) : Cl P w K mg base "made_kinds" ["table"] 2 (spMadeK K) := by
  obtain ⟨fd, F⟩ := A.f_made_kinds
  refine Cl.of F A.g_made_kinds sc_made_kinds (fun _ _ _ _ _ _ us hl => match us, hl with | [_], _ => rfl) (fun vs H Q E h => (by obtain ⟨tv, t, rfl, rt, tok, k⟩ := h; rfl)) (fun cdv Ar outer s H vs Q E hr h => ?_)
  obtain ⟨tv, t, rfl, rt, tok, k⟩ := h
  refine ⟨_, (pss_one (ps_ret (pe_callTy (call_list_dK (by rfl)) (by rfl) A.z_list (by decide +kernel) (pa_cons (pe_cl (ok_least_programs A) (hr.mono (by decide)) (by rfl) (pa_cons (pv 0) pa_nil)) pa_nil)))), ?_⟩
  refine ⟨_, rfl, tv, t, rfl, rt, tok, fun d kvs H1 s1 e1 hk => ?_⟩
  refine ⟨d, kvs, rfl, e1, fun q hq => k q _ (s1.trans (same_new hq)) ?_⟩
  rw [upd_same]
  have e : kvs.map (fun kv => kV kv.1) = (kvs.map (·.1)).map kV := by rw [List.map_map]; rfl
  rw [e, hk, List.map_map]
  rfl
end
end K56
set_option Elab.async false
set_option linter.all false
set_option maxRecDepth 100000
set_option maxHeartbeats 4000000
namespace K56
open PySem PySem.Spec PyProof.Rows L2
/-! ### counted, row_by, is_bad -/
def cap (n : Nat) : Nat := min 2 n
theorem cap_add (a x y : Nat) (h : cap x = cap y) : cap (cap a + x) = cap (a + y) := by unfold cap at *; omega
theorem cap_mul (a b x y : Nat) (h1 : cap a = cap b) (h2 : cap x = cap y) : cap (a * x) = cap (b * y) := by
  have key : ∀ n m : Nat, cap (n * m) = cap (cap n * cap m) := fun n m => by
    match n, m with
    | 0, m => simp [cap]
    | n + 1, 0 => simp [cap]
    | 1, 1 => rfl
    | 1, m + 2 => simp [cap]
    | n + 2, 1 => simp [cap]
    | n + 2, m + 2 =>
      have e1 : cap (n + 2) = 2 := by unfold cap; omega
      have e2 : cap (m + 2) = 2 := by unfold cap; omega
      have h3 : 2 * 2 ≤ (n + 2) * (m + 2) := Nat.mul_le_mul (by omega) (by omega)
      rw [e1, e2]
      unfold cap
      omega
  rw [key a x, key b y, h1, h2]
theorem cap_cap (a : Nat) : cap (cap a) = cap a := by unfold cap; omega
def capV (v : Nat → Nat) : Nat → Nat := fun k => cap (v k)
theorem cap_way : ∀ (vs : List (Nat → Nat)) (ks : List Nat), cap (wayP (vs.map capV) ks) = cap (wayP vs ks)
  | [], ks => by simp [wayP]
  | v :: vs, [] => by simp [wayP]
  | v :: vs, k :: ks => by
    simp only [List.map_cons, wayP]
    exact cap_mul _ _ _ _ (cap_cap _) (cap_way vs ks)
theorem way_cap_le : ∀ (vs : List (Nat → Nat)) (ks : List Nat), wayP (vs.map capV) ks ≤ 2 ^ vs.length
  | [], ks => by simp [wayP]
  | v :: vs, [] => by simp only [List.map_cons, wayP]; exact Nat.one_le_two_pow
  | v :: vs, k :: ks => by
    simp only [List.map_cons, wayP, List.length_cons]
    rw [Nat.pow_succ, Nat.mul_comm (2 ^ vs.length)]
    exact Nat.mul_le_mul (by unfold capV cap; omega) (way_cap_le vs ks)
def capL (es : List En) (s : Nat) (vs : List (Nat → Nat)) (m : Nat) : List V := (List.range m).map fun k => V.int (cap (led es s vs k) : Nat)
theorem capL_len (es : List En) (s : Nat) (vs : List (Nat → Nat)) (m : Nat) : (capL es s vs m).length = m := by unfold capL; rw [List.length_map, List.length_range]
theorem capL_get (es : List En) (s : Nat) (vs : List (Nat → Nat)) {m k : Nat} (h : k < m) : (capL es s vs m)[k]? = some (V.int (cap (led es s vs k) : Nat)) := by
  unfold capL
  rw [List.getElem?_map, List.getElem?_range h]; rfl
theorem capL_skip (es : List En) {i : Nat} {e : En} (h : es[i]? = some e) (s : Nat) (vs : List (Nat → Nat)) (m : Nat) (hn : e.sign ≠ s) : capL (es.take (i + 1)) s vs m = capL (es.take i) s vs m := by
  unfold capL
  refine List.map_congr_left fun k _ => ?_
  rw [led_take es h, if_neg fun z => hn z.1]; rfl
theorem capL_put (es : List En) {i : Nat} {e : En} (h : es[i]? = some e) (vs : List (Nat → Nat)) (m : Nat) (x : Nat) (hx : x = cap (led (es.take i) e.sign vs e.kind + wayP vs e.parts)) : (capL (es.take i) e.sign vs m).set e.kind (V.int (x : Nat)) = capL (es.take (i + 1)) e.sign vs m := by
  refine List.ext_getElem (by rw [List.length_set, capL_len, capL_len]) fun k h1 h2 => ?_
  rw [List.length_set, capL_len] at h1
  have g1 := capL_get (es.take i) e.sign vs h1
  have g2 := capL_get (es.take (i + 1)) e.sign vs h1
  rw [List.getElem?_eq_getElem (by rw [capL_len]; exact h1)] at g1 g2
  rw [List.getElem_set]
  rw [Option.some.inj g2, led_take es h]
  by_cases c : e.kind = k
  · rw [if_pos c, if_pos ⟨rfl, c⟩, hx, c]
  · rw [if_neg c, Option.some.inj g1, if_neg fun z => c z.2]
    rfl
/-- a row as the code has it: at each kind a pair, at side the number (no more than 2) -/
def RowAt (K : PySem.W.Frag) (H : Hp) (many side : Nat) (x : V) (v : Nat → Nat) : Prop := ∃ r pv, x = .ref r ∧ SqT K H r pv ∧ ∀ k, k < many → ∃ q cells, pv[k]? = some (.ref q) ∧ SqT K H q cells ∧ cells[side]? = some (.int (cap (v k) : Nat))
theorem RowAt.mono {K : PySem.W.Frag} {H H' : Hp} {many side : Nat} {x : V} {v : Nat → Nat} (h : RowAt K H many side x v) (e : Tu H H') : RowAt K H' many side x v := by
  obtain ⟨r, pv, rfl, h1, h2⟩ := h
  refine ⟨r, pv, rfl, e.sq h1, fun k hk => ?_⟩
  obtain ⟨q, cells, a, b, c⟩ := h2 k hk
  exact ⟨q, cells, a, e.sq b, c⟩
def spCounted (K : PySem.W.Frag) : Sp := fun vs H Q _ => ∃ (ea pa : Addr) (s side many a : Nat) (es : List V) (ents : List En) (signs : List Nat) (rows : List V) (vals : List (Nat → Nat)),
  vs = [.ref ea, .int (s : Int), .ref pa, .int (side : Int), .int (many : Int)] ∧ SqT K H ea es ∧ RpL K H es (ents.map En.d) ∧ (∀ e ∈ ents, e.ok many signs) ∧ ents.length ≤ 100 ∧ signs[s]? = some a ∧ a ≤ 2 ∧ many ≤ 10 ∧ SqT K H pa rows ∧ rows.length = a ∧ vals.length = a ∧
  (∀ (j : Nat) (x : V) (v : Nat → Nat), rows[j]? = some x → vals[j]? = some v → RowAt K H many side x v) ∧
  ∀ (l : Addr) (H' : Hp), Same H H' → H' l = some (.lst (capL ents s vals many)) → Q (.ref l) H'
def rowP (t g : Tb) (p : Pg) : D := .tup ((List.range t.many).map fun k => .tup [.int (cap (cnt t.ents p k) : Nat), .int (cap (cnt g.ents p k) : Nat)])
theorem rpL_get {K : PySem.W.Frag} {H : Hp} : ∀ {vs : List V} {ds : List D}, vs.length = ds.length → (∀ (j : Nat) (v : V) (d : D), vs[j]? = some v → ds[j]? = some d → Rp K H v d) → RpL K H vs ds
  | [], [], _, _ => .nil
  | [], _ :: _, h, _ => by simp at h
  | _ :: _, [], h, _ => by simp at h
  | v :: vs, d :: ds, h, f => .cons (f 0 v d rfl rfl) (rpL_get (by simpa using h) fun j v d h1 h2 => f (j + 1) v d (by simpa using h1) (by simpa using h2))
theorem mkP_sp (s : Nat) (ps : List Pg) (h : ps.length ≤ 2) : (mkP s ps).sign = s ∧ (mkP s ps).parts = ps := by
  match ps, h with
  | [], _ => exact ⟨rfl, rfl⟩
  | [p], _ => exact ⟨rfl, rfl⟩
  | [p, q], _ => exact ⟨rfl, rfl⟩
  | _ :: _ :: _ :: _, h => simp only [List.length_cons] at h; omega
theorem row_at {K : PySem.W.Frag} {H : Hp} {t g : Tb} {p : Pg} {x : V} (r : Rp K H x (rowP t g p)) : RowAt K H t.many 0 x (cnt t.ents p) ∧ RowAt K H t.many 1 x (cnt g.ents p) := by
  obtain ⟨a, vs, rfl, h, q⟩ := r.tup_inv
  have key : ∀ k, k < t.many → ∃ b, vs[k]? = some (.ref b) ∧ SqT K H b [.int (cap (cnt t.ents p k) : Nat), .int (cap (cnt g.ents p k) : Nat)] := fun k hk => by
    obtain ⟨v, h1, h2⟩ := q.get (i := k) (by rw [List.getElem?_map, List.getElem?_range hk]; rfl)
    obtain ⟨b, ws, rfl, h3, h4⟩ := h2.tup_inv
    have e := RpL.ints_inv (ns := [((cap (cnt t.ents p k) : Nat) : Int), ((cap (cnt g.ents p k) : Nat) : Int)]) h4
    subst e
    exact ⟨b, h1, h3⟩
  refine ⟨⟨a, vs, rfl, h, fun k hk => ?_⟩, ⟨a, vs, rfl, h, fun k hk => ?_⟩⟩
  · obtain ⟨b, h1, h2⟩ := key k hk
    exact ⟨b, _, h1, h2, rfl⟩
  · obtain ⟨b, h1, h2⟩ := key k hk
    exact ⟨b, _, h1, h2, rfl⟩
def spRowBy (K : PySem.W.Frag) : Sp := fun vs H Q _ => ∃ (tv gv : V) (s : Nat) (pa : Addr) (t g : Tb) (ps : List Pg) (rows : List V), vs = [tv, gv, .int (s : Int), .ref pa] ∧ Rp K H tv t.d ∧ t.ok ∧ Rp K H gv g.d ∧ g.ok ∧ g.many = t.many ∧ g.signs = t.signs ∧ t.signs[s]? = some ps.length ∧
  SqT K H pa rows ∧ RpL K H rows (ps.map (rowP t g)) ∧ ∀ (v : V) (H' : Hp), Same H H' → Rp K H' v (rowP t g (mkP s ps)) → Q v H'
def spBad (K : PySem.W.Frag) : Sp := fun vs H Q _ => ∃ (x : V) (cs : List Int), vs = [x] ∧ Rp K H x (.tup (cs.map fun c => .tup [.int c, .int c])) ∧ cs.length ≤ 1000 ∧ ∀ H', Same H H' → Q (.bl false) H'
section
variable {P : Program} {w : World} {K : PySem.W.Frag} {mg : Str → Option Value} {base : Heap}
theorem sc_counted : FnScope ["entries", "sign", "parts", "side", "many", "found", "other", "kinds", "kind", "times", "row", "part"] ["entries", "sign", "parts", "side", "many"] (defScope s_counted) := ⟨rfl, rfl, rfl, by decide +kernel, rfl, by decide +kernel, by decide +kernel⟩
theorem ok_counted (A : Hd K mg) : Cl P w K mg base "counted" ["entries", "sign", "parts", "side", "many"] 1 (spCounted K) := by
  obtain ⟨fd, F⟩ := A.f_counted
  refine Cl.of F A.g_counted sc_counted (fun _ _ _ _ _ _ us hl => match us, hl with | [_, _, _, _, _], _ => rfl) (fun vs H Q E h => (by obtain ⟨ea, pa, s0, side, many, ar, es, ents, signs, rows, vals, rfl, hea, re, eok, few, hsg, ha2, hm, hpa, lr, lv, hrow, k⟩ := h; rfl)) (fun cdv Ar outer s H vs Q E hr h => ?_)
  obtain ⟨ea, pa, s0, side, many, ar, es, ents, signs, rows, vals, rfl, hea, re, eok, few, hsg, ha2, hm, hpa, lr, lv, hrow, k⟩ := h
  refine ⟨_, (pss_cons (ps_setLcF (i := 5) (own := [("kind", 8)]) (by rfl) sc_counted.nd rfl rfl (sw_true rfl rfl rfl (by decide +kernel)) (pi_range1 (by rfl) A.z_range (pa_cons (pv 4) pa_nil)) (blkOk_by (by rfl)) (fun _ _ _ _ _ => (pg_name (i := 8) sc_counted.nd rfl (.inl rfl))) (fun _ _ _ _ _ => pts_nil) (fun _ _ _ _ _ => pe_int))
  (pss_cons (ps_for PassesOwn.never (by rfl) (pi_tup (pv 0)) (pg_tup rfl (pgs_cons (pg_name (i := 6) sc_counted.nd rfl (.inl rfl)) (pgs_cons (pg_name (i := 7) sc_counted.nd rfl (.inl rfl)) (pgs_cons (pg_name (i := 8) sc_counted.nd rfl (.inl rfl)) pgs_nil))))
  (pss_one (ps_if (pt_cmpR op_eq (pv 6) (pv 1) (nomark _)) (pss_cons (ps_set (i := 9) sc_counted.nd rfl (.inl rfl) pe_int)
  (pss_cons (ps_for PassesOwn.never (by rfl) (RZ.pi_zipA (by rfl) A.z_zip (pa_cons (pv 2) (pa_cons (pv 7) pa_nil))) (pg_tup rfl (pgs_cons (pg_name (i := 10) sc_counted.nd rfl (.inl rfl)) (pgs_cons (pg_name (i := 11) sc_counted.nd rfl (.inl rfl)) pgs_nil)))
  (pss_one (ps_set (i := 9) sc_counted.nd rfl (.inl rfl) (pe_op op_mul (pv 9) (pe_ix ix_tup (pe_ix ix_tup (pv 10) (pv 11) (fun _ _ => rfl)) (pv 3) (fun _ _ => rfl))))))
  (pss_one (ps_asg (pe_callB (call_min2 (by rfl)) (by rfl) A.z_min (by decide +kernel) (pa_cons pe_int (pa_cons (pe_op op_add (pe_ix ix_list (pv 5) (pv 8) (fun _ _ => rfl)) (pv 9)) pa_nil))) (pg_sub (pv 5) (pv 8) set_list))))) pss_nil)))
  (pss_one (ps_ret (pv 5))))), ?_⟩
  have el : es.length = ents.length := by rw [re.length, List.length_map]
  refine ⟨_, rfl, _, rfl, by omega, by omega, fun fl hfl => ?_⟩
  refine lc_vals (walk_range (lo := 0) (n := many)) hfl (capL [] s0 vals many) (capL_len ..) (by omega) (fun _ _ => trivial) ?_ ?_
  · rintro i x H1 _ v hv s1 ⟨rfl, rfl⟩ Qe hQ
    have hi : i < many := by
      have q := (List.getElem?_eq_some_iff.mp hv).1
      rwa [capL_len] at q
    rw [capL_get _ _ _ hi] at hv
    cases hv
    exact ⟨rfl, hQ _ (Same.refl _)⟩
  intro H1 s1 e1
  refine ⟨_, rfl, ea, rfl, ⟨_, (tu_same s1).sq hea⟩, ?_⟩
  refine for_tup (K := K) (a := ea) (xs := es) (fun i σ' H2 => ∃ c6 c7 c8 c9 c10 c11, σ' = [some (.ref ea), some (.int (s0 : Int)), some (.ref pa), some (.int (side : Int)), some (.int (many : Int)), some (.ref fl), c6, c7, c8, c9, c10, c11] ∧ Same H H2 ∧ H2 fl = some (.lst (capL (ents.take i) s0 vals many)))
    ⟨_, _, _, _, _, _, rfl, s1, e1⟩ (fun i σ' H2 _ ⟨_, _, _, _, _, _, _, e, _⟩ => (tu_same e).sq hea) ?_ ?_
  · rintro i x σ' H2 hx ⟨c6, c7, c8, c9, c10, c11, rfl, s2, e2⟩
    obtain ⟨d, hd, rd⟩ := (re.mono (tu_same s2)).get' hx
    rw [List.getElem?_map] at hd
    cases he : ents[i]? with
    | none => rw [he] at hd; cases hd
    | some e =>
      rw [he] at hd
      cases hd
      have ok := eok e (List.mem_of_getElem? he)
      obtain ⟨a, p, rfl, ha, hp⟩ := en_inv rd
      refine ⟨a, _, rfl, ha, rfl, _, _, rfl, _, _, rfl, _, _, rfl, rfl, ?_⟩
      refine ⟨_, rfl, _, rfl, rfl, _, rfl, ite2 (fun z => ?_) (fun z => ?_)⟩
      rotate_left
      · have hne : e.sign ≠ s0 := fun q => by simp [q] at z
        exact ⟨_, _, _, _, _, _, rfl, s2, by rw [capL_skip ents he s0 vals many hne]; exact e2⟩
      have hes : e.sign = s0 := by
        have q := of_decide_eq_true z
        simp only [V.int.injEq] at q
        exact Int.ofNat_inj.mp q
      have har : e.parts.length = ar := by
        have q := ok.ar
        rw [hes, hsg] at q
        exact (Option.some.inj q).symm
      clear z
      subst hes
      refine ⟨_, rfl, _, rfl, pa, p, _, _, rfl, .inr ⟨(tu_same s2).sq hpa, hp, ?_⟩⟩
      refine RZ.for_zipT (K := K) (xs := rows) (ys := e.parts.map fun (n : Nat) => V.int (n : Int)) (by rw [List.length_map]; omega) (fun j σ H3 => ∃ c10 c11, σ = [some (.ref ea), some (.int (e.sign : Int)), some (.ref pa), some (.int (side : Int)), some (.int (many : Int)), some (.ref fl), some (.int (e.sign : Int)), some (.ref p), some (.int (e.kind : Int)), some (.int (wayP ((vals.take j).map capV) (e.parts.take j) : Nat)), c10, c11] ∧ Same H2 H3 ∧ j ≤ ar)
        ⟨_, _, rfl, Same.refl _, Nat.zero_le _⟩ (fun j σ H3 ⟨_, _, _, s3, _⟩ => ⟨(tu_same (s2.trans s3)).sq hpa, (tu_same s3).sq hp⟩) ?_ ?_
      · rintro j y z T σ H3 hy hz ⟨c10, c11, rfl, s3, hj⟩ hT
        rw [List.getElem?_map] at hz
        cases ez : e.parts[j]? with
        | none => rw [ez] at hz; cases hz
        | some kk =>
          rw [ez] at hz
          cases hz
          have hjl : j < e.parts.length := (List.getElem?_eq_some_iff.mp ez).1
          have ev : vals[j]? = some vals[j] := by simp [lv, ← har, hjl]
          generalize vals[j] = v at ev
          have hkm := ok.ps kk (List.mem_of_getElem? ez)
          have s4 : Same H2 (upd H3 T (.tup [y, .int (kk : Int)])) := s3.trans (same_new hT)
          obtain ⟨r, pv, rfl, h1, h2⟩ := (hrow j y v hy ev).mono (tu_same (s2.trans s4))
          obtain ⟨q, cells, h3, h4, h5⟩ := h2 kk hkm
          have wl := way_cap_le (vals.take j) (e.parts.take j)
          have wl2 : 2 ^ (vals.take j).length ≤ 2 ^ 2 := Nat.pow_le_pow_right (by decide) (by rw [List.length_take]; omega)
          refine ⟨T, _, rfl, .of upd_same, rfl, _, _, rfl, _, _, rfl, rfl, ?_⟩
          refine ⟨_, rfl, _, rfl, _, rfl, r, pv, _, _, rfl, rfl, h1, atI_nat h3, _, rfl, q, cells, _, _, rfl, rfl, h4, atI_nat h5, _, _, rfl, rfl, .inl ⟨by omega, by omega⟩, ?_⟩
          have ew : wayP ((vals.take (j + 1)).map capV) (e.parts.take (j + 1)) = wayP ((vals.take j).map capV) (e.parts.take j) * cap (v kk) := by
            rw [take_snoc ev, take_snoc ez, List.map_append]
            exact wayP_snoc _ _ _ _ (by rw [List.length_map, List.length_take, List.length_take]; omega)
          refine ⟨some (.ref r), some (.int (kk : Int)), ?_, s4, by omega⟩
          rw [ew, Int.natCast_mul]
          rfl
      · rintro σ H3 ⟨c10, c11, rfl, s3, hj⟩
        have e3 := s3 _ _ e2
        have hkl : e.kind < (capL (ents.take i) e.sign vals many).length := by rw [capL_len]; exact ok.kd
        have ix : ixN (capL (ents.take i) e.sign vals many).length ((e.kind : Nat) : Int) = some e.kind := by
          unfold ixN
          rw [if_pos (Int.natCast_nonneg _)]
          simp [hkl]
        have f1 : vals.take rows.length = vals := by rw [lr, ← lv]; exact List.take_length ..
        have f2 : e.parts.take rows.length = e.parts := by rw [lr, ← har]; exact List.take_length ..
        rw [f1, f2]
        refine ⟨_, rfl, _, rfl, fl, _, _, _, rfl, rfl, .of e3, atI_nat (capL_get _ _ _ ok.kd), _, rfl, _, _, rfl, rfl, _, _, rfl, _, rfl, _, rfl, fl, _, _, _, rfl, rfl, e3, ix, ?_⟩
        refine ⟨_, _, _, _, _, _, rfl, same_mut (s2.trans s3) hfl, ?_⟩
        rw [upd_same]
        have hc := cap_add (led (ents.take i) e.sign vals e.kind) (wayP (vals.map capV) e.parts) (wayP vals e.parts) (cap_way vals e.parts)
        have hv : (if ((cap (led (ents.take i) e.sign vals e.kind) : Nat) : Int) + (wayP (vals.map capV) e.parts : Nat) < 2 then ((cap (led (ents.take i) e.sign vals e.kind) : Nat) : Int) + (wayP (vals.map capV) e.parts : Nat) else 2) = ((cap (led (ents.take i) e.sign vals e.kind + wayP vals e.parts) : Nat) : Int) := by
          rw [← hc]
          rw [← Int.natCast_add]
          generalize cap (led (ents.take i) e.sign vals e.kind) + wayP (vals.map capV) e.parts = n
          unfold cap
          split <;> omega
        exact congrArg (fun z => some (HO.lst z)) ((congrArg (fun z => (capL (ents.take i) e.sign vals many).set e.kind (V.int z)) hv).trans (capL_put ents he vals many _ rfl))
  · rintro σ' H2 ⟨c6, c7, c8, c9, c10, c11, rfl, s2, e2⟩
    rw [el, List.take_length] at e2
    exact ⟨_, rfl, k fl H2 s2 e2⟩
theorem sc_row_by : FnScope ["table", "greater", "sign", "parts", "old", "new"] ["table", "greater", "sign", "parts"] (defScope s_row_by) := ⟨rfl, rfl, rfl, by decide +kernel, rfl, by decide +kernel, by decide +kernel⟩
theorem ok_row_by (A : Hd K mg) : Cl P w K mg base "row_by" ["table", "greater", "sign", "parts"] 2 (spRowBy K) := by
  obtain ⟨fd, F⟩ := A.f_row_by
  refine Cl.of F A.g_row_by sc_row_by (fun _ _ _ _ _ _ us hl => match us, hl with | [_, _, _, _], _ => rfl) (fun vs H Q E h => (by obtain ⟨tv, gv, s0, pa, t, g, ps, rows, rfl, rt, tok, rg, gok, gm, gs, hsg, hpa, rr, k⟩ := h; rfl)) (fun cdv Ar outer s H vs Q E hr h => ?_)
  obtain ⟨tv, gv, s0, pa, t, g, ps, rows, rfl, rt, tok, rg, gok, gm, gs, hsg, hpa, rr, k⟩ := h
  refine ⟨_, (pss_cons (ps_set (i := 4) sc_row_by.nd rfl (.inl rfl) (pe_cl (ok_counted A) (hr.mono (by decide)) (by rfl) (pa_cons (pe_ix ix_tup (pv 0) pe_int (fun _ _ => rfl)) (pa_cons (pv 2) (pa_cons (pv 3) (pa_cons pe_int (pa_cons (pe_ix ix_tup (pv 0) pe_int (fun _ _ => rfl)) pa_nil)))))))
  (pss_cons (ps_set (i := 5) sc_row_by.nd rfl (.inl rfl) (pe_cl (ok_counted A) (hr.mono (by decide)) (by rfl) (pa_cons (pe_ix ix_tup (pv 1) pe_int (fun _ _ => rfl)) (pa_cons (pv 2) (pa_cons (pv 3) (pa_cons pe_int (pa_cons (pe_ix ix_tup (pv 0) pe_int (fun _ _ => rfl)) pa_nil)))))))
  (pss_one (ps_ret (pe_tupleOf (by rfl) A.z_tuple (pe_listZip (by rfl) (by rfl) A.z_list (by rfl) A.z_zip (pa_cons (pv 4) (pa_cons (pv 5) pa_nil)))))))), ?_⟩
  obtain ⟨ta, sa, ea, es, rfl, hta, hsa, hea, re⟩ := tb_inv rt
  obtain ⟨ga, sb, eb, fs, rfl, hga, hsb, heb, rf⟩ := tb_inv rg
  have m4 := tok.m4
  have m1 := tok.m1
  have t31 := tok.e31
  have g31 := gok.e31
  have a2 : ps.length ≤ 2 := tok.sg _ (List.mem_of_getElem? hsg)
  have lr : rows.length = ps.length := by rw [rr.length, List.length_map]
  obtain ⟨sg1, sg2⟩ := mkP_sp s0 ps a2
  refine ⟨_, rfl, ta, _, _, _, rfl, rfl, hta, atI_nat (j := 2) rfl, _, rfl, _, rfl, _, rfl, ta, _, _, _, rfl, rfl, hta, atI_nat (j := 0) rfl, ?_⟩
  refine ⟨ea, pa, s0, 0, t.many, ps.length, es, t.ents, t.signs, rows, ps.map (cnt t.ents), rfl, hea, re, tok.en, by omega, hsg, a2, by omega, hpa, lr, by simp, fun j x v hx hv => ?_, fun l1 H1 s1 e1 => ?_⟩
  · obtain ⟨d, hd, rd⟩ := rr.get' hx
    rw [List.getElem?_map] at hd hv
    cases hp : ps[j]? with
    | none => rw [hp] at hd; cases hd
    | some p => rw [hp] at hd hv; cases hd; cases hv; exact (row_at rd).1
  refine ⟨_, rfl, ga, _, _, _, rfl, rfl, (tu_same s1).sq hga, atI_nat (j := 2) rfl, _, rfl, _, rfl, _, rfl, ta, _, _, _, rfl, rfl, (tu_same s1).sq hta, atI_nat (j := 0) rfl, ?_⟩
  refine ⟨eb, pa, s0, 1, t.many, ps.length, fs, g.ents, t.signs, rows, ps.map (cnt g.ents), rfl, (tu_same s1).sq heb, rf.mono (tu_same s1), (fun e he => by have q := gok.en e he; rw [gm, gs] at q; exact q), by omega, hsg, a2, by omega, (tu_same s1).sq hpa, lr, by simp, fun j x v hx hv => ?_, fun l2 H2 s2 e2 => ?_⟩
  · obtain ⟨d, hd, rd⟩ := (rr.mono (tu_same s1)).get' hx
    rw [List.getElem?_map] at hd hv
    cases hp : ps[j]? with
    | none => rw [hp] at hd; cases hd
    | some p => rw [hp] at hd hv; cases hd; cases hv; exact (row_at rd).2
  refine ⟨_, rfl, _, rfl, l1, l2, _, _, rfl, .of (s2 _ _ e1), .of e2, by rw [capL_len, capL_len], by rw [capL_len]; exact m1, by rw [capL_len]; omega, fun l qs H3 hl s3 e3 ql each => ?_⟩
  refine .inl ⟨l, _, rfl, .of e3, fun q4 hq4 => k _ _ ((s1.trans s2).trans ((show Same H2 H3 from s3).trans (same_new hq4))) ?_⟩
  refine .tup (.of upd_same) (rpL_get (by rw [List.length_map, List.length_map, List.length_range, ql, capL_len]) fun j v d hv hd => ?_)
  rw [List.getElem?_map] at hv hd
  cases hj : qs[j]? with
  | none => rw [hj] at hv; cases hv
  | some q =>
    have jm : j < t.many := by
      have z := (List.getElem?_eq_some_iff.mp hj).1
      rw [ql, capL_len] at z
      exact z
    rw [hj] at hv
    rw [List.getElem?_range jm] at hd
    cases hv
    cases hd
    have c := each j q _ _ hj (capL_get _ _ _ jm) (capL_get _ _ _ jm)
    rw [cnt_eq, cnt_eq, sg1, sg2]
    exact .tup (.of (same_new hq4 _ _ c)) (.cons (.int _) (.one (.int _)))
theorem sc_is_bad : FnScope ["row", "old", "new"] ["row"] (defScope s_is_bad) := ⟨rfl, rfl, rfl, by decide +kernel, rfl, by decide +kernel, by decide +kernel⟩
theorem ok_is_bad (A : Hd K mg) : Cl P w K mg base "is_bad" ["row"] 1 (spBad K) := by
  obtain ⟨fd, F⟩ := A.f_is_bad
  refine Cl.of F A.g_is_bad sc_is_bad (fun _ _ _ _ _ _ us hl => match us, hl with | [_], _ => rfl) (fun vs H Q E h => (by obtain ⟨x, cs, rfl, rx, few, k⟩ := h; rfl)) (fun cdv Ar outer s H vs Q E hr h => ?_)
  obtain ⟨x, cs, rfl, rx, few, k⟩ := h
  refine ⟨_, (pss_one (ps_ret (pe_and (pe_cmpR op_eq (pe_callB (cr_sum (by rfl)) (by rfl) A.z_sum (by decide +kernel) (pa_cons (pe_lcF (own := [("old", 1), ("new", 2)]) (by rfl) sc_is_bad.nd (pi_tup (pv 0)) (blkOk_by (by rfl)) (fun _ _ _ _ _ => (pg_tup rfl (pgs_cons (pg_name (i := 1) sc_is_bad.nd rfl (.inl rfl)) (pgs_cons (pg_name (i := 2) sc_is_bad.nd rfl (.inl rfl)) pgs_nil)))) (fun _ _ _ _ _ => pts_nil) (fun _ _ _ _ _ => (pv 1))) pa_nil)) pe_int (nomark _)) (pe_one (pe_cmpR op_gt (pe_callB (cr_sum (by rfl)) (by rfl) A.z_sum (by decide +kernel) (pa_cons (pe_lcF (own := [("old", 1), ("new", 2)]) (by rfl) sc_is_bad.nd (pi_tup (pv 0)) (blkOk_by (by rfl)) (fun _ _ _ _ _ => (pg_tup rfl (pgs_cons (pg_name (i := 1) sc_is_bad.nd rfl (.inl rfl)) (pgs_cons (pg_name (i := 2) sc_is_bad.nd rfl (.inl rfl)) pgs_nil)))) (fun _ _ _ _ _ => pts_nil) (fun _ _ _ _ _ => (pv 2))) pa_nil)) pe_int (nomark _)))))), ?_⟩
  obtain ⟨a, vs, rfl, ha, rv⟩ := rx.tup_inv
  have vl : vs.length = cs.length := by rw [rv.length, List.length_map]
  have step : ∀ (H1 : Hp) (j : Nat) (y : V), Same H H1 → vs[j]? = some y → ∃ (b : Addr) (c : Int), cs[j]? = some c ∧ y = .ref b ∧ SqT K H1 b [.int c, .int c] := fun H1 j y s1 hy => by
    obtain ⟨d, hd, rd⟩ := (rv.mono (tu_same s1)).get' hy
    rw [List.getElem?_map] at hd
    cases hc : cs[j]? with
    | none => rw [hc] at hd; cases hd
    | some c =>
      rw [hc] at hd
      cases hd
      obtain ⟨b, ws, rfl, hb, q⟩ := rd.tup_inv
      have e := RpL.ints_inv (ns := [c, c]) q
      subst e
      exact ⟨b, c, rfl, rfl, hb⟩
  refine ⟨_, rfl, a, rfl, ⟨_, ha⟩, fun D1 hD1 => ?_⟩
  refine lc_vals (walk_tup (K := K) (a := a) (xs := vs)) hD1 (cs.map V.int) (by rw [List.length_map, vl]) (by omega) (fun H6 s6 => (tu_same s6).sq ha) ?_ ?_
  · rintro j y H1 _ v hv s1 ⟨rfl, hy⟩ Qe hQ
    obtain ⟨b, c, hc, rfl, hb⟩ := step _ j y s1 hy
    rw [List.getElem?_map, hc] at hv
    cases hv
    exact ⟨b, _, rfl, hb, rfl, _, _, rfl, _, _, rfl, rfl, rfl, _, rfl, hQ _ (Same.refl _)⟩
  intro H1 s1 e1
  refine ⟨D1, cs, rfl, .of e1, rfl, ?_⟩
  by_cases c : cs.sum = 1
  · refine ⟨true, by rw [c]; rfl, ?_⟩
    rw [if_pos rfl]
    refine ⟨_, rfl, a, rfl, ⟨_, (tu_same s1).sq ha⟩, fun D2 hD2 => ?_⟩
    refine lc_vals (walk_tup (K := K) (a := a) (xs := vs)) hD2 (cs.map V.int) (by rw [List.length_map, vl]) (by omega) (fun H6 s6 => (tu_same (s1.trans s6)).sq ha) ?_ ?_
    · rintro j y H2 _ v hv s2 ⟨rfl, hy⟩ Qe hQ
      obtain ⟨b, c, hc, rfl, hb⟩ := step _ j y (s1.trans s2) hy
      rw [List.getElem?_map, hc] at hv
      cases hv
      exact ⟨b, _, rfl, hb, rfl, _, _, rfl, _, _, rfl, rfl, rfl, _, rfl, hQ _ (Same.refl _)⟩
    intro H2 s2 e2
    refine ⟨D2, cs, rfl, .of e2, _, _, rfl, rfl, ?_⟩
    have q := k H2 (s1.trans s2)
    rw [c]
    exact q
  · refine ⟨false, ?_, ?_⟩
    · exact congrArg V.bl (decide_eq_false fun e => c (by simpa using e))
    · rw [if_neg (by decide)]
      exact k H1 s1
end
end K56
set_option Elab.async false
set_option linter.all false
set_option maxRecDepth 100000
set_option maxHeartbeats 4000000
namespace K56
open PySem PySem.Spec PyProof.Rows L2
/-! ### Rows.offer -/
abbrev cR (K : PySem.W.Frag) : Addr := He.ga K "Rows"
def fsR (tv gv : V) (dp dl : Addr) : List (Str × V) := [("old_table", tv), ("new_table", gv), ("its_programs", .ref dp), ("its_line", .ref dl)]
theorem rowP_nk (t g : Tb) (p : Pg) : (rowP t g p).nk.depth ≤ 8 := by
  have key : ∀ l : List Nat, NestedKey.depthAll (D.nks (l.map fun k => D.tup [.int (cap (cnt t.ents p k) : Nat), .int (cap (cnt g.ents p k) : Nat)])) ≤ 1 := fun l => by
    induction l with
    | nil => simp [D.nks, NestedKey.depthAll]
    | cons k l ih =>
      simp only [List.map_cons, D.nks, NestedKey.depthAll, D.nk, NestedKey.depth] at ih ⊢
      omega
  have q := key (List.range t.many)
  unfold rowP
  simp only [D.nk, NestedKey.depth]
  omega
/-- a program stands at a row -/
structure RowOf (K : PySem.W.Frag) (H : Hp) (t g : Tb) (h : Nat) (y : D × Addr × Addr) (p : Pg) : Prop where
  ok : p.ok t.signs
  ht : p.height ≤ h
  row : y.1 = rowP t g p
  key : Rp K H (.ref y.2.1) y.1
  val : Rp K H (.ref y.2.2) (pairD p)
theorem RowOf.mono {K : PySem.W.Frag} {H H' : Hp} {t g : Tb} {h h' : Nat} {y : D × Addr × Addr} {p : Pg} (r : RowOf K H t g h y p) (e : Tu H H') (l : h ≤ h') : RowOf K H' t g h' y p := ⟨r.ok, Nat.le_trans r.ht l, r.row, r.key.mono e, r.val.mono e⟩
structure RS (K : PySem.W.Frag) (P : Program) (w : World) (t g : Tb) (H : Hp) (x dx : Addr) (tv gv : V) (dp dl : Addr) (xs ls : Nd) (e1 e2 : Nat) : Prop where
  ins : H x = some (.ins (cR K) dx (fsR tv gv dp dl))
  rt : Rp K H tv t.d
  rg : Rp K H gv g.d
  ep : H dp = some (NdO P w dp xs e1)
  el : H dl = some (NdO P w dl ls e2)
  ne : dp ≠ dl
  np : ∀ y ∈ xs, ∃ p, RowOf K H t g (xs.length - 1) y p
  nl : ∀ y ∈ ls, ∃ p, RowOf K H t g xs.length y p
  kp : (xs.map (·.1)).Nodup
  kl : (ls.map (·.1)).Nodup
  dj : ∀ y ∈ ls, y.1 ∉ xs.map (·.1)
section
variable {K : PySem.W.Frag} {P : Program} {w : World} {t g : Tb} {H H' : Hp} {x dx : Addr} {tv gv : V} {dp dl : Addr} {xs ls : Nd} {e1 e2 : Nat}
theorem RS.same (h : RS K P w t g H x dx tv gv dp dl xs ls e1 e2) (s : Same H H') : RS K P w t g H' x dx tv gv dp dl xs ls e1 e2 where
  ins := s _ _ h.ins
  rt := h.rt.mono (tu_same s)
  rg := h.rg.mono (tu_same s)
  ep := s _ _ h.ep
  el := s _ _ h.el
  ne := h.ne
  np := fun y hy => by obtain ⟨p, r⟩ := h.np y hy; exact ⟨p, r.mono (tu_same s) (Nat.le_refl _)⟩
  nl := fun y hy => by obtain ⟨p, r⟩ := h.nl y hy; exact ⟨p, r.mono (tu_same s) (Nat.le_refl _)⟩
  kp := h.kp
  kl := h.kl
  dj := h.dj
theorem RS.ndp (h : RS K P w t g H x dx tv gv dp dl xs ls e1 e2) : NdK K H xs := fun y hy => by
  obtain ⟨p, r⟩ := h.np y hy
  exact ⟨r.key, by rw [r.row]; exact rowP_nk t g p⟩
theorem RS.ndl (h : RS K P w t g H x dx tv gv dp dl xs ls e1 e2) : NdK K H ls := fun y hy => by
  obtain ⟨p, r⟩ := h.nl y hy
  exact ⟨r.key, by rw [r.row]; exact rowP_nk t g p⟩
theorem nodup_put {xs : Nd} (h : (xs.map (·.1)).Nodup) (k : D) (q v : Addr) : ((ndPut xs k q v).map (·.1)).Nodup := by
  by_cases c : k ∈ xs.map (·.1)
  · obtain ⟨p, hp⟩ := ndAt_some c
    have e : (ndPut xs k q v).map (·.1) = xs.map (·.1) := by
      unfold ndPut
      rw [if_pos (by rw [hp]; rfl), List.map_map]
      refine List.map_congr_left fun x _ => ?_
      show (if x.1 = k then (x.1, x.2.1, v) else x).1 = x.1
      split <;> rfl
    rw [e]
    exact h
  · rw [len_put_new c, List.map_append]
    refine List.nodup_append.mpr ⟨h, by simp, fun a ha b hb e => c ?_⟩
    have e2 : b = k := by simpa using hb
    rw [← e2, ← e]
    exact ha
theorem nodup_drop {xs : Nd} (h : (xs.map (·.1)).Nodup) (k : D) : ((ndDrop xs k).map (·.1)).Nodup := by
  unfold ndDrop
  exact List.Pairwise.sublist (List.Sublist.map _ List.filter_sublist) h
theorem at_mem {xs : Nd} (h : (xs.map (·.1)).Nodup) {y : D × Addr × Addr} (hy : y ∈ xs) : ndAt xs y.1 = some y.2 := by
  induction xs with
  | nil => cases hy
  | cons z xs ih =>
    rw [List.map_cons, List.nodup_cons] at h
    unfold ndAt
    rw [List.find?_cons]
    rcases List.mem_cons.mp hy with e | hy
    · subst e
      simp
    · have hne : ¬ z.1 = y.1 := fun e => h.1 (e ▸ List.mem_map_of_mem hy)
      rw [decide_eq_false hne]
      exact ih h.2 hy
theorem choose_list {α β : Type} {R : α → β → Prop} : ∀ (ys : List α), (∀ y ∈ ys, ∃ p, R y p) → ∃ qs : List β, qs.length = ys.length ∧ ∀ (j : Nat) (y : α) (q : β), ys[j]? = some y → qs[j]? = some q → R y q
  | [], _ => ⟨[], rfl, fun j y q h => by simp at h⟩
  | y :: ys, h => by
    obtain ⟨qs, h1, h2⟩ := choose_list ys fun z hz => h z (List.mem_cons_of_mem _ hz)
    obtain ⟨p, hp⟩ := h y (List.mem_cons_self ..)
    refine ⟨p :: qs, by simp [h1], fun j z q e1 e2 => ?_⟩
    cases j with
    | zero => simp at e1 e2; rw [← e1, ← e2]; exact hp
    | succ j => exact h2 j z q (by simpa using e1) (by simpa using e2)
theorem But.same0 {H0 H H' : Hp} {b : Addr} (e : Same H0 H) (h : But b H H') (n : H0 b = none) : Same H0 H' := fun a o ha => h a o (fun z => by rw [z, n] at ha; cases ha) (e a o ha)
theorem But.pre {b : Addr} {H0 H H' : Hp} (e : Same H0 H) (h : But b H H') : But b H0 H' := fun a o n ha => h a o n (e a o ha)
theorem But.upd {b : Addr} {H H' : Hp} {o : HO} (e : Same H H') : But b H (upd H' b o) := fun a u n ha => by rw [upd_ne n]; exact e a u ha
end
theorem mkP_okh {signs : List Nat} (s : Nat) (qs : List Pg) {h : Nat} (hl : qs.length ≤ 2) (hs : signs[s]? = some qs.length) (hq : ∀ q ∈ qs, q.ok signs ∧ q.height ≤ h - 1) (hp : qs ≠ [] → 1 ≤ h) : (mkP s qs).ok signs ∧ (mkP s qs).height ≤ h := by
  match qs, hl, hs, hq, hp with
  | [], _, hs, _, _ => exact ⟨hs, by simp only [mkP, Pg.height]; omega⟩
  | [p], _, hs, hq, hp =>
    have h1 := hq p (by simp)
    have h2 := hp (by simp)
    exact ⟨⟨hs, h1.1⟩, by simp only [mkP, Pg.height]; omega⟩
  | [p, q], _, hs, hq, hp =>
    have h1 := hq p (by simp)
    have h1' := hq q (by simp)
    have h2 := hp (by simp)
    exact ⟨⟨hs, h1.1, h1'.1⟩, by simp only [mkP, Pg.height]; omega⟩
  | _ :: _ :: _ :: _, hl, _, _, _ => simp only [List.length_cons] at hl; omega
def spOffer (K : PySem.W.Frag) (P : Program) (w : World) : Sp := fun vs H Q _ => ∃ (x dx : Addr) (tv gv : V) (dp dl : Addr) (xs ls : Nd) (e1 e2 s : Nat) (pa : Addr) (t g : Tb) (rows : List V) (ys : Nd),
  vs = [.ref x, .int (s : Int), .ref pa] ∧ RS K P w t g H x dx tv gv dp dl xs ls e1 e2 ∧ t.ok ∧ g.ok ∧ g.many = t.many ∧ g.signs = t.signs ∧ t.signs[s]? = some ys.length ∧ SqT K H pa rows ∧ RpL K H rows (ys.map (·.1)) ∧ (∀ y ∈ ys, y ∈ xs) ∧ xs.length ≤ 40 ∧ ls.length ≤ 9000 ∧
  ∀ (H' : Hp) (ls' : Nd) (e2' : Nat), But dl H H' → ls'.length ≤ ls.length + 1 → RS K P w t g H' x dx tv gv dp dl xs ls' e1 e2' → Q .non H'
section
variable {P : Program} {w : World} {K : PySem.W.Frag} {mg : Str → Option Value} {base : Heap}
theorem sc_Rows_offer : FnScope ["self", "sign", "parts", "program", "size", "row"] ["self", "sign", "parts"] (defScope s_Rows_offer) := ⟨rfl, rfl, rfl, by decide +kernel, rfl, by decide +kernel, by decide +kernel⟩
theorem ok_offer (A : Hd K mg) : Me P w K mg base (He.ma K (cR K) "offer") ["self", "sign", "parts"] 3 (spOffer K P w) := by
  obtain ⟨fd, F⟩ := A.f_Rows_offer
  refine Me.of F sc_Rows_offer (fun _ _ _ _ _ _ us hl => match us, hl with | [_, _, _], _ => rfl) (fun vs H Q E h => (by obtain ⟨x, dx, tv, gv, dp, dl, xs, ls, e1, e2, s0, pa, t, g, rows, ys, rfl, _⟩ := h; rfl)) (fun cdv Ar outer s H vs Q E hr h => ?_)
  obtain ⟨x, dx, tv, gv, dp, dl, xs, ls, e1, e2, s0, pa, t, g, rows, ys, rfl, R0, tok, gok, gm, gs, hsg, hpa, rr, hys, hx40, hl9, k⟩ := h
  have a2 : ys.length ≤ 2 := tok.sg _ (List.mem_of_getElem? hsg)
  have lr : rows.length = ys.length := by rw [rr.length, List.length_map]
  obtain ⟨qs, hq1, hq2⟩ := choose_list (R := fun y p => RowOf K H t g (xs.length - 1) y p) ys fun y hy => R0.np y (hys y hy)
  have atY : ∀ (j : Nat) (v : V) (H1 : Hp), Same H H1 → rows[j]? = some v → ∃ (y : D × Addr × Addr) (q : Pg) (b : Addr) (qv : V), qs[j]? = some q ∧ v = .ref b ∧ Rp K H1 (.ref b) y.1 ∧ y.1.nk.depth ≤ 8 ∧ ndAt xs y.1 = some (y.2.1, y.2.2) ∧ SqT K H1 y.2.2 [.int (q.size : Int), qv] ∧ Rp K H1 qv q.d := fun j v H1 s1 hv => by
    obtain ⟨d, hd, rd⟩ := (rr.mono (tu_same s1)).get' hv
    rw [List.getElem?_map] at hd
    cases hy : ys[j]? with
    | none => rw [hy] at hd; cases hd
    | some y =>
      rw [hy] at hd
      cases hd
      dsimp only at rd
      have hj : j < qs.length := by rw [hq1]; exact (List.getElem?_eq_some_iff.mp hy).1
      have hqj : qs[j]? = some qs[j] := by simp [hj]
      have ro := (hq2 j y _ hy hqj).mono (tu_same s1) (Nat.le_refl _)
      generalize qs[j] = q at hqj ro
      have hrow := ro.row
      obtain ⟨tt, qv, e, h1, h2⟩ := pair_inv ro.val
      have hk : y.1.nk.depth ≤ 8 := by rw [hrow]; exact rowP_nk t g q
      obtain ⟨b, _, rfl, _⟩ : ∃ b ws, v = .ref b ∧ SqT K H1 b ws := by
        rw [hrow] at rd
        obtain ⟨b, ws, e, h, _⟩ := rd.tup_inv
        exact ⟨b, ws, e, h⟩
      cases e
      exact ⟨y, q, b, qv, hqj, rfl, rd, hk, at_mem R0.kp (hys y (List.mem_of_getElem? hy)), h1, h2⟩
  refine ⟨_, (pss_cons (ps_set (i := 3) sc_Rows_offer.nd rfl (.inl rfl) (pe_tup (pa_cons (pv 1) (StX.pa_star (pe_lcF (own := [("row", 5)]) (by rfl) sc_Rows_offer.nd (pi_tup (pv 2)) (blkOk_by (by rfl)) (fun _ _ _ _ _ => (pg_name (i := 5) sc_Rows_offer.nd rfl (.inl rfl))) (fun _ _ _ _ _ => pts_nil) (fun _ _ _ _ _ => (pe_ix ix_tup (pe_kget (hu64 hr) (pe_fld (pv 0) rfl) (pv 5) (fun _ _ => rfl)) pe_int (fun _ _ => rfl)))) pa_nil))))
  (pss_cons (ps_set (i := 4) sc_Rows_offer.nd rfl (.inl rfl) (pe_op op_add pe_int (pe_callB (cr_sum (by rfl)) (by rfl) A.z_sum (by decide +kernel) (pa_cons (pe_lcF (own := [("row", 5)]) (by rfl) sc_Rows_offer.nd (pi_tup (pv 2)) (blkOk_by (by rfl)) (fun _ _ _ _ _ => (pg_name (i := 5) sc_Rows_offer.nd rfl (.inl rfl))) (fun _ _ _ _ _ => pts_nil) (fun _ _ _ _ _ => (pe_ix ix_tup (pe_kget (hu64 hr) (pe_fld (pv 0) rfl) (pv 5) (fun _ _ => rfl)) pe_int (fun _ _ => rfl)))) pa_nil))))
  (pss_cons (ps_set (i := 5) sc_Rows_offer.nd rfl (.inl rfl) (pe_cl (ok_row_by A) (hr.mono (by decide)) (by rfl) (pa_cons (pe_fld (pv 0) rfl) (pa_cons (pe_fld (pv 0) rfl) (pa_cons (pv 1) (pa_cons (pv 2) pa_nil))))))
  (pss_one (ps_if (PW.pt (pw_and (pt_cmp (pc_knotin (hu64 hr) (pv 5) (pe_fld (pv 0) rfl)) (by with_unfolding_all rfl)) (pw_and1 (PW.pt (pw_or (pt_cmp (pc_knotin (hu64 hr) (pv 5) (pe_fld (pv 0) rfl)) (by with_unfolding_all rfl)) (pw_or1 (pt_cmpR (op_ltD (hu64 hr)) (pe_tup (pa_cons (pv 4) (pa_cons (pv 3) pa_nil))) (pe_kget (hu64 hr) (pe_fld (pv 0) rfl) (pv 5) (fun _ _ => rfl)) (nomark _)))))))) (pss_one (ps_asg (pe_tup (pa_cons (pv 4) (pa_cons (pv 3) pa_nil))) (pg_sub (pe_fld (pv 0) rfl) (pv 5) (set_kdict (hu64 hr))))) pss_nil))))), ?_⟩
  -- program
  refine ⟨_, rfl, _, rfl, pa, rfl, ⟨_, hpa⟩, fun D1 hD1 => ?_⟩
  refine lc_map (K := K) (walk_tup (K := K) (a := pa) (xs := rows)) hD1 (qs.map Pg.d) (by rw [List.length_map, hq1, lr]) (by omega) (fun H6 s6 => (tu_same s6).sq hpa) ?_ ?_
  · rintro j y H1 _ d hd s1 ⟨rfl, hy⟩ Qe hQ
    obtain ⟨y0, q, b, qv, h1, rfl, h3, h4, h5, h6, h7⟩ := atY j y _ s1 hy
    rw [List.getElem?_map, h1] at hd
    cases hd
    have R1 := R0.same s1
    exact ⟨rfl, _, rfl, x, _, dx, _, _, rfl, R1.ins, A.cl_Rows, A.na_its_programs, rfl, _, rfl, dp, xs, e1, b, y0.1, _, _, rfl, R1.ep, R1.ndp, rfl, h3, h4, h5, y0.2.2, _, 1, _, rfl, rfl, h6, atI_nat (j := 1) rfl, hQ _ _ (Same.refl _) h7⟩
  intro H1 w1 s1 e1' r1
  have w1l : w1.length ≤ 2 := by rw [r1.length, List.length_map]; omega
  refine ⟨D1, w1, rfl, .inr (.of e1'), sz_ok (by simp only [List.length_cons, List.length_append, List.length_nil]; omega), fun q1 hq1' => ?_⟩
  have s2 : Same H1 (upd H1 q1 (.tup (V.int (s0 : Int) :: (w1 ++ [])))) := same_new hq1'
  have rp2 : Rp K (upd H1 q1 (.tup (V.int (s0 : Int) :: (w1 ++ [])))) (.ref q1) (mkP s0 qs).d := by
    rw [mkP_d s0 qs (by omega)]
    refine .tup (.of upd_same) (.cons (.int _) ?_)
    have z := r1.mono (tu_same s2)
    rw [List.append_nil] at z ⊢
    exact z
  show tSeq _ _ _ _ (upd H1 q1 (.tup (V.int (s0 : Int) :: (w1 ++ []))))
  generalize upd H1 q1 (.tup (V.int (s0 : Int) :: (w1 ++ []))) = H2 at s2 rp2
  have s02 := s1.trans s2
  clear hq1' r1 e1'
  -- size
  have hpa2 := (tu_same s02).sq hpa
  refine ⟨_, rfl, pa, rfl, ⟨_, hpa2⟩, fun D2 hD2 => ?_⟩
  refine lc_vals (walk_tup (K := K) (a := pa) (xs := rows)) hD2 (qs.map fun q => V.int (q.size : Int)) (by rw [List.length_map, hq1, lr]) (by omega) (fun H6 s6 => (tu_same s6).sq hpa2) ?_ ?_
  · rintro j y H3 _ d hd s3 ⟨rfl, hy⟩ Qe hQ
    obtain ⟨y0, q, b, qv, h1, rfl, h3, h4, h5, h6, h7⟩ := atY j y _ (s02.trans s3) hy
    rw [List.getElem?_map, h1] at hd
    cases hd
    have R1 := R0.same (s02.trans s3)
    exact ⟨rfl, _, rfl, x, _, dx, _, _, rfl, R1.ins, A.cl_Rows, A.na_its_programs, rfl, _, rfl, dp, xs, e1, b, y0.1, _, _, rfl, R1.ep, R1.ndp, rfl, h3, h4, h5, y0.2.2, _, 0, _, rfl, rfl, h6, atI_nat (j := 0) rfl, hQ _ (Same.refl _)⟩
  intro H3 s3 e3
  refine ⟨D2, qs.map fun q => (q.size : Int), rfl, .of (by rw [List.map_map]; exact e3), _, _, rfl, rfl, ?_⟩
  have hsz := mkP_size s0 qs (by omega)
  dsimp only
  rw [← hsz]
  have s03 := s02.trans s3
  have rp3 := rp2.mono (tu_same s3)
  clear e3 hD2
  -- the row
  have R3 := R0.same s03
  have eR : ys.map (·.1) = qs.map (rowP t g) := by
    refine List.ext_getElem? fun j => ?_
    rw [List.getElem?_map, List.getElem?_map]
    cases hy : ys[j]? with
    | none =>
      have : qs[j]? = none := by
        rw [List.getElem?_eq_none_iff] at hy ⊢
        omega
      rw [this]; rfl
    | some y =>
      have hj : j < qs.length := by rw [hq1]; exact (List.getElem?_eq_some_iff.mp hy).1
      have hqj : qs[j]? = some qs[j] := by simp [hj]
      rw [hqj]
      exact congrArg some (hq2 j y _ hy hqj).row
  refine ⟨_, rfl, x, _, dx, _, _, rfl, R3.ins, A.cl_Rows, A.na_old_table, rfl, _, rfl, x, _, dx, _, _, rfl, R3.ins, A.cl_Rows, A.na_new_table, rfl, _, rfl, _, rfl, ?_⟩
  refine ⟨tv, gv, s0, pa, t, g, qs, rows, rfl, R3.rt, tok, R3.rg, gok, gm, gs, by rw [hq1]; exact hsg, (tu_same s03).sq hpa, by rw [← eR]; exact rr.mono (tu_same s03), fun rv H4 s4 r4 => ?_⟩
  have s04 := s03.trans s4
  have R4 := R0.same s04
  have rp4 := rp3.mono (tu_same s4)
  obtain ⟨rq, rw_, rfl, _⟩ : ∃ b ws, rv = .ref b ∧ SqT K H4 b ws := by
    obtain ⟨b, ws, e, h, _⟩ := r4.tup_inv
    exact ⟨b, ws, e, h⟩
  have nk := rowP_nk t g (mkP s0 qs)
  have okq : ∀ q ∈ qs, q.ok t.signs ∧ q.height ≤ xs.length - 1 := fun q hq => by
    obtain ⟨j, hj, e⟩ := List.getElem_of_mem hq
    have hj' : j < ys.length := by omega
    have ro := hq2 j ys[j] q (List.getElem?_eq_getElem hj') (by rw [List.getElem?_eq_getElem hj, e])
    exact ⟨ro.ok, ro.ht⟩
  have xpos : qs ≠ [] → 1 ≤ xs.length := fun h => by
    have h1 : 0 < qs.length := List.length_pos_iff.mpr h
    have h2 : 0 < ys.length := by omega
    exact List.length_pos_of_mem (hys _ (List.getElem_mem h2))
  have ok0 : (mkP s0 qs).ok t.signs ∧ (mkP s0 qs).height ≤ xs.length := mkP_okh s0 qs (by omega) (by rw [hq1]; exact hsg) okq xpos
  have put : ∀ (H5 : Hp) (q6 : Addr) (ep' : Nat), Same H4 H5 → H5 q6 = none → rowP t g (mkP s0 qs) ∉ xs.map (·.1) → Q .non (upd (upd H5 q6 (.tup [.int ((mkP s0 qs).size : Int), .ref q1])) dl (NdO P w dl (ndPut ls (rowP t g (mkP s0 qs)) rq q6) ep')) := fun H5 q6 ep' s5 hq6 hni => by
    have s6 : Same H5 (upd H5 q6 (.tup [.int ((mkP s0 qs).size : Int), .ref q1])) := same_new hq6
    have s46 := s5.trans s6
    have R6 := R4.same s46
    have v6 : Rp K (upd H5 q6 (.tup [.int ((mkP s0 qs).size : Int), .ref q1])) (.ref q6) (pairD (mkP s0 qs)) := .tup (.of upd_same) (.cons (.int _) (.one (rp4.mono (tu_same s46))))
    have r6 := r4.mono (tu_same s46)
    generalize upd H5 q6 (.tup [.int ((mkP s0 qs).size : Int), .ref q1]) = H6 at *
    have tu : Tu H6 (upd H6 dl (NdO P w dl (ndPut ls (rowP t g (mkP s0 qs)) rq q6) ep')) := tu_upd R6.el rfl
    refine k _ (ndPut ls (rowP t g (mkP s0 qs)) rq q6) ep' (But.upd (s04.trans s46)) (len_put ..) ⟨?_, R6.rt.mono tu, R6.rg.mono tu, ?_, upd_same, R6.ne, fun y hy => ?_, fun y hy => ?_, R6.kp, nodup_put R6.kl _ _ _, fun y hy => ?_⟩
    · rw [upd_ne (ne_of R6.ins R6.el (by intro z; unfold NdO at z; cases z))]; exact R6.ins
    · rw [upd_ne R6.ne]; exact R6.ep
    · obtain ⟨p, r⟩ := R6.np y hy; exact ⟨p, r.mono tu (Nat.le_refl _)⟩
    · rcases mem_put hy with ⟨h1, _⟩ | ⟨h1, h2, h3⟩
      · obtain ⟨p, r⟩ := R6.nl y h1; exact ⟨p, r.mono tu (Nat.le_refl _)⟩
      · refine ⟨mkP s0 qs, ok0.1, ok0.2, h1, ?_, by rw [h2]; exact v6.mono tu⟩
        rcases h3 with h3 | ⟨z, hz, h4, h5⟩
        · rw [h3, h1]; exact r6.mono tu
        · obtain ⟨p, r⟩ := R6.nl z hz
          have e := r.key.mono tu
          rw [h4] at e
          rw [← h5, h1]
          exact e
    · rcases mem_put hy with ⟨h1, _⟩ | ⟨h1, _⟩
      · exact R6.dj y h1
      · rw [h1]; exact hni
  refine ⟨_, rfl, _, rfl, x, _, dx, _, _, rfl, R4.ins, A.cl_Rows, A.na_its_programs, rfl, dp, xs, e1, rq, _, rfl, R4.ep, R4.ndp, rfl, r4, nk, _, rfl, ite2 (fun z1 => ?_) (fun z1 => ?_)⟩
  rotate_left
  · refine ite2 (fun z => by cases z) (fun _ => ?_)
    exact k H4 ls e2 (fun a o _ h => s04 a o h) (Nat.le_succ _) R4
  have hni : rowP t g (mkP s0 qs) ∉ xs.map (·.1) := fun h => by
    rw [decide_eq_true h] at z1
    cases z1
  refine ⟨_, rfl, _, rfl, x, _, dx, _, _, rfl, R4.ins, A.cl_Rows, A.na_its_line, rfl, dl, ls, e2, rq, _, rfl, R4.el, R4.ndl, rfl, r4, nk, _, rfl, ite2 (fun z2 => ?_) (fun z2 => ?_)⟩
  · refine ite2 (fun _ => ?_) (fun z => absurd rfl z)
    refine ⟨_, rfl, _, rfl, sz2, fun q6 hq6 => ?_⟩
    have s6 : Same H4 (upd H4 q6 (.tup [.int ((mkP s0 qs).size : Int), .ref q1])) := same_new hq6
    have R6 := R4.same s6
    exact ⟨_, rfl, x, _, dx, _, _, rfl, R6.ins, A.cl_Rows, A.na_its_line, rfl, _, rfl, dl, ls, e2, rq, _, q6, rfl, R6.el, R6.ndl, rfl, r4.mono (tu_same s6), nk, rfl, by omega, fun ep' => put H4 q6 ep' (Same.refl _) hq6 hni⟩
  · have hin : rowP t g (mkP s0 qs) ∈ ls.map (·.1) := Classical.byContradiction fun h => by
      rw [decide_eq_false h] at z2
      exact z2 rfl
    obtain ⟨yl, hyl, eyl⟩ := List.mem_map.mp hin
    have hat := at_mem R4.kl hyl
    rw [eyl] at hat
    obtain ⟨pl, rpl⟩ := R4.nl yl hyl
    refine ⟨_, rfl, _, rfl, sz2, fun q5 hq5 => ?_⟩
    have s5 : Same H4 (upd H4 q5 (.tup [.int ((mkP s0 qs).size : Int), .ref q1])) := same_new hq5
    have R5 := R4.same s5
    have v5 : Rp K (upd H4 q5 (.tup [.int ((mkP s0 qs).size : Int), .ref q1])) (.ref q5) (pairD (mkP s0 qs)) := .tup (.of upd_same) (.cons (.int _) (.one (rp4.mono (tu_same s5))))
    have pd := pair_dep (mkP s0 qs)
    have oh := ok0.2
    refine ⟨_, rfl, x, _, dx, _, _, rfl, R5.ins, A.cl_Rows, A.na_its_line, rfl, _, rfl, dl, ls, e2, rq, _, _, _, rfl, R5.el, R5.ndl, rfl, r4.mono (tu_same s5), nk, hat, _, _, v5, rpl.val.mono (tu_same s5), pair_alike _ _, by omega, _, rfl, ite2 (fun z3 => ?_) (fun z3 => ?_)⟩
    · refine ⟨_, rfl, _, rfl, sz2, fun q6 hq6 => ?_⟩
      have s6 := same_new (o := .tup [.int ((mkP s0 qs).size : Int), .ref q1]) hq6
      have R6 := R5.same s6
      exact ⟨_, rfl, x, _, dx, _, _, rfl, R6.ins, A.cl_Rows, A.na_its_line, rfl, _, rfl, dl, ls, e2, rq, _, q6, rfl, R6.el, R6.ndl, rfl, r4.mono (tu_same (s5.trans s6)), nk, rfl, by omega, fun ep' => put _ q6 ep' s5 hq6 hni⟩
    · exact k _ ls e2 (fun a o _ h => (s04.trans s5) a o h) (Nat.le_succ _) R5
end
end K56
set_option Elab.async false
set_option linter.all false
set_option maxRecDepth 100000
set_option maxHeartbeats 4000000
namespace K56
open PySem PySem.Spec PyProof.Rows L2 LamX NdefX
/-! ### Rows.settle -/
/-- a method whose code object is told -/
theorem Me.ofC {P : Program} {w : World} {K : PySem.W.Frag} {mg : Str → Option Value} {base : Heap} {x qual : Str} {ps N : List Str} {k : Nat} {sp : Sp} {f : Addr} {fd : FuncData} {st : Stmt} (p : He.Defn) (hp : He.fAd K p = f) (F : FunD K x qual (defArgs st) (defBody st) (defScope st) [] [] f fd) (S : FnScope N ps (defScope st))
    (hb : ∀ (kV doc pm : Value) (an : Option Addr) (cdv ct : Value) (us : List Value), us.length = ps.length → bindArgs (PySem.W.fnOf x qual (defArgs st) (defBody st) (defScope st) .none kV doc pm an cdv ct) ⟨us, []⟩ = pure (ps.zip us))
    (len : ∀ vs H Q E, sp vs H Q E → vs.length = ps.length)
    (hbody : ∀ (A : Around) (outer : List Env) (s : Shared) (H : Hp) (vs : List V) (Q : VK) (E : XK), Room k (A.deeper (envOfC qual (defScope st) s.heap.objs.size f (.ref (He.cT K p).1))) → sp vs H Q E →
      ∃ t, PSs (cxOf CX0 P w K mg base N qual (defScope st) f (.ref (He.cT K p).1) A outer s H E).nox (defBody st) t ∧ t { nx := fun _ H' => Q .non H', rt := Q } (start N vs) H) : Me P w K mg base f ps (k + 1) sp := by
  refine ⟨fd, ?_, F.bindsN hb⟩
  obtain ⟨oc, od, dV, kV, doc, pm, an, cdv, ct, osl, rfl, lk, hcd, _, _⟩ := F.ex
  obtain ⟨c, rfl⟩ := He.codeIn_ref hcd
  have e : He.codeOf K p = c := He.codeOf_eq (by rw [hp]; exact lk) rfl
  refine fn_of lk hcd S len fun A outer s H vs Q E hr h => ?_
  have e2 : (He.cT K p).1 = c := e
  rw [e2] at hbody
  obtain ⟨t, h1, h2⟩ := hbody A outer s H vs Q E hr h
  exact ⟨t, h1.nox, h2⟩
abbrev pS : He.Defn := ("Rows", some "settle")
abbrev TT (K : PySem.W.Frag) : List (Addr × Str) := [((He.cT K pS).2, Str.ofString "Rows.settle.<locals>.<lambda>")]
theorem tu_extN {H H' : Hp} (e : ExtN H H') : Tu H H' := fun a xs h => by
  rcases h with h | ⟨o, h⟩
  · exact .inl (e _ _ h fun ps z => by cases z)
  · exact .inr ⟨o, e _ _ h fun ps z => by cases z⟩
theorem ndO_ntb {P : Program} {w : World} {d : Addr} {xs : Nd} {ep : Nat} : ∀ ps, NdO P w d xs ep ≠ .tbl ps := fun ps z => by unfold NdO at z; cases z
section
variable {K : PySem.W.Frag} {P : Program} {w : World} {t g : Tb} {H H' : Hp} {x dx : Addr} {tv gv : V} {dp dl : Addr} {xs ls : Nd} {e1 e2 : Nat}
theorem RS.ext (h : RS K P w t g H x dx tv gv dp dl xs ls e1 e2) (s : ExtN H H') : RS K P w t g H' x dx tv gv dp dl xs ls e1 e2 where
  ins := s _ _ h.ins fun ps z => by cases z
  rt := h.rt.mono (tu_extN s)
  rg := h.rg.mono (tu_extN s)
  ep := s _ _ h.ep ndO_ntb
  el := s _ _ h.el ndO_ntb
  ne := h.ne
  np := fun y hy => by obtain ⟨p, r⟩ := h.np y hy; exact ⟨p, r.mono (tu_extN s) (Nat.le_refl _)⟩
  nl := fun y hy => by obtain ⟨p, r⟩ := h.nl y hy; exact ⟨p, r.mono (tu_extN s) (Nat.le_refl _)⟩
  kp := h.kp
  kl := h.kl
  dj := h.dj
/-- one row goes from the line to the programs -/
theorem RS.move (h : RS K P w t g H x dx tv gv dp dl xs ls e1 e2) {y : D × Addr × Addr} (hy : y ∈ ls) (f1 f2 : Nat) :
    RS K P w t g (upd (upd H dl (NdO P w dl (ndDrop ls y.1) f2)) dp (NdO P w dp (ndPut xs y.1 y.2.1 y.2.2) f1)) x dx tv gv dp dl (xs ++ [y]) (ndDrop ls y.1) f1 f2 := by
  have hni := h.dj y hy
  have t1 : Tu H (upd H dl (NdO P w dl (ndDrop ls y.1) f2)) := tu_upd h.el rfl
  have ep1 : (upd H dl (NdO P w dl (ndDrop ls y.1) f2)) dp = some (NdO P w dp xs e1) := by rw [upd_ne h.ne]; exact h.ep
  have t2 : Tu (upd H dl (NdO P w dl (ndDrop ls y.1) f2)) (upd (upd H dl (NdO P w dl (ndDrop ls y.1) f2)) dp (NdO P w dp (ndPut xs y.1 y.2.1 y.2.2) f1)) := tu_upd ep1 rfl
  have tu := t1.trans t2
  have ni : ∀ {d : Addr} {zs : Nd} {e : Nat}, H d = some (NdO P w d zs e) → x ≠ d := fun hd z => by
    rw [← z, h.ins] at hd
    have := Option.some.inj hd
    unfold NdO at this
    cases this
  refine ⟨?_, h.rt.mono tu, h.rg.mono tu, ?_, ?_, h.ne, fun z hz => ?_, fun z hz => ?_, ?_, nodup_drop h.kl _, fun z hz hm => ?_⟩
  · rw [upd_ne (ni h.ep), upd_ne (ni h.el)]; exact h.ins
  · rw [upd_same, len_put_new hni]
  · rw [upd_ne h.ne.symm, upd_same]
  · have lx : (xs ++ [y]).length - 1 = xs.length := by simp
    rw [lx]
    rcases List.mem_append.mp hz with hz | hz
    · obtain ⟨p, r⟩ := h.np z hz
      exact ⟨p, r.mono tu (Nat.sub_le _ _)⟩
    · rw [List.mem_singleton.mp hz]
      obtain ⟨p, r⟩ := h.nl y hy
      exact ⟨p, r.mono tu (Nat.le_refl _)⟩
  · obtain ⟨p, r⟩ := h.nl z (mem_drop hz).1
    exact ⟨p, r.mono tu (by rw [List.length_append]; omega)⟩
  · rw [List.map_append]
    refine List.nodup_append.mpr ⟨h.kp, by simp, fun a ha b hb e => hni ?_⟩
    have e2 : b = y.1 := by simpa using hb
    rw [← e2, ← e]
    exact ha
  · rw [List.map_append] at hm
    rcases List.mem_append.mp hm with hm | hm
    · exact h.dj z (mem_drop hz).1 hm
    · have e2 : z.1 = y.1 := by simpa using hm
      exact (mem_drop hz).2 e2
end
theorem heap_at (c : Addr) (o : Obj) (ho : o.isFreed = false) : ∃ h : Heap, h.get? c = some o := by
  have key : ∀ n : Nat, ∃ h : Heap, h.objs.size = n := fun n => by
    induction n with
    | zero => exact ⟨{}, rfl⟩
    | succ n ih =>
      obtain ⟨h, e⟩ := ih
      exact ⟨h.push o, by rw [Heap.size_push, e]⟩
  obtain ⟨h, e⟩ := key c
  refine ⟨h.push o, ?_⟩
  rw [← e]
  exact Heap.get?_push_size h ho
theorem code_nd {P : Program} {w : World} {c : Addr} {q : Str} {xs : Nd} {ep : Nat} (e : CodeO c q = NdO P w c xs ep) : False := by
  unfold CodeO NdO at e
  have e2 := HO.ext.inj e
  obtain ⟨h, hh⟩ := heap_at c { cls := .none, data := .fields #[.none, .str q 0] } rfl
  have e3 := congrFun e2 h
  have h1 : Nd0 P w h c xs ep := e3 ▸ ⟨_, _, _, hh, rfl, rfl⟩
  obtain ⟨_, _, _, o, ho, _, hd⟩ := h1
  rw [hh] at ho
  rw [← Option.some.inj ho] at hd
  cases hd
/-- a dict of this kind may change: the tables say what they said -/
theorem tabs_but {P : Program} {w : World} {T : List (Addr × Str)} {H H' : Hp} {d : Addr} {xs : Nd} {ep : Nat} (t : Tabs T H) (e : But d H H') (hd : H d = some (NdO P w d xs ep)) : Tabs T H' := fun p hp => by
  obtain ⟨ps, h1, h2, h3⟩ := t p hp
  refine ⟨ps, e _ _ (fun z => ?_) h1, h2, fun pos cv hc => ?_⟩
  · rw [z, hd] at h1
    exact ndO_ntb _ (Option.some.inj h1)
  · obtain ⟨c, e1, e2⟩ := h3 pos cv hc
    refine ⟨c, e1, e _ _ (fun z => ?_) e2⟩
    rw [z, hd] at e2
    exact code_nd (Option.some.inj e2).symm
theorem but_upd {H : Hp} {d : Addr} {o : HO} : But d H (upd H d o) := fun a u n h => by rw [upd_ne n]; exact h
theorem tu_but {P : Program} {w : World} {H H' : Hp} {d : Addr} {xs : Nd} {ep : Nat} (e : But d H H') (hd : H d = some (NdO P w d xs ep)) : Tu H H' := fun a ys h => by
  have ne : a ≠ d := fun z => by
    rw [z] at h
    rcases h with h | ⟨o, h⟩ <;> (rw [hd] at h; have := Option.some.inj h; unfold NdO at this; cases this)
  rcases h with h | ⟨o, h⟩
  · exact .inl (e _ _ ne h)
  · exact .inr ⟨o, e _ _ ne h⟩
theorem extN_but {H0 H H' : Hp} {d : Addr} (a : ExtN H0 H) (e : But d H H') (h : H0 d = none) : ExtN H0 H' := fun b o hb hn => e b o (fun z => by rw [z, h] at hb; cases hb) (a b o hb hn)
theorem same_but {H0 H H' : Hp} {d : Addr} (a : Same H0 H) (e : But d H H') (h : H0 d = none) : Same H0 H' := fun b o hb => e b o (fun z => by rw [z, h] at hb; cases hb) (a b o hb)
/-- the tables say the same of all -/
def Diag (t g : Tb) : Prop := ∀ p : Pg, p.ok t.signs → ∀ k, k < t.many → cnt t.ents p k = cnt g.ents p k
def rowC (r : List Nat) : D := .tup (r.map fun (c : Nat) => .tup [.int (c : Int), .int (c : Int)])
theorem choices_mem {α : Type} {xs : List α} : ∀ (r : List α), (∀ x ∈ r, x ∈ xs) → r.reverse ∈ choicesL xs r.length
  | [], _ => by simp [choicesL]
  | x :: r, h => by
    rw [List.length_cons, List.reverse_cons]
    show _ ∈ (choicesL xs r.length).flatMap fun r => xs.map fun x => r ++ [x]
    rw [List.mem_flatMap]
    exact ⟨r.reverse, choices_mem r fun y hy => h y (List.mem_cons_of_mem _ hy), List.mem_map.mpr ⟨x, h x (List.mem_cons_self ..), rfl⟩⟩
theorem rowP_diag {t g : Tb} (d : Diag t g) {p : Pg} (ok : p.ok t.signs) : rowP t g p ∈ (choicesL [0, 1, 2] t.many).map rowC := by
  have e : rowP t g p = rowC ((List.range t.many).map fun k => cap (cnt t.ents p k)) := by
    unfold rowP rowC
    rw [List.map_map]
    congr 1
    refine List.map_congr_left fun k hk => ?_
    rw [← d p ok k (List.mem_range.mp hk)]
    rfl
  rw [e]
  have q := choices_mem (xs := [0, 1, 2]) ((List.range t.many).map fun k => cap (cnt t.ents p k)).reverse fun x hx => by
    rw [List.mem_reverse] at hx
    obtain ⟨k, _, rfl⟩ := List.mem_map.mp hx
    unfold cap
    have : min 2 (cnt t.ents p k) = 0 ∨ min 2 (cnt t.ents p k) = 1 ∨ min 2 (cnt t.ents p k) = 2 := by omega
    simpa using this
  rw [List.reverse_reverse, List.length_reverse, List.length_map, List.length_range] at q
  exact List.mem_map_of_mem q
theorem RS.few {K : PySem.W.Frag} {P : Program} {w : World} {t g : Tb} {H : Hp} {x dx : Addr} {tv gv : V} {dp dl : Addr} {xs ls : Nd} {e1 e2 : Nat} (h : RS K P w t g H x dx tv gv dp dl xs ls e1 e2) (d : Diag t g) (hm : t.many ≤ 3) : xs.length + ls.length ≤ 27 := by
  have nd : (xs.map (·.1) ++ ls.map (·.1)).Nodup := List.nodup_append.mpr ⟨h.kp, h.kl, fun a ha b hb e => by
    obtain ⟨y, hy, rfl⟩ := List.mem_map.mp hb
    exact h.dj y hy (e ▸ ha)⟩
  have sub := sub_len (m := (choicesL [0, 1, 2] t.many).map rowC) nd fun z hz => by
    rcases List.mem_append.mp hz with hz | hz
    · obtain ⟨y, hy, rfl⟩ := List.mem_map.mp hz
      obtain ⟨p, r⟩ := h.np y hy
      rw [r.row]
      exact rowP_diag d r.ok
    · obtain ⟨y, hy, rfl⟩ := List.mem_map.mp hz
      obtain ⟨p, r⟩ := h.nl y hy
      rw [r.row]
      exact rowP_diag d r.ok
  have c := choices_len [0, 1, 2] 3 (by decide) t.many
  have c2 : 3 ^ t.many ≤ 3 ^ 3 := Nat.pow_le_pow_right (by decide) hm
  simp only [List.length_append, List.length_map] at sub
  omega
def spSettle (K : PySem.W.Frag) (P : Program) (w : World) : Sp := fun vs H Q _ => ∃ (H0 : Hp) (x dx : Addr) (tv gv : V) (dp dl : Addr) (xs ls : Nd) (e1 e2 : Nat) (t g : Tb),
  vs = [.ref x] ∧ RS K P w t g H x dx tv gv dp dl xs ls e1 e2 ∧ t.ok ∧ g.ok ∧ g.many = t.many ∧ g.signs = t.signs ∧ Diag t g ∧ t.many ≤ 3 ∧ ls ≠ [] ∧ Tabs (TT K) H ∧ ExtN H0 H ∧ H0 dp = none ∧ H0 dl = none ∧
  ∀ (H' : Hp) (xs' ls' : Nd) (e1' e2' : Nat), xs'.length = xs.length + 1 → RS K P w t g H' x dx tv gv dp dl xs' ls' e1' e2' → Tabs (TT K) H' → ExtN H0 H' → Q .non H'
section
variable {P : Program} {w : World} {K : PySem.W.Frag} {mg : Str → Option Value} {base : Heap}
theorem sc_settle : FnScope ["self", "row", "sign", "many", "other"] ["self"] (defScope s_Rows_settle) := ⟨rfl, rfl, rfl, by decide +kernel, rfl, by decide +kernel, by decide +kernel⟩
theorem ok_settle (A : Hd K mg) (TB : TabB base mg (He.cT K pS).1 (He.cT K pS).2) : Me P w K mg base (He.ma K (cR K) "settle") ["self"] 5 (spSettle K P w) := by
  obtain ⟨fd, F⟩ := A.f_Rows_settle
  refine Me.ofC pS rfl F sc_settle (fun _ _ _ _ _ _ us hl => match us, hl with | [_], _ => rfl) (fun vs H Q E h => (by obtain ⟨H0, x, dx, tv, gv, dp, dl, xs, ls, e1, e2, t, g, rfl, _⟩ := h; rfl)) (fun Ar outer s H vs Q E hr h => ?_)
  obtain ⟨H0, x, dx, tv, gv, dp, dl, xs, ls, e1, e2, t, g, rfl, R0, tok, gok, gm, gs, dg, m3, hne, hT, eN, np, nl, k⟩ := h
  refine ⟨_, (pss_cons (ps_set (i := 1) sc_settle.nd rfl (.inl rfl) (pe_minLam (T := TT K) (c := (He.cT K pS).1) (P := (He.cT K pS).2) (k := 2) (N := ["one", "self"]) (fr := ["self"]) (y := "one") (js := [0]) (by rfl) (by rfl) A.z_min (pe_fld (pv 0) rfl) TB (by rfl) (List.mem_singleton.mpr rfl) (fun p hp _ => by rw [List.mem_singleton.mp hp]; rfl) (hr.mono (by decide)) (tb := tNdGet K P w (tFld K (tVar 1) "its_line") (tVar 0)) (nscope_by (by decide +kernel)) (show ∀ y ∈ (_ : List (Str × NameKind)), y.2 = NameKind.free → (defScope s_Rows_settle).names.lookup y.1 = some .cell ∨ (defScope s_Rows_settle).names.lookup y.1 = some .free from by decide +kernel) (by decide +kernel) (by rfl) (by rfl) (fun _ _ _ _ _ _ => rfl) (fun A' outer' s' H' f c' cl hr' => (pe_kget (hu64 hr') (pe_fld (pv 1) rfl) (pv 0) (fun _ _ => rfl)))))
    (pss_cons (ps_asg (pe_kpop (hu64 hr) (pe_fld (pv 0) rfl) (pv 1) ⟨by rfl, by rfl, by rfl, by rfl⟩) (pg_sub (pe_fld (pv 0) rfl) (pv 1) (set_kdict (hu64 hr))))
  (pss_one (ps_for PassesOwn.never (by rfl) (pi_enumT (by rfl) A.z_enumerate (pa_cons (pe_ix ix_tup (pe_fld (pv 0) rfl) pe_int (fun _ _ => rfl)) pa_nil)) (pg_tup rfl (pgs_cons (pg_name (i := 2) sc_settle.nd rfl (.inl rfl)) (pgs_cons (pg_name (i := 3) sc_settle.nd rfl (.inl rfl)) pgs_nil)))
  (pss_cons (ps_if (pt_cmpR op_eq (pv 3) pe_int (nomark _)) (pss_one (ps_expr (pe_me (ok_offer A) A.cl_Rows A.me_offer (hr.mono (by decide)) (pv 0) (pa_cons (pv 2) (pa_cons (pe_tup (pa_cons (pv 1) pa_nil)) pa_nil))))) pss_nil)
  (pss_one (ps_if (pt_cmpR op_eq (pv 3) pe_int (nomark _)) (pss_one (ps_for PassesOwn.never (by rfl) (pi_list (pe_callTy (call_list_K (by rfl)) (by rfl) A.z_list (by decide +kernel) (pa_cons (pe_fld (pv 0) rfl) pa_nil))) (pg_name (i := 4) sc_settle.nd rfl (.inl rfl))
  (pss_cons (ps_expr (pe_me (ok_offer A) A.cl_Rows A.me_offer (hr.mono (by decide)) (pv 0) (pa_cons (pv 2) (pa_cons (pe_tup (pa_cons (pv 1) (pa_cons (pv 4) pa_nil))) pa_nil))))
  (pss_one (ps_expr (pe_me (ok_offer A) A.cl_Rows A.me_offer (hr.mono (by decide)) (pv 0) (pa_cons (pv 2) (pa_cons (pe_tup (pa_cons (pv 4) (pa_cons (pv 1) pa_nil))) pa_nil)))))))) pss_nil))))))), ?_⟩
  have ls27 := R0.few dg m3
  obtain ⟨qs, hq1, hq2⟩ := choose_list (R := fun y p => RowOf K H t g xs.length y p) ls R0.nl
  refine ⟨_, rfl, x, _, dx, _, _, rfl, R0.ins, A.cl_Rows, A.na_its_line, rfl, hT, dl, ls, e2, rfl, R0.el, hne, fun H1 eN1 T1 => ?_⟩
  have R1 := R0.ext eN1
  have qat : ∀ i, i < ls.length → ∃ q, qs[i]? = some q ∧ q.height ≤ 27 := fun i hi => by
    have h1 : i < qs.length := by rw [hq1]; exact hi
    have ro := hq2 i _ _ (List.getElem?_eq_getElem hi) (List.getElem?_eq_getElem h1)
    exact ⟨qs[i], List.getElem?_eq_getElem h1, Nat.le_trans ro.ht (by omega)⟩
  refine ⟨fun i => pairD (qs[i]?.getD (.n0 0)), fun i y hy => ?_, fun i j hi hj => pair_alike _ _, fun i hi => ?_, fun y hy => ?_⟩
  · have hi := (List.getElem?_eq_some_iff.mp hy).1
    obtain ⟨q, hq, _⟩ := qat i hi
    have ro := (hq2 i y q hy hq).mono (tu_extN eN1) (Nat.le_refl _)
    have nk : y.1.nk.depth ≤ 8 := by rw [ro.row]; exact rowP_nk t g q
    refine ⟨_, rfl, x, _, dx, _, _, rfl, R1.ins, A.cl_Rows, A.na_its_line, rfl, _, rfl, dl, ls, e2, y.2.1, y.1, y.2.1, y.2.2, rfl, R1.el, R1.ndl, rfl, ro.key, nk, at_mem R1.kl (List.mem_of_getElem? hy), rfl, ?_⟩
    show Rp K H1 _ (pairD (qs[i]?.getD (.n0 0)))
    rw [hq]
    exact ro.val
  · obtain ⟨q, hq, hh⟩ := qat i hi
    show (pairD (qs[i]?.getD (.n0 0))).py.depth ≤ 50
    rw [hq]
    have := pair_dep q
    show (pairD q).py.depth ≤ 50
    omega
  -- row is y's key
  obtain ⟨py, ry⟩ := R1.nl y hy
  have nky : y.1.nk.depth ≤ 8 := by rw [ry.row]; exact rowP_nk t g py
  have hat := at_mem R1.kl hy
  refine ⟨_, rfl, x, _, dx, _, _, rfl, R1.ins, A.cl_Rows, A.na_its_line, rfl, dl, ls, e2, rfl, R1.el, _, rfl, y.2.1, y.1, y.2.1, y.2.2, R1.el, R1.ndl, rfl, ry.key, nky, hat, fun f2 => ?_⟩
  have xdl : x ≠ dl := fun z => by
    have h1 := R1.ins
    rw [z, R1.el] at h1
    have := Option.some.inj h1
    unfold NdO at this
    cases this
  have b2 : But dl H1 (upd H1 dl (NdO P w dl (ndDrop ls y.1) f2)) := but_upd
  have t2 := tu_but b2 R1.el
  refine ⟨_, rfl, x, _, dx, _, _, rfl, b2 _ _ xdl R1.ins, A.cl_Rows, A.na_its_programs, rfl, _, rfl, dp, xs, e1, y.2.1, y.1, y.2.2, rfl, b2 _ _ R1.ne R1.ep, R1.ndp.mono t2, rfl, ry.key.mono t2, nky, rfl, by omega, fun f1 => ?_⟩
  have R2 := R1.move hy f1 f2
  have T2 := tabs_but (tabs_but T1 b2 R1.el) (but_upd (o := NdO P w dp (ndPut xs y.1 y.2.1 y.2.2) f1)) (b2 _ _ R1.ne R1.ep)
  have E2 : ExtN H0 (upd (upd H1 dl (NdO P w dl (ndDrop ls y.1) f2)) dp (NdO P w dp (ndPut xs y.1 y.2.1 y.2.2) f1)) := extN_but (extN_but (eN.trans eN1) b2 nl) but_upd np
  have ky2 : y ∈ xs ++ [y] := by simp
  have ky3 : Rp K (upd (upd H1 dl (NdO P w dl (ndDrop ls y.1) f2)) dp (NdO P w dp (ndPut xs y.1 y.2.1 y.2.2) f1)) (.ref y.2.1) y.1 := (R2.ndp y ky2).1
  have lx : (xs ++ [y]).length = xs.length + 1 := by simp
  dsimp only
  show tFor _ _ _ _ _ (upd (upd H1 dl (NdO P w dl (ndDrop ls y.1) f2)) dp (NdO P w dp (ndPut xs y.1 y.2.1 y.2.2) f1))
  generalize upd (upd H1 dl (NdO P w dl (ndDrop ls y.1) f2)) dp (NdO P w dp (ndPut xs y.1 y.2.1 y.2.2) f1) = H2 at R2 T2 E2 ky3
  clear b2 t2 hat ry R1 T1 eN1 R0 hq2 qat hq1
  obtain ⟨ta, sa, ea, es, rfl, hta, hsa, hea, re⟩ := tb_inv R2.rt
  generalize hX : xs ++ [y] = xs2 at *
  generalize ndDrop ls y.1 = ls2 at *
  clear hy hne
  refine ⟨_, rfl, x, _, dx, _, _, rfl, R2.ins, A.cl_Rows, A.na_old_table, rfl, ta, _, 1, _, rfl, rfl, hta, atI_nat (j := 1) rfl, sa, _, rfl, hsa, ?_⟩
  have fw : ∀ {H' : Hp} {ls' : Nd} {e' : Nat}, RS K P w t g H' x dx (.ref ta) gv dp dl xs2 ls' f1 e' → xs2.length ≤ 40 ∧ ls'.length ≤ 9000 := fun r => by
    have := r.few dg m3
    omega
  have b0 : But dl H2 H2 := fun a o _ h => h
  have bs : ∀ {Ha Hb : Hp}, But dl H2 Ha → Same Ha Hb → But dl H2 Hb := fun b s a o n h => s _ _ (b a o n h)
  have bb : ∀ {Ha Hb : Hp}, But dl H2 Ha → But dl Ha Hb → But dl H2 Hb := fun b c a o n h => c a o n (b a o n h)
  have key3 : ∀ {H' : Hp} {ls' : Nd} {e' : Nat}, RS K P w t g H' x dx (.ref ta) gv dp dl xs2 ls' f1 e' → ∀ z ∈ xs2, Rp K H' (.ref z.2.1) z.1 := fun r z hz => (r.ndp z hz).1
  refine for_it (walk_enumT (K := K) (xs := t.signs.map fun (n : Nat) => V.int (n : Int))) (fun i σ H' => ∃ s2 s3 s4 ls' e', σ = [some (.ref x), some (.ref y.2.1), s2, s3, s4] ∧ RS K P w t g H' x dx (.ref ta) gv dp dl xs2 ls' f1 e' ∧ But dl H2 H')
    ⟨_, _, _, ls2, f2, rfl, R2, b0⟩ (fun i σ H' _ ⟨_, _, _, _, _, _, _, b⟩ => (tu_but b R2.el).sq hsa) ?_ ?_
  · rintro i v σ H' H3 hi ⟨c2, c3, c4, ls3, e3, rfl, R3, b3⟩ ⟨T, u, v, rfl, hT', rfl, hu, hv⟩
    rw [List.length_map] at hi
    cases hu
    have hg : t.signs[i]? = some t.signs[i] := by simp [hi]
    have m2 := tok.sg _ (List.getElem_mem hi)
    generalize t.signs[i] = m at hg m2
    dsimp only at hv
    rw [List.getElem?_map, hg] at hv
    cases hv
    have s4 : Same H' (upd H' T (.tup [.int (i : Int), .int (m : Int)])) := same_new hT'
    refine ⟨T, _, rfl, .of upd_same, rfl, _, _, rfl, _, _, rfl, rfl, ?_⟩
    have R4 := R3.same s4
    have b4 := bs b3 s4
    dsimp only
    show tSeq _ _ _ _ (upd H' T (.tup [.int (i : Int), .int (m : Int)]))
    generalize upd H' T (.tup [.int (i : Int), .int (m : Int)]) = H4 at R4 b4
    clear s4 R3 b3 hT'
    match m, m2, hg with
    | 0, _, hg =>
      refine ⟨_, rfl, rfl, _, rfl, ite2 (fun z => by cases z) (fun _ => ?_)⟩
      refine ⟨_, rfl, rfl, _, rfl, ite2 (fun z => by cases z) (fun _ => ?_)⟩
      exact ⟨_, _, _, ls3, e3, rfl, R4, b4⟩
    | 1, _, hg =>
      refine ⟨_, rfl, rfl, _, rfl, ite2 (fun _ => ?_) (fun z => absurd rfl z)⟩
      refine ⟨_, rfl, x, dx, _, rfl, R4.ins, rfl, _, rfl, _, rfl, sz1, fun p hp => ?_⟩
      have s5 : Same H4 (upd H4 p (.tup [.ref y.2.1])) := same_new hp
      have R5 := R4.same s5
      refine ⟨x, dx, _, gv, dp, dl, xs2, ls3, f1, e3, i, p, t, g, [.ref y.2.1], [y], rfl, R5, tok, gok, gm, gs, hg, .of upd_same, .one (key3 R5 y ky2), fun z hz => by rw [List.mem_singleton.mp hz]; exact ky2, (fw R5).1, (fw R5).2, fun H6 ls6 e6 b6 _ R6 => ?_⟩
      refine ⟨_, rfl, rfl, _, rfl, ite2 (fun z => by cases z) (fun _ => ?_)⟩
      exact ⟨_, _, _, ls6, e6, rfl, R6, bb (bs b4 s5) b6⟩
    | 2, _, hg =>
      refine ⟨_, rfl, rfl, _, rfl, ite2 (fun z => by cases z) (fun _ => ?_)⟩
      refine ⟨_, rfl, rfl, _, rfl, ite2 (fun _ => ?_) (fun z => absurd rfl z)⟩
      refine ⟨_, rfl, x, _, dx, _, _, rfl, R4.ins, A.cl_Rows, A.na_its_programs, rfl, dp, xs2, f1, rfl, R4.ep, fun q hq => ?_⟩
      have s5 : Same H4 (upd H4 q (.lst (xs2.map fun z => V.ref z.2.1))) := same_new hq
      have R5 := R4.same s5
      have nq : q ≠ dl := fun z => by rw [z, R4.el] at hq; cases hq
      refine ⟨q, rfl, ⟨_, .of upd_same⟩, ?_⟩
      refine for_list (K := K) (a := q) (xs := xs2.map fun z => V.ref z.2.1) (fun j σ H' => ∃ s4 ls' e', σ = [some (.ref x), some (.ref y.2.1), some (.int (i : Int)), some (.int 2), s4] ∧ RS K P w t g H' x dx (.ref ta) gv dp dl xs2 ls' f1 e' ∧ But dl H2 H' ∧ H' q = some (.lst (xs2.map fun z => V.ref z.2.1)))
        ⟨_, ls3, e3, rfl, R5, bs b4 s5, upd_same⟩ (fun j σ H' _ ⟨_, _, _, _, _, _, e⟩ => .of e) ?_ ?_
      · rintro j v σ H6 hv ⟨c4', ls6, e6, rfl, R6, b6, q6⟩
        rw [List.getElem?_map] at hv
        cases hz : xs2[j]? with
        | none => rw [hz] at hv; cases hv
        | some z =>
          rw [hz] at hv
          cases hv
          have hzm := List.mem_of_getElem? hz
          refine ⟨_, rfl, x, dx, _, rfl, R6.ins, rfl, _, rfl, _, rfl, _, rfl, sz2, fun p hp => ?_⟩
          have s7 : Same H6 (upd H6 p (.tup [.ref y.2.1, .ref z.2.1])) := same_new hp
          have R7 := R6.same s7
          refine ⟨x, dx, _, gv, dp, dl, xs2, ls6, f1, e6, i, p, t, g, [.ref y.2.1, .ref z.2.1], [y, z], rfl, R7, tok, gok, gm, gs, hg, .of upd_same, .cons (key3 R7 y ky2) (.one (key3 R7 z hzm)), (fun z' hz' => ?_), (fw R7).1, (fw R7).2, fun H8 ls8 e8 b8 _ R8 => ?_⟩
          · rcases List.mem_cons.mp hz' with e | hz'
            · rw [e]; exact ky2
            · rw [List.mem_singleton.mp hz']; exact hzm
          have q8 := b8 _ _ nq (s7 _ _ q6)
          have b8' := bb (bs b6 s7) b8
          refine ⟨_, rfl, x, dx, _, rfl, R8.ins, rfl, _, rfl, _, rfl, _, rfl, sz2, fun p' hp' => ?_⟩
          have s9 : Same H8 (upd H8 p' (.tup [.ref z.2.1, .ref y.2.1])) := same_new hp'
          have R9 := R8.same s9
          refine ⟨x, dx, _, gv, dp, dl, xs2, ls8, f1, e8, i, p', t, g, [.ref z.2.1, .ref y.2.1], [z, y], rfl, R9, tok, gok, gm, gs, hg, .of upd_same, .cons (key3 R9 z hzm) (.one (key3 R9 y ky2)), (fun z' hz' => ?_), (fw R9).1, (fw R9).2, fun H10 ls10 e10 b10 _ R10 => ?_⟩
          · rcases List.mem_cons.mp hz' with e | hz'
            · rw [e]; exact hzm
            · rw [List.mem_singleton.mp hz']; exact ky2
          exact ⟨_, ls10, e10, rfl, R10, bb (bs b8' s9) b10, b10 _ _ nq (s9 _ _ q8)⟩
      · rintro σ H6 ⟨c4', ls6, e6, rfl, R6, b6, q6⟩
        exact ⟨_, _, _, ls6, e6, rfl, R6, b6⟩
    | m + 3, m2, _ => omega
  · rintro σ H' ⟨c2, c3, c4, ls3, e3, rfl, R3, b3⟩
    exact k H' xs2 ls3 f1 e3 lx R3 (tabs_but T2 b3 R2.el) (extN_but E2 b3 nl)
end
end K56
set_option Elab.async false
set_option linter.all false
set_option maxRecDepth 100000
set_option maxHeartbeats 4000000
namespace K56
open PySem PySem.Spec PyProof.Rows L2 LamX NdefX
/-! ### Rows(..) -/
theorem tabs_upd {T : List (Addr × Str)} {H : Hp} {a : Addr} {o u : HO} (t : Tabs T H) (ha : H a = some o) (h1 : ∀ ps, o ≠ .tbl ps) (h2 : ∀ φ, o ≠ .ext φ) : Tabs T (upd H a u) := fun p hp => by
  obtain ⟨ps, q1, q2, q3⟩ := t p hp
  refine ⟨ps, by rw [upd_ne (fun z => h1 ps (by rw [z, ha] at q1; exact Option.some.inj q1))]; exact q1, q2, fun pos cv hc => ?_⟩
  obtain ⟨c, e1, e2⟩ := q3 pos cv hc
  refine ⟨c, e1, ?_⟩
  rw [upd_ne (fun z => h2 _ (by rw [z, ha] at e2; exact Option.some.inj e2))]
  exact e2
theorem tabs_same {T : List (Addr × Str)} {H H' : Hp} (t : Tabs T H) (s : Same H H') : Tabs T H' := t.ext fun b o h => s b o h
theorem extN_same {H0 H H' : Hp} (a : ExtN H0 H) (s : Same H H') : ExtN H0 H' := a.trans (ExtN.of fun b o h => s b o h)
def spRInit (K : PySem.W.Frag) (P : Program) (w : World) : Sp := fun vs H Q _ => ∃ (H0 : Hp) (x dx : Addr) (tv gv : V) (t g : Tb),
  vs = [.ref x, tv, gv, .int 300] ∧ Same H0 H ∧ H0 x = none ∧ H x = some (.ins (cR K) dx []) ∧ Rp K H tv t.d ∧ Rp K H gv g.d ∧ t.ok ∧ g.ok ∧ g.many = t.many ∧ g.signs = t.signs ∧ Diag t g ∧ t.many ≤ 3 ∧ Tabs (TT K) H ∧
  ∀ (H' : Hp) (dp dl : Addr) (xs : Nd) (e1 e2 : Nat), ExtN H0 H' → Tabs (TT K) H' → RS K P w t g H' x dx tv gv dp dl xs [] e1 e2 → Q .non H'
section
variable {P : Program} {w : World} {K : PySem.W.Frag} {mg : Str → Option Value} {base : Heap}
theorem sc_Rows_init : FnScope ["self", "table", "greater", "most", "sign", "many"] ["self", "table", "greater", "most"] (defScope s_Rows_init) := ⟨rfl, rfl, rfl, by decide +kernel, rfl, by decide +kernel, by decide +kernel⟩
theorem ok_rinit (A : Hd K mg) (TB : TabB base mg (He.cT K pS).1 (He.cT K pS).2) : Me P w K mg base (He.ma K (cR K) "__init__") ["self", "table", "greater", "most"] 6 (spRInit K P w) := by
  obtain ⟨fd, F⟩ := A.f_Rows_init
  refine Me.of F sc_Rows_init (fun _ _ _ _ _ _ us hl => match us, hl with | [_, _, _, _], _ => rfl) (fun vs H Q E h => (by obtain ⟨H0, x, dx, tv, gv, t, g, rfl, _⟩ := h; rfl)) (fun cdv Ar outer s H vs Q E hr h => ?_)
  obtain ⟨H0, x, dx, tv, gv, t, g, rfl, s0, x0, hx, rt, rg, tok, gok, gm, gs, dg, m3, hT, k⟩ := h
  refine ⟨_, (pss_cons (ps_asg (pe_tup (pa_cons (pv 1) (pa_cons (pv 2) pa_nil))) (pg_tup rfl (pgs_cons (pg_fld (pv 0)) (pgs_cons (pg_fld (pv 0)) pgs_nil))))
  (pss_cons (ps_asg (pe_tup (pa_cons pe_dnewN (pa_cons pe_dnewN pa_nil))) (pg_tup rfl (pgs_cons (pg_fld (pv 0)) (pgs_cons (pg_fld (pv 0)) pgs_nil))))
  (pss_cons (ps_for PassesOwn.never (by rfl) (pi_enumT (by rfl) A.z_enumerate (pa_cons (pe_ix ix_tup (pv 1) pe_int (fun _ _ => rfl)) pa_nil)) (pg_tup rfl (pgs_cons (pg_name (i := 4) sc_Rows_init.nd rfl (.inl rfl)) (pgs_cons (pg_name (i := 5) sc_Rows_init.nd rfl (.inl rfl)) pgs_nil)))
  (pss_one (ps_if (pt_cmpR op_eq (pv 5) pe_int (nomark _)) (pss_one (ps_expr (pe_me (ok_offer A) A.cl_Rows A.me_offer (hr.mono (by decide)) (pv 0) (pa_cons (pv 4) (pa_cons (pe_tup pa_nil) pa_nil))))) pss_nil)))
  (pss_one (ps_while PassesOwn.never (pt_cmpR (op_neE (hu64 hr)) (pe_fld (pv 0) rfl) pe_dnewK (nomark _))
  (pss_cons (ps_expr (pe_me0 (ok_settle A TB) A.cl_Rows A.me_settle (hr.mono (by decide)) (pv 0)))
  (pss_one (ps_if (PW.pt (pw_and (pt_cmpR op_notN (pv 3) pe_non (nomark _)) (pw_and1 (pt_cmpR op_gt (pe_callB call_lenK (by rfl) A.z_len PySem.boot_len (pa_cons (pe_fld (pv 0) rfl) pa_nil)) (pv 3) (nomark _))))) (pss_one ps_never) pss_nil)))))))), ?_⟩
  -- the tables
  refine ⟨_, rfl, _, rfl, sz2, fun q1 hq1 => ?_⟩
  have a1 : Same H (upd H q1 (.tup [tv, gv])) := same_new hq1
  have c1 : (upd H q1 (.tup [tv, gv])) q1 = some (.tup [tv, gv]) := upd_same
  try dsimp only
  show gTup _ _ _ _ _ (upd H q1 (.tup [tv, gv])) _
  generalize upd H q1 (.tup [tv, gv]) = H1 at a1 c1
  have x1 := a1 _ _ hx
  have T1 := tabs_same hT a1
  refine ⟨q1, _, rfl, .of c1, rfl, _, _, rfl, ⟨_, rfl, x, _, dx, _, rfl, x1, A.cl_Rows, A.na_old_table, by decide, ?_⟩⟩
  have x2 : (upd H1 x (.ins (cR K) dx (putF "old_table" tv []))) x = some (.ins (cR K) dx (putF "old_table" tv [])) := upd_same
  have t2 : Tu H1 (upd H1 x (.ins (cR K) dx (putF "old_table" tv []))) := tu_upd x1 rfl
  have T2 : Tabs (TT K) (upd H1 x (.ins (cR K) dx (putF "old_table" tv []))) := tabs_upd T1 x1 (fun _ z => by cases z) (fun _ z => by cases z)
  have s2 : Same H0 (upd H1 x (.ins (cR K) dx (putF "old_table" tv []))) := same_mut (s0.trans a1) x0
  refine ⟨_, _, rfl, ⟨_, rfl, x, _, dx, _, rfl, x2, A.cl_Rows, A.na_new_table, (show 1 < 1000 by decide), ?_⟩⟩
  have x3 : (upd (upd H1 x (.ins (cR K) dx (putF "old_table" tv []))) x (.ins (cR K) dx (putF "new_table" gv (putF "old_table" tv [])))) x = some (.ins (cR K) dx (putF "new_table" gv (putF "old_table" tv []))) := upd_same
  have t3 : Tu (upd H1 x (.ins (cR K) dx (putF "old_table" tv []))) (upd (upd H1 x (.ins (cR K) dx (putF "old_table" tv []))) x (.ins (cR K) dx (putF "new_table" gv (putF "old_table" tv [])))) := tu_upd x2 rfl
  have T3 : Tabs (TT K) (upd (upd H1 x (.ins (cR K) dx (putF "old_table" tv []))) x (.ins (cR K) dx (putF "new_table" gv (putF "old_table" tv [])))) := tabs_upd T2 x2 (fun _ z => by cases z) (fun _ z => by cases z)
  have s3 : Same H0 (upd (upd H1 x (.ins (cR K) dx (putF "old_table" tv []))) x (.ins (cR K) dx (putF "new_table" gv (putF "old_table" tv [])))) := same_mut s2 x0
  have rt3 := (rt.mono (tu_same a1)).mono (t2.trans t3)
  have rg3 := (rg.mono (tu_same a1)).mono (t2.trans t3)
  refine ⟨rfl, ?_⟩
  try dsimp only
  show tSeq _ _ _ _ (upd (upd H1 x (.ins (cR K) dx (putF "old_table" tv []))) x (.ins (cR K) dx (putF "new_table" gv (putF "old_table" tv []))))
  generalize upd (upd H1 x (.ins (cR K) dx (putF "old_table" tv []))) x (.ins (cR K) dx (putF "new_table" gv (putF "old_table" tv []))) = H3 at x3 T3 s3 rt3 rg3
  clear t2 t3 s2 x2 T2 c1 hq1 T1 x1 a1 rt rg hT hx s0
  -- the dicts
  refine fun dp hdp dl hdl => ⟨sz2, fun q2 hq2 => ?_⟩
  have b1 : Same H3 (upd H3 dp (NdO P w dp [] 0)) := same_new hdp
  have b2 : Same (upd H3 dp (NdO P w dp [] 0)) (upd (upd H3 dp (NdO P w dp [] 0)) dl (NdO P w dl [] 0)) := same_new hdl
  have b3 : Same (upd (upd H3 dp (NdO P w dp [] 0)) dl (NdO P w dl [] 0)) (upd (upd (upd H3 dp (NdO P w dp [] 0)) dl (NdO P w dl [] 0)) q2 (.tup [.ref dp, .ref dl])) := same_new hq2
  have ep4 : (upd (upd (upd H3 dp (NdO P w dp [] 0)) dl (NdO P w dl [] 0)) q2 (.tup [.ref dp, .ref dl])) dp = some (NdO P w dp [] 0) := b3 _ _ (b2 _ _ upd_same)
  have el4 : (upd (upd (upd H3 dp (NdO P w dp [] 0)) dl (NdO P w dl [] 0)) q2 (.tup [.ref dp, .ref dl])) dl = some (NdO P w dl [] 0) := b3 _ _ upd_same
  have c4 : (upd (upd (upd H3 dp (NdO P w dp [] 0)) dl (NdO P w dl [] 0)) q2 (.tup [.ref dp, .ref dl])) q2 = some (.tup [.ref dp, .ref dl]) := upd_same
  have dd : dp ≠ dl := fun z => by rw [z, upd_same] at hdl; cases hdl
  have p0 : H0 dp = none := s3.free hdp
  have l0 : H0 dl = none := (s3.trans b1).free hdl
  have b34 := b1.trans (b2.trans b3)
  have x4 := b34 _ _ x3
  have T4 := tabs_same T3 b34
  have s4 := s3.trans b34
  have rt4 := rt3.mono (tu_same b34)
  have rg4 := rg3.mono (tu_same b34)
  try dsimp only
  show gTup _ _ _ _ _ (upd (upd (upd H3 dp (NdO P w dp [] 0)) dl (NdO P w dl [] 0)) q2 (.tup [.ref dp, .ref dl])) _
  generalize upd (upd (upd H3 dp (NdO P w dp [] 0)) dl (NdO P w dl [] 0)) q2 (.tup [.ref dp, .ref dl]) = H4 at ep4 el4 c4 x4 T4 s4 rt4 rg4 b3 b34
  clear b1 b2 b3 b34 rt3 rg3 s3 T3 x3 hq2 hdl hdp H3
  have xp : dp ≠ x := fun z => by rw [z, x4] at ep4; have := Option.some.inj ep4; unfold NdO at this; cases this
  have xl : dl ≠ x := fun z => by rw [z, x4] at el4; have := Option.some.inj el4; unfold NdO at this; cases this
  refine ⟨q2, _, rfl, .of c4, rfl, _, _, rfl, ⟨_, rfl, x, _, dx, _, rfl, x4, A.cl_Rows, A.na_its_programs, (show 2 < 1000 by decide), ?_⟩⟩
  have x5 : (upd H4 x (.ins (cR K) dx (putF "its_programs" (.ref dp) (putF "new_table" gv (putF "old_table" tv []))))) x = some (.ins (cR K) dx (putF "its_programs" (.ref dp) (putF "new_table" gv (putF "old_table" tv [])))) := upd_same
  have t5 : Tu H4 (upd H4 x (.ins (cR K) dx (putF "its_programs" (.ref dp) (putF "new_table" gv (putF "old_table" tv []))))) := tu_upd x4 rfl
  have T5 : Tabs (TT K) (upd H4 x (.ins (cR K) dx (putF "its_programs" (.ref dp) (putF "new_table" gv (putF "old_table" tv []))))) := tabs_upd T4 x4 (fun _ z => by cases z) (fun _ z => by cases z)
  have s5 : Same H0 (upd H4 x (.ins (cR K) dx (putF "its_programs" (.ref dp) (putF "new_table" gv (putF "old_table" tv []))))) := same_mut s4 x0
  have ep5 : (upd H4 x (.ins (cR K) dx (putF "its_programs" (.ref dp) (putF "new_table" gv (putF "old_table" tv []))))) dp = some (NdO P w dp [] 0) := by rw [upd_ne xp]; exact ep4
  have el5 : (upd H4 x (.ins (cR K) dx (putF "its_programs" (.ref dp) (putF "new_table" gv (putF "old_table" tv []))))) dl = some (NdO P w dl [] 0) := by rw [upd_ne xl]; exact el4
  have rt5 := rt4.mono t5
  have rg5 := rg4.mono t5
  refine ⟨_, _, rfl, ⟨_, rfl, x, _, dx, _, rfl, x5, A.cl_Rows, A.na_its_line, (show 3 < 1000 by decide), rfl, ?_⟩⟩
  try dsimp only
  show tSeq _ _ _ _ (upd (upd H4 x (.ins (cR K) dx (putF "its_programs" (.ref dp) (putF "new_table" gv (putF "old_table" tv []))))) x (.ins (cR K) dx (putF "its_line" (.ref dl) (putF "its_programs" (.ref dp) (putF "new_table" gv (putF "old_table" tv []))))))
  generalize upd H4 x (.ins (cR K) dx (putF "its_programs" (.ref dp) (putF "new_table" gv (putF "old_table" tv [])))) = H5 at *
  clear t5 rt4 rg4 ep4 el4 x4 T4 s4 c4 H4
  have eF : putF "its_line" (.ref dl) (putF "its_programs" (.ref dp) (putF "new_table" gv (putF "old_table" tv []))) = fsR tv gv dp dl := rfl
  rw [eF]
  have t6 : Tu H5 (upd H5 x (.ins (cR K) dx (fsR tv gv dp dl))) := tu_upd x5 rfl
  have T6 : Tabs (TT K) (upd H5 x (.ins (cR K) dx (fsR tv gv dp dl))) := tabs_upd T5 x5 (fun _ z => by cases z) (fun _ z => by cases z)
  have s6 : Same H0 (upd H5 x (.ins (cR K) dx (fsR tv gv dp dl))) := same_mut s5 x0
  have R6 : RS K P w t g (upd H5 x (.ins (cR K) dx (fsR tv gv dp dl))) x dx tv gv dp dl [] [] 0 0 :=
    ⟨upd_same, rt5.mono t6, rg5.mono t6, by rw [upd_ne xp]; exact ep5, by rw [upd_ne xl]; exact el5, dd, fun y hy => (by cases hy), fun y hy => (by cases hy), List.nodup_nil, List.nodup_nil, fun y hy => (by cases hy)⟩
  generalize upd H5 x (.ins (cR K) dx (fsR tv gv dp dl)) = H6 at T6 s6 R6
  clear t6 rt5 rg5 ep5 el5 s5 T5 x5 eF H5
  obtain ⟨ta, sa, ea, es, rfl, hta, hsa, hea, re⟩ := tb_inv R6.rt
  refine ⟨_, rfl, ta, _, 1, _, rfl, rfl, hta, atI_nat (j := 1) rfl, sa, _, rfl, hsa, ?_⟩
  have bs : ∀ {Ha Hb : Hp}, But dl H6 Ha → Same Ha Hb → But dl H6 Hb := fun b s a o n h => s _ _ (b a o n h)
  have bb : ∀ {Ha Hb : Hp}, But dl H6 Ha → But dl Ha Hb → But dl H6 Hb := fun b c a o n h => c a o n (b a o n h)
  refine for_it (walk_enumT (K := K) (xs := t.signs.map fun (n : Nat) => V.int (n : Int))) (fun i σ H' => ∃ s4 s5 ls' e', σ = [some (.ref x), some (.ref ta), some gv, some (.int 300), s4, s5] ∧ RS K P w t g H' x dx (.ref ta) gv dp dl [] ls' 0 e' ∧ But dl H6 H')
    ⟨_, _, [], 0, rfl, R6, fun a o _ h => h⟩ (fun i σ H' _ ⟨_, _, _, _, _, _, b⟩ => (tu_but b R6.el).sq hsa) ?_ ?_
  · rintro i v σ H' H3 hi ⟨c2, c3, ls3, e3, rfl, R3, b3⟩ ⟨T, u, v, rfl, hT', rfl, hu, hv⟩
    rw [List.length_map] at hi
    cases hu
    have hg : t.signs[i]? = some t.signs[i] := by simp [hi]
    have m2 := tok.sg _ (List.getElem_mem hi)
    generalize t.signs[i] = m at hg m2
    dsimp only at hv
    rw [List.getElem?_map, hg] at hv
    cases hv
    have s4 : Same H' (upd H' T (.tup [.int (i : Int), .int (m : Int)])) := same_new hT'
    have R4 := R3.same s4
    have b4 := bs b3 s4
    refine ⟨T, _, rfl, .of upd_same, rfl, _, _, rfl, _, _, rfl, rfl, ?_⟩
    refine ⟨_, rfl, rfl, _, rfl, ite2 (fun z => ?_) (fun _ => ?_)⟩
    rotate_left
    · exact ⟨_, _, ls3, e3, rfl, R4, b4⟩
    have em : m = 0 := by
      have q := of_decide_eq_true z
      simp only [V.int.injEq] at q
      exact Int.ofNat_inj.mp q
    clear z
    subst em
    refine ⟨_, rfl, x, dx, _, rfl, R4.ins, rfl, _, rfl, sz0, fun p hp => ?_⟩
    have s5 := same_new (o := .tup []) hp
    have R5 := R4.same s5
    have fw := R5.few dg m3
    exact ⟨x, dx, _, gv, dp, dl, [], ls3, 0, e3, i, p, t, g, [], [], rfl, R5, tok, gok, gm, gs, hg, .of upd_same, .nil, fun z hz => (by cases hz), by simp, by omega, fun H6 ls6 e6 b6 _ R7 => ⟨_, _, ls6, e6, rfl, R7, bb (bs b4 s5) b6⟩⟩
  rintro σ H' ⟨c2, c3, ls3, e3, rfl, R3, b3⟩
  have T7 := tabs_but T6 b3 R6.el
  have E7 : ExtN H0 H' := ExtN.of fun b o h => same_but s6 b3 l0 b o h
  clear b3 T6 s6 R6 bs bb hsa hta hea re H6
  refine ⟨fun m σ H' => ∃ s4 s5 xs ls e1 e2, σ = [some (.ref x), some (.ref ta), some gv, some (.int 300), s4, s5] ∧ RS K P w t g H' x dx (.ref ta) gv dp dl xs ls e1 e2 ∧ Tabs (TT K) H' ∧ ExtN H0 H' ∧ m = 28 - xs.length, ⟨_, _, _, [], ls3, 0, e3, rfl, R3, T7, E7, rfl⟩, ?_⟩
  clear R3 T7 E7
  rintro m σ H' ⟨c2, c3, xs, ls, e1, e2, rfl, R, T, EN, rfl⟩
  have fw := R.few dg m3
  refine ⟨_, rfl, x, _, dx, _, _, rfl, R.ins, A.cl_Rows, A.na_its_line, rfl, fun p hp => ?_⟩
  have s7 : Same H' (upd H' p (.dK [])) := same_new hp
  have R7 := R.same s7
  have T7 := tabs_same T s7
  have E7 := extN_same EN s7
  refine ⟨dl, p, rfl, rfl, upd_same, .inr ⟨ls, e2, R7.el, _, rfl, ?_⟩⟩
  cases ls with
  | nil =>
    refine ite2 (fun z => by cases z) (fun _ => ?_)
    exact k _ dp dl xs e1 e2 E7 T7 R7
  | cons y ls =>
    refine ite2 (fun _ => ?_) (fun z => absurd rfl z)
    refine ⟨fun σ H8 => ∃ s4 s5 xs' ls' e1' e2', σ = [some (.ref x), some (.ref ta), some gv, some (.int 300), s4, s5] ∧ RS K P w t g H8 x dx (.ref ta) gv dp dl xs' ls' e1' e2' ∧ Tabs (TT K) H8 ∧ ExtN H0 H8 ∧ xs'.length = xs.length + 1, ?_, ?_⟩
    · rintro σ H8 ⟨c4, c5, xs', ls', e1', e2', rfl, R8, T8, E8, hl⟩
      have fw8 := R8.few dg m3
      exact ⟨_, by omega, c4, c5, xs', ls', e1', e2', rfl, R8, T8, E8, rfl⟩
    refine ⟨_, rfl, x, dx, _, rfl, R7.ins, rfl, ?_⟩
    refine ⟨H0, x, dx, _, gv, dp, dl, xs, y :: ls, e1, e2, t, g, rfl, R7, tok, gok, gm, gs, dg, m3, (by intro z; cases z), T7, E7, p0, l0, fun H8 xs' ls' e1' e2' hl R8 T8 E8 => ?_⟩
    have fw8 := R8.few dg m3
    refine ⟨_, rfl, rfl, _, rfl, ite2 (fun _ => ?_) (fun z => absurd rfl z)⟩
    refine ⟨_, rfl, x, _, dx, _, _, rfl, R8.ins, A.cl_Rows, A.na_its_programs, rfl, dp, xs', e1', rfl, R8.ep, _, rfl, _, _, rfl, rfl, _, rfl, ?_⟩
    refine ite2 (fun z => ?_) (fun _ => ⟨_, _, xs', ls', e1', e2', rfl, R8, T8, E8, hl⟩)
    exfalso
    have q := of_decide_eq_true z
    omega
end
end K56
set_option Elab.async false
set_option linter.all false
set_option maxRecDepth 100000
set_option maxHeartbeats 4000000
namespace K56
open PySem PySem.Spec PyProof.Rows L2 LamX NdefX
/-! ### harmed_by, harmed -/
def tNevE : TE := fun _ _ _ => False
theorem pe_nev {X : Cx} {e : Expr} : PE X e tNevE := ⟨fun _ _ _ _ _ _ h => h.elim⟩
theorem pe_most {X : Cx} (A : Hd X.K X.mg) (hg : Gl X "MOST_ROWS") {p : Pos} : PE X (.Name "MOST_ROWS" p) (tC (.int 300)) := by
  obtain ⟨t, hm⟩ := A.n
  exact ⟨fun pins s σ H Q I h => ld_glob I hg hm ⟨.int 300, H, I, ⟨t, rfl⟩, h⟩ (by decide)⟩
def Grow (t : Tb) (more : List En) : Prop := (∀ e ∈ more, e.ok t.many t.signs) ∧ t.ents.length + more.length ≤ 31 ∧ ∀ fs : List En, fs.Nodup → (∀ e, e ∈ fs ↔ e ∈ t.ents ∨ e ∈ more) → Diag t ⟨t.many, t.signs, fs⟩
def spHarmBy (K : PySem.W.Frag) : Sp := fun vs H Q _ => ∃ (tv : V) (m : Addr) (ws : List V) (t : Tb) (more : List En), vs = [tv, .ref m, .int 300] ∧ Rp K H tv t.d ∧ t.ok ∧ t.many ≤ 3 ∧ SqT K H m ws ∧ RpL K H ws (more.map En.d) ∧ Grow t more ∧ Tabs (TT K) H ∧
  ∀ H', ExtN H H' → Tabs (TT K) H' → Q .non H'
def spHarmed (K : PySem.W.Frag) : Sp := fun vs H Q _ => ∃ (tv : V) (m : Addr) (ws : List V) (t : Tb) (more : List En), vs = [tv, .ref m] ∧ Rp K H tv t.d ∧ t.ok ∧ t.many ≤ 3 ∧ SqT K H m ws ∧ RpL K H ws (more.map En.d) ∧ Grow t more ∧ Tabs (TT K) H ∧
  ∀ H', ExtN H H' → Tabs (TT K) H' → Q .non H'
theorem grow_ok {t : Tb} {more fs : List En} (tok : t.ok) (g : Grow t more) (nd : fs.Nodup) (le : fs.length ≤ t.ents.length + more.length) (hm : ∀ e, e ∈ fs ↔ e ∈ t.ents ∨ e ∈ more) : (Tb.mk t.many t.signs fs).ok where
  m1 := tok.m1
  m4 := tok.m4
  sg := tok.sg
  s6 := tok.s6
  en := fun e he => by
    rcases (hm e).mp he with h | h
    · exact tok.en e h
    · exact g.1 e h
  e31 := Nat.le_trans le g.2.1
section
variable {P : Program} {w : World} {K : PySem.W.Frag} {mg : Str → Option Value} {base : Heap}
theorem sc_harmed_by : FnScope ["table", "more", "most", "rows", "bad", "row"] ["table", "more", "most"] (defScope s_harmed_by) := ⟨rfl, rfl, rfl, by decide +kernel, rfl, by decide +kernel, by decide +kernel⟩
theorem ok_harmed_by (A : Hd K mg) (TB : TabB base mg (He.cT K pS).1 (He.cT K pS).2) : Cl P w K mg base "harmed_by" ["table", "more", "most"] 8 (spHarmBy K) := by
  obtain ⟨fd, F⟩ := A.f_harmed_by
  refine Cl.of F A.g_harmed_by sc_harmed_by (fun _ _ _ _ _ _ us hl => match us, hl with | [_, _, _], _ => rfl) (fun vs H Q E h => (by obtain ⟨tv, m, ws, t, more, rfl, _⟩ := h; rfl)) (fun cdv Ar outer s H vs Q E hr h => ?_)
  obtain ⟨tv, m, ws, t, more, rfl, rt, tok, m3, hm, rm, gr, hT, k⟩ := h
  refine ⟨_, (pss_cons (ps_set (i := 3) sc_harmed_by.nd rfl (.inr rfl) (pe_fld (pe_mkC (ok_rinit A TB) A.mk_Rows (hr.mono (by decide)) (by rfl) A.g_Rows (pa_cons (pv 0) (pa_cons (pe_cl (ok_with_entries A) (hr.mono (by decide)) (by rfl) (pa_cons (pv 0) (pa_cons (pv 1) pa_nil))) (pa_cons (pv 2) pa_nil)))) rfl))
  (pss_cons (ps_setLcF (i := 4) (own := [("row", 5)]) (by rfl) sc_harmed_by.nd rfl rfl (sw_true rfl rfl rfl (by decide +kernel)) (pi_kkeys (pv 3)) (blkOk_by (by rfl)) (fun _ _ _ _ _ => (pg_name (i := 5) sc_harmed_by.nd rfl (.inl rfl))) (fun _ _ _ _ _ => (pts_one (pt_val (pe_cl (ok_is_bad A) (hr.mono (by decide)) (by rfl) (pa_cons (pv 5) pa_nil)) (fun _ => rfl)))) (fun _ _ _ _ _ => (pe_kget (hu64 hr) (pv 3) (pv 5) (fun _ _ => rfl))))
  (pss_one (ps_ret (pe_ifExp (pt_cmpR (op_neQ (hu64 hr)) (pv 4) (pe_lst pa_nil) (nomark _)) pe_nev pe_non))))), ?_⟩
  refine ⟨_, rfl, _, rfl, _, rfl, tv, m, ws, t, more, rfl, rt, hm, rm, by have := gr.2.1; omega, fun gv H1 fs s1 rg nd le mem => ?_⟩
  refine ⟨_, rfl, fun x dx nx ndx nex => ?_⟩
  have gok := grow_ok tok gr nd le mem
  have dg := gr.2.2 fs nd mem
  have T1 := tabs_same hT s1
  have sA : Same H1 (upd H1 dx (.own x)) := same_new ndx
  have sB : Same H1 (upd (upd H1 dx (.own x)) x (.ins (cR K) dx [])) := same_mut sA nx
  have T2 : Tabs (TT K) (upd (upd H1 dx (.own x)) x (.ins (cR K) dx [])) := tabs_same T1 sB
  refine ⟨H1, x, dx, tv, gv, t, ⟨t.many, t.signs, fs⟩, rfl, sB, nx, upd_same, (rt.mono (tu_same s1)).mono (tu_same sB), rg.mono (tu_same sB), tok, gok, rfl, rfl, dg, m3, T2, fun H2 dp dl xs e1 e2 E2 T3 R => ⟨rfl, ?_⟩⟩
  refine ⟨x, _, dx, _, _, rfl, R.ins, A.cl_Rows, A.na_its_programs, rfl, ?_⟩
  have E02 : ExtN H H2 := (ExtN.of fun b o h => s1 b o h).trans E2
  have fw := R.few dg m3
  refine ⟨_, rfl, dp, xs, e1, rfl, R.ep, fun Dl hD => ?_⟩
  refine lc_same (K := K) walk_nd hD (fun i ds => ds = []) (by omega) (fun H6 s6 => s6 _ _ R.ep) rfl ?_ ?_
  · rintro i v H3 _ ds hi s3 ⟨rfl, y, hy, rfl⟩ hds Qe Qn he hn
    obtain ⟨p, r⟩ := (R.same s3).np y (List.mem_of_getElem? hy)
    have r1 := r.key
    rw [r.row] at r1
    refine ⟨rfl, _, rfl, _, (List.range t.many).map fun k => ((cap (cnt t.ents p k) : Nat) : Int), rfl, ?_, by rw [List.length_map, List.length_range]; omega, fun H4 s4 => ⟨_, rfl, ?_⟩⟩
    · have e : rowP t ⟨t.many, t.signs, fs⟩ p = .tup (((List.range t.many).map fun k => ((cap (cnt t.ents p k) : Nat) : Int)).map fun c => .tup [.int c, .int c]) := by
        unfold rowP
        rw [List.map_map]
        congr 1
        refine List.map_congr_left fun k hk => ?_
        rw [← dg p r.ok k (List.mem_range.mp hk)]
        rfl
      rw [← e]
      exact r1
    · exact ite2 (fun z => by cases z) (fun _ => hn _ s4 hds)
  · intro H3 ws3 ds s3 e3 r3 hds _
    subst hds
    cases r3.nil_inv
    have E3 : ExtN H H3 := extN_same E02 s3
    refine ⟨_, rfl, sz0, fun q1 hq1 => ?_⟩
    have s4 := same_new (o := .lst []) hq1
    refine .inr ⟨Dl, q1, [], [], [], [], rfl, rfl, .of (s4 _ _ e3), .of upd_same, .nil, .nil, by simp [D.pys, PyData.depthAll], by simp [D.pys, PyData.depthAll], _, rfl, ite2 (fun z => ?_) (fun _ => ?_)⟩
    · simp at z
    · exact k _ (extN_same E3 s4) (tabs_same (tabs_same T3 s3) s4)
theorem sc_harmed : FnScope ["table", "more", "program", "other", "greater", "reading"] ["table", "more"] (defScope s_harmed) := ⟨rfl, rfl, rfl, by decide +kernel, rfl, by decide +kernel, by decide +kernel⟩
theorem ok_harmed (A : Hd K mg) (TB : TabB base mg (He.cT K pS).1 (He.cT K pS).2) : Cl P w K mg base "harmed" ["table", "more"] 9 (spHarmed K) := by
  obtain ⟨fd, F⟩ := A.f_harmed
  refine Cl.of F A.g_harmed sc_harmed (fun _ _ _ _ _ _ us hl => match us, hl with | [_, _], _ => rfl) (fun vs H Q E h => (by obtain ⟨tv, m, ws, t, more, rfl, _⟩ := h; rfl)) (fun cdv Ar outer s H vs Q E hr h => ?_)
  obtain ⟨tv, m, ws, t, more, rfl, rt, tok, m3, hm, rm, gr, hT, k⟩ := h
  refine ⟨_, (pss_cons (ps_set (i := 2) sc_harmed.nd rfl (.inl rfl) (pe_cl (ok_harmed_by A TB) (hr.mono (by decide)) (by rfl) (pa_cons (pv 0) (pa_cons (pv 1) (pa_cons (pe_most A (by rfl)) pa_nil)))))
  (pss_cons (ps_if (pt_cmpR op_isN (pv 2) pe_non (nomark _)) (pss_one (ps_ret pe_non)) pss_nil)
  pss_never)), ?_⟩
  refine ⟨_, rfl, _, rfl, tv, m, ws, t, more, rfl, rt, tok, m3, hm, rm, gr, hT, fun H1 E1 T1 => ?_⟩
  exact ⟨_, rfl, rfl, _, rfl, ite2 (fun _ => k H1 E1 T1) (fun z => absurd rfl z)⟩
end
end K56
set_option Elab.async false
set_option linter.all false
set_option maxRecDepth 100000
set_option maxHeartbeats 4000000
namespace K56
open PySem PySem.Spec PyProof.Rows L2
/-! ### what tables have: the same in another order, more entries, kinds that go along -/
theorem led_app (es fs : List En) (s : Nat) (vs : List (Nat → Nat)) (k : Nat) : led (es ++ fs) s vs k = led es s vs k + led fs s vs k := by
  unfold led
  rw [List.filter_append, List.map_append, List.sum_append]
theorem sum_perm {l m : List Nat} (h : l.Perm m) : l.sum = m.sum := by
  induction h with
  | nil => rfl
  | cons x _ ih => rw [List.sum_cons, List.sum_cons, ih]
  | swap x y l => simp only [List.sum_cons]; omega
  | trans _ _ a b => exact a.trans b
theorem led_perm {es fs : List En} (h : es.Perm fs) (s : Nat) (vs : List (Nat → Nat)) (k : Nat) : led es s vs k = led fs s vs k := by
  unfold led
  exact sum_perm ((h.filter _).map _)
theorem cnt_perm {es fs : List En} (h : es.Perm fs) : ∀ p : Pg, cnt es p = cnt fs p
  | .n0 s => funext fun k => led_perm h s [] k
  | .n1 s p => funext fun k => by
    show led es s [cnt es p] k = led fs s [cnt fs p] k
    rw [cnt_perm h p]
    exact led_perm h s _ k
  | .n2 s p q => funext fun k => by
    show led es s [cnt es p, cnt es q] k = led fs s [cnt fs p, cnt fs q] k
    rw [cnt_perm h p, cnt_perm h q]
    exact led_perm h s _ k
/-- readings by vs as by us, wherever parts can be -/
inductive Alk (R : Nat → Prop) : List (Nat → Nat) → List (Nat → Nat) → Prop where
  | nil : Alk R [] []
  | cons {v u : Nat → Nat} {vs us : List (Nat → Nat)} (h : ∀ k, R k → v k = u k) (t : Alk R vs us) : Alk R (v :: vs) (u :: us)
theorem way_alk {R : Nat → Prop} : ∀ {vs us : List (Nat → Nat)} (ks : List Nat), Alk R vs us → (∀ k ∈ ks, R k) → wayP vs ks = wayP us ks
  | _, _, ks, .nil, _ => by cases ks <;> rfl
  | _, _, [], .cons _ _, _ => rfl
  | _, _, k :: ks, .cons h t, hk => by
    show _ * _ = _ * _
    rw [h k (hk k (List.mem_cons_self ..)), way_alk ks t fun j hj => hk j (List.mem_cons_of_mem _ hj)]
theorem led_alk {R : Nat → Prop} {vs us : List (Nat → Nat)} (a : Alk R vs us) (s k : Nat) : ∀ (es : List En), (∀ e ∈ es, ∀ k ∈ e.parts, R k) → led es s vs k = led es s us k
  | [], _ => rfl
  | e :: es, h => by
    rw [led_cons, led_cons, way_alk e.parts a (h e (List.mem_cons_self ..)), led_alk a s k es fun y hy => h y (List.mem_cons_of_mem _ hy)]
theorem led_none (s : Nat) (vs : List (Nat → Nat)) (k : Nat) : ∀ (es : List En), (∀ e ∈ es, e.kind ≠ k) → led es s vs k = 0
  | [], _ => rfl
  | e :: es, h => by
    rw [led_cons, if_neg (fun z => h e (List.mem_cons_self ..) z.2), led_none s vs k es fun y hy => h y (List.mem_cons_of_mem _ hy)]
/-- kinds in another order -/
theorem way_move {order : List Nat} {n : Nat} : ∀ {vs us : List (Nat → Nat)} (ks : List Nat), Alk (fun _ => True) (us.map fun u => u) us → vs.length = us.length → (∀ (j : Nat) (v u : Nat → Nat), vs[j]? = some v → us[j]? = some u → ∀ k, k < n → v (order.idxOf k) = u k) → (∀ k ∈ ks, k < n) → wayP vs (ks.map order.idxOf) = wayP us ks
  | [], [], ks, _, _, _, _ => by cases ks <;> rfl
  | [], _ :: _, _, _, h, _, _ => by simp at h
  | _ :: _, [], _, _, h, _, _ => by simp at h
  | v :: vs, u :: us, [], _, _, _, _ => rfl
  | v :: vs, u :: us, k :: ks, .cons _ a, hl, h, hk => by
    show _ * _ = _ * _
    rw [h 0 v u rfl rfl k (hk k (List.mem_cons_self ..)), way_move ks a (by simpa using hl) (fun j v u h1 h2 => h (j + 1) v u (by simpa using h1) (by simpa using h2)) fun j hj => hk j (List.mem_cons_of_mem _ hj)]
theorem alk_refl (R : Nat → Prop) : ∀ us : List (Nat → Nat), Alk R us us
  | [] => .nil
  | _ :: us => .cons (fun _ _ => rfl) (alk_refl R us)
theorem idx_inj {order : List Nat} {i j : Nat} (hi : i ∈ order) (e : order.idxOf i = order.idxOf j) (hj : j ∈ order) : i = j := by
  obtain ⟨a, ha, ea⟩ := List.getElem_of_mem hi
  obtain ⟨b, hb, eb⟩ := List.getElem_of_mem hj
  have h1 : order.idxOf i < order.length := List.idxOf_lt_length_of_mem hi
  have h2 : order.idxOf j < order.length := List.idxOf_lt_length_of_mem hj
  have q1 : order[order.idxOf i] = i := List.getElem_idxOf h1
  have q2 : order[order.idxOf j] = j := List.getElem_idxOf h2
  rw [← q1, ← q2]
  congr 1
theorem led_move {order : List Nat} {n : Nat} (o : Order order n) {vs us : List (Nat → Nat)} (hl : vs.length = us.length) (h : ∀ (j : Nat) (v u : Nat → Nat), vs[j]? = some v → us[j]? = some u → ∀ k, k < n → v (order.idxOf k) = u k) (s k : Nat) (hk : k < n) :
    ∀ (es : List En), (∀ e ∈ es, e.kind < n ∧ ∀ k ∈ e.parts, k < n) → led (es.map (moveE order)) s vs (order.idxOf k) = led es s us k
  | [], _ => rfl
  | e :: es, he => by
    obtain ⟨e1, e2⟩ := he e (List.mem_cons_self ..)
    rw [List.map_cons, led_cons, led_cons, led_move o hl h s k hk es fun y hy => he y (List.mem_cons_of_mem _ hy)]
    have w : wayP vs (moveE order e).parts = wayP us e.parts := by
      show wayP vs (e.parts.map order.idxOf) = _
      have a : Alk (fun _ => True) (us.map fun u => u) us := by rw [List.map_id']; exact alk_refl _ us
      exact way_move (n := n) e.parts a hl h e2
    rw [w]
    have c : ((moveE order e).sign = s ∧ (moveE order e).kind = order.idxOf k) ↔ (e.sign = s ∧ e.kind = k) :=
      ⟨fun z => ⟨z.1, idx_inj ((o.all _).mpr e1) z.2 ((o.all _).mpr hk)⟩, fun z => ⟨z.1, by show order.idxOf e.kind = _; rw [z.2]⟩⟩
    by_cases d : e.sign = s ∧ e.kind = k
    · rw [if_pos d, if_pos (c.mpr d)]
    · rw [if_neg d, if_neg fun z => d (c.mp z)]
theorem cnt_move {order : List Nat} {n : Nat} (o : Order order n) {es : List En} (he : ∀ e ∈ es, e.kind < n ∧ ∀ k ∈ e.parts, k < n) : ∀ (p : Pg) (k : Nat), k < n → cnt (es.map (moveE order)) p (order.idxOf k) = cnt es p k
  | .n0 s, k, hk => led_move o (vs := []) (us := []) rfl (fun j v u h => by simp at h) s k hk es he
  | .n1 s p, k, hk => led_move o (vs := [cnt (es.map (moveE order)) p]) (us := [cnt es p]) rfl (fun j v u h1 h2 k hk => by
      match j, h1, h2 with
      | 0, h1, h2 => cases h1; cases h2; exact cnt_move o he p k hk
      | j + 1, h1, h2 => simp at h1) s k hk es he
  | .n2 s p q, k, hk => led_move o (vs := [cnt (es.map (moveE order)) p, cnt (es.map (moveE order)) q]) (us := [cnt es p, cnt es q]) rfl (fun j v u h1 h2 k hk => by
      match j, h1, h2 with
      | 0, h1, h2 => cases h1; cases h2; exact cnt_move o he p k hk
      | 1, h1, h2 => cases h1; cases h2; exact cnt_move o he q k hk
      | j + 2, h1, h2 => simp at h1) s k hk es he
/-- a kind more that is like one -/
def copyE (n : Nat) (e : En) : En := ⟨e.sign, e.parts, n⟩
def likeL (es : List En) (j n : Nat) : List En := (es.filter fun e => e.kind == j).map (copyE n)
theorem led_like (es : List En) (j n s : Nat) (vs : List (Nat → Nat)) : led (likeL es j n) s vs n = led es s vs j := by
  induction es with
  | nil => rfl
  | cons e es ih =>
    rw [led_cons]
    unfold likeL at ih ⊢
    by_cases c : e.kind = j
    · rw [List.filter_cons_of_pos (by simpa using c), List.map_cons, led_cons, ih]
      congr 1
      by_cases d : e.sign = s
      · rw [if_pos (show (copyE n e).sign = s ∧ (copyE n e).kind = n from ⟨d, rfl⟩), if_pos ⟨d, c⟩]; rfl
      · rw [if_neg fun z => d z.1, if_neg fun z => d z.1]
    · rw [List.filter_cons_of_neg (by simpa using c), ih, if_neg fun z => c z.2, Nat.zero_add]
theorem likeL_kind {es : List En} {j n : Nat} {e : En} (h : e ∈ likeL es j n) : e.kind = n := by
  obtain ⟨x, _, rfl⟩ := List.mem_map.mp h
  rfl
theorem led_wide {es fs : List En} {j n : Nat} (pm : fs.Perm (es ++ likeL es j n)) (hj : j < n) (he : ∀ e ∈ es, e.kind < n ∧ ∀ k ∈ e.parts, k < n) (s : Nat) {vs us : List (Nat → Nat)} (a : Alk (· < n) vs us) :
    (∀ k, k < n → led fs s vs k = led es s us k) ∧ led fs s vs n = led es s us j := by
  have al : ∀ k, led es s vs k = led es s us k := fun k => led_alk a s k es fun e h => (he e h).2
  refine ⟨fun k hk => ?_, ?_⟩
  · rw [led_perm pm, led_app, led_none s vs k (likeL es j n) (fun e h => by rw [likeL_kind h]; omega), Nat.add_zero, al]
  · rw [led_perm pm, led_app, led_like, led_none s vs n es (fun e h => by have := (he e h).1; omega), al, Nat.zero_add]
theorem cnt_wide {es fs : List En} {j n : Nat} (pm : fs.Perm (es ++ likeL es j n)) (hj : j < n) (he : ∀ e ∈ es, e.kind < n ∧ ∀ k ∈ e.parts, k < n) : ∀ p : Pg, (∀ k, k < n → cnt fs p k = cnt es p k) ∧ cnt fs p n = cnt es p j
  | .n0 s => led_wide pm hj he s .nil
  | .n1 s p => led_wide pm hj he s (.cons (cnt_wide pm hj he p).1 .nil)
  | .n2 s p q => led_wide pm hj he s (.cons (cnt_wide pm hj he p).1 (.cons (cnt_wide pm hj he q).1 .nil))
/-- entries more -/
theorem more_perm {es fs : List En} (d1 : es.Nodup) (d2 : fs.Nodup) (h : ∀ e ∈ es, e ∈ fs) : fs.Perm (es ++ fs.filter fun e => !es.contains e) := by
  refine (List.perm_ext_iff_of_nodup d2 ?_).mpr fun e => ?_
  · refine List.nodup_append.mpr ⟨d1, d2.sublist List.filter_sublist, fun a ha b hb z => ?_⟩
    subst z
    have q := (List.mem_filter.mp hb).2
    simp [ha] at q
  · rw [List.mem_append, List.mem_filter]
    constructor
    · intro he
      by_cases c : e ∈ es
      · exact .inl c
      · exact .inr ⟨he, by simpa using c⟩
    · rintro (c | c)
      · exact h e c
      · exact c.1
theorem way_le : ∀ {vs us : List (Nat → Nat)} (ks : List Nat), vs.length = us.length → (∀ (j : Nat) (v u : Nat → Nat), vs[j]? = some v → us[j]? = some u → ∀ k, v k ≤ u k) → wayP vs ks ≤ wayP us ks
  | [], [], ks, _, _ => by cases ks <;> exact Nat.le_refl _
  | [], _ :: _, _, h, _ => by simp at h
  | _ :: _, [], _, h, _ => by simp at h
  | v :: vs, u :: us, [], _, _ => Nat.le_refl _
  | v :: vs, u :: us, k :: ks, hl, h => Nat.mul_le_mul (h 0 v u rfl rfl k) (way_le ks (by simpa using hl) fun j v u h1 h2 => h (j + 1) v u (by simpa using h1) (by simpa using h2))
theorem led_le {vs us : List (Nat → Nat)} (hl : vs.length = us.length) (h : ∀ (j : Nat) (v u : Nat → Nat), vs[j]? = some v → us[j]? = some u → ∀ k, v k ≤ u k) (s k : Nat) : ∀ es : List En, led es s vs k ≤ led es s us k
  | [] => Nat.le_refl _
  | e :: es => by
    rw [led_cons, led_cons]
    refine Nat.add_le_add ?_ (led_le hl h s k es)
    split
    · exact way_le _ hl h
    · exact Nat.le_refl _
theorem led_more {es fs : List En} (d1 : es.Nodup) (d2 : fs.Nodup) (hs : ∀ e ∈ es, e ∈ fs) {vs us : List (Nat → Nat)} (hl : vs.length = us.length) (h : ∀ (j : Nat) (v u : Nat → Nat), vs[j]? = some v → us[j]? = some u → ∀ k, v k ≤ u k) (s k : Nat) : led es s vs k ≤ led fs s us k := by
  rw [led_perm (more_perm d1 d2 hs), led_app]
  have := led_le hl h s k es
  omega
theorem cnt_more {es fs : List En} (d1 : es.Nodup) (d2 : fs.Nodup) (hs : ∀ e ∈ es, e ∈ fs) : ∀ (p : Pg) (k : Nat), cnt es p k ≤ cnt fs p k
  | .n0 s, k => led_more d1 d2 hs (vs := []) (us := []) rfl (fun j v u h => by simp at h) s k
  | .n1 s p, k => led_more d1 d2 hs (vs := [cnt es p]) (us := [cnt fs p]) rfl (fun j v u h1 h2 k => by
      match j, h1, h2 with
      | 0, h1, h2 => cases h1; cases h2; exact cnt_more d1 d2 hs p k
      | j + 1, h1, h2 => simp at h1) s k
  | .n2 s p q, k => led_more d1 d2 hs (vs := [cnt es p, cnt es q]) (us := [cnt fs p, cnt fs q]) rfl (fun j v u h1 h2 k => by
      match j, h1, h2 with
      | 0, h1, h2 => cases h1; cases h2; exact cnt_more d1 d2 hs p k
      | 1, h1, h2 => cases h1; cases h2; exact cnt_more d1 d2 hs q k
      | j + 2, h1, h2 => simp at h1) s k
/-- as many together: as many of each -/
theorem each_of_sum {f g : Nat → Nat} {l : List Nat} (h : ∀ k ∈ l, f k ≤ g k) (e : (l.map f).sum = (l.map g).sum) : ∀ k ∈ l, f k = g k := fun k hk => by
  by_cases c : f k = g k
  · exact c
  · have hl : f k < g k := by have := h k hk; omega
    have := sum_lt l h ⟨k, hk, hl⟩
    omega
/-- entries that nobody comes to -/
theorem way_zero : ∀ {vs : List (Nat → Nat)} {ks : List Nat} {j : Nat} {v : Nat → Nat} {k : Nat}, vs[j]? = some v → ks[j]? = some k → v k = 0 → wayP vs ks = 0
  | v :: vs, k :: ks, 0, _, _, h1, h2, z => by
    cases h1; cases h2
    show _ * _ = 0
    rw [z, Nat.zero_mul]
  | v :: vs, k :: ks, j + 1, _, _, h1, h2, z => by
    show _ * _ = 0
    rw [way_zero (vs := vs) (ks := ks) (by simpa using h1) (by simpa using h2) z, Nat.mul_zero]
  | [], _, _, _, _, h1, _, _ => by simp at h1
  | _ :: _, [], _, _, _, _, h2, _ => by simp at h2
theorem way_pos : ∀ {vs : List (Nat → Nat)} {ks : List Nat}, wayP vs ks ≠ 0 → ∀ (j : Nat) (v : Nat → Nat) (k : Nat), vs[j]? = some v → ks[j]? = some k → v k ≠ 0 := fun h j v k h1 h2 z => h (way_zero h1 h2 z)
theorem led_pos {s k : Nat} {vs : List (Nat → Nat)} : ∀ {es : List En}, led es s vs k ≠ 0 → ∃ e ∈ es, e.sign = s ∧ e.kind = k ∧ wayP vs e.parts ≠ 0
  | [], h => absurd rfl h
  | e :: es, h => by
    rw [led_cons] at h
    by_cases c : (e.sign = s ∧ e.kind = k) ∧ wayP vs e.parts ≠ 0
    · exact ⟨e, List.mem_cons_self .., c.1.1, c.1.2, c.2⟩
    · have z : led es s vs k ≠ 0 := fun z => by
        rw [z] at h
        refine h ?_
        by_cases d : e.sign = s ∧ e.kind = k
        · rw [if_pos d]
          exact Classical.byContradiction fun y => c ⟨d, y⟩
        · rw [if_neg d]
      obtain ⟨x, hx, r⟩ := led_pos z
      exact ⟨x, List.mem_cons_of_mem _ hx, r⟩
theorem cnt_made {t : Tb} (tok : t.ok) : ∀ (p : Pg), p.ok t.signs → ∀ k, cnt t.ents p k ≠ 0 → Made t.ents k := fun p => by
  induction p with
  | n0 s =>
    intro ok k h
    obtain ⟨e, he, h1, rfl, _⟩ := led_pos h
    refine .by_ e he fun j hj => ?_
    have q := (tok.en e he).ar
    rw [h1, show t.signs[s]? = some 0 from ok] at q
    have z : e.parts = [] := List.length_eq_zero_iff.mp (Option.some.inj q).symm
    rw [z] at hj
    cases hj
  | n1 s p ih =>
    intro ok k h
    obtain ⟨e, he, h1, rfl, h2⟩ := led_pos h
    refine .by_ e he fun j hj => ?_
    have q := (tok.en e he).ar
    rw [h1, ok.1] at q
    obtain ⟨i, hi, rfl⟩ := List.getElem_of_mem hj
    have l1 : e.parts.length = 1 := (Option.some.inj q).symm
    obtain rfl : i = 0 := by omega
    exact ih ok.2 _ (way_pos h2 0 (cnt t.ents p) _ rfl (List.getElem?_eq_getElem hi))
  | n2 s p r ih1 ih2 =>
    intro ok k h
    obtain ⟨e, he, h1, rfl, h2⟩ := led_pos h
    refine .by_ e he fun j hj => ?_
    have q := (tok.en e he).ar
    rw [h1, ok.1] at q
    obtain ⟨i, hi, rfl⟩ := List.getElem_of_mem hj
    have l1 : e.parts.length = 2 := (Option.some.inj q).symm
    match i, hi with
    | 0, hi => exact ih1 ok.2.1 _ (way_pos h2 0 (cnt t.ents p) _ rfl (List.getElem?_eq_getElem hi))
    | 1, hi => exact ih2 ok.2.2 _ (way_pos h2 1 (cnt t.ents r) _ rfl (List.getElem?_eq_getElem hi))
    | i + 2, hi => omega
theorem led_bare {vs : List (Nat → Nat)} (s k : Nat) : ∀ (es : List En), (∀ e ∈ es, e.sign = s → wayP vs e.parts = 0) → led es s vs k = 0
  | [], _ => rfl
  | e :: es, h => by
    rw [led_cons, led_bare s k es fun y hy => h y (List.mem_cons_of_mem _ hy)]
    by_cases c : e.sign = s ∧ e.kind = k
    · rw [if_pos c, h e (List.mem_cons_self ..) c.1]
    · rw [if_neg c]
/-- a table with entries more, each with a part that is not made: all as before -/
theorem bare_diag {t : Tb} (tok : t.ok) (nd : t.ents.Nodup) {more fs : List En} (hm : ∀ e ∈ more, e.ok t.many t.signs ∧ ∃ k ∈ e.parts, ¬ Made t.ents k) (d2 : fs.Nodup) (h : ∀ e, e ∈ fs ↔ e ∈ t.ents ∨ e ∈ more) : ∀ p : Pg, p.ok t.signs → ∀ k, cnt fs p k = cnt t.ents p k := by
  have pm := more_perm nd d2 fun e he => (h e).mpr (.inl he)
  have rest : ∀ (s : Nat) (qs : List Pg), t.signs[s]? = some qs.length → (∀ q ∈ qs, q.ok t.signs) → ∀ e ∈ fs.filter (fun e => !t.ents.contains e), e.sign = s → wayP (qs.map (cnt t.ents)) e.parts = 0 := fun s qs hq ok e he hs => by
    have h1 := List.mem_filter.mp he
    have hme : e ∈ more := by
      rcases (h e).mp h1.1 with z | z
      · have q := h1.2
        simp [z] at q
      · exact z
    obtain ⟨eok, k, hk, nm⟩ := hm e hme
    obtain ⟨i, hi, rfl⟩ := List.getElem_of_mem hk
    have ar := eok.ar
    rw [hs, hq] at ar
    have el := Option.some.inj ar
    have hi' : i < qs.length := by omega
    refine way_zero (j := i) (v := cnt t.ents qs[i]) (by rw [List.getElem?_map, List.getElem?_eq_getElem hi']; rfl) (List.getElem?_eq_getElem hi) ?_
    exact Classical.byContradiction fun z => nm (cnt_made tok qs[i] (ok _ (List.getElem_mem hi')) _ z)
  have step : ∀ (s : Nat) (qs : List Pg), t.signs[s]? = some qs.length → (∀ q ∈ qs, q.ok t.signs ∧ cnt fs q = cnt t.ents q) → ∀ k, led fs s (qs.map (cnt fs)) k = led t.ents s (qs.map (cnt t.ents)) k := fun s qs hq hqs k => by
    have e1 : qs.map (cnt fs) = qs.map (cnt t.ents) := List.map_congr_left fun q hq => (hqs q hq).2
    rw [e1, led_perm pm, led_app, led_bare s k _ (rest s qs hq fun q h => (hqs q h).1), Nat.add_zero]
  intro p
  induction p with
  | n0 s => intro ok k; exact step s [] ok (fun q hq => by cases hq) k
  | n1 s p ih => intro ok k; exact step s [p] ok.1 (fun q hq => by rw [List.mem_singleton.mp hq]; exact ⟨ok.2, funext (ih ok.2)⟩) k
  | n2 s p r ih1 ih2 => intro ok k; exact step s [p, r] ok.1 (fun q hq => by
      rcases List.mem_cons.mp hq with rfl | hq
      · exact ⟨ok.2.1, funext (ih1 ok.2.1)⟩
      · rw [List.mem_singleton.mp hq]; exact ⟨ok.2.2, funext (ih2 ok.2.2)⟩) k
end K56
set_option Elab.async false
set_option linter.all false
set_option maxRecDepth 100000
set_option maxHeartbeats 4000000
namespace K56
open PySem PySem.Spec PyProof.Rows L2
/-! ### the law's own base of rows -/
/-- one step: a lead taken out, a common divisor taken out -/
def Red1 (n : Nat) (f : Vec) (x : Lead) (g : Vec) : Prop :=
  (f x.1 = 0 ∧ ∀ k, k < n → g k = f k) ∨ (f x.1 ≠ 0 ∧ ∃ d : Int, d ≠ 0 ∧ ∀ k, k < n → g k * d = x.2.1 x.1 * f k - f x.1 * x.2.1 k)
inductive RedS (n : Nat) (f : Vec) : List Lead → Vec → Prop where
  | nil : RedS n f [] f
  | snoc {B : List Lead} {x : Lead} {g h : Vec} (a : RedS n f B g) (b : Red1 n g x h) : RedS n f (B ++ [x]) h
theorem Lin.two {n : Nat} {φ : Vec → Int} (l : Lin n φ) {g f e : Vec} {d a b : Int} (h : ∀ k, k < n → g k * d = a * f k - b * e k) : φ g * d = φ f * a - φ e * b := by
  have h1 := l.mix g (fun _ => 0) d 0
  have h2 := l.mix f e a b
  have z : φ (fun _ => 0) = 0 := l.nil fun _ _ => rfl
  rw [z] at h1
  have e1 : φ (fun k => g k * d - (fun _ => 0) k * 0) = φ (fun k => f k * a - e k * b) := l.ext fun k hk => by
    show g k * d - 0 * 0 = f k * a - e k * b
    rw [h k hk, Int.mul_comm a, Int.mul_comm b]
    omega
  rw [h2] at e1
  rw [e1] at h1
  omega
theorem RedS.lin {n : Nat} {f g : Vec} {B : List Lead} (r : RedS n f B g) : (∀ x ∈ B, x.2.1 x.1 ≠ 0) → ∃ c d : Int, c ≠ 0 ∧ d ≠ 0 ∧ ∀ φ, Lin n φ → (∀ x ∈ B, φ x.2.1 = 0) → φ g * d = φ f * c := by
  induction r with
  | nil => exact fun _ => ⟨1, 1, by decide, by decide, fun φ _ _ => rfl⟩
  | @snoc B x g h a b ih =>
    intro nz
    obtain ⟨c, d, hc, hd, q⟩ := ih fun y hy => nz y (List.mem_append_left _ hy)
    have nx := nz x (by simp)
    rcases b with ⟨b1, b2⟩ | ⟨b1, e, he, b2⟩
    · refine ⟨c, d, hc, hd, fun φ l z => ?_⟩
      rw [l.ext b2]
      exact q φ l fun y hy => z y (List.mem_append_left _ hy)
    · refine ⟨c * x.2.1 x.1, d * e, Int.mul_ne_zero hc nx, Int.mul_ne_zero hd he, fun φ l z => ?_⟩
      have q1 := q φ l fun y hy => z y (List.mem_append_left _ hy)
      have q2 := l.two b2
      rw [z x (by simp), Int.zero_mul, Int.sub_zero] at q2
      calc φ h * (d * e) = (φ h * e) * d := by rw [Int.mul_comm d e, Int.mul_assoc]
        _ = (φ g * x.2.1 x.1) * d := by rw [q2]
        _ = (φ g * d) * x.2.1 x.1 := by rw [Int.mul_assoc, Int.mul_comm (x.2.1 x.1) d, Int.mul_assoc]
        _ = φ f * (c * x.2.1 x.1) := by rw [q1, Int.mul_assoc]
/-- leads by ascending places, each nought ahead of its own -/
structure Asc (n : Nat) (B : List Lead) : Prop where
  up : B.Pairwise fun x y => x.1 < y.1
  low : ∀ x ∈ B, ∀ q, q < x.1 → x.2.1 q = 0
  lt : ∀ x ∈ B, x.1 < n
theorem Asc.init {n : Nat} {B : List Lead} {x : Lead} (a : Asc n (B ++ [x])) : Asc n B ∧ (∀ y ∈ B, y.1 < x.1) ∧ (∀ q, q < x.1 → x.2.1 q = 0) ∧ x.1 < n := by
  have p := List.pairwise_append.mp a.up
  exact ⟨⟨p.1, fun y hy => a.low y (List.mem_append_left _ hy), fun y hy => a.lt y (List.mem_append_left _ hy)⟩, fun y hy => p.2.2 y hy x (by simp), a.low x (by simp), a.lt x (by simp)⟩
theorem RedS.zero {n : Nat} {f g : Vec} {B : List Lead} (r : RedS n f B g) : Asc n B → ∀ x ∈ B, g x.1 = 0 := by
  induction r with
  | nil => intro _ x hx; cases hx
  | @snoc B x g h a b ih =>
    intro as y hy
    obtain ⟨as1, up, low, lt⟩ := as.init
    have old : ∀ z ∈ B, h z.1 = 0 := fun z hz => by
      have h0 := ih as1 z hz
      have hl := as1.lt z hz
      rcases b with ⟨_, b2⟩ | ⟨_, e, he, b2⟩
      · rw [b2 _ hl, h0]
      · have q := b2 _ hl
        rw [h0, low _ (up z hz), Int.mul_zero, Int.mul_zero, Int.sub_zero] at q
        rcases Int.mul_eq_zero.mp q with q | q
        · exact q
        · exact absurd q he
    rcases List.mem_append.mp hy with hy | hy
    · exact old y hy
    · rw [List.mem_singleton.mp hy]
      rcases b with ⟨b1, b2⟩ | ⟨_, e, he, b2⟩
      · rw [b2 _ lt, b1]
      · have q := b2 _ lt
        rw [Int.mul_comm (x.2.1 x.1) (g x.1), Int.sub_self] at q
        rcases Int.mul_eq_zero.mp q with q | q
        · exact q
        · exact absurd q he
def Bdn (n : Nat) (f : Vec) (b : Nat) : Prop := ∀ k, k < n → (f k).natAbs < 2 ^ b
theorem Bd.bdn {n : Nat} {f : Vec} {b : Nat} (h : Bd f b) : Bdn n f b := fun k _ => h k
theorem Bdn.mono {n : Nat} {f : Vec} {a b : Nat} (h : Bdn n f a) (e : a ≤ b) : Bdn n f b := fun k hk => Nat.lt_of_lt_of_le (h k hk) (Nat.pow_le_pow_right (by decide) e)
theorem div_lt {x d : Int} {m : Nat} (hd : d ≠ 0) (h : (x * d).natAbs < m) : x.natAbs < m := by
  rw [Int.natAbs_mul] at h
  have := Int.natAbs_pos.mpr hd
  exact Nat.lt_of_le_of_lt (Nat.le_mul_of_pos_right _ this) h
theorem Red1.bd {n : Nat} {f g : Vec} {x : Lead} {b : Nat} (r : Red1 n f x g) (h1 : Bdn n f b) (h2 : Bdn n x.2.1 x.2.2) (hx : x.1 < n) : Bdn n g (b + (x.2.2 + 1)) := by
  rcases r with ⟨_, r2⟩ | ⟨_, d, hd, r2⟩
  · intro k hk
    rw [r2 k hk]
    exact h1.mono (by omega) k hk
  · intro k hk
    refine div_lt hd ?_
    rw [r2 k hk]
    have p1 := natAbs_mul_lt (h2 x.1 hx) (h1 k hk)
    have p2 := natAbs_mul_lt (h1 x.1 hx) (h2 k hk)
    rw [Nat.add_comm x.2.2 b] at p1
    exact natAbs_sub_lt p1 p2
theorem RedS.bd {n : Nat} {f g : Vec} {B : List Lead} {b : Nat} (r : RedS n f B g) (h1 : Bdn n f b) : (∀ x ∈ B, Bdn n x.2.1 x.2.2 ∧ x.1 < n) → Bdn n g (b + bitS B) := by
  induction r with
  | nil => exact fun _ => h1
  | @snoc B x g h a c ih =>
    intro z
    have q := c.bd (ih fun y hy => z y (List.mem_append_left _ hy)) (z x (by simp)).1 (z x (by simp)).2
    rw [bitS_snoc]
    exact q.mono (by omega)
theorem bitS_perm {B C : List Lead} (h : B.Perm C) : bitS B = bitS C := sum_perm (h.map _)
/-- what has been said of all programs of some rows is said of these -/
def Dn (o t : Tb) (ps : List Pg) (q : Pg) : Prop := ∀ φ, Lin (o.many + t.many) φ → (∀ p ∈ ps, φ (numV o t p) = 0) → φ (numV o t q) = 0
theorem Dn.more {o t : Tb} {ps rs : List Pg} {q : Pg} (h : Dn o t ps q) : Dn o t (ps ++ rs) q := fun φ l z => h φ l fun p hp => z p (List.mem_append_left _ hp)
theorem Dn.self {o t : Tb} {ps : List Pg} {q : Pg} (h : q ∈ ps) : Dn o t ps q := fun φ _ z => z q h
structure SB (o t : Tb) (ps : List Pg) (B : List Lead) : Prop where
  len : B.length = ps.length
  ok : ∀ (i : Nat) (p : Pg), ps[i]? = some p → p.ok o.signs ∧ p.size + 1 ≤ 2 ^ (i + 1)
  low : ∀ x ∈ B, ∀ q, q < x.1 → x.2.1 q = 0
  nz : ∀ x ∈ B, x.2.1 x.1 ≠ 0
  bd : ∀ x ∈ B, Bdn (o.many + t.many) x.2.1 x.2.2
  nd : (B.map (·.1)).Nodup
  lt : ∀ x ∈ B, x.1 < o.many + t.many
  bits : bitS B ≤ Sb B.length
  spn : ∀ φ, Lin (o.many + t.many) φ → (∀ p ∈ ps, φ (numV o t p) = 0) → ∀ x ∈ B, φ x.2.1 = 0
section
variable {o t : Tb} {ps : List Pg} {B : List Lead}
theorem SB.nil : SB o t [] [] where
  len := rfl
  ok := fun i p h => by simp at h
  low := fun x h => by cases h
  nz := fun x h => by cases h
  bd := fun x h => by cases h
  nd := List.nodup_nil
  lt := fun x h => by cases h
  bits := Nat.le_refl _
  spn := fun φ _ _ x h => by cases h
theorem SB.few (h : SB o t ps B) : B.length ≤ o.many + t.many := by
  have q := nodup_lt (o.many + t.many) (B.map (·.1)) h.nd fun x hx => by
    obtain ⟨y, hy, rfl⟩ := List.mem_map.mp hx
    exact h.lt y hy
  rwa [List.length_map] at q
theorem SB.all (h : SB o t ps B) : ∀ p ∈ ps, p.ok o.signs ∧ p.size + 1 ≤ 2 ^ ps.length := fun p hp => by
  obtain ⟨i, hi, e⟩ := List.getElem_of_mem hp
  obtain ⟨h1, h2⟩ := h.ok i p (by rw [List.getElem?_eq_getElem hi, e])
  exact ⟨h1, Nat.le_trans h2 (Nat.pow_le_pow_right (by decide) hi)⟩
/-- the leads in the order of their places -/
theorem SB.asc (h : SB o t ps B) {C : List Lead} (pm : C.Perm B) (so : C.Pairwise fun x y => x.1 ≤ y.1) : Asc (o.many + t.many) C where
  up := by
    have nd : (C.map (·.1)).Nodup := ((pm.map (·.1)).nodup_iff).mpr h.nd
    have nd2 : C.Pairwise fun x y => x.1 ≠ y.1 := List.pairwise_map.mp nd
    exact (so.and nd2).imp fun {a b} z => by omega
  low := fun x hx => h.low x (pm.mem_iff.mp hx)
  lt := fun x hx => h.lt x (pm.mem_iff.mp hx)
/-- nothing is left of a row -/
theorem SB.none (h : SB o t ps B) {C : List Lead} (pm : C.Perm B) {q : Pg} {g : Vec} (r : RedS (o.many + t.many) (numV o t q) C g) (z : ∀ k, k < o.many + t.many → g k = 0) : Dn o t ps q := fun φ l zp => by
  obtain ⟨c, d, hc, _, e⟩ := r.lin fun x hx => h.nz x (pm.mem_iff.mp hx)
  have q1 := e φ l fun x hx => h.spn φ l zp x (pm.mem_iff.mp hx)
  rw [l.nil z, Int.zero_mul] at q1
  rcases Int.mul_eq_zero.mp q1.symm with q1 | q1
  · exact q1
  · exact absurd q1 hc
/-- something is: a row more -/
theorem SB.step (h : SB o t ps B) (ho : o.ok) (ht : t.ok) {C : List Lead} (pm : C.Perm B) (so : C.Pairwise fun x y => x.1 ≤ y.1) {q : Pg} {g : Vec} (r : RedS (o.many + t.many) (numV o t q) C g) (hq : q.ok o.signs) (hz : q.size + 1 ≤ 2 ^ (ps.length + 1)) {p : Nat} (hp : p < o.many + t.many) (hne : g p ≠ 0) (hlow : ∀ k, k < p → g k = 0) :
    SB o t (ps ++ [q]) (B ++ [(p, g, 5 * q.size + bitS B)]) ∧ p ∉ B.map (·.1) := by
  have hL := h.len
  have as := h.asc pm so
  have np : p ∉ B.map (·.1) := fun hm => by
    obtain ⟨x, hx, rfl⟩ := List.mem_map.mp hm
    exact hne (r.zero as x (pm.mem_iff.mpr hx))
  refine ⟨⟨by simp [hL], fun i r hr => ?_, ?_, ?_, ?_, ?_, ?_, ?_, ?_⟩, np⟩
  · by_cases c : i < ps.length
    · rw [List.getElem?_append_left c] at hr
      exact h.ok i r hr
    · have e : i = ps.length := by
        have z := (List.getElem?_eq_some_iff.mp hr).1
        rw [List.length_append, List.length_singleton] at z
        omega
      subst e
      rw [List.getElem?_append_right (Nat.le_refl _), Nat.sub_self] at hr
      cases hr
      exact ⟨hq, hz⟩
  · intro x hx
    rcases List.mem_append.mp hx with hx | hx
    · exact h.low x hx
    · rw [List.mem_singleton.mp hx]; exact hlow
  · intro x hx
    rcases List.mem_append.mp hx with hx | hx
    · exact h.nz x hx
    · rw [List.mem_singleton.mp hx]; exact hne
  · intro x hx
    rcases List.mem_append.mp hx with hx | hx
    · exact h.bd x hx
    · rw [List.mem_singleton.mp hx, ← bitS_perm pm]
      exact r.bd (num_bd ho ht q).bdn fun y hy => ⟨h.bd y (pm.mem_iff.mp hy), h.lt y (pm.mem_iff.mp hy)⟩
  · rw [List.map_append]
    refine List.nodup_append.mpr ⟨h.nd, by simp, fun a ha b hb e => ?_⟩
    have e2 : b = p := by simpa using hb
    exact np (e2 ▸ e ▸ ha)
  · intro x hx
    rcases List.mem_append.mp hx with hx | hx
    · exact h.lt x hx
    · rw [List.mem_singleton.mp hx]; exact hp
  · rw [bitS_snoc, List.length_append, List.length_singleton]
    have b := h.bits
    simp only [Sb]
    rw [hL] at b ⊢
    omega
  · intro φ l z x hx
    have zp : ∀ r ∈ ps, φ (numV o t r) = 0 := fun r hr => z r (List.mem_append_left _ hr)
    have zB := h.spn φ l zp
    rcases List.mem_append.mp hx with hx | hx
    · exact zB x hx
    · rw [List.mem_singleton.mp hx]
      obtain ⟨c, d, _, hd, e⟩ := r.lin fun x hx => h.nz x (pm.mem_iff.mp hx)
      have q1 := e φ l fun x hx => zB x (pm.mem_iff.mp hx)
      rw [z q (by simp), Int.zero_mul] at q1
      rcases Int.mul_eq_zero.mp q1 with q1 | q1
      · exact q1
      · exact absurd q1 hd
end
/-- the rows say all of two tables -/
structure Span (o t : Tb) (ps : List Pg) : Prop where
  few : ps.length ≤ o.many + t.many
  ok : ∀ p ∈ ps, p.ok o.signs ∧ p.size ≤ 600
  all : ∀ p : Pg, p.ok o.signs → Dn o t ps p
theorem SB.done {o t : Tb} {ps : List Pg} {B : List Lead} (h : SB o t ps B) (ho : o.ok) (ht : t.ok) (hs : t.signs = o.signs) (hn : o.many + t.many ≤ 8)
    (h0 : ∀ s, o.signs[s]? = some 0 → Dn o t ps (.n0 s)) (h1 : ∀ s, o.signs[s]? = some 1 → ∀ a ∈ ps, Dn o t ps (.n1 s a)) (h2 : ∀ s, o.signs[s]? = some 2 → ∀ a ∈ ps, ∀ b ∈ ps, Dn o t ps (.n2 s a b)) : Span o t ps := by
  have few := h.few
  rw [h.len] at few
  refine ⟨few, fun p hp => ?_, fun p ok φ l z => ?_⟩
  · obtain ⟨a, b⟩ := h.all p hp
    have : 2 ^ ps.length ≤ 2 ^ 8 := Nat.pow_le_pow_right (by decide) (by omega)
    exact ⟨a, by omega⟩
  · exact span_all ho ht hs ps (fun p hp => (h.all p hp).1) (fun s φ l z hs => h0 s hs φ l z) (fun s φ l z hs a ha => h1 s hs a ha φ l z) (fun s φ l z hs a ha b hb => h2 s hs a ha b hb φ l z) p ok φ l z
end K56
set_option Elab.async false
set_option linter.all false
set_option maxRecDepth 100000
set_option maxHeartbeats 4000000
namespace K56
open PySem PySem.Spec PyProof.Rows L2
/-! ### the law's own defs: bag, some, mixed, signs, entry, told -/
theorem Gb.seq {K : PySem.W.Frag} {b a l : Addr} {cs : List Int} {H H' : Hp} {xs : List V} (g : Gb b a cs H H') (h : SqL K H l xs) (n : l ≠ b) : SqL K H' l xs := by
  rcases h with (h | ⟨q, h⟩) | h
  · exact .inl (.inl (g.at n h))
  · exact .inl (.inr ⟨q, g.at n h⟩)
  · exact .inr h
theorem Gb.mut0 {b a l : Addr} {cs : List Int} {H0 H H' : Hp} {o : HO} (s : Same H0 H) (g : Gb b a cs H H') (h : H0 l = none) (h2 : H l = some o) {u : HO} (nb : l ≠ b) (na : l ≠ a) : True := trivial
def spBag (K : PySem.W.Frag) : Sp := fun vs H Q _ => ∃ (sl : Addr) (ns : List Int), vs = [.ref sl] ∧ SqL K H sl (ns.map V.int) ∧ ns.length ≤ 1000 ∧ ∀ (b a : Addr) (cs : List Int) (H' : Hp), Same H H' → Bag b a cs H' → Q (.ref b) H'
def spSome (K : PySem.W.Frag) : Sp := fun vs H Q _ => ∃ (b a l : Addr) (cs : List Int) (xs : List V), vs = [.ref b, .ref l] ∧ Bag b a cs H ∧ ((SqL K H l xs ∧ l ≠ b) ∨ SqT K H l xs) ∧ 0 < xs.length ∧ xs.length ≤ 1000 ∧
  ∀ (j : Nat) (v : V) (H' : Hp), xs[j]? = some v → Gb b a cs H H' → Q v H'
def spMixed (K : PySem.W.Frag) : Sp := fun vs H Q _ => ∃ (b a l : Addr) (cs : List Int) (n : Nat), vs = [.ref b, .ref l] ∧ Bag b a cs H ∧ SqL K H l ((List.range n).map fun (k : Nat) => V.int (k : Int)) ∧ l ≠ b ∧ n ≤ 100 ∧
  ∀ (p : Addr) (H' : Hp) (order : List Nat), Gb b a cs H H' → H p = none → H' p = some (.lst (order.map fun (k : Nat) => V.int (k : Int))) → order.Perm (List.range n) → Q (.ref p) H'
def spSigns (K : PySem.W.Frag) : Sp := fun vs H Q _ => ∃ (b a : Addr) (cs : List Int) (most : Nat), vs = [.ref b, .int (most : Int)] ∧ Bag b a cs H ∧ 0 < most ∧ most ≤ 6 ∧
  ∀ (v : V) (H' : Hp) (L : List Nat), Gb b a cs H H' → Rp K H' v (natD L) → (∀ s ∈ L, s ≤ 2) → L.length ≤ most → L[0]? = some 0 → Q v H'
def spEntry (K : PySem.W.Frag) : Sp := fun vs H Q _ => ∃ (b a : Addr) (cs : List Int) (many s ar : Nat) (sv : V) (signs : List Nat), vs = [.ref b, .int (many : Int), sv, .int (s : Int)] ∧ Bag b a cs H ∧ 0 < many ∧ many ≤ 1000 ∧ Rp K H sv (natD signs) ∧ signs[s]? = some ar ∧ ar ≤ 2 ∧
  ∀ (v : V) (H' : Hp) (e : En), Gb b a cs H H' → Rp K H' v e.d → e.ok many signs → e.sign = s → Q v H'
def spTold (K : PySem.W.Frag) : Sp := fun vs H Q _ => ∃ (many : Nat) (sv : V) (signs : List Nat) (l : Addr) (xs : List V) (es : List En), vs = [.int (many : Int), sv, .ref l] ∧ Rp K H sv (natD signs) ∧ SqL K H l xs ∧ RpL K H xs (es.map En.d) ∧
  ∀ (v : V) (H' : Hp) (fs : List En), Same H H' → Rp K H' v (Tb.mk many signs fs).d → fs.Nodup → fs.length ≤ 24 → (∀ e, e ∈ fs ↔ e ∈ es.take 24) → Q v H'
section
variable {P : Program} {w : World} {K : PySem.W.Frag} {mg : Str → Option Value} {base : Heap}
theorem sc_l_some : FnScope ["_law_bag_here", "_law_things"] ["_law_bag_here", "_law_things"] (defScope s_l_some) := ⟨rfl, rfl, rfl, by decide +kernel, rfl, by decide +kernel, by decide +kernel⟩
theorem ok_l_some (A : Hd K mg) : Cl P w K mg base "_law_some" ["_law_bag_here", "_law_things"] 2 (spSome K) := by
  obtain ⟨fd, F⟩ := A.f_l_some
  refine Cl.of F A.g_l_some sc_l_some (fun _ _ _ _ _ _ us hl => match us, hl with | [_, _], _ => rfl) (fun vs H Q E h => (by obtain ⟨b, a, l, cs, xs, rfl, B, hl, h0, h1, k⟩ := h; rfl)) (fun cdv Ar outer s H vs Q E hr h => ?_)
  obtain ⟨b, a, l, cs, xs, rfl, B, hl, h0, h1, k⟩ := h
  refine ⟨_, (pss_one (ps_ret (pe_ix ix_seq (pv 1) (pe_cl (ok_l_take A) (hr.mono (by decide)) (by rfl) (pa_cons (pv 0) (pa_cons (pe_callB call_len_seq (by rfl) A.z_len PySem.boot_len (pa_cons (pv 1) pa_nil)) pa_nil))) (fun _ _ => rfl)))), ?_⟩
  refine ⟨_, rfl, _, rfl, _, rfl, l, xs, rfl, hl.imp (fun z => z.1) id, b, a, cs, _, rfl, B, by omega, by omega, fun i H' i0 i1 g => ?_⟩
  obtain ⟨j, rfl⟩ : ∃ j : Nat, i = (j : Int) := ⟨i.toNat, by omega⟩
  have hi : j < xs.length := by omega
  have hv : xs[j]? = some xs[j] := by simp [hi]
  rcases hl with ⟨hl, n⟩ | hl
  · exact .inl ⟨l, xs, _, _, rfl, rfl, g.seq hl n, atI_nat hv, k _ _ H' hv g⟩
  · exact .inr (.inl ⟨l, xs, _, _, rfl, rfl, g.tu.sq hl, atI_nat hv, k _ _ H' hv g⟩)
theorem sc_l_bag : FnScope ["_law_script", "_law_cell"] ["_law_script"] (defScope s_l_bag) := ⟨rfl, rfl, rfl, by decide +kernel, rfl, by decide +kernel, by decide +kernel⟩
theorem ok_l_bag (A : Hd K mg) : Cl P w K mg base "_law_bag" ["_law_script"] 1 (spBag K) := by
  obtain ⟨fd, F⟩ := A.f_l_bag
  refine Cl.of F A.g_l_bag sc_l_bag (fun _ _ _ _ _ _ us hl => match us, hl with | [_], _ => rfl) (fun vs H Q E h => (by obtain ⟨sl, ns, rfl, hs, hn, k⟩ := h; rfl)) (fun cdv Ar outer s H vs Q E hr h => ?_)
  obtain ⟨sl, ns, rfl, hs, hn, k⟩ := h
  refine ⟨_, (pss_one (ps_ret (pe_lst (pa_cons pe_int (pa_cons pe_int (pa_cons pe_int (pa_cons (pe_lcF (own := [("_law_cell", 1)]) (by rfl) sc_l_bag.nd (pi_list (pe_slice sl_list (pv 0) po_none (po_some pe_int))) (blkOk_by (by rfl)) (fun _ _ _ _ _ => (pg_name (i := 1) sc_l_bag.nd rfl (.inl rfl))) (fun _ _ _ _ _ => pts_nil) (fun _ _ _ _ _ => (pe_callB call_abs (by rfl) A.z_abs (by decide +kernel) (pa_cons (pv 1) pa_nil)))) pa_nil))))))), ?_⟩
  refine ⟨_, rfl, 63, rfl, sl, _, rfl, hs, fun p hp => ?_⟩
  obtain ⟨ds, ed, _, ld⟩ := cut_ints ns none (some 63)
  have s1 : Same H (upd H p (.lst (cutV (ns.map V.int) none (some 63)))) := same_new hp
  rw [ed] at s1 ⊢
  refine ⟨p, rfl, ⟨_, .of upd_same⟩, fun D hD => ?_⟩
  refine lc_vals (walk_list (K := K) (a := p) (xs := ds.map V.int)) hD ((ds.map fun d => if d < 0 then -d else d).map V.int) (by simp) (by rw [List.length_map]; omega) (fun H6 s6 => .of (s6 _ _ upd_same)) ?_ ?_
  · rintro j y H3 _ v hv s3 ⟨rfl, hy⟩ Qe hQ
    rw [List.getElem?_map] at hy
    rw [List.getElem?_map, List.getElem?_map] at hv
    cases hd : ds[j]? with
    | none => rw [hd] at hy; cases hy
    | some d =>
      rw [hd] at hy hv
      cases hy
      cases hv
      exact ⟨rfl, _, rfl, d, rfl, hQ _ (Same.refl _)⟩
  intro H3 s3 e3
  refine ⟨sz4, fun q hq => ?_⟩
  have s4 := same_new (o := .lst [.int 0, .int 1234567891, .int 0, .ref D]) hq
  refine k q D (ds.map fun d => if d < 0 then -d else d) _ (s1.trans (s3.trans s4)) ⟨(fun z => by rw [← z, e3] at hq; cases hq), s4 _ _ e3, fun c hc => ?_, by rw [List.length_map]; omega, 0, 1234567891, 0, upd_same, by omega, by omega, by omega⟩
  obtain ⟨d, _, rfl⟩ := List.mem_map.mp hc
  split <;> omega
theorem sc_l_signs : FnScope ["_law_bag_here", "_law_most", "_law_found", "_law_turn"] ["_law_bag_here", "_law_most"] (defScope s_l_signs) := ⟨rfl, rfl, rfl, by decide +kernel, rfl, by decide +kernel, by decide +kernel⟩
theorem ok_l_signs (A : Hd K mg) : Cl P w K mg base "_law_signs" ["_law_bag_here", "_law_most"] 3 (spSigns K) := by
  obtain ⟨fd, F⟩ := A.f_l_signs
  refine Cl.of F A.g_l_signs sc_l_signs (fun _ _ _ _ _ _ us hl => match us, hl with | [_, _], _ => rfl) (fun vs H Q E h => (by obtain ⟨b, a, cs, most, rfl, B, m0, m6, k⟩ := h; rfl)) (fun cdv Ar outer s H vs Q E hr h => ?_)
  obtain ⟨b, a, cs, most, rfl, B, m0, m6, k⟩ := h
  refine ⟨_, (pss_cons (ps_set (i := 2) sc_l_signs.nd rfl (.inl rfl) (pe_lst (pa_cons pe_int pa_nil)))
  (pss_cons (ps_for PassesOwn.never (by rfl) (pi_range1 (by rfl) A.z_range (pa_cons (pe_cl (ok_l_take A) (hr.mono (by decide)) (by rfl) (pa_cons (pv 0) (pa_cons (pv 1) pa_nil))) pa_nil)) (pg_name (i := 3) sc_l_signs.nd rfl (.inl rfl))
  (pss_one (ps_expr (pe_bm PySem.F.plainAttrs_list PySem.F.slot_list_append PySem.F.type_list_append mt_append (pv 2) (pa_cons (pe_cl (ok_l_some A) (hr.mono (by decide)) (by rfl) (pa_cons (pv 0) (pa_cons (pe_lst (pa_cons pe_int (pa_cons pe_int (pa_cons pe_int (pa_cons pe_int (pa_cons pe_int pa_nil)))))) pa_nil))) pa_nil)))))
  (pss_one (ps_ret (pe_tupleOf (by rfl) A.z_tuple (pv 2)))))), ?_⟩
  refine ⟨sz1, fun fl hfl => ?_⟩
  have s1 : Same H (upd H fl (.lst [.int 0])) := same_new hfl
  refine ⟨_, rfl, _, rfl, b, a, cs, _, rfl, B.same s1, by omega, by omega, fun i H1 i0 i1 g1 => ?_⟩
  have nb := B.nb hfl
  have e1 : H1 fl = some (.lst [.int 0]) := g1.at nb upd_same
  have g01 := (same_gb B s1).trans g1
  refine ⟨_, rfl, by omega, by omega, ?_⟩
  refine for_range (fun j σ H' => ∃ s3 L, σ = [some (.ref b), some (.int (most : Int)), some (.ref fl), s3] ∧ Gb b a cs H H' ∧ H' fl = some (.lst (L.map fun (n : Nat) => V.int (n : Int))) ∧ L.length = j + 1 ∧ (∀ s ∈ L, s ≤ 2) ∧ L[0]? = some 0) ⟨_, [0], rfl, g01, e1, rfl, (fun s hs => by rw [List.mem_singleton.mp hs]; omega), rfl⟩ ?_ ?_
  · rintro j σ H' hj ⟨c3, L, rfl, g2, e2, l2, h2, z2⟩
    refine ⟨_, rfl, .inl ⟨rfl, _, .of e2⟩, _, rfl, sz5, fun q hq => ?_⟩
    have g3 := g2.new (o := .lst [.int 1, .int 2, .int 1, .int 0, .int 2]) hq
    have e3 : (upd H' q (.lst [.int 1, .int 2, .int 1, .int 0, .int 2])) fl = some (.lst (L.map fun (n : Nat) => V.int (n : Int))) := same_new hq _ _ e2
    refine ⟨b, a, q, cs, _, rfl, g3.b1, .inl ⟨.of upd_same, g2.nb (g2.back hq)⟩, by decide, by decide, fun i4 v H4 hv g4 => ?_⟩
    have e4 := g4.at nb e3
    have hv' : ∃ n : Nat, n ≤ 2 ∧ v = .int (n : Int) := by
      match i4, hv with
      | 0, hv => cases hv; exact ⟨1, by omega, rfl⟩
      | 1, hv => cases hv; exact ⟨2, by omega, rfl⟩
      | 2, hv => cases hv; exact ⟨1, by omega, rfl⟩
      | 3, hv => cases hv; exact ⟨0, by omega, rfl⟩
      | 4, hv => cases hv; exact ⟨2, by omega, rfl⟩
      | i + 5, hv => simp at hv
    obtain ⟨n, hn, rfl⟩ := hv'
    refine ⟨fl, _, _, rfl, rfl, e4, ?_, ?_⟩
    · rw [List.length_map]; exact sz_lt (by omega)
    · refine ⟨_, L ++ [n], rfl, (g3.trans g4).mut hfl, by rw [upd_same, List.map_append]; rfl, by simp [l2], fun s hs => ?_, ?_⟩
      · rcases List.mem_append.mp hs with hs | hs
        · exact h2 s hs
        · rw [List.mem_singleton.mp hs]; exact hn
      · rw [List.getElem?_append_left (by omega)]; exact z2
  · rintro σ H' ⟨c3, L, rfl, g2, e2, l2, h2, z2⟩
    refine ⟨_, rfl, .inl ⟨fl, _, rfl, .of e2, fun q hq => ?_⟩⟩
    exact k _ _ L (g2.new hq) (nats_of (.of upd_same)) h2 (by omega) z2
end
end K56
set_option Elab.async false
set_option linter.all false
set_option maxRecDepth 100000
set_option maxHeartbeats 4000000
namespace K56
open PySem PySem.Spec PyProof.Rows L2
theorem cut_take (xs : List V) (n : Nat) : cutV xs none (some (n : Int)) = xs.take n := by
  unfold cutV
  rw [HT.sIx_nat, HT.sIx_none]
  simp only [Nat.sub_zero, List.drop_zero]
  by_cases h : n ≤ xs.length
  · rw [Nat.min_eq_left h]
  · rw [Nat.min_eq_right (by omega), List.take_length, List.take_of_length_le (by omega)]
section
variable {P : Program} {w : World} {K : PySem.W.Frag} {mg : Str → Option Value} {base : Heap}
theorem sc_l_mixed : FnScope ["_law_bag_here", "_law_things", "_law_found", "_law_thing"] ["_law_bag_here", "_law_things"] (defScope s_l_mixed) := ⟨rfl, rfl, rfl, by decide +kernel, rfl, by decide +kernel, by decide +kernel⟩
theorem ok_l_mixed (A : Hd K mg) : Cl P w K mg base "_law_mixed" ["_law_bag_here", "_law_things"] 2 (spMixed K) := by
  obtain ⟨fd, F⟩ := A.f_l_mixed
  refine Cl.of F A.g_l_mixed sc_l_mixed (fun _ _ _ _ _ _ us hl => match us, hl with | [_, _], _ => rfl) (fun vs H Q E h => (by obtain ⟨b, a, l, cs, n, rfl, B, hl, nl, n1, k⟩ := h; rfl)) (fun cdv Ar outer s H vs Q E hr h => ?_)
  obtain ⟨b, a, l, cs, n, rfl, B, hl, nl, n1, k⟩ := h
  refine ⟨_, (pss_cons (ps_set (i := 2) sc_l_mixed.nd rfl (.inl rfl) (pe_lst pa_nil))
  (pss_cons (ps_for PassesOwn.never (by rfl) (pi_list (pv 1)) (pg_name (i := 3) sc_l_mixed.nd rfl (.inl rfl))
  (pss_one (ps_expr (pe_bm PySem.F.plainAttrs_list PySem.F.slot_list_insert PySem.F.type_list_insert mt_insert (pv 2) (pa_cons (pe_cl (ok_l_take A) (hr.mono (by decide)) (by rfl) (pa_cons (pv 0) (pa_cons (pe_op op_add (pe_callB call_len_seq (by rfl) A.z_len PySem.boot_len (pa_cons (pv 2) pa_nil)) pe_int) pa_nil))) (pa_cons (pv 3) pa_nil))))))
  (pss_one (ps_ret (pv 2))))), ?_⟩
  refine ⟨sz0, fun fl hfl => ?_⟩
  have s1 : Same H (upd H fl (.lst [])) := same_new hfl
  have nb := B.nb hfl
  have hll : ((List.range n).map fun (k : Nat) => V.int (k : Int)).length = n := by simp
  refine ⟨_, rfl, l, rfl, ⟨_, s1.seq hl⟩, ?_⟩
  refine for_list (K := K) (a := l) (xs := (List.range n).map fun (k : Nat) => V.int (k : Int)) (fun i σ H' => ∃ s3 L, σ = [some (.ref b), some (.ref l), some (.ref fl), s3] ∧ Gb b a cs H H' ∧ H' fl = some (.lst (L.map fun (n : Nat) => V.int (n : Int))) ∧ L.Perm (List.range i)) ⟨_, [], rfl, same_gb B s1, upd_same, .nil⟩ (fun i σ H' _ ⟨_, _, _, g, _⟩ => g.seq hl nl) ?_ ?_
  · rintro i x σ H' hx ⟨c3, L, rfl, g, e, pm⟩
    have hi : i < n := by
      have q := (List.getElem?_eq_some_iff.mp hx).1
      rwa [hll] at q
    rw [List.getElem?_map, List.getElem?_range hi] at hx
    cases hx
    have ll : L.length = i := by rw [pm.length_eq, List.length_range]
    refine ⟨_, rfl, .inl ⟨rfl, _, .of e⟩, _, rfl, _, rfl, fl, _, rfl, .inl (.of e), _, _, rfl, rfl, b, a, cs, _, rfl, g.b1, ?_, ?_, fun j H2 j0 j1 g2 => ?_⟩
    · rw [List.length_map]; omega
    · rw [List.length_map]; omega
    rw [List.length_map] at j1
    have e2 := g2.at nb e
    refine ⟨_, rfl, fl, _, j, _, rfl, rfl, e2, by rw [List.length_map]; exact sz_lt (by omega), j0, by omega, ?_⟩
    refine ⟨_, L.take j.toNat ++ [i] ++ L.drop j.toNat, rfl, (g.trans g2).mut hfl, ?_, ?_⟩
    · rw [upd_same, List.map_append, List.map_append, List.map_take, List.map_drop]
      rfl
    · rw [List.range_succ]
      have p1 : (L.take j.toNat ++ [i] ++ L.drop j.toNat).Perm (L.take j.toNat ++ L.drop j.toNat ++ [i]) := by
        rw [List.append_assoc, List.append_assoc]
        exact List.Perm.append_left _ List.perm_append_comm
      rw [List.take_append_drop] at p1
      exact p1.trans (pm.append_right _)
  · rintro σ H' ⟨c3, L, rfl, g, e, pm⟩
    rw [hll] at pm
    exact ⟨_, rfl, k fl H' L g hfl e pm⟩
theorem sc_l_entry : FnScope ["_law_bag_here", "_law_many", "_law_signs_here", "_law_sign", "_law_part"] ["_law_bag_here", "_law_many", "_law_signs_here", "_law_sign"] (defScope s_l_entry) := ⟨rfl, rfl, rfl, by decide +kernel, rfl, by decide +kernel, by decide +kernel⟩
theorem ok_l_entry (A : Hd K mg) : Cl P w K mg base "_law_entry" ["_law_bag_here", "_law_many", "_law_signs_here", "_law_sign"] 2 (spEntry K) := by
  obtain ⟨fd, F⟩ := A.f_l_entry
  refine Cl.of F A.g_l_entry sc_l_entry (fun _ _ _ _ _ _ us hl => match us, hl with | [_, _, _, _], _ => rfl) (fun vs H Q E h => (by obtain ⟨b, a, cs, many, s0, ar, sv, signs, rfl, B, m0, m1, rs, hsg, ha2, k⟩ := h; rfl)) (fun cdv Ar outer s H vs Q E hr h => ?_)
  obtain ⟨b, a, cs, many, s0, ar, sv, signs, rfl, B, m0, m1, rs, hsg, ha2, k⟩ := h
  refine ⟨_, (pss_one (ps_ret (pe_tup (pa_cons (pv 3) (pa_cons (pe_tupleOf (by rfl) A.z_tuple (pe_lcF (own := [("_law_part", 4)]) (by rfl) sc_l_entry.nd (pi_range1 (by rfl) A.z_range (pa_cons (pe_ix ix_tup (pv 2) (pv 3) (fun _ _ => rfl)) pa_nil)) (blkOk_by (by rfl)) (fun _ _ _ _ _ => (pg_name (i := 4) sc_l_entry.nd rfl (.inl rfl))) (fun _ _ _ _ _ => pts_nil) (fun _ _ _ _ _ => (pe_cl (ok_l_take A) (hr.mono (by decide)) (by rfl) (pa_cons (pv 0) (pa_cons (pv 1) pa_nil)))))) (pa_cons (pe_cl (ok_l_take A) (hr.mono (by decide)) (by rfl) (pa_cons (pv 0) (pa_cons (pv 1) pa_nil))) pa_nil)))))), ?_⟩
  obtain ⟨sa, rfl, hsa⟩ := nats_inv rs
  refine ⟨_, rfl, _, rfl, _, rfl, sa, _, _, _, rfl, rfl, hsa, atI_nat (by rw [List.getElem?_map, hsg]; rfl), _, rfl, by omega, by omega, fun Dl hD => ?_⟩
  have nb := B.nb hD
  refine lc_gen (K := K) (walk_range (lo := 0) (n := ar)) (fun H' => Gb b a cs H H' ∧ ∃ o, H' Dl = some o) (fun i ds => ∃ ks : List Nat, ds = ks.map (fun (n : Nat) => D.int (n : Int)) ∧ ks.length = i ∧ ∀ k ∈ ks, k < many) (by omega) ⟨same_gb B (same_new hD), _, upd_same⟩ (fun H' o g => ⟨g.1.mut hD, _, upd_same⟩) (fun _ _ => trivial) ⟨[], rfl, rfl, fun k hk => by cases hk⟩ ?_ ?_
  · rintro i x H2 _ ds hi ⟨g2, o2, ho2⟩ ⟨rfl, rfl⟩ ⟨ks, rfl, hkl, hk⟩ Qe Qn he hn
    refine ⟨rfl, _, rfl, _, rfl, b, a, cs, _, rfl, g2.b1, by omega, by omega, fun j H3 j0 j1 g3 => ?_⟩
    obtain ⟨j, rfl⟩ : ∃ n : Nat, j = (n : Int) := ⟨j.toNat, by omega⟩
    refine he _ (.int (j : Int)) H3 ⟨g2.trans g3, o2, g3.at nb ho2⟩ ((g3.at nb ho2).trans ho2.symm) g3.tu (.int _) ⟨ks ++ [j], by simp, by simp [hkl], fun k hk' => ?_⟩
    · rcases List.mem_append.mp hk' with h | h
      · exact hk k h
      · rw [List.mem_singleton.mp h]; omega
  · rintro H2 ws ds ⟨g2, _⟩ e2 r2 ⟨ks, rfl, hkl, hk⟩ _
    refine .inl ⟨Dl, _, rfl, .of e2, fun q1 hq1 => ?_⟩
    have g3 := g2.new (o := .tup ws) hq1
    refine ⟨_, rfl, _, rfl, b, a, cs, _, rfl, g3.b1, by omega, by omega, fun j H3 j0 j1 g4 => ?_⟩
    obtain ⟨j, rfl⟩ : ∃ n : Nat, j = (n : Int) := ⟨j.toNat, by omega⟩
    refine ⟨sz3, fun q2 hq2 => ?_⟩
    have g5 := (g3.trans g4).new (o := .tup [.int (s0 : Int), .ref q1, .int (j : Int)]) hq2
    refine k _ _ ⟨s0, ks, j⟩ g5 ?_ ⟨by show signs[s0]? = some ks.length; rw [hsg, hkl], hk, by show j < many; omega⟩ rfl
    have t : Tu (upd H2 q1 (.tup ws)) (upd H3 q2 (.tup [.int (s0 : Int), .ref q1, .int (j : Int)])) := g4.tu.trans (tu_new hq2)
    refine .tup (.of upd_same) (.cons (.int _) (.cons ?_ (.one (.int _))))
    exact (Rp.tup (.of upd_same) (r2.mono (tu_new hq1))).mono t
theorem sc_l_told : FnScope ["_law_many", "_law_signs_here", "_law_entries"] ["_law_many", "_law_signs_here", "_law_entries"] (defScope s_l_told) := ⟨rfl, rfl, rfl, by decide +kernel, rfl, by decide +kernel, by decide +kernel⟩
theorem ok_l_told (A : Hd K mg) : Cl P w K mg base "_law_told" ["_law_many", "_law_signs_here", "_law_entries"] 1 (spTold K) := by
  obtain ⟨fd, F⟩ := A.f_l_told
  refine Cl.of F A.g_l_told sc_l_told (fun _ _ _ _ _ _ us hl => match us, hl with | [_, _, _], _ => rfl) (fun vs H Q E h => (by obtain ⟨many, sv, signs, l, xs, es, rfl, rs, hl, re, k⟩ := h; rfl)) (fun cdv Ar outer s H vs Q E hr h => ?_)
  obtain ⟨many, sv, signs, l, xs, es, rfl, rs, hl, re, k⟩ := h
  refine ⟨_, (pss_one (ps_ret (pe_tup (pa_cons (pv 0) (pa_cons (pv 1) (pa_cons (pe_tupleOf (by rfl) A.z_tuple (pe_callB (cr_sortedD (by rfl) (hu64 hr)) (by rfl) A.z_sorted (by decide +kernel) (pa_cons (pe_callTy (cr_setD (by rfl) (hu64 hr)) (by rfl) A.z_set (by decide +kernel) (pa_cons (pe_slice sl_list (pv 2) po_none (po_some pe_int)) pa_nil)) pa_nil))) pa_nil)))))), ?_⟩
  refine ⟨_, rfl, _, rfl, _, rfl, 24, rfl, l, xs, rfl, hl, fun p hp => ?_⟩
  have s1 : Same H (upd H p (.lst (cutV xs none (some 24)))) := same_new hp
  have ec : cutV xs none (some 24) = xs.take 24 := cut_take xs 24
  rw [ec] at s1 ⊢
  have r1 : RpL K (upd H p (.lst (xs.take 24))) (xs.take 24) ((es.take 24).map En.d) := by
    rw [List.map_take]
    exact (re.take 24).mono (tu_same s1)
  simp only [tNil]
  have l24 : (es.take 24).length ≤ 24 := by rw [List.length_take]; omega
  refine sortset_ents (.inl (.of upd_same)) r1 (by omega) fun q H2 ws2 fs s2 hq e2 r2 nd le hmem => ?_
  refine .inl ⟨q, ws2, rfl, .of e2, fun q3 hq3 => ⟨sz3, fun q4 hq4 => ?_⟩⟩
  have s3 := same_new (o := .tup ws2) hq3
  have s4 := same_new (o := .tup [.int (many : Int), sv, .ref q3]) hq4
  have s24 := s2.trans (s3.trans s4)
  refine k _ _ fs (s1.trans s24) ?_ nd (by omega) hmem
  refine .tup (.of upd_same) (.cons (.int _) (.cons (rs.mono (tu_same (s1.trans s24))) (.one ?_)))
  exact .tup (.of (s4 _ _ upd_same)) (r2.mono (tu_same (s3.trans s4)))
end
end K56
set_option Elab.async false
set_option linter.all false
set_option maxRecDepth 100000
set_option maxHeartbeats 4000000
namespace K56
open PySem PySem.Spec PyProof.Rows L2
/-! ### the law's tables -/
structure Tgood (t : Tb) : Prop where
  ok : t.ok
  nd : t.ents.Nodup
  few : t.ents.length ≤ 24
structure FL (K : PySem.W.Frag) (b a : Addr) (cs : List Int) (H0 H : Hp) (fl many : Nat) (signs : List Nat) (es : List En) (ws : List V) : Prop where
  g : Gb b a cs H0 H
  n : H0 fl = none
  e : H fl = some (.lst ws)
  r : RpL K H ws (es.map En.d)
  ok : ∀ e ∈ es, e.ok many signs
section
variable {K : PySem.W.Frag} {b a : Addr} {cs : List Int} {H0 H H' : Hp} {fl many : Nat} {signs : List Nat} {es : List En} {ws : List V}
theorem FL.gb (h : FL K b a cs H0 H fl many signs es ws) (g : Gb b a cs H H') : FL K b a cs H0 H' fl many signs es ws :=
  ⟨h.g.trans g, h.n, g.at (h.g.nb h.n) h.e, h.r.mono g.tu, h.ok⟩
theorem FL.same (h : FL K b a cs H0 H fl many signs es ws) (s : Same H H') : FL K b a cs H0 H' fl many signs es ws := h.gb (same_gb h.g.b1 s)
theorem FL.put (h : FL K b a cs H0 H fl many signs es ws) {v : V} {e : En} (r : Rp K H v e.d) (ok : e.ok many signs) : FL K b a cs H0 (upd H fl (.lst (ws ++ [v]))) fl many signs (es ++ [e]) (ws ++ [v]) := by
  have t : Tu H (upd H fl (.lst (ws ++ [v]))) := tu_upd h.e rfl
  refine ⟨h.g.mut h.n, h.n, upd_same, ?_, fun x hx => ?_⟩
  · rw [List.map_append]
    exact (h.r.mono t).app (.one (r.mono t))
  · rcases List.mem_append.mp hx with hx | hx
    · exact h.ok x hx
    · rw [List.mem_singleton.mp hx]; exact ok
theorem FL.len (h : FL K b a cs H0 H fl many signs es ws) : ws.length = es.length := by rw [h.r.length, List.length_map]
theorem FL.nb (h : FL K b a cs H0 H fl many signs es ws) : fl ≠ b := h.g.nb h.n
end
theorem told_good {many : Nat} {signs : List Nat} {es fs : List En} (m1 : 1 ≤ many) (m4 : many ≤ 4) (h2 : ∀ s ∈ signs, s ≤ 2) (h6 : signs.length ≤ 6) (ok : ∀ e ∈ es, e.ok many signs) (nd : fs.Nodup) (le : fs.length ≤ 24) (mem : ∀ e, e ∈ fs ↔ e ∈ es.take 24) : Tgood ⟨many, signs, fs⟩ where
  ok := ⟨m1, m4, h2, h6, fun e he => ok e (List.mem_of_mem_take ((mem e).mp he)), by show fs.length ≤ 31; omega⟩
  nd := nd
  few := le
def spTable (K : PySem.W.Frag) : Sp := fun vs H Q _ => ∃ (b a : Addr) (cs : List Int) (many most : Nat), vs = [.ref b, .int (many : Int), .int (most : Int)] ∧ Bag b a cs H ∧ 1 ≤ many ∧ many ≤ 4 ∧ 0 < most ∧ most ≤ 6 ∧
  ∀ (v : V) (H' : Hp) (t : Tb), Gb b a cs H H' → Rp K H' v t.d → Tgood t → t.many = many → t.signs[0]? = some 0 → Q v H'
def spChain (K : PySem.W.Frag) : Sp := fun vs H Q _ => ∃ (b a : Addr) (cs : List Int) (many : Nat), vs = [.ref b, .int (many : Int)] ∧ Bag b a cs H ∧ 1 ≤ many ∧ many ≤ 4 ∧
  ∀ (v : V) (H' : Hp) (t : Tb), Gb b a cs H H' → Rp K H' v t.d → Tgood t → t.many = many → t.signs[0]? = some 0 → Q v H'
section
variable {P : Program} {w : World} {K : PySem.W.Frag} {mg : Str → Option Value} {base : Heap}
theorem sc_l_any_table : FnScope ["_law_bag_here", "_law_many", "_law_most", "_law_turn", "_law_signs_here", "_law_found"] ["_law_bag_here", "_law_many", "_law_most"] (defScope s_l_any_table) := ⟨rfl, rfl, rfl, by decide +kernel, rfl, by decide +kernel, by decide +kernel⟩
theorem ok_l_any_table (A : Hd K mg) : Cl P w K mg base "_law_any_table" ["_law_bag_here", "_law_many", "_law_most"] 4 (spTable K) := by
  obtain ⟨fd, F⟩ := A.f_l_any_table
  refine Cl.of F A.g_l_any_table sc_l_any_table (fun _ _ _ _ _ _ us hl => match us, hl with | [_, _, _], _ => rfl) (fun vs H Q E h => (by obtain ⟨b, a, cs, many, most, rfl, B, m1, m4, p0, p6, k⟩ := h; rfl)) (fun cdv Ar outer s H vs Q E hr h => ?_)
  obtain ⟨b, a, cs, many, most, rfl, B, m1, m4, p0, p6, k⟩ := h
  refine ⟨_, (pss_cons (ps_par (i := 4) (j := 5) (by rfl) sc_l_any_table.nd rfl rfl (by decide) rfl rfl (pa_cons (pe_cl (ok_l_signs A) (hr.mono (by decide)) (by rfl) (pa_cons (pv 0) (pa_cons (pv 2) pa_nil))) (pa_cons (pe_lst pa_nil) pa_nil)) rfl)
  (pss_cons (ps_for PassesOwn.never (by rfl) (pi_range1 (by rfl) A.z_range (pa_cons (pe_cl (ok_l_take A) (hr.mono (by decide)) (by rfl) (pa_cons (pv 0) (pa_cons (pe_op op_add (pe_cl (ok_l_some A) (hr.mono (by decide)) (by rfl) (pa_cons (pv 0) (pa_cons (pe_lst (pa_cons pe_int (pa_cons pe_int (pa_cons pe_int (pa_cons pe_int (pa_cons pe_int pa_nil)))))) pa_nil))) pe_int) pa_nil))) pa_nil)) (pg_name (i := 3) sc_l_any_table.nd rfl (.inl rfl))
  (pss_one (ps_expr (pe_bm PySem.F.plainAttrs_list PySem.F.slot_list_append PySem.F.type_list_append mt_append (pv 5) (pa_cons (pe_cl (ok_l_entry A) (hr.mono (by decide)) (by rfl) (pa_cons (pv 0) (pa_cons (pv 1) (pa_cons (pv 4) (pa_cons (pe_cl (ok_l_take A) (hr.mono (by decide)) (by rfl) (pa_cons (pv 0) (pa_cons (pe_callB call_len_seq (by rfl) A.z_len PySem.boot_len (pa_cons (pv 4) pa_nil)) pa_nil))) pa_nil))))) pa_nil)))))
  (pss_one (ps_ret (pe_cl (ok_l_told A) (hr.mono (by decide)) (by rfl) (pa_cons (pv 1) (pa_cons (pv 4) (pa_cons (pv 5) pa_nil)))))))), ?_⟩
  refine ⟨_, rfl, _, rfl, b, a, cs, most, rfl, B, p0, p6, fun sv H1 L g1 rs hs2 hl h0 => ?_⟩
  obtain ⟨sa, rfl, hsa⟩ := nats_inv rs
  refine ⟨sz0, fun fl hfl => ⟨_, _, rfl, ?_⟩⟩
  have F0 : FL K b a cs H1 (upd H1 fl (.lst [])) fl many L [] [] := ⟨same_gb g1.b1 (same_new hfl), hfl, upd_same, .nil, fun e he => by cases he⟩
  have lpos : 0 < L.length := (List.getElem?_eq_some_iff.mp h0).1
  refine ⟨_, rfl, _, rfl, sz5, fun q hq => ?_⟩
  have F1 := F0.same (same_new (o := .lst [.int 4, .int 9, .int 15, .int 24, .int 1]) hq)
  refine ⟨b, a, q, cs, _, rfl, F1.g.b1, .inl ⟨.of upd_same, F0.g.nb (F0.g.back hq)⟩, by decide, by decide, fun i4 v H4 hv g4 => ?_⟩
  have hv' : ∃ n : Nat, n ≤ 24 ∧ v = .int (n : Int) := by
    match i4, hv with
    | 0, hv => cases hv; exact ⟨4, by omega, rfl⟩
    | 1, hv => cases hv; exact ⟨9, by omega, rfl⟩
    | 2, hv => cases hv; exact ⟨15, by omega, rfl⟩
    | 3, hv => cases hv; exact ⟨24, by omega, rfl⟩
    | 4, hv => cases hv; exact ⟨1, by omega, rfl⟩
    | i + 5, hv => simp at hv
  obtain ⟨n, hn, rfl⟩ := hv'
  have F4 := F1.gb g4
  refine ⟨_, _, rfl, rfl, b, a, cs, _, rfl, F4.g.b1, by omega, by omega, fun j H5 j0 j1 g5 => ?_⟩
  obtain ⟨j, rfl⟩ : ∃ n : Nat, j = (n : Int) := ⟨j.toNat, by omega⟩
  have F5 := F4.gb g5
  refine ⟨_, rfl, by omega, by omega, ?_⟩
  refine for_range (fun i σ H' => ∃ s3 es ws, σ = [some (.ref b), some (.int (many : Int)), some (.int (most : Int)), s3, some (.ref sa), some (.ref fl)] ∧ FL K b a cs H1 H' fl many L es ws ∧ es.length = i) ⟨_, [], [], rfl, F5, rfl⟩ ?_ ?_
  · rintro i σ H' hi ⟨c3, es, ws, rfl, F, le⟩
    have hi' : i < 25 := by omega
    refine ⟨_, rfl, .inl ⟨rfl, _, .of F.e⟩, _, rfl, _, rfl, _, rfl, _, rfl, _, rfl, sa, _, rfl, .inr (F.g.tu.sq hsa), ?_⟩
    rw [List.length_map]
    refine ⟨b, a, cs, _, rfl, F.g.b1, by omega, by omega, fun s6 H6 s0 s1 g6 => ?_⟩
    obtain ⟨s6, rfl⟩ : ∃ n : Nat, s6 = (n : Int) := ⟨s6.toNat, by omega⟩
    have F6 := F.gb g6
    have hs : s6 < L.length := by omega
    have hsg : L[s6]? = some L[s6] := by simp [hs]
    refine ⟨b, a, cs, many, s6, _, .ref sa, L, rfl, F6.g.b1, by omega, by omega, nats_of (F6.g.tu.sq hsa), hsg, hs2 _ (List.getElem_mem hs), fun v H7 e g7 re eok _ => ?_⟩
    have F7 := F6.gb g7
    refine ⟨fl, _, _, rfl, rfl, F7.e, ?_, ?_⟩
    · rw [F7.len]; exact sz_lt (by omega)
    · exact ⟨_, es ++ [e], ws ++ [v], rfl, F7.put re eok, by simp [le]⟩
  · rintro σ H' ⟨c3, es, ws, rfl, F, le⟩
    refine ⟨_, rfl, _, rfl, _, rfl, many, .ref sa, L, fl, ws, es, rfl, nats_of (F.g.tu.sq hsa), .of F.e, F.r, fun v H8 fs s8 r8 nd l8 mem => ?_⟩
    exact k v H8 _ (g1.trans (F.g.same s8)) r8 (told_good m1 m4 hs2 (by omega) F.ok nd l8 mem) rfl h0
end
end K56
set_option Elab.async false
set_option linter.all false
set_option maxRecDepth 100000
set_option maxHeartbeats 4000000
namespace K56
open PySem PySem.Spec PyProof.Rows L2
theorem en_mk {K : PySem.W.Frag} {H : Hp} {s kd : Nat} {ps : List Nat} {p q : Addr} (hp : SqT K H p (ps.map fun (n : Nat) => V.int (n : Int))) (hq : SqT K H q [.int (s : Int), .ref p, .int (kd : Int)]) : Rp K H (.ref q) (En.mk s ps kd).d := .tup hq (.cons (.int _) (.cons (nats_of hp) (.one (.int _))))
theorem FL.add {K : PySem.W.Frag} {b a : Addr} {cs : List Int} {H0 H1 : Hp} {fl many : Nat} {signs : List Nat} {es : List En} {ws : List V} (F : FL K b a cs H0 H1 fl many signs es ws) {s kd : Nat} {ps : List Nat} {p q : Addr} (hp : H1 p = none) (hq : (upd H1 p (.tup (ps.map fun (n : Nat) => V.int (n : Int)))) q = none) (ok : (En.mk s ps kd).ok many signs) :
    (upd (upd H1 p (.tup (ps.map fun (n : Nat) => V.int (n : Int)))) q (.tup [.int (s : Int), .ref p, .int (kd : Int)])) fl = some (.lst ws) ∧
    FL K b a cs H0 (upd (upd (upd H1 p (.tup (ps.map fun (n : Nat) => V.int (n : Int)))) q (.tup [.int (s : Int), .ref p, .int (kd : Int)])) fl (.lst (ws ++ [.ref q]))) fl many signs (es ++ [En.mk s ps kd]) (ws ++ [.ref q]) := by
  have s1 := same_new (o := .tup (ps.map fun (n : Nat) => V.int (n : Int))) hp
  have s2 := same_new (o := .tup [.int (s : Int), .ref p, .int (kd : Int)]) hq
  have F2 := (F.same s1).same s2
  exact ⟨F2.e, F2.put (en_mk (.of (s2 _ _ upd_same)) (.of upd_same)) ok⟩
theorem rSlA_of {K : PySem.W.Frag} {H : Hp} {Q : VK} {a : Addr} {xs : List V} {lo hi : Option Int} (ha : SqT K H a xs) (k : ∀ p H', Same H H' → SqT K H' p (cutV xs lo hi) → Q (.ref p) H') : rSlA K (.ref a) lo hi H Q := by
  refine ⟨a, xs, rfl, ha, fun e => k a H (Same.refl _) ?_, fun _ p hp => k p _ (same_new hp) (.of upd_same)⟩
  have q : cutV xs lo hi = xs := by
    unfold cutV
    rw [e.1, e.2]
    simp
  rw [q]
  exact ha
section
variable {P : Program} {w : World} {K : PySem.W.Frag} {mg : Str → Option Value} {base : Heap}
theorem sc_l_chain_table : FnScope ["_law_bag_here", "_law_many", "_law_kind", "_law_found", "_law_signs_here"] ["_law_bag_here", "_law_many"] (defScope s_l_chain_table) := ⟨rfl, rfl, rfl, by decide +kernel, rfl, by decide +kernel, by decide +kernel⟩
theorem ok_l_chain_table (A : Hd K mg) : Cl P w K mg base "_law_chain_table" ["_law_bag_here", "_law_many"] 4 (spChain K) := by
  obtain ⟨fd, F⟩ := A.f_l_chain_table
  refine Cl.of F A.g_l_chain_table sc_l_chain_table (fun _ _ _ _ _ _ us hl => match us, hl with | [_, _], _ => rfl) (fun vs H Q E h => (by obtain ⟨b, a, cs, many, rfl, B, m1, m4, k⟩ := h; rfl)) (fun cdv Ar outer s H vs Q E hr h => ?_)
  obtain ⟨b, a, cs, many, rfl, B, m1, m4, k⟩ := h
  refine ⟨_, (pss_cons (ps_par (i := 3) (j := 4) (by rfl) sc_l_chain_table.nd rfl rfl (by decide) rfl rfl (pa_cons (pe_lst (pa_cons (pe_tup (pa_cons pe_int (pa_cons (pe_tup pa_nil) (pa_cons pe_int pa_nil)))) (pa_cons (pe_tup (pa_cons pe_int (pa_cons (pe_tup pa_nil) (pa_cons (pe_op op_sub (pv 1) pe_int) pa_nil)))) pa_nil))) (pa_cons (pe_slice sl_tupA (pe_tup (pa_cons pe_int (pa_cons pe_int (pa_cons pe_int (pa_cons pe_int pa_nil))))) po_none (po_some (pe_cl (ok_l_some A) (hr.mono (by decide)) (by rfl) (pa_cons (pv 0) (pa_cons (pe_lst (pa_cons pe_int (pa_cons pe_int (pa_cons pe_int (pa_cons pe_int pa_nil))))) pa_nil))))) pa_nil)) rfl)
  (pss_cons (ps_for PassesOwn.never (by rfl) (pi_range1 (by rfl) A.z_range (pa_cons (pv 1) pa_nil)) (pg_name (i := 2) sc_l_chain_table.nd rfl (.inl rfl))
  (pss_mid (ps_expr (pe_bm PySem.F.plainAttrs_list PySem.F.slot_list_append PySem.F.type_list_append mt_append (pv 3) (pa_cons (pe_tup (pa_cons pe_int (pa_cons (pe_tup (pa_cons (pv 2) pa_nil)) (pa_cons (pv 2) pa_nil)))) pa_nil)))
  (pss_mid (ps_if (PW.pt (pw_and (pt_cmpR op_gt (pv 2) pe_int (nomark _)) (pw_and1 (pt_cmpR op_eq (pe_cl (ok_l_take A) (hr.mono (by decide)) (by rfl) (pa_cons (pv 0) (pa_cons pe_int pa_nil))) pe_int (nomark _))))) (pss_one (ps_expr (pe_bm PySem.F.plainAttrs_list PySem.F.slot_list_append PySem.F.type_list_append mt_append (pv 3) (pa_cons (pe_tup (pa_cons pe_int (pa_cons (pe_tup (pa_cons (pv 2) pa_nil)) (pa_cons (pe_op op_sub (pv 2) pe_int) pa_nil)))) pa_nil)))) pss_nil)
  (pss_mid (ps_if (PW.pt (pw_and (pt_cmpR op_gt (pe_callB call_len_seq (by rfl) A.z_len PySem.boot_len (pa_cons (pv 4) pa_nil)) pe_int (nomark _)) (pw_and1 (pt_cmpR op_gt (pv 2) pe_int (nomark _))))) (pss_one (ps_expr (pe_bm PySem.F.plainAttrs_list PySem.F.slot_list_append PySem.F.type_list_append mt_append (pv 3) (pa_cons (pe_tup (pa_cons pe_int (pa_cons (pe_tup (pa_cons (pv 2) (pa_cons (pe_cl (ok_l_take A) (hr.mono (by decide)) (by rfl) (pa_cons (pv 0) (pa_cons (pe_op op_add (pv 2) pe_int) pa_nil))) pa_nil))) (pa_cons (pe_op op_sub (pv 2) pe_int) pa_nil)))) pa_nil)))) pss_nil)
  (pss_one (ps_if (PW.pt (pw_and (pt_cmpR op_gt (pe_callB call_len_seq (by rfl) A.z_len PySem.boot_len (pa_cons (pv 4) pa_nil)) pe_int (nomark _)) (pw_and1 (pt_cmpR op_eq (pe_cl (ok_l_take A) (hr.mono (by decide)) (by rfl) (pa_cons (pv 0) (pa_cons pe_int pa_nil))) pe_int (nomark _))))) (pss_one (ps_expr (pe_bm PySem.F.plainAttrs_list PySem.F.slot_list_append PySem.F.type_list_append mt_append (pv 3) (pa_cons (pe_tup (pa_cons pe_int (pa_cons (pe_tup (pa_cons (pv 2) pa_nil)) (pa_cons (pe_cl (ok_l_take A) (hr.mono (by decide)) (by rfl) (pa_cons (pv 0) (pa_cons (pe_op op_add (pv 2) pe_int) pa_nil))) pa_nil)))) pa_nil)))) pss_nil))))))
  (pss_one (ps_ret (pe_cl (ok_l_told A) (hr.mono (by decide)) (by rfl) (pa_cons (pv 1) (pa_cons (pv 4) (pa_cons (pv 3) pa_nil)))))))), ?_⟩
  -- the first two entries
  refine ⟨sz0, fun t1 ht1 => ⟨sz3, fun t2 ht2 => ⟨sz0, fun t3 ht3 => ⟨_, rfl, _, _, rfl, rfl, sz3, fun t4 ht4 => ⟨sz2, fun fl hfl => ?_⟩⟩⟩⟩⟩
  obtain ⟨m', rfl⟩ : ∃ m', many = m' + 1 := ⟨many - 1, by omega⟩
  have em : ((m' + 1 : Nat) : Int) - 1 = (m' : Int) := by omega
  have s1 : Same H (upd H t1 (.tup [])) := same_new ht1
  have s2 : Same (upd H t1 (.tup [])) (upd (upd H t1 (.tup [])) t2 (.tup [.int 0, .ref t1, .int 0])) := same_new ht2
  have r2 : Rp K (upd (upd H t1 (.tup [])) t2 (.tup [.int 0, .ref t1, .int 0])) (.ref t2) (En.mk 0 [] 0).d := en_mk (.of (s2 _ _ upd_same)) (.of upd_same)
  generalize upd (upd H t1 (.tup [])) t2 (.tup [.int 0, .ref t1, .int 0]) = H2 at *
  have s12 := s1.trans s2
  have s3 : Same H2 (upd H2 t3 (.tup [])) := same_new ht3
  have e3 : (upd H2 t3 (.tup [])) t3 = some (.tup []) := upd_same
  generalize upd H2 t3 (.tup []) = H3 at *
  have s4 : Same H3 (upd H3 t4 (.tup [.int 0, .ref t3, .int ((m' : Int))])) := same_new (by simpa using ht4)
  have r4 : Rp K (upd H3 t4 (.tup [.int 0, .ref t3, .int ((m' : Int))])) (.ref t4) (En.mk 0 [] m').d := en_mk (.of (s4 _ _ e3)) (.of upd_same)
  dsimp only at hfl ⊢
  rw [em] at hfl ⊢
  generalize upd H3 t4 (.tup [.int 0, .ref t3, .int ((m' : Int))]) = H4 at *
  have s24 := s3.trans s4
  have s5 : Same H4 (upd H4 fl (.lst [.ref t2, .ref t4])) := same_new hfl
  have F0 : Same H (upd H4 fl (.lst [.ref t2, .ref t4])) := s12.trans (s24.trans s5)
  have nfl : H fl = none := (s12.trans s24).free hfl
  have r5 : RpL K (upd H4 fl (.lst [.ref t2, .ref t4])) [.ref t2, .ref t4] ([En.mk 0 [] 0, En.mk 0 [] m'].map En.d) := .cons (r2.mono (tu_same (s24.trans s5))) (.one (r4.mono (tu_same s5)))
  have e5 : (upd H4 fl (.lst [.ref t2, .ref t4])) fl = some (.lst [.ref t2, .ref t4]) := upd_same
  generalize upd H4 fl (.lst [.ref t2, .ref t4]) = H5 at *
  clear s24 s5 s4 r4 r2 s3 e3 s12 s1 s2
  -- the signs
  refine ⟨sz4, fun t6 ht6 => ?_⟩
  have s6 : Same H5 (upd H5 t6 (.tup [.int 0, .int 1, .int 2, .int 1])) := same_new ht6
  have e6 : (upd H5 t6 (.tup [.int 0, .int 1, .int 2, .int 1])) t6 = some (.tup [.int 0, .int 1, .int 2, .int 1]) := upd_same
  refine ⟨_, rfl, sz4, fun q hq => ?_⟩
  have s7 : Same (upd H5 t6 (.tup [.int 0, .int 1, .int 2, .int 1])) (upd (upd H5 t6 (.tup [.int 0, .int 1, .int 2, .int 1])) q (.lst [.int 2, .int 3, .int 4, .int 3])) := same_new hq
  have F7 := F0.trans (s6.trans s7)
  refine ⟨b, a, q, cs, _, rfl, B.same F7, .inl ⟨.of upd_same, B.nb ((F0.trans s6).free hq)⟩, by decide, by decide, fun i4 v H8 hv g8 => ?_⟩
  have hv' : ∃ n : Nat, 2 ≤ n ∧ n ≤ 4 ∧ v = .int (n : Int) := by
    match i4, hv with
    | 0, hv => cases hv; exact ⟨2, by omega, by omega, rfl⟩
    | 1, hv => cases hv; exact ⟨3, by omega, by omega, rfl⟩
    | 2, hv => cases hv; exact ⟨4, by omega, by omega, rfl⟩
    | 3, hv => cases hv; exact ⟨3, by omega, by omega, rfl⟩
    | i + 4, hv => simp at hv
  obtain ⟨n, n2, n4, rfl⟩ := hv'
  have nb := B.nb nfl
  refine ⟨(n : Int), rfl, rSlA_of (g8.tu.sq (.of (s7 _ _ e6))) fun sa H9 s9 hsa0 => ⟨_, _, rfl, ?_⟩⟩
  rw [cut_take] at hsa0
  have hsa : SqT K H9 sa (([0, 1, 2, 1].take n).map fun (k : Nat) => V.int (k : Int)) := by
    rw [List.map_take]
    exact hsa0
  clear hsa0
  have g9 : Gb b a cs H H9 := ((same_gb B F7).trans g8).same s9
  have e9 : H9 fl = some (.lst [.ref t2, .ref t4]) := s9 _ _ (g8.at nb (s7 _ _ (s6 _ _ e5)))
  have r9 := ((r5.mono (tu_same (s6.trans s7))).mono g8.tu).mono (tu_same s9)
  generalize hL : [0, 1, 2, 1].take n = L at *
  have L0 : L[0]? = some 0 := by rw [← hL, List.getElem?_take_of_lt (by omega)]; rfl
  have L1 : L[1]? = some 1 := by rw [← hL, List.getElem?_take_of_lt (by omega)]; rfl
  have Ln : L.length = n := by rw [← hL, List.length_take]; simp; omega
  have L2 : 2 < L.length → L[2]? = some 2 := fun h => by rw [← hL, List.getElem?_take_of_lt (by omega)]; rfl
  have L3 : 3 < L.length → L[3]? = some 1 := fun h => by rw [← hL, List.getElem?_take_of_lt (by omega)]; rfl
  have hs2 : ∀ s ∈ L, s ≤ 2 := fun s hs => by
    rw [← hL] at hs
    have q := List.mem_of_mem_take hs
    simp at q
    omega
  have F9 : FL K b a cs H H9 fl (m' + 1) L [En.mk 0 [] 0, En.mk 0 [] m'] [.ref t2, .ref t4] := ⟨g9, nfl, e9, r9, fun e he => by
    rcases List.mem_cons.mp he with rfl | he
    · exact ⟨L0, (fun p hp => by cases hp), by show 0 < m' + 1; omega⟩
    · rw [List.mem_singleton.mp he]; exact ⟨L0, (fun p hp => by cases hp), by show m' < m' + 1; omega⟩⟩
  clear g9 e9 r9 hL s9 g8 s7 e6 s6 e5 r5 F0 F7
  have hsaG : ∀ {H' : Hp} {es : List En} {ws : List V}, FL K b a cs H9 H' fl (m' + 1) L es ws → True := fun _ => trivial
  refine ⟨_, rfl, _, rfl, by omega, by omega, ?_⟩
  rw [Int.toNat_natCast]
  refine for_range (fun i σ H' => ∃ s2 es ws, σ = [some (.ref b), some (.int ((m' + 1 : Nat) : Int)), s2, some (.ref fl), some (.ref sa)] ∧ FL K b a cs H H' fl (m' + 1) L es ws ∧ Tu H9 H' ∧ es.length ≤ 2 + 4 * i) ⟨_, _, _, rfl, F9, Tu.refl _, Nat.le_refl _⟩ ?_ ?_
  · rintro i σ H' hi ⟨c2, es, ws, rfl, F, G, le⟩
    have hi' : i ≤ m' := by omega
    simp only [Int.zero_add]
    have mk1 : ∀ (s kd : Nat), (s = 1 ∨ (s = 3 ∧ 3 < L.length)) → kd ≤ i → (En.mk s [i] kd).ok (m' + 1) L := fun s kd hs hk => ⟨by rcases hs with rfl | ⟨rfl, h⟩; exact L1; exact L3 h, fun p hp => by rw [List.mem_singleton.mp hp]; omega, by show kd < m' + 1; omega⟩
    refine ⟨fun σ' H' => ∃ es ws, σ' = [some (.ref b), some (.int ((m' + 1 : Nat) : Int)), some (.int (i : Int)), some (.ref fl), some (.ref sa)] ∧ FL K b a cs H H' fl (m' + 1) L es ws ∧ Tu H9 H' ∧ es.length ≤ 2 + 4 * i + 1, ?_, ?_⟩
    · refine ⟨_, rfl, .inl ⟨rfl, _, .of F.e⟩, _, rfl, sz1, fun p hp => ⟨_, rfl, sz3, fun q hq => ?_⟩⟩
      obtain ⟨e1, F1⟩ := F.add (s := 1) (kd := i) (ps := [i]) hp hq (mk1 1 i (.inl rfl) (Nat.le_refl _))
      refine ⟨fl, _, _, rfl, rfl, e1, by rw [F.len]; exact sz_lt (by omega), ?_⟩
      exact ⟨_, _, rfl, F1, ((G.trans (tu_new hp)).trans (tu_new hq)).trans (tu_upd e1 rfl), by simp; omega⟩
    clear F G le es ws
    rintro σ' H' ⟨es, ws, rfl, F, G, le⟩
    refine ⟨fun σ' H' => ∃ es ws, σ' = [some (.ref b), some (.int ((m' + 1 : Nat) : Int)), some (.int (i : Int)), some (.ref fl), some (.ref sa)] ∧ FL K b a cs H H' fl (m' + 1) L es ws ∧ Tu H9 H' ∧ es.length ≤ 2 + 4 * i + 2, ?_, ?_⟩
    · refine ⟨_, rfl, _, _, rfl, rfl, _, rfl, ite2 (fun z => ?_) (fun z => ?_)⟩
      rotate_left
      · exact ite2 (fun z => by cases z) (fun _ => ⟨es, ws, rfl, F, G, by omega⟩)
      have ip : 0 < i := by
        have q := of_decide_eq_true z
        omega
      refine ⟨_, rfl, b, a, cs, 2, rfl, F.g.b1, by omega, by omega, fun j H1 j0 j1 g1 => ⟨rfl, _, rfl, ite2 (fun _ => ?_) (fun _ => ⟨es, ws, rfl, F.gb g1, G.trans g1.tu, by omega⟩)⟩⟩
      have F' := F.gb g1
      refine ⟨_, rfl, .inl ⟨rfl, _, .of F'.e⟩, _, rfl, sz1, fun p hp => ⟨_, rfl, _, _, rfl, rfl, sz3, fun q hq => ?_⟩⟩
      obtain ⟨i', rfl⟩ : ∃ i', i = i' + 1 := ⟨i - 1, by omega⟩
      have ei : ((i' + 1 : Nat) : Int) - 1 = (i' : Int) := by omega
      try dsimp only
      rw [ei]
      obtain ⟨e1, F1⟩ := F'.add (s := 1) (kd := i') (ps := [i' + 1]) hp hq (mk1 1 i' (.inl rfl) (by omega))
      refine ⟨fl, _, _, rfl, rfl, e1, by rw [F.len]; exact sz_lt (by omega), ?_⟩
      exact ⟨_, _, rfl, F1, (((G.trans g1.tu).trans (tu_new hp)).trans (tu_new hq)).trans (tu_upd e1 rfl), by simp; omega⟩
    clear F G le es ws H'
    rintro σ' H' ⟨es, ws, rfl, F, G, le⟩
    refine ⟨fun σ' H' => ∃ es ws, σ' = [some (.ref b), some (.int ((m' + 1 : Nat) : Int)), some (.int (i : Int)), some (.ref fl), some (.ref sa)] ∧ FL K b a cs H H' fl (m' + 1) L es ws ∧ Tu H9 H' ∧ es.length ≤ 2 + 4 * i + 3, ?_, ?_⟩
    · refine ⟨_, rfl, sa, _, rfl, .inr (G.sq hsa), _, _, rfl, rfl, _, rfl, ite2 (fun z => ?_) (fun z => ?_)⟩
      rotate_left
      · exact ite2 (fun z => by cases z) (fun _ => ⟨es, ws, rfl, F, G, by omega⟩)
      have l2 : 2 < L.length := by
        have q := of_decide_eq_true z
        rw [List.length_map] at q
        omega
      refine ⟨_, rfl, _, _, rfl, rfl, _, rfl, ite2 (fun z2 => ?_) (fun _ => ⟨es, ws, rfl, F, G, by omega⟩)⟩
      have ip : 0 < i := by
        have q := of_decide_eq_true z2
        omega
      refine ⟨_, rfl, .inl ⟨rfl, _, .of F.e⟩, _, rfl, _, rfl, _, rfl, _, _, rfl, rfl, b, a, cs, _, rfl, F.g.b1, by omega, by omega, fun j H1 j0 j1 g1 => ⟨sz2, fun p hp => ⟨_, rfl, _, _, rfl, rfl, sz3, fun q hq => ?_⟩⟩⟩
      have F' := F.gb g1
      obtain ⟨j, rfl⟩ : ∃ n : Nat, j = (n : Int) := ⟨j.toNat, by omega⟩
      obtain ⟨i', rfl⟩ : ∃ i', i = i' + 1 := ⟨i - 1, by omega⟩
      have ei : ((i' + 1 : Nat) : Int) - 1 = (i' : Int) := by omega
      try dsimp only
      rw [ei]
      obtain ⟨e1, F1⟩ := F'.add (s := 2) (kd := i') (ps := [i' + 1, j]) hp hq ⟨L2 l2, (fun p hp => by
        rcases List.mem_cons.mp hp with rfl | hp
        · omega
        · rw [List.mem_singleton.mp hp]; omega), by show i' < m' + 1; omega⟩
      refine ⟨fl, _, _, rfl, rfl, e1, by rw [F.len]; exact sz_lt (by omega), ?_⟩
      exact ⟨_, _, rfl, F1, (((G.trans g1.tu).trans (tu_new hp)).trans (tu_new hq)).trans (tu_upd e1 rfl), by simp; omega⟩
    clear F G le es ws H'
    rintro σ' H' ⟨es, ws, rfl, F, G, le⟩
    refine ⟨_, rfl, sa, _, rfl, .inr (G.sq hsa), _, _, rfl, rfl, _, rfl, ite2 (fun z => ?_) (fun z => ?_)⟩
    rotate_left
    · exact ite2 (fun z => by cases z) (fun _ => ⟨_, es, ws, rfl, F, G, by omega⟩)
    have l3 : 3 < L.length := by
      have q := of_decide_eq_true z
      rw [List.length_map] at q
      omega
    refine ⟨_, rfl, b, a, cs, 2, rfl, F.g.b1, by omega, by omega, fun j0' H1 _ _ g1 => ⟨rfl, _, rfl, ite2 (fun _ => ?_) (fun _ => ⟨_, es, ws, rfl, F.gb g1, G.trans g1.tu, by omega⟩)⟩⟩
    have F' := F.gb g1
    refine ⟨_, rfl, .inl ⟨rfl, _, .of F'.e⟩, _, rfl, sz1, fun p hp => ⟨_, rfl, _, rfl, _, _, rfl, rfl, b, a, cs, _, rfl, (F'.same (same_new hp)).g.b1, by omega, by omega, fun j H3 j0 j1 g3 => ⟨sz3, fun q hq => ?_⟩⟩⟩
    obtain ⟨j, rfl⟩ : ∃ n : Nat, j = (n : Int) := ⟨j.toNat, by omega⟩
    have F3 := (F'.same (same_new (o := .tup [.int (i : Int)]) hp)).gb g3
    have s4 := same_new (o := .tup [.int 3, .ref p, .int (j : Int)]) hq
    have F4 := F3.same s4
    have r4 : Rp K (upd H3 q (.tup [.int 3, .ref p, .int (j : Int)])) (.ref q) (En.mk 3 [i] j).d := en_mk ((tu_same s4).sq (g3.tu.sq (.of upd_same))) (.of upd_same)
    have F5 := F4.put r4 (mk1 3 j (.inr ⟨rfl, l3⟩) (by omega))
    refine ⟨fl, _, _, rfl, rfl, F4.e, by rw [F.len]; exact sz_lt (by omega), ?_⟩
    exact ⟨_, _, _, rfl, F5, ((((G.trans g1.tu).trans (tu_new hp)).trans g3.tu).trans (tu_same s4)).trans (tu_upd F4.e rfl), by simp; omega⟩
  · rintro σ H' ⟨c2, es, ws, rfl, F, G, le⟩
    refine ⟨_, rfl, _, rfl, _, rfl, m' + 1, .ref sa, L, fl, ws, es, rfl, nats_of (G.sq hsa), .of F.e, F.r, fun v H8 fs s8 r8 nd l8 mem => ?_⟩
    exact k v H8 _ (F.g.same s8) r8 (told_good m1 m4 hs2 (by omega) F.ok nd l8 mem) rfl L0
end
end K56
set_option Elab.async false
set_option linter.all false
set_option maxRecDepth 100000
set_option maxHeartbeats 4000000
namespace K56
open PySem PySem.Spec PyProof.Rows L2
def keyE (e : En) : D := .tup [.int (e.sign : Int), natD e.parts]
theorem keyE_nk (e : En) : (keyE e).nk.depth ≤ 8 := by
  have q := natD_nk e.parts
  unfold natD at q
  unfold keyE natD
  simp only [D.nk, D.nks, NestedKey.depth, NestedKey.depthAll] at q ⊢
  omega
/-- a dict of entries by their first two -/
structure PD (K : PySem.W.Frag) (P : Program) (w : World) (b a : Addr) (cs : List Int) (H0 H : Hp) (fd many : Nat) (signs : List Nat) (xs : Nd) (ep : Nat) : Prop where
  g : Gb b a cs H0 H
  n : H0 fd = none
  e : H fd = some (NdO P w fd xs ep)
  at_ : ∀ y ∈ xs, ∃ e : En, y.1 = keyE e ∧ Rp K H (.ref y.2.1) y.1 ∧ Rp K H (.ref y.2.2) e.d ∧ e.ok many signs
  nd : (xs.map (·.1)).Nodup
section
variable {K : PySem.W.Frag} {P : Program} {w : World} {b a : Addr} {cs : List Int} {H0 H H' : Hp} {fd many : Nat} {signs : List Nat} {xs : Nd} {ep : Nat}
theorem PD.gb (h : PD K P w b a cs H0 H fd many signs xs ep) (g : Gb b a cs H H') : PD K P w b a cs H0 H' fd many signs xs ep :=
  ⟨h.g.trans g, h.n, g.at (h.g.nb h.n) h.e, fun y hy => by
    obtain ⟨e, h1, h2, h3, h4⟩ := h.at_ y hy
    exact ⟨e, h1, h2.mono g.tu, h3.mono g.tu, h4⟩, h.nd⟩
theorem PD.same (h : PD K P w b a cs H0 H fd many signs xs ep) (s : Same H H') : PD K P w b a cs H0 H' fd many signs xs ep := h.gb (same_gb h.g.b1 s)
theorem PD.ndk (h : PD K P w b a cs H0 H fd many signs xs ep) : NdK K H xs := fun y hy => by
  obtain ⟨e, h1, h2, h3, h4⟩ := h.at_ y hy
  exact ⟨h2, by rw [h1]; exact keyE_nk e⟩
theorem PD.put (h : PD K P w b a cs H0 H fd many signs xs ep) {q v : Addr} {e : En} (r1 : Rp K H (.ref q) (keyE e)) (r2 : Rp K H (.ref v) e.d) (ok : e.ok many signs) (ni : keyE e ∉ xs.map (·.1)) (ep' : Nat) :
    PD K P w b a cs H0 (upd H fd (NdO P w fd (xs ++ [(keyE e, q, v)]) ep')) fd many signs (xs ++ [(keyE e, q, v)]) ep' := by
  have t : Tu H (upd H fd (NdO P w fd (xs ++ [(keyE e, q, v)]) ep')) := tu_upd h.e rfl
  refine ⟨h.g.mut h.n, h.n, upd_same, fun y hy => ?_, ?_⟩
  · rcases List.mem_append.mp hy with hy | hy
    · obtain ⟨e, h1, h2, h3, h4⟩ := h.at_ y hy
      exact ⟨e, h1, h2.mono t, h3.mono t, h4⟩
    · rw [List.mem_singleton.mp hy]
      exact ⟨e, rfl, r1.mono t, r2.mono t, ok⟩
  · rw [List.map_append]
    refine List.nodup_append.mpr ⟨h.nd, by simp, fun x hx z hz e' => ni ?_⟩
    have e2 : z = keyE e := by simpa using hz
    rw [← e2, ← e']
    exact hx
end
section
variable {P : Program} {w : World} {K : PySem.W.Frag} {mg : Str → Option Value} {base : Heap}
theorem sc_l_plain_table : FnScope ["_law_bag_here", "_law_many", "_law_most", "_law_sign", "_law_found", "_law_signs_here", "_law_turn", "_law_entry_here", "_law_key"] ["_law_bag_here", "_law_many", "_law_most"] (defScope s_l_plain_table) := ⟨rfl, rfl, rfl, by decide +kernel, rfl, by decide +kernel, by decide +kernel⟩
theorem ok_l_plain_table (A : Hd K mg) : Cl P w K mg base "_law_plain_table" ["_law_bag_here", "_law_many", "_law_most"] 4 (spTable K) := by
  obtain ⟨fd, F⟩ := A.f_l_plain_table
  refine Cl.of F A.g_l_plain_table sc_l_plain_table (fun _ _ _ _ _ _ us hl => match us, hl with | [_, _, _], _ => rfl) (fun vs H Q E h => (by obtain ⟨b, a, cs, many, most, rfl, B, m1, m4, p0, p6, k⟩ := h; rfl)) (fun cdv Ar outer s H vs Q E hr h => ?_)
  obtain ⟨b, a, cs, many, most, rfl, B, m1, m4, p0, p6, k⟩ := h
  refine ⟨_, (pss_cons (ps_asg (pe_tup (pa_cons (pe_cl (ok_l_signs A) (hr.mono (by decide)) (by rfl) (pa_cons (pv 0) (pa_cons (pv 2) pa_nil))) (pa_cons pe_dnewN pa_nil))) (pg_tup rfl (pgs_cons (pg_name (i := 5) sc_l_plain_table.nd rfl (.inl rfl)) (pgs_cons (pg_name (i := 4) sc_l_plain_table.nd rfl (.inr rfl)) pgs_nil))))
  (pss_cons (ps_for PassesOwn.never (by rfl) (pi_range1 (by rfl) A.z_range (pa_cons (pe_callB call_len_seq (by rfl) A.z_len PySem.boot_len (pa_cons (pv 5) pa_nil)) pa_nil)) (pg_name (i := 3) sc_l_plain_table.nd rfl (.inl rfl))
  (pss_one (ps_for PassesOwn.never (by rfl) (pi_range1 (by rfl) A.z_range (pa_cons (pe_op op_add pe_int (pe_cl (ok_l_take A) (hr.mono (by decide)) (by rfl) (pa_cons (pv 0) (pa_cons pe_int pa_nil)))) pa_nil)) (pg_name (i := 6) sc_l_plain_table.nd rfl (.inl rfl))
  (pss_cons (ps_set (i := 7) sc_l_plain_table.nd rfl (.inl rfl) (pe_cl (ok_l_entry A) (hr.mono (by decide)) (by rfl) (pa_cons (pv 0) (pa_cons (pv 1) (pa_cons (pv 5) (pa_cons (pv 3) pa_nil))))))
  (pss_one (ps_expr (pe_ksetd (hu64 hr) (pv 4) (pe_slice sl_tupA (pv 7) po_none (po_some pe_int)) (pv 7) ⟨by rfl, by rfl, by rfl, by rfl⟩)))))))
  (pss_cons (ps_set (i := 4) sc_l_plain_table.nd rfl (.inr rfl) (pe_lcF (own := [("_law_key", 8)]) (by rfl) sc_l_plain_table.nd (pi_kkeys (pv 4)) (blkOk_by (by rfl)) (fun _ _ _ _ _ => (pg_name (i := 8) sc_l_plain_table.nd rfl (.inl rfl))) (fun _ _ _ _ _ => pts_nil) (fun _ _ _ _ _ => (pe_kget (hu64 hr) (pv 4) (pv 8) (fun _ _ => rfl)))))
  (pss_cons (ps_expr (pe_bm PySem.F.plainAttrs_list PySem.F.slot_list_append PySem.F.type_list_append mt_append (pv 4) (pa_cons (pe_cl (ok_l_entry A) (hr.mono (by decide)) (by rfl) (pa_cons (pv 0) (pa_cons (pv 1) (pa_cons (pv 5) (pa_cons pe_int pa_nil))))) pa_nil)))
  (pss_one (ps_ret (pe_cl (ok_l_told A) (hr.mono (by decide)) (by rfl) (pa_cons (pv 1) (pa_cons (pv 5) (pa_cons (pv 4) pa_nil)))))))))), ?_⟩
  refine ⟨_, rfl, _, rfl, b, a, cs, most, rfl, B, p0, p6, fun sv H1 L g1 rs hs2 hl h0 => ?_⟩
  obtain ⟨sa, rfl, hsa⟩ := nats_inv rs
  refine fun fd hfd => ⟨sz2, fun tq htq => ⟨tq, _, rfl, .of upd_same, rfl, _, _, rfl, _, _, rfl, rfl, ?_⟩⟩
  have F00 : PD K P w b a cs H1 (upd H1 fd (NdO P w fd [] 0)) fd many L [] 0 := ⟨same_gb g1.b1 (same_new hfd), hfd, upd_same, fun y hy => (by cases hy), List.nodup_nil⟩
  have F0 := F00.same (same_new (o := .tup [.ref sa, .ref fd]) htq)
  refine ⟨_, rfl, sa, _, rfl, .inr (F0.g.tu.sq hsa), _, rfl, by rw [List.length_map]; omega, by rw [List.length_map]; omega, ?_⟩
  rw [Int.toNat_natCast, List.length_map]
  refine for_range (fun i σ H' => ∃ s3 s6 s7 s8 xs ep, σ = [some (.ref b), some (.int (many : Int)), some (.int (most : Int)), s3, some (.ref fd), some (.ref sa), s6, s7, s8] ∧ PD K P w b a cs H1 H' fd many L xs ep ∧ xs.length ≤ 4 * i) ⟨_, _, _, _, [], 0, rfl, F0, Nat.le_refl _⟩ ?_ ?_
  · rintro i σ H' hi ⟨c3, c6, c7, c8, xs, ep, rfl, F, le⟩
    have hsg : L[i]? = some L[i] := by simp [hi]
    have ha2 := hs2 _ (List.getElem_mem hi)
    generalize L[i] = ar at hsg ha2
    simp only [Int.zero_add]
    refine ⟨_, rfl, b, a, cs, 4, rfl, F.g.b1, by omega, by omega, fun j H2 j0 j1 g2 => ?_⟩
    obtain ⟨j, rfl⟩ : ∃ n : Nat, j = (n : Int) := ⟨j.toNat, by omega⟩
    have F2 := F.gb g2
    refine ⟨_, _, rfl, rfl, _, rfl, by omega, by omega, ?_⟩
    have ej : ((1 : Int) + (j : Int)).toNat = j + 1 := by omega
    refine for_range (n := ((1 : Int) + (j : Int)).toNat) (fun l σ H' => ∃ s6 s7 s8 xs ep, σ = [some (.ref b), some (.int (many : Int)), some (.int (most : Int)), some (.int (i : Int)), some (.ref fd), some (.ref sa), s6, s7, s8] ∧ PD K P w b a cs H1 H' fd many L xs ep ∧ xs.length ≤ 4 * i + l) ⟨_, _, _, xs, ep, rfl, F2, le⟩ ?_ ?_
    · rintro l σ H3 hl3 ⟨c6, c7, c8, xs, ep, rfl, F3, le3⟩
      refine ⟨_, rfl, _, rfl, _, rfl, _, rfl, b, a, cs, many, i, ar, .ref sa, L, rfl, F3.g.b1, by omega, by omega, nats_of (F3.g.tu.sq hsa), hsg, ha2, fun v H4 e g4 re eok _ => ?_⟩
      have F4 := F3.gb g4
      obtain ⟨va, p, rfl, hva, hp⟩ := en_inv re
      refine ⟨_, rfl, fd, xs, ep, rfl, F4.e, _, rfl, 2, rfl, rSlA_of hva fun q H5 s5 hq => ?_⟩
      have F5 := F4.same s5
      have ec : cutV [V.int (e.sign : Int), .ref p, .int (e.kind : Int)] none (some 2) = [V.int (e.sign : Int), .ref p] := cut_take _ 2
      rw [ec] at hq
      have rq : Rp K H5 (.ref q) (keyE e) := .tup hq (.cons (.int _) (.one (nats_of ((tu_same s5).sq hp))))
      refine ⟨_, rfl, q, keyE e, va, F5.e, F5.ndk, rfl, rq, keyE_nk e, rfl, by omega, fun _ _ _ => ⟨_, _, _, xs, ep, rfl, F5, by omega⟩, fun ni ep' => ?_⟩
      exact ⟨_, _, _, _, ep', rfl, F5.put rq (re.mono (tu_same s5)) eok ni ep', by rw [List.length_append]; simp; omega⟩
    · rintro σ H3 ⟨c6, c7, c8, xs, ep, rfl, F3, le3⟩
      exact ⟨_, _, _, _, xs, ep, rfl, F3, by omega⟩
  · rintro σ H' ⟨c3, c6, c7, c8, xs, ep, rfl, F, le⟩
    obtain ⟨es, he1, he2⟩ := choose_list (R := fun (y : D × Addr × Addr) (e : En) => y.1 = keyE e ∧ Rp K H' (.ref y.2.1) y.1 ∧ Rp K H' (.ref y.2.2) e.d ∧ e.ok many L) xs F.at_
    refine ⟨_, rfl, fd, xs, ep, rfl, F.e, fun Dl hD => ?_⟩
    refine lc_map (K := K) walk_nd hD (es.map En.d) (by rw [List.length_map, he1]) (by omega) (fun H6 s6 => s6 _ _ F.e) ?_ ?_
    · rintro j x H3 _ d hd s3 ⟨rfl, y, hy, rfl⟩ Qe hQ
      rw [List.getElem?_map] at hd
      cases hej : es[j]? with
      | none => rw [hej] at hd; cases hd
      | some e =>
        rw [hej] at hd
        cases hd
        obtain ⟨h1, h2, h3, h4⟩ := he2 j y e hy hej
        have F3 := F.same s3
        exact ⟨rfl, _, rfl, _, rfl, fd, xs, ep, y.2.1, y.1, y.2.1, y.2.2, rfl, F3.e, F3.ndk, rfl, h2.mono (tu_same s3), by rw [h1]; exact keyE_nk e, at_mem F.nd (List.mem_of_getElem? hy), hQ _ _ (Same.refl _) (h3.mono (tu_same s3))⟩
    · intro H3 w3 s3 e3 r3
      have okE : ∀ e ∈ es, e.ok many L := fun e he => by
        obtain ⟨j, hj, e'⟩ := List.getElem_of_mem he
        have hj' : j < xs.length := by omega
        exact (he2 j xs[j] e (List.getElem?_eq_getElem hj') (by rw [List.getElem?_eq_getElem hj, e'])).2.2.2
      have g3 := F.g.same s3
      have FF : FL K b a cs H1 H3 Dl many L es w3 := ⟨g3, F.g.back hD, e3, r3, okE⟩
      refine ⟨_, rfl, .inl ⟨rfl, _, .of e3⟩, _, rfl, _, rfl, _, rfl, b, a, cs, many, 0, 0, .ref sa, L, rfl, g3.b1, by omega, by omega, nats_of (g3.tu.sq hsa), h0, by omega, fun v H4 e g4 re eok _ => ?_⟩
      have F4 := FF.gb g4
      refine ⟨Dl, _, _, rfl, rfl, F4.e, by rw [F4.len, he1]; exact sz_lt (by omega), ?_⟩
      have F5 := F4.put re eok
      refine ⟨_, rfl, _, rfl, _, rfl, many, .ref sa, L, Dl, _, _, rfl, nats_of (F5.g.tu.sq hsa), .of F5.e, F5.r, fun v H8 fs s8 r8 nd l8 mem => ?_⟩
      exact k v H8 _ (g1.trans (F5.g.same s8)) r8 (told_good m1 m4 hs2 (by omega) F5.ok nd l8 mem) rfl h0
end
end K56
set_option Elab.async false
set_option linter.all false
set_option maxRecDepth 100000
set_option maxHeartbeats 4000000
namespace K56
open PySem PySem.Spec PyProof.Rows L2
def spMore (K : PySem.W.Frag) : Sp := fun vs H Q _ => ∃ (b a : Addr) (cs : List Int) (tv : V) (t : Tb), vs = [.ref b, tv, .int 4] ∧ Bag b a cs H ∧ Rp K H tv t.d ∧ t.ok ∧ t.signs ≠ [] ∧
  ∀ (p : Addr) (H' : Hp) (ws : List V) (fs : List En), Gb b a cs H H' → SqT K H' p ws → RpL K H' ws (fs.map En.d) → fs.Nodup → (∀ e ∈ fs, e.ok t.many t.signs) → fs.length ≤ 24 - t.ents.length → fs.length ≤ 4 → Q (.ref p) H'
theorem dep_map {α : Type} (f : α → D) (n : Nat) : ∀ l : List α, (∀ x ∈ l, (f x).py.depth ≤ n) → PyData.depthAll (D.pys (l.map f)) ≤ n
  | [], _ => by simp [D.pys, PyData.depthAll]
  | x :: l, h => by
    have q := dep_map f n l fun y hy => h y (List.mem_cons_of_mem _ hy)
    have q2 := h x (List.mem_cons_self ..)
    simp only [List.map_cons, D.pys, PyData.depthAll]
    omega
theorem ents_dep (es : List En) : (D.tup (es.map En.d)).py.depth ≤ 64 := by
  have q := dep_map En.d 60 es fun e _ => e.dep
  simp only [D.py, PyData.depth]
  omega
section
variable {P : Program} {w : World} {K : PySem.W.Frag} {mg : Str → Option Value} {base : Heap}
theorem sc_l_more : FnScope ["_law_bag_here", "_law_table_here", "_law_most", "_law_found", "_law_turn"] ["_law_bag_here", "_law_table_here", "_law_most"] (defScope s_l_more) := ⟨rfl, rfl, rfl, by decide +kernel, rfl, by decide +kernel, by decide +kernel⟩
theorem ok_l_more (A : Hd K mg) : Cl P w K mg base "_law_more" ["_law_bag_here", "_law_table_here", "_law_most"] 4 (spMore K) := by
  obtain ⟨fd, F⟩ := A.f_l_more
  refine Cl.of F A.g_l_more sc_l_more (fun _ _ _ _ _ _ us hl => match us, hl with | [_, _, _], _ => rfl) (fun vs H Q E h => (by obtain ⟨b, a, cs, tv, t, rfl, B, rt, tok, sne, k⟩ := h; rfl)) (fun cdv Ar outer s H vs Q E hr h => ?_)
  obtain ⟨b, a, cs, tv, t, rfl, B, rt, tok, sne, k⟩ := h
  refine ⟨_, (pss_cons (ps_set (i := 3) sc_l_more.nd rfl (.inl rfl) (pe_lst pa_nil))
  (pss_cons (ps_for PassesOwn.never (by rfl) (pi_range1 (by rfl) A.z_range (pa_cons (pe_cl (ok_l_take A) (hr.mono (by decide)) (by rfl) (pa_cons (pv 0) (pa_cons (pe_op op_add (pv 2) pe_int) pa_nil))) pa_nil)) (pg_name (i := 4) sc_l_more.nd rfl (.inl rfl))
  (pss_one (ps_if (PW.pt (pw_and (pt_cmpR (op_neQ (hu64 hr)) (pe_ix ix_tup (pv 1) pe_int (fun _ _ => rfl)) (pe_tup pa_nil) (nomark _)) (pw_and1 (pt_cmpR op_eq (pe_cl (ok_l_take A) (hr.mono (by decide)) (by rfl) (pa_cons (pv 0) (pa_cons pe_int pa_nil))) pe_int (nomark _))))) (pss_one (ps_expr (pe_bm PySem.F.plainAttrs_list PySem.F.slot_list_append PySem.F.type_list_append mt_append (pv 3) (pa_cons (pe_cl (ok_l_some A) (hr.mono (by decide)) (by rfl) (pa_cons (pv 0) (pa_cons (pe_ix ix_tup (pv 1) pe_int (fun _ _ => rfl)) pa_nil))) pa_nil)))) (pss_one (ps_expr (pe_bm PySem.F.plainAttrs_list PySem.F.slot_list_append PySem.F.type_list_append mt_append (pv 3) (pa_cons (pe_cl (ok_l_entry A) (hr.mono (by decide)) (by rfl) (pa_cons (pv 0) (pa_cons (pe_ix ix_tup (pv 1) pe_int (fun _ _ => rfl)) (pa_cons (pe_ix ix_tup (pv 1) pe_int (fun _ _ => rfl)) (pa_cons (pe_cl (ok_l_take A) (hr.mono (by decide)) (by rfl) (pa_cons (pv 0) (pa_cons (pe_callB call_len_seq (by rfl) A.z_len PySem.boot_len (pa_cons (pe_ix ix_tup (pv 1) pe_int (fun _ _ => rfl)) pa_nil)) pa_nil))) pa_nil))))) pa_nil)))))))
  (pss_cons (ps_set (i := 3) sc_l_more.nd rfl (.inl rfl) (pe_callB (cr_sortedD (by rfl) (hu64 hr)) (by rfl) A.z_sorted (by decide +kernel) (pa_cons (pe_callTy (cr_setD (by rfl) (hu64 hr)) (by rfl) A.z_set (by decide +kernel) (pa_cons (pv 3) pa_nil)) pa_nil)))
  (pss_one (ps_ret (pe_tupleOf (by rfl) A.z_tuple (pe_slice sl_list (pv 3) po_none (po_some (pe_callB (call_max2 (by rfl)) (by rfl) A.z_max (by decide +kernel) (pa_cons pe_int (pa_cons (pe_op op_sub pe_int (pe_callB call_len_seq (by rfl) A.z_len PySem.boot_len (pa_cons (pe_ix ix_tup (pv 1) pe_int (fun _ _ => rfl)) pa_nil))) pa_nil))))))))))), ?_⟩
  obtain ⟨ta, sa, ea, es, rfl, hta, hsa, hea, re⟩ := tb_inv rt
  have e31 := tok.e31
  have m1 := tok.m1
  have m4 := tok.m4
  have s6 := tok.s6
  have el : es.length = t.ents.length := by rw [re.length, List.length_map]
  have lpos : 0 < t.signs.length := List.length_pos_iff.mpr sne
  refine ⟨sz0, fun fl hfl => ?_⟩
  have F0 : FL K b a cs H (upd H fl (.lst [])) fl t.many t.signs [] [] := ⟨same_gb B (same_new hfl), hfl, upd_same, .nil, fun e he => by cases he⟩
  refine ⟨_, rfl, _, rfl, _, _, rfl, rfl, b, a, cs, _, rfl, F0.g.b1, by omega, by omega, fun j H1 j0 j1 g1 => ?_⟩
  obtain ⟨j, rfl⟩ : ∃ n : Nat, j = (n : Int) := ⟨j.toNat, by omega⟩
  have F1 := F0.gb g1
  have jl : j ≤ 4 := by omega
  refine ⟨_, rfl, by omega, by omega, ?_⟩
  rw [Int.toNat_natCast]
  refine for_range (fun i σ H' => ∃ s4 fs ws, σ = [some (.ref b), some (.ref ta), some (.int 4), some (.ref fl), s4] ∧ FL K b a cs H H' fl t.many t.signs fs ws ∧ Tu H H' ∧ fs.length = i) ⟨_, [], [], rfl, F1, F1.g.tu, rfl⟩ ?_ ?_
  · rintro i σ H' hi ⟨c4, fs, ws, rfl, F, T, le⟩
    have finish : ∀ (H2 : Hp) (v : V) (e : En) (σ' : L2.St), Gb b a cs H' H2 → Rp K H2 v e.d → e.ok t.many t.signs → σ' = [some (.ref b), some (.ref ta), some (.int 4), some (.ref fl), some (.int (0 + (i : Int)))] → H2 fl = some (.lst ws) ∧ ws.length < sizeLine ∧ ∃ s4 fs' ws', σ' = [some (.ref b), some (.ref ta), some (.int 4), some (.ref fl), s4] ∧ FL K b a cs H (upd H2 fl (.lst (ws ++ [v]))) fl t.many t.signs fs' ws' ∧ Tu H (upd H2 fl (.lst (ws ++ [v]))) ∧ fs'.length = i + 1 := fun H2 v e σ' g2 r ok hσ => by
      have F2 := F.gb g2
      refine ⟨F2.e, by rw [F2.len]; exact sz_lt (by omega), _, fs ++ [e], ws ++ [v], hσ, F2.put r ok, (T.trans g2.tu).trans (tu_upd F2.e rfl), by simp [le]⟩
    have plain : ∀ (H2 : Hp), Gb b a cs H' H2 → True := fun _ _ => trivial
    refine ⟨_, rfl, ta, _, 2, _, rfl, rfl, T.sq hta, atI_nat (j := 2) rfl, sz0, fun q hq => ?_⟩
    have s2 := same_new (o := .tup []) hq
    have re2 : Rp K (upd H' q (.tup [])) (.ref ea) (.tup (t.ents.map En.d)) := (Rp.tup (T.sq hea) (re.mono T)).mono (tu_same s2)
    refine .inl ⟨_, .tup [], re2, .tup (.of upd_same) .nil, ents_dep _, by simp [D.py, D.pys, PyData.depth, PyData.depthAll], _, rfl, ite2 (fun z => ?_) (fun z => ?_)⟩
    · have ne : t.ents ≠ [] := fun e => by rw [e] at z; simp at z
      have g2 := same_gb F.g.b1 s2
      refine ⟨_, rfl, b, a, cs, 6, rfl, (F.gb g2).g.b1, by omega, by omega, fun j' H3 _ _ g3' => ⟨rfl, _, rfl, ite2 (fun _ => ?_) (fun _ => ?_)⟩⟩
      · have g3 := g2.trans g3'
        refine ⟨_, rfl, .inl ⟨rfl, _, .of (F.gb g3).e⟩, _, rfl, _, rfl, ta, _, 2, _, rfl, rfl, (T.trans g3.tu).sq hta, atI_nat (j := 2) rfl, ?_⟩
        refine ⟨b, a, ea, cs, es, rfl, (F.gb g3).g.b1, .inr ((T.trans g3.tu).sq hea), by rw [el]; exact List.length_pos_iff.mpr ne, by omega, fun jj v H4 hv g4 => ?_⟩
        obtain ⟨d, hd, rd⟩ := (re.mono ((T.trans g3.tu).trans g4.tu)).get' hv
        rw [List.getElem?_map] at hd
        cases he : t.ents[jj]? with
        | none => rw [he] at hd; cases hd
        | some e =>
          rw [he] at hd
          cases hd
          obtain ⟨f1, f2, f3⟩ := finish H4 v e _ (g3.trans g4) rd (tok.en e (List.mem_of_getElem? he)) rfl
          exact ⟨fl, _, _, rfl, rfl, f1, f2, f3⟩
      · have g3 := g2.trans g3'
        refine ⟨_, rfl, .inl ⟨rfl, _, .of (F.gb g3).e⟩, _, rfl, _, rfl, ta, _, 0, _, rfl, rfl, (T.trans g3.tu).sq hta, atI_nat (j := 0) rfl, _, rfl, ta, _, 1, _, rfl, rfl, (T.trans g3.tu).sq hta, atI_nat (j := 1) rfl, _, rfl, _, rfl, ta, _, 1, _, rfl, rfl, (T.trans g3.tu).sq hta, atI_nat (j := 1) rfl, sa, _, rfl, .inr ((T.trans g3.tu).sq hsa), ?_⟩
        rw [List.length_map]
        refine ⟨b, a, cs, _, rfl, (F.gb g3).g.b1, by omega, by omega, fun s6 H6 s0 s1 g6 => ?_⟩
        obtain ⟨s6, rfl⟩ : ∃ n : Nat, s6 = (n : Int) := ⟨s6.toNat, by omega⟩
        have F6 := (F.gb g3).gb g6
        have T6 := (T.trans g3.tu).trans g6.tu
        have hs : s6 < t.signs.length := by omega
        have hsg : t.signs[s6]? = some t.signs[s6] := by simp [hs]
        refine ⟨b, a, cs, t.many, s6, _, .ref sa, t.signs, rfl, F6.g.b1, by omega, by omega, nats_of (T6.sq hsa), hsg, tok.sg _ (List.getElem_mem hs), fun v H7 e g7 re7 eok _ => ?_⟩
        obtain ⟨f1, f2, f3⟩ := finish H7 v e _ ((g3.trans g6).trans g7) re7 eok rfl
        exact ⟨fl, _, _, rfl, rfl, f1, f2, f3⟩
    · have g2 := same_gb F.g.b1 s2
      refine ite2 (fun z => by cases z) (fun _ => ?_)
      refine ⟨_, rfl, .inl ⟨rfl, _, .of (F.gb g2).e⟩, _, rfl, _, rfl, ta, _, 0, _, rfl, rfl, (T.trans g2.tu).sq hta, atI_nat (j := 0) rfl, _, rfl, ta, _, 1, _, rfl, rfl, (T.trans g2.tu).sq hta, atI_nat (j := 1) rfl, _, rfl, _, rfl, ta, _, 1, _, rfl, rfl, (T.trans g2.tu).sq hta, atI_nat (j := 1) rfl, sa, _, rfl, .inr ((T.trans g2.tu).sq hsa), ?_⟩
      rw [List.length_map]
      refine ⟨b, a, cs, _, rfl, (F.gb g2).g.b1, by omega, by omega, fun s6 H6 s0 s1 g6 => ?_⟩
      obtain ⟨s6, rfl⟩ : ∃ n : Nat, s6 = (n : Int) := ⟨s6.toNat, by omega⟩
      have F6 := (F.gb g2).gb g6
      have T6 := (T.trans g2.tu).trans g6.tu
      have hs : s6 < t.signs.length := by omega
      have hsg : t.signs[s6]? = some t.signs[s6] := by simp [hs]
      refine ⟨b, a, cs, t.many, s6, _, .ref sa, t.signs, rfl, F6.g.b1, by omega, by omega, nats_of (T6.sq hsa), hsg, tok.sg _ (List.getElem_mem hs), fun v H7 e g7 re7 eok _ => ?_⟩
      obtain ⟨f1, f2, f3⟩ := finish H7 v e _ ((g2.trans g6).trans g7) re7 eok rfl
      exact ⟨fl, _, _, rfl, rfl, f1, f2, f3⟩
  · rintro σ H' ⟨c4, fs, ws, rfl, F, T, le⟩
    refine ⟨_, rfl, ?_⟩
    simp only [tNil]
    refine sortset_ents (.inl (.of F.e)) F.r (by omega) fun q H2 ws2 fs2 s2 hq e2 r2 nd le2 hmem => ?_
    have T2 := T.trans (tu_same s2)
    have em : (if (24 : Int) - (es.length : Int) > 0 then (24 : Int) - (es.length : Int) else 0) = ((24 - t.ents.length : Nat) : Int) := by
      rw [el]
      split <;> omega
    refine ⟨_, rfl, _, rfl, ta, _, 2, _, rfl, rfl, T2.sq hta, atI_nat (j := 2) rfl, ea, _, rfl, .inr (T2.sq hea), _, _, rfl, rfl, _, _, rfl, ((24 - t.ents.length : Nat) : Int), congrArg V.int em, q, ws2, rfl, .of e2, fun p hp => ?_⟩
    rw [cut_take]
    refine .inl ⟨p, _, rfl, .of upd_same, fun p2 hp2 => ?_⟩
    have s3 : Same H2 (upd H2 p (.lst (ws2.take (24 - t.ents.length)))) := same_new (by simpa using hp)
    have s4 := same_new (o := .tup (ws2.take (24 - t.ents.length))) hp2
    refine k p2 _ (ws2.take (24 - t.ents.length)) (fs2.take (24 - t.ents.length)) (F.g.same (s2.trans (s3.trans s4))) (.of upd_same) ?_ (nd.sublist (List.take_sublist _ _)) (fun e he => F.ok e ((hmem e).mp (List.mem_of_mem_take he))) (by rw [List.length_take]; omega) (by rw [List.length_take]; omega)
    rw [List.map_take]
    exact (r2.mono (tu_same (s3.trans s4))).take _
end
end K56
set_option Elab.async false
set_option linter.all false
set_option maxRecDepth 100000
set_option maxHeartbeats 4000000
namespace K56
open PySem PySem.Spec PyProof.Rows L2
theorem FL.ext {K : PySem.W.Frag} {b a : Addr} {cs : List Int} {H0 H : Hp} {fl many : Nat} {signs : List Nat} {es fs : List En} {ws vs : List V} (h : FL K b a cs H0 H fl many signs es ws) (r : RpL K H vs (fs.map En.d)) (ok : ∀ e ∈ fs, e.ok many signs) : FL K b a cs H0 (upd H fl (.lst (ws ++ vs))) fl many signs (es ++ fs) (ws ++ vs) := by
  have t : Tu H (upd H fl (.lst (ws ++ vs))) := tu_upd h.e rfl
  refine ⟨h.g.mut h.n, h.n, upd_same, ?_, fun x hx => ?_⟩
  · rw [List.map_append]
    exact (h.r.mono t).app (r.mono t)
  · rcases List.mem_append.mp hx with hx | hx
    · exact h.ok x hx
    · exact ok x hx
/-- a new entry of two new tuples, beside what stood -/
theorem new_en {K : PySem.W.Frag} {H9 H : Hp} {s kd : Nat} {ps : List Nat} {a b : Addr} (S : Same H9 H) (ha : H a = none) (hb : (upd H a (.tup (ps.map fun (n : Nat) => V.int (n : Int)))) b = none) :
    Same H (upd (upd H a (.tup (ps.map fun (n : Nat) => V.int (n : Int)))) b (.tup [.int (s : Int), .ref a, .int (kd : Int)])) ∧ Same H9 (upd (upd H a (.tup (ps.map fun (n : Nat) => V.int (n : Int)))) b (.tup [.int (s : Int), .ref a, .int (kd : Int)])) ∧
    Rp K (upd (upd H a (.tup (ps.map fun (n : Nat) => V.int (n : Int)))) b (.tup [.int (s : Int), .ref a, .int (kd : Int)])) (.ref b) (En.mk s ps kd).d := by
  have s1 := same_new (o := .tup (ps.map fun (n : Nat) => V.int (n : Int))) ha
  have s2 := same_new (o := .tup [.int (s : Int), .ref a, .int (kd : Int)]) hb
  exact ⟨s1.trans s2, S.trans (s1.trans s2), en_mk (.of (s2 _ _ upd_same)) (.of upd_same)⟩
def spPlanted (K : PySem.W.Frag) : Sp := fun vs H Q _ => ∃ (b a : Addr) (cs : List Int) (tv : V) (t : Tb) (way : Nat), vs = [.ref b, tv, .int (way : Int)] ∧ way ≤ 2 ∧ Bag b a cs H ∧ Rp K H tv t.d ∧ Tgood t ∧ t.signs[0]? = some 0 ∧
  ∀ (v : V) (H' : Hp) (t' : Tb), Gb b a cs H H' → Rp K H' v t'.d → Tgood t' → t'.many = t.many → Q v H'
section
variable {P : Program} {w : World} {K : PySem.W.Frag} {mg : Str → Option Value} {base : Heap}
theorem sc_l_planted_table : FnScope ["_law_bag_here", "_law_table_here", "_law_way", "_law_signs_here", "_law_sign", "_law_entries", "_law_many", "_law_p", "_law_q", "_law_more_here", "_law_entry_here"] ["_law_bag_here", "_law_table_here", "_law_way"] (defScope s_l_planted_table) := ⟨rfl, rfl, rfl, by decide +kernel, rfl, by decide +kernel, by decide +kernel⟩
theorem ok_l_planted_table (A : Hd K mg) : Cl P w K mg base "_law_planted_table" ["_law_bag_here", "_law_table_here", "_law_way"] 4 (spPlanted K) := by
  obtain ⟨fd, F⟩ := A.f_l_planted_table
  refine Cl.of F A.g_l_planted_table sc_l_planted_table (fun _ _ _ _ _ _ us hl => match us, hl with | [_, _, _], _ => rfl) (fun vs H Q E h => (by obtain ⟨b, a, cs, tv, t, way, rfl, hw, B, rt, tg, h0, k⟩ := h; rfl)) (fun cdv Ar outer s H vs Q E hr h => ?_)
  obtain ⟨b, a, cs, tv, t, way, rfl, hw, B, rt, tg, h0, k⟩ := h
  refine ⟨_, (pss_cons (ps_asg (pv 1) (pg_tup rfl (pgs_cons (pg_name (i := 6) sc_l_planted_table.nd rfl (.inl rfl)) (pgs_cons (pg_name (i := 3) sc_l_planted_table.nd rfl (.inl rfl)) (pgs_cons (pg_name (i := 5) sc_l_planted_table.nd rfl (.inl rfl)) pgs_nil)))))
  (pss_cons (ps_par3 (i := 7) (j := 8) (l := 9) (by rfl) sc_l_planted_table.nd rfl rfl rfl (by decide) (by decide) (by decide) rfl rfl rfl (pa_cons (pe_cl (ok_l_take A) (hr.mono (by decide)) (by rfl) (pa_cons (pv 0) (pa_cons (pv 6) pa_nil))) (pa_cons (pe_cl (ok_l_take A) (hr.mono (by decide)) (by rfl) (pa_cons (pv 0) (pa_cons (pv 6) pa_nil))) (pa_cons (pe_lst (pa_cons (pe_tup (pa_cons pe_int (pa_cons (pe_tup pa_nil) (pa_cons (pe_cl (ok_l_take A) (hr.mono (by decide)) (by rfl) (pa_cons (pv 0) (pa_cons (pv 6) pa_nil))) pa_nil)))) pa_nil)) pa_nil))) rfl)
  (pss_mid (ps_set (i := 3) sc_l_planted_table.nd rfl (.inl rfl) (pe_op op_catA (pe_slice sl_tupA (pv 3) po_none (po_some pe_int)) (pe_tup (pa_cons (pe_ifExp (pt_cmpR op_eq (pv 2) pe_int (nomark _)) pe_int pe_int) pa_nil))))
  (pss_cons (ps_set (i := 4) sc_l_planted_table.nd rfl (.inr rfl) (pe_op op_sub (pe_callB call_len_seq (by rfl) A.z_len PySem.boot_len (pa_cons (pv 3) pa_nil)) pe_int))
  (pss_cons (ps_set (i := 5) sc_l_planted_table.nd rfl (.inl rfl) (pe_slice sl_tupA (pe_tupleOf (by rfl) A.z_tuple (pe_lcF (own := [("_law_entry_here", 10)]) (by rfl) sc_l_planted_table.nd (pi_tup (pv 5)) (blkOk_by (by rfl)) (fun _ _ _ _ _ => (pg_name (i := 10) sc_l_planted_table.nd rfl (.inl rfl))) (fun _ _ _ _ _ => (pts_one (pt_cmpR op_lt (pe_ix ix_tup (pv 10) pe_int (fun _ _ => rfl)) (pv 4) (nomark _)))) (fun _ _ _ _ _ => (pv 10)))) po_none (po_some pe_int)))
  (pss_mid (ps_if (pt_cmpR op_eq (pv 2) pe_int (nomark _)) (pss_one (ps_expr (pe_bm PySem.F.plainAttrs_list PySem.F.slot_list_extend PySem.F.type_list_extend mt_extend (pv 9) (pa_cons (pe_lst (pa_cons (pe_tup (pa_cons (pv 4) (pa_cons (pe_tup (pa_cons (pv 7) pa_nil)) (pa_cons (pv 7) pa_nil)))) (pa_cons (pe_tup (pa_cons (pv 4) (pa_cons (pe_tup (pa_cons (pv 8) pa_nil)) (pa_cons (pv 8) pa_nil)))) (pa_cons (pe_tup (pa_cons (pv 4) (pa_cons (pe_tup (pa_cons (pv 8) pa_nil)) (pa_cons (pv 7) pa_nil)))) (pa_cons (pe_tup (pa_cons pe_int (pa_cons (pe_tup pa_nil) (pa_cons (pv 8) pa_nil)))) pa_nil))))) pa_nil)))) (pss_one (ps_if (pt_cmpR op_eq (pv 2) pe_int (nomark _)) (pss_one (ps_expr (pe_bm PySem.F.plainAttrs_list PySem.F.slot_list_extend PySem.F.type_list_extend mt_extend (pv 9) (pa_cons (pe_lst (pa_cons (pe_tup (pa_cons (pv 4) (pa_cons (pe_tup (pa_cons (pv 7) pa_nil)) (pa_cons (pv 7) pa_nil)))) (pa_cons (pe_tup (pa_cons (pv 4) (pa_cons (pe_tup (pa_cons (pv 7) pa_nil)) (pa_cons (pv 8) pa_nil)))) (pa_cons (pe_tup (pa_cons (pv 4) (pa_cons (pe_tup (pa_cons (pv 8) pa_nil)) (pa_cons (pv 7) pa_nil)))) (pa_cons (pe_tup (pa_cons (pv 4) (pa_cons (pe_tup (pa_cons (pv 8) pa_nil)) (pa_cons (pv 8) pa_nil)))) (pa_cons (pe_tup (pa_cons pe_int (pa_cons (pe_tup pa_nil) (pa_cons (pv 7) pa_nil)))) pa_nil)))))) pa_nil)))) (pss_one (ps_expr (pe_bm PySem.F.plainAttrs_list PySem.F.slot_list_extend PySem.F.type_list_extend mt_extend (pv 9) (pa_cons (pe_lst (pa_cons (pe_tup (pa_cons (pv 4) (pa_cons (pe_tup (pa_cons (pv 7) (pa_cons (pv 7) pa_nil))) (pa_cons (pv 7) pa_nil)))) (pa_cons (pe_tup (pa_cons (pv 4) (pa_cons (pe_tup (pa_cons (pv 7) (pa_cons (pv 8) pa_nil))) (pa_cons (pv 7) pa_nil)))) (pa_cons (pe_tup (pa_cons pe_int (pa_cons (pe_tup pa_nil) (pa_cons (pv 7) pa_nil)))) (pa_cons (pe_tup (pa_cons pe_int (pa_cons (pe_tup pa_nil) (pa_cons (pv 8) pa_nil)))) pa_nil))))) pa_nil)))))))
  (pss_one (ps_ret (pe_cl (ok_l_told A) (hr.mono (by decide)) (by rfl) (pa_cons (pv 6) (pa_cons (pv 3) (pa_cons (pe_op op_cat (pv 9) (pe_callTy call_list_of (by rfl) A.z_list (by decide +kernel) (pa_cons (pv 5) pa_nil))) pa_nil)))))))))))), ?_⟩
  obtain ⟨ta, sa, ea, es, rfl, hta, hsa, hea, re⟩ := tb_inv rt
  have tok := tg.ok
  have m1 := tok.m1
  have m4 := tok.m4
  have e24 := tg.few
  have el : es.length = t.ents.length := by rw [re.length, List.length_map]
  refine ⟨_, rfl, ta, _, rfl, hta, rfl, _, _, rfl, _, _, rfl, _, _, rfl, rfl, ?_⟩
  refine ⟨_, rfl, _, rfl, b, a, cs, _, rfl, B, by omega, by omega, fun p H1 p0 p1 g1 => ?_⟩
  obtain ⟨p, rfl⟩ : ∃ n : Nat, p = (n : Int) := ⟨p.toNat, by omega⟩
  refine ⟨_, rfl, _, rfl, b, a, cs, _, rfl, g1.b1, by omega, by omega, fun q H2 q0 q1 g2 => ?_⟩
  obtain ⟨q, rfl⟩ : ∃ n : Nat, q = (n : Int) := ⟨q.toNat, by omega⟩
  refine ⟨sz0, fun u1 hu1 => ⟨_, rfl, _, rfl, b, a, cs, _, rfl, (g2.same (same_new hu1)).b1, by omega, by omega, fun z H4 z0 z1 g4 => ⟨sz3, fun u2 hu2 => ⟨sz1, fun fl hfl => ⟨_, _, _, rfl, ?_⟩⟩⟩⟩⟩
  obtain ⟨z, rfl⟩ : ∃ n : Nat, z = (n : Int) := ⟨z.toNat, by omega⟩
  have s3 : Same H2 (upd H2 u1 (.tup [])) := same_new hu1
  have s5 : Same H4 (upd H4 u2 (.tup [.int 0, .ref u1, .int (z : Int)])) := same_new hu2
  have r5 : Rp K (upd H4 u2 (.tup [.int 0, .ref u1, .int (z : Int)])) (.ref u2) (En.mk 0 [] z).d := en_mk ((tu_same s5).sq (g4.tu.sq (.of upd_same))) (.of upd_same)
  have G5 : Gb b a cs H (upd H4 u2 (.tup [.int 0, .ref u1, .int (z : Int)])) := (((g1.trans g2).same s3).trans g4).same s5
  try dsimp only
  generalize upd H4 u2 (.tup [.int 0, .ref u1, .int (z : Int)]) = H5 at *
  have s6 : Same H5 (upd H5 fl (.lst [.ref u2])) := same_new hfl
  have G6 := G5.same s6
  have nfl : H fl = none := G5.back hfl
  have e6 : (upd H5 fl (.lst [.ref u2])) fl = some (.lst [.ref u2]) := upd_same
  have r6 := r5.mono (tu_same s6)
  generalize upd H5 fl (.lst [.ref u2]) = H6 at *
  clear s3 s5 g4 g2 g1 hu1 hu2 r5 G5 s6 hfl
  -- the signs
  generalize hX : (if way = 2 then 2 else 1) = X
  have X2 : X ≤ 2 := by rw [← hX]; split <;> omega
  refine ⟨fun σ' H' => ∃ sg, σ' = [some (.ref b), some (.ref ta), some (.int (way : Int)), some (.ref sg), none, some (.ref ea), some (.int (t.many : Int)), some (.int (p : Int)), some (.int (q : Int)), some (.ref fl), none] ∧ Gb b a cs H H' ∧ H' fl = some (.lst [.ref u2]) ∧ Rp K H' (.ref u2) (En.mk 0 [] z).d ∧ SqT K H' sg ((t.signs.take 5 ++ [X]).map fun (n : Nat) => V.int (n : Int)), ?_, ?_⟩
  · refine ⟨_, rfl, 5, rfl, rSlA_of (G6.tu.sq hsa) fun sb H7 s7 hsb => ?_⟩
    have ec : cutV (t.signs.map fun (n : Nat) => V.int (n : Int)) none (some 5) = (t.signs.take 5).map fun (n : Nat) => V.int (n : Int) := (cut_take _ 5).trans (List.map_take ..).symm
    rw [ec] at hsb
    have fin : ∀ x : Nat, x = X → sizeLine ≥ 1 → ∀ p1, H7 p1 = none → rCatA K (.ref sb) (.ref p1) (upd H7 p1 (.tup [.int (x : Int)])) fun y H8 => ∃ sg, (([some (.ref b), some (.ref ta), some (.int (way : Int)), some (.ref sa), none, some (.ref ea), some (.int (t.many : Int)), some (.int (p : Int)), some (.int (q : Int)), some (.ref fl), none] : L2.St).set 3 (some y)) = [some (.ref b), some (.ref ta), some (.int (way : Int)), some (.ref sg), none, some (.ref ea), some (.int (t.many : Int)), some (.int (p : Int)), some (.int (q : Int)), some (.ref fl), none] ∧ Gb b a cs H H8 ∧ H8 fl = some (.lst [.ref u2]) ∧ Rp K H8 (.ref u2) (En.mk 0 [] z).d ∧ SqT K H8 sg ((t.signs.take 5 ++ [X]).map fun (n : Nat) => V.int (n : Int)) := by
      rintro x rfl _ p1 hp1
      have s8 : Same H7 (upd H7 p1 (.tup [.int (x : Int)])) := same_new hp1
      refine rCatA_of ((tu_same s8).sq hsb) (.of upd_same) (by simp only [List.length_map, List.length_take, List.length_singleton]; exact sz_ok (by omega)) fun sg H9 s9 hsg => ?_
      have s69 := s7.trans (s8.trans s9)
      refine ⟨sg, rfl, G6.same s69, s69 _ _ e6, r6.mono (tu_same s69), ?_⟩
      rw [List.map_append]
      exact hsg
    refine ⟨_, rfl, rfl, _, rfl, ite2 (fun c => ?_) (fun c => ?_)⟩
    · have e : way = 2 := by
        have q := of_decide_eq_true c
        simp only [V.int.injEq] at q
        omega
      exact ⟨sz1, fun p1 hp1 => fin 2 (by rw [← hX, if_pos e]) sz1 p1 hp1⟩
    · have e : way ≠ 2 := fun e => c (decide_eq_true (by rw [e]; rfl))
      exact ⟨sz1, fun p1 hp1 => fin 1 (by rw [← hX, if_neg e]) sz1 p1 hp1⟩
  clear G6 e6 r6 H6
  rintro σ' H6 ⟨sg, rfl, G6, e6, r6, hsg⟩
  have S0 : (t.signs.take 5 ++ [X])[0]? = some 0 := by
    have l0 : 0 < t.signs.length := (List.getElem?_eq_some_iff.mp h0).1
    rw [List.getElem?_append_left (by rw [List.length_take]; omega), List.getElem?_take_of_lt (by omega)]
    exact h0
  have Sn : (t.signs.take 5 ++ [X])[(t.signs.take 5).length]? = some X := by
    rw [List.getElem?_append_right (Nat.le_refl _), Nat.sub_self]; rfl
  have Sl : ∀ s, s < (t.signs.take 5).length → (t.signs.take 5 ++ [X])[s]? = t.signs[s]? := fun s hs => by
    rw [List.getElem?_append_left hs, List.getElem?_take_of_lt (by rw [List.length_take] at hs; omega)]
  have Sz : (t.signs.take 5 ++ [X]).length = (t.signs.take 5).length + 1 := by simp
  have S2 : ∀ s ∈ t.signs.take 5 ++ [X], s ≤ 2 := fun s hs => by
    rcases List.mem_append.mp hs with hs | hs
    · exact tok.sg s (List.mem_of_mem_take hs)
    · rw [List.mem_singleton.mp hs]; exact X2
  have n5 : (t.signs.take 5).length ≤ 5 := by rw [List.length_take]; omega
  generalize t.signs.take 5 ++ [X] = S at *
  generalize (t.signs.take 5).length = n at *
  refine ⟨_, rfl, sg, _, rfl, .inr hsg, _, _, rfl, rfl, ?_⟩
  have en : (((S.map fun (n : Nat) => V.int (n : Int)).length : Nat) : Int) - 1 = (n : Int) := by
    rw [List.length_map, Sz]; omega
  try dsimp only
  rw [en]
  refine ⟨_, rfl, ea, rfl, ⟨_, G6.tu.sq hea⟩, fun Dl hD => ?_⟩
  refine lc_same (K := K) (walk_tup (K := K) (a := ea) (xs := es)) hD (fun i ds => ds = ((t.ents.take i).filter fun e => decide (e.sign < n)).map En.d) (by omega) (fun H7 s7 => (tu_same s7).sq (G6.tu.sq hea)) rfl ?_ ?_
  · rintro i x H7 _ ds hi s7 ⟨rfl, hx⟩ hds Qe Qn he hn
    obtain ⟨d, hd, rd⟩ := ((re.mono G6.tu).mono (tu_same s7)).get' hx
    rw [List.getElem?_map] at hd
    cases hh : t.ents[i]? with
    | none => rw [hh] at hd; cases hd
    | some e =>
      rw [hh] at hd
      cases hd
      obtain ⟨va, pp, rfl, hva, hpp⟩ := en_inv rd
      refine ⟨rfl, _, rfl, va, _, 0, _, rfl, rfl, hva, atI_nat (j := 0) rfl, _, rfl, _, _, rfl, rfl, _, rfl, ite2 (fun c => ?_) (fun c => ?_)⟩
      · have lt : e.sign < n := by
          have q := of_decide_eq_true c
          omega
        refine ⟨_, rfl, he _ _ _ (Same.refl _) rd ?_⟩
        rw [hds, take_snoc hh, List.filter_append, List.map_append]
        simp [lt]
      · have nlt : ¬ e.sign < n := fun q => c (decide_eq_true (by omega))
        refine hn _ (Same.refl _) ?_
        rw [hds, take_snoc hh, List.filter_append]
        simp [nlt]
  intro H7 w7 ds s7 e7 r7 hds _
  rw [el, List.take_length] at hds
  subst hds
  refine .inl ⟨Dl, w7, rfl, .of e7, fun q1 hq1 => ?_⟩
  have s8 : Same H7 (upd H7 q1 (.tup w7)) := same_new hq1
  refine ⟨16, rfl, rSlA_of (.of upd_same) fun eb H9 s9 heb => ?_⟩
  have ec16 : cutV w7 none (some 16) = w7.take 16 := cut_take w7 16
  rw [ec16] at heb
  have s69 := s7.trans (s8.trans s9)
  have F : FL K b a cs H H9 fl t.many S [En.mk 0 [] z] [.ref u2] := ⟨G6.same s69, nfl, s69 _ _ e6, .one (r6.mono (tu_same s69)), fun e he => by
    rw [List.mem_singleton.mp he]
    exact ⟨S0, (fun k hk => by cases hk), by show z < t.many; omega⟩⟩
  have rb : RpL K H9 (w7.take 16) ((((t.ents.filter fun e => decide (e.sign < n))).take 16).map En.d) := by
    rw [List.map_take]
    exact (r7.mono (tu_same (s8.trans s9))).take 16
  have okb : ∀ e ∈ ((t.ents.filter fun e => decide (e.sign < n))).take 16, e.ok t.many S := fun e he => by
    have h1 := List.mem_of_mem_take he
    rw [List.mem_filter] at h1
    have eo := tok.en e h1.1
    have lt : e.sign < n := of_decide_eq_true h1.2
    exact ⟨by rw [Sl _ lt]; exact eo.ar, eo.ps, eo.kd⟩
  have hsg9 := (tu_same s69).sq hsg
  have lbs : ((t.ents.filter fun e => decide (e.sign < n)).take 16).length ≤ 16 := by rw [List.length_take]; omega
  generalize (t.ents.filter fun e => decide (e.sign < n)).take 16 = bs at *
  generalize w7.take 16 = wb at *
  refine ⟨fun σ' H' => ∃ xs fs ws, σ' = [some (.ref b), some (.ref ta), some (.int (way : Int)), some (.ref sg), some (.int (n : Int)), some (.ref eb), some (.int (t.many : Int)), some (.int (p : Int)), some (.int (q : Int)), some (.ref fl), xs] ∧ FL K b a cs H H' fl t.many S fs ws ∧ Tu H9 H' ∧ fs.length ≤ 10, ?_, ?_⟩
  · refine ⟨_, rfl, rfl, _, rfl, ite2 (fun c => ?_) (fun c0 => ?_)⟩
    · have w0 : X = 1 := by rw [← hX, if_neg (by have q := of_decide_eq_true c; simp only [V.int.injEq] at q; omega)]
      rw [w0] at Sn
      refine ⟨_, rfl, .inl ⟨rfl, _, .of F.e⟩, _, rfl, _, rfl, sz1, fun a1 h1 => ⟨_, rfl, sz3, fun b1 k1 => ?_⟩⟩
      obtain ⟨x1, y1, r1⟩ := new_en (K := K) (s := n) (kd := p) (ps := [p]) (Same.refl H9) h1 k1
      refine ⟨_, rfl, _, rfl, sz1, fun a2 h2 => ⟨_, rfl, sz3, fun b2 k2 => ?_⟩⟩
      obtain ⟨x2, y2, r2⟩ := new_en (K := K) (s := n) (kd := q) (ps := [q]) y1 h2 k2
      refine ⟨_, rfl, _, rfl, sz1, fun a3 h3 => ⟨_, rfl, sz3, fun b3 k3 => ?_⟩⟩
      obtain ⟨x3, y3, r3⟩ := new_en (K := K) (s := n) (kd := p) (ps := [q]) y2 h3 k3
      refine ⟨sz0, fun a4 h4 => ⟨_, rfl, sz3, fun b4 k4 => ?_⟩⟩
      obtain ⟨x4, y4, r4⟩ := new_en (K := K) (s := 0) (kd := q) (ps := []) y3 h4 k4
      refine ⟨sz4, fun lx hlx => ?_⟩
      have sx := same_new (o := .lst [V.ref b1, .ref b2, .ref b3, .ref b4]) hlx
      have FF := (F.same y4).same sx
      have rr : RpL K _ [V.ref b1, .ref b2, .ref b3, .ref b4] ([En.mk n [p] p, En.mk n [q] q, En.mk n [q] p, En.mk 0 [] q].map En.d) := (.cons (r1.mono (tu_same (x2.trans (x3.trans (x4.trans sx))))) (.cons (r2.mono (tu_same (x3.trans (x4.trans sx)))) (.cons (r3.mono (tu_same (x4.trans sx))) (.one (r4.mono (tu_same sx))))))
      have ok4 : ∀ e ∈ [En.mk n [p] p, En.mk n [q] q, En.mk n [q] p, En.mk 0 [] q], e.ok t.many S := fun e he => by
        simp only [List.mem_cons, List.not_mem_nil, or_false] at he
        rcases he with rfl | rfl | rfl | rfl
        · exact ⟨Sn, (fun k hk => by simp at hk; try omega), by show p < t.many; omega⟩
        · exact ⟨Sn, (fun k hk => by simp at hk; try omega), by show q < t.many; omega⟩
        · exact ⟨Sn, (fun k hk => by simp at hk; try omega), by show p < t.many; omega⟩
        · exact ⟨S0, (fun k hk => by simp at hk; try omega), by show q < t.many; omega⟩
      exact ⟨fl, lx, _, _, rfl, rfl, FF.e, upd_same, (show 5 ≤ sizeLine from sz_ok (by decide)), _, _, _, rfl, FF.ext rr ok4, ((tu_same y4).trans (tu_same sx)).trans (tu_upd FF.e rfl), (show 5 ≤ 10 by decide)⟩
    · refine ⟨_, rfl, rfl, _, rfl, ite2 (fun c => ?_) (fun c => ?_)⟩
      · have w0 : X = 1 := by rw [← hX, if_neg (by have q := of_decide_eq_true c; simp only [V.int.injEq] at q; omega)]
        rw [w0] at Sn
        refine ⟨_, rfl, .inl ⟨rfl, _, .of F.e⟩, _, rfl, _, rfl, sz1, fun a1 h1 => ⟨_, rfl, sz3, fun b1 k1 => ?_⟩⟩
        obtain ⟨x1, y1, r1⟩ := new_en (K := K) (s := n) (kd := p) (ps := [p]) (Same.refl H9) h1 k1
        refine ⟨_, rfl, _, rfl, sz1, fun a2 h2 => ⟨_, rfl, sz3, fun b2 k2 => ?_⟩⟩
        obtain ⟨x2, y2, r2⟩ := new_en (K := K) (s := n) (kd := q) (ps := [p]) y1 h2 k2
        refine ⟨_, rfl, _, rfl, sz1, fun a3 h3 => ⟨_, rfl, sz3, fun b3 k3 => ?_⟩⟩
        obtain ⟨x3, y3, r3⟩ := new_en (K := K) (s := n) (kd := p) (ps := [q]) y2 h3 k3
        refine ⟨_, rfl, _, rfl, sz1, fun a4 h4 => ⟨_, rfl, sz3, fun b4 k4 => ?_⟩⟩
        obtain ⟨x4, y4, r4⟩ := new_en (K := K) (s := n) (kd := q) (ps := [q]) y3 h4 k4
        refine ⟨sz0, fun a5 h5 => ⟨_, rfl, sz3, fun b5 k5 => ?_⟩⟩
        obtain ⟨x5, y5, r5⟩ := new_en (K := K) (s := 0) (kd := p) (ps := []) y4 h5 k5
        refine ⟨sz5, fun lx hlx => ?_⟩
        have sx := same_new (o := .lst [V.ref b1, .ref b2, .ref b3, .ref b4, .ref b5]) hlx
        have FF := (F.same y5).same sx
        have rr : RpL K _ [V.ref b1, .ref b2, .ref b3, .ref b4, .ref b5] ([En.mk n [p] p, En.mk n [p] q, En.mk n [q] p, En.mk n [q] q, En.mk 0 [] p].map En.d) := (.cons (r1.mono (tu_same (x2.trans (x3.trans (x4.trans (x5.trans sx)))))) (.cons (r2.mono (tu_same (x3.trans (x4.trans (x5.trans sx))))) (.cons (r3.mono (tu_same (x4.trans (x5.trans sx)))) (.cons (r4.mono (tu_same (x5.trans sx))) (.one (r5.mono (tu_same sx)))))))
        have ok4 : ∀ e ∈ [En.mk n [p] p, En.mk n [p] q, En.mk n [q] p, En.mk n [q] q, En.mk 0 [] p], e.ok t.many S := fun e he => by
          simp only [List.mem_cons, List.not_mem_nil, or_false] at he
          rcases he with rfl | rfl | rfl | rfl | rfl
          · exact ⟨Sn, (fun k hk => by simp at hk; try omega), by show p < t.many; omega⟩
          · exact ⟨Sn, (fun k hk => by simp at hk; try omega), by show q < t.many; omega⟩
          · exact ⟨Sn, (fun k hk => by simp at hk; try omega), by show p < t.many; omega⟩
          · exact ⟨Sn, (fun k hk => by simp at hk; try omega), by show q < t.many; omega⟩
          · exact ⟨S0, (fun k hk => by simp at hk; try omega), by show p < t.many; omega⟩
        exact ⟨fl, lx, _, _, rfl, rfl, FF.e, upd_same, (show 6 ≤ sizeLine from sz_ok (by decide)), _, _, _, rfl, FF.ext rr ok4, ((tu_same y5).trans (tu_same sx)).trans (tu_upd FF.e rfl), (show 6 ≤ 10 by decide)⟩
      · have w0 : X = 2 := by rw [← hX, if_pos (by have q1 : way ≠ 0 := (fun e => c0 (decide_eq_true (by rw [e]; rfl))); have q2 : way ≠ 1 := (fun e => c (decide_eq_true (by rw [e]; rfl))); omega)]
        rw [w0] at Sn
        refine ⟨_, rfl, .inl ⟨rfl, _, .of F.e⟩, _, rfl, _, rfl, _, rfl, sz2, fun a1 h1 => ⟨_, rfl, sz3, fun b1 k1 => ?_⟩⟩
        obtain ⟨x1, y1, r1⟩ := new_en (K := K) (s := n) (kd := p) (ps := [p, p]) (Same.refl H9) h1 k1
        refine ⟨_, rfl, _, rfl, _, rfl, sz2, fun a2 h2 => ⟨_, rfl, sz3, fun b2 k2 => ?_⟩⟩
        obtain ⟨x2, y2, r2⟩ := new_en (K := K) (s := n) (kd := p) (ps := [p, q]) y1 h2 k2
        refine ⟨sz0, fun a3 h3 => ⟨_, rfl, sz3, fun b3 k3 => ?_⟩⟩
        obtain ⟨x3, y3, r3⟩ := new_en (K := K) (s := 0) (kd := p) (ps := []) y2 h3 k3
        refine ⟨sz0, fun a4 h4 => ⟨_, rfl, sz3, fun b4 k4 => ?_⟩⟩
        obtain ⟨x4, y4, r4⟩ := new_en (K := K) (s := 0) (kd := q) (ps := []) y3 h4 k4
        refine ⟨sz4, fun lx hlx => ?_⟩
        have sx := same_new (o := .lst [V.ref b1, .ref b2, .ref b3, .ref b4]) hlx
        have FF := (F.same y4).same sx
        have rr : RpL K _ [V.ref b1, .ref b2, .ref b3, .ref b4] ([En.mk n [p, p] p, En.mk n [p, q] p, En.mk 0 [] p, En.mk 0 [] q].map En.d) := (.cons (r1.mono (tu_same (x2.trans (x3.trans (x4.trans sx))))) (.cons (r2.mono (tu_same (x3.trans (x4.trans sx)))) (.cons (r3.mono (tu_same (x4.trans sx))) (.one (r4.mono (tu_same sx))))))
        have ok4 : ∀ e ∈ [En.mk n [p, p] p, En.mk n [p, q] p, En.mk 0 [] p, En.mk 0 [] q], e.ok t.many S := fun e he => by
          simp only [List.mem_cons, List.not_mem_nil, or_false] at he
          rcases he with rfl | rfl | rfl | rfl
          · exact ⟨Sn, (fun k hk => by simp at hk; try omega), by show p < t.many; omega⟩
          · exact ⟨Sn, (fun k hk => by simp at hk; try omega), by show p < t.many; omega⟩
          · exact ⟨S0, (fun k hk => by simp at hk; try omega), by show p < t.many; omega⟩
          · exact ⟨S0, (fun k hk => by simp at hk; try omega), by show q < t.many; omega⟩
        exact ⟨fl, lx, _, _, rfl, rfl, FF.e, upd_same, (show 5 ≤ sizeLine from sz_ok (by decide)), _, _, _, rfl, FF.ext rr ok4, ((tu_same y4).trans (tu_same sx)).trans (tu_upd FF.e rfl), (show 5 ≤ 10 by decide)⟩
  rintro σ' H' ⟨xs, fs, ws, rfl, F', T, le⟩
  refine ⟨_, rfl, _, rfl, _, rfl, _, rfl, eb, wb, rfl, .inr (T.sq heb), fun l2 hl2 => ?_⟩
  have s10 : Same H' (upd H' l2 (.lst wb)) := same_new hl2
  have F10 := F'.same s10
  have rb10 := (rb.mono T).mono (tu_same s10)
  have lb : wb.length ≤ 24 := by
    have q1 := rb.length
    rw [List.length_map] at q1
    omega
  refine ⟨fl, l2, ws, wb, rfl, rfl, F10.e, upd_same, by rw [F10.len]; exact sz_ok (by omega), fun l3 hl3 => ?_⟩
  have s11 : Same (upd H' l2 (.lst wb)) (upd (upd H' l2 (.lst wb)) l3 (.lst (ws ++ wb))) := same_new hl3
  have F11 := F10.same s11
  have r11 : RpL K (upd (upd H' l2 (.lst wb)) l3 (.lst (ws ++ wb))) (ws ++ wb) ((fs ++ bs).map En.d) := by
    rw [List.map_append]
    exact F11.r.app (rb10.mono (tu_same s11))
  refine ⟨t.many, .ref sg, S, l3, ws ++ wb, fs ++ bs, rfl, nats_of ((tu_same s11).sq ((tu_same s10).sq (T.sq hsg9))), .of upd_same, r11, fun v H12 gs s12 r12 nd l12 mem => ?_⟩
  refine k v H12 _ (F11.g.same s12) r12 (told_good m1 m4 S2 (by omega) (fun e he => ?_) nd l12 mem) rfl
  rcases List.mem_append.mp he with he | he
  · exact F'.ok e he
  · exact okb e he
end
end K56
set_option Elab.async false
set_option linter.all false
set_option maxRecDepth 100000
set_option maxHeartbeats 4000000
namespace K56
open PySem PySem.Spec PyProof.Rows L2
def spTab (K : PySem.W.Frag) : Sp := fun vs H Q _ => ∃ (b a : Addr) (cs : List Int), vs = [.ref b] ∧ Bag b a cs H ∧ ∀ (v : V) (H' : Hp) (t : Tb), Gb b a cs H H' → Rp K H' v t.d → Tgood t → Q v H'
section
variable {P : Program} {w : World} {K : PySem.W.Frag} {mg : Str → Option Value} {base : Heap}
theorem sc_l_table : FnScope ["_law_bag_here", "_law_base", "_law_way", "_law_many"] ["_law_bag_here"] (defScope s_l_table) := ⟨rfl, rfl, rfl, by decide +kernel, rfl, by decide +kernel, by decide +kernel⟩
theorem ok_l_table (A : Hd K mg) : Cl P w K mg base "_law_table" ["_law_bag_here"] 5 (spTab K) := by
  obtain ⟨fd, F⟩ := A.f_l_table
  refine Cl.of F A.g_l_table sc_l_table (fun _ _ _ _ _ _ us hl => match us, hl with | [_], _ => rfl) (fun vs H Q E h => (by obtain ⟨b, a, cs, rfl, B, k⟩ := h; rfl)) (fun cdv Ar outer s H vs Q E hr h => ?_)
  obtain ⟨b, a, cs, rfl, B, k⟩ := h
  refine ⟨_, (pss_cons (ps_par (i := 2) (j := 3) (by rfl) sc_l_table.nd rfl rfl (by decide) rfl rfl (pa_cons (pe_cl (ok_l_take A) (hr.mono (by decide)) (by rfl) (pa_cons (pv 0) (pa_cons pe_int pa_nil))) (pa_cons (pe_cl (ok_l_some A) (hr.mono (by decide)) (by rfl) (pa_cons (pv 0) (pa_cons (pe_lst (pa_cons pe_int (pa_cons pe_int (pa_cons pe_int (pa_cons pe_int (pa_cons pe_int (pa_cons pe_int pa_nil))))))) pa_nil))) pa_nil)) rfl)
  (pss_cons (ps_if (pt_cmpR op_lt (pv 2) pe_int (nomark _)) (pss_one (ps_ret (pe_cl (ok_l_any_table A) (hr.mono (by decide)) (by rfl) (pa_cons (pv 0) (pa_cons (pv 3) (pa_cons (pe_cl (ok_l_some A) (hr.mono (by decide)) (by rfl) (pa_cons (pv 0) (pa_cons (pe_lst (pa_cons pe_int (pa_cons pe_int (pa_cons pe_int pa_nil)))) pa_nil))) pa_nil)))))) pss_nil)
  (pss_cons (ps_if (pt_cmpR op_eq (pv 2) pe_int (nomark _)) (pss_one (ps_ret (pe_cl (ok_l_plain_table A) (hr.mono (by decide)) (by rfl) (pa_cons (pv 0) (pa_cons (pv 3) (pa_cons pe_int pa_nil)))))) pss_nil)
  (pss_cons (ps_if (pt_cmpR op_eq (pv 2) pe_int (nomark _)) (pss_one (ps_ret (pe_cl (ok_l_chain_table A) (hr.mono (by decide)) (by rfl) (pa_cons (pv 0) (pa_cons (pv 3) pa_nil))))) pss_nil)
  (pss_cons (ps_set (i := 1) sc_l_table.nd rfl (.inl rfl) (pe_cl (ok_l_some A) (hr.mono (by decide)) (by rfl) (pa_cons (pv 0) (pa_cons (pe_lst (pa_cons (pe_cl (ok_l_plain_table A) (hr.mono (by decide)) (by rfl) (pa_cons (pv 0) (pa_cons (pv 3) (pa_cons pe_int pa_nil)))) (pa_cons (pe_cl (ok_l_any_table A) (hr.mono (by decide)) (by rfl) (pa_cons (pv 0) (pa_cons (pv 3) (pa_cons pe_int pa_nil)))) (pa_cons (pe_cl (ok_l_chain_table A) (hr.mono (by decide)) (by rfl) (pa_cons (pv 0) (pa_cons (pv 3) pa_nil))) pa_nil)))) pa_nil))))
  (pss_one (ps_ret (pe_ifExp (pt_cmpR op_lt (pv 2) pe_int (nomark _)) (pe_cl (ok_l_planted_table A) (hr.mono (by decide)) (by rfl) (pa_cons (pv 0) (pa_cons (pv 1) (pa_cons (pe_op op_sub (pv 2) pe_int) pa_nil)))) (pv 1))))))))), ?_⟩
  refine ⟨_, rfl, b, a, cs, _, rfl, B, by omega, by omega, fun w0 H1 p0 p1 g1 => ?_⟩
  obtain ⟨way, rfl⟩ : ∃ n : Nat, w0 = (n : Int) := ⟨w0.toNat, by omega⟩
  refine ⟨_, rfl, sz6, fun q hq => ?_⟩
  have g2 := g1.new (o := .lst [.int 2, .int 3, .int 2, .int 4, .int 1, .int 3]) hq
  refine ⟨b, a, q, cs, _, rfl, g2.b1, .inl ⟨.of upd_same, g1.nb (g1.back hq)⟩, by decide, by decide, fun i4 v H3 hv g3 => ?_⟩
  have hv' : ∃ n : Nat, 1 ≤ n ∧ n ≤ 4 ∧ v = .int (n : Int) := by
    match i4, hv with
    | 0, hv => cases hv; exact ⟨2, by omega, by omega, rfl⟩
    | 1, hv => cases hv; exact ⟨3, by omega, by omega, rfl⟩
    | 2, hv => cases hv; exact ⟨2, by omega, by omega, rfl⟩
    | 3, hv => cases hv; exact ⟨4, by omega, by omega, rfl⟩
    | 4, hv => cases hv; exact ⟨1, by omega, by omega, rfl⟩
    | 5, hv => cases hv; exact ⟨3, by omega, by omega, rfl⟩
    | i + 6, hv => simp at hv
  obtain ⟨many, n1, n4, rfl⟩ := hv'
  have G := g2.trans g3
  refine ⟨_, _, rfl, ?_⟩
  refine ⟨_, rfl, _, _, rfl, rfl, _, rfl, ite2 (fun c => ?_) (fun c3 => ?_)⟩
  · refine ⟨_, rfl, _, rfl, _, rfl, sz3, fun q2 hq2 => ?_⟩
    have g4 := G.new (o := .lst [.int 3, .int 4, .int 6]) hq2
    refine ⟨b, a, q2, cs, _, rfl, g4.b1, .inl ⟨.of upd_same, G.nb (G.back hq2)⟩, by decide, by decide, fun i5 v H5 hv5 g5 => ?_⟩
    have hv' : ∃ n : Nat, 1 ≤ n ∧ n ≤ 6 ∧ v = .int (n : Int) := by
      match i5, hv5 with
      | 0, hv => cases hv; exact ⟨3, by omega, by omega, rfl⟩
      | 1, hv => cases hv; exact ⟨4, by omega, by omega, rfl⟩
      | 2, hv => cases hv; exact ⟨6, by omega, by omega, rfl⟩
      | i + 3, hv => simp at hv
    obtain ⟨most, o1, o6, rfl⟩ := hv'
    exact ⟨b, a, cs, many, most, rfl, (g4.trans g5).b1, n1, n4, by omega, o6, fun v H6 t g6 r6 tg _ _ => k v H6 t ((g4.trans g5).trans g6) r6 tg⟩
  refine ⟨_, rfl, rfl, _, rfl, ite2 (fun c => ?_) (fun c4 => ?_)⟩
  · exact ⟨_, rfl, _, rfl, b, a, cs, many, 4, rfl, G.b1, n1, n4, by omega, by omega, fun v H6 t g6 r6 tg _ _ => k v H6 t (G.trans g6) r6 tg⟩
  refine ⟨_, rfl, rfl, _, rfl, ite2 (fun c => ?_) (fun c5 => ?_)⟩
  · exact ⟨_, rfl, _, rfl, b, a, cs, many, rfl, G.b1, n1, n4, fun v H6 t g6 r6 tg _ _ => k v H6 t (G.trans g6) r6 tg⟩
  refine ⟨_, rfl, _, rfl, _, rfl, b, a, cs, many, 3, rfl, G.b1, n1, n4, by omega, by omega, fun v1 H4 t1 g4 r1 tg1 _ z1 => ?_⟩
  refine ⟨_, rfl, _, rfl, b, a, cs, many, 3, rfl, g4.b1, n1, n4, by omega, by omega, fun v2 H5 t2 g5 r2 tg2 _ z2 => ?_⟩
  refine ⟨_, rfl, _, rfl, b, a, cs, many, rfl, g5.b1, n1, n4, fun v3 H6 t3 g6 r3 tg3 _ z3 => ⟨sz3, fun q2 hq2 => ?_⟩⟩
  have g46 := (G.trans g4).trans (g5.trans g6)
  have s7 := same_new (o := .lst [v1, v2, v3]) hq2
  have g7 := g46.same s7
  refine ⟨b, a, q2, cs, _, rfl, g7.b1, .inl ⟨.of upd_same, g46.nb (g46.back hq2)⟩, (show 0 < 3 by decide), (show 3 ≤ 1000 by decide), fun i5 v H8 hv5 g8 => ?_⟩
  have hv' : ∃ t : Tb, Rp K H8 v t.d ∧ Tgood t ∧ t.signs[0]? = some 0 := by
    match i5, hv5 with
    | 0, hv => cases hv; exact ⟨t1, (((r1.mono (g5.trans g6).tu).mono (tu_same s7)).mono g8.tu), tg1, z1⟩
    | 1, hv => cases hv; exact ⟨t2, (((r2.mono g6.tu).mono (tu_same s7)).mono g8.tu), tg2, z2⟩
    | 2, hv => cases hv; exact ⟨t3, ((r3.mono (tu_same s7)).mono g8.tu), tg3, z3⟩
    | i + 3, hv => simp at hv
  obtain ⟨t, rt, tg, z⟩ := hv'
  have g08 := g7.trans g8
  refine ⟨_, rfl, _, _, rfl, rfl, _, rfl, ite2 (fun d => ?_) (fun d => ?_)⟩
  · have h3 : ¬ way < 3 := fun e => c3 (decide_eq_true (by omega))
    have h4 : way ≠ 3 := fun e => c4 (decide_eq_true (by rw [e]; rfl))
    have h5 : way ≠ 4 := fun e => c5 (decide_eq_true (by rw [e]; rfl))
    have h8 : way < 8 := by
      have q := of_decide_eq_true d
      omega
    obtain ⟨u, rfl⟩ : ∃ u, way = u + 5 := ⟨way - 5, by omega⟩
    have eu : ((u + 5 : Nat) : Int) - 5 = (u : Int) := by omega
    refine ⟨_, rfl, _, rfl, _, rfl, _, _, rfl, rfl, ?_⟩
    try dsimp only
    rw [eu]
    exact ⟨b, a, cs, v, t, u, rfl, by omega, g08.b1, rt, tg, z, fun v' H9 t' g9 r9 tg9 _ => k v' H9 t' (g08.trans g9) r9 tg9⟩
  · exact ⟨_, rfl, k v H8 t g08 rt tg⟩
end
end K56
set_option Elab.async false
set_option linter.all false
set_option maxRecDepth 100000
set_option maxHeartbeats 4000000
namespace K56
open PySem PySem.Spec PyProof.Rows L2
def spSmall (K : PySem.W.Frag) : Sp := fun vs H Q _ => ∃ (b a : Addr) (cs : List Int), vs = [.ref b] ∧ Bag b a cs H ∧ ∀ (v : V) (H' : Hp) (t : Tb), Gb b a cs H H' → Rp K H' v t.d → Tgood t → t.many ≤ 3 → Q v H'
section
variable {P : Program} {w : World} {K : PySem.W.Frag} {mg : Str → Option Value} {base : Heap}
theorem sc_l_small_table : FnScope ["_law_bag_here", "_law_way", "_law_table_here"] ["_law_bag_here"] (defScope s_l_small_table) := ⟨rfl, rfl, rfl, by decide +kernel, rfl, by decide +kernel, by decide +kernel⟩
theorem ok_l_small_table (A : Hd K mg) : Cl P w K mg base "_law_small_table" ["_law_bag_here"] 6 (spSmall K) := by
  obtain ⟨fd, F⟩ := A.f_l_small_table
  refine Cl.of F A.g_l_small_table sc_l_small_table (fun _ _ _ _ _ _ us hl => match us, hl with | [_], _ => rfl) (fun vs H Q E h => (by obtain ⟨b, a, cs, rfl, B, k⟩ := h; rfl)) (fun cdv Ar outer s H vs Q E hr h => ?_)
  obtain ⟨b, a, cs, rfl, B, k⟩ := h
  refine ⟨_, (pss_cons (ps_set (i := 1) sc_l_small_table.nd rfl (.inl rfl) (pe_cl (ok_l_take A) (hr.mono (by decide)) (by rfl) (pa_cons (pv 0) (pa_cons pe_int pa_nil))))
  (pss_cons (ps_if (pt_cmpR op_eq (pv 1) pe_int (nomark _)) (pss_one (ps_ret (pe_tup (pa_cons (pe_op op_add pe_int (pe_cl (ok_l_take A) (hr.mono (by decide)) (by rfl) (pa_cons (pv 0) (pa_cons pe_int pa_nil)))) (pa_cons (pe_cl (ok_l_some A) (hr.mono (by decide)) (by rfl) (pa_cons (pv 0) (pa_cons (pe_lst (pa_cons (pe_tup pa_nil) (pa_cons (pe_tup (pa_cons pe_int pa_nil)) (pa_cons (pe_tup (pa_cons pe_int (pa_cons pe_int pa_nil))) pa_nil)))) pa_nil))) (pa_cons (pe_tup pa_nil) pa_nil)))))) pss_nil)
  (pss_cons (ps_if (pt_cmpR op_lt (pv 1) pe_int (nomark _)) (pss_one (ps_ret (pe_cl (ok_l_any_table A) (hr.mono (by decide)) (by rfl) (pa_cons (pv 0) (pa_cons (pe_cl (ok_l_some A) (hr.mono (by decide)) (by rfl) (pa_cons (pv 0) (pa_cons (pe_lst (pa_cons pe_int (pa_cons pe_int (pa_cons pe_int pa_nil)))) pa_nil))) (pa_cons pe_int pa_nil)))))) pss_nil)
  (pss_cons (ps_if (pt_cmpR op_lt (pv 1) pe_int (nomark _)) (pss_one (ps_ret (pe_cl (ok_l_plain_table A) (hr.mono (by decide)) (by rfl) (pa_cons (pv 0) (pa_cons (pe_cl (ok_l_some A) (hr.mono (by decide)) (by rfl) (pa_cons (pv 0) (pa_cons (pe_lst (pa_cons pe_int (pa_cons pe_int (pa_cons pe_int pa_nil)))) pa_nil))) (pa_cons pe_int pa_nil)))))) pss_nil)
  (pss_cons (ps_set (i := 2) sc_l_small_table.nd rfl (.inl rfl) (pe_cl (ok_l_table A) (hr.mono (by decide)) (by rfl) (pa_cons (pv 0) pa_nil)))
  (pss_one (ps_ret (pe_ifExp (PW.pt (pw_and (pt_cmpR op_lt (pe_ix ix_tup (pv 2) pe_int (fun _ _ => rfl)) pe_int (nomark _)) (pw_and1 (pt_cmpR op_lt (pe_callB call_len_seq (by rfl) A.z_len PySem.boot_len (pa_cons (pe_ix ix_tup (pv 2) pe_int (fun _ _ => rfl)) pa_nil)) pe_int (nomark _))))) (pv 2) (pe_cl (ok_l_chain_table A) (hr.mono (by decide)) (by rfl) (pa_cons (pv 0) (pa_cons pe_int pa_nil))))))))))), ?_⟩
  refine ⟨_, rfl, b, a, cs, _, rfl, B, by omega, by omega, fun w0 H1 p0 p1 g1 => ?_⟩
  obtain ⟨way, rfl⟩ : ∃ n : Nat, w0 = (n : Int) := ⟨w0.toNat, by omega⟩
  refine ⟨_, rfl, rfl, _, rfl, ite2 (fun c => ?_) (fun c0 => ?_)⟩
  · refine ⟨_, rfl, b, a, cs, _, rfl, g1.b1, by omega, by omega, fun j H2 j0 j1 g2 => ⟨_, _, rfl, rfl, ?_⟩⟩
    obtain ⟨j, rfl⟩ : ∃ n : Nat, j = (n : Int) := ⟨j.toNat, by omega⟩
    have ej : (1 : Int) + (j : Int) = ((1 + j : Nat) : Int) := by omega
    try dsimp only
    rw [ej]
    have g12 := g1.trans g2
    refine ⟨_, rfl, sz0, fun a1 h1 => ⟨sz1, fun a2 h2 => ⟨sz2, fun a3 h3 => ⟨sz3, fun lx hlx => ?_⟩⟩⟩⟩
    have s1 := same_new (o := .tup []) h1
    have s2 := same_new (o := .tup [.int 1]) h2
    have s3 := same_new (o := .tup [.int 2, .int 1]) h3
    have s4 := same_new (o := .lst [V.ref a1, .ref a2, .ref a3]) hlx
    have g5 := g12.same (s1.trans (s2.trans (s3.trans s4)))
    have q1 : Rp K _ (.ref a1) (natD []) := nats_of (.of ((s2.trans (s3.trans s4)) _ _ upd_same))
    have q2 : Rp K _ (.ref a2) (natD [1]) := nats_of (.of ((s3.trans s4) _ _ upd_same))
    have q3 : Rp K _ (.ref a3) (natD [2, 1]) := nats_of (.of (s4 _ _ upd_same))
    refine ⟨b, a, lx, cs, _, rfl, g5.b1, .inl ⟨.of upd_same, g5.nb ((g12.same (s1.trans (s2.trans s3))).back hlx)⟩, (show 0 < 3 by decide), (show 3 ≤ 1000 by decide), fun i5 v H8 hv5 g8 => ?_⟩
    have hv' : ∃ S : List Nat, Rp K H8 v (natD S) ∧ (∀ s ∈ S, s ≤ 2) ∧ S.length ≤ 6 := by
      match i5, hv5 with
      | 0, hv => cases hv; exact ⟨[], q1.mono g8.tu, by decide, by decide⟩
      | 1, hv => cases hv; exact ⟨[1], q2.mono g8.tu, by decide, by decide⟩
      | 2, hv => cases hv; exact ⟨[2, 1], q3.mono g8.tu, by decide, by decide⟩
      | i + 3, hv => simp at hv
    obtain ⟨S, rS, hS, lS⟩ := hv'
    refine ⟨sz0, fun a4 h4 => ⟨sz3, fun a5 h5 => ?_⟩⟩
    have s6 := same_new (o := .tup []) h4
    have s7 := same_new (o := .tup [.int ((1 + j : Nat) : Int), v, .ref a4]) h5
    refine k _ _ ⟨1 + j, S, []⟩ ((g5.trans g8).same (s6.trans s7)) ?_ ⟨⟨by show 1 ≤ 1 + j; omega, by show 1 + j ≤ 4; omega, hS, lS, (fun e he => by cases he), Nat.zero_le _⟩, List.nodup_nil, Nat.zero_le _⟩ (by show 1 + j ≤ 3; omega)
    exact .tup (.of upd_same) (.cons (.int _) (.cons (rS.mono (tu_same (s6.trans s7))) (.one (.tup (.of (s7 _ _ upd_same)) .nil))))
  refine ⟨_, rfl, _, _, rfl, rfl, _, rfl, ite2 (fun c => ?_) (fun c1 => ?_)⟩
  · refine ⟨_, rfl, _, rfl, sz3, fun q2 hq2 => ?_⟩
    have g4 := g1.new (o := .lst [.int 2, .int 3, .int 2]) hq2
    refine ⟨b, a, q2, cs, _, rfl, g4.b1, .inl ⟨.of upd_same, g1.nb (g1.back hq2)⟩, (show 0 < 3 by decide), (show 3 ≤ 1000 by decide), fun i5 v H5 hv5 g5 => ?_⟩
    have hv' : ∃ n : Nat, 1 ≤ n ∧ n ≤ 3 ∧ v = .int (n : Int) := by
      match i5, hv5 with
      | 0, hv => cases hv; exact ⟨2, by omega, by omega, rfl⟩
      | 1, hv => cases hv; exact ⟨3, by omega, by omega, rfl⟩
      | 2, hv => cases hv; exact ⟨2, by omega, by omega, rfl⟩
      | i + 3, hv => simp at hv
    obtain ⟨many, o1, o3, rfl⟩ := hv'
    exact ⟨b, a, cs, many, 3, rfl, (g4.trans g5).b1, o1, by omega, by omega, by omega, fun v H6 t g6 r6 tg em _ => k v H6 t ((g4.trans g5).trans g6) r6 tg (by omega)⟩
  refine ⟨_, rfl, _, _, rfl, rfl, _, rfl, ite2 (fun c => ?_) (fun c2 => ?_)⟩
  · refine ⟨_, rfl, _, rfl, sz3, fun q2 hq2 => ?_⟩
    have g4 := g1.new (o := .lst [.int 2, .int 3, .int 3]) hq2
    refine ⟨b, a, q2, cs, _, rfl, g4.b1, .inl ⟨.of upd_same, g1.nb (g1.back hq2)⟩, (show 0 < 3 by decide), (show 3 ≤ 1000 by decide), fun i5 v H5 hv5 g5 => ?_⟩
    have hv' : ∃ n : Nat, 1 ≤ n ∧ n ≤ 3 ∧ v = .int (n : Int) := by
      match i5, hv5 with
      | 0, hv => cases hv; exact ⟨2, by omega, by omega, rfl⟩
      | 1, hv => cases hv; exact ⟨3, by omega, by omega, rfl⟩
      | 2, hv => cases hv; exact ⟨3, by omega, by omega, rfl⟩
      | i + 3, hv => simp at hv
    obtain ⟨many, o1, o3, rfl⟩ := hv'
    exact ⟨b, a, cs, many, 3, rfl, (g4.trans g5).b1, o1, by omega, by omega, by omega, fun v H6 t g6 r6 tg em _ => k v H6 t ((g4.trans g5).trans g6) r6 tg (by omega)⟩
  refine ⟨_, rfl, b, a, cs, rfl, g1.b1, fun v H2 t g2 r2 tg => ?_⟩
  obtain ⟨ta, sa, ea, es, rfl, hta, hsa, hea, re⟩ := tb_inv r2
  have g12 := g1.trans g2
  refine ⟨_, rfl, ta, _, 0, _, rfl, rfl, hta, atI_nat (j := 0) rfl, _, _, rfl, rfl, _, rfl, ite2 (fun c => ?_) (fun c3 => ?_)⟩
  · have m3 : t.many < 4 := by
      have q := of_decide_eq_true c
      omega
    refine ⟨_, rfl, ta, _, 2, _, rfl, rfl, hta, atI_nat (j := 2) rfl, ea, _, rfl, .inr hea, _, _, rfl, rfl, _, rfl, ite2 (fun d => ?_) (fun d => ?_)⟩
    · exact ⟨_, rfl, k _ H2 t g12 r2 tg (by omega)⟩
    · exact ⟨_, rfl, b, a, cs, 3, rfl, g12.b1, by omega, by omega, fun v H6 t' g6 r6 tg' em _ => k v H6 t' (g12.trans g6) r6 tg' (by omega)⟩
  · exact ite2 (fun z => by cases z) (fun _ => ⟨_, rfl, b, a, cs, 3, rfl, g12.b1, by omega, by omega, fun v H6 t' g6 r6 tg' em _ => k v H6 t' (g12.trans g6) r6 tg' (by omega)⟩)
end
end K56
set_option Elab.async false
set_option linter.all false
set_option maxRecDepth 100000
set_option maxHeartbeats 4000000
namespace K56
open PySem PySem.Spec PyProof.Rows L2
/-! ### _law_made -/
theorem merge_nodup : ∀ (kvs acc : List (Key × V)), (∀ x ∈ kvs, valV acc x.1 = none) → (kvs.map (·.1)).Nodup → mergeK acc kvs = acc ++ kvs
  | [], acc, _, _ => by simp [mergeK]
  | x :: kvs, acc, h, nd => by
    have nd' := List.nodup_cons.mp (show (x.1 :: kvs.map (·.1)).Nodup from nd)
    have hx := h x (List.mem_cons_self ..)
    have e : mergeK acc (x :: kvs) = mergeK (putK acc x.1 x.2) kvs := rfl
    rw [e, putK_new _ hx, merge_nodup kvs (acc ++ [(x.1, x.2)]) (fun y hy => ?_) nd'.2]
    · simp
    · have q := valV_snoc x.1 y.1 x.2 acc hx
      rw [q, if_neg (fun e => nd'.1 (by rw [← e]; exact List.mem_map_of_mem (f := (·.1)) hy))]
      exact h y (List.mem_cons_of_mem _ hy)
theorem valV_mem {k : Key} {v : V} : ∀ {kvs : List (Key × V)}, (kvs.map (·.1)).Nodup → (k, v) ∈ kvs → valV kvs k = some v
  | [], _, h => by cases h
  | x :: kvs, nd, h => by
    have nd' := List.nodup_cons.mp (show (x.1 :: kvs.map (·.1)).Nodup from nd)
    rcases List.mem_cons.mp h with e | h
    · subst e; exact valV_pos rfl
    · rw [valV_neg (fun e => nd'.1 (by rw [e]; exact List.mem_map_of_mem (f := (·.1)) h))]
      exact valV_mem nd'.2 h
/-- pairs of a kind and a program -/
def pairK (x : Nat × Pg) : D := .tup [.int (x.1 : Int), x.2.d]
theorem pairs_of {K : PySem.W.Frag} {H : Hp} : ∀ {L : List (Nat × Pg)} {ws : List V}, RpL K H ws (L.map pairK) → ∃ (ps : List Addr) (kvs : List (Key × V)), ws = ps.map V.ref ∧ Paired (fun p kv => SqT K H p [kV kv.1, kv.2]) ps kvs ∧ kvs.map (·.1) = L.map (fun x => (Sum.inl (x.1 : Int) : Key)) ∧
    ∀ (i : Nat) (x : Nat × Pg), L[i]? = some x → ∃ v, kvs[i]? = some (.inl (x.1 : Int), v) ∧ Rp K H v x.2.d
  | [], _, .nil => ⟨[], [], rfl, .nil, rfl, fun i x h => by simp at h⟩
  | x :: L, _, .cons h t => by
    obtain ⟨ps, kvs, rfl, h2, h3, h4⟩ := pairs_of t
    obtain ⟨a, vs, rfl, ha, q⟩ := h.tup_inv
    obtain ⟨v1, w1, rfl, r1, q⟩ := q.cons_inv
    obtain ⟨v2, w2, rfl, r2, q⟩ := q.cons_inv
    cases q.nil_inv
    cases r1.int_inv
    refine ⟨a :: ps, (.inl (x.1 : Int), v2) :: kvs, rfl, .cons ha h2, by rw [List.map_cons, List.map_cons, h3], fun i y hy => ?_⟩
    cases i with
    | zero => cases hy; exact ⟨v2, rfl, r2⟩
    | succ i => exact h4 i y (by simpa using hy)
theorem kd_of_pairs {K : PySem.W.Frag} {H : Hp} {L : List (Nat × Pg)} {kvs : List (Key × V)} {m : Nat} {b : Fnd} (hk : kvs.map (·.1) = L.map fun x => (Sum.inl (x.1 : Int) : Key)) (hv : ∀ (i : Nat) (x : Nat × Pg), L[i]? = some x → ∃ v, kvs[i]? = some (.inl (x.1 : Int), v) ∧ Rp K H v x.2.d)
    (nd : (L.map (·.1)).Nodup) (lt : ∀ x ∈ L, x.1 < m) (hb : ∀ k p, b k = some p ↔ (k, p) ∈ L) : KD kvs m (fun v p => Rp K H v p.d) b := by
  have ndk : (kvs.map (·.1)).Nodup := by
    rw [hk]
    have e : (L.map fun x => (Sum.inl (x.1 : Int) : Key)) = (L.map (·.1)).map fun (k : Nat) => (Sum.inl (k : Int) : Key) := by rw [List.map_map]; rfl
    rw [e]
    exact List.pairwise_map.mpr (nd.imp fun {a b} z e => z (Int.ofNat_inj.mp (Sum.inl.inj e)))
  refine ⟨fun x hx => ?_, ndk, fun k hn => ?_, fun k p hp => ?_⟩
  · have q : x.1 ∈ kvs.map (·.1) := List.mem_map_of_mem hx
    rw [hk] at q
    obtain ⟨y, hy, e⟩ := List.mem_map.mp q
    exact ⟨y.1, lt y hy, e.symm⟩
  · cases e : valV kvs (.inl (k : Int)) with
    | none => rfl
    | some v =>
      have q := valV_in e
      rw [hk] at q
      obtain ⟨y, hy, e2⟩ := List.mem_map.mp q
      have e3 : y.1 = k := Int.ofNat_inj.mp (Sum.inl.inj e2)
      have := (hb k y.2).mpr (by rw [← e3]; exact hy)
      rw [hn] at this
      cases this
  · obtain ⟨i, hi, e⟩ := List.getElem_of_mem ((hb k p).mp hp)
    obtain ⟨v, h1, h2⟩ := hv i (k, p) (by rw [List.getElem?_eq_getElem hi, e])
    exact ⟨v, valV_mem ndk (List.mem_of_getElem? h1), h2⟩
theorem madeL_nodup (t : Tb) : (madeL t).Nodup := (List.Pairwise.filter _ List.pairwise_lt_range).imp fun {a b} z => by omega
theorem madeL_len (t : Tb) : (madeL t).length ≤ t.many := by
  have q := List.length_filter_le (fun k => @decide (Made t.ents k) (Classical.propDecidable _)) (List.range t.many)
  rw [List.length_range] at q
  exact q
theorem filt_none {b : Fnd} (l : List Nat) : (l.filter fun k => !(b k).isSome) = [] ↔ ∀ k ∈ l, (b k).isSome = true := by
  rw [List.filter_eq_nil_iff]
  constructor
  · intro h k hk
    have q := h k hk
    cases e : (b k).isSome with
    | true => rfl
    | false => rw [e] at q; exact absurd rfl q
  · intro h k hk q
    rw [h k hk] at q
    cases q
theorem nats_nil {l : List Nat} (h : (l.map fun (n : Nat) => D.int (n : Int)) = []) : l = [] := by
  cases l with
  | nil => rfl
  | cons x l => cases h
/-- programs by kinds, one for each that can be made -/
structure MadeD (K : PySem.W.Frag) (H : Hp) (d : Addr) (t : Tb) (kvs : List (Key × V)) (b : Fnd) : Prop where
  e : H d = some (.dK kvs)
  keys : kvs.map (·.1) = (madeL t).map (fun (k : Nat) => (Sum.inl (k : Int) : Key))
  kd : KD kvs t.many (fun v p => Rp K H v p.d) b
  li : LI t b
  all : ∀ k, (b k).isSome = true ↔ Made t.ents k
def spLMade (K : PySem.W.Frag) : Sp := fun vs H Q _ => ∃ (tv : V) (t : Tb), vs = [tv] ∧ Rp K H tv t.d ∧ t.ok ∧
  ∀ (d : Addr) (kvs : List (Key × V)) (b : Fnd) (H' : Hp), Same H H' → MadeD K H' d t kvs b → Q (.ref d) H'
section
variable {P : Program} {w : World} {K : PySem.W.Frag} {mg : Str → Option Value} {base : Heap}
theorem sc_l_made : FnScope ["_law_table_here", "_law_sizes", "_law_found", "_law_is_more", "_law_sign", "_law_parts", "_law_kind", "_law_size_here", "_law_part"] ["_law_table_here"] (defScope s_l_made) := ⟨rfl, rfl, rfl, by decide +kernel, rfl, by decide +kernel, by decide +kernel⟩
theorem ok_l_made (A : Hd K mg) : Cl P w K mg base "_law_made" ["_law_table_here"] 1 (spLMade K) := by
  obtain ⟨fd, F⟩ := A.f_l_made
  refine Cl.of F A.g_l_made sc_l_made (fun _ _ _ _ _ _ us hl => match us, hl with | [_], _ => rfl) (fun vs H Q E h => (by obtain ⟨tv, t, rfl, rt, tok, k⟩ := h; rfl)) (fun cdv Ar outer s H vs Q E hr h => ?_)
  obtain ⟨tv, t, rfl, rt, tok, k⟩ := h
  refine ⟨_, (pss_cons (ps_asg (pe_tup (pa_cons pe_dnewK (pa_cons pe_dnewK (pa_cons pe_bl pa_nil)))) (pg_tup rfl (pgs_cons (pg_name (i := 1) sc_l_made.nd rfl (.inr rfl)) (pgs_cons (pg_name (i := 2) sc_l_made.nd rfl (.inr rfl)) (pgs_cons (pg_name (i := 3) sc_l_made.nd rfl (.inl rfl)) pgs_nil)))))
  (pss_cons (ps_while PassesOwn.never (pt_val (pv 3) (fun _ => rfl))
  (pss_cons (ps_set (i := 3) sc_l_made.nd rfl (.inl rfl) pe_bl)
  (pss_one (ps_for PassesOwn.never (by rfl) (pi_tup (pe_ix ix_tup (pv 0) pe_int (fun _ _ => rfl))) (pg_tup rfl (pgs_cons (pg_name (i := 4) sc_l_made.nd rfl (.inl rfl)) (pgs_cons (pg_name (i := 5) sc_l_made.nd rfl (.inl rfl)) (pgs_cons (pg_name (i := 6) sc_l_made.nd rfl (.inl rfl)) pgs_nil))))
  (pss_one (ps_if (pt_cmpR (op_eqQ (hu64 hr)) (pe_lcF (own := [("_law_part", 8)]) (by rfl) sc_l_made.nd (pi_tup (pv 5)) (blkOk_by (by rfl)) (fun _ _ _ _ _ => (pg_name (i := 8) sc_l_made.nd rfl (.inl rfl))) (fun _ _ _ _ _ => (pts_one (pt_cmp (pc_dnotin (hu_of hr) (pv 8) (pv 1)) (by with_unfolding_all rfl)))) (fun _ _ _ _ _ => (pv 8))) (pe_lst pa_nil) (nomark _)) (pss_cons (ps_set (i := 7) sc_l_made.nd rfl (.inl rfl) (pe_op op_add pe_int (pe_callB (cr_sum (by rfl)) (by rfl) A.z_sum (by decide +kernel) (pa_cons (pe_lcF (own := [("_law_part", 8)]) (by rfl) sc_l_made.nd (pi_tup (pv 5)) (blkOk_by (by rfl)) (fun _ _ _ _ _ => (pg_name (i := 8) sc_l_made.nd rfl (.inl rfl))) (fun _ _ _ _ _ => pts_nil) (fun _ _ _ _ _ => (pe_dget (hu_of hr) (pv 1) (pv 8) (fun _ _ => rfl)))) pa_nil))))
  (pss_one (ps_if (PW.pt (pw_or (pt_cmp (pc_dnotin (hu_of hr) (pv 6) (pv 1)) (by with_unfolding_all rfl)) (pw_or1 (pt_cmpR op_lt (pv 7) (pe_dget (hu_of hr) (pv 1) (pv 6) (fun _ _ => rfl)) (nomark _))))) (pss_cons (ps_asg (pe_tup (pa_cons (pv 7) (pa_cons pe_bl pa_nil))) (pg_tup rfl (pgs_cons (pg_sub (pv 1) (pv 6) (set_dict (hu_of hr))) (pgs_cons (pg_name (i := 3) sc_l_made.nd rfl (.inl rfl)) pgs_nil))))
  (pss_one (ps_dput (hu_of hr) (pv 2) (pv 6) (pe_op op_catA (pe_tup (pa_cons (pv 4) pa_nil)) (pe_tupleOf (by rfl) A.z_tuple (pe_lcF (own := [("_law_part", 8)]) (by rfl) sc_l_made.nd (pi_tup (pv 5)) (blkOk_by (by rfl)) (fun _ _ _ _ _ => (pg_name (i := 8) sc_l_made.nd rfl (.inl rfl))) (fun _ _ _ _ _ => pts_nil) (fun _ _ _ _ _ => (pe_dget (hu_of hr) (pv 2) (pv 8) (fun _ _ => rfl)))))) rfl))) pss_nil))) pss_nil))))))
  (pss_one (ps_ret (pe_callTy (call_dictP (by rfl)) (by rfl) A.z_dict (by decide +kernel) (pa_cons (pe_lcF (own := [("_law_kind", 6)]) (by rfl) sc_l_made.nd (pi_list (pe_callB (call_sortedDI (by rfl)) (by rfl) A.z_sorted (by decide +kernel) (pa_cons (pv 2) pa_nil))) (blkOk_by (by rfl)) (fun _ _ _ _ _ => (pg_name (i := 6) sc_l_made.nd rfl (.inl rfl))) (fun _ _ _ _ _ => pts_nil) (fun _ _ _ _ _ => (pe_tup (pa_cons (pv 6) (pa_cons (pe_dget (hu_of hr) (pv 2) (pv 6) (fun _ _ => rfl)) pa_nil))))) pa_nil)))))), ?_⟩
  obtain ⟨ta, sa, ea, es, rfl, hta, hsa, hea, re⟩ := tb_inv rt
  have e31 := tok.e31
  have m4 := tok.m4
  have el : es.length = t.ents.length := by rw [re.length, List.length_map]
  refine fun dp hdp fp hfp => ⟨sz3, fun q1 hq1 => ?_⟩
  have ndf : dp ≠ fp := ne_of_none upd_same hfp
  have nf0 : H fp = none := (same_new hdp).free hfp
  have s1 : Same H (upd (upd (upd H dp (.dK [])) fp (.dK [])) q1 (.tup [.ref dp, .ref fp, .bl true])) := (same_new hdp).trans ((same_new hfp).trans (same_new hq1))
  have e1 : (upd (upd (upd H dp (.dK [])) fp (.dK [])) q1 (.tup [.ref dp, .ref fp, .bl true])) dp = some (.dK []) := same_new hq1 _ _ (same_new hfp _ _ upd_same)
  have f1 : (upd (upd (upd H dp (.dK [])) fp (.dK [])) q1 (.tup [.ref dp, .ref fp, .bl true])) fp = some (.dK []) := same_new hq1 _ _ upd_same
  have t1 : (upd (upd (upd H dp (.dK [])) fp (.dK [])) q1 (.tup [.ref dp, .ref fp, .bl true])) q1 = some (.tup [.ref dp, .ref fp, .bl true]) := upd_same
  refine ⟨q1, _, rfl, .of t1, rfl, _, _, rfl, _, _, rfl, _, _, rfl, rfl, ?_⟩
  refine ⟨fun m σ H' => ∃ c4 c5 c6 c7 c8 fl ks fs b, σ = [some (.ref ta), some (.ref dp), some (.ref fp), some (.bl fl), c4, c5, c6, c7, c8] ∧ Same H H' ∧ H' dp = some (.dK ks) ∧ H' fp = some (.dK fs) ∧ KD ks t.many (fun v p => v = .int (p.size : Int)) b ∧ KD fs t.many (fun v p => Rp K H' v p.d) b ∧ LI t b ∧ (fl = false → ∀ e ∈ t.ents, (∀ k ∈ e.parts, (b k).isSome = true) → (b e.kind).isSome = true) ∧
      m = 2 * mu Pg.size 15 b t.many + (if fl = true then 1 else 0),
    ⟨_, _, _, _, _, _, true, [], [], fun _ => none, rfl, s1, e1, f1, KD.nil, KD.nil, LI.nil t, (by intro z; cases z), rfl⟩, ?_⟩
  rintro m σ H' ⟨c4, c5, c6, c7, c8, fl, ks, fs, b0, rfl, s2, e2, f2, kd, kf, li, hcl, rfl⟩
  refine ⟨_, rfl, fl, rfl, ?_⟩
  cases fl with
  | false =>
    refine (ite2 (fun z => by cases z) (fun _ => ?_))
    have dn := li.done (hcl rfl)
    obtain ⟨kk, hk1, hk2, hk3, hk4, hk5, hk6⟩ := kf.list
    refine ⟨_, rfl, fp, fs, kk.map fun (k : Nat) => (k : Int), rfl, .inl f2, by rw [hk1, List.map_map]; rfl, by rw [List.length_map]; omega, fun ys p pm so hp => ?_⟩
    have ey := sorted_made li dn hk2 hk6 pm so
    have s3 := same_new (o := .lst (ys.map V.int)) hp
    refine ⟨p, rfl, ⟨_, .of upd_same⟩, fun Dl hD => ?_⟩
    have ly : ys.length = (madeL t).length := by rw [ey, List.length_map]
    have ml := madeL_len t
    refine lc_map (K := K) (walk_list (K := K) (a := p) (xs := ys.map V.int)) hD (((madeL t).map fun k => (k, (b0 k).getD (.n0 0))).map pairK) (by simp [ly]) (by rw [List.length_map]; omega) (fun H6 s6 => .of (s6 _ _ upd_same)) ?_ ?_
    · rintro i x H3 _ d hd s4 ⟨rfl, hx⟩ Qe hQ
      rw [List.getElem?_map, List.getElem?_map] at hd
      rw [ey, List.getElem?_map, List.getElem?_map] at hx
      cases hm : (madeL t)[i]? with
      | none => rw [hm] at hd; cases hd
      | some kk =>
        rw [hm] at hd hx
        cases hd
        cases hx
        have hmk := (madeL_mem kk).mp (List.mem_of_getElem? hm)
        obtain ⟨pg, hpg⟩ := Option.isSome_iff_exists.mp ((dn kk).mpr hmk.2)
        obtain ⟨v, hv1, hv2⟩ := kf.yes kk pg hpg
        have s34 := s3.trans s4
        refine ⟨rfl, _, rfl, _, rfl, _, rfl, fp, v, rfl, .inl ⟨fs, .inl (kk : Int), .inl (s34 _ _ f2), rfl, hv1.symm⟩, sz2, fun q7 hq7 => ?_⟩
        refine hQ _ _ (same_new hq7) ?_
        show Rp K _ _ (pairK (kk, (b0 kk).getD (.n0 0)))
        rw [hpg]
        exact .tup (.of upd_same) (.cons (.int _) (.one ((hv2.mono (tu_same s34)).mono (tu_same (same_new hq7)))))
    · intro H3 w3 s4 e4 r4
      obtain ⟨ps, kvs, rfl, h2, h3, h4⟩ := pairs_of r4
      have hk : kvs.map (·.1) = (madeL t).map fun (k : Nat) => (Sum.inl (k : Int) : Key) := by rw [h3, List.map_map]; rfl
      have hL1 : (((madeL t).map fun k => (k, (b0 k).getD (.n0 0))).map (·.1)) = madeL t := by rw [List.map_map]; exact List.map_id _
      have kd' := kd_of_pairs (m := t.many) (b := b0) h3 h4 (by rw [hL1]; exact madeL_nodup t) (fun x hx => by
        obtain ⟨k, hk, rfl⟩ := List.mem_map.mp hx
        exact ((madeL_mem k).mp hk).1) (fun k p => by
        constructor
        · intro hp
          refine List.mem_map.mpr ⟨k, (madeL_mem k).mpr ⟨(li.ok k p hp).1, (li.ok k p hp).2.2.1⟩, by rw [hp]; rfl⟩
        · intro hm
          obtain ⟨j, hj, e⟩ := List.mem_map.mp hm
          obtain ⟨rfl, rfl⟩ := Prod.mk.inj e
          obtain ⟨pg, hpg⟩ := Option.isSome_iff_exists.mp ((dn j).mpr ((madeL_mem j).mp hj).2)
          rw [hpg]; rfl)
      refine ⟨Dl, ps, kvs, rfl, .of e4, h2, fun q hq => ?_⟩
      have em : mergeK [] kvs = kvs := by
        have q := merge_nodup kvs [] (fun _ _ => rfl) kd'.nd
        simpa using q
      rw [em]
      have s5 := same_new (o := .dK kvs) hq
      exact k q kvs b0 _ (s2.trans (s3.trans (s4.trans s5))) ⟨upd_same, hk, kd'.mono fun v p r => r.mono (tu_same s5), li, dn⟩
  | true =>
    refine (ite2 (fun _ => ?_) (fun z => absurd rfl z))
    refine ⟨fun σ' H2 => ∃ c4 c5 c6 c7 c8 fl ks fs b, σ' = [some (.ref ta), some (.ref dp), some (.ref fp), some (.bl fl), c4, c5, c6, c7, c8] ∧ Same H H2 ∧ H2 dp = some (.dK ks) ∧ H2 fp = some (.dK fs) ∧ KD ks t.many (fun v p => v = .int (p.size : Int)) b ∧ KD fs t.many (fun v p => Rp K H2 v p.d) b ∧ LI t b ∧
      ((fl = false ∧ b = b0 ∧ ∀ e ∈ t.ents, (∀ k ∈ e.parts, (b0 k).isSome = true) → (b0 e.kind).isSome = true) ∨ (fl = true ∧ mu Pg.size 15 b t.many < mu Pg.size 15 b0 t.many)), ?_, ?_⟩
    · rintro σ' H2 ⟨c4, c5, c6, c7, c8, fl, ks, fs, b, rfl, s3, e3, f3, kd3, kf3, li3, h3⟩
      refine ⟨_, ?_, c4, c5, c6, c7, c8, fl, ks, fs, b, rfl, s3, e3, f3, kd3, kf3, li3, ?_, rfl⟩
      · rcases h3 with ⟨rfl, rfl, _⟩ | ⟨rfl, h⟩
        · simp
        · simp; omega
      · rintro rfl
        rcases h3 with ⟨_, rfl, h⟩ | ⟨h, _⟩
        · exact h
        · cases h
    refine ⟨_, rfl, ta, _, _, _, rfl, rfl, (tu_same s2).sq hta, atI_nat (j := 2) rfl, ea, rfl, ⟨_, (tu_same s2).sq hea⟩, ?_⟩
    refine for_tup (K := K) (a := ea) (xs := es) (fun i σ' H2 => ∃ c4 c5 c6 c7 c8 fl ks fs b, σ' = [some (.ref ta), some (.ref dp), some (.ref fp), some (.bl fl), c4, c5, c6, c7, c8] ∧ Same H H2 ∧ H2 dp = some (.dK ks) ∧ H2 fp = some (.dK fs) ∧ KD ks t.many (fun v p => v = .int (p.size : Int)) b ∧ KD fs t.many (fun v p => Rp K H2 v p.d) b ∧ LI t b ∧
      ((fl = false ∧ b = b0 ∧ ∀ j, j < i → ∀ e, t.ents[j]? = some e → (∀ k ∈ e.parts, (b0 k).isSome = true) → (b0 e.kind).isSome = true) ∨ (fl = true ∧ mu Pg.size 15 b t.many < mu Pg.size 15 b0 t.many)))
      ⟨_, _, _, _, _, false, ks, fs, b0, rfl, s2, e2, f2, kd, kf, li, .inl ⟨rfl, rfl, fun j hj => absurd hj (Nat.not_lt_zero _)⟩⟩ (fun i σ' H2 _ ⟨_, _, _, _, _, _, _, _, _, _, e, _⟩ => (tu_same e).sq hea) ?_ ?_
    · clear e2 f2 kd kf li s2
      rintro i x σ' H2 hx ⟨c4, c5, c6, c7, c8, fl, ks, fs, b, rfl, s2, e2, f2, kd, kf, li, alt⟩
      obtain ⟨d, hdd, rd⟩ := (re.mono (tu_same s2)).get' hx
      rw [List.getElem?_map] at hdd
      cases he : t.ents[i]? with
      | none => rw [he] at hdd; cases hdd
      | some e =>
        rw [he] at hdd
        cases hdd
        have hem := List.mem_of_getElem? he
        have eok := tok.en e hem
        have pl : e.parts.length ≤ 2 := tok.sg _ (List.mem_of_getElem? eok.ar)
        obtain ⟨a, p, rfl, ha, hp⟩ := en_inv rd
        refine ⟨a, _, rfl, ha, rfl, _, _, rfl, _, _, rfl, _, _, rfl, rfl, ?_⟩
        refine ⟨_, rfl, p, rfl, ⟨_, hp⟩, fun Dl hD => ?_⟩
        refine lc_same (K := K) (walk_tup (K := K) (a := p) (xs := e.parts.map fun (n : Nat) => V.int (n : Int))) hD (fun i ds => ds = ((e.parts.take i).filter fun k => !(b k).isSome).map fun (n : Nat) => D.int (n : Int)) (by rw [List.length_map]; omega) (fun H6 s6 => (tu_same s6).sq hp) rfl ?_ ?_
        · rintro j y H3 _ ds hj s3 ⟨rfl, hy⟩ hds Qe Qn he hn
          rw [List.getElem?_map] at hy
          cases hk : e.parts[j]? with
          | none => rw [hk] at hy; cases hy
          | some kk =>
            rw [hk] at hy
            cases hy
            subst hds
            refine ⟨rfl, _, rfl, _, rfl, dp, _, rfl, .inl ⟨ks, .inl (kk : Int), .inl (s3 _ _ e2), rfl, rfl⟩, ?_⟩
            refine ⟨_, rfl, ?_⟩
            rw [kd.some kk]
            cases hb : (b kk).isSome with
            | true =>
              refine ite2 (fun z => by cases z) (fun _ => hn _ (Same.refl _) ?_)
              rw [take_snoc hk, List.filter_append, List.map_append, List.filter_cons_of_neg (by rw [hb]; decide)]
              exact (List.append_nil _).symm
            | false =>
              refine ite2 (fun _ => ⟨_, rfl, he _ (.int (kk : Int)) _ (Same.refl _) (.int _) ?_⟩) (fun z => absurd rfl z)
              rw [take_snoc hk, List.filter_append, List.map_append, List.filter_cons_of_pos (by rw [hb]; rfl)]
              rfl
        intro H3 w3 ds s3 e3 r3 hds _
        subst hds
        rw [List.length_map, List.take_length] at r3
        refine ⟨sz0, fun q4 hq4 => ?_⟩
        have s4 := same_new (o := .lst []) hq4
        refine .inr ⟨Dl, q4, w3, [], _, [], rfl, rfl, .of (s4 _ _ e3), .of upd_same, r3.mono (tu_same s4), .nil, by rw [nats_dep]; omega, by simp [D.pys, PyData.depthAll], _, rfl, ite2 (fun z => ?_) (fun z => ?_)⟩
        rotate_left
        · have s34 := s3.trans s4
          refine ⟨_, _, _, _, _, fl, ks, fs, b, rfl, s2.trans s34, s34 _ _ e2, s34 _ _ f2, kd, kf.mono fun v p r => r.mono (tu_same s34), li, ?_⟩
          rcases alt with ⟨a1, a2, a3⟩ | h
          · refine .inl ⟨a1, a2, fun j hj e' he' hall => ?_⟩
            by_cases c : j < i
            · exact a3 j c e' he' hall
            · have ej : j = i := by omega
              rw [ej, he] at he'
              cases he'
              refine absurd ?_ z
              rw [a2]
              exact (Bool.false_xor _).trans (decide_eq_true (congrArg (List.map fun (n : Nat) => D.int (n : Int)) ((filt_none e.parts).mpr hall)))
          · exact .inr h
        have hall : ∀ k ∈ e.parts, (b k).isSome = true := (filt_none _).mp (nats_nil (of_decide_eq_true ((Bool.false_xor _).symm.trans z)))
        obtain ⟨qs, hq1, hq2⟩ := parts_fnd e.parts hall
        have s34 := s3.trans s4
        have kf4 := kf.mono (R' := fun v p => Rp K (upd H3 q4 (.lst [])) v p.d) fun v p r => r.mono (tu_same s34)
        have e24 := s34 _ _ e2
        have f24 := s34 _ _ f2
        have s24 := s2.trans s34
        have hp4 := (tu_same s34).sq hp
        generalize upd H3 q4 (.lst []) = H4 at s4 s34 kf4 e24 f24 s24 hp4
        clear z kf e2 f2 e3 s2 hp s3 s4 s34 hq4 r3
        -- size
        refine ⟨_, rfl, p, rfl, ⟨_, hp4⟩, fun D2 hD2 => ?_⟩
        refine lc_vals (walk_tup (K := K) (a := p) (xs := e.parts.map fun (n : Nat) => V.int (n : Int))) hD2 (qs.map fun q => V.int (q.size : Int)) (by simp [hq1]) (by rw [List.length_map]; omega) (fun H6 s6 => (tu_same s6).sq hp4) ?_ ?_
        · rintro j y H5 _ v hv s5 ⟨rfl, hy⟩ Qe hQ
          rw [List.getElem?_map] at hy hv
          cases hk : e.parts[j]? with
          | none => rw [hk] at hy; cases hy
          | some kk =>
            cases hqj : qs[j]? with
            | none => rw [hqj] at hv; cases hv
            | some q =>
              rw [hk] at hy
              rw [hqj] at hv
              cases hy
              cases hv
              obtain ⟨v, hv1, rfl⟩ := kd.yes kk q (hq2 j kk q hk hqj)
              exact ⟨rfl, _, rfl, _, rfl, dp, _, rfl, .inl ⟨ks, .inl (kk : Int), .inl (s5 _ _ e24), rfl, hv1.symm⟩, hQ _ (Same.refl _)⟩
        intro H5 s5 e5
        refine ⟨D2, qs.map fun q => (q.size : Int), rfl, .of (by rw [List.map_map]; exact e5), _, _, rfl, rfl, ?_⟩
        have hsz := mkP_size e.sign qs (by omega)
        dsimp only
        rw [← hsz]
        have e25 := s5 _ _ e24
        have f25 := s5 _ _ f24
        have s25 := s24.trans s5
        have kf5 := kf4.mono (R' := fun v p => Rp K H5 v p.d) fun v p r => r.mono (tu_same s5)
        have hp5 := (tu_same s5).sq hp4
        clear kf4 e24 f24 s24 hp4 hD2 e5 s5
        have few : ks.length ≤ t.many := by
          obtain ⟨ks, _, _, _, h4, h5, _⟩ := kd.list
          omega
        have fewf : fs.length ≤ t.many := by
          obtain ⟨ks, _, _, _, h4, h5, _⟩ := kf5.list
          omega
        have stay : (∀ p, b e.kind = some p → True) → (b e.kind).isSome = true → ((fl = false ∧ b = b0 ∧ ∀ j, j < i + 1 → ∀ e, t.ents[j]? = some e → (∀ k ∈ e.parts, (b0 k).isSome = true) → (b0 e.kind).isSome = true) ∨ (fl = true ∧ mu Pg.size 15 b t.many < mu Pg.size 15 b0 t.many)) := fun _ hb => by
          rcases alt with ⟨a1, a2, a3⟩ | h
          · refine .inl ⟨a1, a2, fun j hj e' he' hall' => ?_⟩
            by_cases c : j < i
            · exact a3 j c e' he' hall'
            · have ej : j = i := by omega
              rw [ej, he] at he'
              cases he'
              rw [← a2]
              exact hb
          · exact .inr h
        have put : (∀ p, b e.kind = some p → (mkP e.sign qs).size < p.size) → LI t (putF' b e.kind (mkP e.sign qs)) ∧ mu Pg.size 15 (putF' b e.kind (mkP e.sign qs)) t.many < mu Pg.size 15 b0 t.many := fun hlt => by
          obtain ⟨ok1, li1⟩ := li.put tok hem hq1 hq2 fun p hp => Nat.le_of_lt (hlt p hp)
          refine ⟨li1, ?_⟩
          have sz15 : (mkP e.sign qs).size ≤ 15 := li1.size tok (k := e.kind) (by unfold putF'; rw [if_pos rfl])
          have m1 : mu Pg.size 15 (putF' b e.kind (mkP e.sign qs)) t.many < mu Pg.size 15 b t.many := mu_lt eok.kd sz15 hlt
          rcases alt with ⟨_, a2, _⟩ | ⟨_, h⟩
          · rw [← a2]; exact m1
          · omega
        refine ⟨_, rfl, _, rfl, dp, _, rfl, .inl ⟨ks, .inl (e.kind : Int), .inl e25, rfl, rfl⟩, _, rfl, ?_⟩
        rw [kd.some]
        cases hb : b e.kind with
        | none =>
          obtain ⟨g2, g3⟩ := put fun p hp => by rw [hb] at hp; cases hp
          refine ite2 (fun _ => ?_) (fun z => absurd rfl z)
          · refine ⟨_, rfl, sz2, fun q8 hq8 => ?_⟩
            have s8 := same_new (o := .tup [.int ((mkP e.sign qs).size : Int), .bl true]) hq8
            have e28 := s8 _ _ e25
            have f28 := s8 _ _ f25
            refine ⟨q8, _, rfl, .of upd_same, rfl, _, _, rfl, _, rfl, _, rfl, dp, _, rfl, DPut.k (k := .inl (e.kind : Int)) e28 (sz_lt (by omega)), _, _, rfl, rfl, ?_⟩
            try dsimp only
            have kf8 := kf5.mono (R' := fun v p => Rp K (upd H5 q8 (.tup [.int ((mkP e.sign qs).size : Int), .bl true])) v p.d) fun v p r => r.mono (tu_same s8)
            have t9 : Tu (upd H5 q8 (.tup [.int ((mkP e.sign qs).size : Int), .bl true])) (upd (upd H5 q8 (.tup [.int ((mkP e.sign qs).size : Int), .bl true])) dp (.dK (putK ks (.inl (e.kind : Int)) (.int ((mkP e.sign qs).size : Int))))) := tu_upd e28 rfl
            have e29 : (upd (upd H5 q8 (.tup [.int ((mkP e.sign qs).size : Int), .bl true])) dp (.dK (putK ks (.inl (e.kind : Int)) (.int ((mkP e.sign qs).size : Int))))) dp = _ := upd_same
            have f29 : (upd (upd H5 q8 (.tup [.int ((mkP e.sign qs).size : Int), .bl true])) dp (.dK (putK ks (.inl (e.kind : Int)) (.int ((mkP e.sign qs).size : Int))))) fp = some (.dK fs) := by rw [upd_ne ndf.symm]; exact f28
            have s29 : Same H (upd (upd H5 q8 (.tup [.int ((mkP e.sign qs).size : Int), .bl true])) dp (.dK (putK ks (.inl (e.kind : Int)) (.int ((mkP e.sign qs).size : Int))))) := same_mut (s25.trans s8) hdp
            have hp9 := t9.sq ((tu_same s8).sq hp5)
            generalize upd (upd H5 q8 (.tup [.int ((mkP e.sign qs).size : Int), .bl true])) dp (.dK (putK ks (.inl (e.kind : Int)) (.int ((mkP e.sign qs).size : Int)))) = H9 at t9 e29 f29 s29 hp9
            have kf9 := kf8.mono (R' := fun v p => Rp K H9 v p.d) fun v p r => r.mono t9
            refine ⟨_, rfl, sz1, fun q10 hq10 => ?_⟩
            have s10 := same_new (o := .tup [.int (e.sign : Int)]) hq10
            have e10 : (upd H9 q10 (.tup [.int (e.sign : Int)])) q10 = some (.tup [.int (e.sign : Int)]) := upd_same
            have hp10 := (tu_same s10).sq hp9
            refine ⟨_, rfl, p, rfl, ⟨_, hp10⟩, fun D3 hD3 => ?_⟩
            refine lc_map (K := K) (walk_tup (K := K) (a := p) (xs := e.parts.map fun (n : Nat) => V.int (n : Int))) hD3 (qs.map Pg.d) (by simp [hq1]) (by rw [List.length_map]; omega) (fun H6 s6 => (tu_same s6).sq hp10) ?_ ?_
            · rintro j y H6 _ v hv s6 ⟨rfl, hy⟩ Qe hQ
              rw [List.getElem?_map] at hy hv
              cases hk : e.parts[j]? with
              | none => rw [hk] at hy; cases hy
              | some kk =>
                cases hqj : qs[j]? with
                | none => rw [hqj] at hv; cases hv
                | some q =>
                  rw [hk] at hy
                  rw [hqj] at hv
                  cases hy
                  cases hv
                  obtain ⟨v, hv1, hv2⟩ := kf9.yes kk q (hq2 j kk q hk hqj)
                  have s106 := s10.trans s6
                  exact ⟨rfl, _, rfl, _, rfl, fp, v, rfl, .inl ⟨fs, .inl (kk : Int), .inl (s106 _ _ f29), rfl, hv1.symm⟩, hQ _ _ (Same.refl _) (hv2.mono (tu_same s106))⟩
            intro H6 w6 s6 e6 r6
            have w6l : w6.length ≤ 2 := by rw [r6.length, List.length_map]; omega
            refine .inl ⟨D3, w6, rfl, .of e6, fun q11 hq11 => ?_⟩
            have s11 := same_new (o := .tup w6) hq11
            refine rCatA_of (.of (s11 _ _ (s6 _ _ e10))) (.of upd_same) (sz_ok (by simp only [List.length_singleton]; omega)) fun q12 H12 s12 e12 => ?_
            have s912 := s10.trans (s6.trans (s11.trans s12))
            have rnew : Rp K H12 (.ref q12) (mkP e.sign qs).d := by
              rw [mkP_d e.sign qs (by omega)]
              exact .tup e12 (.cons (.int _) (r6.mono (tu_same (s11.trans s12))))
            have f12 := s912 _ _ f29
            have t13 : Tu H12 (upd H12 fp (.dK (putK fs (.inl (e.kind : Int)) (.ref q12)))) := tu_upd f12 rfl
            exact ⟨_, rfl, _, rfl, fp, _, rfl, DPut.k (k := .inl (e.kind : Int)) f12 (sz_lt (by omega)), _, _, _, _, _, true, _, _, putF' b e.kind (mkP e.sign qs), rfl, same_mut (s29.trans s912) nf0, by rw [upd_ne ndf]; exact s912 _ _ e29, upd_same, kd.put eok.kd rfl, (kf9.mono fun v p r => (r.mono (tu_same s912)).mono t13).put eok.kd (rnew.mono t13), g2, .inr ⟨rfl, g3⟩⟩

        | some pb =>
          refine ite2 (fun z => by cases z) (fun _ => ?_)
          obtain ⟨v, hv1, rfl⟩ := kd.yes e.kind pb hb
          refine ⟨_, rfl, _, rfl, _, rfl, dp, _, rfl, .inl ⟨ks, .inl (e.kind : Int), .inl e25, rfl, hv1.symm⟩, _, _, rfl, rfl, _, rfl, ite2 (fun z => ?_) (fun z => ?_)⟩
          · have zl := of_decide_eq_true z
            obtain ⟨g2, g3⟩ := put fun p hp => by
              rw [hb] at hp
              cases hp
              omega
            refine ⟨_, rfl, sz2, fun q8 hq8 => ?_⟩
            have s8 := same_new (o := .tup [.int ((mkP e.sign qs).size : Int), .bl true]) hq8
            have e28 := s8 _ _ e25
            have f28 := s8 _ _ f25
            refine ⟨q8, _, rfl, .of upd_same, rfl, _, _, rfl, _, rfl, _, rfl, dp, _, rfl, DPut.k (k := .inl (e.kind : Int)) e28 (sz_lt (by omega)), _, _, rfl, rfl, ?_⟩
            try dsimp only
            have kf8 := kf5.mono (R' := fun v p => Rp K (upd H5 q8 (.tup [.int ((mkP e.sign qs).size : Int), .bl true])) v p.d) fun v p r => r.mono (tu_same s8)
            have t9 : Tu (upd H5 q8 (.tup [.int ((mkP e.sign qs).size : Int), .bl true])) (upd (upd H5 q8 (.tup [.int ((mkP e.sign qs).size : Int), .bl true])) dp (.dK (putK ks (.inl (e.kind : Int)) (.int ((mkP e.sign qs).size : Int))))) := tu_upd e28 rfl
            have e29 : (upd (upd H5 q8 (.tup [.int ((mkP e.sign qs).size : Int), .bl true])) dp (.dK (putK ks (.inl (e.kind : Int)) (.int ((mkP e.sign qs).size : Int))))) dp = _ := upd_same
            have f29 : (upd (upd H5 q8 (.tup [.int ((mkP e.sign qs).size : Int), .bl true])) dp (.dK (putK ks (.inl (e.kind : Int)) (.int ((mkP e.sign qs).size : Int))))) fp = some (.dK fs) := by rw [upd_ne ndf.symm]; exact f28
            have s29 : Same H (upd (upd H5 q8 (.tup [.int ((mkP e.sign qs).size : Int), .bl true])) dp (.dK (putK ks (.inl (e.kind : Int)) (.int ((mkP e.sign qs).size : Int))))) := same_mut (s25.trans s8) hdp
            have hp9 := t9.sq ((tu_same s8).sq hp5)
            generalize upd (upd H5 q8 (.tup [.int ((mkP e.sign qs).size : Int), .bl true])) dp (.dK (putK ks (.inl (e.kind : Int)) (.int ((mkP e.sign qs).size : Int)))) = H9 at t9 e29 f29 s29 hp9
            have kf9 := kf8.mono (R' := fun v p => Rp K H9 v p.d) fun v p r => r.mono t9
            refine ⟨_, rfl, sz1, fun q10 hq10 => ?_⟩
            have s10 := same_new (o := .tup [.int (e.sign : Int)]) hq10
            have e10 : (upd H9 q10 (.tup [.int (e.sign : Int)])) q10 = some (.tup [.int (e.sign : Int)]) := upd_same
            have hp10 := (tu_same s10).sq hp9
            refine ⟨_, rfl, p, rfl, ⟨_, hp10⟩, fun D3 hD3 => ?_⟩
            refine lc_map (K := K) (walk_tup (K := K) (a := p) (xs := e.parts.map fun (n : Nat) => V.int (n : Int))) hD3 (qs.map Pg.d) (by simp [hq1]) (by rw [List.length_map]; omega) (fun H6 s6 => (tu_same s6).sq hp10) ?_ ?_
            · rintro j y H6 _ v hv s6 ⟨rfl, hy⟩ Qe hQ
              rw [List.getElem?_map] at hy hv
              cases hk : e.parts[j]? with
              | none => rw [hk] at hy; cases hy
              | some kk =>
                cases hqj : qs[j]? with
                | none => rw [hqj] at hv; cases hv
                | some q =>
                  rw [hk] at hy
                  rw [hqj] at hv
                  cases hy
                  cases hv
                  obtain ⟨v, hv1, hv2⟩ := kf9.yes kk q (hq2 j kk q hk hqj)
                  have s106 := s10.trans s6
                  exact ⟨rfl, _, rfl, _, rfl, fp, v, rfl, .inl ⟨fs, .inl (kk : Int), .inl (s106 _ _ f29), rfl, hv1.symm⟩, hQ _ _ (Same.refl _) (hv2.mono (tu_same s106))⟩
            intro H6 w6 s6 e6 r6
            have w6l : w6.length ≤ 2 := by rw [r6.length, List.length_map]; omega
            refine .inl ⟨D3, w6, rfl, .of e6, fun q11 hq11 => ?_⟩
            have s11 := same_new (o := .tup w6) hq11
            refine rCatA_of (.of (s11 _ _ (s6 _ _ e10))) (.of upd_same) (sz_ok (by simp only [List.length_singleton]; omega)) fun q12 H12 s12 e12 => ?_
            have s912 := s10.trans (s6.trans (s11.trans s12))
            have rnew : Rp K H12 (.ref q12) (mkP e.sign qs).d := by
              rw [mkP_d e.sign qs (by omega)]
              exact .tup e12 (.cons (.int _) (r6.mono (tu_same (s11.trans s12))))
            have f12 := s912 _ _ f29
            have t13 : Tu H12 (upd H12 fp (.dK (putK fs (.inl (e.kind : Int)) (.ref q12)))) := tu_upd f12 rfl
            exact ⟨_, rfl, _, rfl, fp, _, rfl, DPut.k (k := .inl (e.kind : Int)) f12 (sz_lt (by omega)), _, _, _, _, _, true, _, _, putF' b e.kind (mkP e.sign qs), rfl, same_mut (s29.trans s912) nf0, by rw [upd_ne ndf]; exact s912 _ _ e29, upd_same, kd.put eok.kd rfl, (kf9.mono fun v p r => (r.mono (tu_same s912)).mono t13).put eok.kd (rnew.mono t13), g2, .inr ⟨rfl, g3⟩⟩

          · exact ⟨_, _, _, _, _, fl, ks, fs, b, rfl, s25, e25, f25, kd, kf5, li, stay (fun _ _ => trivial) (by rw [hb]; rfl)⟩
    · rintro σ' H4 ⟨c4, c5, c6, c7, c8, fl, ks, fs, b, rfl, s3, e3, f3, kd3, kf3, li3, alt⟩
      refine ⟨c4, c5, c6, c7, c8, fl, ks, fs, b, rfl, s3, e3, f3, kd3, kf3, li3, ?_⟩
      rcases alt with ⟨a1, a2, a3⟩ | h
      · refine .inl ⟨a1, a2, fun e he => ?_⟩
        obtain ⟨j, hj, e1⟩ := List.getElem_of_mem he
        exact a3 j (by rw [el]; exact hj) e (by rw [List.getElem?_eq_getElem hj, e1])
      · exact .inr h
end
end K56
set_option Elab.async false
set_option linter.all false
set_option maxRecDepth 100000
set_option maxHeartbeats 4000000
namespace K56
open PySem PySem.Spec PyProof.Rows L2
/-! ### _law_size, _law_counts -/
def spSize (K : PySem.W.Frag) (h : Nat) : Sp := fun vs H Q _ => ∃ (v : V) (p : Pg), vs = [v] ∧ Rp K H v p.d ∧ p.height < h ∧ ∀ H', Same H H' → Q (.int (p.size : Int)) H'
def spLCounts (K : PySem.W.Frag) (h : Nat) : Sp := fun vs H Q _ => ∃ (tv pv : V) (t : Tb) (p : Pg), vs = [tv, pv] ∧ Rp K H tv t.d ∧ t.ok ∧ Rp K H pv p.d ∧ p.ok t.signs ∧ p.height < h ∧ p.size ≤ 1100 ∧ ∀ (v : V) (H' : Hp), Same H H' → Rp K H' v (natD (cntL t p)) → Q v H'
theorem size_parts (p : Pg) : (p.size : Int) = 1 + (p.parts.map fun q => (q.size : Int)).sum := by cases p <;> simp [Pg.size, Pg.parts]
section
variable {P : Program} {w : World} {K : PySem.W.Frag} {mg : Str → Option Value} {base : Heap}
theorem sc_l_size : FnScope ["_law_program_here", "_law_part"] ["_law_program_here"] (defScope s_l_size) := ⟨rfl, rfl, rfl, by decide +kernel, rfl, by decide +kernel, by decide +kernel⟩
theorem ok_l_size (A : Hd K mg) : ∀ h : Nat, Cl P w K mg base "_law_size" ["_law_program_here"] (h + 1) (spSize K h) := by
  intro h
  induction h with
  | zero =>
    obtain ⟨fd, F⟩ := A.f_l_size
    refine Cl.of F A.g_l_size sc_l_size (fun _ _ _ _ _ _ us hl => match us, hl with | [_], _ => rfl) (fun vs H Q E h => (by obtain ⟨v, p, rfl, _⟩ := h; rfl)) (fun cdv Ar outer s H vs Q E hr h => ?_)
    obtain ⟨v, p, rfl, r, hh, _⟩ := h
    exact absurd hh (Nat.not_lt_zero _)
  | succ n ih =>
    obtain ⟨fd, F⟩ := A.f_l_size
    refine Cl.of F A.g_l_size sc_l_size (fun _ _ _ _ _ _ us hl => match us, hl with | [_], _ => rfl) (fun vs H Q E h => (by obtain ⟨v, p, rfl, _⟩ := h; rfl)) (fun cdv Ar outer s H vs Q E hr h => ?_)
    obtain ⟨v, p, rfl, r, hh, k⟩ := h
    refine ⟨_, (pss_one (ps_ret (pe_ifExp (pt_cmpR op_notN (pv 0) pe_non (nomark _)) (pe_op op_add pe_int (pe_callB (cr_sum (by rfl)) (by rfl) A.z_sum (by decide +kernel) (pa_cons (pe_lcF (own := [("_law_part", 1)]) (by rfl) sc_l_size.nd (pi_tup (pe_slice sl_tupA (pv 0) (po_some pe_int) po_none)) (blkOk_by (by rfl)) (fun _ _ _ _ _ => (pg_name (i := 1) sc_l_size.nd rfl (.inl rfl))) (fun _ _ _ _ _ => pts_nil) (fun _ _ _ _ _ => (pe_cl ih (hr.mono (Nat.le_refl _)) (by rfl) (pa_cons (pv 1) pa_nil)))) pa_nil))) pe_int))), ?_⟩
    obtain ⟨a, xs, rfl, ha, rx⟩ := pg_inv r
    refine ⟨_, rfl, rfl, _, rfl, ite2 (fun _ => ?_) (fun z => absurd (by simp) z)⟩
    refine ⟨_, rfl, 1, rfl, a, _, rfl, ha, fun q => absurd q (cut_tail_ne _ _), fun _ p3 hp3 => ?_⟩
    rw [cut_tail]
    have s1 := same_new (o := .tup xs) hp3
    have hl2 : p.parts.length ≤ 2 := by cases p <;> simp [Pg.parts]
    have xl : xs.length = p.parts.length := by rw [rx.length, List.length_map]
    refine ⟨p3, rfl, ⟨_, .of upd_same⟩, fun Dl hD => ?_⟩
    refine lc_vals (walk_tup (K := K) (a := p3) (xs := xs)) hD (p.parts.map fun q => V.int (q.size : Int)) (by simp [xl]) (by omega) (fun H6 s6 => .of (s6 _ _ upd_same)) ?_ ?_
    · rintro j y H3 _ v hv s3 ⟨rfl, hy⟩ Qe hQ
      obtain ⟨d, hd, rd⟩ := (rx.mono (tu_same (s1.trans s3))).get' hy
      rw [List.getElem?_map] at hd hv
      cases hq : p.parts[j]? with
      | none => rw [hq] at hd; cases hd
      | some q =>
        rw [hq] at hd hv
        cases hd
        cases hv
        have := (parts_height (List.mem_of_getElem? hq)).1
        exact ⟨rfl, _, rfl, y, q, rfl, rd, by omega, fun H' s' => hQ _ s'⟩
    intro H3 s3 e3
    refine ⟨Dl, p.parts.map fun q => (q.size : Int), rfl, .of (by rw [List.map_map]; exact e3), _, _, rfl, rfl, ?_⟩
    try dsimp only
    rw [← size_parts p]
    exact k _ (s1.trans s3)
theorem sc_l_counts : FnScope ["_law_table_here", "_law_program_here", "_law_found", "_law_its", "_law_sign", "_law_parts", "_law_kind", "_law_many", "_law_part", "_law_at"] ["_law_table_here", "_law_program_here"] (defScope s_l_counts) := ⟨rfl, rfl, rfl, by decide +kernel, rfl, by decide +kernel, by decide +kernel⟩
theorem ok_l_counts (A : Hd K mg) : ∀ h : Nat, Cl P w K mg base "_law_counts" ["_law_table_here", "_law_program_here"] (h + 1) (spLCounts K h) := by
  intro h
  induction h with
  | zero =>
    obtain ⟨fd, F⟩ := A.f_l_counts
    refine Cl.of F A.g_l_counts sc_l_counts (fun _ _ _ _ _ _ us hl => match us, hl with | [_, _], _ => rfl) (fun vs H Q E h => (by obtain ⟨tv, pv, t, p, rfl, _⟩ := h; rfl)) (fun cdv Ar outer s H vs Q E hr h => ?_)
    obtain ⟨tv, pw, t, p, rfl, _, _, _, _, hh, _⟩ := h
    exact absurd hh (Nat.not_lt_zero _)
  | succ n ih =>
    obtain ⟨fd, F⟩ := A.f_l_counts
    refine Cl.of F A.g_l_counts sc_l_counts (fun _ _ _ _ _ _ us hl => match us, hl with | [_, _], _ => rfl) (fun vs H Q E h => (by obtain ⟨tv, pv, t, p, rfl, _⟩ := h; rfl)) (fun cdv Ar outer s H vs Q E hr h => ?_)
    obtain ⟨tv, pw, t, p, rfl, rt, tok, rp, pok, hh, hz, k⟩ := h
    refine ⟨_, (pss_cons (ps_par (i := 2) (j := 3) (by rfl) sc_l_counts.nd rfl rfl (by decide) rfl rfl (pa_cons (pe_op op_rep (pe_lst (pa_cons pe_int pa_nil)) (pe_ix ix_tup (pv 0) pe_int (fun _ _ => rfl))) (pa_cons (pe_lcF (own := [("_law_part", 8)]) (by rfl) sc_l_counts.nd (pi_tup (pe_slice sl_tupA (pv 1) (po_some pe_int) po_none)) (blkOk_by (by rfl)) (fun _ _ _ _ _ => (pg_name (i := 8) sc_l_counts.nd rfl (.inl rfl))) (fun _ _ _ _ _ => pts_nil) (fun _ _ _ _ _ => (pe_cl ih (hr.mono (Nat.le_refl _)) (by rfl) (pa_cons (pv 0) (pa_cons (pv 8) pa_nil))))) pa_nil)) rfl)
  (pss_cons (ps_for PassesOwn.never (by rfl) (pi_tup (pe_ix ix_tup (pv 0) pe_int (fun _ _ => rfl))) (pg_tup rfl (pgs_cons (pg_name (i := 4) sc_l_counts.nd rfl (.inl rfl)) (pgs_cons (pg_name (i := 5) sc_l_counts.nd rfl (.inl rfl)) (pgs_cons (pg_name (i := 6) sc_l_counts.nd rfl (.inl rfl)) pgs_nil))))
  (pss_one (ps_if (pt_cmpR op_eq (pv 4) (pe_ix ix_tup (pv 1) pe_int (fun _ _ => rfl)) (nomark _)) (pss_cons (ps_set (i := 7) sc_l_counts.nd rfl (.inl rfl) pe_int)
  (pss_cons (ps_for PassesOwn.never (by rfl) (pi_enumT (by rfl) A.z_enumerate (pa_cons (pv 5) pa_nil)) (pg_tup rfl (pgs_cons (pg_name (i := 9) sc_l_counts.nd rfl (.inl rfl)) (pgs_cons (pg_name (i := 8) sc_l_counts.nd rfl (.inl rfl)) pgs_nil)))
  (pss_one (ps_set (i := 7) sc_l_counts.nd rfl (.inl rfl) (pe_op op_mulW (pv 7) (pe_ix ix_tup (pe_ix ix_list (pv 3) (pv 9) (fun _ _ => rfl)) (pv 8) (fun _ _ => rfl))))))
  (pss_one (ps_augS (pv 2) (pv 6) get_list (pv 7) ip_add set_list)))) pss_nil)))
  (pss_one (ps_ret (pe_tupleOf (by rfl) A.z_tuple (pv 2)))))), ?_⟩
    obtain ⟨ta, sa, ea, es, rfl, hta, hsa, hea, re⟩ := tb_inv rt
    obtain ⟨a, xs, rfl, ha, rx⟩ := pg_inv rp
    have m4 := tok.m4
    have hl2 : p.parts.length ≤ 2 := by cases p <;> simp [Pg.parts]
    have el : es.length = t.ents.length := by rw [re.length, List.length_map]
    have xl : xs.length = p.parts.length := by rw [rx.length, List.length_map]
    refine ⟨sz1, fun b1 hb1 => ?_⟩
    have s1 := same_new (o := .lst [V.int 0]) hb1
    refine ⟨_, rfl, ta, _, 0, _, rfl, rfl, (tu_same s1).sq hta, atI_nat (j := 0) rfl, b1, _, _, rfl, rfl, upd_same, by omega, by omega, ?_, fun b2 hb2 => ?_⟩
    · simp only [List.length_singleton, Int.toNat_natCast]
      exact sz_ok (by omega)
    have s2 := s1.trans (same_new (o := .lst (List.replicate ((t.many : Int)).toNat [V.int 0]).flatten) hb2)
    have eb2 : (upd (upd H b1 (.lst [V.int 0])) b2 (.lst (List.replicate ((t.many : Int)).toNat [V.int 0]).flatten)) b2 = some (.lst (ledL [] p.sign (p.parts.map (cnt t.ents)) t.many)) := by
      rw [upd_same, Int.toNat_natCast, rep_zero, ledL_nil p.sign (p.parts.map (cnt t.ents))]
    have n20 : H b2 = none := s1.free hb2
    try dsimp only
    generalize upd (upd H b1 (.lst [V.int 0])) b2 (.lst (List.replicate ((t.many : Int)).toNat [V.int 0]).flatten) = H2 at s2 eb2
    clear s1 hb1 hb2
    refine ⟨_, rfl, 1, rfl, a, _, rfl, (tu_same s2).sq ha, fun q => absurd q (cut_tail_ne _ _), fun _ p3 hp3 => ?_⟩
    rw [cut_tail]
    have s3 := s2.trans (same_new (o := .tup xs) hp3)
    have eb3 : (upd H2 p3 (.tup xs)) b2 = _ := same_new hp3 _ _ eb2
    refine ⟨p3, rfl, ⟨_, .of upd_same⟩, fun Dl hD => ?_⟩
    refine lc_map (K := K) (walk_tup (K := K) (a := p3) (xs := xs)) hD (p.parts.map fun q => natD (cntL t q)) (by simp [xl]) (by omega) (fun H6 s6 => .of (s6 _ _ upd_same)) ?_ ?_
    · rintro j y H4 _ d hd s4 ⟨rfl, hy⟩ Qe hQ
      obtain ⟨d2, hd2, rd⟩ := (rx.mono (tu_same (s3.trans s4))).get' hy
      rw [List.getElem?_map] at hd hd2
      cases hq : p.parts[j]? with
      | none => rw [hq] at hd; cases hd
      | some q =>
        rw [hq] at hd hd2
        cases hd
        cases hd2
        have hqm := List.mem_of_getElem? hq
        have ph := parts_height hqm
        exact ⟨rfl, _, rfl, _, rfl, .ref ta, y, t, q, rfl, rt.mono (tu_same (s3.trans s4)), tok, rd, ok_parts pok hqm, by omega, by omega, fun v H' s' r' => hQ v H' s' r'⟩
    intro H4 ws s4 e4 r4
    refine ⟨_, _, rfl, ?_⟩
    try dsimp only
    have s34 := s3.trans s4
    have eb4 := s4 _ _ eb3
    have nbD : b2 ≠ Dl := ne_of_none eb3 hD
    clear s3 s4 eb3 hD hp3 s2 eb2
    refine ⟨_, rfl, ta, _, 2, _, rfl, rfl, (tu_same s34).sq hta, atI_nat (j := 2) rfl, ea, rfl, ⟨_, (tu_same s34).sq hea⟩, ?_⟩
    generalize hvs : p.parts.map (cnt t.ents) = vs at *
    refine for_tup (K := K) (a := ea) (xs := es) (fun i σ H5 => ∃ c4 c5 c6 c7 c8 c9, σ = [some (.ref ta), some (.ref a), some (.ref b2), some (.ref Dl), c4, c5, c6, c7, c8, c9] ∧ Same H H5 ∧ H5 b2 = some (.lst (ledL (t.ents.take i) p.sign vs t.many)) ∧ H5 Dl = some (.lst ws) ∧ RpL K H5 ws (p.parts.map fun q => natD (cntL t q)))
      ⟨_, _, _, _, _, _, rfl, s34, by rw [List.take_zero]; exact eb4, e4, r4⟩ (fun i σ H5 _ ⟨_, _, _, _, _, _, _, e, _⟩ => (tu_same e).sq hea) ?_ ?_
    · rintro i x σ H5 hx ⟨c4, c5, c6, c7, c8, c9, rfl, s5, eb5, eD5, r5⟩
      obtain ⟨d, hdd, rd⟩ := (re.mono (tu_same s5)).get' hx
      rw [List.getElem?_map] at hdd
      cases he : t.ents[i]? with
      | none => rw [he] at hdd; cases hdd
      | some e =>
        rw [he] at hdd
        cases hdd
        have eok := tok.en e (List.mem_of_getElem? he)
        obtain ⟨xa, xp, rfl, hxa, hxp⟩ := en_inv rd
        refine ⟨xa, _, rfl, hxa, rfl, _, _, rfl, _, _, rfl, _, _, rfl, rfl, ?_⟩
        refine ⟨_, rfl, _, rfl, a, _, 0, _, rfl, rfl, (tu_same s5).sq ha, atI_nat (j := 0) rfl, rfl, _, rfl, ite2 (fun z => ?_) (fun z => ?_)⟩
        rotate_left
        · have ns : e.sign ≠ p.sign := fun q => z (decide_eq_true (by rw [q]))
          refine ⟨_, _, _, _, _, _, rfl, s5, ?_, eD5, r5⟩
          rw [ledL_skip t.ents he _ _ _ ns]
          exact eb5
        have esg : e.sign = p.sign := by
          have z2 := of_decide_eq_true z
          injection z2 with z3
          omega
        have ear : p.parts.length = e.parts.length := by
          have h1 := ok_arity pok
          have h2 := eok.ar
          rw [esg, h1] at h2
          exact Option.some.inj h2
        have vl : vs.length = e.parts.length := by rw [← hvs, List.length_map, ear]
        refine ⟨_, rfl, xp, _, rfl, hxp, ?_⟩
        refine for_it (walk_enumT (K := K) (xs := e.parts.map fun (n : Nat) => V.int (n : Int))) (fun j σ H6 => ∃ c8 c9, σ = [some (.ref ta), some (.ref a), some (.ref b2), some (.ref Dl), some (.int (e.sign : Int)), some (.ref xp), some (.int (e.kind : Int)), some (.int (wayP (vs.take j) (e.parts.take j) : Nat)), c8, c9] ∧ Same H5 H6 ∧ wayP (vs.take j) (e.parts.take j) < 2 ^ (6000 * j + 1))
          ⟨_, _, rfl, Same.refl _, by simp [wayP]⟩ (fun j σ H6 _ ⟨_, _, _, e, _⟩ => (tu_same e).sq hxp) ?_ ?_
        · rintro j y σ H6 H7 hj ⟨c8, c9, rfl, s6, bw⟩ ⟨T, u, v, rfl, hT, rfl, hu, hv⟩
          rw [List.length_map] at hj
          cases hu
          try dsimp only at hv
          have hk : e.parts[j]? = some e.parts[j] := by simp [hj]
          rw [List.getElem?_map, hk] at hv
          cases hv
          have kl := eok.ps _ (List.getElem_mem hj)
          have hq : p.parts[j]? = some p.parts[j] := List.getElem?_eq_getElem (by omega)
          generalize e.parts[j] = kk at hk kl
          generalize p.parts[j] = q at hq
          have hvj : vs[j]? = some (cnt t.ents q) := by rw [← hvs, List.getElem?_map, hq]; rfl
          have s7 : Same H5 (upd H6 T (.tup [.int (j : Int), .int (kk : Int)])) := s6.trans (same_new hT)
          obtain ⟨rv, hw, rr⟩ := (r5.mono (tu_same s7)).get (d := natD (cntL t q)) (i := j) (by rw [List.getElem?_map, hq]; rfl)
          obtain ⟨ra, rfl, hra⟩ := nats_inv rr
          have hz2 := (parts_height (List.mem_of_getElem? hq)).2
          have cl : cnt t.ents q kk < 2 ^ 6000 := Nat.lt_of_lt_of_le (cnt_lt tok.e31 q kk) (Nat.pow_le_pow_right (by decide) (by omega))
          refine ⟨T, _, rfl, .of upd_same, rfl, _, _, rfl, _, _, rfl, rfl, ?_⟩
          refine ⟨_, rfl, _, rfl, _, rfl, Dl, _, _, _, rfl, rfl, .of (s7 _ _ eD5), atI_nat hw, _, rfl, ra, _, _, _, rfl, rfl, hra, atI_nat (by rw [List.getElem?_map, cntL_get t q kl]; rfl), _, _, rfl, rfl, wide_mul (natAbs_lt bw) (natAbs_lt cl) (by omega) (by decide) (by omega), ?_⟩
          have ew : wayP (vs.take (j + 1)) (e.parts.take (j + 1)) = wayP (vs.take j) (e.parts.take j) * cnt t.ents q kk := by
            rw [take_snoc hvj, take_snoc hk, wayP_snoc _ _ _ _ (by rw [List.length_take, List.length_take, vl])]
          refine ⟨some (.int (kk : Int)), some (.int (j : Int)), ?_, s7, ?_⟩
          · rw [ew]
            simp only [Int.natCast_mul]
            rfl
          · rw [ew, show 6000 * (j + 1) + 1 = (6000 * j + 1) + 6000 by omega, Nat.pow_add]
            exact Nat.mul_lt_mul'' bw cl
        · rintro σ H6 ⟨c8, c9, rfl, s6, bw⟩
          have e1 : vs.take (e.parts.map fun (n : Nat) => V.int (n : Int)).length = vs := by rw [List.length_map, ← vl]; exact List.take_length ..
          have e2 : e.parts.take (e.parts.map fun (n : Nat) => V.int (n : Int)).length = e.parts := by rw [List.length_map]; exact List.take_length ..
          rw [e1, e2]
          have eb6 := s6 _ _ eb5
          refine ⟨_, rfl, _, rfl, b2, _, e.kind, _, rfl, rfl, .of eb6, ledL_get _ _ _ eok.kd, ?_⟩
          refine ⟨_, rfl, _, _, rfl, rfl, b2, _, _, e.kind, rfl, rfl, eb6, ?_, ?_⟩
          · unfold ixN
            rw [ledL_len, if_pos (by omega), if_pos (by have := eok.kd; omega), Int.toNat_natCast]
          · refine ⟨_, _, _, _, _, _, rfl, same_mut (s5.trans s6) n20, ?_, ?_, ?_⟩
            · rw [upd_same, ← esg]
              exact congrArg (fun z => some (HO.lst z)) (ledL_put t.ents he _ t.many)
            · rw [upd_ne nbD.symm]; exact s6 _ _ eD5
            · exact (r5.mono (tu_same s6)).mono (tu_upd eb6 rfl)
    · rintro σ H5 ⟨c4, c5, c6, c7, c8, c9, rfl, s5, eb5, eD5, r5⟩
      rw [el, List.take_length] at eb5
      refine ⟨_, rfl, .inl ⟨b2, _, rfl, .of eb5, fun q hq => ?_⟩⟩
      refine k _ _ (s5.trans (same_new hq)) (nats_of (.of ?_))
      rw [upd_same, cntL_led, hvs]
end
end K56
set_option Elab.async false
set_option linter.all false
set_option maxRecDepth 100000
set_option maxHeartbeats 4000000
namespace K56
open PySem PySem.Spec PyProof.Rows L2
/-! ### _law_gcd, _law_led_numbers -/
def spGcd : Sp := fun vs H Q _ => ∃ (x y : Int) (c : Nat), vs = [.int x, .int y] ∧ x.natAbs < 2 ^ c ∧ y.natAbs < 2 ^ c ∧ 0 < c ∧ c ≤ 8999 ∧ ∀ g : Int, 0 ≤ g → g ∣ x → g ∣ y → g.natAbs < 2 ^ c → Q (.int g) H
theorem abs_dvd {d i : Int} (h : d ∣ (if i < 0 then -i else i)) : d ∣ i := by
  split at h
  · exact Int.dvd_neg.mp h
  · exact h
theorem abs_abs (i : Int) : (if i < 0 then -i else i).natAbs = i.natAbs := by split <;> omega
theorem abs_pos (i : Int) : 0 ≤ (if i < 0 then -i else i) := by split <;> omega
theorem euclid {u v : Int} (hv : 0 < v) : u - u / v * v = u % v := by
  have := Int.emod_add_mul_ediv u v
  rw [Int.mul_comm] at this
  omega
theorem set_mid (pre L post : List V) (k : Nat) (v : V) (h : k < L.length) : (pre ++ L ++ post).set (pre.length + k) v = pre ++ L.set k v ++ post := by
  rw [List.append_assoc, List.append_assoc, List.set_append_right _ _ (by omega), Nat.add_sub_cancel_left, List.set_append_left _ _ h]
theorem get_mid (pre L post : List V) (k : Nat) (h : k < L.length) : (pre ++ L ++ post)[pre.length + k]? = L[k]? := by
  rw [List.append_assoc, List.getElem?_append_right (by omega), Nat.add_sub_cancel_left, List.getElem?_append_left h]
/-- what stands in the row when i of the two tables are through -/
def ledF (o t : Tb) (s : Nat) (ps : List Pg) (i : Nat) : List V := (if 0 < i then ledL o.ents s (ps.map (cnt o.ents)) o.many else ledL [] s (ps.map (cnt o.ents)) o.many) ++ (if 1 < i then ledL t.ents s (ps.map (cnt t.ents)) t.many else ledL [] s (ps.map (cnt t.ents)) t.many)
theorem cntL_mk (t : Tb) (s : Nat) (ps : List Pg) (h : ps.length ≤ 2) : ((cntL t (mkP s ps)).map fun (n : Nat) => V.int (n : Int)) = ledL t.ents s (ps.map (cnt t.ents)) t.many := by
  rw [cntL_led]
  match ps, h with
  | [], _ => rfl
  | [p], _ => rfl
  | [p, q], _ => rfl
  | _ :: _ :: _ :: _, h => simp only [List.length_cons] at h; omega
def spLed (K : PySem.W.Frag) : Sp := fun vs H Q _ => ∃ (ov tv : V) (s : Nat) (ia : Addr) (rows : List V) (o t : Tb) (ps : List Pg), vs = [ov, tv, .int (s : Int), .ref ia] ∧ Rp K H ov o.d ∧ o.ok ∧ Rp K H tv t.d ∧ t.ok ∧ t.signs = o.signs ∧ o.signs[s]? = some ps.length ∧
  SqT K H ia rows ∧ RpL K H rows (ps.map fun p => natD (cntL o p ++ cntL t p)) ∧ (∀ p ∈ ps, p.size ≤ 600) ∧ ∀ (v : V) (H' : Hp), Same H H' → Rp K H' v (natD (cntL o (mkP s ps) ++ cntL t (mkP s ps))) → Q v H'
section
variable {P : Program} {w : World} {K : PySem.W.Frag} {mg : Str → Option Value} {base : Heap}
theorem sc_l_gcd : FnScope ["_law_one", "_law_other"] ["_law_one", "_law_other"] (defScope s_l_gcd) := ⟨rfl, rfl, rfl, by decide +kernel, rfl, by decide +kernel, by decide +kernel⟩
theorem ok_l_gcd (A : Hd K mg) : Cl P w K mg base "_law_gcd" ["_law_one", "_law_other"] 1 spGcd := by
  obtain ⟨fd, F⟩ := A.f_l_gcd
  refine Cl.of F A.g_l_gcd sc_l_gcd (fun _ _ _ _ _ _ us hl => match us, hl with | [_, _], _ => rfl) (fun vs H Q E h => (by obtain ⟨x, y, c, rfl, _⟩ := h; rfl)) (fun cdv Ar outer s H vs Q E hr h => ?_)
  obtain ⟨x, y, c, rfl, hx, hy, c0, c9, k⟩ := h
  refine ⟨_, (pss_cons (ps_par (i := 0) (j := 1) (by rfl) sc_l_gcd.nd rfl rfl (by decide) rfl rfl (pa_cons (pe_callB call_abs (by rfl) A.z_abs (by decide +kernel) (pa_cons (pv 0) pa_nil)) (pa_cons (pe_callB call_abs (by rfl) A.z_abs (by decide +kernel) (pa_cons (pv 1) pa_nil)) pa_nil)) rfl)
  (pss_cons (ps_while PassesOwn.never (pt_cmpR op_gt (pv 1) pe_int (nomark _))
  (pss_one (ps_par (i := 0) (j := 1) (by rfl) sc_l_gcd.nd rfl rfl (by decide) rfl rfl (pa_cons (pv 1) (pa_cons (pe_op op_sub (pv 0) (pe_op op_mulW (pe_op op_fdivW (pv 0) (pv 1)) (pv 1))) pa_nil)) rfl)))
  (pss_one (ps_ret (pv 0))))), ?_⟩
  refine ⟨_, rfl, x, rfl, _, rfl, y, rfl, _, _, rfl, ?_⟩
  refine ⟨fun m σ H' => ∃ u v : Int, σ = [some (.int u), some (.int v)] ∧ H' = H ∧ 0 ≤ u ∧ 0 ≤ v ∧ u.natAbs < 2 ^ c ∧ v.natAbs < 2 ^ c ∧ (∀ d : Int, d ∣ u → d ∣ v → d ∣ x ∧ d ∣ y) ∧ m = v.toNat,
    ⟨_, _, _, rfl, rfl, abs_pos x, abs_pos y, by rw [abs_abs]; exact hx, by rw [abs_abs]; exact hy, fun d h1 h2 => ⟨abs_dvd h1, abs_dvd h2⟩, rfl⟩, ?_⟩
  rintro m σ H' ⟨u, v, rfl, rfl, u0, v0, bu, bv, hd, rfl⟩
  refine ⟨_, rfl, _, _, rfl, rfl, _, rfl, ite2 (fun z => ?_) (fun z => ?_)⟩
  · have vp : 0 < v := of_decide_eq_true z
    refine ⟨fun σ' H2 => σ' = [some (.int v), some (.int (u - u / v * v))] ∧ H2 = H', ?_, ?_⟩
    · rintro σ' H2 ⟨rfl, rfl⟩
      have e := euclid (u := u) vp
      have l1 := Int.emod_nonneg u (Int.ne_of_gt vp)
      have l2 := Int.emod_lt_of_pos u vp
      refine ⟨_, ?_, _, _, rfl, rfl, v0, by rw [e]; exact l1, bv, ?_, fun d h1 h2 => ?_, rfl⟩
      · rw [e]; omega
      · rw [e]; omega
      · refine hd d ?_ h1
        have q := Int.dvd_add h2 (Int.dvd_trans h1 (Int.dvd_mul_left (u / v) v))
        have e2 : u - u / v * v + u / v * v = u := by omega
        rw [e2] at q
        exact q
    · refine ⟨_, rfl, _, rfl, _, rfl, _, rfl, u, v, rfl, rfl, wide_div vp bv c0 (by omega), _, rfl, ?_⟩
      exact ⟨_, _, rfl, rfl, wide_mul (wide_le (Int.ediv_nonneg u0 v0) (Int.ediv_le_self v u0) bu) bv c0 c0 (by omega), _, _, rfl, rfl, _, _, rfl, rfl, rfl⟩
  · have e : v = 0 := by
      have q : ¬ 0 < v := fun h => z (decide_eq_true h)
      omega
    subst e
    obtain ⟨h1, h2⟩ := hd u (Int.dvd_refl u) (Int.dvd_zero u)
    exact ⟨_, rfl, k u u0 h1 h2 bu⟩
theorem sc_l_led_numbers : FnScope ["_law_one", "_law_other", "_law_sign", "_law_its", "_law_found", "_law_first", "_law_table_here", "_law_its_sign", "_law_parts", "_law_kind", "_law_many", "_law_at", "_law_part"] ["_law_one", "_law_other", "_law_sign", "_law_its"] (defScope s_l_led_numbers) := ⟨rfl, rfl, rfl, by decide +kernel, rfl, by decide +kernel, by decide +kernel⟩
theorem ok_l_led_numbers (A : Hd K mg) : Cl P w K mg base "_law_led_numbers" ["_law_one", "_law_other", "_law_sign", "_law_its"] 1 (spLed K) := by
  obtain ⟨fd, F⟩ := A.f_l_led_numbers
  refine Cl.of F A.g_l_led_numbers sc_l_led_numbers (fun _ _ _ _ _ _ us hl => match us, hl with | [_, _, _, _], _ => rfl) (fun vs H Q E h => (by obtain ⟨ov, tv, s0, ia, rows, o, t, ps, rfl, ro, ook, rt, tok, hsg, hs0, hia, rr, hz, k⟩ := h; rfl)) (fun cdv Ar outer s H vs Q E hr h => ?_)
  obtain ⟨ov, tv, s0, ia, rows, o, t, ps, rfl, ro, ook, rt, tok, hsg, hs0, hia, rr, hz, k⟩ := h
  refine ⟨_, (pss_cons (ps_set (i := 4) sc_l_led_numbers.nd rfl (.inl rfl) (pe_op op_rep (pe_lst (pa_cons pe_int pa_nil)) (pe_op op_add (pe_ix ix_tup (pv 0) pe_int (fun _ _ => rfl)) (pe_ix ix_tup (pv 1) pe_int (fun _ _ => rfl)))))
  (pss_cons (ps_for PassesOwn.never (by rfl) (pi_tup (pe_tup (pa_cons (pe_tup (pa_cons pe_int (pa_cons (pv 0) pa_nil))) (pa_cons (pe_tup (pa_cons (pe_ix ix_tup (pv 0) pe_int (fun _ _ => rfl)) (pa_cons (pv 1) pa_nil))) pa_nil)))) (pg_tup rfl (pgs_cons (pg_name (i := 5) sc_l_led_numbers.nd rfl (.inl rfl)) (pgs_cons (pg_name (i := 6) sc_l_led_numbers.nd rfl (.inl rfl)) pgs_nil)))
  (pss_one (ps_for PassesOwn.never (by rfl) (pi_tup (pe_ix ix_tup (pv 6) pe_int (fun _ _ => rfl))) (pg_tup rfl (pgs_cons (pg_name (i := 7) sc_l_led_numbers.nd rfl (.inl rfl)) (pgs_cons (pg_name (i := 8) sc_l_led_numbers.nd rfl (.inl rfl)) (pgs_cons (pg_name (i := 9) sc_l_led_numbers.nd rfl (.inl rfl)) pgs_nil))))
  (pss_one (ps_if (pt_cmpR op_eq (pv 7) (pv 2) (nomark _)) (pss_cons (ps_set (i := 10) sc_l_led_numbers.nd rfl (.inl rfl) pe_int)
  (pss_cons (ps_for PassesOwn.never (by rfl) (pi_enumT (by rfl) A.z_enumerate (pa_cons (pv 8) pa_nil)) (pg_tup rfl (pgs_cons (pg_name (i := 11) sc_l_led_numbers.nd rfl (.inl rfl)) (pgs_cons (pg_name (i := 12) sc_l_led_numbers.nd rfl (.inl rfl)) pgs_nil)))
  (pss_one (ps_set (i := 10) sc_l_led_numbers.nd rfl (.inl rfl) (pe_op op_mulW (pv 10) (pe_ix ix_tup (pe_ix ix_tup (pv 3) (pv 11) (fun _ _ => rfl)) (pe_op op_add (pv 5) (pv 12)) (fun _ _ => rfl))))))
  (pss_one (ps_augS (pv 4) (pe_op op_add (pv 5) (pv 9)) get_list (pv 10) ip_add set_list)))) pss_nil)))))
  (pss_one (ps_ret (pe_tupleOf (by rfl) A.z_tuple (pv 4)))))), ?_⟩
  obtain ⟨oa, osa, oea, oes, rfl, hoa, _, _, _⟩ := tb_inv ro
  obtain ⟨ta, tsa, tea, tes, rfl, hta, _, _, _⟩ := tb_inv rt
  have om4 := ook.m4
  have tm4 := tok.m4
  have a2 : ps.length ≤ 2 := ook.sg _ (List.mem_of_getElem? hs0)
  have rl : rows.length = ps.length := by rw [rr.length, List.length_map]
  refine ⟨sz1, fun b1 hb1 => ?_⟩
  have s1 := same_new (o := .lst [V.int 0]) hb1
  refine ⟨_, rfl, oa, _, 0, _, rfl, rfl, (tu_same s1).sq hoa, atI_nat (j := 0) rfl, _, rfl, ta, _, 0, _, rfl, rfl, (tu_same s1).sq hta, atI_nat (j := 0) rfl, ?_⟩
  refine ⟨_, _, rfl, rfl, ?_⟩
  have ek : (o.many : Int) + (t.many : Int) = ((o.many + t.many : Nat) : Int) := by omega
  try dsimp only
  rw [ek]
  refine ⟨b1, _, _, rfl, rfl, upd_same, by omega, by omega, ?_, fun b2 hb2 => ?_⟩
  · simp only [List.length_singleton, Int.toNat_natCast]
    exact sz_ok (by omega)
  have s2 := s1.trans (same_new (o := .lst (List.replicate (((o.many + t.many : Nat) : Int)).toNat [V.int 0]).flatten) hb2)
  have eb2 : (upd (upd H b1 (.lst [V.int 0])) b2 (.lst (List.replicate (((o.many + t.many : Nat) : Int)).toNat [V.int 0]).flatten)) b2 = some (.lst (ledF o t s0 ps 0)) := by
    rw [upd_same, Int.toNat_natCast, rep_zero]
    unfold ledF
    rw [if_neg (by omega), if_neg (by omega), ← ledL_nil, ← ledL_nil, List.replicate_append_replicate]
  have n20 : H b2 = none := s1.free hb2
  try dsimp only
  generalize upd (upd H b1 (.lst [V.int 0])) b2 (.lst (List.replicate (((o.many + t.many : Nat) : Int)).toNat [V.int 0]).flatten) = H2 at s2 eb2
  clear s1 hb1 hb2
  refine ⟨_, rfl, sz2, fun q1 hq1 => ?_⟩
  have s3 := s2.trans (same_new (o := .tup [.int 0, .ref oa]) hq1)
  refine ⟨_, rfl, oa, _, 0, _, rfl, rfl, (tu_same s3).sq hoa, atI_nat (j := 0) rfl, _, rfl, sz2, fun q2 hq2 => ⟨sz2, fun q3 hq3 => ?_⟩⟩
  have s4 := s3.trans (same_new (o := .tup [.int (o.many : Int), .ref ta]) hq2)
  have s5 := s4.trans (same_new (o := .tup [.ref q1, .ref q2]) hq3)
  have e13 := same_new (o := .tup [.ref q1, .ref q2]) hq3 _ _ (same_new (o := .tup [.int (o.many : Int), .ref ta]) hq2 _ _ (upd_same (H := H2) (a := q1) (o := .tup [.int 0, .ref oa])))
  have e23 := same_new (o := .tup [.ref q1, .ref q2]) hq3 _ _ (upd_same (H := upd H2 q1 (.tup [.int 0, .ref oa])) (a := q2) (o := .tup [.int (o.many : Int), .ref ta]))
  have e33 := upd_same (H := upd (upd H2 q1 (.tup [.int 0, .ref oa])) q2 (.tup [.int (o.many : Int), .ref ta])) (a := q3) (o := .tup [.ref q1, .ref q2])
  have eb3 := same_new (o := .tup [.ref q1, .ref q2]) hq3 _ _ (same_new (o := .tup [.int (o.many : Int), .ref ta]) hq2 _ _ (same_new (o := .tup [.int 0, .ref oa]) hq1 _ _ eb2))
  generalize upd (upd (upd H2 q1 (.tup [.int 0, .ref oa])) q2 (.tup [.int (o.many : Int), .ref ta])) q3 (.tup [.ref q1, .ref q2]) = H3 at s5 e13 e23 e33 eb3
  clear s3 s4 hq1 hq2 hq3 s2 eb2
  refine ⟨q3, rfl, ⟨_, .of e33⟩, ?_⟩
  refine for_tup (K := K) (a := q3) (xs := [.ref q1, .ref q2]) (fun i σ H' => ∃ c5 c6 c7 c8 c9 c10 c11 c12, σ = [some (.ref oa), some (.ref ta), some (.int (s0 : Int)), some (.ref ia), some (.ref b2), c5, c6, c7, c8, c9, c10, c11, c12] ∧ Same H H' ∧ SqT K H' q1 [.int 0, .ref oa] ∧ SqT K H' q2 [.int (o.many : Int), .ref ta] ∧ SqT K H' q3 [.ref q1, .ref q2] ∧ H' b2 = some (.lst (ledF o t s0 ps i)))
    ⟨_, _, _, _, _, _, _, _, rfl, s5, .of e13, .of e23, .of e33, eb3⟩ (fun i σ H' _ ⟨_, _, _, _, _, _, _, _, _, _, _, _, e, _⟩ => e) ?_ ?_
  · rintro i x σ H' hx ⟨c5, c6, c7, c8, c9, c10, c11, c12, rfl, s6, t1, t2, t3, eb⟩
    have key : ∃ (first : Nat) (tb : Tb) (ba : Addr) (q : Addr) (pre post : List V), x = .ref q ∧ SqT K H' q [.int (first : Int), .ref ba] ∧ Rp K H (.ref ba) tb.d ∧ tb.ok ∧ tb.signs = o.signs ∧ pre.length = first ∧ post.length ≤ 4 ∧ first ≤ 4 ∧ ledF o t s0 ps i = pre ++ ledL [] s0 (ps.map (cnt tb.ents)) tb.many ++ post ∧ ledF o t s0 ps (i + 1) = pre ++ ledL tb.ents s0 (ps.map (cnt tb.ents)) tb.many ++ post ∧ ∀ (p : Pg) (k : Nat), k < tb.many → (cntL o p ++ cntL t p)[first + k]? = some (cnt tb.ents p k) := by
      match i, hx with
      | 0, hx => cases hx; exact ⟨0, o, oa, q1, [], ledL [] s0 (ps.map (cnt t.ents)) t.many, rfl, t1, ro, ook, rfl, rfl, by rw [ledL_len]; omega, by omega, rfl, rfl, fun p k hk => by rw [Nat.zero_add, List.getElem?_append_left (by rw [cntL_length]; exact hk), cntL_get o p hk]⟩
      | 1, hx => cases hx; exact ⟨o.many, t, ta, q2, ledL o.ents s0 (ps.map (cnt o.ents)) o.many, [], rfl, t2, rt, tok, hsg, by rw [ledL_len], by simp, om4, by rw [List.append_nil]; rfl, by rw [List.append_nil]; rfl, fun p k hk => by rw [List.getElem?_append_right (by rw [cntL_length]; omega), cntL_length, Nat.add_sub_cancel_left, cntL_get t p hk]⟩
      | i + 2, hx => simp at hx
    obtain ⟨first, tb, ba, q, pre, post, rfl, hq, rb, bok, bsg, lpre, lpost, f4, e0, e1, row⟩ := key
    obtain ⟨ba', bs, be, bes, hba, hb, _, hbe, rbe⟩ := tb_inv rb
    cases hba
    have bm4 := bok.m4
    rw [e0] at eb
    refine ⟨q, _, rfl, hq, rfl, _, _, rfl, _, _, rfl, rfl, ?_⟩
    refine ⟨_, rfl, ba, _, 2, _, rfl, rfl, (tu_same s6).sq hb, atI_nat (j := 2) rfl, be, rfl, ⟨_, (tu_same s6).sq hbe⟩, ?_⟩
    have el : bes.length = tb.ents.length := by rw [rbe.length, List.length_map]
    generalize hvs : ps.map (cnt tb.ents) = vs at *
    refine for_tup (K := K) (a := be) (xs := bes) (fun j σ H5 => ∃ c7 c8 c9 c10 c11 c12, σ = [some (.ref oa), some (.ref ta), some (.int (s0 : Int)), some (.ref ia), some (.ref b2), some (.int (first : Int)), some (.ref ba), c7, c8, c9, c10, c11, c12] ∧ Same H H5 ∧ Tu H' H5 ∧ H5 b2 = some (.lst (pre ++ ledL (tb.ents.take j) s0 vs tb.many ++ post)))
      ⟨_, _, _, _, _, _, rfl, s6, Tu.refl _, eb⟩ (fun i σ H5 _ ⟨_, _, _, _, _, _, _, e, _⟩ => (tu_same e).sq hbe) ?_ ?_
    · rintro i2 x σ H5 hx ⟨c7, c8, c9, c10, c11, c12, rfl, s5', tt, eb5⟩
      obtain ⟨d, hdd, rd⟩ := (rbe.mono (tu_same s5')).get' hx
      rw [List.getElem?_map] at hdd
      cases he : tb.ents[i2]? with
      | none => rw [he] at hdd; cases hdd
      | some e =>
        rw [he] at hdd
        cases hdd
        have eok := bok.en e (List.mem_of_getElem? he)
        obtain ⟨xa, xp, rfl, hxa, hxp⟩ := en_inv rd
        refine ⟨xa, _, rfl, hxa, rfl, _, _, rfl, _, _, rfl, _, _, rfl, rfl, ?_⟩
        refine ⟨_, rfl, _, rfl, rfl, _, rfl, ite2 (fun z => ?_) (fun z => ?_)⟩
        rotate_left
        · have ns : e.sign ≠ s0 := fun q => z (decide_eq_true (by rw [q]))
          refine ⟨_, _, _, _, _, _, rfl, s5', tt, ?_⟩
          rw [ledL_skip tb.ents he _ _ _ ns]
          exact eb5
        have esg : e.sign = s0 := by
          have z2 := of_decide_eq_true z
          injection z2 with z3
          omega
        have ear : ps.length = e.parts.length := by
          have h2 := eok.ar
          rw [esg, bsg, hs0] at h2
          exact Option.some.inj h2
        have vl : vs.length = e.parts.length := by rw [← hvs, List.length_map, ear]
        refine ⟨_, rfl, xp, _, rfl, hxp, ?_⟩
        refine for_it (walk_enumT (K := K) (xs := e.parts.map fun (n : Nat) => V.int (n : Int))) (fun j σ H6 => ∃ c11 c12, σ = [some (.ref oa), some (.ref ta), some (.int (s0 : Int)), some (.ref ia), some (.ref b2), some (.int (first : Int)), some (.ref ba), some (.int (e.sign : Int)), some (.ref xp), some (.int (e.kind : Int)), some (.int (wayP (vs.take j) (e.parts.take j) : Nat)), c11, c12] ∧ Same H5 H6 ∧ wayP (vs.take j) (e.parts.take j) < 2 ^ (6000 * j + 1))
          ⟨_, _, rfl, Same.refl _, by simp [wayP]⟩ (fun j σ H6 _ ⟨_, _, _, e, _⟩ => (tu_same e).sq hxp) ?_ ?_
        · rintro j y σ H6 H7 hj ⟨c11, c12, rfl, s6', bw⟩ ⟨T, u, v, rfl, hT, rfl, hu, hv⟩
          rw [List.length_map] at hj
          cases hu
          try dsimp only at hv
          have hk : e.parts[j]? = some e.parts[j] := by simp [hj]
          rw [List.getElem?_map, hk] at hv
          cases hv
          have kl := eok.ps _ (List.getElem_mem hj)
          have hq : ps[j]? = some ps[j] := List.getElem?_eq_getElem (by omega)
          generalize e.parts[j] = kk at hk kl
          generalize ps[j] = pj at hq
          have hvj : vs[j]? = some (cnt tb.ents pj) := by rw [← hvs, List.getElem?_map, hq]; rfl
          have s7 : Same H (upd H6 T (.tup [.int (j : Int), .int (kk : Int)])) := (s5'.trans s6').trans (same_new hT)
          obtain ⟨rv, hw, rr'⟩ := (rr.mono (tu_same s7)).get (d := natD (cntL o pj ++ cntL t pj)) (i := j) (by rw [List.getElem?_map, hq]; rfl)
          obtain ⟨ra, rfl, hra⟩ := nats_inv rr'
          have hz2 := hz pj (List.mem_of_getElem? hq)
          have cl : cnt tb.ents pj kk < 2 ^ 6000 := Nat.lt_of_lt_of_le (cnt_lt bok.e31 pj kk) (Nat.pow_le_pow_right (by decide) (by omega))
          refine ⟨T, _, rfl, .of upd_same, rfl, _, _, rfl, _, _, rfl, rfl, ?_⟩
          refine ⟨_, rfl, _, rfl, _, rfl, ia, _, _, _, rfl, rfl, (tu_same s7).sq hia, atI_nat hw, _, rfl, _, rfl, _, _, rfl, rfl, ?_⟩
          have ek2 : (first : Int) + (kk : Int) = ((first + kk : Nat) : Int) := by omega
          try dsimp only
          rw [ek2]
          refine ⟨ra, _, _, _, rfl, rfl, hra, atI_nat (by rw [List.getElem?_map, row pj kk kl]; rfl), _, _, rfl, rfl, wide_mul (natAbs_lt bw) (natAbs_lt cl) (by omega) (by decide) (by omega), ?_⟩
          have ew : wayP (vs.take (j + 1)) (e.parts.take (j + 1)) = wayP (vs.take j) (e.parts.take j) * cnt tb.ents pj kk := by
            rw [take_snoc hvj, take_snoc hk, wayP_snoc _ _ _ _ (by rw [List.length_take, List.length_take, vl])]
          refine ⟨some (.int (j : Int)), some (.int (kk : Int)), ?_, s6'.trans (same_new hT), ?_⟩
          · rw [ew]
            simp only [Int.natCast_mul]
            rfl
          · rw [ew, show 6000 * (j + 1) + 1 = (6000 * j + 1) + 6000 by omega, Nat.pow_add]
            exact Nat.mul_lt_mul'' bw cl
        · rintro σ H6 ⟨c11, c12, rfl, s6', bw⟩
          have e1' : vs.take (e.parts.map fun (n : Nat) => V.int (n : Int)).length = vs := by rw [List.length_map, ← vl]; exact List.take_length ..
          have e2' : e.parts.take (e.parts.map fun (n : Nat) => V.int (n : Int)).length = e.parts := by rw [List.length_map]; exact List.take_length ..
          rw [e1', e2']
          have eb6 := s6' _ _ eb5
          have ek2 : (first : Int) + (e.kind : Int) = ((pre.length + e.kind : Nat) : Int) := by omega
          have kdl := eok.kd
          refine ⟨_, rfl, _, rfl, _, rfl, _, _, rfl, rfl, ?_⟩
          try dsimp only
          rw [ek2]
          have hget : (pre ++ ledL (List.take i2 tb.ents) s0 vs tb.many ++ post)[pre.length + e.kind]? = some (V.int (led (List.take i2 tb.ents) s0 vs e.kind : Nat)) := by
            rw [get_mid _ _ _ _ (by rw [ledL_len]; exact kdl)]
            exact ledL_get _ _ _ kdl
          refine ⟨b2, _, pre.length + e.kind, _, rfl, rfl, .of eb6, hget, ?_⟩
          refine ⟨_, rfl, _, _, rfl, rfl, b2, _, _, pre.length + e.kind, rfl, rfl, eb6, ?_, ?_⟩
          · unfold ixN
            rw [List.length_append, List.length_append, ledL_len, if_pos (by omega), if_pos (by omega), Int.toNat_natCast]
          · refine ⟨_, _, _, _, _, _, rfl, same_mut (s5'.trans s6') n20, (tt.trans (tu_same s6')).trans (tu_upd eb6 rfl), ?_⟩
            rw [upd_same, set_mid _ _ _ _ _ (by rw [ledL_len]; exact kdl), ← esg]
            exact congrArg (fun z => some (HO.lst (pre ++ z ++ post))) (ledL_put tb.ents he _ tb.many)
    · rintro σ H5 ⟨c7, c8, c9, c10, c11, c12, rfl, s5', tt, eb5⟩
      rw [el, List.take_length, ← e1] at eb5
      exact ⟨_, _, _, _, _, _, _, _, rfl, s5', tt.sq t1, tt.sq t2, tt.sq t3, eb5⟩
  · rintro σ H' ⟨c5, c6, c7, c8, c9, c10, c11, c12, rfl, s6, t1, t2, t3, eb⟩
    refine ⟨_, rfl, .inl ⟨b2, _, rfl, .of eb, fun q hq => ?_⟩⟩
    refine k _ _ (s6.trans (same_new hq)) (nats_of (.of ?_))
    rw [upd_same, List.map_append, cntL_mk o s0 ps a2, cntL_mk t s0 ps a2]
    rfl
end
end K56
set_option Elab.async false
set_option linter.all false
set_option maxRecDepth 100000
set_option maxHeartbeats 4000000
namespace K56
open PySem PySem.Spec PyProof.Rows L2
/-! ### _law_less, _law_put_in -/
structure BaseV (K : PySem.W.Frag) (H : Hp) (d z : Addr) (n : Nat) (kvs : List (Key × V)) (B : List Lead) : Prop where
  e : H d = some (.dK kvs)
  keys : kvs.map (·.1) = B.map fun x => (Sum.inl (x.1 : Int) : Key)
  at_ : ∀ x ∈ B, ∃ l, valV kvs (.inl (x.1 : Int)) = some (.ref l) ∧ SqL K H l (Vc n x.2.1) ∧ l ≠ d ∧ l ≠ z
theorem BaseV.same {K : PySem.W.Frag} {H H' : Hp} {d z : Addr} {n : Nat} {kvs : List (Key × V)} {B : List Lead} (h : BaseV K H d z n kvs B) (s : Same H H') : BaseV K H' d z n kvs B :=
  ⟨s _ _ h.e, h.keys, fun x hx => by obtain ⟨l, h1, h2, h3⟩ := h.at_ x hx; exact ⟨l, h1, s.seq h2, h3⟩⟩
def spLLess (K : PySem.W.Frag) : Sp := fun vs H Q _ => ∃ (d z a : Addr) (n c : Nat) (f : Vec) (kvs : List (Key × V)) (B : List Lead),
  vs = [.ref d, .ref a] ∧ BaseV K H d z n kvs B ∧ SqL K H a (Vc n f) ∧ Bdn n f c ∧ (∀ x ∈ B, Bdn n x.2.1 x.2.2 ∧ x.1 < n) ∧ 0 < c ∧ c + bitS B ≤ 8000 ∧ n ≤ 8 ∧ B.length ≤ 8 ∧
  ∀ (l : Addr) (H' : Hp) (C : List Lead) (g : Vec), Same H H' → (l = a ∨ H l = none) → SqL K H' l (Vc n g) → C.Perm B → (C.Pairwise fun x y => x.1 ≤ y.1) → RedS n f C g → Q (.ref l) H'
section
variable {P : Program} {w : World} {K : PySem.W.Frag} {mg : Str → Option Value} {base : Heap}
theorem sc_l_less : FnScope ["_law_base", "_law_row", "_law_place", "_law_lead", "_law_part", "_law_item", "_law_mine", "_law_its"] ["_law_base", "_law_row"] (defScope s_l_less) := ⟨rfl, rfl, rfl, by decide +kernel, rfl, by decide +kernel, by decide +kernel⟩
theorem ok_l_less (A : Hd K mg) : Cl P w K mg base "_law_less" ["_law_base", "_law_row"] 2 (spLLess K) := by
  obtain ⟨fd, F⟩ := A.f_l_less
  refine Cl.of F A.g_l_less sc_l_less (fun _ _ _ _ _ _ us hl => match us, hl with | [_, _], _ => rfl) (fun vs H Q E h => (by obtain ⟨d, z0, a, n, c, f, kvs, B, rfl, BV, ha, bf, bB, c0, c8, n8, B8, k⟩ := h; rfl)) (fun cdv Ar outer s H vs Q E hr h => ?_)
  obtain ⟨d, z0, a, n, c, f, kvs, B, rfl, BV, ha, bf, bB, c0, c8, n8, B8, k⟩ := h
  refine ⟨_, (pss_cons (ps_for PassesOwn.never (by rfl) (pi_list (pe_callB (call_sortedDI (by rfl)) (by rfl) A.z_sorted (by decide +kernel) (pa_cons (pv 0) pa_nil))) (pg_name (i := 2) sc_l_less.nd rfl (.inr rfl))
  (pss_cons (ps_set (i := 3) sc_l_less.nd rfl (.inr rfl) (pe_dget (hu_of hr) (pv 0) (pv 2) (fun _ _ => rfl)))
  (pss_one (ps_if (pt_cmpR op_ne (pe_ix ix_list (pv 1) (pv 2) (fun _ _ => rfl)) pe_int (nomark _)) (pss_cons (ps_set (i := 1) sc_l_less.nd rfl (.inr rfl) (pe_lcF (own := [("_law_mine", 6), ("_law_its", 7)]) (by rfl) sc_l_less.nd (RZ.pi_zipA (by rfl) A.z_zip (pa_cons (pv 1) (pa_cons (pv 3) pa_nil))) (blkOk_by (by rfl)) (fun _ _ _ _ _ => (pg_tup rfl (pgs_cons (pg_name (i := 6) sc_l_less.nd rfl (.inl rfl)) (pgs_cons (pg_name (i := 7) sc_l_less.nd rfl (.inl rfl)) pgs_nil)))) (fun _ _ _ _ _ => pts_nil) (fun _ _ _ _ _ => (pe_op op_sub (pe_op op_mulW (pe_ix ix_list (pv 3) (pv 2) (fun _ _ => rfl)) (pv 6)) (pe_op op_mulW (pe_ix ix_list (pv 1) (pv 2) (fun _ _ => rfl)) (pv 7))))))
  (pss_cons (ps_set (i := 4) sc_l_less.nd rfl (.inr rfl) pe_int)
  (pss_cons (ps_for PassesOwn.never (by rfl) (pi_list (pv 1)) (pg_name (i := 5) sc_l_less.nd rfl (.inl rfl))
  (pss_one (ps_set (i := 4) sc_l_less.nd rfl (.inr rfl) (pe_cl (ok_l_gcd A) (hr.mono (by decide)) (by rfl) (pa_cons (pv 4) (pa_cons (pv 5) pa_nil))))))
  (pss_one (ps_set (i := 1) sc_l_less.nd rfl (.inr rfl) (pe_lcF (own := [("_law_item", 5)]) (by rfl) sc_l_less.nd (pi_list (pv 1)) (blkOk_by (by rfl)) (fun _ _ _ _ _ => (pg_name (i := 5) sc_l_less.nd rfl (.inl rfl))) (fun _ _ _ _ _ => pts_nil) (fun _ _ _ _ _ => (pe_op op_fdivW (pv 5) (pe_callB (call_max2 (by rfl)) (by rfl) A.z_max (by decide +kernel) (pa_cons pe_int (pa_cons (pv 4) pa_nil))))))))))) pss_nil))))
  (pss_one (ps_ret (pv 1)))), ?_⟩
  refine ⟨_, rfl, d, kvs, B.map fun x => (x.1 : Int), rfl, .inl BV.e, by rw [BV.keys, List.map_map]; rfl, by rw [List.length_map]; omega, fun ys p pm so hp => ?_⟩
  obtain ⟨C, pc, rfl⟩ := L2.perm_lift (fun x : Lead => (x.1 : Int)) pm B rfl
  have s1 := same_new (o := .lst ((C.map fun x => (x.1 : Int)).map V.int)) hp
  have cl : C.length = B.length := pc.length_eq
  have bC : ∀ x ∈ C, Bdn n x.2.1 x.2.2 ∧ x.1 < n := fun x hx => bB x (pc.mem_iff.mp hx)
  have bit : bitS C = bitS B := bitS_perm pc
  refine ⟨p, rfl, ⟨_, .of upd_same⟩, ?_⟩
  refine for_list (K := K) (a := p) (xs := (C.map fun x => (x.1 : Int)).map V.int) (fun i σ H' => ∃ l s2 s3 s4 s5 s6 s7 g, σ = [some (.ref d), some (.ref l), s2, s3, s4, s5, s6, s7] ∧ Same (upd H p (.lst ((C.map fun x => (x.1 : Int)).map V.int))) H' ∧ SqL K H' l (Vc n g) ∧ RedS n f (C.take i) g ∧ (l = a ∨ H l = none)) ⟨a, _, _, _, _, _, _, f, rfl, Same.refl _, s1.seq ha, .nil, .inl rfl⟩ (fun i σ H' _ ⟨_, _, _, _, _, _, _, _, _, e, _⟩ => .of (e _ _ upd_same)) ?_ ?_
  · rintro i v σ H' hv ⟨l, c2, c3, c4, c5, c6, c7, g, rfl, s2, hl, rg, fr⟩
    rw [List.getElem?_map, List.getElem?_map] at hv
    cases hx : C[i]? with
    | none => rw [hx] at hv; cases hv
    | some x =>
      rw [hx] at hv
      cases hv
      have hxm := List.mem_of_getElem? hx
      obtain ⟨bx, xn⟩ := bC x hxm
      have s12 := s1.trans s2
      obtain ⟨ld, v1, v2, v3, _⟩ := (BV.same s12).at_ x (pc.mem_iff.mp hxm)
      have tk : C.take (i + 1) = C.take i ++ [x] := take_snoc hx
      have bg : Bdn n g (c + bitS (C.take i)) := rg.bd bf fun y hy => bC y (List.mem_of_mem_take hy)
      have bT := bitS_take C (i + 1)
      rw [tk, bitS_snoc] at bT
      have hln : l < l + 1 := Nat.lt_succ_self _
      refine ⟨_, rfl, _, rfl, d, _, rfl, .inl ⟨kvs, .inl (x.1 : Int), .inl (BV.same s12).e, rfl, v1.symm⟩, ?_⟩
      refine ⟨_, rfl, _, rfl, l, _, _, _, rfl, rfl, hl, atI_nat (Vc_get _ xn), rfl, _, rfl, ite2 (fun z => ?_) (fun z => ?_)⟩
      · have hne : g x.1 ≠ 0 := fun q => by simp [q] at z
        refine ⟨_, rfl, _, rfl, l, ld, _, _, rfl, .inl ⟨hl, v2, fun Dl hD => ?_⟩⟩
        have hw : ∀ k, k < n → (x.2.1 x.1 * g k - g x.1 * x.2.1 k).natAbs < 2 ^ (c + bitS B) := fun k hk => by
          have p1 := natAbs_mul_lt (bx x.1 xn) (bg k hk)
          have p2 := natAbs_mul_lt (bg x.1 xn) (bx k hk)
          rw [Nat.add_comm x.2.2] at p1
          exact Nat.lt_of_lt_of_le (natAbs_sub_lt p1 p2) (Nat.pow_le_pow_right (by decide) (by omega))
        generalize hh0 : (fun k => x.2.1 x.1 * g k - g x.1 * x.2.1 k : Vec) = h0
        have hh : ∀ k, x.2.1 x.1 * g k - g x.1 * x.2.1 k = h0 k := fun k => by rw [← hh0]
        refine lc_map (K := K) (walk_zip (K := K) (a := l) (b := ld) (xs := Vc n g) (ys := Vc n x.2.1) (n := n) (by rw [Vc_len, Vc_len]; omega)) hD (((List.range n).map h0).map D.int) (by simp) (by omega) (fun H6 s6 => ⟨s6.seq hl, s6.seq v2⟩) ?_ ?_
        · rintro j y H3 H4 dd hd s3 ⟨T, u, v, rfl, hT, rfl, hu, hv⟩ Qe he
          obtain ⟨hj, rfl⟩ := Vc_get' hu
          obtain ⟨_, rfl⟩ := Vc_get' hv
          rw [List.getElem?_map, List.getElem?_map, List.getElem?_range hj] at hd
          cases hd
          have s34 := s3.trans (same_new (o := .tup [.int (g j), .int (x.2.1 j)]) hT)
          refine ⟨T, _, rfl, .of upd_same, rfl, _, _, rfl, _, _, rfl, rfl, rfl, ?_⟩
          refine ⟨_, rfl, _, rfl, ld, _, _, _, rfl, rfl, s34.seq v2, atI_nat (Vc_get _ xn), _, rfl, _, _, rfl, rfl, wide_mul ((bx.mono (Nat.le_succ _)) x.1 xn) (bg j hj) (by omega) (by omega) (by omega), ?_⟩
          refine ⟨_, rfl, _, rfl, l, _, _, _, rfl, rfl, s34.seq hl, atI_nat (Vc_get _ xn), _, rfl, _, _, rfl, rfl, wide_mul (bg x.1 xn) ((bx.mono (Nat.le_succ _)) j hj) (by omega) (by omega) (by omega), ?_⟩
          refine ⟨_, _, rfl, rfl, ?_⟩
          try dsimp only
          rw [hh]
          exact he _ _ (same_new hT) (.int _)
        intro H6 w6 s6 e6 r6
        have ew : w6 = Vc n h0 := by
          have q := r6.ints_inv
          rw [List.map_map] at q
          exact q
        rw [ew] at e6
        have s16 := s12.trans s6
        have nDp : H Dl = none := s12.free hD
        refine ⟨_, rfl, Dl, rfl, ⟨_, .of e6⟩, ?_⟩
        refine for_list (K := K) (a := Dl) (xs := Vc n h0) (fun i σ H7 => ∃ s5 s6 s7 pt, σ = [some (.ref d), some (.ref Dl), some (.int (x.1 : Int)), some (.ref ld), some (.int pt), s5, s6, s7] ∧ H7 = H6 ∧ 0 ≤ pt ∧ pt.natAbs < 2 ^ (c + bitS B) ∧ ∀ k, k < i → k < n → pt ∣ h0 k) ⟨_, _, _, 0, rfl, rfl, Int.le_refl _, Nat.two_pow_pos _, fun k hk => absurd hk (Nat.not_lt_zero _)⟩ (fun i σ H7 _ ⟨_, _, _, _, _, e, _⟩ => by rw [e]; exact .of e6) ?_ ?_
        · rintro j y σ H7 hy ⟨c5, c6, c7, pt, rfl, rfl, p0, pb, pd⟩
          obtain ⟨hj, rfl⟩ := Vc_get' hy
          refine ⟨_, rfl, _, rfl, pt, h0 j, c + bitS B, rfl, pb, by rw [← hh]; exact hw j hj, by omega, by omega, fun gg g0 g1 g2 g3 => ?_⟩
          refine ⟨_, _, _, gg, rfl, rfl, g0, g3, fun k hk hn => ?_⟩
          by_cases e : k = j
          · rw [e]; exact g2
          · exact Int.dvd_trans g1 (pd k (by omega) hn)
        · rintro σ H7 ⟨c5, c6, c7, pt, rfl, rfl, p0, pb, pd⟩
          rw [Vc_len] at pd
          have m0 : 0 < (if pt > 1 then pt else 1) := by split <;> omega
          have mb : (if pt > 1 then pt else 1).natAbs < 2 ^ (c + bitS B) := by
            split
            · exact pb
            · show 1 < _
              exact Nat.one_lt_two_pow (by omega)
          have md : ∀ k, k < n → (if pt > 1 then pt else 1) ∣ h0 k := fun k hk => by
            by_cases h1 : pt > 1
            · rw [if_pos h1]; exact pd k hk hk
            · rw [if_neg h1]; exact Int.one_dvd _
          generalize hm : (if pt > 1 then pt else 1) = m at m0 mb md
          refine ⟨_, rfl, Dl, rfl, ⟨_, .of e6⟩, fun D2 hD2 => ?_⟩
          refine lc_map (K := K) (walk_list (K := K) (a := Dl) (xs := Vc n h0)) hD2 (((List.range n).map fun k => h0 k / m).map D.int) (by simp [Vc_len]) (by rw [Vc_len]; omega) (fun H8 s8 => .of (s8 _ _ e6)) ?_ ?_
          · rintro j y H8 _ dd hd s8 ⟨rfl, hy⟩ Qe he
            obtain ⟨hj, rfl⟩ := Vc_get' hy
            rw [List.getElem?_map, List.getElem?_map, List.getElem?_range hj] at hd
            cases hd
            refine ⟨rfl, _, rfl, _, rfl, _, _, rfl, ?_⟩
            try dsimp only
            rw [hm]
            exact ⟨_, _, rfl, rfl, wide_div m0 mb (by omega) (by omega), he _ _ (Same.refl _) (.int _)⟩
          intro H8 w8 s8 e8 r8
          have ew8 : w8 = Vc n fun k => h0 k / m := by
            have q := r8.ints_inv
            rw [List.map_map] at q
            exact q
          rw [ew8] at e8
          refine ⟨D2, _, _, _, _, _, _, _, rfl, (s2.trans s6).trans s8, .of e8, ?_, .inr ((s12.trans s6).free hD2)⟩
          rw [tk]
          refine .snoc rg (.inr ⟨hne, m, by omega, fun k hk => ?_⟩)
          show h0 k / m * m = _
          rw [Int.ediv_mul_cancel (md k hk), hh]
      · have hz : g x.1 = 0 := by simpa using z
        refine ⟨l, _, _, _, _, _, _, g, rfl, s2, hl, ?_, fr⟩
        rw [tk]
        exact .snoc rg (.inl ⟨hz, fun _ _ => rfl⟩)
  · rintro σ H' ⟨l, c2, c3, c4, c5, c6, c7, g, rfl, s2, hl, rg, fr⟩
    rw [List.length_map, List.length_map, List.take_length] at rg
    exact ⟨_, rfl, k l H' C g (s1.trans s2) fr hl pc (List.pairwise_map.mp so |>.imp fun {a b} z => by omega) rg⟩
end
def spPut (K : PySem.W.Frag) : Sp := fun vs H Q _ => ∃ (d z r : Addr) (o t : Tb) (kvs : List (Key × V)) (ps : List Pg) (B : List Lead) (q : Pg),
  vs = [.ref d, .ref r] ∧ o.ok ∧ t.ok ∧ o.many ≤ 3 ∧ t.many ≤ 3 ∧ BaseV K H d z (o.many + t.many) kvs B ∧ (∃ oz, H z = some oz) ∧ SB o t ps B ∧ SqT K H r ((cntL o q ++ cntL t q).map fun (n : Nat) => V.int (n : Int)) ∧ q.ok o.signs ∧ q.size + 1 ≤ 2 ^ (ps.length + 1) ∧
  (∀ H', Same H H' → Dn o t ps q → Q (.bl false) H') ∧
  ∀ (H' : Hp) (kvs' : List (Key × V)) (B' : List Lead), But d H H' → BaseV K H' d z (o.many + t.many) kvs' B' → SB o t (ps ++ [q]) B' → Q (.bl true) H'
section
variable {P : Program} {w : World} {K : PySem.W.Frag} {mg : Str → Option Value} {base : Heap}
theorem sc_l_put_in : FnScope ["_law_base", "_law_row", "_law_left", "_law_places", "_law_place", "_law_item"] ["_law_base", "_law_row"] (defScope s_l_put_in) := ⟨rfl, rfl, rfl, by decide +kernel, rfl, by decide +kernel, by decide +kernel⟩
theorem ok_l_put_in (A : Hd K mg) : Cl P w K mg base "_law_put_in" ["_law_base", "_law_row"] 3 (spPut K) := by
  obtain ⟨fd, F⟩ := A.f_l_put_in
  refine Cl.of F A.g_l_put_in sc_l_put_in (fun _ _ _ _ _ _ us hl => match us, hl with | [_, _], _ => rfl) (fun vs H Q E h => (by obtain ⟨d, zz, r, o, t, kvs, ps, B, q, rfl, ook, tok, om3, tm3, BV, ⟨oz, hoz⟩, S, hr', qok, qsz, k0, k1⟩ := h; rfl)) (fun cdv Ar outer s H vs Q E hr h => ?_)
  obtain ⟨d, zz, r, o, t, kvs, ps, B, q, rfl, ook, tok, om3, tm3, BV, ⟨oz, hoz⟩, S, hr', qok, qsz, k0, k1⟩ := h
  refine ⟨_, (pss_cons (ps_set (i := 2) sc_l_put_in.nd rfl (.inl rfl) (pe_cl (ok_l_less A) (hr.mono (by decide)) (by rfl) (pa_cons (pv 0) (pa_cons (pe_callTy call_list_of (by rfl) A.z_list (by decide +kernel) (pa_cons (pv 1) pa_nil)) pa_nil))))
  (pss_cons (ps_setLcF (i := 3) (own := [("_law_place", 4), ("_law_item", 5)]) (by rfl) sc_l_put_in.nd rfl rfl (sw_true rfl rfl rfl (by decide +kernel)) (pi_enum (by rfl) A.z_enumerate (pa_cons (pv 2) pa_nil)) (blkOk_by (by rfl)) (fun _ _ _ _ _ => (pg_tup rfl (pgs_cons (pg_name (i := 4) sc_l_put_in.nd rfl (.inl rfl)) (pgs_cons (pg_name (i := 5) sc_l_put_in.nd rfl (.inl rfl)) pgs_nil)))) (fun _ _ _ _ _ => (pts_one (pt_cmpR op_ne (pv 5) pe_int (nomark _)))) (fun _ _ _ _ _ => (pv 4)))
  (pss_cons (ps_if (pt_cmpR (op_neQ (hu64 hr)) (pv 3) (pe_lst pa_nil) (nomark _)) (pss_one (ps_dput (hu_of hr) (pv 0) (pe_ix ix_list (pv 3) pe_int (fun _ _ => rfl)) (pv 2) rfl)) pss_nil)
  (pss_one (ps_ret (pe_cmpR (op_neQ (hu64 hr)) (pv 3) (pe_lst pa_nil) (nomark _))))))), ?_⟩
  rw [numV_list] at hr'
  have sf := S.few
  have sl := S.len
  have sb := S.bits
  have sm : Sb B.length ≤ Sb 6 := Sb_mono (by omega)
  have s6 : Sb 6 = 1983 := by decide
  have p6 : 2 ^ (ps.length + 1) ≤ 2 ^ 7 := Nat.pow_le_pow_right (by decide) (by omega)
  refine ⟨_, rfl, _, rfl, r, _, rfl, .inr hr', fun l0 hl0 => ?_⟩
  have s1 : Same H (upd H l0 (.lst (Vc (o.many + t.many) (numV o t q)))) := same_new hl0
  have nd0 : l0 ≠ d := (ne_of_none BV.e hl0).symm
  have nz0 : l0 ≠ zz := (ne_of_none hoz hl0).symm
  refine ⟨d, zz, l0, o.many + t.many, 5 * q.size, numV o t q, kvs, B, rfl, BV.same s1, .of upd_same, (num_bd ook tok q).bdn, fun x hx => ⟨S.bd x hx, S.lt x hx⟩, by have := q.size_pos; omega, by omega, by omega, by omega, fun l H2 C g s2 fr hl pc so rg => ?_⟩
  have nld : l ≠ d := fun e => by
    subst e
    rcases fr with e | e
    · exact nd0 e.symm
    · have q := (s1 _ _ BV.e).symm.trans e; cases q
  have nlz : l ≠ zz := fun e => by
    subst e
    rcases fr with e | e
    · exact nz0 e.symm
    · have q := (s1 _ _ hoz).symm.trans e; cases q
  clear fr
  have s12 := s1.trans s2
  generalize upd H l0 (.lst (Vc (o.many + t.many) (numV o t q))) = H1 at s1 s2
  generalize hn : o.many + t.many = n at *
  refine ⟨_, rfl, l, _, rfl, hl, fun Dl hD => ?_⟩
  refine lc_same (K := K) (walk_enum (K := K) (a := l) (xs := Vc n g)) hD (fun i ds => ds = (((List.range i).filter fun k => g k ≠ 0).map fun (k : Nat) => (k : Int)).map D.int) (by rw [Vc_len]; omega) (fun H6 s6 => s6.seq hl) rfl ?_ ?_
  · rintro j y H3 H4 ds hj s3 ⟨T, u, v, rfl, hT, rfl, hu, hv⟩ hds Qe Qn he hn'
    rw [Vc_len] at hj
    cases hu
    obtain ⟨_, rfl⟩ := Vc_get' hv
    refine ⟨T, _, rfl, .of upd_same, rfl, _, _, rfl, _, _, rfl, rfl, rfl, ?_⟩
    refine ⟨_, rfl, rfl, _, rfl, ite2 (fun z => ?_) (fun z => ?_)⟩
    · refine ⟨_, rfl, he _ _ _ (same_new hT) (.int _) ?_⟩
      have gz : g j ≠ 0 := fun q => by simp [q] at z
      rw [hds, List.range_succ, List.filter_append, List.map_append, List.map_append]
      simp [gz]
    · have gz : g j = 0 := by simpa using z
      refine hn' _ (same_new hT) ?_
      rw [hds, List.range_succ, List.filter_append]
      simp [gz]
  intro H6 ws ds s6' e6 r6 hds _
  rw [Vc_len] at hds
  subst hds
  have ew := r6.ints_inv
  subst ew
  have hmem : ∀ k, k ∈ ((List.range n).filter fun k => g k ≠ 0) ↔ k < n ∧ g k ≠ 0 := fun k => by simp [List.mem_filter]
  have hup : ((List.range n).filter fun k => g k ≠ 0).Pairwise (· < ·) := List.Pairwise.filter _ List.pairwise_lt_range
  generalize ((List.range n).filter fun k => g k ≠ 0) = F at *
  have s16 := s12.trans s6'
  refine ⟨_, rfl, sz0, fun q1 hq1 => ?_⟩
  have s7 := same_new (o := .lst []) hq1
  have dd := dep_ints (F.map fun (k : Nat) => (k : Int))
  refine .inr ⟨Dl, q1, _, [], _, [], rfl, rfl, .of (s7 _ _ e6), .of upd_same, r6.mono (tu_same s7), .nil, by omega, by simp [D.pys, PyData.depthAll], _, rfl, ite2 (fun z => ?_) (fun z => ?_)⟩
  rotate_left
  · have e : F = [] := by simpa using z
    have zero : ∀ k, k < n → g k = 0 := fun k hk => Classical.byContradiction fun hne => by
      have q := (hmem k).mpr ⟨hk, hne⟩
      rw [e] at q
      cases q
    have dn : Dn o t ps q := S.none pc (by rw [hn]; exact rg) (by rw [hn]; exact zero)
    refine ⟨_, rfl, sz0, fun q2 hq2 => ?_⟩
    have s8 := s7.trans (same_new (o := .lst []) hq2)
    refine .inr ⟨Dl, q2, _, [], _, [], rfl, rfl, .of (s8 _ _ e6), .of upd_same, r6.mono (tu_same s8), .nil, by omega, by simp [D.pys, PyData.depthAll], ?_⟩
    subst e
    exact k0 _ (s16.trans s8) dn
  · have e : F ≠ [] := fun h => by simp [h] at z
    match F, e with
    | p :: F', _ =>
      obtain ⟨hp, hpn⟩ := (hmem p).mp (List.mem_cons_self ..)
      have hlow : ∀ k, k < p → g k = 0 := fun k hk => Classical.byContradiction fun hne => by
        rcases List.mem_cons.mp ((hmem k).mpr ⟨by omega, hne⟩) with h | h
        · omega
        · have := (List.pairwise_cons.mp hup).1 k h
          omega
      have s17 := s16.trans s7
      have s27 := s6'.trans s7
      have e7 := s7 _ _ e6
      have r7 := r6.mono (tu_same s7)
      generalize upd H6 q1 (.lst []) = H7 at s17 s27 e7 r7
      obtain ⟨S', npl⟩ := S.step ook tok pc so (by rw [hn]; exact rg) qok qsz (by rw [hn]; exact hp) hpn hlow
      have BV7 := BV.same s17
      have kl : kvs.length = B.length := by
        have q := congrArg List.length BV.keys
        simpa using q
      have nv : valV kvs (.inl (p : Int)) = none := by
        cases hv : valV kvs (.inl (p : Int)) with
        | none => rfl
        | some z =>
          have q := valV_in hv
          rw [BV.keys] at q
          obtain ⟨x, hx, e2⟩ := List.mem_map.mp q
          have e3 : x.1 = p := Int.ofNat_inj.mp (Sum.inl.inj e2)
          exact absurd (List.mem_map.mpr ⟨x, hx, e3⟩) npl
      refine ⟨_, rfl, _, rfl, _, rfl, Dl, _, _, _, rfl, rfl, .of e7, atI_nat (j := 0) rfl, d, _, rfl, DPut.k (k := .inl (p : Int)) BV7.e (sz_lt (by omega)), ?_⟩
      have b8 : But d H (upd H7 d (.dK (putK kvs (.inl (p : Int)) (.ref l)))) := But.upd s17
      have nDd : Dl ≠ d := ne_of e7 BV7.e (by intro z; cases z)
      have hl7 := s27.seq hl
      have t8 : Tu H7 (upd H7 d (.dK (putK kvs (.inl (p : Int)) (.ref l)))) := tu_upd BV7.e rfl
      have e8 := (show (upd H7 d (.dK (putK kvs (.inl (p : Int)) (.ref l)))) Dl = H7 Dl from upd_ne nDd).trans e7
      have r8 := r7.mono t8
      have BV8 : BaseV K (upd H7 d (.dK (putK kvs (.inl (p : Int)) (.ref l)))) d zz n (putK kvs (.inl (p : Int)) (.ref l)) (B ++ [(p, g, 5 * q.size + bitS B)]) := by
        refine ⟨upd_same, by rw [putK_new _ nv, List.map_append, List.map_append, BV.keys]; rfl, fun x hx => ?_⟩
        rcases List.mem_append.mp hx with hx | hx
        · obtain ⟨l', h1, h2, h3, h4⟩ := BV7.at_ x hx
          refine ⟨l', ?_, seq_upd h2 h3, h3, h4⟩
          rw [valV_put, if_neg (fun e => npl (List.mem_map.mpr ⟨x, hx, Int.ofNat_inj.mp (Sum.inl.inj e)⟩))]
          exact h1
        · rw [List.mem_singleton.mp hx]
          refine ⟨l, ?_, seq_upd hl7 nld, nld, nlz⟩
          rw [valV_put, if_pos rfl]
      generalize upd H7 d (.dK (putK kvs (.inl (p : Int)) (.ref l))) = H8 at b8 t8 e8 r8 BV8
      refine ⟨_, rfl, sz0, fun q2 hq2 => ?_⟩
      have s9 := same_new (o := .lst []) hq2
      refine .inr ⟨Dl, q2, _, [], _, [], rfl, rfl, .of (s9 _ _ e8), .of upd_same, r8.mono (tu_same s9), .nil, by omega, by simp [D.pys, PyData.depthAll], ?_⟩
      exact k1 _ _ _ (fun a u na ha => s9 _ _ (b8 a u na ha)) (BV8.same s9) S'
end
end K56
set_option Elab.async false
set_option linter.all false
set_option maxRecDepth 100000
set_option maxHeartbeats 4000000
namespace K56
open PySem PySem.Spec PyProof.Rows L2
/-! ### _law_span -/
def numD (o t : Tb) (p : Pg) : D := natD (cntL o p ++ cntL t p)
/-- the span's list of rows and its base, as they stand -/
structure SpI (K : PySem.W.Frag) (o t : Tb) (H0 H : Hp) (d rl : Addr) (ps : List Pg) (B : List Lead) (kvs : List (Key × V)) (ws : List V) : Prop where
  s : Same H0 H
  nd : H0 d = none
  nr : H0 rl = none
  bv : BaseV K H d rl (o.many + t.many) kvs B
  sb : SB o t ps B
  er : H rl = some (.lst ws)
  rr : RpL K H ws (ps.map (numD o t))
section
variable {K : PySem.W.Frag} {o t : Tb} {H0 H H' : Hp} {d rl : Addr} {ps : List Pg} {B : List Lead} {kvs : List (Key × V)} {ws : List V}
theorem SpI.same (h : SpI K o t H0 H d rl ps B kvs ws) (s : Same H H') : SpI K o t H0 H' d rl ps B kvs ws := ⟨h.s.trans s, h.nd, h.nr, h.bv.same s, h.sb, s _ _ h.er, h.rr.mono (tu_same s)⟩
theorem SpI.few (h : SpI K o t H0 H d rl ps B kvs ws) : ps.length ≤ o.many + t.many := by rw [← h.sb.len]; exact h.sb.few
theorem SpI.wl (h : SpI K o t H0 H d rl ps B kvs ws) : ws.length = ps.length := by rw [h.rr.length, List.length_map]
end
def spSpan (K : PySem.W.Frag) : Sp := fun vs H Q _ => ∃ (ov tv : V) (o t : Tb), vs = [ov, tv] ∧ Rp K H ov o.d ∧ o.ok ∧ Rp K H tv t.d ∧ t.ok ∧ t.signs = o.signs ∧ o.many ≤ 3 ∧ t.many ≤ 3 ∧
  ∀ (q d rl : Addr) (ws : List V) (ps : List Pg) (H' : Hp), Same H H' → SqT K H' q [.ref d, .ref rl] → H' rl = some (.lst ws) → RpL K H' ws (ps.map (numD o t)) → Span o t ps → Q (.ref q) H'
/-- couples of rows -/
def cplD (o t : Tb) (c : List Pg) : D := .tup (c.map (numD o t))
def Cl1 (o t : Tb) (ps : List Pg) (n s : Nat) : Prop := ∀ j, j < n → ∀ a, ps[j]? = some a → Dn o t ps (.n1 s a)
def Cl2 (o t : Tb) (ps : List Pg) (n s : Nat) : Prop := ∀ i j, i < n → j < n → ∀ a b, ps[i]? = some a → ps[j]? = some b → Dn o t ps (.n2 s a b)
theorem at_more {α : Type} {ps rs : List α} {n j : Nat} {a : α} (hn : n ≤ ps.length) (hj : j < n) (h : (ps ++ rs)[j]? = some a) : ps[j]? = some a := by rwa [List.getElem?_append_left (by omega)] at h
theorem Cl1.more {o t : Tb} {ps : List Pg} {n s : Nat} (h : Cl1 o t ps n s) (hn : n ≤ ps.length) (rs : List Pg) : Cl1 o t (ps ++ rs) n s := fun j hj a ha => (h j hj a (at_more hn hj ha)).more
theorem Cl2.more {o t : Tb} {ps : List Pg} {n s : Nat} (h : Cl2 o t ps n s) (hn : n ≤ ps.length) (rs : List Pg) : Cl2 o t (ps ++ rs) n s := fun i j hi hj a b ha hb => (h i j hi hj a b (at_more hn hi ha) (at_more hn hj hb)).more
/-- all but two objects is kept -/
def Butt (d rl : Addr) (H H' : Hp) : Prop := ∀ x o, x ≠ d → x ≠ rl → H x = some o → H' x = some o
theorem Butt.trans {d rl : Addr} {H H1 H2 : Hp} (a : Butt d rl H H1) (b : Butt d rl H1 H2) : Butt d rl H H2 := fun x o n1 n2 h => b x o n1 n2 (a x o n1 n2 h)
theorem Butt.of {d rl : Addr} {H H' : Hp} (s : Same H H') : Butt d rl H H' := fun x o _ _ h => s x o h
theorem Butt.tu {d rl : Addr} {H H' : Hp} {o1 o2 : HO} (b : Butt d rl H H') (h1 : H d = some o1) (n1 : noTup o1 = true) (h2 : H rl = some o2) (n2 : noTup o2 = true) : Tu H H' := fun x xs r => by
  have nd : x ≠ d := fun e => by
    subst e
    rcases r with r | ⟨z, r⟩
    · rw [h1] at r; cases r; cases n1
    · rw [h1] at r; cases r; cases n1
  have nr : x ≠ rl := fun e => by
    subst e
    rcases r with r | ⟨z, r⟩
    · rw [h2] at r; cases r; cases n2
    · rw [h2] at r; cases r; cases n2
  rcases r with r | ⟨z, r⟩
  · exact .inl (b x _ nd nr r)
  · exact .inr ⟨z, b x _ nd nr r⟩
theorem same_but' {H0 H H' : Hp} {d : Addr} (a : Same H0 H) (e : But d H H') (h : H0 d = none) : Same H0 H' := fun b o hb => e b o (fun z => by rw [z, h] at hb; cases hb) (a b o hb)
theorem put_rows {K : PySem.W.Frag} {o t : Tb} {H0 H : Hp} {d rl ra : Addr} {ps : List Pg} {B : List Lead} {kvs : List (Key × V)} {ws : List V} {σ : L2.St} {q : Pg} {Q : V → Hp → Prop} (I : SpI K o t H0 H d rl ps B kvs ws) (h3 : σ[3]? = some (some (.ref d))) (h7 : σ[7]? = some (some (.ref ra)))
    (hra : SqT K H ra ((cntL o q ++ cntL t q).map fun (n : Nat) => V.int (n : Int))) (ook : o.ok) (tok : t.ok) (om3 : o.many ≤ 3) (tm3 : t.many ≤ 3) (qok : q.ok o.signs) (qsz : q.size + 1 ≤ 2 ^ (ps.length + 1))
    (k : ∀ (H' : Hp) (rs : List Pg) (B' : List Lead) (kvs' : List (Key × V)) (ws' : List V), Butt d rl H H' → Tu H H' → SpI K o t H0 H' d rl (ps ++ rs) B' kvs' ws' → Dn o t (ps ++ rs) q → Q .non H') :
    tCons (tOp rRep (tLst (tCons (tVar 7) tNil)) (tCB (fun xs H Q => (∃ i, xs = [V.int i] ∧ Q (V.int i) H) ∨ ∃ k, xs = [V.bl k] ∧ Q (V.int (if k = true then 1 else 0)) H) (tCons (tCall (spPut K) [] E0 (tCons (tVar 3) (tCons (tVar 7) tNil))) tNil))) tNil σ H (fun xs H2 => rExtend (.ref rl) xs H2 Q) := by
  have few := I.few
  have ndr : d ≠ rl := fun e => by
    have h1 := I.bv.e
    rw [e, I.er] at h1
    cases h1
  refine ⟨_, h7, sz1, fun b1 hb1 => ?_⟩
  have I1 := I.same (same_new (o := .lst [V.ref ra]) hb1)
  have t1 := tu_new (o := .lst [V.ref ra]) hb1
  have e1 : (upd H b1 (.lst [V.ref ra])) b1 = some (.lst [V.ref ra]) := upd_same
  have nb1 : b1 ≠ d := (ne_of_none I.bv.e hb1).symm
  have nbr : b1 ≠ rl := (ne_of_none I.er hb1).symm
  have bt1 : Butt d rl H (upd H b1 (.lst [V.ref ra])) := .of (same_new hb1)
  generalize upd H b1 (.lst [V.ref ra]) = H1 at I1 t1 e1 bt1
  have tuD : ∀ {H'}, But d H1 H' → Tu H1 H' := fun b x xs r => by
    have nd : x ≠ d := fun e => by
      subst e
      have h1 := I1.bv.e
      rcases r with r | ⟨z, r⟩
      · rw [h1] at r; cases r
      · rw [h1] at r; cases r
    rcases r with r | ⟨z, r⟩
    · exact .inl (b x _ nd r)
    · exact .inr ⟨z, b x _ nd r⟩
  refine ⟨_, h3, _, h7, d, rl, ra, o, t, kvs, ps, B, q, rfl, ook, tok, om3, tm3, I1.bv, ⟨_, I1.er⟩, I1.sb, t1.sq hra, qok, qsz, fun H2 s2 dn => ?_, fun H2 kvs2 B2 b2 BV2 S2 => ?_⟩
  · have I2 := I1.same s2
    refine .inr ⟨false, rfl, b1, _, _, rfl, rfl, s2 _ _ e1, by decide, by decide, by simp, fun b3 hb3 => ?_⟩
    have hb3' : H2 b3 = none := hb3
    have I3 := I2.same (same_new (o := .lst (List.replicate (if false = true then (1 : Int) else 0).toNat [V.ref ra]).flatten) hb3)
    have e3 : (upd H2 b3 (.lst (List.replicate (if false = true then (1 : Int) else 0).toNat [V.ref ra]).flatten)) b3 = some (.lst []) := upd_same
    have bt3 : Butt d rl H1 (upd H2 b3 (.lst (List.replicate (if false = true then (1 : Int) else 0).toNat [V.ref ra]).flatten)) := .of (s2.trans (same_new hb3))
    generalize upd H2 b3 (.lst (List.replicate (if false = true then (1 : Int) else 0).toNat [V.ref ra]).flatten) = H3 at I3 bt3 e3
    refine ⟨rl, b3, _, [], rfl, rfl, I3.er, e3, by rw [I3.wl]; exact sz_ok (by simp only [List.length_nil]; omega), ?_⟩
    have t4 : Tu H3 (upd H3 rl (.lst (ws ++ []))) := tu_upd I3.er rfl
    have bt4 : Butt d rl H (upd H3 rl (.lst (ws ++ []))) := (bt1.trans bt3).trans fun x u _ n2 h => by rw [upd_ne n2]; exact h
    refine k _ [] B kvs (ws ++ []) bt4 (bt4.tu I.bv.e rfl I.er rfl) ⟨same_mut I3.s I.nr, I.nd, I.nr, ?_, by rw [List.append_nil]; exact I3.sb, upd_same, ?_⟩ (by rw [List.append_nil]; exact dn)
    · refine ⟨by rw [upd_ne ndr]; exact I3.bv.e, I3.bv.keys, fun x hx => ?_⟩
      obtain ⟨l, h1, h2, h3, h4⟩ := I3.bv.at_ x hx
      exact ⟨l, h1, seq_upd h2 h4, h3, h4⟩
    · have q := I3.rr.mono t4
      have e9 : ps ++ [] = ps := List.append_nil _
      rw [e9]
      exact (List.append_nil ws).symm ▸ q
  · have e2 := b2 _ _ nb1 e1
    have hra2 := (tuD b2).sq (t1.sq hra)
    have rr2 := I1.rr.mono (tuD b2)
    have er2 := b2 _ _ ndr.symm I1.er
    have s02 : Same H0 H2 := same_but' I1.s b2 I.nd
    refine .inr ⟨true, rfl, b1, _, _, rfl, rfl, e2, by decide, by decide, sz1, fun b3 hb3 => ?_⟩
    have s3 := same_new (o := .lst (List.replicate (if true = true then (1 : Int) else 0).toNat [V.ref ra]).flatten) hb3
    have e3 : (upd H2 b3 (.lst (List.replicate (if true = true then (1 : Int) else 0).toNat [V.ref ra]).flatten)) b3 = some (.lst [V.ref ra]) := upd_same
    generalize upd H2 b3 (.lst (List.replicate (if true = true then (1 : Int) else 0).toNat [V.ref ra]).flatten) = H3 at s3 e3
    refine ⟨rl, b3, _, [V.ref ra], rfl, rfl, s3 _ _ er2, e3, by rw [I1.wl]; exact sz_ok (by simp only [List.length_cons, List.length_nil]; omega), ?_⟩
    have t4 : Tu H3 (upd H3 rl (.lst (ws ++ [V.ref ra]))) := tu_upd (s3 _ _ er2) rfl
    have bt4 : Butt d rl H (upd H3 rl (.lst (ws ++ [V.ref ra]))) := (bt1.trans fun x u n1 _ h => s3 _ _ (b2 x u n1 h)).trans fun x u _ n2 h => by rw [upd_ne n2]; exact h
    have BV3 := BV2.same s3
    refine k _ [q] B2 kvs2 (ws ++ [V.ref ra]) bt4 (bt4.tu I.bv.e rfl I.er rfl) ⟨same_mut (s02.trans s3) I.nr, I.nd, I.nr, ?_, S2, upd_same, ?_⟩ (Dn.self (by simp))
    · refine ⟨by rw [upd_ne ndr]; exact BV3.e, BV3.keys, fun x hx => ?_⟩
      obtain ⟨l, h1, h2, h3, h4⟩ := BV3.at_ x hx
      exact ⟨l, h1, seq_upd h2 h4, h3, h4⟩
    · rw [List.map_append]
      exact ((rr2.mono (tu_same s3)).app (.one (nats_of ((tu_same s3).sq hra2)))).mono t4
section
variable {P : Program} {w : World} {K : PySem.W.Frag} {mg : Str → Option Value} {base : Heap}
theorem sc_l_span : FnScope ["_law_one", "_law_other", "_law_at", "_law_base", "_law_rows", "_law_sign", "_law_many", "_law_row", "_law_couples", "_law_its", "_law_couple"] ["_law_one", "_law_other"] (defScope s_l_span) := ⟨rfl, rfl, rfl, by decide +kernel, rfl, by decide +kernel, by decide +kernel⟩
theorem ok_l_span (A : Hd K mg) : Cl P w K mg base "_law_span" ["_law_one", "_law_other"] 4 (spSpan K) := by
  obtain ⟨fd, F⟩ := A.f_l_span
  refine Cl.of F A.g_l_span sc_l_span (fun _ _ _ _ _ _ us hl => match us, hl with | [_, _], _ => rfl) (fun vs H Q E h => (by obtain ⟨ov, tv, o, t, rfl, ro, ook, rt, tok, hsg, om3, tm3, k⟩ := h; rfl)) (fun cdv Ar outer s H vs Q E hr h => ?_)
  obtain ⟨ov, tv, o, t, rfl, ro, ook, rt, tok, hsg, om3, tm3, k⟩ := h
  refine ⟨_, (pss_cons (ps_asg (pe_tup (pa_cons pe_dnewK (pa_cons (pe_lst pa_nil) pa_nil))) (pg_tup rfl (pgs_cons (pg_name (i := 3) sc_l_span.nd rfl (.inl rfl)) (pgs_cons (pg_name (i := 4) sc_l_span.nd rfl (.inr rfl)) pgs_nil))))
  (pss_cons (ps_for PassesOwn.never (by rfl) (pi_enumT (by rfl) A.z_enumerate (pa_cons (pe_ix ix_tup (pv 0) pe_int (fun _ _ => rfl)) pa_nil)) (pg_tup rfl (pgs_cons (pg_name (i := 5) sc_l_span.nd rfl (.inl rfl)) (pgs_cons (pg_name (i := 6) sc_l_span.nd rfl (.inl rfl)) pgs_nil)))
  (pss_one (ps_if (pt_cmpR op_eq (pv 6) pe_int (nomark _)) (pss_cons (ps_set (i := 7) sc_l_span.nd rfl (.inl rfl) (pe_cl (ok_l_led_numbers A) (hr.mono (by decide)) (by rfl) (pa_cons (pv 0) (pa_cons (pv 1) (pa_cons (pv 5) (pa_cons (pe_tup pa_nil) pa_nil))))))
  (pss_one (ps_expr (pe_bm PySem.F.plainAttrs_list PySem.F.slot_list_extend PySem.F.type_list_extend mt_extend (pv 4) (pa_cons (pe_op op_rep (pe_lst (pa_cons (pv 7) pa_nil)) (pe_callTy call_int1 (by rfl) A.z_int (by decide +kernel) (pa_cons (pe_cl (ok_l_put_in A) (hr.mono (by decide)) (by rfl) (pa_cons (pv 3) (pa_cons (pv 7) pa_nil))) pa_nil))) pa_nil))))) pss_nil)))
  (pss_cons (ps_set (i := 2) sc_l_span.nd rfl (.inr rfl) pe_int)
  (pss_cons (ps_while PassesOwn.never (pt_cmpR op_lt (pv 2) (pe_callB call_len_seq (by rfl) A.z_len PySem.boot_len (pa_cons (pv 4) pa_nil)) (nomark _))
  (pss_cons (ps_for PassesOwn.never (by rfl) (pi_enumT (by rfl) A.z_enumerate (pa_cons (pe_ix ix_tup (pv 0) pe_int (fun _ _ => rfl)) pa_nil)) (pg_tup rfl (pgs_cons (pg_name (i := 5) sc_l_span.nd rfl (.inl rfl)) (pgs_cons (pg_name (i := 6) sc_l_span.nd rfl (.inl rfl)) pgs_nil)))
  (pss_mid (ps_set (i := 8) sc_l_span.nd rfl (.inl rfl) (pe_ifExp (pt_cmpR op_eq (pv 6) pe_int (nomark _)) (pe_lst (pa_cons (pe_tup (pa_cons (pe_ix ix_list (pv 4) (pv 2) (fun _ _ => rfl)) pa_nil)) pa_nil)) (pe_lcF (own := [("_law_its", 9)]) (by rfl) sc_l_span.nd (pi_list (pe_slice sl_list (pv 4) po_none (po_some (pe_op op_add (pv 2) pe_int)))) (blkOk_by (by rfl)) (fun _ _ _ _ _ => (pg_name (i := 9) sc_l_span.nd rfl (.inl rfl))) (fun _ _ _ _ _ => pts_nil) (fun _ _ _ _ _ => (pe_tup (pa_cons (pe_ix ix_list (pv 4) (pv 2) (fun _ _ => rfl)) (pa_cons (pv 9) pa_nil)))))))
  (pss_mid (ps_set (i := 8) sc_l_span.nd rfl (.inl rfl) (pe_op op_cat (pv 8) (pe_ifExp (pt_cmpR op_eq (pv 6) pe_int (nomark _)) (pe_lcF (own := [("_law_couple", 10)]) (by rfl) sc_l_span.nd (pi_list (pv 8)) (blkOk_by (by rfl)) (fun _ _ _ _ _ => (pg_name (i := 10) sc_l_span.nd rfl (.inl rfl))) (fun _ _ _ _ _ => pts_nil) (fun _ _ _ _ _ => (pe_rev2 (pv 10)))) (pe_lst pa_nil))))
  (pss_one (ps_for PassesOwn.never (by rfl) (pi_list (pe_ifExp (pt_cmpR op_gt (pv 6) pe_int (nomark _)) (pv 8) (pe_lst pa_nil))) (pg_name (i := 9) sc_l_span.nd rfl (.inl rfl))
  (pss_cons (ps_set (i := 7) sc_l_span.nd rfl (.inl rfl) (pe_cl (ok_l_led_numbers A) (hr.mono (by decide)) (by rfl) (pa_cons (pv 0) (pa_cons (pv 1) (pa_cons (pv 5) (pa_cons (pv 9) pa_nil))))))
  (pss_one (ps_expr (pe_bm PySem.F.plainAttrs_list PySem.F.slot_list_extend PySem.F.type_list_extend mt_extend (pv 4) (pa_cons (pe_op op_rep (pe_lst (pa_cons (pv 7) pa_nil)) (pe_callTy call_int1 (by rfl) A.z_int (by decide +kernel) (pa_cons (pe_cl (ok_l_put_in A) (hr.mono (by decide)) (by rfl) (pa_cons (pv 3) (pa_cons (pv 7) pa_nil))) pa_nil))) pa_nil))))))))))
  (pss_one (ps_aug (i := 2) sc_l_span.nd rfl (.inr rfl) pe_int ip_add))))
  (pss_one (ps_ret (pe_tup (pa_cons (pv 3) (pa_cons (pv 4) pa_nil))))))))), ?_⟩
  obtain ⟨oa, osa, oea, oes, rfl, hoa, hosa, _, _⟩ := tb_inv ro
  refine fun d hd => ⟨sz0, fun rl hrl => ⟨sz2, fun q0 hq0 => ?_⟩⟩
  have nds : o.many + t.many ≤ 6 := by omega
  have s6 := ook.s6
  have ndr : d ≠ rl := ne_of_none upd_same hrl
  have I0 : SpI K o t H (upd (upd (upd H d (.dK [])) rl (.lst [])) q0 (.tup [.ref d, .ref rl])) d rl [] [] [] [] := SpI.same ⟨(same_new hd).trans (same_new hrl), hd, (same_new hd).free hrl, ⟨same_new hrl _ _ upd_same, rfl, fun x hx => by cases hx⟩, SB.nil, upd_same, .nil⟩ (same_new hq0)
  refine ⟨q0, _, rfl, .of upd_same, rfl, _, _, rfl, _, _, rfl, rfl, ?_⟩
  try dsimp only
  generalize upd (upd (upd H d (.dK [])) rl (.lst [])) q0 (.tup [.ref d, .ref rl]) = H1 at I0
  clear hrl hq0
  refine ⟨_, rfl, oa, _, _, _, rfl, rfl, (tu_same I0.s).sq hoa, atI_nat (j := 1) rfl, osa, _, rfl, (tu_same I0.s).sq hosa, ?_⟩
  refine for_it (walk_enumT (K := K) (xs := o.signs.map fun (n : Nat) => V.int (n : Int))) (fun i σ H' => ∃ c2 c5 c6 c7 c8 c9 c10 ps B kvs ws, σ = [some (.ref oa), some tv, c2, some (.ref d), some (.ref rl), c5, c6, c7, c8, c9, c10] ∧ SpI K o t H H' d rl ps B kvs ws ∧ ∀ s, s < i → o.signs[s]? = some 0 → Dn o t ps (.n0 s))
    ⟨_, _, _, _, _, _, _, _, _, _, _, rfl, I0, fun s hs => absurd hs (Nat.not_lt_zero _)⟩ (fun i σ H' _ ⟨_, _, _, _, _, _, _, _, _, _, _, _, I, _⟩ => (tu_same I.s).sq hosa) ?_ ?_
  · rintro i x σ H' H2 hi ⟨c2, c5, c6, c7, c8, c9, c10, ps, B, kvs, ws, rfl, I, hd0⟩ ⟨T, u, v, rfl, hT, rfl, hu, hv⟩
    rw [List.length_map] at hi
    cases hu
    try dsimp only at hv
    have hg : o.signs[i]? = some o.signs[i] := by simp [hi]
    rw [List.getElem?_map, hg] at hv
    cases hv
    generalize o.signs[i] = m at hg
    have I2 := I.same (same_new (o := .tup [.int (i : Int), .int (m : Int)]) hT)
    refine ⟨T, _, rfl, .of upd_same, rfl, _, _, rfl, _, _, rfl, rfl, ?_⟩
    refine ⟨_, rfl, rfl, _, rfl, ite2 (fun z => ?_) (fun z => ?_)⟩
    rotate_left
    · refine ⟨_, _, _, _, _, _, _, ps, B, kvs, ws, rfl, I2, fun s hs h0 => ?_⟩
      by_cases e : s = i
      · subst e
        rw [hg] at h0
        cases h0
        exact absurd (decide_eq_true rfl) z
      · exact hd0 s (by omega) h0
    have m0 : m = 0 := by
      have z2 := of_decide_eq_true z
      injection z2 with z3
      omega
    subst m0
    generalize upd H' T (.tup [.int (i : Int), .int ((0 : Nat) : Int)]) = H3 at I2
    refine ⟨_, rfl, _, rfl, _, rfl, sz0, fun q1 hq1 => ?_⟩
    have I3 := I2.same (same_new (o := .tup []) hq1)
    refine ⟨.ref oa, tv, i, q1, [], o, t, [], rfl, ro.mono (tu_same I3.s), ook, rt.mono (tu_same I3.s), tok, hsg, hg, .of upd_same, .nil, (fun p hp => by cases hp), fun rv H4 s4 r4 => ?_⟩
    obtain ⟨ra, rfl, hra⟩ := nats_inv r4
    have I4 := I3.same s4
    have qok : (mkP i []).ok o.signs := hg
    have qsz : (mkP i []).size + 1 ≤ 2 ^ (ps.length + 1) := by
      have : 1 ≤ 2 ^ ps.length := Nat.one_le_two_pow
      rw [Nat.pow_succ]
      show 1 + 1 ≤ _
      omega
    refine ⟨_, rfl, .inl ⟨rfl, _, .of I4.er⟩, ?_⟩
    refine put_rows I4 (q := mkP i []) rfl rfl hra ook tok om3 tm3 qok qsz fun H5 rs B5 kvs5 ws5 _ _ I5 dn => ?_
    refine ⟨_, _, _, _, _, _, _, ps ++ rs, B5, kvs5, ws5, rfl, I5, fun s hs h0 => ?_⟩
    by_cases e : s = i
    · rw [e]; exact dn
    · exact (hd0 s (by omega) h0).more
  · rintro σ H' ⟨c2, c5, c6, c7, c8, c9, c10, ps, B, kvs, ws, rfl, I, hd0⟩
    rw [List.length_map] at hd0
    have hd0' : ∀ s, o.signs[s]? = some 0 → Dn o t ps (.n0 s) := fun s hs => hd0 s (List.getElem?_eq_some_iff.mp hs).1 hs
    clear hd0 I0
    refine ⟨fun m σ H' => ∃ n c5 c6 c7 c8 c9 c10 ps B kvs ws, σ = [some (.ref oa), some tv, some (.int ((n : Nat) : Int)), some (.ref d), some (.ref rl), c5, c6, c7, c8, c9, c10] ∧ SpI K o t H H' d rl ps B kvs ws ∧ n ≤ ps.length ∧ (∀ s, o.signs[s]? = some 0 → Dn o t ps (.n0 s)) ∧ (∀ s, o.signs[s]? = some 1 → Cl1 o t ps n s) ∧ (∀ s, o.signs[s]? = some 2 → Cl2 o t ps n s) ∧ m = 8 - n,
      ⟨_, 0, _, _, _, _, _, _, ps, B, kvs, ws, rfl, I, Nat.zero_le _, hd0', fun s _ j hj => absurd hj (Nat.not_lt_zero _), fun s _ i j hj => absurd hj (Nat.not_lt_zero _), rfl⟩, ?_⟩
    clear I hd0' ps B kvs ws
    rintro m σ H' ⟨n, c5, c6, c7, c8, c9, c10, ps, B, kvs, ws, rfl, I, hn, h0, h1, h2, rfl⟩
    have few := I.few
    refine ⟨_, rfl, _, rfl, rl, ws, rfl, .inl (.of I.er), _, _, rfl, rfl, _, rfl, ite2 (fun z => ?_) (fun z => ?_)⟩
    rotate_left
    · have nl : n = ps.length := by
        have q : ¬ ((n : Int) < (ws.length : Int)) := fun h => z (decide_eq_true h)
        rw [I.wl] at q
        omega
      subst nl
      refine ⟨_, rfl, _, rfl, sz2, fun q hq => ?_⟩
      have I2 := I.same (same_new (o := .tup [.ref d, .ref rl]) hq)
      refine k q d rl ws ps _ I2.s (.of upd_same) I2.er I2.rr (I.sb.done ook tok hsg (by omega) h0 (fun s hs a ha => ?_) (fun s hs a ha b hb => ?_))
      · obtain ⟨j, hj, e⟩ := List.getElem_of_mem ha
        exact h1 s hs j hj a (by rw [List.getElem?_eq_getElem hj, e])
      · obtain ⟨j, hj, e⟩ := List.getElem_of_mem ha
        obtain ⟨i, hi, e'⟩ := List.getElem_of_mem hb
        exact h2 s hs j i hj hi a b (by rw [List.getElem?_eq_getElem hj, e]) (by rw [List.getElem?_eq_getElem hi, e'])
    have nlt : n < ps.length := by
      have q := of_decide_eq_true z
      rw [I.wl] at q
      omega
    refine ⟨fun σ' H2 => ∃ c5 c6 c7 c8 c9 c10 ps B kvs ws, σ' = [some (.ref oa), some tv, some (.int ((n + 1 : Nat) : Int)), some (.ref d), some (.ref rl), c5, c6, c7, c8, c9, c10] ∧ SpI K o t H H2 d rl ps B kvs ws ∧ n + 1 ≤ ps.length ∧ (∀ s, o.signs[s]? = some 0 → Dn o t ps (.n0 s)) ∧ (∀ s, o.signs[s]? = some 1 → Cl1 o t ps (n + 1) s) ∧ (∀ s, o.signs[s]? = some 2 → Cl2 o t ps (n + 1) s), ?_, ?_⟩
    · rintro σ' H2 ⟨c5, c6, c7, c8, c9, c10, ps', B', kvs', ws', rfl, I', hn', h0', h1', h2'⟩
      exact ⟨_, by omega, n + 1, c5, c6, c7, c8, c9, c10, ps', B', kvs', ws', rfl, I', hn', h0', h1', h2', rfl⟩
    refine ⟨_, rfl, oa, _, _, _, rfl, rfl, (tu_same I.s).sq hoa, atI_nat (j := 1) rfl, osa, _, rfl, (tu_same I.s).sq hosa, ?_⟩
    refine for_it (walk_enumT (K := K) (xs := o.signs.map fun (n : Nat) => V.int (n : Int))) (fun i σ H' => ∃ c5 c6 c7 c8 c9 c10 ps B kvs ws, σ = [some (.ref oa), some tv, some (.int ((n : Nat) : Int)), some (.ref d), some (.ref rl), c5, c6, c7, c8, c9, c10] ∧ SpI K o t H H' d rl ps B kvs ws ∧ n < ps.length ∧ (∀ s, o.signs[s]? = some 0 → Dn o t ps (.n0 s)) ∧ (∀ s, o.signs[s]? = some 1 → Cl1 o t ps n s ∧ (s < i → Cl1 o t ps (n + 1) s)) ∧ (∀ s, o.signs[s]? = some 2 → Cl2 o t ps n s ∧ (s < i → Cl2 o t ps (n + 1) s)))
      ⟨_, _, _, _, _, _, ps, B, kvs, ws, rfl, I, nlt, h0, fun s hs => ⟨h1 s hs, fun h => absurd h (Nat.not_lt_zero _)⟩, fun s hs => ⟨h2 s hs, fun h => absurd h (Nat.not_lt_zero _)⟩⟩ (fun i σ H' _ ⟨_, _, _, _, _, _, _, _, _, _, _, I, _⟩ => (tu_same I.s).sq hosa) ?_ ?_
    rotate_left
    · rintro σ H2 ⟨c5, c6, c7, c8, c9, c10, ps, B, kvs, ws, rfl, I, nlt, h0, h1, h2⟩
      rw [List.length_map] at h1 h2
      refine ⟨_, rfl, _, _, rfl, rfl, ?_⟩
      exact ⟨c5, c6, c7, c8, c9, c10, ps, B, kvs, ws, rfl, I, nlt, h0, fun s hs => (h1 s hs).2 (List.getElem?_eq_some_iff.mp hs).1, fun s hs => (h2 s hs).2 (List.getElem?_eq_some_iff.mp hs).1⟩
    clear I h0 h1 h2 nlt z few hn ps B kvs ws
    rintro i x σ H' H2 hi ⟨c5, c6, c7, c8, c9, c10, ps, B, kvs, ws, rfl, I, nlt, h0, h1, h2⟩ ⟨T, u, v, rfl, hT, rfl, hu, hv⟩
    rw [List.length_map] at hi
    cases hu
    try dsimp only at hv
    have hg : o.signs[i]? = some o.signs[i] := by simp [hi]
    rw [List.getElem?_map, hg] at hv
    cases hv
    generalize o.signs[i] = m at hg
    have I2 := I.same (same_new (o := .tup [.int (i : Int), .int (m : Int)]) hT)
    refine ⟨T, _, rfl, .of upd_same, rfl, _, _, rfl, _, _, rfl, rfl, ?_⟩
    generalize upd H' T (.tup [.int (i : Int), .int (m : Int)]) = H3 at I2
    clear hT I
    have hpn : ps[n]? = some ps[n] := by simp [nlt]
    generalize ps[n] = pn at hpn
    obtain ⟨pv, hpv, rpv⟩ := I2.rr.get (d := numD o t pn) (i := n) (by rw [List.getElem?_map, hpn]; rfl)
    refine ⟨fun σ' H4 => ∃ cl cvs ccs c9 c10, σ' = [some (.ref oa), some tv, some (.int ((n : Nat) : Int)), some (.ref d), some (.ref rl), some (.int (i : Int)), some (.int (m : Int)), c7, some (.ref cl), c9, c10] ∧ Same H3 H4 ∧ H3 cl = none ∧ H4 cl = some (.lst cvs) ∧ RpL K H4 cvs (ccs.map (cplD o t)) ∧ (m = 1 → ccs = [[pn]]) ∧ (m ≠ 1 → ccs = (ps.take (n + 1)).map fun x => [pn, x]), ?_, ?_⟩
    · refine ⟨_, rfl, rfl, _, rfl, ite2 (fun z => ?_) (fun z => ?_)⟩
      · have m1 : m = 1 := by
          have z2 := of_decide_eq_true z
          injection z2 with z3
          omega
        refine ⟨_, rfl, _, rfl, rl, _, n, _, rfl, rfl, .of I2.er, atI_nat hpv, sz1, fun q1 hq1 => ⟨sz1, fun q2 hq2 => ?_⟩⟩
        have s3 := same_new (o := .tup [pv]) hq1
        have s4 := same_new (o := .lst [V.ref q1]) hq2
        exact ⟨q2, _, [[pn]], _, _, rfl, s3.trans s4, s3.free hq2, upd_same, .one (.tup (.of (s4 _ _ upd_same)) (.one (rpv.mono (tu_same (s3.trans s4))))), fun _ => rfl, fun h => absurd m1 h⟩
      · have m1 : m ≠ 1 := fun h => z (decide_eq_true (by rw [h]; rfl))
        refine ⟨_, rfl, _, rfl, _, _, rfl, rfl, ((n + 1 : Nat) : Int), rfl, rl, ws, rfl, .of I2.er, fun p hp => ?_⟩
        rw [cut_take]
        have s3 := same_new (o := .lst (ws.take (n + 1))) hp
        have rr3 := (I2.rr.take (n + 1)).mono (tu_same s3)
        refine ⟨p, rfl, ⟨_, .of upd_same⟩, fun Dl hD => ?_⟩
        have wl := I2.wl
        have few := I2.few
        refine lc_map (K := K) (walk_list (K := K) (a := p) (xs := ws.take (n + 1))) hD (((ps.take (n + 1)).map fun x => [pn, x]).map (cplD o t)) (by simp [wl]) (by rw [List.length_take]; omega) (fun H6 s6 => .of (s6 _ _ upd_same)) ?_ ?_
        · rintro j y H6 _ dd hdd s6 ⟨rfl, hy⟩ Qe he
          obtain ⟨d2, hd2, rd⟩ := (rr3.mono (tu_same s6)).get' hy
          rw [← List.map_take, List.getElem?_map] at hd2
          rw [List.getElem?_map, List.getElem?_map] at hdd
          cases hq : (ps.take (n + 1))[j]? with
          | none => rw [hq] at hd2; cases hd2
          | some x =>
            rw [hq] at hd2 hdd
            cases hd2
            cases hdd
            refine ⟨rfl, _, rfl, _, rfl, rl, _, n, _, rfl, rfl, .of ((s3.trans s6) _ _ I2.er), atI_nat hpv, _, rfl, sz2, fun q hq' => ?_⟩
            have s7 := same_new (o := .tup [pv, y]) hq'
            exact he _ _ s7 (.tup (.of upd_same) (.cons (rpv.mono (tu_same ((s3.trans s6).trans s7))) (.one (rd.mono (tu_same s7)))))
        · intro H6 w6 s6 e6 r6
          exact ⟨Dl, w6, _, _, _, rfl, s3.trans s6, s3.free hD, e6, r6, fun h => absurd h m1, fun _ => rfl⟩
    rintro σ' H4 ⟨cl, cvs, ccs, c9, c10, rfl, s4, ncl, ecl, rcl, hm1, hm2⟩
    have I4 := I2.same s4
    refine ⟨fun σ' H5 => ∃ cl cvs ccs c9 c10, σ' = [some (.ref oa), some tv, some (.int ((n : Nat) : Int)), some (.ref d), some (.ref rl), some (.int (i : Int)), some (.int (m : Int)), c7, some (.ref cl), c9, c10] ∧ Same H3 H5 ∧ H3 cl = none ∧ H5 cl = some (.lst cvs) ∧ RpL K H5 cvs (ccs.map (cplD o t)) ∧ (m = 1 → ccs = [[pn]]) ∧ (m = 2 → ccs = ((ps.take (n + 1)).map fun x => [pn, x]) ++ ((ps.take (n + 1)).map fun x => [pn, x]).map List.reverse), ?_, ?_⟩
    · have cl2 : ccs.length ≤ 7 := by
        by_cases h : m = 1
        · rw [hm1 h]; simp
        · rw [hm2 h, List.length_map, List.length_take]
          have := I4.few
          omega
      have cvl : cvs.length = ccs.length := by rw [rcl.length, List.length_map]
      refine ⟨_, rfl, _, rfl, rfl, _, rfl, ite2 (fun z => ?_) (fun z => ?_)⟩
      · have m2 : m = 2 := by
          have z2 := of_decide_eq_true z
          injection z2 with z3
          omega
        have hc := hm2 (by omega)
        refine ⟨_, rfl, cl, rfl, ⟨_, .of ecl⟩, fun Dl hD => ?_⟩
        refine lc_map (K := K) (walk_list (K := K) (a := cl) (xs := cvs)) hD ((ccs.map List.reverse).map (cplD o t)) (by simp [cvl]) (by omega) (fun H6 s6 => .of (s6 _ _ ecl)) ?_ ?_
        · rintro j y H6 _ dd hdd s6 ⟨rfl, hy⟩ Qe he
          obtain ⟨d2, hd2, rd⟩ := (rcl.mono (tu_same s6)).get' hy
          rw [List.getElem?_map] at hd2
          rw [List.getElem?_map, List.getElem?_map] at hdd
          cases hq : ccs[j]? with
          | none => rw [hq] at hd2; cases hd2
          | some c =>
            rw [hq] at hd2 hdd
            cases hd2
            cases hdd
            have hcm := List.mem_of_getElem? hq
            rw [hc] at hcm
            obtain ⟨x, _, rfl⟩ := List.mem_map.mp hcm
            obtain ⟨ya, yv, rfl, hya, ry⟩ := rd.tup_inv
            obtain ⟨y1, w1, rfl, ry1, ry⟩ := ry.cons_inv
            obtain ⟨y2, w2, rfl, ry2, ry⟩ := ry.cons_inv
            cases ry.nil_inv
            refine ⟨rfl, _, rfl, ya, y1, y2, rfl, hya, fun q hq' => ?_⟩
            have s7 := same_new (o := .tup [y2, y1]) hq'
            exact he _ _ s7 (.tup (.of upd_same) (.cons (ry2.mono (tu_same s7)) (.one (ry1.mono (tu_same s7)))))
        · intro H6 w6 s6 e6 r6
          have w6l : w6.length = ccs.length := by rw [r6.length, List.length_map, List.length_map]
          refine ⟨cl, Dl, cvs, w6, rfl, rfl, s6 _ _ ecl, e6, sz_ok (by omega), fun p hp => ?_⟩
          have s7 := same_new (o := .lst (cvs ++ w6)) hp
          refine ⟨p, cvs ++ w6, ccs ++ ccs.map List.reverse, _, _, rfl, s4.trans (s6.trans s7), (s4.trans s6).free hp, upd_same, ?_, fun h => absurd (h.symm.trans m2) (by decide), fun _ => by rw [hc]⟩
          rw [List.map_append]
          exact (rcl.mono (tu_same (s6.trans s7))).app (r6.mono (tu_same s7))
      · have m2 : m ≠ 2 := fun h => z (decide_eq_true (by rw [h]; rfl))
        refine ⟨sz0, fun q1 hq1 => ?_⟩
        have s6 := same_new (o := .lst []) hq1
        refine ⟨cl, q1, cvs, [], rfl, rfl, s6 _ _ ecl, upd_same, sz_ok (by simp only [List.length_nil]; omega), fun p hp => ?_⟩
        have s7 := same_new (o := .lst (cvs ++ [])) hp
        refine ⟨p, cvs ++ [], ccs, _, _, rfl, s4.trans (s6.trans s7), (s4.trans s6).free hp, upd_same, ?_, hm1, fun h => absurd h m2⟩
        have q := rcl.mono (tu_same (s6.trans s7))
        exact (List.append_nil cvs).symm ▸ q
    clear I4 hm2 ecl rcl s4 ncl
    rintro σ' H5 ⟨cl, cvs, ccs, c9, c10, rfl, s5, ncl, ecl, rcl, hm1, hm2⟩
    have I5 := I2.same s5
    have ndl : cl ≠ d := (ne_of_none I2.bv.e ncl).symm
    have nrl : cl ≠ rl := (ne_of_none I2.er ncl).symm
    clear I2 s5 ncl
    have cvl : cvs.length = ccs.length := by rw [rcl.length, List.length_map]
    have hm : m ≤ 2 := ook.sg _ (List.mem_of_getElem? hg)
    have hcc : m ≠ 0 → ∀ c ∈ ccs, c.length = m ∧ ∀ p ∈ c, p ∈ ps := fun m0 c hc => by
      have hpm := List.mem_of_getElem? hpn
      by_cases h : m = 1
      · rw [hm1 h] at hc
        rw [List.mem_singleton.mp hc]
        exact ⟨h.symm, fun p hp => by rw [List.mem_singleton.mp hp]; exact hpm⟩
      · have h2 : m = 2 := by omega
        rw [hm2 h2] at hc
        have two : ∀ c ∈ (ps.take (n + 1)).map (fun x => [pn, x]), c.length = 2 ∧ ∀ p ∈ c, p ∈ ps := fun c hc => by
          obtain ⟨x, hx, rfl⟩ := List.mem_map.mp hc
          refine ⟨rfl, fun p hp => ?_⟩
          rcases List.mem_cons.mp hp with rfl | hp
          · exact hpm
          · rw [List.mem_singleton.mp hp]; exact List.mem_of_mem_take hx
        rcases List.mem_append.mp hc with hc | hc
        · obtain ⟨q1, q2⟩ := two c hc
          exact ⟨by rw [q1, h2], q2⟩
        · obtain ⟨x, hx, rfl⟩ := List.mem_map.mp hc
          obtain ⟨q1, q2⟩ := two x hx
          exact ⟨by rw [List.length_reverse, q1, h2], fun p hp => q2 p (List.mem_reverse.mp hp)⟩
    have fin : ∀ (H6 : Hp) (rs : List Pg) (B' : List Lead) (kvs' : List (Key × V)) (ws' : List V) (c5 c6 c7 c8 c9 c10 : Option V), SpI K o t H H6 d rl (ps ++ rs) B' kvs' ws' → (m ≠ 0 → ∀ c ∈ ccs, Dn o t (ps ++ rs) (mkP i c)) →
        ∃ c5' c6' c7' c8' c9' c10' ps B kvs ws, [some (V.ref oa), some tv, some (.int ((n : Nat) : Int)), some (.ref d), some (.ref rl), c5, c6, c7, c8, c9, c10] = [some (.ref oa), some tv, some (.int ((n : Nat) : Int)), some (.ref d), some (.ref rl), c5', c6', c7', c8', c9', c10'] ∧ SpI K o t H H6 d rl ps B kvs ws ∧ n < ps.length ∧ (∀ s, o.signs[s]? = some 0 → Dn o t ps (.n0 s)) ∧ (∀ s, o.signs[s]? = some 1 → Cl1 o t ps n s ∧ (s < i + 1 → Cl1 o t ps (n + 1) s)) ∧ (∀ s, o.signs[s]? = some 2 → Cl2 o t ps n s ∧ (s < i + 1 → Cl2 o t ps (n + 1) s)) := fun H6 rs B' kvs' ws' c5 c6 c7 c8 c9 c10 I6 hD => by
      refine ⟨c5, c6, c7, c8, c9, c10, ps ++ rs, B', kvs', ws', rfl, I6, by rw [List.length_append]; omega, fun s hs => (h0 s hs).more, fun s hs => ⟨(h1 s hs).1.more (by omega) rs, fun hl => ?_⟩, fun s hs => ⟨(h2 s hs).1.more (by omega) rs, fun hl => ?_⟩⟩
      · by_cases e : s = i
        · subst e
          rw [hg] at hs
          have m1 := Option.some.inj hs
          intro j hj a ha
          by_cases c : j < n
          · exact (h1 s (by rw [hg, m1])).1.more (by omega) rs j c a ha
          · have ej : j = n := by omega
            subst ej
            have ha' := at_more (n := j + 1) (by omega) (by omega) ha
            rw [hpn] at ha'
            cases ha'
            exact hD (by omega) [pn] (by rw [hm1 m1]; simp)
        · exact ((h1 s hs).2 (by omega)).more (by omega) rs
      · by_cases e : s = i
        · subst e
          rw [hg] at hs
          have m2 := Option.some.inj hs
          intro j j' hj hj' a b ha hb
          have ha' := at_more (n := n + 1) (by omega) hj ha
          have hb' := at_more (n := n + 1) (by omega) hj' hb
          have inn : ∀ (j : Nat) (x : Pg), j < n + 1 → ps[j]? = some x → [pn, x] ∈ (ps.take (n + 1)).map (fun x => [pn, x]) := fun j x hj hx => List.mem_map_of_mem (List.mem_of_getElem? (i := j) (by rw [List.getElem?_take, if_pos hj]; exact hx))
          by_cases c : j < n
          · by_cases c' : j' < n
            · exact (h2 s (by rw [hg, m2])).1.more (by omega) rs j j' c c' a b ha hb
            · have ej : j' = n := by omega
              subst ej
              rw [hpn] at hb'
              cases hb'
              exact hD (by omega) [a, pn] (by rw [hm2 m2]; exact List.mem_append_right _ (List.mem_map.mpr ⟨[pn, a], inn j a hj ha', rfl⟩))
          · have ej : j = n := by omega
            subst ej
            rw [hpn] at ha'
            cases ha'
            exact hD (by omega) [pn, b] (by rw [hm2 m2]; exact List.mem_append_left _ (inn j' b hj' hb'))
        · exact ((h2 s hs).2 (by omega)).more (by omega) rs
    refine ⟨_, rfl, _, _, rfl, rfl, _, rfl, ite2 (fun z => ?_) (fun z => ?_)⟩
    rotate_left
    · have m0 : m = 0 := by
        have q : ¬ ((m : Int) > 0) := fun h => z (decide_eq_true h)
        omega
      refine ⟨sz0, fun q1 hq1 => ⟨q1, rfl, ⟨_, .of upd_same⟩, ?_⟩⟩
      have I6 := I5.same (same_new (o := .lst []) hq1)
      refine for_list (K := K) (a := q1) (xs := []) (fun j σ H6 => σ = [some (.ref oa), some tv, some (.int ((n : Nat) : Int)), some (.ref d), some (.ref rl), some (.int (i : Int)), some (.int (m : Int)), c7, some (.ref cl), c9, c10] ∧ H6 = upd H5 q1 (.lst [])) ⟨rfl, rfl⟩ (fun j σ H6 _ ⟨_, e⟩ => by rw [e]; exact .of upd_same) ?_ ?_
      · rintro j y σ H6 hy _
        simp at hy
      · rintro σ H6 ⟨rfl, rfl⟩
        exact fin _ [] B kvs ws _ _ _ _ _ _ (by rw [List.append_nil]; exact I6) (fun h => absurd m0 h)
    · have m0 : m ≠ 0 := by
        have q := of_decide_eq_true z
        omega
      refine ⟨_, rfl, cl, rfl, ⟨_, .of ecl⟩, ?_⟩
      refine for_list (K := K) (a := cl) (xs := cvs) (fun j σ H6 => ∃ c7 c9 c10 rs B' kvs' ws', σ = [some (.ref oa), some tv, some (.int ((n : Nat) : Int)), some (.ref d), some (.ref rl), some (.int (i : Int)), some (.int (m : Int)), c7, some (.ref cl), c9, c10] ∧ SpI K o t H H6 d rl (ps ++ rs) B' kvs' ws' ∧ H6 cl = some (.lst cvs) ∧ RpL K H6 cvs (ccs.map (cplD o t)) ∧ ∀ j', j' < j → ∀ c, ccs[j']? = some c → Dn o t (ps ++ rs) (mkP i c))
        ⟨_, _, _, [], B, kvs, ws, rfl, by rw [List.append_nil]; exact I5, ecl, rcl, fun j' hj => absurd hj (Nat.not_lt_zero _)⟩ (fun j σ H6 _ ⟨_, _, _, _, _, _, _, _, _, e, _⟩ => .of e) ?_ ?_
      · rintro j y σ H6 hy ⟨c7, c9, c10, rs, B', kvs', ws', rfl, I6, e6, r6, hd⟩
        obtain ⟨d2, hd2, rd⟩ := r6.get' hy
        rw [List.getElem?_map] at hd2
        cases hq : ccs[j]? with
        | none => rw [hq] at hd2; cases hd2
        | some c =>
          rw [hq] at hd2
          cases hd2
          obtain ⟨lc, mc⟩ := hcc m0 c (List.mem_of_getElem? hq)
          obtain ⟨ya, yv, rfl, hya, ry⟩ := rd.tup_inv
          have few := I6.few
          have all := I6.sb.all
          have p6 : 2 ^ (ps ++ rs).length ≤ 2 ^ 6 := Nat.pow_le_pow_right (by decide) (by omega)
          have allc : ∀ p ∈ c, p.ok o.signs ∧ p.size + 1 ≤ 2 ^ (ps ++ rs).length := fun p hp => all p (List.mem_append_left _ (mc p hp))
          refine ⟨_, rfl, _, rfl, _, rfl, _, rfl, .ref oa, tv, i, ya, yv, o, t, c, rfl, ro.mono (tu_same I6.s), ook, rt.mono (tu_same I6.s), tok, hsg, by rw [hg, lc], hya, ry, fun p hp => by have := (allc p hp).2; omega, fun rv H7 s7 r7 => ?_⟩
          obtain ⟨ra, rfl, hra⟩ := nats_inv r7
          have I7 := I6.same s7
          have c2 : c.length ≤ 2 := by omega
          have qok : (mkP i c).ok o.signs := (mkP_okh (h := 10000) i c c2 (by rw [hg, lc]) (fun q hq => ⟨(allc q hq).1, by
            have h1 := (allc q hq).2
            have h2 := q.height_lt
            omega⟩) (fun _ => by omega)).1
          have qsz : (mkP i c).size + 1 ≤ 2 ^ ((ps ++ rs).length + 1) := by
            have q := mkP_le i c (2 ^ (ps ++ rs).length - 1) c2 fun q hq => by have := (allc q hq).2; omega
            have p1 : 1 ≤ 2 ^ (ps ++ rs).length := Nat.one_le_two_pow
            rw [Nat.pow_succ]
            omega
          refine ⟨_, rfl, .inl ⟨rfl, _, .of I7.er⟩, ?_⟩
          refine put_rows I7 (q := mkP i c) rfl rfl hra ook tok om3 tm3 qok qsz fun H8 rs' B8 kvs8 ws8 bt8 t8 I8 dn => ?_
          have ea : ps ++ rs ++ rs' = ps ++ (rs ++ rs') := List.append_assoc ..
          rw [ea] at I8 dn
          refine ⟨_, _, _, rs ++ rs', B8, kvs8, ws8, rfl, I8, bt8 _ _ ndl nrl (s7 _ _ e6), (r6.mono (tu_same s7)).mono t8, fun j' hj' c' hc' => ?_⟩
          by_cases e : j' = j
          · subst e
            rw [hq] at hc'
            cases hc'
            exact dn
          · have q := (hd j' (by omega) c' hc').more (rs := rs')
            rwa [ea] at q
      · rintro σ H6 ⟨c7, c9, c10, rs, B', kvs', ws', rfl, I6, e6, r6, hd⟩
        refine fin H6 rs B' kvs' ws' _ _ _ _ _ _ I6 fun _ c hc => ?_
        obtain ⟨j, hj, e⟩ := List.getElem_of_mem hc
        exact hd j (by rw [cvl]; exact hj) c (by rw [List.getElem?_eq_getElem hj, e])
end
end K56
set_option Elab.async false
set_option linter.all false
set_option maxRecDepth 100000
set_option maxHeartbeats 4000000
namespace K56
open PySem PySem.Spec PyProof.Rows L2
/-! ### _law_grown -/
theorem MadeD.same {K : PySem.W.Frag} {H H' : Hp} {d : Addr} {t : Tb} {kvs : List (Key × V)} {b : Fnd} (h : MadeD K H d t kvs b) (s : Same H H') : MadeD K H' d t kvs b := ⟨s _ _ h.e, h.keys, h.kd.mono fun v p r => r.mono (tu_same s), h.li, h.all⟩
theorem MadeD.gb {K : PySem.W.Frag} {H H' : Hp} {d ba a : Addr} {cs : List Int} {t : Tb} {kvs : List (Key × V)} {b : Fnd} (h : MadeD K H d t kvs b) (g : Gb ba a cs H H') : MadeD K H' d t kvs b := by
  have n : d ≠ ba := fun e => by
    obtain ⟨i0, i1, i2, hb, _⟩ := g.b0.at_
    have q := h.e
    rw [e, hb] at q
    cases q
  exact ⟨g.at n h.e, h.keys, h.kd.mono fun v p r => r.mono g.tu, h.li, h.all⟩
def okE (fb : Fnd) (k : Nat) (e : En) : Bool := decide (e.kind = k) && e.parts.all fun j => (fb j).isSome
theorem okE_some {t : Tb} {fb : Fnd} (hall : ∀ k, (fb k).isSome = true ↔ Made t.ents k) {k : Nat} (m : Made t.ents k) : t.ents.filter (okE fb k) ≠ [] := by
  cases m with
  | by_ e he hp =>
    intro z
    have q := List.filter_eq_nil_iff.mp z e he
    refine q ?_
    unfold okE
    rw [decide_eq_true rfl, Bool.true_and, List.all_eq_true]
    exact fun j hj => (hall j).mpr (hp j hj)
theorem okE_iff {fb : Fnd} {k : Nat} {e : En} (h : okE fb k e = true) : e.kind = k ∧ ∀ j ∈ e.parts, (fb j).isSome = true := by
  unfold okE at h
  rw [Bool.and_eq_true, List.all_eq_true] at h
  exact ⟨of_decide_eq_true h.1, h.2⟩
theorem mkP_sum (s : Nat) (qs : List Pg) (h : qs.length ≤ 2) : (mkP s qs).size = 1 + (qs.map Pg.size).sum := by
  match qs, h with
  | [], _ => rfl
  | [p], _ => simp [mkP, Pg.size]
  | [p, q], _ => simp [mkP, Pg.size]
  | _ :: _ :: _ :: _, h => simp only [List.length_cons] at h; omega
def spGrown (K : PySem.W.Frag) (n : Nat) : Sp := fun vs H Q _ => ∃ (b a d : Addr) (cs : List Int) (tv : V) (t : Tb) (kvs : List (Key × V)) (fb : Fnd) (k z : Nat), vs = [.ref b, tv, .ref d, .int (k : Int), .int (z : Int)] ∧ z < n ∧ z ≤ 20 ∧ Bag b a cs H ∧ Rp K H tv t.d ∧ t.ok ∧ MadeD K H d t kvs fb ∧ Made t.ents k ∧
  ∀ (v : V) (H' : Hp) (p : Pg), Gb b a cs H H' → Rp K H' v p.d → p.ok t.signs → p.size ≤ 16 * z + 15 → p.height ≤ z + 15 → Q v H'
section
variable {P : Program} {w : World} {K : PySem.W.Frag} {mg : Str → Option Value} {base : Heap}
theorem sc_l_grown : FnScope ["_law_bag_here", "_law_table_here", "_law_made_here", "_law_kind", "_law_size_here", "_law_some_here", "_law_wide", "_law_sign", "_law_parts", "_law_top", "_law_left", "_law_found", "_law_at", "_law_part", "_law_share", "_law_entry_here"] ["_law_bag_here", "_law_table_here", "_law_made_here", "_law_kind", "_law_size_here"] (defScope s_l_grown) := ⟨rfl, rfl, rfl, by decide +kernel, rfl, by decide +kernel, by decide +kernel⟩
theorem ok_l_grown (A : Hd K mg) : ∀ h : Nat, Cl P w K mg base "_law_grown" ["_law_bag_here", "_law_table_here", "_law_made_here", "_law_kind", "_law_size_here"] (h + 3) (spGrown K h) := by
  intro h
  induction h with
  | zero =>
    obtain ⟨fd, F⟩ := A.f_l_grown
    refine Cl.of F A.g_l_grown sc_l_grown (fun _ _ _ _ _ _ us hl => match us, hl with | [_, _, _, _, _], _ => rfl) (fun vs H Q E h => (by obtain ⟨b, a, d, cs, tv, t, kvs, fb, k, z, rfl, _⟩ := h; rfl)) (fun cdv Ar outer s H vs Q E hr h => ?_)
    obtain ⟨b, a, d, cs, tv, t, kvs, fb, k, z, rfl, hz, _⟩ := h
    exact absurd hz (Nat.not_lt_zero _)
  | succ n ih =>
    obtain ⟨fd, F⟩ := A.f_l_grown
    refine Cl.of F A.g_l_grown sc_l_grown (fun _ _ _ _ _ _ us hl => match us, hl with | [_, _, _, _, _], _ => rfl) (fun vs H Q E h => (by obtain ⟨b, a, d, cs, tv, t, kvs, fb, k, z, rfl, _⟩ := h; rfl)) (fun cdv Ar outer s H vs Q E hr h => ?_)
    obtain ⟨b, a, d, cs, tv, t, kvs, fb, kk, z, rfl, hz, z20, Bg, rt, tok, md, mk, k⟩ := h
    refine ⟨_, (pss_cons (ps_setLcF (i := 5) (own := [("_law_entry_here", 15)]) (by rfl) sc_l_grown.nd rfl rfl (sw_true rfl rfl rfl (by decide +kernel)) (pi_tup (pe_ix ix_tup (pv 1) pe_int (fun _ _ => rfl))) (blkOk_by (by rfl)) (fun _ _ _ _ _ => (pg_name (i := 15) sc_l_grown.nd rfl (.inl rfl))) (fun _ _ _ _ _ => (pts_one (PW.pt (pw_and (pt_cmpR op_eq (pe_ix ix_tup (pv 15) pe_int (fun _ _ => rfl)) (pv 3) (nomark _)) (pw_and1 (pt_cmpR (op_eqQ (hu64 hr)) (pe_lcF (own := [("_law_part", 13)]) (by rfl) sc_l_grown.nd (pi_tup (pe_ix ix_tup (pv 15) pe_int (fun _ _ => rfl))) (blkOk_by (by rfl)) (fun _ _ _ _ _ => (pg_name (i := 13) sc_l_grown.nd rfl (.inl rfl))) (fun _ _ _ _ _ => (pts_one (pt_cmp (pc_dnotin (hu_of hr) (pv 13) (pv 2)) (by with_unfolding_all rfl)))) (fun _ _ _ _ _ => (pv 13))) (pe_lst pa_nil) (nomark _))))))) (fun _ _ _ _ _ => (pv 15)))
  (pss_cons (ps_if (pt_cmpR op_lt (pv 4) pe_int (nomark _)) (pss_one (ps_ret (pe_dget (hu_of hr) (pv 2) (pv 3) (fun _ _ => rfl)))) pss_nil)
  (pss_cons (ps_setLcF (i := 6) (own := [("_law_entry_here", 15)]) (by rfl) sc_l_grown.nd rfl rfl (sw_true rfl rfl rfl (by decide +kernel)) (pi_list (pv 5)) (blkOk_by (by rfl)) (fun _ _ _ _ _ => (pg_name (i := 15) sc_l_grown.nd rfl (.inl rfl))) (fun _ _ _ _ _ => (pts_one (pt_cmpR (op_neQ (hu64 hr)) (pe_ix ix_tup (pv 15) pe_int (fun _ _ => rfl)) (pe_tup pa_nil) (nomark _)))) (fun _ _ _ _ _ => (pv 15)))
  (pss_mid (ps_asg (pe_cl (ok_l_some A) (hr.mono (by omega)) (by rfl) (pa_cons (pv 0) (pa_cons (pe_ifExp (PW.pt (pw_and (pt_cmpR (op_neQ (hu64 hr)) (pv 6) (pe_lst pa_nil) (nomark _)) (pw_and1 (pt_cmpR op_gt (pe_cl (ok_l_take A) (hr.mono (by omega)) (by rfl) (pa_cons (pv 0) (pa_cons pe_int pa_nil))) pe_int (nomark _))))) (pv 6) (pv 5)) pa_nil))) (pg_tup rfl (pgs_cons (pg_name (i := 7) sc_l_grown.nd rfl (.inl rfl)) (pgs_cons (pg_name (i := 8) sc_l_grown.nd rfl (.inl rfl)) (pgs_cons (pg_name (i := 9) sc_l_grown.nd rfl (.inl rfl)) pgs_nil)))))
  (pss_cons (ps_par (i := 10) (j := 11) (by rfl) sc_l_grown.nd rfl rfl (by decide) rfl rfl (pa_cons (pe_op op_sub (pv 4) pe_int) (pa_cons (pe_lst pa_nil) pa_nil)) rfl)
  (pss_cons (ps_for PassesOwn.never (by rfl) (pi_enumT (by rfl) A.z_enumerate (pa_cons (pv 8) pa_nil)) (pg_tup rfl (pgs_cons (pg_name (i := 12) sc_l_grown.nd rfl (.inl rfl)) (pgs_cons (pg_name (i := 13) sc_l_grown.nd rfl (.inl rfl)) pgs_nil)))
  (pss_mid (ps_set (i := 14) sc_l_grown.nd rfl (.inl rfl) (pe_ifExp (pt_cmpR op_eq (pv 12) (pe_op op_sub (pe_callB call_len_seq (by rfl) A.z_len PySem.boot_len (pa_cons (pv 8) pa_nil)) pe_int) (nomark _)) (pv 10) (pe_cl (ok_l_take A) (hr.mono (by omega)) (by rfl) (pa_cons (pv 0) (pa_cons (pe_callB (call_max2 (by rfl)) (by rfl) A.z_max (by decide +kernel) (pa_cons pe_int (pa_cons (pv 10) pa_nil))) pa_nil)))))
  (pss_cons (ps_expr (pe_bm PySem.F.plainAttrs_list PySem.F.slot_list_append PySem.F.type_list_append mt_append (pv 11) (pa_cons (pe_cl ih (hr.mono (by omega)) (by rfl) (pa_cons (pv 0) (pa_cons (pv 1) (pa_cons (pv 2) (pa_cons (pv 13) (pa_cons (pe_callB (call_min2 (by rfl)) (by rfl) A.z_min (by decide +kernel) (pa_cons (pv 14) (pa_cons (pv 10) pa_nil))) pa_nil)))))) pa_nil)))
  (pss_one (ps_aug (i := 10) sc_l_grown.nd rfl (.inl rfl) (pv 14) ip_sub)))))
  (pss_one (ps_ret (pe_op op_catA (pe_tup (pa_cons (pv 7) pa_nil)) (pe_tupleOf (by rfl) A.z_tuple (pv 11))))))))))), ?_⟩
    obtain ⟨ta, sa, ea, es, rfl, hta, hsa, hea, re⟩ := tb_inv rt
    have e31 := tok.e31
    have m4 := tok.m4
    have el : es.length = t.ents.length := by rw [re.length, List.length_map]
    refine ⟨_, rfl, ta, _, _, _, rfl, rfl, hta, atI_nat (j := 2) rfl, ea, rfl, ⟨_, hea⟩, fun Dl hD => ?_⟩
    refine lc_same (K := K) (walk_tup (K := K) (a := ea) (xs := es)) hD (fun i ds => ds = ((t.ents.take i).filter (okE fb kk)).map En.d) (by omega) (fun H6 s6 => (tu_same s6).sq hea) rfl ?_ ?_
    · rintro i x _ H3 ds hi s3 ⟨rfl, hx⟩ hds Qe Qn he hn
      obtain ⟨d2, hd2, rd⟩ := (re.mono (tu_same s3)).get' hx
      rw [List.getElem?_map] at hd2
      cases hen : t.ents[i]? with
      | none => rw [hen] at hd2; cases hd2
      | some e =>
        rw [hen] at hd2
        cases hd2
        obtain ⟨xa, xp, rfl, hxa, hxp⟩ := en_inv rd
        refine ⟨rfl, _, rfl, xa, _, 2, _, rfl, rfl, hxa, atI_nat (j := 2) rfl, ?_⟩
        have skip : okE fb kk e = false → ∀ H4, Same H3 H4 → Qn H4 := fun hf H4 s4 => by
          refine hn _ s4 ?_
          rw [hds, take_snoc hen, List.filter_append, List.filter_cons_of_neg (by rw [hf]; decide)]
          exact congrArg _ (List.append_nil _).symm
        refine ⟨_, rfl, rfl, _, rfl, ite2 (fun z => ?_) (fun z => ?_)⟩
        rotate_left
        · refine ite2 (fun z => by cases z) (fun _ => skip ?_ _ (Same.refl _))
          have ne : e.kind ≠ kk := fun q => z (decide_eq_true (by rw [q]))
          unfold okE
          rw [decide_eq_false ne]; rfl
        have ke : e.kind = kk := by
          have z2 := of_decide_eq_true z
          injection z2 with z3
          omega
        have eok := tok.en e (List.mem_of_getElem? hen)
        have pl : e.parts.length ≤ 2 := tok.sg _ (List.mem_of_getElem? eok.ar)
        refine ⟨_, rfl, xa, _, 1, _, rfl, rfl, hxa, atI_nat (j := 1) rfl, xp, rfl, ⟨_, hxp⟩, fun D2 hD2 => ?_⟩
        refine lc_same (K := K) (walk_tup (K := K) (a := xp) (xs := e.parts.map fun (n : Nat) => V.int (n : Int))) hD2 (fun i ds => ds = ((e.parts.take i).filter fun k => !(fb k).isSome).map fun (n : Nat) => D.int (n : Int)) (by rw [List.length_map]; omega) (fun H6 s6 => (tu_same s6).sq hxp) rfl ?_ ?_
        · rintro j y H4 _ ds2 hj s4 ⟨rfl, hy⟩ hds2 Qe2 Qn2 he2 hn2
          rw [List.getElem?_map] at hy
          cases hk : e.parts[j]? with
          | none => rw [hk] at hy; cases hy
          | some jj =>
            rw [hk] at hy
            cases hy
            subst hds2
            have md4 := (md.same s3).same s4
            refine ⟨rfl, _, rfl, _, rfl, d, _, rfl, .inl ⟨kvs, .inl (jj : Int), .inl md4.e, rfl, rfl⟩, ?_⟩
            refine ⟨_, rfl, ?_⟩
            rw [md4.kd.some jj]
            cases hb : (fb jj).isSome with
            | true =>
              refine ite2 (fun z => by cases z) (fun _ => hn2 _ (Same.refl _) ?_)
              rw [take_snoc hk, List.filter_append, List.map_append, List.filter_cons_of_neg (by rw [hb]; decide)]
              exact (List.append_nil _).symm
            | false =>
              refine ite2 (fun _ => ⟨_, rfl, he2 _ (.int (jj : Int)) _ (Same.refl _) (.int _) ?_⟩) (fun z => absurd rfl z)
              rw [take_snoc hk, List.filter_append, List.map_append, List.filter_cons_of_pos (by rw [hb]; rfl)]
              rfl
        intro H4 w4 ds2 s4 e4 r4 hds2 _
        subst hds2
        rw [List.length_map, List.take_length] at r4
        refine ⟨sz0, fun q5 hq5 => ?_⟩
        have s5 := same_new (o := .lst []) hq5
        refine .inr ⟨D2, q5, w4, [], _, [], rfl, rfl, .of (s5 _ _ e4), .of upd_same, r4.mono (tu_same s5), .nil, by rw [nats_dep]; omega, by simp [D.pys, PyData.depthAll], _, rfl, ite2 (fun z => ?_) (fun z => ?_)⟩
        · have hp := (filt_none _).mp (nats_nil (of_decide_eq_true ((Bool.false_xor _).symm.trans z)))
          have yes : okE fb kk e = true := by
            unfold okE
            rw [decide_eq_true ke, Bool.true_and, List.all_eq_true]
            exact hp
          refine ⟨_, rfl, he _ e.d _ (s4.trans s5) (rd.mono (tu_same (s4.trans s5))) ?_⟩
          rw [hds, take_snoc hen, List.filter_append, List.map_append, List.filter_cons_of_pos yes]
          rfl
        · refine skip ?_ _ (s4.trans s5)
          cases hf : okE fb kk e with
          | false => rfl
          | true =>
            refine absurd ?_ z
            exact (Bool.false_xor _).trans (decide_eq_true (congrArg (List.map fun (n : Nat) => D.int (n : Int)) ((filt_none e.parts).mpr (okE_iff hf).2)))
    intro H1 w1 ds s1 e1 r1 hds _
    subst hds
    rw [el, List.take_length] at r1
    have Fne := okE_some md.all mk
    have Fin : ∀ e ∈ t.ents.filter (okE fb kk), e ∈ t.ents ∧ ∀ j ∈ e.parts, (fb j).isSome = true := fun e he => ⟨(List.mem_filter.mp he).1, (okE_iff (List.mem_filter.mp he).2).2⟩
    have Fle : (t.ents.filter (okE fb kk)).length ≤ 31 := Nat.le_trans (List.length_filter_le ..) e31
    generalize t.ents.filter (okE fb kk) = F at *
    have g1 := same_gb Bg s1
    have md1 := md.same s1
    have w1l : w1.length = F.length := by rw [r1.length, List.length_map]
    refine ⟨_, rfl, _, _, rfl, rfl, _, rfl, ite2 (fun z => ?_) (fun z1 => ?_)⟩
    · obtain ⟨pg, hpg⟩ := Option.isSome_iff_exists.mp ((md.all kk).mpr mk)
      obtain ⟨v, hv1, hv2⟩ := md1.kd.yes kk pg hpg
      obtain ⟨_, pok, _, _⟩ := md.li.ok kk pg hpg
      have psz := md.li.size tok hpg
      have := pg.height_lt
      exact ⟨_, rfl, _, rfl, d, v, rfl, .inl ⟨kvs, .inl (kk : Int), .inl md1.e, rfl, hv1.symm⟩, k v H1 pg g1 hv2 pok (by omega) (by omega)⟩
    have z2 : 2 ≤ z := by
      have q : ¬ ((z : Int) < 2) := fun h => z1 (decide_eq_true h)
      omega
    refine ⟨_, rfl, Dl, rfl, ⟨_, .of e1⟩, fun D2 hD2 => ?_⟩
    refine lc_same (K := K) (walk_list (K := K) (a := Dl) (xs := w1)) hD2 (fun i ds => ds = ((F.take i).filter fun e => !e.parts.isEmpty).map En.d) (by omega) (fun H6 s6 => .of (s6 _ _ e1)) rfl ?_ ?_
    · rintro i x _ H3 ds hi s3 ⟨rfl, hx⟩ hds Qe Qn he hn
      obtain ⟨d2, hd2, rd⟩ := (r1.mono (tu_same s3)).get' hx
      rw [List.getElem?_map] at hd2
      cases hen : F[i]? with
      | none => rw [hen] at hd2; cases hd2
      | some e =>
        rw [hen] at hd2
        cases hd2
        obtain ⟨xa, xp, rfl, hxa, hxp⟩ := en_inv rd
        refine ⟨rfl, _, rfl, xa, _, 1, _, rfl, rfl, hxa, atI_nat (j := 1) rfl, sz0, fun q5 hq5 => ?_⟩
        have s5 := same_new (o := .tup []) hq5
        refine .inl ⟨natD e.parts, .tup [], (nats_of hxp).mono (tu_same s5), .tup (.of upd_same) .nil, Nat.le_trans (natD_dep _) (by decide), by simp [D.py, D.pys, PyData.depth, PyData.depthAll], _, rfl, ite2 (fun z => ?_) (fun z => ?_)⟩
        · have ne : e.parts.isEmpty = false := by
            cases hp : e.parts with
            | nil => rw [hp] at z; simp [natD] at z
            | cons x l => rfl
          refine ⟨_, rfl, he _ e.d _ s5 (rd.mono (tu_same s5)) ?_⟩
          rw [hds, take_snoc hen, List.filter_append, List.map_append, List.filter_cons_of_pos (by rw [ne]; rfl)]
          rfl
        · have ne : e.parts.isEmpty = true := by
            cases hp : e.parts with
            | nil => rfl
            | cons x l => exact absurd (by rw [hp]; simp [natD]) z
          refine hn _ s5 ?_
          rw [hds, take_snoc hen, List.filter_append, List.filter_cons_of_neg (by rw [ne]; decide)]
          exact congrArg _ (List.append_nil _).symm
    intro H3 w3 ds s3 e3 r3 hds _
    subst hds
    rw [w1l, List.take_length] at r3
    have g3 := g1.same s3
    have Gin : ∀ e ∈ F.filter (fun e => !e.parts.isEmpty), e ∈ F := fun e he => (List.mem_filter.mp he).1
    have Gle : (F.filter fun e => !e.parts.isEmpty).length ≤ 31 := Nat.le_trans (List.length_filter_le ..) Fle
    generalize F.filter (fun e => !e.parts.isEmpty) = G at *
    have w3l : w3.length = G.length := by rw [r3.length, List.length_map]
    have ndD : Dl ≠ b := Bg.nb hD
    have nd2 : D2 ≠ b := g1.b1.nb hD2
    have e13 := s3 _ _ e1
    have r13 := r1.mono (tu_same s3)
    clear hD hD2 e1 r1 g1 md1 s1 s3
    refine ⟨fun σ' H4 => ∃ (e : En) (xp : Addr), e ∈ F ∧ σ' = [some (.ref b), some (.ref ta), some (.ref d), some (.int (kk : Int)), some (.int (z : Int)), some (.ref Dl), some (.ref D2), some (.int (e.sign : Int)), some (.ref xp), some (.int (e.kind : Int)), none, none, none, none, none, none] ∧ Gb b a cs H H4 ∧ SqT K H4 xp (e.parts.map fun (n : Nat) => V.int (n : Int)), ?_, ?_⟩
    · have cont : ∀ (H5 : Hp) (l : Addr) (ws : List V) (es' : List En), Gb b a cs H3 H5 → H5 l = some (.lst ws) → l ≠ b → RpL K H5 ws (es'.map En.d) → es' ≠ [] → es'.length ≤ 31 → (∀ e ∈ es', e ∈ F) → ∀ (j : Nat) (v : V) (H' : Hp), ws[j]? = some v → Gb b a cs H5 H' → ∃ (e : En) (xa xp : Addr), e ∈ F ∧ v = .ref xa ∧ SqT K H' xa [.int (e.sign : Int), .ref xp, .int (e.kind : Int)] ∧ SqT K H' xp (e.parts.map fun (n : Nat) => V.int (n : Int)) ∧ Gb b a cs H H' := fun H5 l ws es' g5 el5 nl r5 ne le inn j v H' hv g6 => by
        obtain ⟨d2, hd2, rd⟩ := (r5.mono g6.tu).get' hv
        rw [List.getElem?_map] at hd2
        cases hen : es'[j]? with
        | none => rw [hen] at hd2; cases hd2
        | some e =>
          rw [hen] at hd2
          cases hd2
          obtain ⟨xa, xp, rfl, hxa, hxp⟩ := en_inv rd
          exact ⟨e, xa, xp, inn e (List.mem_of_getElem? hen), rfl, hxa, hxp, (g3.trans g5).trans g6⟩
      have some1 : ∀ (H5 : Hp) (g5 : Gb b a cs H3 H5), F.length ≤ 31 → True := fun _ _ _ => trivial
      refine ⟨_, rfl, _, rfl, sz0, fun q5 hq5 => ?_⟩
      have s5 := same_new (o := .lst []) hq5
      have gd := dep_map En.d 60 G fun e _ => e.dep
      have g5 := same_gb g3.b1 s5
      refine .inr ⟨D2, q5, w3, [], G.map En.d, [], rfl, rfl, .of (s5 _ _ e3), .of upd_same, r3.mono (tu_same s5), .nil, by omega, by simp [D.pys, PyData.depthAll], _, rfl, ite2 (fun z => ?_) (fun z => ?_)⟩
      · have Gne : G ≠ [] := fun h => by simp [h] at z
        refine ⟨_, rfl, b, a, cs, _, rfl, g5.b1, by omega, by omega, fun i6 H6 i0 i1 g6 => ?_⟩
        have g56 := g5.trans g6
        refine ⟨_, _, rfl, rfl, _, rfl, ite2 (fun z => ?_) (fun z => ?_)⟩
        · refine ⟨_, rfl, b, a, D2, cs, w3, rfl, (g3.trans g56).b1, .inl ⟨.of (g56.at nd2 e3), nd2⟩, ?_, by omega, fun j v H' hv g => ?_⟩
          · rw [w3l]; exact List.length_pos_iff.mpr Gne
          obtain ⟨e, xa, xp, heF, rfl, hxa, hxp, gg⟩ := cont _ D2 w3 G g56 (g56.at nd2 e3) nd2 (r3.mono g56.tu) Gne Gle Gin j v H' hv g
          refine ⟨xa, _, rfl, hxa, rfl, _, _, rfl, _, _, rfl, _, _, rfl, rfl, ?_⟩
          exact ⟨e, xp, heF, rfl, gg, hxp⟩
        · refine ⟨_, rfl, b, a, Dl, cs, w1, rfl, (g3.trans g56).b1, .inl ⟨.of (g56.at ndD e13), ndD⟩, ?_, by omega, fun j v H' hv g => ?_⟩
          · rw [w1l]; exact List.length_pos_iff.mpr Fne
          obtain ⟨e, xa, xp, heF, rfl, hxa, hxp, gg⟩ := cont _ Dl w1 F g56 (g56.at ndD e13) ndD (r13.mono g56.tu) Fne Fle (fun e he => he) j v H' hv g
          refine ⟨xa, _, rfl, hxa, rfl, _, _, rfl, _, _, rfl, _, _, rfl, rfl, ?_⟩
          exact ⟨e, xp, heF, rfl, gg, hxp⟩
      · refine ite2 (fun z => by cases z) (fun _ => ?_)
        refine ⟨_, rfl, b, a, Dl, cs, w1, rfl, (g3.trans g5).b1, .inl ⟨.of (g5.at ndD e13), ndD⟩, ?_, by omega, fun j v H' hv g => ?_⟩
        · rw [w1l]; exact List.length_pos_iff.mpr Fne
        obtain ⟨e, xa, xp, heF, rfl, hxa, hxp, gg⟩ := cont _ Dl w1 F g5 (g5.at ndD e13) ndD (r13.mono g5.tu) Fne Fle (fun e he => he) j v H' hv g
        refine ⟨xa, _, rfl, hxa, rfl, _, _, rfl, _, _, rfl, _, _, rfl, rfl, ?_⟩
        exact ⟨e, xp, heF, rfl, gg, hxp⟩
    rintro σ' H4 ⟨e, xp, heF, rfl, g4, hxp⟩
    obtain ⟨heT, hparts⟩ := Fin e heF
    have eok := tok.en e heT
    have pl : e.parts.length ≤ 2 := tok.sg _ (List.mem_of_getElem? eok.ar)
    clear Fin Fne Fle Gin Gle e3 r3 e13 r13 g3
    refine ⟨_, rfl, _, _, rfl, rfl, sz0, fun fl hfl => ⟨_, _, rfl, ?_⟩⟩
    have ez : (z : Int) - 1 = ((z - 1 : Nat) : Int) := by omega
    try dsimp only
    rw [ez]
    have g5 := g4.new (o := .lst []) hfl
    have nfl : fl ≠ b := g4.nb (g4.back hfl)
    have hfl0 := g4.back hfl
    have efl : (upd H4 fl (.lst [])) fl = some (.lst []) := upd_same
    have hxp5 := (tu_new (o := .lst []) hfl).sq hxp
    generalize upd H4 fl (.lst []) = H5 at g5 efl hxp5
    clear hfl g4 hxp
    refine ⟨_, rfl, xp, _, rfl, hxp5, ?_⟩
    refine for_it (walk_enumT (K := K) (xs := e.parts.map fun (n : Nat) => V.int (n : Int))) (fun i σ H' => ∃ lf qs ws c12 c13 c14, σ = [some (.ref b), some (.ref ta), some (.ref d), some (.int (kk : Int)), some (.int (z : Int)), some (.ref Dl), some (.ref D2), some (.int (e.sign : Int)), some (.ref xp), some (.int (e.kind : Int)), some (.int ((lf : Nat) : Int)), some (.ref fl), c12, c13, c14, none] ∧ Gb b a cs H H' ∧ SqT K H' xp (e.parts.map fun (n : Nat) => V.int (n : Int)) ∧ H' fl = some (.lst ws) ∧ RpL K H' ws (qs.map Pg.d) ∧ qs.length = i ∧ lf ≤ z - 1 ∧ (i = 0 → lf = z - 1) ∧ (qs.map Pg.size).sum + 16 * lf ≤ 16 * (z - 1) + 15 * i ∧ ∀ q ∈ qs, q.ok t.signs ∧ q.height ≤ z + 14)
      ⟨z - 1, [], [], _, _, _, rfl, g5, hxp5, efl, .nil, rfl, Nat.le_refl _, fun _ => rfl, by simp, fun q hq => by cases hq⟩ (fun j σ H6 _ ⟨_, _, _, _, _, _, _, _, e, _⟩ => e) ?_ ?_
    · clear g5 hxp5 efl
      rintro i x σ H6 H7 hi ⟨lf, qs, ws, c12, c13, c14, rfl, g6, hxp6, efl, rq, lq, llf, lz, sz, allq⟩ ⟨T, u, v, rfl, hT, rfl, hu, hv⟩
      rw [List.length_map] at hi
      cases hu
      try dsimp only at hv
      have hk : e.parts[i]? = some e.parts[i] := by simp [hi]
      rw [List.getElem?_map, hk] at hv
      cases hv
      have hjs := hparts _ (List.getElem_mem hi)
      generalize e.parts[i] = jj at hk hjs
      have s7 := same_new (o := .tup [.int (i : Int), .int (jj : Int)]) hT
      have g7 := g6.same s7
      refine ⟨T, _, rfl, .of upd_same, rfl, _, _, rfl, _, _, rfl, rfl, ?_⟩
      have efl7 := s7 _ _ efl
      have hxp7 := (tu_same s7).sq hxp6
      have rq7 := rq.mono (tu_same s7)
      generalize upd H6 T (.tup [.int (i : Int), .int (jj : Int)]) = H7 at g7 efl7 hxp7 rq7
      clear s7 hT g6 efl hxp6 rq
      refine ⟨fun σ' H8 => ∃ sh : Nat, sh ≤ lf ∧ σ' = [some (.ref b), some (.ref ta), some (.ref d), some (.int (kk : Int)), some (.int (z : Int)), some (.ref Dl), some (.ref D2), some (.int (e.sign : Int)), some (.ref xp), some (.int (e.kind : Int)), some (.int ((lf : Nat) : Int)), some (.ref fl), some (.int (i : Int)), some (.int (jj : Int)), some (.int ((sh : Nat) : Int)), none] ∧ Gb b a cs H7 H8, ?_, ?_⟩
      · refine ⟨_, rfl, _, rfl, xp, _, rfl, .inr hxp7, _, _, rfl, rfl, ?_⟩
        rw [List.length_map]
        refine ⟨rfl, _, rfl, ite2 (fun y => ?_) (fun y => ?_)⟩
        · exact ⟨_, rfl, lf, Nat.le_refl _, rfl, .refl g7.b1⟩
        · have i0 : i = 0 ∧ e.parts.length = 2 := by
            have q : ¬ ((i : Int) = (e.parts.length : Int) - 1) := fun h => y (decide_eq_true (by rw [h]))
            omega
          have lf1 := lz i0.1
          have em : (if (lf : Int) > 1 then (lf : Int) else 1) = (lf : Int) := by split <;> omega
          refine ⟨_, rfl, _, rfl, 1, _, rfl, ?_⟩
          try dsimp only
          rw [em]
          refine ⟨b, a, cs, _, rfl, g7.b1, by omega, by omega, fun j H8 j0 j1 g8 => ?_⟩
          obtain ⟨j, rfl⟩ : ∃ n : Nat, j = (n : Int) := ⟨j.toNat, by omega⟩
          exact ⟨j, by omega, rfl, g8⟩
      rintro σ' H8 ⟨sh, hsh, rfl, g8⟩
      have efl8 := g8.at nfl efl7
      have em : (if (lf : Int) < (sh : Int) then (lf : Int) else (sh : Int)) = (sh : Int) := by split <;> omega
      refine ⟨_, rfl, .inl ⟨rfl, _, .of efl8⟩, _, rfl, _, rfl, _, rfl, _, rfl, _, rfl, _, rfl, _, _, rfl, ?_⟩
      try dsimp only
      rw [em]
      have g08 := g7.trans g8
      refine ⟨b, a, d, cs, .ref ta, t, kvs, fb, jj, sh, rfl, by omega, by omega, g8.b1, rt.mono g08.tu, tok, md.gb g08, (md.all jj).mp hjs, fun v H9 p g9 rp pok psz pht => ?_⟩
      have efl9 := g9.at nfl efl8
      have g09 := g08.trans g9
      have rq9 := rq7.mono (g8.trans g9).tu
      have wl : ws.length = qs.length := by rw [rq7.length, List.length_map]
      have t10 : Tu H9 (upd H9 fl (.lst (ws ++ [v]))) := tu_upd efl9 rfl
      refine ⟨fl, _, _, rfl, rfl, efl9, by rw [wl]; exact sz_lt (by omega), ?_⟩
      refine ⟨_, rfl, _, rfl, _, _, rfl, rfl, ?_⟩
      have el : (lf : Int) - (sh : Int) = ((lf - sh : Nat) : Int) := by omega
      refine ⟨lf - sh, qs ++ [p], ws ++ [v], some (.int (i : Int)), some (.int (jj : Int)), some (.int (sh : Int)), by rw [← el]; rfl, g09.mut hfl0, t10.sq ((g8.trans g9).tu.sq hxp7), upd_same, ?_, by rw [List.length_append, lq]; rfl, by omega, fun h => absurd h (by omega), ?_, fun q hq => ?_⟩
      · rw [List.map_append]
        exact (rq9.mono t10).app (.one (rp.mono t10))
      · rw [List.map_append, List.sum_append]
        simp only [List.map_cons, List.map_nil, List.sum_cons, List.sum_nil]
        omega
      · rcases List.mem_append.mp hq with hq | hq
        · exact allq q hq
        · rw [List.mem_singleton.mp hq]; exact ⟨pok, by omega⟩
    · rintro σ H6 ⟨lf, qs, ws, c12, c13, c14, rfl, g6, hxp6, efl, rq, lq, llf, lz, sz, allq⟩
      rw [List.length_map] at lq sz
      have q2 : qs.length ≤ 2 := by omega
      have wl : ws.length = qs.length := by rw [rq.length, List.length_map]
      refine ⟨_, rfl, sz1, fun q10 hq10 => ?_⟩
      have s10 := same_new (o := .tup [.int (e.sign : Int)]) hq10
      have e10 : (upd H6 q10 (.tup [.int (e.sign : Int)])) q10 = some (.tup [.int (e.sign : Int)]) := upd_same
      refine ⟨_, rfl, .inl ⟨fl, ws, rfl, .of (s10 _ _ efl), fun q11 hq11 => ?_⟩⟩
      have s11 := same_new (o := .tup ws) hq11
      refine rCatA_of (.of (s11 _ _ e10)) (.of upd_same) (sz_ok (by simp only [List.length_singleton]; omega)) fun q12 H12 s12 e12 => ?_
      have s612 := s10.trans (s11.trans s12)
      have hok := mkP_okh (h := z + 15) e.sign qs q2 (by rw [lq]; exact eok.ar) (fun q hq => ⟨(allq q hq).1, by have := (allq q hq).2; omega⟩) (fun _ => by omega)
      refine k _ H12 (mkP e.sign qs) (g6.same s612) ?_ hok.1 ?_ hok.2
      · rw [mkP_d e.sign qs q2]
        exact .tup e12 (.cons (.int _) (rq.mono (tu_same s612)))
      · have hs := mkP_sum e.sign qs q2
        omega
end
end K56
set_option Elab.async false
set_option linter.all false
set_option maxRecDepth 100000
set_option maxHeartbeats 4000000
namespace K56
open PySem PySem.Spec PyProof.Rows L2
/-! ### _law_program -/
theorem pairs_back {R : Pg → Prop} : ∀ (M : List (Addr × D)), (∀ m ∈ M, ∃ p : Pg, m.2 = pairD p ∧ R p) → ∃ ps : List Pg, M.map (·.2) = ps.map pairD ∧ ∀ p ∈ ps, R p
  | [], _ => ⟨[], rfl, fun p hp => by cases hp⟩
  | m :: M, h => by
    obtain ⟨ps, h1, h2⟩ := pairs_back M fun x hx => h x (List.mem_cons_of_mem _ hx)
    obtain ⟨p, hp, hr⟩ := h m (List.mem_cons_self ..)
    refine ⟨p :: ps, by rw [List.map_cons, List.map_cons, hp, h1], fun q hq => ?_⟩
    rcases List.mem_cons.mp hq with rfl | hq
    · exact hr
    · exact h2 q hq
theorem dep_map' {α : Type} (f : α → D) (n : Nat) : ∀ l : List α, (∀ x ∈ l, (f x).py.depth ≤ n) → PyData.depthAll (D.pys (l.map f)) ≤ n
  | [], _ => by simp [D.pys, PyData.depthAll]
  | x :: l, h => by
    have q := dep_map' f n l fun y hy => h y (List.mem_cons_of_mem _ hy)
    have q2 := h x (List.mem_cons_self ..)
    simp only [List.map_cons, D.pys, PyData.depthAll]
    omega
def PgV (K : PySem.W.Frag) (H : Hp) (t : Tb) (v : V) : Prop := v = .non ∨ ∃ p : Pg, Rp K H v p.d ∧ p.ok t.signs ∧ p.size ≤ 300 ∧ p.height < 40
theorem PgV.mono {K : PySem.W.Frag} {H H' : Hp} {t : Tb} {v : V} (h : PgV K H t v) (e : Tu H H') : PgV K H' t v := h.imp id fun ⟨p, r, q⟩ => ⟨p, r.mono e, q⟩
def spProg (K : PySem.W.Frag) : Sp := fun vs H Q _ => ∃ (b a : Addr) (cs : List Int) (tv : V) (t : Tb) (z : Nat), vs = [.ref b, tv, .int (z : Int)] ∧ 1 ≤ z ∧ z ≤ 16 ∧ Bag b a cs H ∧ Rp K H tv t.d ∧ t.ok ∧
  ∀ (v : V) (H' : Hp), Gb b a cs H H' → PgV K H' t v → Q v H'
section
variable {P : Program} {w : World} {K : PySem.W.Frag} {mg : Str → Option Value} {base : Heap}
theorem sc_l_program : FnScope ["_law_bag_here", "_law_table_here", "_law_size_here", "_law_turn", "_law_least", "_law_made_here", "_law_best", "_law_found", "_law_kind"] ["_law_bag_here", "_law_table_here", "_law_size_here"] (defScope s_l_program) := ⟨rfl, rfl, rfl, by decide +kernel, rfl, by decide +kernel, by decide +kernel⟩
theorem ok_l_program (A : Hd K mg) : Cl P w K mg base "_law_program" ["_law_bag_here", "_law_table_here", "_law_size_here"] 61 (spProg K) := by
  obtain ⟨fd, F⟩ := A.f_l_program
  refine Cl.of F A.g_l_program sc_l_program (fun _ _ _ _ _ _ us hl => match us, hl with | [_, _, _], _ => rfl) (fun vs H Q E h => (by obtain ⟨b, a, cs, tv, t, z, rfl, z1, z16, Bg, rt, tok, k⟩ := h; rfl)) (fun cdv Ar outer s H vs Q E hr h => ?_)
  obtain ⟨b, a, cs, tv, t, z, rfl, z1, z16, Bg, rt, tok, k⟩ := h
  refine ⟨_, (pss_cons (ps_asg (pe_tup (pa_cons (pe_cl (ok_l_made A) (hr.mono (by decide)) (by rfl) (pa_cons (pv 1) pa_nil)) (pa_cons pe_non pa_nil))) (pg_tup rfl (pgs_cons (pg_name (i := 5) sc_l_program.nd rfl (.inr rfl)) (pgs_cons (pg_name (i := 6) sc_l_program.nd rfl (.inl rfl)) pgs_nil))))
  (pss_mid (ps_for PassesOwn.never (by rfl) (pi_range1 (by rfl) A.z_range (pa_cons (pe_ifExp (pt_cmpR (op_neE (hu64 hr)) (pv 5) pe_dnewK (nomark _)) (pe_cl (ok_l_some A) (hr.mono (by decide)) (by rfl) (pa_cons (pv 0) (pa_cons (pe_lst (pa_cons pe_int (pa_cons pe_int (pa_cons pe_int pa_nil)))) pa_nil))) pe_int) pa_nil)) (pg_name (i := 3) sc_l_program.nd rfl (.inl rfl))
  (pss_cons (ps_set (i := 7) sc_l_program.nd rfl (.inl rfl) (pe_cl (ok_l_grown A 17) (hr.mono (by decide)) (by rfl) (pa_cons (pv 0) (pa_cons (pv 1) (pa_cons (pv 5) (pa_cons (pe_cl (ok_l_some A) (hr.mono (by decide)) (by rfl) (pa_cons (pv 0) (pa_cons (pe_callTy (call_list_dK (by rfl)) (by rfl) A.z_list (by decide +kernel) (pa_cons (pv 5) pa_nil)) pa_nil))) (pa_cons (pe_op op_add pe_int (pe_cl (ok_l_take A) (hr.mono (by decide)) (by rfl) (pa_cons (pv 0) (pa_cons (pv 2) pa_nil)))) pa_nil)))))))
  (pss_one (ps_if (PW.pt (pw_and (pt_cmpR op_le (pe_cl (ok_l_size A 50) (hr.mono (by decide)) (by rfl) (pa_cons (pv 7) pa_nil)) (pv 2) (nomark _)) (pw_and1 (PW.pt (pw_or (pt_cmpR op_isN (pv 6) pe_non (nomark _)) (pw_or1 (pt_cmpR op_gt (pe_cl (ok_l_size A 50) (hr.mono (by decide)) (by rfl) (pa_cons (pv 7) pa_nil)) (pe_cl (ok_l_size A 50) (hr.mono (by decide)) (by rfl) (pa_cons (pv 6) pa_nil)) (nomark _)))))))) (pss_one (ps_set (i := 6) sc_l_program.nd rfl (.inl rfl) (pv 7))) pss_nil))))
  (pss_mid (ps_set (i := 4) sc_l_program.nd rfl (.inl rfl) (pe_ifExp (pt_cmpR op_isN (pv 6) pe_non (nomark _)) (pe_callB (cr_sortedD (by rfl) (hu64 hr)) (by rfl) A.z_sorted (by decide +kernel) (pa_cons (pe_lock (pe_lcF (own := [("_law_kind", 8)]) (by rfl) sc_l_program.nd (pi_keys (pv 5)) (blkOk_by (by rfl)) (fun _ _ _ _ _ => (pg_name (i := 8) sc_l_program.nd rfl (.inl rfl))) (fun _ _ _ _ _ => pts_nil) (fun _ _ _ _ _ => (pe_tup (pa_cons (pe_cl (ok_l_size A 50) (hr.mono (by decide)) (by rfl) (pa_cons (pe_dget (hu_of hr) (pv 5) (pv 8) (fun _ _ => rfl)) pa_nil)) (pa_cons (pe_dget (hu_of hr) (pv 5) (pv 8) (fun _ _ => rfl)) pa_nil)))))) pa_nil)) (pe_lst pa_nil)))
  (pss_one (ps_ret (pe_ifExp (PW.pt (pw_and (pt_cmpR (op_neQ (hu64 hr)) (pv 4) (pe_lst pa_nil) (nomark _)) (pw_and1 (pt_cmpR op_le (pe_ix ix_tup (pe_ix ix_list (pv 4) pe_int (fun _ _ => rfl)) pe_int (fun _ _ => rfl)) (pv 2) (nomark _))))) (pe_ix ix_tup (pe_ix ix_list (pv 4) pe_int (fun _ _ => rfl)) pe_int (fun _ _ => rfl)) (pv 6))))))), ?_⟩
  refine ⟨_, rfl, tv, t, rfl, rt, tok, fun d kvs fb H1 s1 md => ⟨sz2, fun q0 hq0 => ⟨q0, _, rfl, .of upd_same, rfl, _, _, rfl, _, _, rfl, rfl, ?_⟩⟩⟩
  have s2 := s1.trans (same_new (o := .tup [.ref d, .non]) hq0)
  have md2 := md.same (same_new (o := .tup [.ref d, .non]) hq0)
  try dsimp only
  generalize upd H1 q0 (.tup [.ref d, .non]) = H2 at s2 md2
  clear hq0 md s1
  have g2 := same_gb Bg s2
  have kl := madeL_len t
  have m4 := tok.m4
  have kvl : kvs.length = (madeL t).length := by
    have q := congrArg List.length md2.keys
    simpa using q
  refine ⟨fun σ' H' => ∃ c3 c7 bv, σ' = [some (.ref b), some tv, some (.int (z : Int)), c3, none, some (.ref d), some bv, c7, none] ∧ Gb b a cs H H' ∧ MadeD K H' d t kvs fb ∧ PgV K H' t bv, ?_, ?_⟩
  · refine ⟨_, rfl, fun q1 hq1 => ?_⟩
    have s3 := same_new (o := .dK []) hq1
    refine ⟨d, q1, rfl, rfl, upd_same, .inl ⟨kvs, s3 _ _ md2.e, _, rfl, ite2 (fun y => ?_) (fun y => ?_)⟩⟩
    rotate_left
    · refine ⟨_, rfl, by decide, by decide, ?_⟩
      refine for_range (fun i σ H' => σ = [some (.ref b), some tv, some (.int (z : Int)), none, none, some (.ref d), some .non, none, none] ∧ H' = upd H2 q1 (.dK [])) ⟨rfl, rfl⟩ ?_ ?_
      · rintro i σ H' hi
        exact absurd hi (Nat.not_lt_zero _)
      · rintro σ H' ⟨rfl, rfl⟩
        exact ⟨none, none, .non, rfl, g2.same s3, md2.same s3, .inl rfl⟩
    have kne : kvs ≠ [] := fun h => by rw [h] at y; cases y
    have g3 := g2.same s3
    have md3 := md2.same s3
    generalize upd H2 q1 (.dK []) = H3 at g3 md3
    refine ⟨_, rfl, sz3, fun q2 hq2 => ?_⟩
    have g4 := g3.new (o := .lst [.int 4, .int 4, .int 1]) hq2
    refine ⟨b, a, q2, cs, _, rfl, g4.b1, .inl ⟨.of upd_same, g3.nb (g3.back hq2)⟩, (show 0 < 3 by decide), (show 3 ≤ 1000 by decide), fun i4 v H5 hv g5 => ?_⟩
    have hv' : ∃ n : Nat, n ≤ 4 ∧ v = .int (n : Int) := by
      match i4, hv with
      | 0, hv => cases hv; exact ⟨4, by omega, rfl⟩
      | 1, hv => cases hv; exact ⟨4, by omega, rfl⟩
      | 2, hv => cases hv; exact ⟨1, by omega, rfl⟩
      | i + 3, hv => simp at hv
    obtain ⟨n, hn, rfl⟩ := hv'
    have g45 := g4.trans g5
    refine ⟨_, rfl, by omega, by omega, ?_⟩
    rw [Int.toNat_natCast]
    refine for_range (fun i σ H' => ∃ c3 c7 bv, σ = [some (.ref b), some tv, some (.int (z : Int)), c3, none, some (.ref d), some bv, c7, none] ∧ Gb b a cs H H' ∧ MadeD K H' d t kvs fb ∧ PgV K H' t bv) ⟨none, none, .non, rfl, g45, (md3.same (same_new hq2)).gb g5, .inl rfl⟩ ?_ ?_
    rotate_left
    · rintro σ H' ⟨c3, c7, bv, rfl, g6, md6, hb⟩
      exact ⟨c3, c7, bv, rfl, g6, md6, hb⟩
    clear g45 g5 g4 md3 g3 hq2 g2 md2 s2
    rintro i σ H' hi ⟨c3, c7, bv, rfl, g6, md6, hb⟩
    refine ⟨_, rfl, _, rfl, _, rfl, _, rfl, _, rfl, d, kvs, rfl, md6.e, fun q4 hq4 => ?_⟩
    have g7 := g6.new (o := .lst (kvs.map fun kv => kV kv.1)) hq4
    have md7 := md6.same (same_new (o := .lst (kvs.map fun kv => kV kv.1)) hq4)
    have hb7 := hb.mono (tu_new (o := .lst (kvs.map fun kv => kV kv.1)) hq4)
    refine ⟨b, a, q4, cs, _, rfl, g7.b1, .inl ⟨.of upd_same, g6.nb (g6.back hq4)⟩, by rw [List.length_map]; exact List.length_pos_iff.mpr kne, by rw [List.length_map]; omega, fun j v H8 hv g8 => ?_⟩
    obtain ⟨kk, hkk, rfl⟩ : ∃ kk : Nat, kk ∈ madeL t ∧ v = .int (kk : Int) := by
      have e : (kvs.map fun kv => kV kv.1) = (madeL t).map fun (k : Nat) => V.int (k : Int) := by
        have q : (kvs.map fun kv => kV kv.1) = (kvs.map (·.1)).map kV := by rw [List.map_map]; rfl
        rw [q, md6.keys, List.map_map]
        rfl
      rw [e, List.getElem?_map] at hv
      cases hm : (madeL t)[j]? with
      | none => rw [hm] at hv; cases hv
      | some kk => rw [hm] at hv; cases hv; exact ⟨kk, List.mem_of_getElem? hm, rfl⟩
    have hmk := ((madeL_mem kk).mp hkk).2
    have md8 := md7.gb g8
    have hb8 := hb7.mono g8.tu
    have g08 := g7.trans g8
    clear hv hq4 g7 md7 hb7 md6 hb g6
    refine ⟨_, rfl, _, rfl, b, a, cs, _, rfl, g8.b1, by omega, by omega, fun j2 H9 j0 j1 g9 => ?_⟩
    obtain ⟨j2, rfl⟩ : ∃ n : Nat, j2 = (n : Int) := ⟨j2.toNat, by omega⟩
    have md9 := md8.gb g9
    have hb9 := hb8.mono g9.tu
    have g09 := g08.trans g9
    refine ⟨_, _, rfl, rfl, ?_⟩
    have ej : (1 : Int) + (j2 : Int) = ((1 + j2 : Nat) : Int) := by omega
    try dsimp only
    rw [ej]
    refine ⟨b, a, d, cs, tv, t, kvs, fb, kk, 1 + j2, rfl, by omega, by omega, g09.b1, rt.mono g09.tu, tok, md9, hmk, fun v H10 p g10 rp pok psz pht => ?_⟩
    have g010 := g09.trans g10
    have md10 := md9.gb g10
    have hb10 := hb9.mono g10.tu
    clear g9 md9 hb9 g08 g8 md8 hb8
    have new : PgV K H10 t v := .inr ⟨p, rp, pok, by omega, by omega⟩
    refine ⟨_, rfl, v, p, rfl, rp, by omega, fun H11 s11 => ?_⟩
    have keep : ∀ H', Same H10 H' → Gb b a cs H H' ∧ MadeD K H' d t kvs fb ∧ PgV K H' t bv := fun H' s' => ⟨g010.same s', md10.same s', hb10.mono (tu_same s')⟩
    have take : ∀ H', Same H10 H' → Gb b a cs H H' ∧ MadeD K H' d t kvs fb ∧ PgV K H' t v := fun H' s' => ⟨g010.same s', md10.same s', new.mono (tu_same s')⟩
    refine ⟨_, rfl, _, _, rfl, rfl, _, rfl, ite2 (fun y1 => ?_) (fun y1 => ?_)⟩
    rotate_left
    · exact ite2 (fun z => by cases z) (fun _ => ⟨some (.int (0 + (i : Int))), some v, bv, rfl, keep _ s11⟩)
    rcases hb10 with rfl | ⟨pb, rpb, pbok, pbs, pbh⟩
    · refine ⟨_, rfl, rfl, _, rfl, ite2 (fun y2 => ?_) (fun y2 => absurd (by simp) y2)⟩
      exact ite2 (fun _ => ⟨_, rfl, some (.int (0 + (i : Int))), some v, v, rfl, take _ s11⟩) (fun z => absurd rfl z)
    · obtain ⟨ba, bws, rfl, _, _⟩ := pg_inv rpb
      refine ⟨_, rfl, rfl, _, rfl, ite2 (fun y2 => by simp at y2) (fun y2 => ?_)⟩
      refine ⟨_, rfl, v, p, rfl, rp.mono (tu_same s11), by omega, fun H12 s12 => ⟨_, rfl, .ref ba, pb, rfl, rpb.mono (tu_same (s11.trans s12)), by omega, fun H13 s13 => ⟨_, _, rfl, rfl, _, rfl, ite2 (fun y3 => ?_) (fun y3 => ?_)⟩⟩⟩
      · exact ⟨_, rfl, some (.int (0 + (i : Int))), some v, v, rfl, take _ (s11.trans (s12.trans s13))⟩
      · exact ⟨some (.int (0 + (i : Int))), some v, .ref ba, rfl, keep _ (s11.trans (s12.trans s13))⟩
  clear md2 g2 s2
  rintro σ' H' ⟨c3, c7, bv, rfl, g3, md3, hb⟩
  refine ⟨fun σ' H'' => ∃ (lp : Addr) (ws : List V) (ps : List Pg), σ' = [some (.ref b), some tv, some (.int (z : Int)), c3, some (.ref lp), some (.ref d), some bv, c7, none] ∧ Gb b a cs H H'' ∧ PgV K H'' t bv ∧ H'' lp = some (.lst ws) ∧ RpL K H'' ws (ps.map pairD) ∧ ∀ p ∈ ps, p.ok t.signs ∧ p.size ≤ 15, ?_, ?_⟩
  · refine ⟨_, rfl, rfl, _, rfl, ite2 (fun y => ?_) (fun y => ?_)⟩
    rotate_left
    · refine ⟨sz0, fun q1 hq1 => ?_⟩
      exact ⟨q1, [], [], rfl, g3.new hq1, hb.mono (tu_new hq1), upd_same, .nil, fun p hp => by cases hp⟩
    refine ⟨d, .dK kvs, md3.e, trivial, fun od => ?_⟩
    have t4 : Tu H' (upd H' d (.frz od (.dK kvs))) := tu_upd md3.e rfl
    have e4 : (upd H' d (.frz od (.dK kvs))) d = some (.frz od (.dK kvs)) := upd_same
    have b4 : ∀ x o, x ≠ d → H' x = some o → (upd H' d (.frz od (.dK kvs))) x = some o := fun x o n h => by rw [upd_ne n]; exact h
    have n4 : ∀ x, x ≠ d → (upd H' d (.frz od (.dK kvs))) x = H' x := fun x n => upd_ne n
    generalize upd H' d (.frz od (.dK kvs)) = H4 at t4 e4 b4 n4
    refine ⟨_, rfl, d, od, rfl, .inl ⟨kvs, e4, fun Dl hD => ?_⟩⟩
    refine lc_map (K := K) (walk_keys (d := d) (o := od) (kvs := kvs)) hD ((madeL t).map fun k => pairD ((fb k).getD (.n0 0))) (by simp [kvl]) (by omega) (fun H6 s6 => s6 _ _ e4) ?_ ?_
    · rintro j x H6 _ dd hdd s6 ⟨rfl, k0, v0, hk0, rfl⟩ Qe he
      rw [List.getElem?_map] at hdd
      cases hm : (madeL t)[j]? with
      | none => rw [hm] at hdd; cases hdd
      | some kk =>
        rw [hm] at hdd
        cases hdd
        have ek : k0 = .inl (kk : Int) := by
          have q : (kvs.map (·.1))[j]? = some k0 := by rw [List.getElem?_map, hk0]; rfl
          rw [md3.keys, List.getElem?_map, hm] at q
          exact (Option.some.inj q).symm
        subst ek
        obtain ⟨pg, hpg⟩ := Option.isSome_iff_exists.mp ((md3.all kk).mpr ((madeL_mem kk).mp (List.mem_of_getElem? hm)).2)
        obtain ⟨v, hv1, hv2⟩ := md3.kd.yes kk pg hpg
        have psz := md3.li.size tok hpg
        have pht := pg.height_lt
        have rv := (hv2.mono t4).mono (tu_same s6)
        refine ⟨rfl, _, rfl, _, rfl, d, v, rfl, .inl ⟨kvs, .inl (kk : Int), .inr ⟨od, s6 _ _ e4⟩, rfl, hv1.symm⟩, v, pg, rfl, rv, by omega, fun H7 s7 => ?_⟩
        refine ⟨_, rfl, _, rfl, d, v, rfl, .inl ⟨kvs, .inl (kk : Int), .inr ⟨od, (s6.trans s7) _ _ e4⟩, rfl, hv1.symm⟩, sz2, fun q hq => ?_⟩
        refine he _ _ (s7.trans (same_new hq)) ?_
        show Rp K _ _ (pairD ((fb kk).getD (.n0 0)))
        rw [hpg]
        exact .tup (.of upd_same) (.cons (.int _) (.one (rv.mono (tu_same (s7.trans (same_new hq))))))
    intro H6 w6 s6 e6 r6
    have ndl : Dl ≠ d := (ne_of_none e4 hD).symm
    refine ⟨s6 _ _ e4, ?_⟩
    have t7 : Tu H6 (upd H6 d (.dK kvs)) := tu_upd (s6 _ _ e4) rfl
    have e7 : (upd H6 d (.dK kvs)) Dl = some (.lst w6) := by rw [upd_ne ndl]; exact e6
    have s7 : Same H' (upd H6 d (.dK kvs)) := fun x u hx => by
      by_cases e : x = d
      · subst e
        rw [upd_same, ← hx, md3.e]
      · rw [upd_ne e]
        exact s6 _ _ (b4 x u e hx)
    have r7 := r6.mono t7
    generalize upd H6 d (.dK kvs) = H7 at t7 e7 s7 r7
    obtain ⟨L, rfl, hL, hr⟩ := row_of r7 (fun dd hd => by
      obtain ⟨k, _, rfl⟩ := List.mem_map.mp hd
      exact ⟨_, rfl⟩)
    have allL : ∀ m ∈ L, ∃ p : Pg, m.2 = pairD p ∧ p.ok t.signs ∧ p.size ≤ 15 := fun m hm => by
      have q : m.2 ∈ (madeL t).map fun k => pairD ((fb k).getD (.n0 0)) := by rw [hL]; exact List.mem_map_of_mem hm
      obtain ⟨k, hk, e⟩ := List.mem_map.mp q
      obtain ⟨pg, hpg⟩ := Option.isSome_iff_exists.mp ((md3.all k).mpr ((madeL_mem k).mp hk).2)
      rw [hpg] at e
      exact ⟨pg, e.symm, (md3.li.ok k pg hpg).2.1, md3.li.size tok hpg⟩
    have lL : L.length ≤ 4 := by
      have q := congrArg List.length hL
      rw [List.length_map, List.length_map] at q
      omega
    refine ⟨Dl, L, rfl, .inr (.inl (.of e7)), hr, ⟨fun p hp q hq => ?_, fun p hp => ?_, fun p hp => ?_, by omega⟩, fun p M hp pm => ?_⟩
    · obtain ⟨x, hx, _⟩ := allL p hp
      obtain ⟨y, hy, _⟩ := allL q hq
      rw [hx, hy]
      exact pair_alike x y
    · obtain ⟨x, hx, _⟩ := allL p hp
      exact ⟨_, _, hx⟩
    · obtain ⟨x, hx, _, hs⟩ := allL p hp
      rw [hx]
      have h1 := pair_dep x
      have h2 := x.height_lt
      omega
    · obtain ⟨ps, h1, h2⟩ := pairs_back M fun m hm => allL m (pm.mem_iff.mp hm)
      have s8 := same_new (o := .lst (M.map fun q => V.ref q.1)) hp
      refine ⟨p, _, ps, rfl, g3.same (s7.trans s8), hb.mono (tu_same (s7.trans s8)), upd_same, ?_, h2⟩
      rw [← h1]
      exact rpL_of fun m hm => (hr m (pm.mem_iff.mp hm)).mono (tu_same s8)
  rintro σ' H4 ⟨lp, ws, ps, rfl, g4, hb4, e4, r4, hps⟩
  refine ⟨_, rfl, sz0, fun q1 hq1 => ?_⟩
  have s5 := same_new (o := .lst []) hq1
  have hb5 := hb4.mono (tu_same s5)
  have e5 := s5 _ _ e4
  have r5 := r4.mono (tu_same s5)
  have dps : PyData.depthAll (D.pys (ps.map pairD)) ≤ 20 := by
    refine dep_map' pairD 20 ps fun p hp => ?_
    have h1 := pair_dep p
    have h2 := p.height_lt
    have h3 := (hps p hp).2
    omega
  refine .inr ⟨lp, q1, ws, [], ps.map pairD, [], rfl, rfl, .of e5, .of upd_same, r5, .nil, by omega, by simp [D.pys, PyData.depthAll], _, rfl, ite2 (fun y => ?_) (fun y => ?_)⟩
  rotate_left
  · exact ite2 (fun z => by cases z) (fun _ => ⟨_, rfl, k bv _ (g4.same s5) hb5⟩)
  have pne : ps ≠ [] := fun h => by simp [h] at y
  match ps, pne with
  | p0 :: ps', _ =>
    obtain ⟨v0, w0, rfl, rv0, _⟩ := r5.cons_inv
    obtain ⟨tt, qv, rfl, htt, hqv⟩ := pair_inv rv0
    obtain ⟨pok, psz⟩ := hps p0 (List.mem_cons_self ..)
    have pht := p0.height_lt
    refine ⟨_, rfl, lp, _, _, _, rfl, rfl, .of e5, atI_nat (j := 0) rfl, tt, _, _, _, rfl, rfl, htt, atI_nat (j := 0) rfl, _, rfl, _, _, rfl, rfl, _, rfl, ite2 (fun y2 => ?_) (fun y2 => ?_)⟩
    · exact ⟨_, rfl, lp, _, _, _, rfl, rfl, .of e5, atI_nat (j := 0) rfl, tt, _, _, _, rfl, rfl, htt, atI_nat (j := 1) rfl, k qv _ (g4.same s5) (.inr ⟨p0, hqv, pok, by omega, by omega⟩)⟩
    · exact ⟨_, rfl, k bv _ (g4.same s5) hb5⟩
end
end K56
set_option Elab.async false
set_option linter.all false
set_option maxRecDepth 100000
set_option maxHeartbeats 4000000
namespace K56
open PySem PySem.Spec PyProof.Rows L2 LamX
/-! ### what is kept where Rows have been: all but the bag and the code tables -/
structure Gx (K : PySem.W.Frag) (b a : Addr) (cs : List Int) (H0 H : Hp) : Prop where
  b0 : Bag b a cs H0
  but : ∀ x o, x ≠ b → H0 x = some o → (∀ ps, o ≠ .tbl ps) → H x = some o
  b1 : Bag b a cs H
  tb : Tabs (TT K) H
section
variable {K : PySem.W.Frag} {b a : Addr} {cs : List Int} {H H0 H1 H2 : Hp}
theorem tabs_gb (t : Tabs (TT K) H) (g : Gb b a cs H H1) : Tabs (TT K) H1 := fun p hp => by
  obtain ⟨i0, i1, i2, hb, _⟩ := g.b0.at_
  obtain ⟨ps, q1, q2, q3⟩ := t p hp
  refine ⟨ps, g.but _ _ (fun e => by rw [e, hb] at q1; cases q1) q1, q2, fun pos cv hc => ?_⟩
  obtain ⟨c, e1, e2⟩ := q3 pos cv hc
  exact ⟨c, e1, g.but _ _ (fun e => by rw [e, hb] at e2; cases e2) e2⟩
theorem Gx.refl (B : Bag b a cs H) (t : Tabs (TT K) H) : Gx K b a cs H H := ⟨B, fun _ _ _ h _ => h, B, t⟩
theorem Gx.trans (g : Gx K b a cs H0 H1) (h : Gx K b a cs H1 H2) : Gx K b a cs H0 H2 := ⟨g.b0, fun x o n e nt => h.but x o n (g.but x o n e nt) nt, h.b1, h.tb⟩
theorem Gx.gb (g : Gx K b a cs H0 H1) (h : Gb b a cs H1 H2) : Gx K b a cs H0 H2 := ⟨g.b0, fun x o n e nt => h.but x o n (g.but x o n e nt), h.b1, tabs_gb g.tb h⟩
theorem Gx.same (g : Gx K b a cs H0 H1) (s : Same H1 H2) : Gx K b a cs H0 H2 := g.gb (same_gb g.b1 s)
theorem Bag.extN (B : Bag b a cs H) (e : ExtN H H1) : Bag b a cs H1 := by
  obtain ⟨i0, i1, i2, h, r⟩ := B.at_
  exact ⟨B.ne, e _ _ B.inn (fun ps z => by cases z), B.pos, B.few, i0, i1, i2, e _ _ h (fun ps z => by cases z), r⟩
theorem Gx.ext (g : Gx K b a cs H0 H1) (e : ExtN H1 H2) (t : Tabs (TT K) H2) : Gx K b a cs H0 H2 := ⟨g.b0, fun x o n h nt => e x o (g.but x o n h nt) nt, g.b1.extN e, t⟩
theorem Gx.at (g : Gx K b a cs H0 H1) {x : Addr} {o : HO} (n : x ≠ b) (h : H0 x = some o) (nt : ∀ ps, o ≠ .tbl ps) : H1 x = some o := g.but x o n h nt
theorem Gx.tu (g : Gx K b a cs H0 H1) : Tu H0 H1 := fun x xs r => by
  obtain ⟨o, h, n⟩ := g.b0.tr
  have nb : x ≠ b := fun e => by
    rw [e] at r
    rcases r with r | ⟨z, r⟩
    · rw [h] at r; cases r; cases n
    · rw [h] at r; cases r; cases n
  rcases r with r | ⟨z, r⟩
  · exact .inl (g.but _ _ nb r (fun ps z => by cases z))
  · exact .inr ⟨z, g.but _ _ nb r (fun ps z => by cases z)⟩
theorem Gx.seq (g : Gx K b a cs H0 H1) {l : Addr} {xs : List V} (h : SqL K H0 l xs) (n : l ≠ b) : SqL K H1 l xs := by
  rcases h with (h | ⟨q, h⟩) | h
  · exact .inl (.inl (g.but _ _ n h (fun ps z => by cases z)))
  · exact .inl (.inr ⟨q, g.but _ _ n h (fun ps z => by cases z)⟩)
  · exact .inr h
end
theorem rg_nats (n : Nat) : rgV 0 (n : Int) = (List.range n).map fun (k : Nat) => V.int (k : Int) := by
  unfold rgV
  simp
theorem in_nats (L : List Nat) (k : Nat) : inV (.int (k : Int)) (L.map fun (n : Nat) => V.int (n : Int)) = L.contains k := by
  unfold inV
  induction L with
  | nil => rfl
  | cons x L ih =>
    rw [List.map_cons, List.any_cons, ih, List.contains_cons]
    congr 1
    show decide ((x : Int) = (k : Int)) = (k == x)
    by_cases e : x = k
    · subst e; simp
    · have e2 : (x : Int) ≠ (k : Int) := fun h => e (Int.ofNat_inj.mp h)
      rw [decide_eq_false e2]
      exact (beq_eq_false_iff_ne.mpr (fun h => e h.symm)).symm
theorem flat_nats (L : List Nat) : (L.map fun (n : Nat) => V.int (n : Int)).all flatV = true := by
  rw [List.all_eq_true]
  intro v hv
  obtain ⟨n, _, rfl⟩ := List.mem_map.mp hv
  rfl
/-- the kinds that are not made -/
noncomputable def bareL (t : Tb) : List Nat := (List.range t.many).filter fun k => !(madeL t).contains k
theorem bareL_mem {t : Tb} (k : Nat) : k ∈ bareL t ↔ k < t.many ∧ ¬ Made t.ents k := by
  unfold bareL
  rw [List.mem_filter, List.mem_range]
  constructor
  · rintro ⟨h1, h2⟩
    refine ⟨h1, fun m => ?_⟩
    have q := (madeL_mem k).mpr ⟨h1, m⟩
    simp [q] at h2
  · rintro ⟨h1, h2⟩
    refine ⟨h1, ?_⟩
    have q : k ∉ madeL t := fun h => h2 ((madeL_mem k).mp h).2
    simp [q]
theorem not_bare (t : Tb) : (List.range t.many).filter (fun k => !(bareL t).contains k) = madeL t := by
  unfold madeL
  refine List.filter_congr fun k hk => ?_
  have hk' := List.mem_range.mp hk
  by_cases m : Made t.ents k
  · have q : k ∉ bareL t := fun h => ((bareL_mem k).mp h).2 m
    rw [@decide_eq_true _ (Classical.propDecidable _) m]
    simp [q]
  · have q : k ∈ bareL t := (bareL_mem k).mpr ⟨hk', m⟩
    rw [@decide_eq_false _ (Classical.propDecidable _) m]
    simp [q]
theorem rep1_of {K : PySem.W.Frag} {H : Hp} {l : Addr} {v : V} {n : Nat} {Q : VK} (hn : n = 1 ∨ n = 2) (hl : SqT K H l [v]) (k : ∀ (r : Addr) (H' : Hp), Same H H' → SqT K H' r (List.replicate (n - 1) v) → Q (.ref r) H') : rRep1 K (.ref l) (.int ((n : Int) - 1)) H Q := by
  refine ⟨l, v, _, rfl, rfl, hl, ?_⟩
  rcases hn with rfl | rfl
  · exact .inr ⟨rfl, fun p hp => k p _ (same_new hp) (.of upd_same)⟩
  · exact .inl ⟨rfl, k l H (Same.refl _) hl⟩
def spNC (K : PySem.W.Frag) : Sp := fun vs H Q _ => ∃ (b a : Addr) (cs : List Int) (tv : V) (t : Tb), vs = [.ref b, tv] ∧ Bag b a cs H ∧ Tabs (TT K) H ∧ Rp K H tv t.d ∧ Tgood t ∧ t.many ≤ 3 ∧
  ∀ H', Gx K b a cs H H' → Q (.bl true) H'
section
variable {P : Program} {w : World} {K : PySem.W.Frag} {mg : Str → Option Value} {base : Heap}
theorem sc_l_is_nothing_changed : FnScope ["_law_bag_here", "_law_table_here", "_law_more_here", "_law_every", "_law_many", "_law_signs_here", "_law_entries", "_law_bare", "_law_sign", "_law_size_here", "_law_kind"] ["_law_bag_here", "_law_table_here"] (defScope s_l_is_nothing_changed) := ⟨rfl, rfl, rfl, by decide +kernel, rfl, by decide +kernel, by decide +kernel⟩
theorem ok_l_is_nothing_changed (A : Hd K mg) (TB : TabB base mg (He.cT K pS).1 (He.cT K pS).2) : Cl P w K mg base "_law_is_nothing_changed" ["_law_bag_here", "_law_table_here"] 61 (spNC K) := by
  obtain ⟨fd, F⟩ := A.f_l_is_nothing_changed
  refine Cl.of F A.g_l_is_nothing_changed sc_l_is_nothing_changed (fun _ _ _ _ _ _ us hl => match us, hl with | [_, _], _ => rfl) (fun vs H Q E h => (by obtain ⟨b, a, cs, tv, t, rfl, _⟩ := h; rfl)) (fun cdv Ar outer s H vs Q E hr h => ?_)
  obtain ⟨b, a, cs, tv, t, rfl, Bg, TT0, rt, tg, m3, k⟩ := h
  refine ⟨_, (pss_cons (ps_asg (pv 1) (pg_tup rfl (pgs_cons (pg_name (i := 4) sc_l_is_nothing_changed.nd rfl (.inl rfl)) (pgs_cons (pg_name (i := 5) sc_l_is_nothing_changed.nd rfl (.inl rfl)) (pgs_cons (pg_name (i := 6) sc_l_is_nothing_changed.nd rfl (.inl rfl)) pgs_nil)))))
  (pss_cons (ps_asg (pe_tup (pa_cons (pe_lcF (own := [("_law_kind", 10)]) (by rfl) sc_l_is_nothing_changed.nd (pi_range1 (by rfl) A.z_range (pa_cons (pv 4) pa_nil)) (blkOk_by (by rfl)) (fun _ _ _ _ _ => (pg_name (i := 10) sc_l_is_nothing_changed.nd rfl (.inl rfl))) (fun _ _ _ _ _ => (pts_one (pt_cmp (pc_dnotin (hu_of hr) (pv 10) (pe_cl (ok_l_made A) (hr.mono (by decide)) (by rfl) (pa_cons (pv 1) pa_nil))) (by with_unfolding_all rfl)))) (fun _ _ _ _ _ => (pv 10))) (pa_cons (pe_lst pa_nil) pa_nil))) (pg_tup rfl (pgs_cons (pg_name (i := 7) sc_l_is_nothing_changed.nd rfl (.inr rfl)) (pgs_cons (pg_name (i := 2) sc_l_is_nothing_changed.nd rfl (.inl rfl)) pgs_nil))))
  (pss_cons (ps_if (pt_cmpR (op_neQ (hu64 hr)) (pe_cl (ok_made_kinds A) (hr.mono (by decide)) (by rfl) (pa_cons (pv 1) pa_nil)) (pe_lcF (own := [("_law_kind", 10)]) (by rfl) sc_l_is_nothing_changed.nd (pi_range1 (by rfl) A.z_range (pa_cons (pv 4) pa_nil)) (blkOk_by (by rfl)) (fun _ _ _ _ _ => (pg_name (i := 10) sc_l_is_nothing_changed.nd rfl (.inl rfl))) (fun _ _ _ _ _ => (pts_one (pt_cmpR op_notIn_seq (pv 10) (pv 7) (by with_unfolding_all rfl)))) (fun _ _ _ _ _ => (pv 10))) (nomark _)) (pss_one (ps_ret pe_bl)) pss_nil)
  (pss_cons (ps_for PassesOwn.never (by rfl) (pi_enumT (by rfl) A.z_enumerate (pa_cons (pv 5) pa_nil)) (pg_tup rfl (pgs_cons (pg_name (i := 8) sc_l_is_nothing_changed.nd rfl (.inl rfl)) (pgs_cons (pg_name (i := 9) sc_l_is_nothing_changed.nd rfl (.inl rfl)) pgs_nil)))
  (pss_one (ps_if (PW.pt (pw_and (pt_cmpR op_gt (pv 9) pe_int (nomark _)) (pw_and (pt_cmpR (op_neQ (hu64 hr)) (pv 7) (pe_lst pa_nil) (nomark _)) (pw_and1 (pt_cmpR op_eq (pe_cl (ok_l_take A) (hr.mono (by decide)) (by rfl) (pa_cons (pv 0) (pa_cons pe_int pa_nil))) pe_int (nomark _)))))) (pss_one (ps_expr (pe_bm PySem.F.plainAttrs_list PySem.F.slot_list_append PySem.F.type_list_append mt_append (pv 2) (pa_cons (pe_tup (pa_cons (pv 8) (pa_cons (pe_op op_catA (pe_tup (pa_cons (pe_cl (ok_l_some A) (hr.mono (by decide)) (by rfl) (pa_cons (pv 0) (pa_cons (pv 7) pa_nil))) pa_nil)) (pe_op op_rep1 (pe_tup (pa_cons (pe_cl (ok_l_take A) (hr.mono (by decide)) (by rfl) (pa_cons (pv 0) (pa_cons (pv 4) pa_nil))) pa_nil)) (pe_op op_sub (pv 9) pe_int))) (pa_cons (pe_cl (ok_l_take A) (hr.mono (by decide)) (by rfl) (pa_cons (pv 0) (pa_cons (pv 4) pa_nil))) pa_nil)))) pa_nil)))) pss_nil)))
  (pss_cons (ps_set (i := 2) sc_l_is_nothing_changed.nd rfl (.inl rfl) (pe_tupleOf (by rfl) A.z_tuple (pe_callB (cr_sortedD (by rfl) (hu64 hr)) (by rfl) A.z_sorted (by decide +kernel) (pa_cons (pe_callTy (cr_setD (by rfl) (hu64 hr)) (by rfl) A.z_set (by decide +kernel) (pa_cons (pv 2) pa_nil)) pa_nil))))
  (pss_cons (ps_set (i := 3) sc_l_is_nothing_changed.nd rfl (.inl rfl) (pe_tupRg (by rfl) (by rfl) A.z_tuple (prg_1 (by rfl) A.z_range (pv 4))))
  (pss_one (ps_ret (pe_and (pe_cmpR op_isN (pe_cl (ok_harmed A TB) (hr.mono (by decide)) (by rfl) (pa_cons (pv 1) (pa_cons (pv 2) pa_nil))) pe_non (nomark _)) (pe_one (pe_cmpR op_isN (pe_cl (ok_unlike_many A) (hr.mono (by decide)) (by rfl) (pa_cons (pv 1) (pa_cons (pv 3) (pa_cons (pe_cl (ok_with_entries A) (hr.mono (by decide)) (by rfl) (pa_cons (pv 1) (pa_cons (pv 2) pa_nil))) (pa_cons (pv 3) pa_nil))))) pe_non (nomark _)))))))))))), ?_⟩
  obtain ⟨ta, sa, ea, es, rfl, hta, hsa, hea, re⟩ := tb_inv rt
  refine ⟨_, rfl, ta, _, rfl, hta, rfl, _, _, rfl, _, _, rfl, _, _, rfl, rfl, ?_⟩
  have tok := tg.ok
  have m1 := tok.m1
  have t24 := tg.few
  have s6' := tok.s6
  refine ⟨_, rfl, _, rfl, by omega, by omega, fun bl hbl => ?_⟩
  refine lc_same (K := K) (walk_range (lo := 0) (n := t.many)) hbl (fun i ds => ds = ((List.range i).filter fun k => !(madeL t).contains k).map fun (k : Nat) => D.int (k : Int)) (by omega) (fun _ _ => trivial) rfl ?_ ?_
  · rintro i x _ H3 ds hi s3 ⟨rfl, rfl⟩ hds Qe Qn he hn
    refine ⟨rfl, _, rfl, _, rfl, .ref ta, t, rfl, rt.mono (tu_same s3), tok, fun d kvs fb H4 s4 md => ?_⟩
    have e0 : (0 : Int) + (i : Int) = (i : Int) := by omega
    try dsimp only
    rw [e0]
    have eb : (fb i).isSome = (madeL t).contains i := by
      by_cases m : Made t.ents i
      · rw [(md.all i).mpr m]
        simp [(madeL_mem i).mpr ⟨hi, m⟩]
      · have q : i ∉ madeL t := fun h => m ((madeL_mem i).mp h).2
        cases hb : (fb i).isSome with
        | true => exact absurd ((md.all i).mp hb) m
        | false => simp [q]
    refine ⟨d, _, rfl, .inl ⟨kvs, .inl (i : Int), .inl md.e, rfl, rfl⟩, _, rfl, ?_⟩
    rw [md.kd.some i, eb]
    cases hc : (madeL t).contains i with
    | true =>
      refine ite2 (fun z => by cases z) (fun _ => hn _ s4 ?_)
      rw [hds, List.range_succ, List.filter_append, List.filter_cons_of_neg (by rw [hc]; decide)]
      exact congrArg _ (List.append_nil _).symm
    | false =>
      refine ite2 (fun _ => ⟨_, rfl, he _ (.int (i : Int)) _ s4 (.int _) ?_⟩) (fun z => absurd rfl z)
      rw [hds, List.range_succ, List.filter_append, List.map_append, List.filter_cons_of_pos (by rw [hc]; rfl)]
      rfl
  intro H1 w1 ds s1 e1 r1 hds _
  have hds2 : ds = (bareL t).map fun (k : Nat) => D.int (k : Int) := hds
  subst hds2
  clear hds
  have ew : w1 = (bareL t).map fun (k : Nat) => V.int (k : Int) := by
    have e : ((bareL t).map fun (k : Nat) => D.int (k : Int)) = ((bareL t).map fun (k : Nat) => (k : Int)).map D.int := by rw [List.map_map]; rfl
    rw [e] at r1
    have q := r1.ints_inv
    rw [List.map_map] at q
    exact q
  subst ew
  have bll : (bareL t).length ≤ 3 := by
    have q := List.length_filter_le (fun k => !(madeL t).contains k) (List.range t.many)
    rw [List.length_range] at q
    exact Nat.le_trans q m3
  refine ⟨sz0, fun ml hml => ?_⟩
  have nbm : bl ≠ ml := ne_of_none e1 hml
  refine ⟨sz2, fun q0 hq0 => ⟨q0, _, rfl, .of upd_same, rfl, _, _, rfl, _, _, rfl, rfl, ?_⟩⟩
  have s2 := (same_new (o := .lst []) hml).trans (same_new (o := .tup [.ref bl, .ref ml]) hq0)
  have em2 : (upd (upd H1 ml (.lst [])) q0 (.tup [.ref bl, .ref ml])) ml = some (.lst []) := same_new hq0 _ _ upd_same
  have e2 := s2 _ _ e1
  have hml0 : H ml = none := s1.free hml
  have s02 := s1.trans s2
  try dsimp only
  generalize upd (upd H1 ml (.lst [])) q0 (.tup [.ref bl, .ref ml]) = H2 at s2 em2 e2 s02
  clear hq0 hml r1 e1 s1
  refine ⟨_, rfl, .ref ta, t, rfl, rt.mono (tu_same s02), tok, fun l3 H3 s3 e3 => ?_⟩
  have s03 := s02.trans s3
  refine ⟨_, rfl, _, rfl, by omega, by omega, fun Dl hD => ?_⟩
  refine lc_same (K := K) (walk_range (lo := 0) (n := t.many)) hD (fun i ds => ds = ((List.range i).filter fun k => !(bareL t).contains k).map fun (k : Nat) => D.int (k : Int)) (by omega) (fun _ _ => trivial) rfl ?_ ?_
  · rintro i x _ H4 ds hi s4 ⟨rfl, rfl⟩ hds Qe Qn he hn
    have e0 : (0 : Int) + (i : Int) = (i : Int) := by omega
    refine ⟨rfl, ?_⟩
    try dsimp only
    rw [e0]
    refine ⟨_, rfl, _, rfl, bl, _, rfl, .inl (.of (s4 _ _ (s3 _ _ e2))), rfl, flat_nats _, _, rfl, ?_⟩
    rw [in_nats]
    cases hc : (bareL t).contains i with
    | true =>
      refine ite2 (fun z => by cases z) (fun _ => hn _ (Same.refl _) ?_)
      rw [hds, List.range_succ, List.filter_append, List.filter_cons_of_neg (by rw [hc]; decide)]
      exact congrArg _ (List.append_nil _).symm
    | false =>
      refine ite2 (fun _ => ⟨_, rfl, he _ (.int (i : Int)) _ (Same.refl _) (.int _) ?_⟩) (fun z => absurd rfl z)
      rw [hds, List.range_succ, List.filter_append, List.map_append, List.filter_cons_of_pos (by rw [hc]; rfl)]
      rfl
  intro H4 w4 ds s4 e4 r4 hds _
  have hds2 : ds = (madeL t).map fun (k : Nat) => D.int (k : Int) := by rw [hds]; exact congrArg _ (not_bare t)
  subst hds2
  clear hds
  refine .inr ⟨l3, Dl, _, w4, (madeL t).map fun (k : Nat) => D.int (k : Int), _, rfl, rfl, .of (s4 _ _ e3), .of e4, RpL.nats _, r4, by rw [nats_dep]; omega, by rw [nats_dep]; omega, _, rfl, ite2 (fun z => ?_) (fun _ => ?_)⟩
  · simp at z
  have s04 := s03.trans s4
  have em4 := s4 _ _ (s3 _ _ em2)
  have eb4 := s4 _ _ (s3 _ _ e2)
  have F0 : FL K b a cs H H4 ml t.many t.signs [] [] := ⟨same_gb Bg s04, hml0, em4, .nil, fun e he => by cases he⟩
  clear e3 e4 r4 hD s2 s3 s4 em2 e2 em4
  have nbb : bl ≠ b := Bg.nb hbl
  clear s02 s03 hbl hml0
  refine ⟨_, rfl, sa, _, rfl, (tu_same s04).sq hsa, ?_⟩
  clear s04
  refine for_it (walk_enumT (K := K) (xs := t.signs.map fun (n : Nat) => V.int (n : Int))) (fun i σ H' => ∃ c8 c9 es' ws, σ = [some (.ref b), some (.ref ta), some (.ref ml), none, some (.int (t.many : Int)), some (.ref sa), some (.ref ea), some (.ref bl), c8, c9, none] ∧ FL K b a cs H H' ml t.many t.signs es' ws ∧ H' bl = some (.lst ((bareL t).map fun (k : Nat) => V.int (k : Int))) ∧ es'.length ≤ i ∧ ∀ e ∈ es', ∃ k ∈ e.parts, ¬ Made t.ents k)
    ⟨_, _, [], [], rfl, F0, eb4, Nat.le_refl _, fun e he => by cases he⟩ (fun i σ H' _ ⟨_, _, _, _, _, F, _⟩ => F.g.tu.sq hsa) ?_ ?_
  · clear F0 eb4
    rintro i x σ H' H2 hi ⟨c8, c9, es', ws, rfl, F, eb, el, bare⟩ ⟨T, u, v, rfl, hT, rfl, hu, hv⟩
    rw [List.length_map] at hi
    cases hu
    try dsimp only at hv
    have hg : t.signs[i]? = some t.signs[i] := by simp [hi]
    rw [List.getElem?_map, hg] at hv
    cases hv
    have n2 := tok.sg _ (List.getElem_mem hi)
    generalize t.signs[i] = n at hg n2
    have s2 := same_new (o := .tup [.int (i : Int), .int (n : Int)]) hT
    have F2 := F.same s2
    have eb2 := s2 _ _ eb
    refine ⟨T, _, rfl, .of upd_same, rfl, _, _, rfl, _, _, rfl, rfl, ?_⟩
    generalize upd H' T (.tup [.int (i : Int), .int (n : Int)]) = H2 at F2 eb2
    clear s2 hT F eb
    refine ⟨_, rfl, _, _, rfl, rfl, _, rfl, ite2 (fun z => ?_) (fun z => ?_)⟩
    rotate_left
    · exact ite2 (fun z => by cases z) (fun _ => ⟨some (.int (i : Int)), some (.int (n : Int)), es', ws, rfl, F2, eb2, by omega, bare⟩)
    have n1 : 1 ≤ n := by
      have q := of_decide_eq_true z
      omega
    refine ⟨_, rfl, sz0, fun q1 hq1 => ?_⟩
    have s3 := same_new (o := .lst []) hq1
    have F3 := F2.same s3
    have eb3 := s3 _ _ eb2
    refine .inr ⟨bl, q1, _, [], (bareL t).map fun (k : Nat) => D.int (k : Int), [], rfl, rfl, .of eb3, .of upd_same, RpL.nats _, .nil, by rw [nats_dep]; omega, by simp [D.pys, PyData.depthAll], _, rfl, ite2 (fun z => ?_) (fun z => ?_)⟩
    rotate_left
    · exact ite2 (fun z => by cases z) (fun _ => ⟨some (.int (i : Int)), some (.int (n : Int)), es', ws, rfl, F3, eb3, by omega, bare⟩)
    have bne : bareL t ≠ [] := fun h => by simp [h] at z
    refine ⟨_, rfl, b, a, cs, _, rfl, F3.g.b1, by omega, by omega, fun j4 H4 _ _ g4 => ⟨rfl, _, rfl, ite2 (fun _ => ?_) (fun _ => ?_)⟩⟩
    rotate_left
    · exact ⟨some (.int (i : Int)), some (.int (n : Int)), es', ws, rfl, F3.gb g4, g4.at nbb eb3, by omega, bare⟩
    have F4 := F3.gb g4
    have eb4 := g4.at nbb eb3
    refine ⟨_, rfl, .inl ⟨rfl, _, .of F4.e⟩, _, rfl, _, rfl, _, rfl, b, a, bl, cs, _, rfl, F4.g.b1, .inl ⟨.of eb4, nbb⟩, by rw [List.length_map]; exact List.length_pos_iff.mpr bne, by rw [List.length_map]; omega, fun j5 v5 H5 hv5 g5 => ⟨sz1, fun q5 hq5 => ?_⟩⟩
    obtain ⟨kb, hkb, rfl⟩ : ∃ kb : Nat, kb ∈ bareL t ∧ v5 = .int (kb : Int) := by
      rw [List.getElem?_map] at hv5
      cases hm : (bareL t)[j5]? with
      | none => rw [hm] at hv5; cases hv5
      | some kb => rw [hm] at hv5; cases hv5; exact ⟨kb, List.mem_of_getElem? hm, rfl⟩
    have g5' := g5.new (o := .tup [.int (kb : Int)]) hq5
    have F5 := F4.gb g5'
    have eb5 := g5'.at nbb eb4
    have e5 : SqT K (upd H5 q5 (.tup [.int (kb : Int)])) q5 [.int (kb : Int)] := .of upd_same
    try dsimp only
    generalize upd H5 q5 (.tup [.int (kb : Int)]) = H5' at g5' F5 eb5 e5
    refine ⟨_, rfl, _, rfl, b, a, cs, _, rfl, F5.g.b1, by omega, by omega, fun j6 H6 j60 j61 g6 => ⟨sz1, fun q6 hq6 => ?_⟩⟩
    obtain ⟨j6, rfl⟩ : ∃ n : Nat, j6 = (n : Int) := ⟨j6.toNat, by omega⟩
    have g6' := g6.new (o := .tup [.int (j6 : Int)]) hq6
    refine ⟨_, rfl, _, _, rfl, rfl, rep1_of (by omega) (.of upd_same) fun r7 H7 s7 e7 => ?_⟩
    have g7 := g6'.same s7
    refine rCatA_of (g7.tu.sq e5) e7 (sz_ok (by simp only [List.length_singleton, List.length_replicate]; omega)) fun q8 H8 s8 e8 => ?_
    have g8 := g7.same s8
    have F8 := F5.gb g8
    have eb8 := g8.at nbb eb5
    refine ⟨_, rfl, _, rfl, b, a, cs, _, rfl, F8.g.b1, by omega, by omega, fun j9 H9 j90 j91 g9 => ⟨sz3, fun q9 hq9 => ?_⟩⟩
    obtain ⟨j9, rfl⟩ : ∃ n : Nat, j9 = (n : Int) := ⟨j9.toNat, by omega⟩
    have g9' := g9.new (o := .tup [.int (i : Int), .ref q8, .int (j9 : Int)]) hq9
    have F9 := F8.gb g9'
    have eb9 := g9'.at nbb eb8
    have kbm := (bareL_mem kb).mp hkb
    have eok : (En.mk i (kb :: List.replicate (n - 1) j6) j9).ok t.many t.signs := by
      refine ⟨?_, fun p hp => ?_, by show j9 < t.many; omega⟩
      · show t.signs[i]? = some (List.replicate (n - 1) j6).length.succ
        rw [hg, List.length_replicate]
        congr 1
        omega
      · rcases List.mem_cons.mp hp with rfl | hp
        · exact kbm.1
        · rw [(List.mem_replicate.mp hp).2]; omega
    have e8' : SqT K H8 q8 ((kb :: List.replicate (n - 1) j6).map fun (n : Nat) => V.int (n : Int)) := by
      rw [List.map_cons, List.map_replicate]
      exact e8
    have re9 : Rp K (upd H9 q9 (.tup [.int (i : Int), .ref q8, .int (j9 : Int)])) (.ref q9) (En.mk i (kb :: List.replicate (n - 1) j6) j9).d := en_mk (g9'.tu.sq e8') (.of upd_same)
    generalize upd H9 q9 (.tup [.int (i : Int), .ref q8, .int (j9 : Int)]) = H10 at g9' F9 eb9 re9
    refine ⟨ml, _, _, rfl, rfl, F9.e, by rw [F9.len]; exact sz_lt (by omega), ?_⟩
    refine ⟨some (.int (i : Int)), some (.int (n : Int)), es' ++ [En.mk i (kb :: List.replicate (n - 1) j6) j9], _, rfl, F9.put re9 eok, by rw [upd_ne nbm]; exact eb9, by simp; omega, fun e he => ?_⟩
    rcases List.mem_append.mp he with he | he
    · exact bare e he
    · rw [List.mem_singleton.mp he]
      exact ⟨kb, List.mem_cons_self .., kbm.2⟩
  rintro σ H' ⟨c8, c9, es', ws, rfl, F, eb, el', bare⟩
  rw [List.length_map] at el'
  refine ⟨_, rfl, ?_⟩
  simp only [tNil]
  refine sortset_ents (.inl (.of F.e)) F.r (by omega) fun q1 H2 ws2 fs s2 hq1 e2 r2 nd le mem => ?_
  refine .inl ⟨q1, ws2, rfl, .of e2, fun q3 hq3 => ?_⟩
  have s3 := s2.trans (same_new (o := .tup ws2) hq3)
  have rm3 := r2.mono (tu_same (same_new (o := .tup ws2) hq3))
  have em3 : SqT K (upd H2 q3 (.tup ws2)) q3 ws2 := .of upd_same
  have g3 := F.g.same s3
  try dsimp only
  generalize upd H2 q3 (.tup ws2) = H3 at s3 rm3 em3 g3
  have fok : ∀ e ∈ fs, e.ok t.many t.signs ∧ ∃ k ∈ e.parts, ¬ Made t.ents k := fun e he => ⟨F.ok e ((mem e).mp he), bare e ((mem e).mp he)⟩
  have fle : fs.length ≤ 6 := by omega
  clear mem le nd r2 e2 hq1 hq3 bare F eb s2 s3
  have grow : Grow t fs := ⟨fun e he => (fok e he).1, by omega, fun gs nd mem p pok k _ => (bare_diag tok tg.nd fok nd mem p pok k).symm⟩
  have rt3 := rt.mono g3.tu
  refine ⟨_, rfl, _, rfl, .of_le (by omega) (by omega) (by omega) (by omega), fun q4 hq4 => ?_⟩
  rw [rg_nats]
  have s4 := same_new (o := .tup ((List.range t.many).map fun (k : Nat) => V.int (k : Int))) hq4
  have e4 : SqT K (upd H3 q4 (.tup ((List.range t.many).map fun (k : Nat) => V.int (k : Int)))) q4 ((List.range t.many).map fun (k : Nat) => V.int (k : Int)) := .of upd_same
  have g4 := g3.same s4
  have rt4 := rt3.mono (tu_same s4)
  have rm4 := rm3.mono (tu_same s4)
  have em4 := (tu_same s4).sq em3
  try dsimp only
  generalize upd H3 q4 (.tup ((List.range t.many).map fun (k : Nat) => V.int (k : Int))) = H4 at s4 e4 g4 rt4 rm4 em4
  have x4 : Gx K b a cs H H4 := (Gx.refl Bg TT0).gb g4
  refine ⟨_, rfl, _, rfl, .ref ta, q3, ws2, t, fs, rfl, rt4, tok, m3, em4, rm4, grow, x4.tb, fun H5 E5 T5 => ⟨rfl, ?_⟩⟩
  have x5 := x4.ext E5 T5
  have t45 := tu_extN E5
  have rt5 := rt4.mono t45
  have e5 := t45.sq e4
  refine ⟨_, rfl, ite2 (fun _ => ?_) (fun z => absurd (decide_eq_true rfl) z)⟩
  refine ⟨_, rfl, _, rfl, _, rfl, _, rfl, .ref ta, q3, ws2, t, fs, rfl, rt5, t45.sq em4, rm4.mono t45, by omega, fun gv H6 gs s6 rg nd le mem => ?_⟩
  have gok := grow_ok tok grow nd le mem
  have t6 := tu_same s6
  have lt : ∀ k ∈ List.range t.many, k < t.many := fun k hk => List.mem_range.mp hk
  have ll : (List.range t.many).length ≤ 20 := by rw [List.length_range]; omega
  refine ⟨_, rfl, .ref ta, gv, q4, q4, t, ⟨t.many, t.signs, gs⟩, List.range t.many, List.range t.many, rfl, rt5.mono t6, tok, rg, gok, rfl, by show t.many + t.many ≤ 8; omega, t6.sq e5, lt, ll, t6.sq e5, lt, ll, fun H7 s7 _ => ⟨rfl, ?_⟩, fun v H7 p s7 _ pok _ _ ne => ?_⟩
  · rw [decide_eq_true rfl]
    exact k H7 (x5.same (s6.trans s7))
  · refine absurd ?_ ne
    unfold tot
    exact congrArg List.sum (List.map_congr_left fun k _ => (bare_diag tok tg.nd fok nd mem p pok k).symm)
end
end K56
set_option Elab.async false
set_option linter.all false
set_option maxRecDepth 100000
set_option maxHeartbeats 4000000
namespace K56
open PySem PySem.Spec PyProof.Rows L2 LamX
theorem tot_span {o t : Tb} {ps : List Pg} (b : Span o t ps) {sL oL : List Nat} (h1 : ∀ k ∈ sL, k < o.many) (h2 : ∀ k ∈ oL, k < t.many) (z : ∀ p ∈ ps, tot o sL p = tot t oL p) : ∀ p : Pg, p.ok o.signs → tot o sL p = tot t oL p := by
  obtain ⟨φ, l1, e1⟩ := sumV_lin (n := o.many + t.many) sL fun k hk => by have := h1 k hk; omega
  obtain ⟨ψ, l2, e2⟩ := sumV_lin (n := o.many + t.many) (oL.map (o.many + ·)) fun k hk => by
    obtain ⟨j, hj, rfl⟩ := List.mem_map.mp hk
    have := h2 j hj
    omega
  have key : ∀ p : Pg, φ (numV o t p) + (-1) * ψ (numV o t p) = 0 ↔ tot o sL p = tot t oL p := fun p => by
    rw [e1, e2, tot_one h1, tot_other]
    omega
  exact fun p hp => (key p).mp (b.all p hp _ (.add l1 (l2.smul (-1))) fun q hq => (key q).mpr (z q hq))
theorem cut_drop (xs : List V) (n : Nat) : cutV xs (some (n : Int)) none = xs.drop n := by
  unfold cutV
  rw [HT.sIx_nat, HT.sIx_none]
  by_cases h : n ≤ xs.length
  · rw [Nat.min_eq_left h]
    exact List.take_of_length_le (by rw [List.length_drop]; exact Nat.le_refl _)
  · rw [Nat.min_eq_right (by omega), List.drop_length, List.drop_of_length_le (by omega)]
    simp
theorem nats_int (l : List Nat) : (l.map fun (n : Nat) => V.int (n : Int)) = (l.map fun (n : Nat) => (n : Int)).map V.int := by rw [List.map_map]; rfl
theorem nats_sum (l : List Nat) : (l.map fun (n : Nat) => (n : Int)).sum = (l.sum : Nat) := by
  induction l with
  | nil => rfl
  | cons x l ih => rw [List.map_cons, List.sum_cons, List.sum_cons, ih]; omega
theorem cntL_sum (t : Tb) (p : Pg) : (cntL t p).sum = tot t (List.range t.many) p := rfl
section
variable {P : Program} {w : World} {K : PySem.W.Frag} {mg : Str → Option Value} {base : Heap}
theorem sc_l_are_more_seen : FnScope ["_law_bag_here", "_law_table_here", "_law_greater", "_law_told_here", "_law_rows", "_law_due", "_law_program_here", "_law_every", "_law_more_here", "_law_row"] ["_law_bag_here", "_law_table_here"] (defScope s_l_are_more_seen) := ⟨rfl, rfl, rfl, by decide +kernel, rfl, by decide +kernel, by decide +kernel⟩
theorem ok_l_are_more_seen (A : Hd K mg) (TB : TabB base mg (He.cT K pS).1 (He.cT K pS).2) : Cl P w K mg base "_law_are_more_seen" ["_law_bag_here", "_law_table_here"] 61 (spNC K) := by
  obtain ⟨fd, F⟩ := A.f_l_are_more_seen
  refine Cl.of F A.g_l_are_more_seen sc_l_are_more_seen (fun _ _ _ _ _ _ us hl => match us, hl with | [_, _], _ => rfl) (fun vs H Q E h => (by obtain ⟨b, a, cs, tv, t, rfl, _⟩ := h; rfl)) (fun cdv Ar outer s H vs Q E hr h => ?_)
  obtain ⟨b, a, cs, tv, t, rfl, Bg, TT0, rt, tg, m3, k⟩ := h
  refine ⟨_, (pss_mid (ps_par (i := 7) (j := 8) (by rfl) sc_l_are_more_seen.nd rfl rfl (by decide) rfl rfl (pa_cons (pe_tupRg (by rfl) (by rfl) A.z_tuple (prg_1 (by rfl) A.z_range (pe_ix ix_tup (pv 1) pe_int (fun _ _ => rfl)))) (pa_cons (pe_ifExp (pt_cmpR (op_neQ (hu64 hr)) (pe_ix ix_tup (pv 1) pe_int (fun _ _ => rfl)) (pe_tup pa_nil) (nomark _)) (pe_cl (ok_l_more A) (hr.mono (by decide)) (by rfl) (pa_cons (pv 0) (pa_cons (pv 1) (pa_cons pe_int pa_nil)))) (pe_tup pa_nil)) pa_nil)) rfl)
  (pss_cons (ps_set (i := 2) sc_l_are_more_seen.nd rfl (.inl rfl) (pe_cl (ok_with_entries A) (hr.mono (by decide)) (by rfl) (pa_cons (pv 1) (pa_cons (pv 8) pa_nil))))
  (pss_mid (ps_set (i := 3) sc_l_are_more_seen.nd rfl (.inl rfl) (pe_cl (ok_unlike_many A) (hr.mono (by decide)) (by rfl) (pa_cons (pv 1) (pa_cons (pv 7) (pa_cons (pv 2) (pa_cons (pv 7) pa_nil))))))
  (pss_cons (ps_set (i := 4) sc_l_are_more_seen.nd rfl (.inl rfl) (pe_ix ix_tup (pe_cl (ok_l_span A) (hr.mono (by decide)) (by rfl) (pa_cons (pv 1) (pa_cons (pv 2) pa_nil))) pe_int (fun _ _ => rfl)))
  (pss_cons (ps_setLcF (i := 5) (own := [("_law_row", 9)]) (by rfl) sc_l_are_more_seen.nd rfl rfl (sw_true rfl rfl rfl (by decide +kernel)) (pi_list (pv 4)) (blkOk_by (by rfl)) (fun _ _ _ _ _ => (pg_name (i := 9) sc_l_are_more_seen.nd rfl (.inl rfl))) (fun _ _ _ _ _ => (pts_one (pt_cmpR op_ne (pe_callB (cr_sumT (by rfl)) (by rfl) A.z_sum (by decide +kernel) (pa_cons (pe_slice sl_tupA (pv 9) po_none (po_some (pe_ix ix_tup (pv 1) pe_int (fun _ _ => rfl)))) pa_nil)) (pe_callB (cr_sumT (by rfl)) (by rfl) A.z_sum (by decide +kernel) (pa_cons (pe_slice sl_tupA (pv 9) (po_some (pe_ix ix_tup (pv 1) pe_int (fun _ _ => rfl))) po_none) pa_nil)) (nomark _)))) (fun _ _ _ _ _ => (pv 9)))
  (pss_cons (ps_if (PW.pt (pw_or (pt_cmpR op_ne (pe_cmpR op_isN (pv 3) pe_non (nomark _)) (pe_cmpR (op_eqQ (hu64 hr)) (pv 5) (pe_lst pa_nil) (nomark _)) (nomark _)) (pw_or1 (pt_cmpR op_ne (pe_cmpR op_isN (pe_cl (ok_unlike_many A) (hr.mono (by decide)) (by rfl) (pa_cons (pv 2) (pa_cons (pv 7) (pa_cons (pv 1) (pa_cons (pv 7) pa_nil))))) pe_non (nomark _)) (pe_cmpR op_isN (pv 3) pe_non (nomark _)) (nomark _))))) (pss_one (ps_ret pe_bl)) pss_nil)
  (pss_cons (ps_for PassesOwn.never (by rfl) (pi_tup (pe_cl (ok_basis_of A) (hr.mono (by decide)) (by rfl) (pa_cons (pv 1) (pa_cons (pv 2) pa_nil)))) (pg_name (i := 6) sc_l_are_more_seen.nd rfl (.inl rfl))
  (pss_one (ps_if (PW.pt (pw_and (pt_cmpR op_isN (pv 3) pe_non (nomark _)) (pw_and1 (pt_cmpR (op_neQ (hu64 hr)) (pe_cl (ok_readings_many A) (hr.mono (by decide)) (by rfl) (pa_cons (pv 1) (pa_cons (pv 6) (pa_cons pe_dnewK pa_nil)))) (pe_cl (ok_readings_many A) (hr.mono (by decide)) (by rfl) (pa_cons (pv 2) (pa_cons (pv 6) (pa_cons pe_dnewK pa_nil)))) (nomark _))))) (pss_one (ps_ret pe_bl)) pss_nil)))
  (pss_cons (ps_if (pt_cmpR op_isN (pv 3) pe_non (nomark _)) (pss_one (ps_ret (pe_cmpR op_isN (pe_cl (ok_harmed A TB) (hr.mono (by decide)) (by rfl) (pa_cons (pv 1) (pa_cons (pv 8) pa_nil))) pe_non (nomark _)))) pss_nil)
  (pss_one (ps_ret (pe_cmpR op_lt (pe_callB (cr_sumT (by rfl)) (by rfl) A.z_sum (by decide +kernel) (pa_cons (pe_cl (ok_readings_many A) (hr.mono (by decide)) (by rfl) (pa_cons (pv 1) (pa_cons (pv 3) (pa_cons pe_dnewK pa_nil)))) pa_nil)) (pe_callB (cr_sumT (by rfl)) (by rfl) A.z_sum (by decide +kernel) (pa_cons (pe_cl (ok_readings_many A) (hr.mono (by decide)) (by rfl) (pa_cons (pv 2) (pa_cons (pv 3) (pa_cons pe_dnewK pa_nil)))) pa_nil)) (nomark _)))))))))))), ?_⟩
  obtain ⟨ta, sa, ea, es, rfl, hta, hsa, hea, re⟩ := tb_inv rt
  have tok := tg.ok
  have m1 := tok.m1
  have t24 := tg.few
  refine ⟨fun σ' H' => ∃ (pe pm : Addr) (ws : List V) (fs : List En), σ' = [some (.ref b), some (.ref ta), none, none, none, none, none, some (.ref pe), some (.ref pm), none] ∧ Gb b a cs H H' ∧ SqT K H' pe ((List.range t.many).map fun (k : Nat) => V.int (k : Int)) ∧ SqT K H' pm ws ∧ RpL K H' ws (fs.map En.d) ∧ (∀ e ∈ fs, e.ok t.many t.signs) ∧ fs.length ≤ 4, ?_, ?_⟩
  · refine ⟨_, rfl, ta, _, _, _, rfl, rfl, hta, atI_nat (j := 0) rfl, (t.many : Int), rfl, .of_le (by omega) (by omega) (by omega) (by omega), fun q1 hq1 => ?_⟩
    rw [rg_nats]
    have s1 := same_new (o := .tup ((List.range t.many).map fun (k : Nat) => V.int (k : Int))) hq1
    have e1 : SqT K (upd H q1 (.tup ((List.range t.many).map fun (k : Nat) => V.int (k : Int)))) q1 ((List.range t.many).map fun (k : Nat) => V.int (k : Int)) := .of upd_same
    try dsimp only
    generalize upd H q1 (.tup ((List.range t.many).map fun (k : Nat) => V.int (k : Int))) = H1 at s1 e1
    refine ⟨_, rfl, ta, _, _, _, rfl, rfl, (tu_same s1).sq hta, atI_nat (j := 1) rfl, sz0, fun q2 hq2 => ?_⟩
    have s2 := same_new (o := .tup []) hq2
    have g2 := same_gb Bg (s1.trans s2)
    have e2 := (tu_same s2).sq e1
    refine .inl ⟨natD t.signs, .tup [], nats_of ((tu_same (s1.trans s2)).sq hsa), .tup (.of upd_same) .nil, Nat.le_trans (natD_dep _) (by decide), by simp [D.py, D.pys, PyData.depth, PyData.depthAll], _, rfl, ite2 (fun z => ?_) (fun z => ?_)⟩
    · have ne : t.signs ≠ [] := fun h => by rw [h] at z; simp [natD] at z
      refine ⟨_, rfl, _, rfl, b, a, cs, .ref ta, t, rfl, g2.b1, rt.mono g2.tu, tok, ne, fun p H3 ws fs g3 sq r nd ok le le4 => ?_⟩
      exact ⟨_, _, rfl, q1, p, ws, fs, rfl, g2.trans g3, g3.tu.sq e2, sq, r, ok, le4⟩
    · refine ⟨sz0, fun p hp => ?_⟩
      have s3 := same_new (o := .tup []) hp
      exact ⟨_, _, rfl, q1, p, [], [], rfl, g2.same s3, (tu_same s3).sq e2, .of upd_same, .nil, fun e he => (by cases he), Nat.zero_le _⟩
  rintro σ' H1 ⟨pe, pm, ws, fs, rfl, g1, hpe, hpm, rpm, fok, fle⟩
  have rt1 := rt.mono g1.tu
  have x1 := (Gx.refl Bg TT0).gb g1
  refine ⟨_, rfl, _, rfl, .ref ta, pm, ws, t, fs, rfl, rt1, hpm, rpm, by omega, fun gv H2 gs s2 rg nd le mem => ?_⟩
  have gok : (Tb.mk t.many t.signs gs).ok := ⟨tok.m1, tok.m4, tok.sg, tok.s6, fun e he => by
    rcases (mem e).mp he with h | h
    · exact tok.en e h
    · exact fok e h, by show gs.length ≤ 31; omega⟩
  have mono : ∀ (p : Pg) (k : Nat), cnt t.ents p k ≤ cnt gs p k := cnt_more tg.nd nd fun e he => (mem e).mpr (.inl he)
  obtain ⟨g, hg⟩ : ∃ g : Tb, g = ⟨t.many, t.signs, gs⟩ := ⟨_, rfl⟩
  rw [← hg] at rg gok
  have gm : g.many = t.many := by rw [hg]
  have gsn : g.signs = t.signs := by rw [hg]
  have ge : g.ents = gs := by rw [hg]
  obtain ⟨R, hR⟩ : ∃ R, R = List.range t.many := ⟨_, rfl⟩
  rw [← hR] at hpe
  have lt : ∀ k ∈ R, k < t.many := fun k hk => List.mem_range.mp (hR ▸ hk)
  have ltg : ∀ k ∈ R, k < g.many := fun k hk => by rw [gm]; exact lt k hk
  have ll : R.length ≤ 20 := by rw [hR, List.length_range]; omega
  have totle : ∀ p, tot t R p ≤ tot g R p := fun p => by
    unfold tot
    rw [ge]
    exact sum_le R fun k _ => mono p k
  have t2 := tu_same s2
  refine ⟨fun σ' H' => ∃ uv : V, σ' = [some (.ref b), some (.ref ta), some gv, some uv, none, none, none, some (.ref pe), some (.ref pm), none] ∧ Same H1 H' ∧ Rp K H' gv g.d ∧ ((uv = .non ∧ ∀ p : Pg, p.ok t.signs → tot t R p = tot g R p) ∨ ∃ (ua : Addr) (p : Pg), uv = .ref ua ∧ Rp K H' uv p.d ∧ p.ok t.signs ∧ p.size ≤ 600 ∧ p.height ≤ 9 ∧ tot t R p ≠ tot g R p), ?_, ?_⟩
  · refine ⟨_, rfl, _, rfl, _, rfl, _, rfl, .ref ta, gv, pe, pe, t, g, R, R, rfl, rt1.mono t2, tok, rg, gok, gsn, by rw [gm]; omega, t2.sq hpe, lt, ll, t2.sq hpe, ltg, ll, fun H3 s3 h => ?_, fun v H3 p s3 rp pok psz pht ne => ?_⟩
    · exact ⟨.non, rfl, s2.trans s3, rg.mono (tu_same s3), .inl ⟨rfl, h⟩⟩
    · obtain ⟨ua, _, rfl, _, _⟩ := pg_inv rp
      exact ⟨.ref ua, rfl, s2.trans s3, rg.mono (tu_same s3), .inr ⟨ua, p, rfl, rp, pok, psz, pht, ne⟩⟩
  clear rg t2 s2 le
  rintro σ' H2 ⟨uv, rfl, s2, rg, told⟩
  have t2 := tu_same s2
  refine ⟨_, rfl, _, rfl, .ref ta, gv, t, g, rfl, rt1.mono t2, tok, rg, gok, gsn, m3, by omega, fun q d rl rws ps H3 s3 hq er rr sp => ?_⟩
  refine ⟨q, _, _, _, rfl, rfl, hq, atI_nat (j := 1) rfl, ?_⟩
  have s23 := s2.trans s3
  have fewp := sp.few
  have rwl : rws.length = ps.length := by rw [rr.length, List.length_map]
  refine ⟨_, rfl, rl, rfl, ⟨_, .of er⟩, fun Dl hD => ?_⟩
  refine lc_same (K := K) (walk_list (K := K) (a := rl) (xs := rws)) hD (fun i ds => ds = ((ps.take i).filter fun p => decide (tot t R p ≠ tot g R p)).map (numD t g)) (by omega) (fun H6 s6 => .of (s6 _ _ er)) rfl ?_ ?_
  · rintro i x _ H4 ds hi s4 ⟨rfl, hx⟩ hds Qe Qn he hn
    obtain ⟨d2, hd2, rd⟩ := (rr.mono (tu_same s4)).get' hx
    rw [List.getElem?_map] at hd2
    cases hp : ps[i]? with
    | none => rw [hp] at hd2; cases hd2
    | some p =>
      rw [hp] at hd2
      cases hd2
      obtain ⟨xa, rfl, hxa⟩ := nats_inv rd
      have tH := tu_same (s23.trans s4)
      refine ⟨rfl, _, rfl, _, rfl, ta, _, _, _, rfl, rfl, tH.sq (g1.tu.sq hta), atI_nat (j := 0) rfl, _, rfl, ?_⟩
      have lenT : (cntL t p).length = t.many := cntL_length t p
      refine rSlA_of hxa fun p5 H5 s5 e5 => ?_
      rw [cut_take, ← List.map_take, List.take_append_of_le_length (by omega), List.take_of_length_le (by omega), nats_int] at e5
      refine ⟨p5, _, rfl, e5, ?_⟩
      have tH5 := tH.trans (tu_same s5)
      refine ⟨_, rfl, _, rfl, ta, _, _, _, rfl, rfl, tH5.sq (g1.tu.sq hta), atI_nat (j := 0) rfl, _, rfl, ?_⟩
      dsimp only [tNoPart]
      refine rSlA_of ((tu_same s5).sq hxa) fun p6 H6 s6 e6 => ?_
      rw [cut_drop, ← List.map_drop, List.drop_append_of_le_length (by omega), List.drop_of_length_le (by omega), List.nil_append, nats_int] at e6
      refine ⟨p6, _, rfl, e6, ?_⟩
      rw [nats_sum, nats_sum, cntL_sum, cntL_sum, gm, ← hR]
      have s56 := s5.trans s6
      refine ⟨rfl, _, rfl, ite2 (fun z => ?_) (fun z => ?_)⟩
      · have ne : tot t R p ≠ tot g R p := fun h => by rw [h] at z; simp at z
        refine ⟨_, rfl, he _ (numD t g p) _ s56 (rd.mono (tu_same s56)) ?_⟩
        rw [hds, take_snoc hp, List.filter_append, List.map_append, List.filter_cons_of_pos (by simpa using ne)]
        rfl
      · have ne : tot t R p = tot g R p := Classical.byContradiction fun h => z (by
          have h2 : (V.int (tot t R p : Nat)) ≠ V.int (tot g R p : Nat) := fun e => h (by injection e with e; exact Int.ofNat_inj.mp e)
          simp [h2, h])
        refine hn _ s56 ?_
        rw [hds, take_snoc hp, List.filter_append, List.filter_cons_of_neg (by simpa using ne)]
        exact congrArg _ (List.append_nil _).symm
  intro H4 w4 ds s4 e4 r4 hds _
  rw [rwl, List.take_length] at hds
  subst hds
  have s24 := s23.trans s4
  have rt4 := rt1.mono (tu_same s24)
  have rg4 := rg.mono (tu_same (s3.trans s4))
  have hpe4 := (tu_same s24).sq hpe
  have dd : PyData.depthAll (D.pys ((ps.filter fun p => decide (tot t R p ≠ tot g R p)).map (numD t g))) ≤ 1 := dep_map' (numD t g) 1 _ fun p _ => natD_dep _
  rcases told with ⟨rfl, alleq⟩ | ⟨ua, p0, rfl, rp0, pok0, psz0, pht0, ne0⟩
  · have fnil : (ps.filter fun p => decide (tot t R p ≠ tot g R p)) = [] := List.filter_eq_nil_iff.mpr fun p hp => by simpa using alleq p (sp.ok p hp).1
    rw [fnil] at r4 dd
    refine ⟨_, rfl, rfl, _, rfl, sz0, fun q5 hq5 => ?_⟩
    have s5 := same_new (o := .lst []) hq5
    refine .inr ⟨Dl, q5, w4, [], [], [], rfl, rfl, .of (s5 _ _ e4), .of upd_same, r4.mono (tu_same s5), .nil, by simp [D.pys, PyData.depthAll], by simp [D.pys, PyData.depthAll], ?_⟩
    refine ⟨rfl, _, rfl, ite2 (fun z => ?_) (fun _ => ?_)⟩
    · simp at z
    have rt5 := rt4.mono (tu_same s5)
    have rg5 := rg4.mono (tu_same s5)
    have hpe5 := (tu_same s5).sq hpe4
    refine ⟨_, rfl, _, rfl, _, rfl, _, rfl, gv, .ref ta, pe, pe, g, t, R, R, rfl, rg5, gok, rt5, tok, gsn.symm, by rw [gm]; omega, hpe5, ltg, ll, hpe5, lt, ll, fun H6 s6 _ => ?_, fun v H6 p s6 rp pok _ _ ne => ?_⟩
    rotate_left
    · rw [gsn] at pok
      exact absurd (alleq p pok).symm ne
    refine ⟨rfl, _, rfl, rfl, rfl, _, rfl, ite2 (fun z => ?_) (fun _ => ?_)⟩
    · simp at z
    have s26 := s24.trans (s5.trans s6)
    refine ⟨_, rfl, _, rfl, .ref ta, gv, t, g, rfl, rt5.mono (tu_same s6), tok, rg5.mono (tu_same s6), gok, gsn, by rw [gm]; omega, fun v H7 ps' s7 rv bas => ?_⟩
    obtain ⟨ba, bv, rfl, hba, rb⟩ := rv.tup_inv
    have s27 := s26.trans s7
    have rt7 := rt1.mono (tu_same s27)
    have rg7 := (rg5.mono (tu_same s6)).mono (tu_same s7)
    have hcnt : ∀ p : Pg, p.ok t.signs → ∀ k, k < t.many → cnt t.ents p k = cnt gs p k := fun p pok k hk => by
      have q := alleq p pok
      unfold tot at q
      rw [ge] at q
      exact each_of_sum (fun k _ => mono p k) q k (by rw [hR]; exact List.mem_range.mpr hk)
    refine ⟨ba, rfl, ⟨_, hba⟩, ?_⟩
    refine for_tup (K := K) (a := ba) (xs := bv) (fun i σ' H' => ∃ c6, σ' = [some (.ref b), some (.ref ta), some gv, some .non, some (.ref rl), some (.ref Dl), c6, some (.ref pe), some (.ref pm), none] ∧ Same H7 H') ⟨_, rfl, Same.refl _⟩ (fun i σ' H' _ ⟨_, _, e⟩ => (tu_same e).sq hba) ?_ ?_
    · rintro i x σ' H8 hx ⟨c6, rfl, s8⟩
      obtain ⟨d2, hd2, rd⟩ := (rb.mono (tu_same s8)).get' hx
      rw [List.getElem?_map] at hd2
      cases hp : ps'[i]? with
      | none => rw [hp] at hd2; cases hd2
      | some p =>
        rw [hp] at hd2
        cases hd2
        obtain ⟨pok, psz, pht⟩ := bas.ok p (List.mem_of_getElem? hp)
        refine ⟨_, rfl, rfl, _, rfl, ite2 (fun _ => ?_) (fun z => absurd (decide_eq_true rfl) z)⟩
        refine ⟨_, rfl, _, rfl, fun d1 hd1 => ?_⟩
        have s9 := s8.trans (same_new (o := .dK []) hd1)
        refine ⟨d1, .ref ta, x, t, p, rfl, upd_same, rt7.mono (tu_same s9), tok, rd.mono (tu_new hd1), pok, by omega, by omega, fun v1 H10 s10 r10 => ?_⟩
        have s910 := s9.trans s10
        refine ⟨_, rfl, _, rfl, fun d2 hd2 => ?_⟩
        have s11 := s910.trans (same_new (o := .dK []) hd2)
        refine ⟨d2, gv, x, g, p, rfl, upd_same, rg7.mono (tu_same s11), gok, (rd.mono ((tu_new hd1).trans (tu_same s10))).mono (tu_new hd2), by rw [gsn]; exact pok, by omega, by omega, fun v2 H12 s12 r12 => ?_⟩
        refine .inl ⟨natD (cntL t p), natD (cntL g p), (r10.mono (tu_new hd2)).mono (tu_same s12), r12, Nat.le_trans (natD_dep _) (by decide), Nat.le_trans (natD_dep _) (by decide), _, rfl, ite2 (fun z => ?_) (fun _ => ?_)⟩
        · have e : cntL t p = cntL g p := by
            unfold cntL
            rw [gm, ge]
            exact List.map_congr_left fun k hk => hcnt p pok k (List.mem_range.mp hk)
          rw [e] at z
          simp at z
        · exact ⟨some x, rfl, s11.trans s12⟩
    rintro σ' H8 ⟨c6, rfl, s8⟩
    have s28 := s27.trans s8
    have grow : Grow t fs := ⟨fok, by omega, fun gs' nd' mem' p pok k hk => by
      have pm : gs'.Perm gs := (List.perm_ext_iff_of_nodup nd' nd).mpr fun e => by rw [mem', mem]
      show cnt t.ents p k = cnt gs' p k
      rw [cnt_perm pm]
      exact hcnt p pok k hk⟩
    refine ⟨_, rfl, rfl, _, rfl, ite2 (fun _ => ?_) (fun z => absurd (decide_eq_true rfl) z)⟩
    refine ⟨_, rfl, _, rfl, .ref ta, pm, ws, t, fs, rfl, rt1.mono (tu_same s28), tok, m3, (tu_same s28).sq hpm, rpm.mono (tu_same s28), grow, (x1.same s28).tb, fun H9 E9 T9 => ⟨rfl, ?_⟩⟩
    rw [decide_eq_true rfl]
    exact k H9 ((x1.same s28).ext E9 T9)
  · have fne : (ps.filter fun p => decide (tot t R p ≠ tot g R p)) ≠ [] := fun h => ne0 (tot_span sp lt ltg (fun p hp => by simpa using List.filter_eq_nil_iff.mp h p hp) p0 pok0)
    have rp4 := rp0.mono (tu_same (s3.trans s4))
    refine ⟨_, rfl, rfl, _, rfl, sz0, fun q5 hq5 => ?_⟩
    have s5 := same_new (o := .lst []) hq5
    refine .inr ⟨Dl, q5, w4, [], _, [], rfl, rfl, .of (s5 _ _ e4), .of upd_same, r4.mono (tu_same s5), .nil, by omega, by simp [D.pys, PyData.depthAll], ?_⟩
    refine ⟨rfl, _, rfl, ite2 (fun z => ?_) (fun _ => ?_)⟩
    · have f2 : ((ps.filter fun p => decide (tot t R p ≠ tot g R p)).map (numD t g)) ≠ [] := fun h => fne (List.map_eq_nil_iff.mp h)
      rw [decide_eq_false f2] at z
      simp at z
    have rt5 := rt4.mono (tu_same s5)
    have rg5 := rg4.mono (tu_same s5)
    have hpe5 := (tu_same s5).sq hpe4
    refine ⟨_, rfl, _, rfl, _, rfl, _, rfl, gv, .ref ta, pe, pe, g, t, R, R, rfl, rg5, gok, rt5, tok, gsn.symm, by rw [gm]; omega, hpe5, ltg, ll, hpe5, lt, ll, fun H6 s6 h => ?_, fun v H6 p s6 rp pok _ _ ne => ?_⟩
    · exact absurd (h p0 (by rw [gsn]; exact pok0)).symm ne0
    obtain ⟨va, _, rfl, _, _⟩ := pg_inv rp
    refine ⟨rfl, _, rfl, rfl, rfl, _, rfl, ite2 (fun z => ?_) (fun _ => ?_)⟩
    · simp at z
    have s26 := s24.trans (s5.trans s6)
    refine ⟨_, rfl, _, rfl, .ref ta, gv, t, g, rfl, rt5.mono (tu_same s6), tok, rg5.mono (tu_same s6), gok, gsn, by rw [gm]; omega, fun v H7 ps' s7 rv bas => ?_⟩
    obtain ⟨ba, bv, rfl, hba, rb⟩ := rv.tup_inv
    have s27 := s26.trans s7
    have rt7 := rt1.mono (tu_same s27)
    have rg7 := (rg5.mono (tu_same s6)).mono (tu_same s7)
    have rp7 := rp4.mono (tu_same (s5.trans (s6.trans s7)))
    refine ⟨ba, rfl, ⟨_, hba⟩, ?_⟩
    refine for_tup (K := K) (a := ba) (xs := bv) (fun i σ' H' => ∃ c6, σ' = [some (.ref b), some (.ref ta), some gv, some (.ref ua), some (.ref rl), some (.ref Dl), c6, some (.ref pe), some (.ref pm), none] ∧ Same H7 H') ⟨_, rfl, Same.refl _⟩ (fun i σ' H' _ ⟨_, _, e⟩ => (tu_same e).sq hba) ?_ ?_
    · rintro i x σ' H8 hx ⟨c6, rfl, s8⟩
      refine ⟨_, rfl, rfl, _, rfl, ite2 (fun z => by simp at z) (fun _ => ?_)⟩
      exact ite2 (fun z => by cases z) (fun _ => ⟨some x, rfl, s8⟩)
    rintro σ' H8 ⟨c6, rfl, s8⟩
    have s28 := s27.trans s8
    refine ⟨_, rfl, rfl, _, rfl, ite2 (fun z => by simp at z) (fun _ => ?_)⟩
    refine ⟨_, rfl, _, rfl, fun d1 hd1 => ?_⟩
    have s9 := s8.trans (same_new (o := .dK []) hd1)
    refine ⟨d1, .ref ta, .ref ua, t, p0, rfl, upd_same, rt7.mono (tu_same s9), tok, rp7.mono (tu_same s9), pok0, by omega, by omega, fun v1 H10 s10 r10 => ?_⟩
    obtain ⟨a1, rfl, ha1⟩ := nats_inv r10
    rw [nats_int] at ha1
    have s910 := s9.trans s10
    refine ⟨a1, _, rfl, ha1, _, rfl, _, rfl, fun d2 hd2 => ?_⟩
    have s11 := s910.trans (same_new (o := .dK []) hd2)
    refine ⟨d2, gv, .ref ua, g, p0, rfl, upd_same, rg7.mono (tu_same s11), gok, rp7.mono (tu_same s11), by rw [gsn]; exact pok0, by omega, by omega, fun v2 H12 s12 r12 => ?_⟩
    obtain ⟨a2, rfl, ha2⟩ := nats_inv r12
    rw [nats_int] at ha2
    refine ⟨a2, _, rfl, ha2, _, _, rfl, rfl, ?_⟩
    rw [nats_sum, nats_sum, cntL_sum, cntL_sum, gm, ← hR]
    have q := totle p0
    try dsimp only
    rw [decide_eq_true (by omega)]
    exact k H12 (x1.same (s27.trans (s11.trans s12)))
end
end K56
set_option Elab.async false
set_option linter.all false
set_option maxRecDepth 100000
set_option maxHeartbeats 4000000
namespace K56
open PySem PySem.Spec PyProof.Rows L2
/-! ### _law_alike -/
theorem shown_int {n : Nat} (h : n < 2 ^ 1500) : (PyData.shown (.int (n : Int))).length ≤ 500 := by
  have e : (2 : Nat) ^ 1500 ≤ 10 ^ 500 := by
    rw [show 1500 = 3 * 500 by rfl, Nat.pow_mul]
    exact Nat.pow_le_pow_left (by decide) 500
  simp only [PyData.shown]
  refine toString_length_le (Int.natCast_nonneg n) (by decide) ?_
  have q : n < 10 ^ 500 := Nat.lt_of_lt_of_le h e
  exact_mod_cast q
theorem shown_nats : ∀ (l : List Nat), (∀ n ∈ l, n < 2 ^ 1500) → ((PyData.shownAll (D.pys (l.map fun (n : Nat) => D.int (n : Int)))).map (·.length)).sum ≤ 500 * l.length ∧ (PyData.shownAll (D.pys (l.map fun (n : Nat) => D.int (n : Int)))).length = l.length
  | [], _ => by simp [D.pys, PyData.shownAll]
  | n :: l, h => by
    obtain ⟨q1, q2⟩ := shown_nats l fun x hx => h x (List.mem_cons_of_mem _ hx)
    have q := shown_int (h n (List.mem_cons_self ..))
    simp only [List.map_cons, D.pys, D.py, PyData.shownAll, List.sum_cons, List.length_cons]
    omega
theorem shown_natD {l : List Nat} (h : ∀ n ∈ l, n < 2 ^ 1500) (hl : l.length ≤ 5) : (PyData.shown (natD l).py).length ≤ 3000 := by
  unfold natD
  simp only [D.py, PyData.shown]
  obtain ⟨q1, q2⟩ := shown_nats l h
  have q := tupleText_len_le (PyData.shownAll (D.pys (l.map fun (n : Nat) => D.int (n : Int))))
  omega
theorem shown_rows : ∀ (L : List (List Nat)), (∀ l ∈ L, l.length ≤ 5 ∧ ∀ n ∈ l, n < 2 ^ 1500) → ((PyData.shownAll (D.pys (L.map natD))).map (·.length)).sum ≤ 3000 * L.length ∧ (PyData.shownAll (D.pys (L.map natD))).length = L.length
  | [], _ => by simp [D.pys, PyData.shownAll]
  | l :: L, h => by
    obtain ⟨q1, q2⟩ := shown_rows L fun x hx => h x (List.mem_cons_of_mem _ hx)
    obtain ⟨h1, h2⟩ := h l (List.mem_cons_self ..)
    have q := shown_natD h2 h1
    simp only [List.map_cons, D.pys, PyData.shownAll, List.sum_cons, List.length_cons]
    omega
theorem show_nats : ∀ (l : List Nat), (∀ n ∈ l, n < 2 ^ 1500) → PyData.showableAll (D.pys (l.map fun (n : Nat) => D.int (n : Int))) = true
  | [], _ => by simp [D.pys, PyData.showableAll]
  | n :: l, h => by
    have q := show_nats l fun x hx => h x (List.mem_cons_of_mem _ hx)
    have q2 := h n (List.mem_cons_self ..)
    have q3 := PySem.Flt.log2_lt_of (by decide) q2
    simp only [List.map_cons, D.pys, D.py, PyData.showableAll, PyData.showable, q, Bool.and_true, Int.natAbs_natCast]
    exact decide_eq_true (by omega)
theorem show_rows : ∀ (L : List (List Nat)), (∀ l ∈ L, l.length ≤ 5 ∧ ∀ n ∈ l, n < 2 ^ 1500) → PyData.showableAll (D.pys (L.map natD)) = true
  | [], _ => by simp [D.pys, PyData.showableAll]
  | l :: L, h => by
    have q := show_rows L fun x hx => h x (List.mem_cons_of_mem _ hx)
    have q2 := show_nats l (h l (List.mem_cons_self ..)).2
    have e : PyData.showable (natD l).py = true := by
      unfold natD
      simp only [D.py, PyData.showable]
      exact q2
    simp only [List.map_cons, D.pys, PyData.showableAll, q, e, Bool.and_true]
def spAlike (K : PySem.W.Frag) : Sp := fun vs H Q _ => ∃ (l1 l2 : Addr) (xs ys : List V) (L : List (List Nat)), vs = [.ref l1, .ref l2] ∧ H l1 = some (.lst xs) ∧ H l2 = some (.lst ys) ∧ RpL K H xs (L.map natD) ∧ RpL K H ys (L.map natD) ∧ L.length ≤ 3 ∧ (∀ l ∈ L, l.length ≤ 5 ∧ ∀ n ∈ l, n < 2 ^ 1500) ∧ Q (.bl true) H
section
variable {P : Program} {w : World} {K : PySem.W.Frag} {mg : Str → Option Value} {base : Heap}
theorem sc_l_alike : FnScope ["_law_found", "_law_due"] ["_law_found", "_law_due"] (defScope s_l_alike) := ⟨rfl, rfl, rfl, by decide +kernel, rfl, by decide +kernel, by decide +kernel⟩
theorem ok_l_alike (A : Hd K mg) : ClG P w K mg base "_law_alike" ["_law_found", "_law_due"] 1 (spAlike K) := by
  obtain ⟨fd, F⟩ := A.f_l_alike
  refine ClG.of F A.g_l_alike sc_l_alike (fun _ _ _ _ _ _ us hl => match us, hl with | [_, _], _ => rfl) (fun vs H Q E h => (by obtain ⟨l1, l2, xs, ys, L, rfl, _⟩ := h; rfl)) (fun cdv Ar outer s H vs Q E hr hgd h => ?_)
  obtain ⟨l1, l2, xs, ys, L, rfl, e1, e2, r1, r2, l3, hL, k⟩ := h
  refine ⟨_, (pss_one (ps_ret (pe_and (pe_cmpR (op_eqQ (hu64 hr)) (pv 0) (pv 1) (nomark _)) (pe_one (pe_cmpR op_eq (pe_callB (cr_reprL hgd (hu64 hr)) (by rfl) A.z_repr (by decide +kernel) (pa_cons (pv 0) pa_nil)) (pe_callB (cr_reprL hgd (hu64 hr)) (by rfl) A.z_repr (by decide +kernel) (pa_cons (pv 1) pa_nil)) (nomark _)))))), ?_⟩
  have dd : PyData.depthAll (D.pys (L.map natD)) ≤ 1 := dep_map' natD 1 L fun l _ => natD_dep l
  have sh := show_rows L hL
  have sl : (PyData.shown (.list (D.pys (L.map natD)))).length ≤ sizeLine := by
    simp only [PyData.shown]
    obtain ⟨q1, q2⟩ := shown_rows L hL
    have q := listText_len_le (PyData.shownAll (D.pys (L.map natD)))
    exact sz_ok (by omega)
  refine ⟨_, rfl, _, rfl, .inr ⟨l1, l2, xs, ys, _, _, rfl, rfl, .of e1, .of e2, r1, r2, by omega, by omega, ?_⟩⟩
  have sh' : PyData.showable (.list (D.pys (L.map natD))) = true := by simp only [PyData.showable]; exact sh
  refine ⟨_, rfl, ite2 (fun _ => ?_) (fun z => absurd (by simp) z)⟩
  refine ⟨_, rfl, l1, xs, _, rfl, .of e1, r1, by omega, sh', sl, _, rfl, l2, ys, _, rfl, .of e2, r2, by omega, sh', sl, rfl, ?_⟩
  rw [decide_eq_true rfl]
  exact k
end
end K56
set_option Elab.async false
set_option linter.all false
set_option maxRecDepth 100000
set_option maxHeartbeats 4000000
namespace K56
open PySem PySem.Spec PyProof.Rows L2 LamX
theorem order_of {order : List Nat} {n : Nat} (pm : order.Perm (List.range n)) : Order order n := ⟨pm.nodup_iff.mpr List.nodup_range, fun k => by rw [pm.mem_iff, List.mem_range]⟩
theorem order_at {order : List Nat} {n i : Nat} (o : Order order n) (pm : order.Perm (List.range n)) (h : i < n) : ∃ k, order[i]? = some k ∧ k < n ∧ order.idxOf k = i := by
  have l : order.length = n := by rw [pm.length_eq, List.length_range]
  have hk : order[i]? = some order[i] := by simp [l, h]
  exact ⟨_, hk, (o.all _).mp (List.getElem_mem _), idx_nodup order i _ o.nd hk⟩
theorem idx_lt {order : List Nat} {n k : Nat} (o : Order order n) (pm : order.Perm (List.range n)) (h : k < n) : order.idxOf k < n := by
  have q := List.idxOf_lt_length_of_mem ((o.all k).mpr h)
  rwa [pm.length_eq, List.length_range] at q
theorem moved_ok {t : Tb} (tok : t.ok) {order : List Nat} (o : Order order t.many) (pm : order.Perm (List.range t.many)) {fs : List En} (h : fs.Perm (t.ents.map (moveE order))) : (Tb.mk t.many t.signs fs).ok where
  m1 := tok.m1
  m4 := tok.m4
  sg := tok.sg
  s6 := tok.s6
  en := fun e he => by
    obtain ⟨x, hx, rfl⟩ := List.mem_map.mp (h.mem_iff.mp he)
    have q := tok.en x hx
    refine ⟨by show t.signs[x.sign]? = some (x.parts.map order.idxOf).length; rw [List.length_map]; exact q.ar, fun p hp => ?_, idx_lt o pm q.kd⟩
    obtain ⟨k, hk, rfl⟩ := List.mem_map.mp (show p ∈ x.parts.map order.idxOf from hp)
    exact idx_lt o pm (q.ps k hk)
  e31 := by show fs.length ≤ 31; rw [h.length_eq, List.length_map]; exact tok.e31
theorem like_snoc {es : List En} {i : Nat} {e : En} (h : es[i]? = some e) (j n : Nat) : likeL (es.take (i + 1)) j n = likeL (es.take i) j n ++ (if e.kind = j then [copyE n e] else []) := by
  unfold likeL
  rw [take_snoc h, List.filter_append, List.map_append]
  congr 1
  by_cases c : e.kind = j
  · rw [List.filter_cons_of_pos (by simpa using c), if_pos c]; rfl
  · rw [List.filter_cons_of_neg (by simpa using c), if_neg c]; rfl
theorem like_len (es : List En) (j n : Nat) : (likeL es j n).length ≤ es.length := by
  unfold likeL
  rw [List.length_map]
  exact List.length_filter_le ..
theorem En.ok_more {m : Nat} {sg : List Nat} {e : En} (h : e.ok m sg) : e.ok (m + 1) sg := ⟨h.ar, fun p hp => Nat.lt_succ_of_lt (h.ps p hp), Nat.lt_succ_of_lt h.kd⟩
theorem wide_ok {t : Tb} (tok : t.ok) (m3 : t.many ≤ 3) {j : Nat} {fs : List En} (h : fs.Perm (t.ents ++ likeL t.ents j t.many)) (le : t.ents.length + (likeL t.ents j t.many).length ≤ 24) : (Tb.mk (t.many + 1) t.signs fs).ok where
  m1 := by show 1 ≤ t.many + 1; omega
  m4 := by show t.many + 1 ≤ 4; omega
  sg := tok.sg
  s6 := tok.s6
  en := fun e he => by
    rcases List.mem_append.mp (h.mem_iff.mp he) with q | q
    · exact En.ok_more (tok.en e q)
    · obtain ⟨x, hx, rfl⟩ := List.mem_map.mp q
      have z := tok.en x (List.mem_filter.mp hx).1
      exact ⟨z.ar, fun p hp => Nat.lt_succ_of_lt (z.ps p hp), Nat.lt_succ_self _⟩
  e31 := by
    show fs.length ≤ 31
    rw [h.length_eq, List.length_append]
    omega
theorem tot_1 (t : Tb) (k : Nat) (p : Pg) : tot t [k] p = cnt t.ents p k := by simp [tot]
def spLaw (K : PySem.W.Frag) : Sp := fun vs H Q _ => ∃ (sl : Addr) (ns : List Int), vs = [.ref sl] ∧ SqL K H sl (ns.map V.int) ∧ ns.length ≤ 1000 ∧ Tabs (TT K) H ∧ ∀ H', Q (.bl true) H'
section
variable {P : Program} {w : World} {K : PySem.W.Frag} {mg : Str → Option Value} {base : Heap}
theorem sc_law : FnScope ["_law_script", "_law_bag_here", "_law_turn", "_law_table_here", "_law_order", "_law_other", "_law_kind", "_law_like", "_law_copies", "_law_wider", "_law_programs", "_law_program_here", "_law_many", "_law_signs_here", "_law_entries", "_law_own", "_law_told_here", "_law_k", "_law_one", "_law_entry_here"] ["_law_script"] (defScope s_law) := ⟨rfl, rfl, rfl, by decide +kernel, rfl, by decide +kernel, by decide +kernel⟩
theorem ok_law (A : Hd K mg) (TB : TabB base mg (He.cT K pS).1 (He.cT K pS).2) : ClG P w K mg base "law" ["_law_script"] 62 (spLaw K) := by
  obtain ⟨fd, F⟩ := A.f_law
  refine ClG.of F A.g_law sc_law (fun _ _ _ _ _ _ us hl => match us, hl with | [_], _ => rfl) (fun vs H Q E h => (by obtain ⟨sl, ns, rfl, _⟩ := h; rfl)) (fun cdv Ar outer s H vs Q E hr hgd h => ?_)
  obtain ⟨sl, ns, rfl, hsl, hns, hT, k⟩ := h
  refine ⟨_, (pss_cons (ps_set (i := 1) sc_law.nd rfl (.inr rfl) (pe_cl (ok_l_bag A) (hr.mono (by decide)) (by rfl) (pa_cons (pv 0) pa_nil)))
  (pss_cons (ps_for PassesOwn.never (by rfl) (pi_range1 (by rfl) A.z_range (pa_cons pe_int pa_nil)) (pg_name (i := 2) sc_law.nd rfl (.inl rfl))
  (pss_cons (ps_set (i := 3) sc_law.nd rfl (.inr rfl) (pe_cl (ok_l_small_table A) (hr.mono (by decide)) (by rfl) (pa_cons (pv 1) pa_nil)))
  (pss_cons (ps_asg (pv 3) (pg_tup rfl (pgs_cons (pg_name (i := 12) sc_law.nd rfl (.inr rfl)) (pgs_cons (pg_name (i := 13) sc_law.nd rfl (.inl rfl)) (pgs_cons (pg_name (i := 14) sc_law.nd rfl (.inl rfl)) pgs_nil)))))
  (pss_cons (ps_set (i := 4) sc_law.nd rfl (.inl rfl) (pe_callTy cr_tupF (by rfl) A.z_tuple (by decide +kernel) (pa_cons (pe_cl (ok_l_mixed A) (hr.mono (by decide)) (by rfl) (pa_cons (pv 1) (pa_cons (pe_listRg (by rfl) (by rfl) A.z_list (prg_1 (by rfl) A.z_range (pv 12))) pa_nil))) pa_nil)))
  (pss_cons (ps_set (i := 5) sc_law.nd rfl (.inl rfl) (pe_cl (ok_renumbered A) (hr.mono (by decide)) (by rfl) (pa_cons (pv 3) (pa_cons (pv 4) (pa_cons (pe_tupRgF (by rfl) (by rfl) A.z_tuple (prg_1 (by rfl) A.z_range (pe_callB call_len_seq (by rfl) A.z_len PySem.boot_len (pa_cons (pv 13) pa_nil)))) pa_nil)))))
  (pss_mid (ps_for PassesOwn.never (by rfl) (pi_range1 (by rfl) A.z_range (pa_cons (pv 12) pa_nil)) (pg_name (i := 6) sc_law.nd rfl (.inl rfl))
  (pss_one (ps_if (pt_cmpR op_notN (pe_cl (ok_unlike_many A) (hr.mono (by decide)) (by rfl) (pa_cons (pv 5) (pa_cons (pe_tup (pa_cons (pv 6) pa_nil)) (pa_cons (pv 3) (pa_cons (pe_tup (pa_cons (pe_ix ix_tup (pv 4) (pv 6) (fun _ _ => rfl)) pa_nil)) pa_nil))))) pe_non (nomark _)) (pss_one (ps_ret pe_bl)) pss_nil)))
  (pss_cons (ps_set (i := 7) sc_law.nd rfl (.inr rfl) (pe_cl (ok_l_take A) (hr.mono (by decide)) (by rfl) (pa_cons (pv 1) (pa_cons (pv 12) pa_nil))))
  (pss_cons (ps_set (i := 8) sc_law.nd rfl (.inl rfl) (pe_tupleOf (by rfl) A.z_tuple (pe_lcF (own := [("_law_entry_here", 19)]) (by rfl) sc_law.nd (pi_tup (pv 14)) (blkOk_by (by rfl)) (fun _ _ _ _ _ => (pg_name (i := 19) sc_law.nd rfl (.inl rfl))) (fun _ _ _ _ _ => (pts_one (pt_cmpR op_eq (pe_ix ix_tup (pv 19) pe_int (fun _ _ => rfl)) (pv 7) (nomark _)))) (fun _ _ _ _ _ => (pe_op op_catA (pe_slice sl_tupA (pv 19) po_none (po_some pe_int)) (pe_tup (pa_cons (pv 12) pa_nil)))))))
  (pss_cons (ps_if (pt_cmpR op_gt (pe_op op_add (pe_callB call_len_seq (by rfl) A.z_len PySem.boot_len (pa_cons (pv 14) pa_nil)) (pe_callB call_len_seq (by rfl) A.z_len PySem.boot_len (pa_cons (pv 8) pa_nil))) pe_int (nomark _)) (pss_one ps_continue) pss_nil)
  (pss_cons (ps_set (i := 9) sc_law.nd rfl (.inl rfl) (pe_tup (pa_cons (pe_op op_add (pv 12) pe_int) (pa_cons (pv 13) (pa_cons (pe_tupleOf (by rfl) A.z_tuple (pe_callB (cr_sortedD (by rfl) (hu64 hr)) (by rfl) A.z_sorted (by decide +kernel) (pa_cons (pe_op op_catA (pv 14) (pv 8)) pa_nil))) pa_nil)))))
  (pss_cons (ps_if (pt_cmpR op_notN (pe_cl (ok_unlike_many A) (hr.mono (by decide)) (by rfl) (pa_cons (pv 9) (pa_cons (pe_tup (pa_cons (pv 7) pa_nil)) (pa_cons (pv 3) (pa_cons (pe_tup (pa_cons (pv 7) pa_nil)) pa_nil))))) pe_non (nomark _)) (pss_one (ps_ret pe_bl)) pss_nil)
  (pss_cons (ps_if (pt_cmpR op_notN (pe_cl (ok_unlike_many A) (hr.mono (by decide)) (by rfl) (pa_cons (pv 9) (pa_cons (pe_tup (pa_cons (pv 12) pa_nil)) (pa_cons (pv 9) (pa_cons (pe_tup (pa_cons (pv 7) pa_nil)) pa_nil))))) pe_non (nomark _)) (pss_one (ps_ret pe_bl)) pss_nil)
  (pss_cons (ps_setLcF (i := 10) (own := [("_law_k", 17)]) (by rfl) sc_law.nd rfl rfl (sw_true rfl rfl rfl (by decide +kernel)) (pi_range1 (by rfl) A.z_range (pa_cons pe_int pa_nil)) (blkOk_by (by rfl)) (fun _ _ _ _ _ => (pg_name (i := 17) sc_law.nd rfl (.inl rfl))) (fun _ _ _ _ _ => pts_nil) (fun _ _ _ _ _ => (pe_cl (ok_l_program A) (hr.mono (by decide)) (by rfl) (pa_cons (pv 1) (pa_cons (pv 3) (pa_cons (pe_cl (ok_l_some A) (hr.mono (by decide)) (by rfl) (pa_cons (pv 1) (pa_cons (pe_lst (pa_cons pe_int (pa_cons pe_int (pa_cons pe_int pa_nil)))) pa_nil))) pa_nil))))))
  (pss_mid (ps_for PassesOwn.never (by rfl) (pi_list (pe_lcF (own := [("_law_one", 18)]) (by rfl) sc_law.nd (pi_list (pv 10)) (blkOk_by (by rfl)) (fun _ _ _ _ _ => (pg_name (i := 18) sc_law.nd rfl (.inl rfl))) (fun _ _ _ _ _ => (pts_one (pt_cmpR op_notN (pv 18) pe_non (nomark _)))) (fun _ _ _ _ _ => (pv 18)))) (pg_name (i := 11) sc_law.nd rfl (.inr rfl))
  (pss_cons (ps_set (i := 15) sc_law.nd rfl (.inr rfl) (pe_cl (ok_l_counts A 40) (hr.mono (by decide)) (by rfl) (pa_cons (pv 3) (pa_cons (pv 11) pa_nil))))
  (pss_cons (ps_setLcF (i := 16) (own := [("_law_one", 18)]) (by rfl) sc_law.nd rfl rfl (sw_true rfl rfl rfl (by decide +kernel)) (pi_tup (pe_tup (pa_cons (pv 3) (pa_cons (pv 5) (pa_cons (pv 9) pa_nil))))) (blkOk_by (by rfl)) (fun _ _ _ _ _ => (pg_name (i := 18) sc_law.nd rfl (.inl rfl))) (fun _ _ _ _ _ => pts_nil) (fun _ _ _ _ _ => (pe_cl (ok_readings_many A) (hr.mono (by decide)) (by rfl) (pa_cons (pv 18) (pa_cons (pv 11) (pa_cons pe_dnewK pa_nil))))))
  (pss_one (ps_if (pt_not (pt_val (pe_clG (ok_l_alike A) (hr.mono (by decide)) hgd (by rfl) (pa_cons (pv 16) (pa_cons (pe_lst (pa_cons (pv 15) (pa_cons (pe_tupleOf (by rfl) A.z_tuple (pe_lcF (own := [("_law_kind", 6)]) (by rfl) sc_law.nd (pi_tup (pv 4)) (blkOk_by (by rfl)) (fun _ _ _ _ _ => (pg_name (i := 6) sc_law.nd rfl (.inl rfl))) (fun _ _ _ _ _ => pts_nil) (fun _ _ _ _ _ => (pe_ix ix_tup (pv 15) (pv 6) (fun _ _ => rfl))))) (pa_cons (pe_op op_catA (pv 15) (pe_tup (pa_cons (pe_ix ix_tup (pv 15) (pv 7) (fun _ _ => rfl)) pa_nil))) pa_nil)))) pa_nil))) (fun _ => rfl))) (pss_one (ps_ret pe_bl)) pss_nil)))))
  (pss_one (ps_if (PW.pt (pw_or (pt_not (pt_val (pe_cl (ok_l_is_nothing_changed A TB) (hr.mono (by decide)) (by rfl) (pa_cons (pv 1) (pa_cons (pv 3) pa_nil))) (fun _ => rfl))) (pw_or1 (pt_not (pt_val (pe_cl (ok_l_are_more_seen A TB) (hr.mono (by decide)) (by rfl) (pa_cons (pv 1) (pa_cons (pv 3) pa_nil))) (fun _ => rfl)))))) (pss_one (ps_ret pe_bl)) pss_nil))))))))))))))))
  (pss_one (ps_ret pe_bl)))), ?_⟩
  refine ⟨_, rfl, sl, ns, rfl, hsl, hns, fun b a cs H1 s1 B1 => ?_⟩
  have T1 : Tabs (TT K) H1 := hT.ext fun b o h => s1 b o h
  refine ⟨_, rfl, by decide, by decide, ?_⟩
  refine for_range (fun i σ H' => ∃ c2 c3 c4 c5 c6 c7 c8 c9 c10 c11 c12 c13 c14 c15 c16 c17 c18 c19, σ = [some (.ref sl), some (.ref b), c2, c3, c4, c5, c6, c7, c8, c9, c10, c11, c12, c13, c14, c15, c16, c17, c18, c19] ∧ Bag b a cs H' ∧ Tabs (TT K) H') ⟨_, _, _, _, _, _, _, _, _, _, _, _, _, _, _, _, _, _, rfl, B1, T1⟩ ?_ ?_
  rotate_left
  · rintro σ H' _
    exact k H'
  clear T1 B1 s1 hT hsl k
  rintro i σ H1 hi ⟨c2, c3, c4, c5, c6, c7, c8, c9, c10, c11, c12, c13, c14, c15, c16, c17, c18, c19, rfl, B1, T1⟩
  refine ⟨_, rfl, b, a, cs, rfl, B1, fun tv H2 t g2 rt tg m3 => ?_⟩
  have tok := tg.ok
  have t24 := tg.few
  have m1 := tok.m1
  have ss6 := tok.s6
  obtain ⟨ta, sa, ea, es, rfl, hta, hsa, hea, re⟩ := tb_inv rt
  have el : es.length = t.ents.length := by rw [re.length, List.length_map]
  refine ⟨_, rfl, ta, _, rfl, hta, rfl, _, _, rfl, _, _, rfl, _, _, rfl, rfl, ?_⟩
  refine ⟨_, rfl, _, rfl, _, rfl, .of_le (by omega) (by omega) (by omega) (by omega), fun q1 hq1 => ?_⟩
  rw [rg_nats]
  have s3 := same_new (o := .lst ((List.range t.many).map fun (k : Nat) => V.int (k : Int))) hq1
  have g3 := g2.same s3
  refine ⟨b, a, q1, cs, t.many, rfl, g3.b1, .of upd_same, g2.nb (g2.back hq1), by omega, fun p4 H4 order g4 hp4 e4 pm => ⟨p4, _, rfl, .of e4, fun q5 ob hq5 hob => ?_⟩⟩
  have ord := order_of pm
  have s5 := same_new (o := .frz ob (.tup (order.map fun (k : Nat) => V.int (k : Int)))) hq5
  have f5 : Ft (upd H4 q5 (.frz ob (.tup (order.map fun (k : Nat) => V.int (k : Int))))) q5 (order.map fun (k : Nat) => V.int (k : Int)) := ⟨ob, upd_same, hob⟩
  have g25 : Gb b a cs H2 (upd H4 q5 (.frz ob (.tup (order.map fun (k : Nat) => V.int (k : Int))))) := ((same_gb g2.b1 s3).trans g4).same s5
  try dsimp only
  generalize upd H4 q5 (.frz ob (.tup (order.map fun (k : Nat) => V.int (k : Int)))) = H5 at f5 g25
  clear s5 hq5 e4 hp4 g4 g3 s3 hq1
  refine ⟨_, rfl, _, rfl, _, rfl, sa, _, rfl, .inr (g25.tu.sq hsa), ?_⟩
  try dsimp only
  rw [List.length_map]
  refine ⟨_, rfl, by omega, by omega, by omega, by omega, by omega, fun q6 ob6 hq6 hob6 => ?_⟩
  rw [rg_nats]
  have s6 := same_new (o := .frz ob6 (.tup ((List.range t.signs.length).map fun (k : Nat) => V.int (k : Int)))) hq6
  have f6 : Ft (upd H5 q6 (.frz ob6 (.tup ((List.range t.signs.length).map fun (k : Nat) => V.int (k : Int))))) q6 ((List.range t.signs.length).map fun (k : Nat) => V.int (k : Int)) := ⟨ob6, upd_same, hob6⟩
  have g26 := g25.same s6
  have f56 := f5.same s6
  generalize upd H5 q6 (.frz ob6 (.tup ((List.range t.signs.length).map fun (k : Nat) => V.int (k : Int)))) = H6 at s6 f6 g26 f56
  refine ⟨.ref ta, q5, q6, t, order, rfl, rt.mono g26.tu, tok, f56, ord, f6, fun ov H7 fs s7 ro pmo => ?_⟩
  have ook := moved_ok tok ord pm pmo
  have g27 := g26.same s7
  have f7 := f56.same s7
  have rt7 := rt.mono g27.tu
  have hcv : ∀ (p : Pg) (k : Nat), k < t.many → cnt fs p (order.idxOf k) = cnt t.ents p k := fun p k hk => by
    rw [cnt_perm pmo]
    exact cnt_move ord (fun e he => ⟨(tok.en e he).kd, (tok.en e he).ps⟩) p k hk
  try dsimp only
  clear s7 s6 f6 f56 g26 hq6 hob6 f5 g25
  refine ⟨fun σ' H' => ∃ c6, σ' = [some (.ref sl), some (.ref b), some (.int (0 + (i : Int))), some (.ref ta), some (.ref q5), some ov, c6, c7, c8, c9, c10, c11, some (.int (t.many : Int)), some (.ref sa), some (.ref ea), c15, c16, c17, c18, c19] ∧ Same H7 H', ?_, ?_⟩
  · refine ⟨_, rfl, _, rfl, by omega, by omega, ?_⟩
    rw [Int.toNat_natCast]
    refine for_range (fun i' σ' H' => ∃ c6, σ' = [some (.ref sl), some (.ref b), some (.int (0 + (i : Int))), some (.ref ta), some (.ref q5), some ov, c6, c7, c8, c9, c10, c11, some (.int (t.many : Int)), some (.ref sa), some (.ref ea), c15, c16, c17, c18, c19] ∧ Same H7 H') ⟨_, rfl, Same.refl _⟩ ?_ ?_
    rotate_left
    · rintro σ' H' ⟨c6, rfl, s'⟩
      exact ⟨c6, rfl, s'⟩
    rintro j σ' H' hj ⟨c6, rfl, s'⟩
    obtain ⟨kk, hk1, hk2, hk3⟩ := order_at ord pm hj
    have e0 : (0 : Int) + (j : Int) = (j : Int) := by omega
    rw [e0]
    refine ⟨_, rfl, _, rfl, sz1, fun p8 hp8 => ?_⟩
    have s8 := s'.trans (same_new (o := .tup [.int (j : Int)]) hp8)
    refine ⟨_, rfl, _, rfl, _, rfl, q5, _, j, _, rfl, rfl, (f7.same s8).sq, atI_nat (by rw [List.getElem?_map, hk1]; rfl), sz1, fun p9 hp9 => ?_⟩
    have s9 := s8.trans (same_new (o := .tup [.int (kk : Int)]) hp9)
    have e8 : SqT K (upd (upd H' p8 (.tup [.int (j : Int)])) p9 (.tup [.int (kk : Int)])) p8 ([j].map fun (k : Nat) => V.int (k : Int)) := .of (same_new hp9 _ _ upd_same)
    have e9 : SqT K (upd (upd H' p8 (.tup [.int (j : Int)])) p9 (.tup [.int (kk : Int)])) p9 ([kk].map fun (k : Nat) => V.int (k : Int)) := .of upd_same
    refine ⟨ov, .ref ta, p8, p9, ⟨t.many, t.signs, fs⟩, t, [j], [kk], rfl, ro.mono (tu_same s9), ook, rt7.mono (tu_same s9), tok, rfl, by show t.many + t.many ≤ 8; omega, e8, fun k hk => by rw [List.mem_singleton.mp hk]; exact hj, by simp, e9, fun k hk => by rw [List.mem_singleton.mp hk]; exact hk2, by simp, fun H10 s10 _ => ?_, fun v H10 p s10 _ pok _ _ ne => ?_⟩
    · refine ⟨rfl, _, rfl, ite2 (fun z => by simp at z) (fun _ => ?_)⟩
      exact ⟨some (.int (j : Int)), rfl, s9.trans s10⟩
    · refine absurd ?_ ne
      rw [tot_1, tot_1]
      show cnt fs p j = _
      rw [← hcv p kk hk2, hk3]
  rintro σ' H8 ⟨c6, rfl, s8⟩
  have g8 := (g2.trans g27).same s8
  refine ⟨_, rfl, _, rfl, b, a, cs, _, rfl, g8.b1, by omega, by omega, fun jl H9 jl0 jl1 g9 => ?_⟩
  obtain ⟨like, rfl⟩ : ∃ n : Nat, jl = (n : Int) := ⟨jl.toNat, by omega⟩
  have hlike : like < t.many := by omega
  have g29 := (g27.same s8).trans g9
  have ro9 := (ro.mono (tu_same s8)).mono g9.tu
  have hq9 := g9.tu.sq ((tu_same s8).sq (f7.sq (K := K)))
  refine ⟨_, rfl, ea, rfl, ⟨_, g29.tu.sq hea⟩, fun Dl hD => ?_⟩
  have nDl : Dl ≠ b := g9.b1.nb hD
  refine lc_same (K := K) (walk_tup (K := K) (a := ea) (xs := es)) hD (fun i ds => ds = (likeL (t.ents.take i) like t.many).map En.d) (by omega) (fun H6 s6 => (tu_same s6).sq (g29.tu.sq hea)) rfl ?_ ?_
  · rintro i x _ H10 ds hi s10 ⟨rfl, hx⟩ hds Qe Qn he hn
    obtain ⟨d2, hd2, rd⟩ := ((re.mono g29.tu).mono (tu_same s10)).get' hx
    rw [List.getElem?_map] at hd2
    cases hen : t.ents[i]? with
    | none => rw [hen] at hd2; cases hd2
    | some e =>
      rw [hen] at hd2
      cases hd2
      obtain ⟨xa, xp, rfl, hxa, hxp⟩ := en_inv rd
      refine ⟨rfl, _, rfl, xa, _, _, _, rfl, rfl, hxa, atI_nat (j := 2) rfl, _, rfl, rfl, _, rfl, ite2 (fun z => ?_) (fun z => ?_)⟩
      · have ek : e.kind = like := by
          have z2 := of_decide_eq_true z
          injection z2 with z3
          omega
        refine ⟨_, rfl, 2, rfl, ?_⟩
        refine rSlA_of hxa fun p11 H11 s11 e11 => ?_
        have e11' : SqT K H11 p11 [.int (e.sign : Int), .ref xp] := e11
        refine ⟨_, rfl, sz1, fun p12 hp12 => ?_⟩
        have s12 := same_new (o := .tup [.int (t.many : Int)]) hp12
        refine rCatA_of ((tu_same s12).sq e11') (.of upd_same) (sz_ok (by simp)) fun p13 H13 s13 e13 => ?_
        have s1013 := s11.trans (s12.trans s13)
        refine he _ (copyE t.many e).d _ s1013 (en_mk ((tu_same s1013).sq hxp) e13) ?_
        rw [hds, like_snoc hen, if_pos ek, List.map_append]
        rfl
      · have ek : e.kind ≠ like := fun h => z (decide_eq_true (by rw [h]))
        refine hn _ (Same.refl _) ?_
        rw [hds, like_snoc hen, if_neg ek, List.append_nil]
  intro H10 w10 ds s10 e10 r10 hds _
  rw [el, List.take_length] at hds
  subst hds
  refine .inl ⟨Dl, w10, rfl, .of e10, fun q11 hq11 => ?_⟩
  have s11 := same_new (o := .tup w10) hq11
  have s911 := s10.trans s11
  have ec11 : SqT K (upd H10 q11 (.tup w10)) q11 w10 := .of upd_same
  have rc11 := r10.mono (tu_same s11)
  have g211 := g29.same s911
  have ro11 := ro9.mono (tu_same s911)
  have ho11 := (tu_same s911).sq hq9
  try dsimp only
  generalize upd H10 q11 (.tup w10) = H11 at s11 s911 ec11 rc11 g211 ro11 ho11
  have lw : w10.length = (likeL t.ents like t.many).length := by rw [r10.length, List.length_map]
  clear r10 e10 hq11 s10 s11 ro9 hD
  refine ⟨_, rfl, ea, _, rfl, .inr (g211.tu.sq hea), _, rfl, q11, _, rfl, .inr ec11, _, _, rfl, rfl, _, _, rfl, rfl, _, rfl, ite2 (fun z => ?_) (fun z => ?_)⟩
  · exact ⟨_, _, _, _, _, _, _, _, _, _, _, _, _, _, _, _, _, _, rfl, g211.b1, tabs_gb (tabs_gb T1 g2) g211⟩
  have le24 : t.ents.length + (likeL t.ents like t.many).length ≤ 24 := by
    have q : ¬ ((es.length : Int) + (w10.length : Int) > 24) := fun h => z (decide_eq_true h)
    rw [el, lw] at q
    omega
  refine ⟨_, rfl, _, _, rfl, rfl, _, rfl, _, rfl, _, rfl, rCatA_of (g211.tu.sq hea) ec11 (sz_ok (by omega)) fun p12 H12 s12 e12 => ?_⟩
  have r12 : RpL K H12 (es ++ w10) ((t.ents ++ likeL t.ents like t.many).map En.d) := by
    rw [List.map_append]
    exact ((re.mono g211.tu).mono (tu_same s12)).app (rc11.mono (tu_same s12))
  obtain ⟨L, hvs, hL, hr12⟩ := ents_row r12
  rw [hvs] at e12
  have mL : ∀ p ∈ L, p.2 ∈ (t.ents ++ likeL t.ents like t.many).map En.d := fun p hp => by rw [hL]; exact List.mem_map_of_mem hp
  have lL : L.length ≤ 24 := by
    have q := congrArg List.length hL
    rw [List.length_map, List.length_map, List.length_append] at q
    omega
  simp only [tNil]
  refine ⟨p12, L, rfl, .inr (.inr e12), hr12, ents_sorts mL (by omega), fun p13 M hp13 pmM => ?_⟩
  have s13 := same_new (o := .lst (M.map fun q => V.ref q.1)) hp13
  obtain ⟨fw, hfw⟩ := ents_back (es := t.ents ++ likeL t.ents like t.many) (M := M) fun q hq => mL q (pmM.mem_iff.mp hq)
  have pmw : fw.Perm (t.ents ++ likeL t.ents like t.many) := by
    have q : (fw.map En.d).Perm ((t.ents ++ likeL t.ents like t.many).map En.d) := by rw [← hfw, hL]; exact pmM.map _
    exact perm_of_map q
  refine .inl ⟨p13, _, rfl, .of upd_same, fun q14 hq14 => ⟨sz3, fun q15 hq15 => ?_⟩⟩
  have s14 := same_new (o := .tup (M.map fun q => V.ref q.1)) hq14
  have s15 := same_new (o := .tup [.int ((t.many : Int) + 1), .ref sa, .ref q14]) hq15
  have s1115 := s12.trans (s13.trans (s14.trans s15))
  have rw15 : Rp K (upd (upd (upd H12 p13 (.lst (M.map fun q => V.ref q.1))) q14 (.tup (M.map fun q => V.ref q.1))) q15 (.tup [.int ((t.many : Int) + 1), .ref sa, .ref q14])) (.ref q15) (Tb.mk (t.many + 1) t.signs fw).d := by
    refine .tup (.of upd_same) (.cons (.int ((t.many + 1 : Nat) : Int)) (.cons (nats_of ((tu_same s1115).sq (g211.tu.sq hsa))) (.one ?_)))
    refine .tup (.of (s15 _ _ upd_same)) ?_
    rw [← hfw]
    exact rpL_of fun q hq => (hr12 q (pmM.mem_iff.mp hq)).mono (tu_same (s13.trans (s14.trans s15)))
  have g215 := g211.same s1115
  have ro15 := ro11.mono (tu_same s1115)
  have ho15 := (tu_same s1115).sq ho11
  try dsimp only
  generalize upd (upd (upd H12 p13 (.lst (M.map fun q => V.ref q.1))) q14 (.tup (M.map fun q => V.ref q.1))) q15 (.tup [.int ((t.many : Int) + 1), .ref sa, .ref q14]) = H15 at rw15 g215 ro15 ho15
  clear s1115 s15 s14 s13 hq15 hq14 hp13 hr12 hL mL lL hvs e12 r12 s12 hfw pmM
  have wok := wide_ok tok m3 pmw le24
  have wid := cnt_wide pmw hlike (fun e he => ⟨(tok.en e he).kd, (tok.en e he).ps⟩)
  have rt15 := rt.mono g215.tu
  refine ⟨_, rfl, _, rfl, sz1, fun p16 hp16 => ?_⟩
  have s16 := same_new (o := .tup [.int (like : Int)]) hp16
  refine ⟨_, rfl, _, rfl, sz1, fun p17 hp17 => ?_⟩
  have s17 := s16.trans (same_new (o := .tup [.int (like : Int)]) hp17)
  have e16 : SqT K (upd (upd H15 p16 (.tup [.int (like : Int)])) p17 (.tup [.int (like : Int)])) p16 ([like].map fun (k : Nat) => V.int (k : Int)) := .of (same_new hp17 _ _ upd_same)
  have e17 : SqT K (upd (upd H15 p16 (.tup [.int (like : Int)])) p17 (.tup [.int (like : Int)])) p17 ([like].map fun (k : Nat) => V.int (k : Int)) := .of upd_same
  refine ⟨.ref q15, .ref ta, p16, p17, ⟨t.many + 1, t.signs, fw⟩, t, [like], [like], rfl, rw15.mono (tu_same s17), wok, rt15.mono (tu_same s17), tok, rfl, by show t.many + 1 + t.many ≤ 8; omega, e16, fun k hk => by rw [List.mem_singleton.mp hk]; show like < t.many + 1; omega, by simp, e17, fun k hk => by rw [List.mem_singleton.mp hk]; exact hlike, by simp, fun H18 s18 _ => ?_, fun v H18 p s18 _ pok _ _ ne => ?_⟩
  rotate_left
  · refine absurd ?_ ne
    rw [tot_1, tot_1]
    exact (wid p).1 like hlike
  have s1518 := s17.trans s18
  clear e16 e17 s17 s16 hp16 hp17 s18
  refine ⟨rfl, _, rfl, ite2 (fun z => by simp at z) (fun _ => ?_)⟩
  refine ⟨_, rfl, _, rfl, sz1, fun p19 hp19 => ?_⟩
  have s19 := s1518.trans (same_new (o := .tup [.int (t.many : Int)]) hp19)
  refine ⟨_, rfl, _, rfl, sz1, fun p20 hp20 => ?_⟩
  have s20 := s19.trans (same_new (o := .tup [.int (like : Int)]) hp20)
  have e19 : SqT K (upd (upd H18 p19 (.tup [.int (t.many : Int)])) p20 (.tup [.int (like : Int)])) p19 ([t.many].map fun (k : Nat) => V.int (k : Int)) := .of (same_new hp20 _ _ upd_same)
  have e20 : SqT K (upd (upd H18 p19 (.tup [.int (t.many : Int)])) p20 (.tup [.int (like : Int)])) p20 ([like].map fun (k : Nat) => V.int (k : Int)) := .of upd_same
  refine ⟨.ref q15, .ref q15, p19, p20, ⟨t.many + 1, t.signs, fw⟩, ⟨t.many + 1, t.signs, fw⟩, [t.many], [like], rfl, rw15.mono (tu_same s20), wok, rw15.mono (tu_same s20), wok, rfl, by show t.many + 1 + (t.many + 1) ≤ 8; omega, e19, fun k hk => by rw [List.mem_singleton.mp hk]; show t.many < t.many + 1; omega, by simp, e20, fun k hk => by rw [List.mem_singleton.mp hk]; show like < t.many + 1; omega, by simp, fun H21 s21 _ => ?_, fun v H21 p s21 _ pok _ _ ne => ?_⟩
  rotate_left
  · refine absurd ?_ ne
    rw [tot_1, tot_1]
    show cnt fw p t.many = cnt fw p like
    rw [(wid p).2, (wid p).1 like hlike]
  have s1521 := s20.trans s21
  clear e19 e20 s20 s19 hp19 hp20 s21 s1518
  refine ⟨rfl, _, rfl, ite2 (fun z => by simp at z) (fun _ => ?_)⟩
  have g221 := g215.same s1521
  have ro21 := ro15.mono (tu_same s1521)
  have ho21 := (tu_same s1521).sq ho15
  have rt21 := rt.mono g221.tu
  have rw21 := rw15.mono (tu_same s1521)
  clear s1521 rw15 ro15 rt15 g215
  have T21 : Tabs (TT K) H21 := tabs_gb (tabs_gb T1 g2) g221
  have B21 := g221.b1
  have hsa21 := g221.tu.sq hsa
  refine ⟨_, rfl, by decide, by decide, fun D2 hD2 => ?_⟩
  have nD2 : D2 ≠ b := B21.nb hD2
  refine lc_it (walk_range (lo := 0) (n := 3)) (fun i H => Gb b a cs H21 H ∧ ∃ acc, H D2 = some (.lst acc) ∧ acc.length ≤ i ∧ ∀ v ∈ acc, PgV K H t v) ⟨same_gb B21 (same_new hD2), [], upd_same, Nat.le_refl _, fun v hv => by cases hv⟩ (fun _ _ _ _ => trivial) ?_ ?_
  · rintro i x _ H22 hi ⟨g22, acc, e22, al, hacc⟩ ⟨rfl, rfl⟩
    refine ⟨rfl, _, rfl, _, rfl, _, rfl, sz3, fun q23 hq23 => ?_⟩
    have g23 := g22.new (o := .lst [.int 5, .int 9, .int 16]) hq23
    have e23 := same_new (o := .lst [.int 5, .int 9, .int 16]) hq23 _ _ e22
    refine ⟨b, a, q23, cs, _, rfl, g23.b1, .inl ⟨.of upd_same, g22.nb (g22.back hq23)⟩, (show 0 < 3 by decide), (show 3 ≤ 1000 by decide), fun j v H24 hv g24 => ?_⟩
    have hv' : ∃ n : Nat, 1 ≤ n ∧ n ≤ 16 ∧ v = .int (n : Int) := by
      match j, hv with
      | 0, hv => cases hv; exact ⟨5, by omega, by omega, rfl⟩
      | 1, hv => cases hv; exact ⟨9, by omega, by omega, rfl⟩
      | 2, hv => cases hv; exact ⟨16, by omega, by omega, rfl⟩
      | i + 3, hv => simp at hv
    obtain ⟨n, n1, n16, rfl⟩ := hv'
    have g2124 := g23.trans g24
    refine ⟨b, a, cs, .ref ta, t, n, rfl, n1, n16, g24.b1, rt21.mono g2124.tu, tok, fun pv H25 g25 hpv => ?_⟩
    have e25 := g25.at nD2 (g24.at nD2 e23)
    have t2225 : Tu H22 H25 := (tu_new hq23).trans (g24.tu.trans g25.tu)
    have t26 : Tu H25 (upd H25 D2 (.lst (acc ++ [pv]))) := tu_upd e25 rfl
    refine ⟨acc, e25, sz_lt (by omega), (g2124.trans g25).mut hD2, acc ++ [pv], upd_same, by simp; omega, fun v hv => ?_⟩
    rcases List.mem_append.mp hv with hv | hv
    · exact ((hacc v hv).mono t2225).mono t26
    · rw [List.mem_singleton.mp hv]; exact hpv.mono t26
  rintro H22 ⟨g22, acc, e22, al, hacc⟩
  have rt22 := rt21.mono g22.tu
  have ro22 := ro21.mono g22.tu
  have rw22 := rw21.mono g22.tu
  have T22 := tabs_gb T21 g22
  have B22 := g22.b1
  have hsa22 := g22.tu.sq hsa21
  have ho22 := g22.tu.sq ho21
  clear rt21 ro21 rw21 T21 ho21 B21 hsa21 hD2 nD2 g22
  refine ⟨fun σ' H' => ∃ c11 c15 c16, σ' = [some (.ref sl), some (.ref b), some (.int (0 + (i : Int))), some (.ref ta), some (.ref q5), some ov, c6, some (.int (like : Int)), some (.ref q11), some (.ref q15), some (.ref D2), c11, some (.int (t.many : Int)), some (.ref sa), some (.ref ea), c15, c16, c17, c18, c19] ∧ Same H22 H', ?_, ?_⟩
  · refine ⟨_, rfl, D2, rfl, ⟨_, .of e22⟩, fun D3 hD3 => ?_⟩
    refine lc_same (K := K) (walk_list (K := K) (a := D2) (xs := acc)) hD3 (fun i ds => ∃ qs : List Pg, ds = qs.map Pg.d ∧ ∀ q ∈ qs, q.ok t.signs ∧ q.size ≤ 300 ∧ q.height < 40) (by omega) (fun H6 s6 => .of (s6 _ _ e22)) ⟨[], rfl, fun q hq => by cases hq⟩ ?_ ?_
    · rintro j x _ H23 ds hj s23 ⟨rfl, hx⟩ ⟨qs, rfl, hqs⟩ Qe Qn he hn
      rcases (hacc x (List.mem_of_getElem? hx)).mono (tu_same s23) with rfl | ⟨p, rp, pok, psz, pht⟩
      · refine ⟨rfl, _, rfl, rfl, _, rfl, ite2 (fun z => by simp at z) (fun _ => hn _ (Same.refl _) ⟨qs, rfl, hqs⟩)⟩
      · obtain ⟨xa, xw, rfl, _, _⟩ := pg_inv rp
        refine ⟨rfl, _, rfl, rfl, _, rfl, ite2 (fun _ => ?_) (fun z => absurd (by simp) z)⟩
        refine ⟨_, rfl, he _ p.d _ (Same.refl _) rp ⟨qs ++ [p], by simp, fun q hq => ?_⟩⟩
        rcases List.mem_append.mp hq with hq | hq
        · exact hqs q hq
        · rw [List.mem_singleton.mp hq]; exact ⟨pok, psz, pht⟩
    intro H23 w23 ds s23 e23 r23 ⟨qs, hds, hqs⟩ dsl
    subst hds
    have wl : w23.length = qs.length := by rw [r23.length, List.length_map]
    refine ⟨D3, rfl, ⟨_, .of e23⟩, ?_⟩
    refine for_list (K := K) (a := D3) (xs := w23) (fun j σ' H' => ∃ c11 c15 c16, σ' = [some (.ref sl), some (.ref b), some (.int (0 + (i : Int))), some (.ref ta), some (.ref q5), some ov, c6, some (.int (like : Int)), some (.ref q11), some (.ref q15), some (.ref D2), c11, some (.int (t.many : Int)), some (.ref sa), some (.ref ea), c15, c16, c17, c18, c19] ∧ Same H23 H') ⟨_, _, _, rfl, Same.refl _⟩ (fun j σ' H' _ ⟨_, _, _, _, e⟩ => .of (e _ _ e23)) ?_ ?_
    rotate_left
    · rintro σ' H' ⟨c11, c15, c16, rfl, s'⟩
      exact ⟨c11, c15, c16, rfl, s23.trans s'⟩
    rintro j x σ' H24 hx ⟨c11', c15', c16', rfl, s24⟩
    obtain ⟨d2, hd2, rd⟩ := (r23.mono (tu_same s24)).get' hx
    rw [List.getElem?_map] at hd2
    cases hp : qs[j]? with
    | none => rw [hp] at hd2; cases hd2
    | some p =>
      rw [hp] at hd2
      cases hd2
      obtain ⟨pok, psz, pht⟩ := hqs p (List.mem_of_getElem? hp)
      have s224 := s23.trans s24
      refine ⟨_, rfl, _, rfl, .ref ta, x, t, p, rfl, rt22.mono (tu_same s224), tok, rd, pok, by omega, by omega, fun ow H25 s25 r25 => ?_⟩
      obtain ⟨oa, rfl, hoa⟩ := nats_inv r25
      have s225 := s224.trans s25
      have rd25 := rd.mono (tu_same s25)
      refine ⟨_, rfl, _, rfl, _, rfl, sz3, fun q26 hq26 => ⟨q26, rfl, ⟨_, .of upd_same⟩, fun D4 hD4 => ?_⟩⟩
      have s26 := same_new (o := .tup [.ref ta, ov, .ref q15]) hq26
      have e26 : (upd H25 q26 (.tup [.ref ta, ov, .ref q15])) q26 = some (.tup [.ref ta, ov, .ref q15]) := upd_same
      have s226 := s225.trans s26
      have rd26 := rd25.mono (tu_same s26)
      generalize upd H25 q26 (.tup [.ref ta, ov, .ref q15]) = H26 at s26 e26 s226 rd26 hD4
      refine lc_map (K := K) (walk_tup (K := K) (a := q26) (xs := [.ref ta, ov, .ref q15])) hD4 ([cntL t p, cntL ⟨t.many, t.signs, fs⟩ p, cntL ⟨t.many + 1, t.signs, fw⟩ p].map natD) rfl (by simp) (fun H6 s6 => .of (s6 _ _ e26)) ?_ ?_
      · rintro jj y _ H27 dd hdd s27 ⟨rfl, hy⟩ Qe he
        have s227 := s226.trans s27
        have rd27 := rd26.mono (tu_same s27)
        have key : ∃ tb : Tb, Rp K H27 y tb.d ∧ tb.ok ∧ tb.signs = t.signs ∧ dd = natD (cntL tb p) := by
          match jj, hy, hdd with
          | 0, hy, hdd => cases hy; cases hdd; exact ⟨t, rt22.mono (tu_same s227), tok, rfl, rfl⟩
          | 1, hy, hdd => cases hy; cases hdd; exact ⟨⟨t.many, t.signs, fs⟩, ro22.mono (tu_same s227), ook, rfl, rfl⟩
          | 2, hy, hdd => cases hy; cases hdd; exact ⟨⟨t.many + 1, t.signs, fw⟩, rw22.mono (tu_same s227), wok, rfl, rfl⟩
          | jj + 3, hy, _ => simp at hy
        obtain ⟨tb, rtb, tbok, tbs, rfl⟩ := key
        refine ⟨rfl, _, rfl, _, rfl, fun d8 hd8 => ?_⟩
        have s28 := same_new (o := .dK []) hd8
        exact ⟨d8, y, x, tb, p, rfl, upd_same, rtb.mono (tu_same s28), tbok, rd27.mono (tu_same s28), by rw [tbs]; exact pok, by omega, by omega, fun v9 H29 s29 r29 => he v9 H29 (s28.trans s29) r29⟩
      intro H27 w27 s27 e27 r27
      have s227 := s226.trans s27
      have ordl : order.length = t.many := by rw [pm.length_eq, List.length_range]
      have hoa27 := (tu_same (s26.trans s27)).sq hoa
      refine ⟨_, rfl, _, rfl, _, rfl, q5, rfl, ⟨_, (tu_same s227).sq ho22⟩, fun D5 hD5 => ?_⟩
      refine lc_map (K := K) (walk_tup (K := K) (a := q5) (xs := order.map fun (k : Nat) => V.int (k : Int))) hD5 ((cntL ⟨t.many, t.signs, fs⟩ p).map fun (n : Nat) => D.int (n : Int)) (by rw [List.length_map, List.length_map, cntL_length, ordl]) (by rw [List.length_map]; omega) (fun H6 s6 => (tu_same (s227.trans s6)).sq ho22) ?_ ?_
      · rintro jj y _ H28 dd hdd s28 ⟨rfl, hy⟩ Qe he
        have hjj : jj < t.many := by
          have q := (List.getElem?_eq_some_iff.mp hy).1
          rwa [List.length_map, ordl] at q
        obtain ⟨kk, hk1, hk2, hk3⟩ := order_at ord pm hjj
        rw [List.getElem?_map, hk1] at hy
        cases hy
        rw [List.getElem?_map, cntL_get ⟨t.many, t.signs, fs⟩ p hjj] at hdd
        cases hdd
        refine ⟨rfl, _, rfl, _, rfl, oa, _, _, _, rfl, rfl, (tu_same s28).sq hoa27, atI_nat (by rw [List.getElem?_map, cntL_get t p hk2]; rfl), ?_⟩
        refine he _ _ (Same.refl _) ?_
        have e : cnt fs p jj = cnt t.ents p kk := by rw [← hcv p kk hk2, hk3]
        show Rp K H28 _ (.int (cnt fs p jj : Nat))
        rw [e]
        exact .int _
      intro H28 w28 s28 e28 r28
      refine .inl ⟨D5, w28, rfl, .of e28, fun q29 hq29 => ?_⟩
      have s29 := same_new (o := .tup w28) hq29
      have r29 : Rp K (upd H28 q29 (.tup w28)) (.ref q29) (natD (cntL ⟨t.many, t.signs, fs⟩ p)) := .tup (.of upd_same) (r28.mono (tu_same s29))
      have hoa29 := (tu_same (s28.trans s29)).sq hoa27
      refine ⟨_, rfl, _, rfl, _, rfl, oa, _, _, _, rfl, rfl, hoa29, atI_nat (by rw [List.getElem?_map, cntL_get t p hlike]; rfl), sz1, fun q30 hq30 => ?_⟩
      have s30 := same_new (o := .tup [V.int (cnt t.ents p like : Nat)]) hq30
      refine rCatA_of ((tu_same s30).sq hoa29) (.of upd_same) (sz_ok (by simp only [List.length_map, cntL_length, List.length_singleton]; omega)) fun q31 H31 s31 e31 => ⟨sz3, fun l32 hl32 => ?_⟩
      have s32 := same_new (o := .lst [V.ref oa, .ref q29, .ref q31]) hl32
      have ew : cntL ⟨t.many + 1, t.signs, fw⟩ p = cntL t p ++ [cnt t.ents p like] := by
        unfold cntL
        show (List.range (t.many + 1)).map (cnt fw p) = _
        rw [List.range_succ, List.map_append, List.map_congr_left fun k hk => (wid p).1 k (List.mem_range.mp hk)]
        show _ ++ [cnt fw p t.many] = _
        rw [(wid p).2]
      have s2932 := s30.trans (s31.trans s32)
      have bnd : ∀ es : List En, es.length ≤ 31 → ∀ k, cnt es p k < 2 ^ 1500 := fun es he k => Nat.lt_of_lt_of_le (cnt_lt he p k) (Nat.pow_le_pow_right (by decide) (by omega))
      have bndL : ∀ tb : Tb, tb.ok → tb.many ≤ 4 → (cntL tb p).length ≤ 5 ∧ ∀ n ∈ cntL tb p, n < 2 ^ 1500 := fun tb tbok h => ⟨by rw [cntL_length]; omega, fun n hn => by
        obtain ⟨k, _, rfl⟩ := List.mem_map.mp hn
        exact bnd tb.ents tbok.e31 k⟩
      have s27e := s28.trans (s29.trans s2932)
      refine ⟨D4, l32, w27, _, [cntL t p, cntL ⟨t.many, t.signs, fs⟩ p, cntL ⟨t.many + 1, t.signs, fw⟩ p], rfl, s27e _ _ e27, upd_same, r27.mono (tu_same s27e), ?_, by simp, fun l hl => ?_, ?_⟩
      · refine .cons (nats_of ((tu_same s2932).sq hoa29)) (.cons (r29.mono (tu_same s2932)) (.one ?_))
        rw [ew]
        refine nats_of ((tu_same s32).sq ?_)
        rw [List.map_append]
        exact e31
      · simp only [List.mem_cons, List.not_mem_nil, or_false] at hl
        rcases hl with rfl | rfl | rfl
        · exact bndL t tok (by omega)
        · exact bndL _ ook (by show t.many ≤ 4; omega)
        · exact bndL _ wok (by show t.many + 1 ≤ 4; omega)
      · refine ⟨_, rfl, ite2 (fun z => by cases z) (fun _ => ?_)⟩
        exact ⟨some x, some (.ref oa), some (.ref D4), rfl, s24.trans (s25.trans (s26.trans (s27.trans s27e)))⟩
  rintro σ' H23 ⟨c11, c15, c16, rfl, s23⟩
  have rt23 := rt22.mono (tu_same s23)
  refine ⟨_, rfl, _, rfl, b, a, cs, .ref ta, t, rfl, B22.same s23, tabs_gb T22 (same_gb B22 s23), rt23, tg, m3, fun H24 x24 => ?_⟩
  refine ⟨_, rfl, ite2 (fun z => by cases z) (fun _ => ?_)⟩
  refine ⟨_, rfl, _, rfl, b, a, cs, .ref ta, t, rfl, x24.b1, x24.tb, rt23.mono x24.tu, tg, m3, fun H25 x25 => ?_⟩
  refine ⟨_, rfl, ite2 (fun z => by cases z) (fun _ => ?_)⟩
  exact ⟨_, _, _, _, _, _, _, _, _, _, _, _, _, _, _, _, _, _, rfl, x25.b1, x25.tb⟩
end
end K56
set_option Elab.async false
set_option linter.all false
set_option maxRecDepth 100000
set_option maxHeartbeats 4000000
namespace K56
open PySem PySem.Spec PyProof.Rows L2 LamX
/-! ### the law's call, where no repr is under way -/
abbrev tabO : Obj := { cls := .none, data := .fields #[] }
abbrev scrO (vs : List Value) : Obj := { cls := .type "list", data := .seq vs.toArray }
/-- what is tracked at the beginning: the table, and the script unless the head's part has it -/
def hp0 (K : PySem.W.Frag) (T a : Addr) (vs : List Value) (ns : List Int) : Hp := fun b =>
  if b = T then some (.tbl #[]) else if b = a ∧ (K.lookup a).isNone = true then some (.frz (scrO vs) (.lst (ns.map V.int))) else none
theorem hp0_at (K : PySem.W.Frag) (T a : Addr) (vs : List Value) (ns : List Int) (b : Addr) :
    (b = T ∧ hp0 K T a vs ns b = some (.tbl #[])) ∨ (b = a ∧ K.lookup a = none ∧ hp0 K T a vs ns b = some (.frz (scrO vs) (.lst (ns.map V.int)))) ∨ hp0 K T a vs ns b = none := by
  unfold hp0
  by_cases c1 : b = T
  · exact .inl ⟨c1, if_pos c1⟩
  · by_cases c2 : b = a ∧ (K.lookup a).isNone = true
    · exact .inr (.inl ⟨c2.1, Option.isNone_iff_eq_none.mp c2.2, (if_neg c1).trans (if_pos c2)⟩)
    · exact .inr (.inr ((if_neg c1).trans (if_neg c2)))
section
variable {P : Program} {w : World} {K : PySem.W.Frag} {mg mb : Str → Option Value} {k : Nat} {fa a G T : Addr} {x : Str} {sp : Sp} {s1 : Shared} {vs : List Value} {ns : List Int}
theorem hp0_free (eT : s1.heap.get? T = some tabO) (ea : s1.heap.get? a = some (scrO vs)) {b : Addr} {o : Obj} (e : s1.heap.get? b = some o) (n1 : o ≠ tabO) (n2 : o ≠ scrO vs) : hp0 K T a vs ns b = none := by
  rcases hp0_at K T a vs ns b with ⟨rfl, _⟩ | ⟨rfl, _, _⟩ | z
  · exact absurd (Option.some.inj (e.symm.trans eT)) n1
  · exact absurd (Option.some.inj (e.symm.trans ea)) n2
  · exact z
theorem hp0_ns (eT : s1.heap.get? T = some tabO) (ea : s1.heap.get? a = some (scrO vs)) {b : Addr} {m : Str → Option Value} (h : s1.heap.Ns b m) : (hidT s1.heap (hp0 K T a vs ns)).Ns b m := by
  obtain ⟨o, es, ep, q1, q2, q3⟩ := h
  exact ⟨o, es, ep, hidT_get q1 (hp0_free eT ea q1 (fun z => by rw [z] at q2; cases q2) fun z => by rw [z] at q2; cases q2), q2, q3⟩
theorem hp0_ok (eT : s1.heap.get? T = some tabO) (ea : s1.heap.get? a = some (scrO vs)) (iv : IntsAre vs ns) (few : ns.length ≤ sizeLine) : HOk P w (hp0 K T a vs ns) s1.heap := fun b u hb => by
  rcases hp0_at K T a vs ns b with ⟨rfl, z⟩ | ⟨rfl, _, z⟩ | z
  · cases z.symm.trans hb
    exact eT
  · cases z.symm.trans hb
    exact ⟨ea, (List.length_map ..).symm ▸ few, vs, _, vals_ints iv, ea⟩
  · cases z.symm.trans hb
theorem hp0_list (nT : T ≠ a) (kin : K.In s1.heap) (ea : s1.heap.get? a = some (scrO vs)) (iv : IntsAre vs ns) (few : ns.length ≤ sizeLine) : SqL K (hp0 K T a vs ns) a (ns.map V.int) := by
  cases q : K.lookup a with
  | none =>
    rcases hp0_at K T a vs ns a with ⟨z, _⟩ | ⟨_, _, z⟩ | z
    · exact absurd z.symm nT
    · exact .inl (.inr ⟨_, z⟩)
    · have z2 : hp0 K T a vs ns a = some (.frz (scrO vs) (.lst (ns.map V.int))) := (if_neg nT.symm).trans (if_pos ⟨rfl, by rw [q]; rfl⟩)
      cases z.symm.trans z2
  | some o =>
    cases (kin a o q).symm.trans ea
    exact .inr ⟨_, vs.toArray, _, q, rfl, rfl, rfl, by rw [List.size_toArray, iv.length]; exact few, by simpa using vals_ints iv⟩
theorem law_callG (kin : K.In s1.heap) (glo : s1.heap.Ns mainGlobals mg) (bl : s1.heap.Ns builtinsNs mb) (blb : ∀ y : Str, y ≠ "__name__" → mb y = bootBuiltins y) (nol : s1.heap.NoLimit) (gen0 : s1.gens = #[])
    (eT : s1.heap.get? T = some tabO) (nK : K.lookup T = none) (hd : PySem.W.codeHdIn K G T = true)
    (bmod : ∃ (m : Addr) (ob : Obj), mg "__builtins__" = some (.ref m) ∧ m ≠ builtinsNs ∧ s1.heap.get? m = some ob ∧ ob.cls = .type "module" ∧ ob.dict = some builtinsNs ∧ ob.data = .plain)
    (ea : s1.heap.get? a = some (scrO vs)) (iv : IntsAre vs ns) (few : ns.length ≤ sizeLine) (room : Room k callerA)
    (F : ∀ base : Heap, K.In base → base.Ns mainGlobals mg → TabB base mg G T → ∃ fd : FuncData, FnG P w K mg base k fa fd [x] sp)
    (hsp : ∀ H : Hp, H T = some (.tbl #[]) → SqL K H a (ns.map V.int) → sp [.ref a] H (fun v _ => v = .bl true) fun _ _ _ => False) :
    codeAny (model P w) callerA (.call (.ref fa) ⟨[.ref a], []⟩) (fun r t => r = .ok (.ret (.bool true)) ∧ OldK s1.heap t.heap ∧ t.os = s1.os ∧ AllBare t.gens) s1 := by
  have nT : T ≠ a := fun z => by rw [z, ea] at eT; cases congrArg (fun o => o.map (·.data)) eT
  have at0 := hp0_at K T a vs ns
  have hK : K.In (hidT s1.heap (hp0 K T a vs ns)) := fun b o e => hidT_get (kin b o e) (by
    rcases at0 b with ⟨rfl, _⟩ | ⟨rfl, n, _⟩ | z
    · rw [nK] at e; cases e
    · rw [n] at e; cases e
    · exact z)
  have gT : mainGlobals ≠ T := fun z => by
    obtain ⟨o, es, ep, q1, q2, _⟩ := glo
    rw [z, eT] at q1
    cases q1
    cases q2
  have TB : TabB (hidT s1.heap (hp0 K T a vs ns)) mg G T := by
    refine ⟨PySem.W.codeHd_of_K hK hd, ?_, gT⟩
    obtain ⟨m, ob, q1, q2, q3, q4, q5, q6⟩ := bmod
    have f := hp0_free (K := K) (ns := ns) eT ea q3 (fun z => by rw [z] at q6; cases q6) fun z => by rw [z] at q6; cases q6
    refine ⟨m, ob, q1, q2, fun z => ?_, fun z => ?_, hidT_get q3 f, q4, q5, q6⟩
    · obtain ⟨o, es, ep, p1, p2, _⟩ := glo
      rw [← z, q3] at p1
      cases p1
      rw [q6] at p2
      cases p2
    · rw [z, eT] at q3
      cases q3
      cases q6
  obtain ⟨mc, l1, l2⟩ := nol
  have M : L2.Mod K mg (hidT s1.heap (hp0 K T a vs ns)) := ⟨hK, hp0_ns eT ea glo, ⟨mb, hp0_ns eT ea bl, blb⟩, mc, hp0_ns eT ea l1, l2⟩
  have ok0 : HOk P w (hp0 K T a vs ns) s1.heap := hp0_ok eT ea iv few
  have env : Env0 P w K mg (hidT s1.heap (hp0 K T a vs ns)) callerA [] s1 (hp0 K T a vs ns) := by
    refine ⟨rfl, M, fun b o e => of_hidT e, by rw [hidT_size]; exact Nat.le_refl _, trivial, fun b hb => ?_, ok0, .of_eq gen0⟩
    cases (show b ∈ ([] : List Addr) from hb)
  have hTt : hp0 K T a vs ns T = some (.tbl #[]) := if_pos rfl
  obtain ⟨fd, Fg⟩ := F _ hK (hp0_ns eT ea glo) TB
  have call := Fg.run callerA [] s1 (hp0 K T a vs ns) [.ref a] [.ref a] (fun v _ => v = .bl true) (fun _ _ _ => False) room rfl env (.cons rfl .nil) (hsp _ hTt (hp0_list nT kin ea iv few))
  refine codeAny_mono call fun r t res => ?_
  match r, res with
  | .error _, res => exact (show False from res).elim
  | .ok .next, res => exact (show False from res).elim
  | .ok .brk, res => exact (show False from res).elim
  | .ok .cont, res => exact (show False from res).elim
  | .ok (.ret u), ⟨v, Hz, o1, o2, un, okz, ru, hv⟩ =>
    have hv' : v = .bl true := hv
    subst hv'
    have hu : u = Value.bool true := ru
    subst hu
    have stay : ∀ b o, b ≠ T → s1.heap.get? b = some o → t.heap.get? b = some o := fun b o nb e => by
      rcases at0 b with ⟨z, _⟩ | ⟨rfl, _, z⟩ | z
      · exact absurd z nb
      · cases e.symm.trans ea
        exact (okz _ _ (un.frzs _ _ _ z)).1
      · exact un.keep b o e z (fun z => by cases (show b ∈ ([] : List Addr) from z)) (fun z => by cases z)
    obtain ⟨more, hmore⟩ := un.tbls T #[] hTt
    have tz : t.heap.get? T = some { cls := .none, data := .fields (#[] ++ more) } := okz T _ hmore
    refine ⟨rfl, ⟨fun b o e => ?_, fun b o e => ?_⟩, o1, o2⟩
    · by_cases c : b = T
      · subst c
        cases e.symm.trans eT
        exact .inr (.inl ⟨((PySem.W.codeHd_of_K kin hd).tab eT).isCodeTable, rfl, #[], more, rfl, tz⟩)
      · exact .inl (stay b o c e)
    · by_cases c : b = T
      · exact ⟨_, c ▸ tz⟩
      · exact ⟨o, stay b o c e⟩
end
end K56
namespace K56
open PySem PySem.Spec PyProof.Rows L2 LamX
theorem tabs0 {K : PySem.W.Frag} {H : Hp} (h : H (He.cT K pS).2 = some (.tbl #[])) : Tabs (TT K) H := fun p hp => by
  rw [List.mem_singleton.mp hp]
  exact ⟨#[], h, (show TriplesOk [] from trivial), fun pos cv z => by cases z⟩
end K56
open PySem PySem.W PySem.Calls PyProof.Rows
set_option maxHeartbeats 8000000 in
theorem PySem.Challenge.cw_pinsenough_k56_whole_tables_beside_one_a_holds : PySem.Challenge.rw_pinsenough_k56_whole_tables_beside_one_a.Holds := by
  w_on; o_law
  refine HandSHeadRun.head_any (r := K56.R) (q := view K56.R.prog [63]) (H := K56.hk) (ob := K56.ob) (M := 5000) (loose := K56.loose) (d := HandSHeadRun.topDef K56.R.prog 63) (kwd := []) K56.ob_eq
    (by kernel_rfl) (fun s => by kernel_rfl) K56.run (by kernel_rfl) (by kernel_rfl) (by kernel_rfl) (by rfl) (by first | assumption | decide +kernel) (by decide +kernel) ⟨rfl, rfl, rfl, rfl, rfl, by decide +kernel⟩ ?hw ?hc
  case hw => w_witness2
  case hc =>
    refine Att.attach_call (n := 63) rfl (by kernel_rfl) fun w s₀ s₁ mg mb f o pm cd doc a vs ns G Y ho hd hcd hmg0 hobj hints hlen hg => ?_
    obtain ⟨K, KX, c⟩ := Y
    have A := K56.Hd.of KX G.T.g c.t.d c.more
    have hm : mg ("law" : PySem.Str) = some (.ref f) := by
      have e : (HandSHeadRun.topDef K56.R.prog 63).name = ("law" : PySem.Str) := by kernel_rfl
      rw [← e]
      exact hmg0
    have ps : K56.pS ∈ [K56.pS] := List.mem_singleton.mpr rfl
    refine K56.law_callG (k := 62) (x := "_law_script") (sp := K56.spLaw K) KX G.T.g G.T.b G.T.builtins G.T.nolimit hg (c.empty _ ps) (c.out _ ps) (c.hd _ ps) G.T.bmain hobj hints (Nat.le_trans hlen (by decide)) ⟨rfl, by decide, by decide⟩ (fun base hK hns TB => ?_) (fun H hT hS => ⟨a, ns, rfl, hS, by omega, K56.tabs0 hT, fun _ => rfl⟩)
    obtain ⟨f', fd, e, Fg, _⟩ := (K56.ok_law (P := K56.R.prog) (w := w) (base := base) A TB).ex
    cases e.symm.trans hm
    exact ⟨fd, Fg⟩
