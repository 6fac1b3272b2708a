import PyProof.Rows.All
import Wide.All
import OpenK.AllK
import Wide.FinOn
import KE.KDictSum
import KE.KDictOf
import KE.KStateDown
import HandS.Head0
import HandS.Head1
import KE.GoesZip
import KE.KeyNested
import HandS.Defaults
import HandS.Exc
import HandS.Head2
import KE.GoesMore
import KE.KDictZip
import HandS.Deep
import HandS.HeadEnd
import HandS.HeadHook1
import HandS.IsInst
import HandS.TupLe
import HandS.TupLen
import KE.DataMinMax
import KE.GoesEnum
import KE.KDictKeyed
import HandS.Codes
import HandS.Conv
import HandS.DictComp
import HandS.HeadHook2
import HandS.Walk
import HandS.Zip
import KE.KDictDisplayH
import HandS.ForMost
import HandS.HeadHook3
import HandS.TupSets
import HandS.HeadHook4
import KE.SortData
import PySem.Challenge.RW_lookdown_k19_whole_extras_and_undercut_w
set_option Elab.async false
set_option linter.all false
set_option maxRecDepth 100000
set_option maxHeartbeats 0
namespace K19
open PySem PySem.Spec PyProof.Rows L2
/-! the text by places -/
def top (i : Nat) : Stmt := PySem.Challenge.pw_lookdown_k19_whole_extras_and_undercut_w.main.body.getD i (.Pass ⟨0, 0, 0, 0⟩)
abbrev s_is_integer : Stmt := top 7
abbrev s_is_within : Stmt := top 8
abbrev s_is_tuple_of : Stmt := top 9
abbrev s_are_within : Stmt := top 10
abbrev s_is_rule : Stmt := top 18
abbrev s_is_move : Stmt := top 19
abbrev s_is_long : Stmt := top 20
abbrev s_check_rules : Stmt := top 21
abbrev s_check_moves : Stmt := top 22
abbrev s_price_of : Stmt := top 25
abbrev s_is_value : Stmt := top 30
abbrev s_is_of : Stmt := top 32
abbrev s_fits : Stmt := top 33
abbrev s_check_web : Stmt := top 34
abbrev s_ways_of_op : Stmt := top 36
abbrev s_raw_ways : Stmt := top 37
abbrev s_needs_in_order : Stmt := top 38
abbrev s_raw_needs : Stmt := top 39
abbrev s_is_giving : Stmt := top 40
abbrev s_usable_ways : Stmt := top 41
abbrev s_is_usable : Stmt := top 42
abbrev s_is_pair : Stmt := top 44
abbrev s_source_of : Stmt := top 46
abbrev s_comes_back : Stmt := top 47
abbrev s_is_choice_of : Stmt := top 48
abbrev s_is_choice : Stmt := top 49
abbrev s_check_choice : Stmt := top 50
abbrev s_raw_cost : Stmt := top 51
abbrev s_all_needed : Stmt := top 53
abbrev s_beyond : Stmt := top 54
abbrev s_raw_extras : Stmt := top 55
abbrev s_extras : Stmt := top 56
abbrev s_raw_undercut : Stmt := top 57
abbrev s_undercut : Stmt := top 58
abbrev s_is_best : Stmt := top 59
abbrev s_total : Stmt := top 61
abbrev s_better : Stmt := top 62
abbrev s_raw_alone : Stmt := top 63
abbrev s_own : Stmt := top 64
abbrev s_law_bag : Stmt := top 66
abbrev s_law_pick : Stmt := top 67
abbrev s_law_some : Stmt := top 68
abbrev s_law_book : Stmt := top 69
abbrev s_law_values : Stmt := top 70
abbrev s_law_price : Stmt := top 71
abbrev s_law_needs : Stmt := top 72
abbrev s_law_usable : Stmt := top 73
abbrev s_law_needed : Stmt := top 74
abbrev s_law_cost : Stmt := top 75
abbrev s_law_drawn_choice : Stmt := top 76
abbrev s_law_extras : Stmt := top 77
abbrev s_law_nested : Stmt := top 78
abbrev s_law_is_right : Stmt := top 79
abbrev s_law : Stmt := top 80
abbrev s_Book_init : Stmt := inClass (top 24) 0
abbrev s_Web_init : Stmt := inClass (top 31) 0
end K19
set_option maxHeartbeats 0
namespace K19
open PySem PySem.Spec PyProof.Rows L2
def d_is_integer : He.DefD := ⟨("is_integer", none), "is_integer", "is_integer", defArgs s_is_integer, defBody s_is_integer, defScope s_is_integer, [], []⟩
def d_is_within : He.DefD := ⟨("is_within", none), "is_within", "is_within", defArgs s_is_within, defBody s_is_within, defScope s_is_within, [], []⟩
def d_is_tuple_of : He.DefD := ⟨("is_tuple_of", none), "is_tuple_of", "is_tuple_of", defArgs s_is_tuple_of, defBody s_is_tuple_of, defScope s_is_tuple_of, [], []⟩
def d_are_within : He.DefD := ⟨("are_within", none), "are_within", "are_within", defArgs s_are_within, defBody s_are_within, defScope s_are_within, [], []⟩
def d_is_rule : He.DefD := ⟨("is_rule", none), "is_rule", "is_rule", defArgs s_is_rule, defBody s_is_rule, defScope s_is_rule, [], []⟩
def d_is_move : He.DefD := ⟨("is_move", none), "is_move", "is_move", defArgs s_is_move, defBody s_is_move, defScope s_is_move, [], []⟩
def d_is_long : He.DefD := ⟨("is_long", none), "is_long", "is_long", defArgs s_is_long, defBody s_is_long, defScope s_is_long, [], []⟩
def d_check_rules : He.DefD := ⟨("check_rules", none), "check_rules", "check_rules", defArgs s_check_rules, defBody s_check_rules, defScope s_check_rules, [], []⟩
def d_check_moves : He.DefD := ⟨("check_moves", none), "check_moves", "check_moves", defArgs s_check_moves, defBody s_check_moves, defScope s_check_moves, [], []⟩
def d_price_of : He.DefD := ⟨("price_of", none), "price_of", "price_of", defArgs s_price_of, defBody s_price_of, defScope s_price_of, [], []⟩
def d_is_value : He.DefD := ⟨("is_value", none), "is_value", "is_value", defArgs s_is_value, defBody s_is_value, defScope s_is_value, [], []⟩
def d_is_of : He.DefD := ⟨("is_of", none), "is_of", "is_of", defArgs s_is_of, defBody s_is_of, defScope s_is_of, [], []⟩
def d_fits : He.DefD := ⟨("fits", none), "fits", "fits", defArgs s_fits, defBody s_fits, defScope s_fits, [], []⟩
def d_check_web : He.DefD := ⟨("check_web", none), "check_web", "check_web", defArgs s_check_web, defBody s_check_web, defScope s_check_web, [], []⟩
def d_ways_of_op : He.DefD := ⟨("ways_of_op", none), "ways_of_op", "ways_of_op", defArgs s_ways_of_op, defBody s_ways_of_op, defScope s_ways_of_op, [], []⟩
def d_raw_ways : He.DefD := ⟨("raw_ways", none), "raw_ways", "raw_ways", defArgs s_raw_ways, defBody s_raw_ways, defScope s_raw_ways, [], []⟩
def d_needs_in_order : He.DefD := ⟨("needs_in_order", none), "needs_in_order", "needs_in_order", defArgs s_needs_in_order, defBody s_needs_in_order, defScope s_needs_in_order, [], []⟩
def d_raw_needs : He.DefD := ⟨("raw_needs", none), "raw_needs", "raw_needs", defArgs s_raw_needs, defBody s_raw_needs, defScope s_raw_needs, [], []⟩
def d_is_giving : He.DefD := ⟨("is_giving", none), "is_giving", "is_giving", defArgs s_is_giving, defBody s_is_giving, defScope s_is_giving, [], []⟩
def d_usable_ways : He.DefD := ⟨("usable_ways", none), "usable_ways", "usable_ways", defArgs s_usable_ways, defBody s_usable_ways, defScope s_usable_ways, [], []⟩
def d_is_usable : He.DefD := ⟨("is_usable", none), "is_usable", "is_usable", defArgs s_is_usable, defBody s_is_usable, defScope s_is_usable, [], []⟩
def d_is_pair : He.DefD := ⟨("is_pair", none), "is_pair", "is_pair", defArgs s_is_pair, defBody s_is_pair, defScope s_is_pair, [], []⟩
def d_source_of : He.DefD := ⟨("source_of", none), "source_of", "source_of", defArgs s_source_of, defBody s_source_of, defScope s_source_of, [], []⟩
def d_comes_back : He.DefD := ⟨("comes_back", none), "comes_back", "comes_back", defArgs s_comes_back, defBody s_comes_back, defScope s_comes_back, [], []⟩
def d_is_choice_of : He.DefD := ⟨("is_choice_of", none), "is_choice_of", "is_choice_of", defArgs s_is_choice_of, defBody s_is_choice_of, defScope s_is_choice_of, [], []⟩
def d_is_choice : He.DefD := ⟨("is_choice", none), "is_choice", "is_choice", defArgs s_is_choice, defBody s_is_choice, defScope s_is_choice, [], []⟩
def d_check_choice : He.DefD := ⟨("check_choice", none), "check_choice", "check_choice", defArgs s_check_choice, defBody s_check_choice, defScope s_check_choice, [], []⟩
def d_raw_cost : He.DefD := ⟨("raw_cost", none), "raw_cost", "raw_cost", defArgs s_raw_cost, defBody s_raw_cost, defScope s_raw_cost, [], []⟩
def d_all_needed : He.DefD := ⟨("all_needed", none), "all_needed", "all_needed", defArgs s_all_needed, defBody s_all_needed, defScope s_all_needed, [], []⟩
def d_beyond : He.DefD := ⟨("beyond", none), "beyond", "beyond", defArgs s_beyond, defBody s_beyond, defScope s_beyond, [], []⟩
def d_raw_extras : He.DefD := ⟨("raw_extras", none), "raw_extras", "raw_extras", defArgs s_raw_extras, defBody s_raw_extras, defScope s_raw_extras, [], []⟩
def d_extras : He.DefD := ⟨("extras", none), "extras", "extras", defArgs s_extras, defBody s_extras, defScope s_extras, [], []⟩
def d_raw_undercut : He.DefD := ⟨("raw_undercut", none), "raw_undercut", "raw_undercut", defArgs s_raw_undercut, defBody s_raw_undercut, defScope s_raw_undercut, [], []⟩
def d_undercut : He.DefD := ⟨("undercut", none), "undercut", "undercut", defArgs s_undercut, defBody s_undercut, defScope s_undercut, [], []⟩
def d_is_best : He.DefD := ⟨("is_best", none), "is_best", "is_best", defArgs s_is_best, defBody s_is_best, defScope s_is_best, [], []⟩
def d_total : He.DefD := ⟨("total", none), "total", "total", defArgs s_total, defBody s_total, defScope s_total, [], []⟩
def d_better : He.DefD := ⟨("better", none), "better", "better", defArgs s_better, defBody s_better, defScope s_better, [], []⟩
def d_raw_alone : He.DefD := ⟨("raw_alone", none), "raw_alone", "raw_alone", defArgs s_raw_alone, defBody s_raw_alone, defScope s_raw_alone, [], []⟩
def d_own : He.DefD := ⟨("own", none), "own", "own", defArgs s_own, defBody s_own, defScope s_own, [], []⟩
def d_law_bag : He.DefD := ⟨("_law_bag", none), "_law_bag", "_law_bag", defArgs s_law_bag, defBody s_law_bag, defScope s_law_bag, [], []⟩
def d_law_pick : He.DefD := ⟨("_law_pick", none), "_law_pick", "_law_pick", defArgs s_law_pick, defBody s_law_pick, defScope s_law_pick, [], []⟩
def d_law_some : He.DefD := ⟨("_law_some", none), "_law_some", "_law_some", defArgs s_law_some, defBody s_law_some, defScope s_law_some, [], []⟩
def d_law_book : He.DefD := ⟨("_law_book", none), "_law_book", "_law_book", defArgs s_law_book, defBody s_law_book, defScope s_law_book, [], []⟩
def d_law_values : He.DefD := ⟨("_law_values", none), "_law_values", "_law_values", defArgs s_law_values, defBody s_law_values, defScope s_law_values, [], []⟩
def d_law_price : He.DefD := ⟨("_law_price", none), "_law_price", "_law_price", defArgs s_law_price, defBody s_law_price, defScope s_law_price, [], []⟩
def d_law_needs : He.DefD := ⟨("_law_needs", none), "_law_needs", "_law_needs", defArgs s_law_needs, defBody s_law_needs, defScope s_law_needs, [], []⟩
def d_law_usable : He.DefD := ⟨("_law_usable", none), "_law_usable", "_law_usable", defArgs s_law_usable, defBody s_law_usable, defScope s_law_usable, [], []⟩
def d_law_needed : He.DefD := ⟨("_law_needed", none), "_law_needed", "_law_needed", defArgs s_law_needed, defBody s_law_needed, defScope s_law_needed, [], []⟩
def d_law_cost : He.DefD := ⟨("_law_cost", none), "_law_cost", "_law_cost", defArgs s_law_cost, defBody s_law_cost, defScope s_law_cost, [], []⟩
def d_law_drawn_choice : He.DefD := ⟨("_law_drawn_choice", none), "_law_drawn_choice", "_law_drawn_choice", defArgs s_law_drawn_choice, defBody s_law_drawn_choice, defScope s_law_drawn_choice, [], []⟩
def d_law_extras : He.DefD := ⟨("_law_extras", none), "_law_extras", "_law_extras", defArgs s_law_extras, defBody s_law_extras, defScope s_law_extras, [], []⟩
def d_law_nested : He.DefD := ⟨("_law_nested", none), "_law_nested", "_law_nested", defArgs s_law_nested, defBody s_law_nested, defScope s_law_nested, [], []⟩
def d_law_is_right : He.DefD := ⟨("_law_is_right", none), "_law_is_right", "_law_is_right", defArgs s_law_is_right, defBody s_law_is_right, defScope s_law_is_right, [], []⟩
def d_law : He.DefD := ⟨("law", none), "law", "law", defArgs s_law, defBody s_law, defScope s_law, [], []⟩
def d_Book_init : He.DefD := ⟨("Book", some "__init__"), "__init__", "Book.__init__", defArgs s_Book_init, defBody s_Book_init, defScope s_Book_init, [], []⟩
def d_Web_init : He.DefD := ⟨("Web", some "__init__"), "__init__", "Web.__init__", defArgs s_Web_init, defBody s_Web_init, defScope s_Web_init, [], []⟩
def fn : List He.DefD := [d_is_integer, d_is_within, d_is_tuple_of, d_are_within, d_is_rule, d_is_move, d_is_long, d_check_rules, d_check_moves, d_price_of, d_is_value, d_is_of, d_fits, d_check_web, d_ways_of_op, d_raw_ways, d_needs_in_order, d_raw_needs, d_is_giving, d_usable_ways, d_is_usable, d_is_pair, d_source_of, d_comes_back, d_is_choice_of, d_is_choice, d_check_choice, d_raw_cost, d_all_needed, d_beyond, d_raw_extras, d_extras, d_raw_undercut, d_undercut, d_is_best, d_total, d_better, d_raw_alone, d_own, d_law_bag, d_law_pick, d_law_some, d_law_book, d_law_values, d_law_price, d_law_needs, d_law_usable, d_law_needed, d_law_cost, d_law_drawn_choice, d_law_extras, d_law_nested, d_law_is_right, d_law, d_Book_init, d_Web_init]
def fa : List He.Fa := [.glo "is_integer", .glo "is_within", .glo "is_tuple_of", .glo "are_within", .glo "is_rule", .glo "is_move", .glo "is_long", .glo "check_rules", .glo "check_moves", .glo "price_of", .glo "is_value", .glo "is_of", .glo "fits", .glo "check_web", .glo "ways_of_op", .glo "raw_ways", .glo "needs_in_order", .glo "raw_needs", .glo "is_giving", .glo "usable_ways", .glo "is_usable", .glo "is_pair", .glo "source_of", .glo "comes_back", .glo "is_choice_of", .glo "is_choice", .glo "check_choice", .glo "raw_cost", .glo "all_needed", .glo "beyond", .glo "raw_extras", .glo "extras", .glo "raw_undercut", .glo "undercut", .glo "is_best", .glo "total", .glo "better", .glo "raw_alone", .glo "own", .glo "_law_bag", .glo "_law_pick", .glo "_law_some", .glo "_law_book", .glo "_law_values", .glo "_law_price", .glo "_law_needs", .glo "_law_usable", .glo "_law_needed", .glo "_law_cost", .glo "_law_drawn_choice", .glo "_law_extras", .glo "_law_nested", .glo "_law_is_right", .glo "law", .free "isinstance", .free "int", .free "bool", .free "tuple", .free "len", .free "all", .free "any", .free "enumerate", .free "range", .free "list", .free "zip", .free "sorted", .free "set", .free "dict", .free "sum", .free "min", .free "abs", .free "str", .int "MOST_OPS" 8, .int "MOST_KINDS" 5, .int "MOST_PARTS_books" 2, .int "MOST_RULES" 40, .int "MOST_MOVES" 20, .int "MOST_PRICE" 1000, .int "MOST_OP" 7, .int "MOST_PARTS_webs" 2, .int "MOST_VALUES" 200, .glo "Book", .cls "Book", .mkr "Book", .noat "Book" "arities", .noat "Book" "kinds", .noat "Book" "rules", .noat "Book" "moves", .glo "Web", .cls "Web", .mkr "Web", .noat "Web" "rows"]
def names0 : List Str := ["LookError", "BadBook", "BadWeb", "NoWeb", "NoChoice", "parts_of", "Book", "Web", "is_integer", "is_within", "is_tuple_of", "are_within", "is_rule", "is_move", "is_long", "check_rules"]
def names1 : List Str := ["check_moves", "price_of", "is_value", "is_of", "fits", "check_web", "ways_of_op", "raw_ways", "needs_in_order", "raw_needs", "is_giving", "usable_ways", "is_usable", "is_pair", "source_of", "comes_back"]
def names2 : List Str := ["is_choice_of", "is_choice", "check_choice", "raw_cost", "all_needed", "beyond", "raw_extras", "extras", "raw_undercut", "undercut", "is_best", "total", "better", "raw_alone", "own", "_law_bag"]
def names3 : List Str := ["_law_pick", "_law_some", "_law_book", "_law_values", "_law_price", "_law_needs", "_law_usable", "_law_needed", "_law_cost", "_law_drawn_choice", "_law_extras", "_law_nested", "_law_is_right", "MOST_OPS", "MOST_KINDS", "MOST_PARTS_books"]
def names4 : List Str := ["MOST_RULES", "MOST_MOVES", "MOST_PRICE", "MOST_OP", "MOST_PARTS_webs", "MOST_VALUES"]
def names : List Str := names0 ++ names1 ++ names2 ++ names3 ++ names4
abbrev R : PySem.W.OpenRow := PySem.W.OpenLaw.row PySem.Challenge.rw_lookdown_k19_whole_extras_and_undercut_w
/-- what isinstance(_, Web) leans on -/
def insB (K : PySem.W.Frag) (C : Addr) : Bool := He.eqO (PySem.W.findIn K (.ref C) "__class__") (some (some (.builtin "object.__class__"))) && (He.eqO (PySem.W.specialIn K (.builtin "object.__class__") "__get__") (some (some (.builtin "getset_descriptor.__get__"))) && (decide (PySem.W.takesIn K (.builtin "object.__class__") = some true) && (decide (PySem.W.mroIn K C (.type "object") = some true) && decide (PySem.W.kitOne K (.ref C) (.ref C) = some true))))
def insX (K : PySem.W.Frag) : Bool := insB K (He.ga K "Web")
abbrev hk : PySem.W.Hook := He.hookX 4 fa fn [] [] insX
def ob (s : PySem.W.SharedT) : He.AlX := He.obsX 4 fa fn [] [] insX (HandSHeadRun.getT s)
theorem ob_eq (s : PySem.W.SharedT) : ob s = hk.obs s.abs := He.obsX_eq (HandSHeadRun.getT_eq s)
theorem run (w : World) : HandSHeadRun.RunEq R (PySem.W.view R.prog [80]) hk ob 4000 names w := by
  intro os
  kernel_rfl
end K19
set_option maxHeartbeats 4000000
namespace K19
open PySem PySem.Spec PyProof.Rows L2
/-! ### immutable data -/
mutual
inductive Nk (H : Hp) : V → NestedKey → Prop
  | non : Nk H .non .none
  | int (i : Int) : Nk H (.int i) (.num i)
  | str (x : Str) : Nk H (.str x) (.text x)
  | tup {a : Addr} {vs : List V} {ks : List NestedKey} : H a = some (.tup vs) → NkA H vs ks → Nk H (.ref a) (.tup ks)
inductive NkA (H : Hp) : List V → List NestedKey → Prop
  | nil : NkA H [] []
  | cons {v : V} {vs : List V} {k : NestedKey} {ks : List NestedKey} : Nk H v k → NkA H vs ks → NkA H (v :: vs) (k :: ks)
end
/-- the tuples stay -/
def KpT (H H' : Hp) : Prop := ∀ b xs, H b = some (.tup xs) → H' b = some (.tup xs)
theorem KpT.refl (H : Hp) : KpT H H := fun _ _ h => h
theorem KpT.trans {H H1 H2 : Hp} (a : KpT H H1) (b : KpT H1 H2) : KpT H H2 := fun c o h => b c o (a c o h)
theorem KpT.of {H H' : Hp} (h : Same H H') : KpT H H' := fun b xs e => h b _ e
/-- all but p is as it was -/
def But (p : Addr) (H H' : Hp) : Prop := ∀ b, b ≠ p → H' b = H b
theorem But.upd {H : Hp} {p : Addr} {o : HO} : But p H (upd H p o) := fun b h => upd_ne h
theorem But.same {H H' : Hp} {p : Addr} (b : But p H H') (h : H p = none) : Same H H' := fun c o e => by rw [b c (ne_of_none e h)]; exact e
theorem But.kpt {H H' : Hp} {p : Addr} (b : But p H H') (h : ∀ xs, H p ≠ some (.tup xs)) : KpT H H' := fun c xs e => by
  rw [b c fun z => h xs (by rw [← z]; exact e)]; exact e
theorem same_upd {H : Hp} {p : Addr} {o : HO} (h : H p = none) : Same H (upd H p o) := (But.upd (o := o)).same h
section
variable {H H' : Hp} {P : Program} {w : World} {h : Heap}
mutual
theorem Nk.keep (t : KpT H H') : ∀ {v : V} {k : NestedKey}, Nk H v k → Nk H' v k
  | _, _, .non => .non
  | _, _, .int i => .int i
  | _, _, .str x => .str x
  | _, _, .tup e a => .tup (t _ _ e) (NkA.keep t a)
theorem NkA.keep (t : KpT H H') : ∀ {v : List V} {k : List NestedKey}, NkA H v k → NkA H' v k
  | _, _, .nil => .nil
  | _, _, .cons a b => .cons (Nk.keep t a) (NkA.keep t b)
end
theorem NkA.paired : ∀ {v : List V} {k : List NestedKey}, NkA H v k → Paired (Nk H) v k
  | _, _, .nil => .nil
  | _, _, .cons a b => .cons a b.paired
theorem NkA.of : ∀ {v : List V} {k : List NestedKey}, Paired (Nk H) v k → NkA H v k
  | _, _, .nil => .nil
  | _, _, .cons a b => .cons a (NkA.of b)
theorem NkA.length : ∀ {v : List V} {k : List NestedKey}, NkA H v k → v.length = k.length
  | _, _, .nil => rfl
  | _, _, .cons _ b => congrArg (· + 1) b.length
theorem NkA.get : ∀ {vs : List V} {ks : List NestedKey} {i : Nat} {k : NestedKey}, NkA H vs ks → ks[i]? = some k → ∃ v, vs[i]? = some v ∧ Nk H v k
  | _, _, _, _, .nil, e => by simp at e
  | _, _, 0, _, .cons r _, e => by simp at e; subst e; exact ⟨_, rfl, r⟩
  | _, _, i + 1, _, .cons _ t, e => by
    obtain ⟨v, h1, h2⟩ := NkA.get (i := i) t (by simpa using e)
    exact ⟨v, by simpa using h1, h2⟩
theorem NkA.get' : ∀ {vs : List V} {ks : List NestedKey} {i : Nat} {v : V}, NkA H vs ks → vs[i]? = some v → ∃ k, ks[i]? = some k ∧ Nk H v k
  | _, _, _, _, .nil, e => by simp at e
  | _, _, 0, _, .cons r _, e => by simp at e; subst e; exact ⟨_, rfl, r⟩
  | _, _, i + 1, _, .cons _ t, e => by
    obtain ⟨v, h1, h2⟩ := NkA.get' (i := i) t (by simpa using e)
    exact ⟨v, by simpa using h1, h2⟩
mutual
theorem Nk.is (ok : HOk P w H h) : ∀ (k : NestedKey) (v : V) (u : Value), Nk H v k → RelV v u → NestedIs h k u
  | .none, _, u, .non, r => by cases (show u = Value.none from r); exact .none
  | .num i, _, u, .int _, r => by obtain ⟨t, rfl⟩ := (show ∃ t, u = Value.int i t from r); exact .int i t
  | .text x, _, u, .str _, r => by obtain ⟨t, rfl⟩ := (show ∃ t, u = Value.str x t from r); exact .text x t
  | .tup ks, _, u, @Nk.tup _ a vs _ e aa, r => by
    obtain ⟨z, its, rv, ob, h1, h2, n, h3⟩ := (show ObjOk P w H h a (.tup vs) from ok a _ e)
    cases (show u = Value.ref a from r)
    exact .tup h1 h2 h3 (NkA.is ok ks vs its aa rv)
theorem NkA.is (ok : HOk P w H h) : ∀ (ks : List NestedKey) (vs : List V) (us : List Value), NkA H vs ks → Vals vs us → NestedAll h ks us
  | [], _, us, .nil, r => by cases r; exact .nil
  | k :: ks, _, us, .cons a b, r => by
    cases r with
    | cons r1 r2 => exact .cons (Nk.is ok k _ _ a r1) (NkA.is ok ks _ _ b r2)
end
mutual
theorem Nk.dp {K : PySem.W.Frag} : ∀ {v : V} {k : NestedKey}, Nk H v k → Dp K H v k.data
  | _, _, .non => .non
  | _, _, .int i => .int i
  | _, _, .str x => .str x
  | _, _, .tup e a => by rw [NestedKey.data]; exact .tup (SqT.of e) (NkA.dp a)
theorem NkA.dp {K : PySem.W.Frag} : ∀ {v : List V} {k : List NestedKey}, NkA H v k → DpAll K H v (NestedKey.datas k)
  | _, _, .nil => by rw [NestedKey.datas]; exact .nil
  | _, _, .cons a b => by rw [NestedKey.datas]; exact .cons a.dp b.dp
end
end
/-! ### dicts with nested keys -/
abbrev KN (H : Hp) : List (NestedKey × V) → List (NestedKey × Addr × Value) → Prop := Paired fun p q => p.1 = q.1 ∧ (Nk H (.ref q.2.1) q.1 ∧ q.1.depth ≤ 8) ∧ RelV p.2 q.2.2
/-- the object at d is just ob -/
abbrev dO (d : Addr) (ob : Obj) : HO := .ext fun h => h.get? d = some ob
structure Dr (P : Program) (w : World) (H : Hp) (d : Addr) (kvs : List (NestedKey × V)) (ob : Obj) (es : Array DictEntry) (ep : Nat) (xs : List (NestedKey × Addr × Value)) : Prop where
  ex : ob.ExactDict
  dt : ob.data = .dict es ep
  en : es.toList = xs.map (entryOfKey (nestedKind P w))
  nd : (xs.map (·.1)).Nodup
  sm : (d == sysModules) = false
  sz : kvs.length ≤ sizeLine
  kn : KN H kvs xs
def Dc (P : Program) (w : World) (H : Hp) (d : Addr) (kvs : List (NestedKey × V)) : Prop := ∃ ob es ep xs, H d = some (dO d ob) ∧ Dr P w H d kvs ob es ep xs
section
variable {P : Program} {w : World} {H H' : Hp} {h : Heap} {d : Addr} {kvs : List (NestedKey × V)} {ob : Obj} {es : Array DictEntry} {ep : Nat} {xs : List (NestedKey × Addr × Value)}
theorem KN.keep (t : KpT H H') (r : KN H kvs xs) : KN H' kvs xs := Paired.mapP r fun _ _ z => ⟨z.1, ⟨z.2.1.1.keep t, z.2.1.2⟩, z.2.2⟩
theorem KN.keys : ∀ {kvs : List (NestedKey × V)} {xs : List (NestedKey × Addr × Value)}, KN H kvs xs → kvs.map (·.1) = xs.map (·.1)
  | _, _, .nil => rfl
  | _, _, .cons a b => by rw [List.map_cons, List.map_cons, a.1, KN.keys b]
theorem KN.val : ∀ {kvs : List (NestedKey × V)} {xs : List (NestedKey × Addr × Value)}, KN H kvs xs → ∀ k : NestedKey, RelO (valV kvs k) ((atKey xs k).map (·.2))
  | _, _, .nil, k => trivial
  | _, _, @Paired.cons _ _ _ p q ps qs a b, k => by
    by_cases e : p.1 = k
    · rw [valV_pos e]
      have e2 : q.1 = k := a.1 ▸ e
      have : (atKey (q :: qs) k).map (·.2) = some q.2.2 := by simp [atKey, e2]
      rw [this]
      exact a.2.2
    · rw [valV_neg e]
      have e2 : ¬ q.1 = k := a.1 ▸ e
      have : atKey (q :: qs) k = atKey qs k := by simp [atKey, List.find?_cons, e2]
      rw [this]
      exact KN.val b k
theorem KN.repl (k : NestedKey) {y : V} {u : Value} (ry : RelV y u) : ∀ {kvs : List (NestedKey × V)} {xs : List (NestedKey × Addr × Value)}, KN H kvs xs → KN H (kvs.map fun kv => if kv.1 = k then (kv.1, y) else kv) (xs.map (putAt k u))
  | _, _, .nil => .nil
  | _, _, @Paired.cons _ _ _ p q ps qs a b => by
    refine Paired.cons ?_ (KN.repl k ry b)
    by_cases e : p.1 = k
    · have e2 : q.1 = k := a.1 ▸ e
      simp only [if_pos e, putAt, if_pos e2]
      exact ⟨a.1, a.2.1, ry⟩
    · have e2 : ¬ q.1 = k := a.1 ▸ e
      simp only [if_neg e, putAt, if_neg e2]
      exact a
theorem KN.snoc {k : NestedKey} {b : Addr} {y : V} {u : Value} (hk : Nk H (.ref b) k ∧ k.depth ≤ 8) (ry : RelV y u) : ∀ {kvs : List (NestedKey × V)} {xs : List (NestedKey × Addr × Value)}, KN H kvs xs → KN H (kvs ++ [(k, y)]) (xs ++ [(k, b, u)])
  | _, _, .nil => .cons ⟨rfl, hk, ry⟩ .nil
  | _, _, .cons a b => .cons a (KN.snoc hk ry b)
theorem KN.put (r : KN H kvs xs) (k : NestedKey) {b : Addr} {y : V} {u : Value} (hk : Nk H (.ref b) k ∧ k.depth ≤ 8) (ry : RelV y u) : KN H (putK kvs k y) (storedH xs k b u) := by
  have q := (r.val k).isSome_eq
  rw [Option.isSome_map] at q
  unfold putK storedH
  rw [valV_any, q]
  split
  · exact r.repl k ry
  · exact r.snoc hk ry
theorem KN.all (r : KN H kvs xs) : ∀ x ∈ xs, Nk H (.ref x.2.1) x.1 ∧ x.1.depth ≤ 8 := by
  induction r with
  | nil => intro x hx; exact nomatch hx
  | cons a b ih =>
    intro x hx
    rcases List.mem_cons.mp hx with e | hx
    · subst e; exact a.2.1
    · exact ih x hx
theorem KN.addrs : ∀ {kvs : List (NestedKey × V)} {xs : List (NestedKey × Addr × Value)}, KN H kvs xs → Paired (fun kv (b : Addr) => Nk H (.ref b) kv.1) kvs (xs.map fun x => x.2.1)
  | _, _, .nil => .nil
  | _, _, .cons a b => .cons (by rw [a.1]; exact a.2.1.1) (KN.addrs b)
theorem Dc.keep (x : Dc P w H d kvs) (e : ∀ o, H d = some o → H' d = some o) (t : KpT H H') : Dc P w H' d kvs := by
  obtain ⟨ob, es, ep, xs, h1, r⟩ := x
  exact ⟨ob, es, ep, xs, e _ h1, r.ex, r.dt, r.en, r.nd, r.sm, r.sz, r.kn.keep t⟩
theorem Dc.same (x : Dc P w H d kvs) (s : Same H H') : Dc P w H' d kvs := x.keep (fun o e => s d o e) (KpT.of s)
theorem Dc.but (x : Dc P w H d kvs) {p : Addr} (b : But p H H') (hp : d ≠ p) (ht : ∀ xs, H p ≠ some (.tup xs)) : Dc P w H' d kvs := x.keep (fun o e => by rw [b d hp]; exact e) (b.kpt ht)
theorem Dc.nodup (x : Dc P w H d kvs) : (kvs.map (·.1)).Nodup := by
  obtain ⟨ob, es, ep, xs, h1, r⟩ := x
  rw [r.kn.keys]; exact r.nd
theorem Dc.ext (x : Dc P w H d kvs) : ∃ φ, H d = some (.ext φ) := let ⟨ob, _, _, _, h1, _⟩ := x; ⟨_, h1⟩
theorem Dc.ntup (x : Dc P w H d kvs) : ∀ ys, H d ≠ some (.tup ys) := fun ys e => by
  obtain ⟨φ, h1⟩ := x.ext
  rw [h1] at e; cases e
theorem Dc.size (x : Dc P w H d kvs) : kvs.length ≤ sizeLine := let ⟨_, _, _, _, _, r⟩ := x; r.sz
end
section
variable {X : Cx} {pins : List (Addr × Obj)} {σ : L2.St} {H : Hp} {s : Shared} {d : Addr} {kvs : List (NestedKey × V)} {ob : Obj} {es : Array DictEntry} {ep : Nat} {xs : List (NestedKey × Addr × Value)}
theorem Inv.dget (I : Inv X pins σ H s) (h1 : H d = some (dO d ob)) : s.heap.get? d = some ob := (show ObjOk X.prog X.w H s.heap d (dO d ob) from I.hok d _ h1).1
theorem Dr.ofH (I : Inv X pins σ H s) (h1 : H d = some (dO d ob)) (r : Dr X.prog X.w H d kvs ob es ep xs) : s.heap.DictOfH (nestedKind X.prog X.w) d xs :=
  ⟨ob, es, ep, Inv.dget I h1, r.ex, r.dt, r.en, fun x hx => ⟨Nk.is I.hok _ _ _ (r.kn.all x hx).1 rfl, (r.kn.all x hx).2⟩, r.nd⟩
theorem key_is {b : Addr} {k : NestedKey} (I : Inv X pins σ H s) (hk : Nk H (.ref b) k) (hd : k.depth ≤ 8) : (nestedKind X.prog X.w).is s.heap k b := ⟨Nk.is I.hok _ _ _ hk rfl, hd⟩
theorem dO_ok {P : Program} {w : World} {H : Hp} {h : Heap} (e : h.get? d = some ob) : ObjOk P w H h d (dO d ob) := ⟨e, ⟨ob, e⟩, fun _ _ a b => b _ a⟩
/-- a dict is written -/
theorem Dc.wrote {h' : Heap} {t' : Nat} {kvs' : List (NestedKey × V)} {xs' : List (NestedKey × Addr × Value)} (I : Inv X pins σ H s) (x : Dc X.prog X.w H d kvs) (hs : Heap.SameBut d s.heap h') (hm : h'.DictOfH (nestedKind X.prog X.w) d xs')
    (kn : KN H kvs' xs') (sz : kvs'.length ≤ sizeLine) : ∃ H', Inv X pins σ H' { s with heap := h', toks := t' } ∧ But d H H' ∧ Dc X.prog X.w H' d kvs' := by
  obtain ⟨ob, es, ep, xs, h1, r⟩ := id x
  obtain ⟨ob', es', ep', q1, q2, q3, q4, q5, q6⟩ := hm
  refine ⟨upd H d (dO d ob'), d_write I (by rw [h1]; exact True.intro) hs ⟨ob', q1⟩ (dO_ok q1), But.upd, ob', es', ep', xs', upd_same, q2, q3, q4, q6, r.sm, sz, kn.keep (But.upd.kpt x.ntup)⟩
/-- a new dict -/
theorem Dc.laid {h' : Heap} {t' : Nat} {kvs' : List (NestedKey × V)} {xs' : List (NestedKey × Addr × Value)} (I : Inv X pins σ H s) (hk : ∀ b u, s.heap.get? b = some u → h'.get? b = some u) (hd : s.heap.objs.size ≤ d) (hm : h'.DictOfH (nestedKind X.prog X.w) d xs')
    (kn : KN H kvs' xs') (sz : kvs'.length ≤ sizeLine) : ∃ H', Inv X pins σ H' { s with heap := h', toks := t' } ∧ H d = none ∧ But d H H' ∧ Dc X.prog X.w H' d kvs' := by
  obtain ⟨ob', es', ep', q1, q2, q3, q4, q5, q6⟩ := hm
  have fr := I.hok.fresh hd
  have sm : (d == sysModules) = false := beq_eq_false_iff_ne.mpr (Ne.symm (Nat.ne_of_lt (Nat.lt_of_lt_of_le I.big hd)))
  exact ⟨upd H d (dO d ob'), I.laid (t' := t') hk hd (dO_ok q1), fr, But.upd, ob', es', ep', xs', upd_same, q2, q3, q4, q6, sm, sz, kn.keep (But.upd.kpt fun xs e => by rw [fr] at e; cases e)⟩
end
section
variable {X : Cx} {o i e f value : Expr} {pos pos' tpos apos cpos p : Pos} {td ty tv tx : TE}
/-- {} -/
def tDNewN (P : Program) (w : World) : TE := fun _ H Q => ∀ p H', H p = none → But p H H' → Dc P w H' p [] → Q (.ref p) H'
theorem pe_dnewN : PE X (.Dict [] [] pos) (tDNewN X.prog X.w) := ⟨fun pins s σ H Q I h => by
  refine wpAny_Dict_empty ?_
  obtain ⟨H', I', f, b, x⟩ := Dc.laid (t' := s.toks) (kvs' := []) (xs' := []) I (fun _ _ q => Heap.get?_push_of_some _ q) (Nat.le_refl _) (Heap.DictOfH.new s.heap) .nil (Nat.zero_le _)
  exact ⟨.ref s.heap.objs.size, H', I', rfl, h _ H' f b x⟩⟩
/-- what stands at the key y -/
def NGet (P : Program) (w : World) (H : Hp) (a : Addr) (y : V) (r : Option V) : Prop := ∃ kvs k b, Dc P w H a kvs ∧ y = .ref b ∧ Nk H y k ∧ k.depth ≤ 8 ∧ r = valV kvs k
def tNGet (P : Program) (w : World) (td ty : TE) : TE := fun σ H Q => td σ H fun x H1 => ty σ H1 fun y H2 => ∃ a v, x = .ref a ∧ NGet P w H2 a y (some v) ∧ Q v H2
def tNIn (P : Program) (w : World) (ty td : TE) : TE := fun σ H Q => ty σ H fun y H1 => td σ H1 fun x H2 => ∃ a r, x = .ref a ∧ NGet P w H2 a y r ∧ Q (.bl r.isSome) H2
def tNNotIn (P : Program) (w : World) (ty td : TE) : TE := fun σ H Q => ty σ H fun y H1 => td σ H1 fun x H2 => ∃ a r, x = .ref a ∧ NGet P w H2 a y r ∧ Q (.bl (!r.isSome)) H2
def sNPut (P : Program) (w : World) (td ty tv : TE) : TS := fun D σ H => tv σ H fun v H1 => td σ H1 fun x H2 => ty σ H2 fun y H3 => ∃ a kvs k b, x = .ref a ∧ Dc P w H3 a kvs ∧ y = .ref b ∧ Nk H3 y k ∧ k.depth ≤ 8 ∧ kvs.length < sizeLine ∧
  ∀ H4, But a H3 H4 → Dc P w H4 a (putK kvs k v) → D.nx σ H4
theorem nroom {A : Around} (hu : A.units + 64 < cLine) {P : Program} {w : World} : (nestedKind P w).room A.in1 := by
  show A.units + 1 + 8 < cLine
  omega
theorem pe_nget (hu : X.A.units + 64 < cLine) (ho : PE X o td) (hi : PE X i ty) (hs : NoSl i) : PE X (.Subscript o i pos) (tNGet X.prog X.w td ty) := by
  refine ⟨fun pins s σ H Q I h => ?_⟩
  refine subD_of PySem.F.slot_dict_getitem.lookup hs (thn (ho.run pins s σ H _ I h) fun u s1 ⟨x, H1, I1, rx, q1⟩ => thn (hi.run pins s1 σ H1 _ I1 q1) fun iv s2 ⟨y, H2, I2, ry, a, v, ex, g, q2⟩ => ?_)
  subst ex
  obtain rfl : u = Value.ref a := rx
  obtain ⟨kvs, k, b, ⟨ob, es, ep, xs, h1, r⟩, rfl, hk, hd, er⟩ := g
  obtain rfl : iv = Value.ref b := ry
  obtain ⟨w', hw, rw'⟩ := RelO.some_of (v := v) (o := (atKey xs k).map (·.2)) (by rw [er]; exact r.kn.val k)
  obtain ⟨pp, hp, hp2⟩ := Option.map_eq_some_iff.mp hw
  refine ⟨(r.ofH I2 h1).typeIs, wpAny_getItem_heap (nroom hu) (key_is I2 hk hd) (r.ofH I2 h1) hp ?_⟩
  rw [hp2]
  exact ⟨v, H2, I2.tok _, rw', q2⟩
theorem pc_nin (hu : X.A.units + 64 < cLine) (hi : PE X i ty) (ho : PE X o td) : PC X .In i o (tNIn X.prog X.w ty td) := by
  refine ⟨fun pins s σ H Q I h => ?_⟩
  refine thn (hi.run pins s σ H _ I h) fun iv s1 ⟨y, H1, I1, ry, q1⟩ => thn (ho.run pins s1 σ H1 _ I1 q1) fun u s2 ⟨x, H2, I2, rx, a, ov, ex, g, q2⟩ => ?_
  subst ex
  obtain rfl : u = Value.ref a := rx
  obtain ⟨kvs, k, b, ⟨ob, es, ep, xs, h1, r⟩, rfl, hk, hd, er⟩ := g
  obtain rfl : iv = Value.ref b := ry
  refine wpAny_in_heap (nroom hu) (key_is I2 hk hd) r.sm (r.ofH I2 h1) ?_
  have q := (r.kn.val k).isSome_eq
  rw [Option.isSome_map] at q
  rw [← q, ← er]
  exact ⟨.bl ov.isSome, H2, I2.tok _, rfl, q2⟩
theorem pc_nnotin (hu : X.A.units + 64 < cLine) (hi : PE X i ty) (ho : PE X o td) : PC X .NotIn i o (tNNotIn X.prog X.w ty td) := by
  refine ⟨fun pins s σ H Q I h => ?_⟩
  refine thn (hi.run pins s σ H _ I h) fun iv s1 ⟨y, H1, I1, ry, q1⟩ => thn (ho.run pins s1 σ H1 _ I1 q1) fun u s2 ⟨x, H2, I2, rx, a, ov, ex, g, q2⟩ => ?_
  subst ex
  obtain rfl : u = Value.ref a := rx
  obtain ⟨kvs, k, b, ⟨ob, es, ep, xs, h1, r⟩, rfl, hk, hd, er⟩ := g
  obtain rfl : iv = Value.ref b := ry
  refine wpAny_notIn_heap (nroom hu) (key_is I2 hk hd) r.sm (r.ofH I2 h1) ?_
  have q := (r.kn.val k).isSome_eq
  rw [Option.isSome_map] at q
  rw [← q, ← er]
  exact ⟨.bl (!ov.isSome), H2, I2.tok _, rfl, q2⟩
theorem ps_nput (hu : X.A.units + 64 < cLine) (ho : PE X o td) (hi : PE X i ty) (hv : PE X value tv) (hs : swapsWith value (some (.Subscript o i pos')) pos.line X.env = pure false) :
    PS X (.Assign [.Subscript o i pos'] value pos) (sNPut X.prog X.w td ty tv) := by
  refine ⟨fun pins s σ H D I h => ?_⟩
  refine wpAny_Assign_Subscript (thn (hv.run pins s σ H _ I h) fun r s1 ⟨v, H1, I1, rv, q1⟩ => thn (ho.run pins s1 σ H1 _ I1 q1) fun u s2 ⟨x, H2, I2, rx, q2⟩ => thn (hi.run pins s2 σ H2 _ I2 q2) fun iv s3 ⟨y, H3, I3, ry, a, kvs, k, b, ex, x3, ey, hk, hd, hz, q3⟩ => ?_) hs
  subst ex ey
  obtain rfl : u = Value.ref a := rx
  obtain rfl : iv = Value.ref b := ry
  obtain ⟨ob, es, ep, xs, h1, rr⟩ := id x3
  have hl : kvs.length = xs.length := Paired.length rr.kn
  refine wpAny_setItem_heap (hsz := by omega) (nroom hu) (key_is I3 hk hd) (rr.ofH I3 h1) fun h' hm hs' => ?_
  obtain ⟨H4, I4, b4, x4⟩ := Dc.wrote (t' := s3.toks + (nestedKind X.prog X.w).draws k) I3 x3 hs' hm (rr.kn.put k ⟨hk, hd⟩ rv) (Nat.le_trans (length_putK _ _ _) hz)
  exact ⟨σ, H4, I4, q3 H4 b4 x4⟩
/-- d.get(y, z) -/
def tNGet2 (P : Program) (w : World) (td ty tx : TE) : TE := fun σ H Q => td σ H fun x H1 => ∃ a, x = .ref a ∧ (∃ kvs, Dc P w H1 a kvs) ∧ ty σ H1 fun y H2 => tx σ H2 fun z H3 => ∃ r, NGet P w H3 a y r ∧ Q (r.getD z) H3
theorem nd_at {pins : List (Addr × Obj)} {σ : L2.St} {H : Hp} {s : Shared} {a : Addr} {kvs : List (NestedKey × V)} (I : Inv X pins σ H s) (x : Dc X.prog X.w H a kvs) :
    s.TypeIs (.ref a) "dict" ∧ (∀ b, Value.ref a = .ref b → ∃ ob, s.heap.get? b = some ob ∧ ob.dict = none) ∧ (a == sysModules) = false := by
  obtain ⟨ob, es, ep, xs, h1, r⟩ := x
  refine ⟨(r.ofH I h1).typeIs, fun b q => ?_, r.sm⟩
  cases q
  exact ⟨ob, Inv.dget I h1, r.ex.2.1⟩
theorem pe_nget2 (hu : X.A.units + 64 < cLine) (ho : PE X o td) (he : PE X e ty) (hf : PE X f tx) (m : M2 X o "get" apos e f cpos) : PE X (.Call (.Attribute o "get" apos) [e, f] [] cpos) (tNGet2 X.prog X.w td ty tx) := by
  refine ⟨fun pins s σ H Q I h => ?_⟩
  refine wpAny_Call_method m.base m.few m.line PySem.F.plainAttrs_dict PySem.F.slot_dict_get PySem.F.type_dict_get (thn (ho.run pins s σ H _ I h) fun u s1 ⟨x, H1, I1, rx, a, ex, ⟨kvs0, d0⟩, q1⟩ => ?_)
  subst ex
  obtain rfl : u = Value.ref a := rx
  obtain ⟨t1, t2, _⟩ := nd_at I1 d0
  refine ⟨t1, t2, ?_⟩
  rw [m.trees]
  refine Calls.callWith_builtin rfl (Calls.evalArgs_plain (Calls.spliced_cons (thn (he.run pins s1 σ H1 _ I1 q1) fun iv s2 ⟨y, H2, I2, ry, q2⟩ =>
    Calls.spliced_cons (thn (hf.run pins s2 σ H2 _ I2 q2) fun fv s3 ⟨z, H3, I3, rz, ov, g, q3⟩ => Calls.spliced_nil ?_))))
  obtain ⟨kvs, k, b, ⟨ob, es, ep, xs, h1, r⟩, rfl, hk, hd, er⟩ := g
  obtain rfl : iv = Value.ref b := ry
  refine call_meetsIn PySem.F.slot_dict_get (r.ofH I3 h1).typeIs PySem.F.entry_dict_get (PySem.F.args_dict_get_3 _ _ _) (meetsH_dict_get_default (nestedKind X.prog X.w) a b r.sm fv) ⟨nroom hu, k, xs, key_is I3 hk hd, r.ofH I3 h1, ?_⟩
  refine ⟨_, H3, I3.tok _, ?_, q3⟩
  rw [er]
  exact (r.kn.val k).getD rz
/-- len(d) -/
theorem call_len_n : CallR X (.builtin "len") (fun xs H Q => ∃ (p : Addr) (kvs : List (NestedKey × V)), xs = [.ref p] ∧ Dc X.prog X.w H p kvs ∧ Q (.int ((kvs.length : Nat) : Int)) H) := by
  intro pins s σ H xs us Q I r h
  obtain ⟨p, kvs, rfl, ⟨ob, es, ep, ys, h1, rr⟩, q⟩ := h
  obtain ⟨u, rfl, rx⟩ := vals1 r
  obtain rfl : u = .ref p := rx
  have hl : kvs.length = ys.length := Paired.length rr.kn
  have z := rr.sz
  refine call_len_dictH rr.sm (rr.ofH I h1) (by rw [← hl]; rw [sizeLine_eq] at z; omega) ?_
  rw [← hl]
  exact ⟨.int ((kvs.length : Nat) : Int), H, I.tok _, ⟨_, rfl⟩, q⟩
/-- list(d) -/
theorem call_list_n (hc : X.calm = true) : CallR X (.type "list") (fun xs H Q => ∃ (d : Addr) (kvs : List (NestedKey × V)), xs = [V.ref d] ∧ Dc X.prog X.w H d kvs ∧ ∀ p bs, H p = none → Paired (fun kv (b : Addr) => Nk H (.ref b) kv.1) kvs bs → Q (.ref p) (upd H p (.lst (bs.map V.ref)))) := by
  intro pins s σ H xs us Q I r h
  obtain ⟨d, kvs, rfl, ⟨o, es, ep, ks, h1, rr⟩, q⟩ := h
  obtain ⟨u, rfl, rx⟩ := vals1 r
  obtain rfl : u = .ref d := rx
  have ho := Inv.dget I h1
  have l1 : es.size = ks.length := size_of_entries rr.en
  have l2 : kvs.length = ks.length := Paired.length rr.kn
  have z := rr.sz
  refine PySem.W.kdl_call (kdl_raw rr.sm rr.ex rr.dt) (I.ok.hd hc) ho (by omega) fun h' tk acc' c' kp e it => ?_
  have ea : acc'.toList = ks.map fun x => Value.ref x.2.1 := by
    have hl : acc'.toList.length = ks.length := by rw [Array.length_toList, it.1]; exact l1
    apply List.ext_getElem?
    intro j
    rw [List.getElem?_map]
    cases hj : acc'.toList[j]? with
    | none =>
      have h1 := List.getElem?_eq_none_iff.mp hj
      rw [List.getElem?_eq_none (by omega)]
      all_goals rfl
    | some v =>
      obtain ⟨en, hen, hv⟩ := it.2 j v (by rw [← Array.getElem?_toList]; exact hj)
      have qe := entry_at rr.en j
      rw [hen] at qe
      cases hb : ks[j]? with
      | none =>
        rw [hb] at qe
        exact nomatch (show some en = none from qe)
      | some b =>
        rw [hb] at qe
        have e2 : en = entryOfKey (nestedKind X.prog X.w) b := Option.some.inj qe
        rw [hv, e2]
        all_goals rfl
  have eb : acc'.toList = (ks.map fun x => x.2.1).map Value.ref := by rw [ea, List.map_map]; all_goals rfl
  have rv : Vals ((ks.map fun x => x.2.1).map V.ref) acc'.toList := by rw [eb]; exact vals_refs _
  have hz : ((ks.map fun x => x.2.1).map V.ref).length ≤ sizeLine := by rw [List.length_map, List.length_map]; omega
  refine ⟨.ref s.heap.objs.size, _, I.laid (t' := tk) (o := .lst ((ks.map fun x => x.2.1).map V.ref)) kp (Nat.le_refl _) ?_, rfl, q _ _ (I.hok.fresh (Nat.le_refl _)) rr.kn.addrs⟩
  exact ⟨hz, acc'.toList, c', rv, by rw [Array.toArray_toList]; exact e⟩
end
/-! ### a walk over a dict's keys, over its values -/
def Itn (d : Addr) (φ : HO) (bs : List Addr) : It :=
  ⟨fun i H => H d = some φ ∧ i < bs.length, fun i H x H' => H' = H ∧ ∃ b, bs[i]? = some b ∧ x = .ref b, fun i H => H d = some φ ∧ bs.length ≤ i⟩
def Itnv (d : Addr) (φ : HO) (kvs : List (NestedKey × V)) : It :=
  ⟨fun i H => H d = some φ ∧ i < kvs.length, fun i H x H' => H' = H ∧ ∃ k, kvs[i]? = some (k, x), fun i H => H d = some φ ∧ kvs.length ≤ i⟩
theorem walk_n {d : Addr} {φ : HO} {bs : List Addr} : Walk (Itn d φ bs) bs.length (fun H => H d = some φ) (fun i H x H' => H' = H ∧ ∃ b, bs[i]? = some b ∧ x = .ref b) :=
  ⟨fun _ _ hi q => ⟨q, hi⟩, fun _ q => ⟨q, Nat.le_refl _⟩, fun _ _ _ _ _ _ y => y⟩
theorem walk_nv {d : Addr} {φ : HO} {kvs : List (NestedKey × V)} : Walk (Itnv d φ kvs) kvs.length (fun H => H d = some φ) (fun i H x H' => H' = H ∧ ∃ k, kvs[i]? = some (k, x)) :=
  ⟨fun _ _ hi q => ⟨q, hi⟩, fun _ q => ⟨q, Nat.le_refl _⟩, fun _ _ _ _ _ _ y => y⟩
section
variable {P : Program} {w : World} {K : PySem.W.Frag} {tg : Expr} {d : Addr} {o : Obj} {es : Array DictEntry} {ep : Nat}
theorem turn_n {xs : List (NestedKey × Addr × Value)} (it : Addr) (hod : o.data = .dict es ep) (he : es.toList = xs.map (entryOfKey (nestedKind P w))) : Turn P w K tg (Itn d (dO d o) (xs.map fun x => x.2.1)) [it] it (fun i h => h.IsKeyIter it d i es.size ep) where
  mem := by simp
  obj := fun i h st b hb => by
    have e : b = it := by simpa using hb
    subst e
    obtain ⟨oi, e, c, dd⟩ := st
    exact ⟨oi, e, fun v z => by rw [dd] at z; cases z⟩
  keep := fun i h h' st k => st.at fun oi e => k it (by simp) oi e
  item := by
    intro X hP hw hK hc i pins s σ H E I hf st hg
    subst hP hw hK
    obtain ⟨hd, hi⟩ := hg
    obtain ⟨f0, f1, f2, f3, f4, f5⟩ := hf it (by simp)
    have hgd := Inv.dget I hd
    rw [List.length_map] at hi
    have hb : xs[i]? = some xs[i] := List.getElem?_eq_getElem hi
    have qe := entry_at he i
    rw [hb] at qe
    refine next_key_item st hgd hod rfl qe fun h' st' sb => ?_
    have I1 : Inv X pins σ H { s with heap := h' } := I.turned (t' := s.toks) (fun b ob hb e => (sb.2 b hb).trans e) f0 f1 f3 f4 f5
    obtain ⟨oi, e, c, dd⟩ := id st'
    exact ⟨_, rfl, go_of (s := { s with heap := h' }) e c dd (by decide) ⟨.ref xs[i].2.1, H, I1, rfl, ⟨rfl, xs[i].2.1, by rw [List.getElem?_map, hb]; rfl, rfl⟩, st', fun b hb => (hf b hb).1⟩⟩
  done := by
    intro X hP hw hK hc i pins s σ H E I hf st hg
    subst hP hw hK
    obtain ⟨hd, hi⟩ := hg
    obtain ⟨f0, f1, f2, f3, f4, f5⟩ := hf it (by simp)
    have hsz := size_of_entries he
    rw [List.length_map] at hi
    exact next_key_end (I.ok.hd hc) st (Inv.dget I hd) hod rfl (by omega) fun h' eb => ⟨rfl, I.turned (t' := s.toks) (fun b ob hb e => eb b ob hb e) f0 f1 f3 f4 f5⟩
  self := fun A i s Q E st h => by
    refine wpAny_pyIter_slot st.typeIs F.slot_dict_keyiterator_iter (wpAny_call_entry F.slot_dict_keyiterator_iter st.typeIs F.entry_dict_keyiterator_iter ?_ (F.args_dict_keyiterator_iter_1 _))
    show wpAny _ _ (ret (.ref it)) _ _ s
    exact wpAny_pure ⟨_, rfl, "dict_keyiterator", _, st.typeIs, F.slot_dict_keyiterator_next.lookup, h⟩
end
section
variable {X : Cx} {tg e : Expr} {td : TE} {apos cpos : Pos}
def iN (P : Program) (w : World) (td : TE) : TI := fun σ H R => td σ H fun x H1 => ∃ d kvs, x = .ref d ∧ Dc P w H1 d kvs ∧ ∀ φ bs, H1 d = some φ → Paired (fun kv (b : Addr) => Nk H1 (.ref b) kv.1) kvs bs → R (Itn d φ bs) H1
theorem pi_n (he : PE X e td) : PI X tg e (iN X.prog X.w td) := by
  refine ⟨fun pins s σ H R I h => ?_⟩
  refine thn (he.run pins s σ H _ I h) fun u s1 ⟨x, H1, I1, rx, d, kvs, ex, ⟨o, es, ep, xs, h1, r⟩, q⟩ => ?_
  subst ex
  obtain rfl : u = Value.ref d := rx
  exact iter_keys r.sm (Inv.dget I1 h1) r.ex r.dt (pi_one (tk := s1.toks) I1 _ (turn_n _ r.dt r.en) ⟨_, Heap.get?_push_size _ rfl, rfl, rfl⟩ (q _ _ h1 r.kn.addrs))
end
end K19
set_option maxHeartbeats 4000000
namespace K19
open PySem PySem.Spec PyProof.Rows L2
/-! ### methods of dicts -/
section
variable {X : Cx} {o i e f value : Expr} {pos pos' tpos apos cpos p : Pos} {td ty tv tx : TE}
theorem nd_apart {pins : List (Addr × Obj)} {σ : L2.St} {H : Hp} {s : Shared} {a : Addr} {kvs : List (NestedKey × V)} (I : Inv X pins σ H s) (x : Dc X.prog X.w H a kvs) : a < s.heap.objs.size := by
  obtain ⟨ob, es, ep, xs, h1, r⟩ := x
  exact Heap.lt_size (Inv.dget I h1)
/-- d.clear() -/
def tNClear (P : Program) (w : World) (td : TE) : TE := fun σ H Q => td σ H fun x H1 => ∃ a kvs, x = .ref a ∧ Dc P w H1 a kvs ∧ ∀ H2, But a H1 H2 → Dc P w H2 a [] → Q .non H2
theorem pe_nclear (ho : PE X o td) (hb : attributeBase o "clear" X.env (eval o X.env) = eval o X.env := by rfl) (hl : (apos.endLine == cpos.line) = true := by rfl) : PE X (.Call (.Attribute o "clear" apos) [] [] cpos) (tNClear X.prog X.w td) := by
  refine ⟨fun pins s σ H Q I h => wpAny_Call_method0_late hb hl (thn (ho.run pins s σ H _ I h) ?_)⟩
  rintro v s1 ⟨x, H1, I1, r1, a, kvs, ex, dd, q⟩
  subst ex
  cases (show v = Value.ref a from r1)
  obtain ⟨t1, t2, _⟩ := nd_at I1 dd
  refine ⟨"dict", "dict.clear", PySem.F.plainAttrs_dict, PySem.F.slot_dict_clear, PySem.F.type_dict_clear, t1, t2, Calls.callWith_builtin rfl (PySem.evalArgs_none ?_)⟩
  obtain ⟨ob, es, ep, xs, h1, rr⟩ := id dd
  have hz : xs.length ≤ sizeLine := by rw [← Paired.length rr.kn]; exact rr.sz
  have hes := size_of_entries rr.en
  refine call_meetsIn F.slot_dict_clear (rr.ofH I1 h1).typeIs F.entry_dict_clear (F.args_dict_clear_1 _) (meets_dict_clear_raw a) ⟨es, ep, ⟨ob, Inv.dget I1 h1, rr.ex, rr.dt⟩, by rw [hes]; exact hz, fun h' hr hs => ?_⟩
  obtain ⟨ob', g1, g2, g3⟩ := hr
  obtain ⟨H2, I2, b2, d2⟩ := Dc.wrote (t' := s1.toks) (kvs' := []) (xs' := []) I1 dd hs ⟨ob', #[], ep + 1, g1, g2, g3, rfl, (fun _ z => nomatch z), List.nodup_nil⟩ .nil (Nat.zero_le _)
  exact ⟨.non, H2, I2, rfl, q H2 b2 d2⟩
/-- d.pop(k), k there -/
def tNPop (P : Program) (w : World) (td ty : TE) : TE := fun σ H Q => td σ H fun x H1 => ∃ a, x = .ref a ∧ (∃ kvs, Dc P w H1 a kvs) ∧ ty σ H1 fun y H2 => ∃ kvs k b v, Dc P w H2 a kvs ∧ y = .ref b ∧ Nk H2 y k ∧ k.depth ≤ 8 ∧ valV kvs k = some v ∧
  ∀ H3, But a H2 H3 → Dc P w H3 a (dropK kvs k) → Q v H3
theorem KN.drop {H : Hp} (k : NestedKey) : ∀ {kvs : List (NestedKey × V)} {xs : List (NestedKey × Addr × Value)}, KN H kvs xs → KN H (dropK kvs k) (withoutH xs k)
  | _, _, .nil => .nil
  | _, _, @Paired.cons _ _ _ p q ps qs a b => by
    have e : p.1 = q.1 := a.1
    unfold dropK withoutH
    rw [List.filter_cons, List.filter_cons]
    by_cases z : p.1 = k
    · have z2 : q.1 = k := e ▸ z
      simp only [z, z2, ne_eq, not_true, decide_false, Bool.false_eq_true, if_false]
      exact KN.drop k b
    · have z2 : ¬ q.1 = k := e ▸ z
      simp only [ne_eq, z, z2, not_false_iff, decide_true, if_true]
      exact .cons a (KN.drop k b)
theorem pe_npop (hu : X.A.units + 64 < cLine) (ho : PE X o td) (he : PE X e ty) (m : M1 X o "pop" apos e cpos) : PE X (.Call (.Attribute o "pop" apos) [e] [] cpos) (tNPop X.prog X.w td ty) := by
  refine ⟨fun pins s σ H Q I h => wpAny_Call_method m.base m.few m.line PySem.F.plainAttrs_dict PySem.F.slot_dict_pop PySem.F.type_dict_pop (thn (ho.run pins s σ H _ I h) ?_)⟩
  rintro u s1 ⟨x, H1, I1, rx, a, ex, ⟨kvs0, d0⟩, q1⟩
  subst ex
  cases (show u = Value.ref a from rx)
  obtain ⟨t1, t2, _⟩ := nd_at I1 d0
  refine ⟨t1, t2, ?_⟩
  rw [m.trees]
  refine Calls.callWith_builtin rfl (Calls.evalArgs_plain (Calls.spliced_cons (thn (he.run pins s1 σ H1 _ I1 q1) ?_)))
  rintro iv s2 ⟨y, H2, I2, ry, kvs, k, b, v, dd, ey, hk, hd, l, q2⟩
  subst ey
  cases (show iv = Value.ref b from ry)
  refine Calls.spliced_nil ?_
  obtain ⟨ob, es, ep, xs, h1, rr⟩ := id dd
  have hz : xs.length ≤ sizeLine := by rw [← Paired.length rr.kn]; exact rr.sz
  obtain ⟨w', hw, rw'⟩ := RelO.some_of (v := v) (o := (atKey xs k).map (·.2)) (by rw [← l]; exact rr.kn.val k)
  obtain ⟨pp, hp, hp2⟩ := Option.map_eq_some_iff.mp hw
  refine call_pop_heap (hsz := hz) (more := []) (.inl rfl) (F.args_dict_pop_2 _ _) (nroom hu) (key_is I2 hk hd) rr.sm (rr.ofH I2 h1) hp fun h' hm hs => ?_
  obtain ⟨H3, I3, b3, d3⟩ := Dc.wrote (t' := s2.toks + (nestedKind X.prog X.w).draws k) I2 dd hs hm (rr.kn.drop k) (Nat.le_trans (dropK_le _ _) rr.sz)
  rw [hp2]
  exact ⟨v, H3, I3, rw', q2 H3 b3 d3⟩
/-- merging -/
def mergeN (kvs more : List (NestedKey × V)) : List (NestedKey × V) := more.foldl (fun acc kv => putK acc kv.1 kv.2) kvs
theorem KN.merge {H : Hp} : ∀ {more : List (NestedKey × V)} {ys : List (NestedKey × Addr × Value)} {kvs : List (NestedKey × V)} {xs : List (NestedKey × Addr × Value)}, KN H more ys → KN H kvs xs → KN H (mergeN kvs more) (storedAllH xs ys)
  | _, _, _, _, .nil, r => r
  | _, _, _, _, @Paired.cons _ _ _ p q ps qs a b, r => by
    have z := r.put p.1 (b := q.2.1) (y := p.2) (u := q.2.2) (by rw [a.1]; exact a.2.1) a.2.2
    have e : ∀ l, storedH l p.1 q.2.1 q.2.2 = storedH l q.1 q.2.1 q.2.2 := fun l => by rw [a.1]
    rw [e] at z
    show KN H (mergeN (putK _ p.1 p.2) ps) (storedAllH (storedH _ q.1 q.2.1 q.2.2) qs)
    exact KN.merge b z
theorem mergeN_len (kvs : List (NestedKey × V)) : ∀ more : List (NestedKey × V), (mergeN kvs more).length ≤ kvs.length + more.length := by
  intro more
  induction more generalizing kvs with
  | nil => exact Nat.le_refl _
  | cons p ps ih =>
    have h := ih (putK kvs p.1 p.2)
    have h2 := length_putK kvs p.1 p.2
    show (mergeN (putK kvs p.1 p.2) ps).length ≤ _
    rw [List.length_cons]
    omega
/-- d.update(d2), d not empty -/
def tNUpd (P : Program) (w : World) (td ty : TE) : TE := fun σ H Q => td σ H fun x H1 => ∃ a, x = .ref a ∧ (∃ kvs, Dc P w H1 a kvs) ∧ ty σ H1 fun y H2 => ∃ b kvs more, y = .ref b ∧ a ≠ b ∧ Dc P w H2 a kvs ∧ Dc P w H2 b more ∧ kvs ≠ [] ∧ kvs.length + more.length ≤ sizeLine ∧
  ∀ H3, But a H2 H3 → Dc P w H3 a (mergeN kvs more) → Q .non H3
theorem pe_nupd (hu : X.A.units + 64 < cLine) (ho : PE X o td) (he : PE X e ty) (m : M1 X o "update" apos e cpos) : PE X (.Call (.Attribute o "update" apos) [e] [] cpos) (tNUpd X.prog X.w td ty) := by
  refine ⟨fun pins s σ H Q I h => wpAny_Call_method m.base m.few m.line PySem.F.plainAttrs_dict PySem.F.slot_dict_update PySem.F.type_dict_update (thn (ho.run pins s σ H _ I h) ?_)⟩
  rintro u s1 ⟨x, H1, I1, rx, a, ex, ⟨kvs0, d0⟩, q1⟩
  subst ex
  cases (show u = Value.ref a from rx)
  obtain ⟨t1, t2, _⟩ := nd_at I1 d0
  refine ⟨t1, t2, ?_⟩
  rw [m.trees]
  refine Calls.callWith_builtin rfl (Calls.evalArgs_plain (Calls.spliced_cons (thn (he.run pins s1 σ H1 _ I1 q1) ?_)))
  rintro iv s2 ⟨y, H2, I2, ry, b, kvs, more, ey, nab, da, db, ne, hz, q2⟩
  subst ey
  cases (show iv = Value.ref b from ry)
  refine Calls.spliced_nil ?_
  obtain ⟨ob, es, ep, xs, h1, rr⟩ := id da
  obtain ⟨ob2, es2, ep2, ys, h2, rr2⟩ := id db
  have l1 : kvs.length = xs.length := Paired.length rr.kn
  have l2 : more.length = ys.length := Paired.length rr2.kn
  refine call_update_dictH (nroom hu) nab rr2.sm (rr.ofH I2 h1) (rr2.ofH I2 h2) (.inl fun z => ne ?_) (by omega) fun h' hm _ hs => ?_
  · rw [z] at l1
    exact List.eq_nil_of_length_eq_zero l1
  · obtain ⟨H3, I3, b3, d3⟩ := Dc.wrote (t' := s2.toks) I2 da hs hm (KN.merge rr2.kn rr.kn) (Nat.le_trans (mergeN_len _ _) hz)
    exact ⟨.non, H3, I3, rfl, q2 H3 b3 d3⟩
/-- {k: v}, one entry -/
def tNOne (P : Program) (w : World) (ty tv : TE) : TE := fun σ H Q => ∀ p H1, H p = none → But p H H1 → Dc P w H1 p [] → ty σ H1 fun y H2 => tv σ H2 fun v H3 => Dc P w H3 p [] ∧ ∃ k b, y = .ref b ∧ Nk H3 y k ∧ k.depth ≤ 8 ∧
  ∀ H4, But p H3 H4 → Dc P w H4 p [(k, v)] → Q (.ref p) H4
theorem pe_none1 {ke ve : Expr} (hu : X.A.units + 64 < cLine) (hk : PE X ke ty) (hv : PE X ve tv)
    (hshape : (evalEachOpt [some ke] X.env).zip ((evalEach [ve] X.env).map fun v => do let x ← v; standAt pos; pure x) = [(eval ke X.env, do let x ← eval ve X.env; standAt pos; pure x)].map fun p => (some p.1, p.2) := by rfl) :
    PE X (.Dict [some ke] [ve] pos) (tNOne X.prog X.w ty tv) := by
  refine ⟨fun pins s σ H Q I h => ?_⟩
  rw [arm_eval_Dict, hshape, dictDisplay_pairs _ (by simp) (by simp)]
  have hr : (nestedKind X.prog X.w).room X.A := by
    show X.A.units + 8 < cLine
    omega
  refine wpAny_bind (wpAny_standAt (wpAny_bind (wpAny_subDictH (knd := nestedKind X.prog X.w) hr (by simp) ?_)))
  obtain ⟨H1, I1, f, b, x⟩ := Dc.laid (t' := s.toks) (kvs' := []) (xs' := []) I (fun _ _ q => Heap.get?_push_of_some _ q) (Nat.le_refl _) (Heap.DictOfH.new s.heap) .nil (Nat.zero_le _)
  have one := (pps_cons (pos := pos) hk hv pps_nil).run pins _ σ H1 (fun ps H3 => match ps with
    | [(y, v)] => Dc X.prog X.w H3 s.heap.objs.size [] ∧ ∃ k b, y = .ref b ∧ Nk H3 y k ∧ k.depth ≤ 8 ∧ ∀ H4, But s.heap.objs.size H3 H4 → Dc X.prog X.w H4 s.heap.objs.size [(k, v)] → Q (.ref s.heap.objs.size) H4
    | _ => False) I1 (h s.heap.objs.size H1 f b x)
  refine thn one ?_
  rintro ws s2 ⟨ps, H3, I3, rel, qq⟩
  cases rel with
  | nil => exact qq.elim
  | @cons yv ab ys abs a t =>
    obtain ⟨y, v⟩ := yv
    cases t with
    | cons _ _ => exact qq.elim
    | nil =>
      obtain ⟨d3, k, b, ey, nk, dp, q⟩ := qq
      have ey : y = .ref b := ey
      subst ey
      obtain ⟨a1, a2⟩ := ab
      have ea : a1 = Value.ref b := a.1
      subst ea
      obtain ⟨ob, es, ep, xs, h1, rr⟩ := id d3
      have hx : xs = [] := List.eq_nil_of_length_eq_zero (Paired.length rr.kn).symm
      refine ⟨[(k, b, a2)], ⟨rfl, rfl, key_is I3 nk dp, True.intro⟩, by rw [← hx]; exact rr.ofH I3 h1, fun h' tk hm hs => ?_⟩
      obtain ⟨H4, I4, b4, d4⟩ := Dc.wrote (t' := tk) (kvs' := [(k, v)]) I3 d3 hs hm (.cons ⟨rfl, ⟨nk, dp⟩, a.2⟩ .nil) (by show 1 ≤ sizeLine; decide)
      exact wpAny_pure ⟨.ref s.heap.objs.size, H4, I4, rfl, q H4 b4 d4⟩
end
end K19
set_option maxHeartbeats 4000000
namespace K19
open PySem PySem.Spec PyProof.Rows L2
/-! ### dict(d) of a dict whose keys hash apart -/
section
variable {prog : Program} {w : World} {K : Type} [DecidableEq K] {knd : HeapKind prog w K} {A : Around} {E : Value → Shared → Prop} {s : Shared}
theorem call_dict_copyH {o : Addr} {more : List (K × Addr × Value)} {Q : Value → Shared → Prop} (hu : knd.room A.in1.in1) (hoS : (o == sysModules) = false) (ho : s.heap.DictOfH knd o more) (hty : ∀ x ∈ more, s.TypeIs (.ref x.2.1) "tuple")
    (hap : (more.map fun x => knd.hash x.1).Nodup) (hsz : more.length ≤ sizeLine) (hst : ∀ h', (∀ b o, s.heap.get? b = some o → h'.get? b = some o) → ∀ x ∈ more, knd.is h' x.1 x.2.1)
    (h : ∀ h', h'.DictOfH knd s.heap.objs.size (storedAllH [] more) → Heap.SameBut s.heap.objs.size (s.heap.push { cls := .type "dict", data := .dict #[] }) h' → Q (.ref s.heap.objs.size) { s with heap := h' }) :
    wpAny (model prog w) A (call (.type "dict") [.ref o]) Q E s := by
  refine callType_codes (Q₁ := fun obj s₁ => obj = .ref s.heap.objs.size ∧ s₁ = { s with heap := s.heap.push { cls := .type "dict", data := .dict #[] } }) F.kt_called_dict (F.kt_typeCall_dict_1 _) F.entry_dict_init (kt_code_dict_new _ ⟨rfl, rfl⟩) ?_
  rintro obj s₁ ⟨rfl, rfl⟩
  have kp : ∀ b u, s.heap.get? b = some u → (s.heap.push { cls := .type "dict", data := .dict #[] }).get? b = some u := fun _ _ e => Heap.get?_push_of_some _ e
  have hnew : (s.heap.push { cls := .type "dict", data := .dict #[] }).DictOfH knd s.heap.objs.size [] := Heap.DictOfH.new s.heap
  have ho' := Heap.DictOfH.at' ho (kp o) fun y hy => hst _ kp y hy
  have hdo : s.heap.objs.size ≠ o := Nat.ne_of_gt ho.lt_size
  refine ⟨hnew.typeIs, F.args_dict_init_2 _ _, ?_⟩
  unfold Builtin.«dict.__init__»
  refine wpAny_bind ?_
  unfold Builtin.Dict.selfAndRest
  refine wpAny_bind (wpAny_notOrdered_dict hnew.typeIs ?_)
  refine wpAny_pure ?_
  show wpAny _ _ (Builtin.Dict.updateFrom "dict.__init__" s.heap.objs.size (.ref o) [] .none) _ _ _
  refine updateFrom_dictH (A := A.in1) (s := { s with heap := s.heap.push { cls := .type "dict", data := .dict #[] } }) (kvs := []) .none hu hdo hoS hnew ho' (.inr ⟨fun x hx => ?_, hap⟩) (by simpa using hsz) fun h' hm _ hs => ?_
  · obtain ⟨q, hq, hc⟩ := hty x hx
    exact ⟨q, kp _ _ hq, hc⟩
  · exact ⟨rfl, h h' hm hs⟩
end
section
variable {X : Cx} {o i e f value : Expr} {pos pos' tpos apos cpos p : Pos} {td ty tv tx : TE}
/-- the keys' hashes differ -/
def HAp (w : World) (kvs : List (NestedKey × V)) : Prop := (kvs.map fun kv => kv.1.hash w).Nodup
theorem call_dict_n : CallR X (.type "dict") (fun xs H Q => ∃ (d : Addr) (kvs : List (NestedKey × V)), xs = [V.ref d] ∧ X.A.units + 64 < cLine ∧ Dc X.prog X.w H d kvs ∧ HAp X.w kvs ∧ ∀ p H', H p = none → But p H H' → Dc X.prog X.w H' p kvs → Q (.ref p) H') := by
  intro pins s σ H xs us Q I r h
  obtain ⟨d, kvs, rfl, hu, dd, hap, q⟩ := h
  obtain ⟨u, rfl, rx⟩ := vals1 r
  cases (show u = Value.ref d from rx)
  obtain ⟨ob, es, ep, ys, h1, rr⟩ := id dd
  have lz : kvs.length = ys.length := Paired.length rr.kn
  have ek : ys.map (fun x => (nestedKind X.prog X.w).hash x.1) = kvs.map fun kv => kv.1.hash X.w := by
    have z := congrArg (List.map fun k : NestedKey => k.hash X.w) rr.kn.keys
    rw [List.map_map, List.map_map] at z
    exact z.symm
  have oh := rr.ofH I h1
  refine call_dict_copyH (show X.A.units + 1 + 1 + 8 < cLine by omega) rr.sm oh (fun x hx => ?_) (by rw [ek]; exact hap) (by rw [← lz]; exact rr.sz) (fun h' hk x hx => ?_) fun h' hm hs => ?_
  · exact nestedKind_stays.tuple ((key_is I (rr.kn.all x hx).1 (rr.kn.all x hx).2))
  · exact nestedKind_stays.stays (fun b o vs n e _ => hk b o e) (key_is I (rr.kn.all x hx).1 (rr.kn.all x hx).2)
  · rw [storedAllH_nil_of_nodup ys rr.nd] at hm
    have kp : ∀ b u, s.heap.get? b = some u → h'.get? b = some u := fun b u e => (hs.2 b (Nat.ne_of_lt (Heap.lt_size e))).trans (Heap.get?_push_of_some _ e)
    obtain ⟨H', I', fr, b', d'⟩ := Dc.laid (t' := s.toks) I kp (Nat.le_refl _) hm rr.kn rr.sz
    exact ⟨.ref s.heap.objs.size, H', I', rfl, q _ H' fr b' d'⟩
end
/-! ### two dicts with the same keys in the same order, and the same ints -/
section
variable {prog : Program} {w : World} {K : Type} [DecidableEq K] {knd : HeapKind prog w K} {A : Around} {E : Value → Shared → Prop} {s : Shared}
def SameI : List (K × Addr × Value) → List (K × Addr × Value) → Prop := Paired fun p q => p.1 = q.1 ∧ ∃ i t u, p.2.2 = .int i t ∧ q.2.2 = .int i u
theorem SameI.at {xs ys : List (K × Addr × Value)} (h : SameI xs ys) : ∀ {j : Nat} {p : K × Addr × Value}, xs[j]? = some p → ∃ q, ys[j]? = some q ∧ p.1 = q.1 ∧ ∃ i t u, p.2.2 = .int i t ∧ q.2.2 = .int i u := by
  unfold SameI at h
  induction h with
  | nil => intro j p e; simp at e
  | cons a b ih =>
    intro j p e
    cases j with
    | zero => simp at e; subst e; exact ⟨_, rfl, a⟩
    | succ j =>
      obtain ⟨q, h1, h2⟩ := ih (j := j) (by simpa using e)
      exact ⟨q, by simpa using h1, h2⟩
theorem same_pairsH {nm : String} {a b : Addr} {xs ys : List (K × Addr × Value)} {Q : Bool → Shared → Prop} (hu : knd.room A) (ha : (a == sysModules) = false) (hb : (b == sysModules) = false)
    (da : s.heap.DictOfH knd a xs) (db : s.heap.DictOfH knd b ys) (hs : SameI xs ys) (h : Q true s) : wpAny (model prog w) A (Builtin.Dict.samePairs nm a b) Q E s := by
  obtain ⟨oa, es, ep, hoa, _, hda, hea, hia, hna⟩ := da
  obtain ⟨ob, es', ep', hob, _, hdb, heb, hib, hnb⟩ := db
  have la : es.size = xs.length := size_of_entries hea
  have lb : es'.size = ys.length := size_of_entries heb
  have lxy : xs.length = ys.length := Paired.length hs
  have hsz : es.size = es'.size := by omega
  unfold Builtin.Dict.samePairs Builtin.Dict.showsAll
  rw [if_neg (show ¬ (a == sysModules) = true by rw [ha]; exact Bool.false_ne_true), if_neg (show ¬ (b == sysModules) = true by rw [hb]; exact Bool.false_ne_true)]
  refine wpAny_bind (wpAny_pure (wpAny_bind (wpAny_pure ?_)))
  refine wpAny_bind (wpAny_dictEntries hoa hda ?_)
  dsimp only
  refine wpAny_bind (wpAny_dictEntries hob hdb ?_)
  rw [if_neg (by rw [hsz]; simp)]
  refine wpAny_bind (wpAny_dictEpoch hoa hda ?_)
  refine wpAny_bind ?_
  rw [Std.Legacy.Range.forIn_eq_forIn_range']
  simp only [Std.Legacy.Range.size, Nat.sub_zero, Nat.add_sub_cancel, Nat.div_one]
  refine wpAny_forIn_list _ (fun rest q s' => s' = s ∧ q = (none, ()) ∧ ∀ x ∈ rest, x < es.size) _ ?_ ?_ _ _ ⟨rfl, rfl, fun x hx => by rw [List.mem_range'] at hx; omega⟩
  · rintro x rest q s' ⟨rfl, rfl, hr⟩
    have hlt : x < es.size := hr x List.mem_cons_self
    have hx : xs[x]? = some (xs[x]'(by omega)) := List.getElem?_eq_getElem (by omega)
    generalize xs[x]'(by omega) = px at hx
    obtain ⟨qy, hy, ek, iv, t1, t2, v1, v2⟩ := hs.at hx
    have e1 := entry_at hea x
    rw [hx] at e1
    refine wpAny_bind (wpAny_dictEntries hoa hda ?_)
    rw [e1]
    show wpAny _ _ (holding [Value.ref px.2.1, px.2.2] _ >>= _) _ _ _
    refine wpAny_bind (wpAny_holding (wpAny_bind ?_))
    refine wpAny_dictFind_heap (k := px.1) hu (hia px (List.mem_of_getElem? hx)) hob hdb heb hib hnb (fun hno => ?_) (fun j p hj => ?_)
    · exact absurd (show ys[x]? = some (px.1, qy.2) by rw [hy, ek]) (hno x qy.2)
    · have ej : j = x := idxH_unique hnb hj (show ys[x]? = some (px.1, qy.2) by rw [hy, ek])
      subst ej
      rw [hy] at hj
      have ep : qy.2 = p := congrArg Prod.snd (Option.some.inj hj)
      have e2 := entry_at heb j
      rw [hy] at e2
      refine wpAny_bind (wpAny_dictEntries hob hdb ?_)
      rw [e2]
      show wpAny _ _ (holding [qy.2.2] (eqBool px.2.2 qy.2.2)) _ _ _
      rw [v1, v2]
      refine wpAny_holding (wpAny_eqBool_int ?_)
      rw [beq_self_eq_true]
      show wpAny _ _ (if (!true) = true then _ else _) _ _ _
      rw [if_neg (by decide)]
      refine wpAny_bind (wpAny_dictEpoch hoa hda ?_)
      rw [if_neg (by simp)]
      exact wpAny_pure ⟨rfl, rfl, fun y hy => hr y (List.mem_cons_of_mem _ hy)⟩
  · rintro q s' ⟨rfl, rfl, _⟩
    exact wpAny_pure h
theorem ne_dictsH {a b : Addr} {xs ys : List (K × Addr × Value)} {Q : Value → Shared → Prop} (hu : A.units < cLine) (hr : knd.room A.in1) (ha : (a == sysModules) = false) (hb : (b == sysModules) = false)
    (da : s.heap.DictOfH knd a xs) (db : s.heap.DictOfH knd b ys) (hs : SameI xs ys) (h : Q (.bool false) s) : wpAny (model prog w) A (compareOp .NotEq (.ref a) (.ref b)) Q E s := by
  refine wpAny_richCompare_same_room (op := .NotEq) da.typeIs db.typeIs PySem.F.slot_dict_ne (wpAny_call_entry PySem.F.slot_dict_ne da.typeIs PySem.F.entry_dict_ne ?_ (PySem.F.args_dict_ne_2 _ _)) hu
  show wpAny _ _ (Builtin.Dict.dictSlotArgs "__ne__" ⟨[.ref a, .ref b], []⟩ >>= _) _ _ s
  refine wpAny_bind ?_
  unfold Builtin.Dict.dictSlotArgs
  refine wpAny_bind (wpAny_notOrdered_dict da.typeIs (wpAny_pure ?_))
  refine wpAny_bind (wpAny_isInstance (T := "dict") db.typeIs PySem.F.sub_dict_dict ?_)
  simp only [Bool.not_true, Bool.false_eq_true, if_false]
  refine wpAny_bind (wpAny_pure (wpAny_bind (wpAny_pure (wpAny_bind (same_pairsH hr ha hb da db hs (wpAny_pure ⟨_, rfl, (fun x => nomatch x), h⟩))))))
end
section
variable {X : Cx}
/-- a != b of such two dicts -/
def rNeN (P : Program) (w : World) : R2 := fun x y H Q => ∃ a b ks ls, x = .ref a ∧ y = .ref b ∧ Dc P w H a ks ∧ Dc P w H b ls ∧ Paired (fun p q => p.1 = q.1 ∧ ∃ i, p.2 = V.int i ∧ q.2 = V.int i) ks ls ∧ Q (.bl false) H
theorem sameI_of {H : Hp} : ∀ {ks ls : List (NestedKey × V)} {xs ys : List (NestedKey × Addr × Value)}, KN H ks xs → KN H ls ys → Paired (fun p q => p.1 = q.1 ∧ ∃ i, p.2 = V.int i ∧ q.2 = V.int i) ks ls → SameI xs ys
  | _, _, _, _, .nil, .nil, .nil => .nil
  | _, _, _, _, .cons a b, .cons c d, .cons e f => by
    refine .cons ⟨a.1.symm.trans (e.1.trans c.1), ?_⟩ (sameI_of b d f)
    obtain ⟨i, h1, h2⟩ := e.2
    have z1 := a.2.2
    have z2 := c.2.2
    rw [h1] at z1
    rw [h2] at z2
    obtain ⟨t, ht⟩ := (show ∃ t, _ = Value.int i t from z1)
    obtain ⟨u, hu⟩ := (show ∃ t, _ = Value.int i t from z2)
    exact ⟨i, t, u, ht, hu⟩
theorem op_ne_n (hu : X.A.units + 64 < cLine) : OpR X (compareOp .NotEq) (rNeN X.prog X.w) := by
  intro pins s σ H x y v u Q I rx ry h
  obtain ⟨a, b, ks, ls, rfl, rfl, da, db, hp, q⟩ := h
  cases (show v = Value.ref a from rx)
  cases (show u = Value.ref b from ry)
  obtain ⟨ob, es, ep, xs, h1, r1⟩ := da
  obtain ⟨ob2, es2, ep2, ys, h2, r2⟩ := db
  exact ne_dictsH (by omega) (nroom hu) r1.sm r2.sm (r1.ofH I h1) (r2.ofH I h2) (sameI_of r1.kn r2.kn hp) ⟨.bl false, H, I, rfl, q⟩
/-! ### isinstance of such a dict -/
theorem call_isi_n : CallR X (.builtin "isinstance") (fun xs H Q => ∃ (d : Addr) (kvs : List (NestedKey × V)) (T : String) (b : Bool), xs = [V.ref d, .ty T] ∧ Dc X.prog X.w H d kvs ∧ PySem.W.kitOne X.K (.type "dict") (.type T) = some b ∧ Q (.bl b) H) := by
  intro pins s σ H xs us Q I r h
  obtain ⟨d, kvs, T, b, rfl, ⟨ob, es, ep, ys, h1, rr⟩, hk, q⟩ := h
  obtain ⟨u1, u2, rfl, r1, r2⟩ := vals2 r
  cases (show u1 = Value.ref d from r1)
  cases (show u2 = Value.type T from r2)
  exact PySem.W.kia_one PySem.W.kitx_dict I.kIn ⟨ob, Inv.dget I h1, rr.ex.1⟩ hk (fun z => nomatch z) fun tk => ⟨.bl b, H, I.tok tk, rfl, q⟩
end
/-! ### data: reading, sorted, min -/
mutual
theorem Nk.reads {P : Program} {w : World} {H : Hp} {h : Heap} (ok : HOk P w H h) : ∀ (k : NestedKey) (v : V) (u : Value), Nk H v k → RelV v u → Reads h u k.data []
  | .none, _, u, .non, r => by cases (show u = Value.none from r); exact .none
  | .num i, _, u, .int _, r => by obtain ⟨t, rfl⟩ := (show ∃ t, u = Value.int i t from r); exact .int i t
  | .text x, _, u, .str _, r => by obtain ⟨t, rfl⟩ := (show ∃ t, u = Value.str x t from r); exact .str x t
  | .tup ks, _, u, @Nk.tup _ a vs _ e aa, r => by
    obtain ⟨z, its, rv, ob, h1, h2, n, h3⟩ := (show ObjOk P w H h a (.tup vs) from ok a _ e)
    cases (show u = Value.ref a from r)
    rw [NestedKey.data]
    exact .tuple h1 h2 h3 (NkA.reads ok ks vs its aa rv)
theorem NkA.reads {P : Program} {w : World} {H : Hp} {h : Heap} (ok : HOk P w H h) : ∀ (ks : List NestedKey) (vs : List V) (us : List Value), NkA H vs ks → Vals vs us → ReadsAll h us (NestedKey.datas ks) []
  | [], _, us, .nil, r => by cases r; rw [NestedKey.datas]; exact .nil
  | k :: ks, _, us, .cons a b, r => by
    cases r with
    | cons r1 r2 =>
      rw [NestedKey.datas]
      exact .cons (as := []) (bs := []) (Nk.reads ok k _ _ a r1) (NkA.reads ok ks _ _ b r2)
end
theorem datas_map : ∀ ks : List NestedKey, NestedKey.datas ks = ks.map NestedKey.data
  | [] => by rw [NestedKey.datas]; rfl
  | k :: ks => by rw [NestedKey.datas, datas_map ks]; rfl
section
open PySem.W
/-- an order's list of data: what sorted and min ask -/
structure Srt (ks : List NestedKey) : Prop where
  al : AllAlike (ks.map NestedKey.data)
  so : Sortable (ks.map NestedKey.data)
  dp : ∀ k ∈ ks, k.data.depth ≤ 8
  sz : ks.length ≤ sizeLine
theorem each_of {H : Hp} {P : Program} {w : World} {h : Heap} (ok : HOk P w H h) : ∀ {vs : List V} {ks : List NestedKey} {us : List Value}, Paired (Nk H) vs ks → Vals vs us → EachIs (fun u k => ∃ v, RelV v u ∧ Nk H v k) us ks
  | _, _, _, .nil, r => by cases r; exact .nil
  | _, _, _, .cons a b, r => by
    cases r with
    | cons r1 r2 => exact .cons ⟨_, r1, a⟩ (each_of ok b r2)
theorem of_each {H : Hp} : ∀ {us : List Value} {ks : List NestedKey}, EachIs (fun u k => ∃ v, RelV v u ∧ Nk H v k) us ks → ∃ vs, Vals vs us ∧ Paired (Nk H) vs ks
  | _, _, .nil => ⟨[], .nil, .nil⟩
  | _, _, .cons a b => by
    obtain ⟨v, r, n⟩ := a
    obtain ⟨vs, rs, ns⟩ := of_each b
    exact ⟨v :: vs, .cons r rs, .cons n ns⟩
theorem each_mono {α β : Type} {R S : α → β → Prop} (f : ∀ a b, R a b → S a b) : ∀ {us : List α} {ks : List β}, EachIs R us ks → EachIs S us ks
  | _, _, .nil => .nil
  | _, _, .cons a b => .cons (f _ _ a) (each_mono f b)
theorem minD_mem (x : PyData) (xs : List PyData) : minD x xs ∈ x :: xs := by
  unfold minD
  induction xs generalizing x with
  | nil => simp
  | cons y ys ih =>
    rw [List.foldl_cons]
    have h := ih (if dataLt y x = true then y else x)
    rcases List.mem_cons.mp h with e | e
    · rw [e]
      by_cases c : dataLt y x = true
      · rw [if_pos c]; simp
      · rw [if_neg c]; simp
    · exact List.mem_cons_of_mem _ (List.mem_cons_of_mem _ e)
variable {X : Cx}
abbrev ksort (ks : List NestedKey) : List NestedKey := ks.mergeSort (dataLe false NestedKey.data)
/-- sorted(list) -/
theorem cr_sortedK : CallR X (.builtin "sorted") (fun xs H Q => ∃ (l : Addr) (vs : List V) (ks : List NestedKey), xs = [.ref l] ∧ X.A.units + 64 < cLine ∧ SqL X.K H l vs ∧ Paired (Nk H) vs ks ∧ Srt ks ∧ ∀ p ys, H p = none → Paired (Nk H) ys (ksort ks) → Q (.ref p) (upd H p (.lst ys))) := by
  intro pins s σ H xs us Q I r h
  obtain ⟨l, vs, ks, rfl, hu, hl, hp, ho, q⟩ := h
  obtain ⟨u, rfl, rx⟩ := vals1 r
  cases (show u = Value.ref l from rx)
  obtain ⟨its, rv, pl, hz⟩ := I.list hl
  have e1 := each_of I.hok hp rv
  have lk : vs.length = ks.length := Paired.length hp
  refine sorted_data (β := NestedKey) (enc := NestedKey.data) (bs := ks) pl.isList e1 (each_mono (fun u k ⟨v, r, n⟩ => ⟨[], Nk.reads I.hok k v u n r⟩) e1) ho.al ho.so ho.sz (fun b hb => by have := ho.dp b hb; omega) fun out lo eo => ?_
  obtain ⟨ys, ry, ny⟩ := of_each eo
  obtain ⟨n, hn⟩ := sortedAll_at s.heap its (List.toArray out)
  have lys : ys.length = out.length := ry.length
  refine ⟨.ref (s.heap.objs.size + 1), _, I.laid (t' := s.toks) (o := .lst ys) (fun b o e => sortedAll_old e) (Nat.le_succ _) ⟨by have := ho.sz; omega, out, n, ry, hn⟩, rfl, q _ ys (I.hok.fresh (Nat.le_succ _)) ny⟩
/-- sorted(d): its keys -/
theorem cr_sortedN (hc : X.calm = true) : CallR X (.builtin "sorted") (fun xs H Q => ∃ (d : Addr) (kvs : List (NestedKey × V)), xs = [.ref d] ∧ X.A.units + 64 < cLine ∧ Dc X.prog X.w H d kvs ∧ Srt (kvs.map (·.1)) ∧ ∀ p ys, H p = none → Paired (Nk H) ys (ksort (kvs.map (·.1))) → Q (.ref p) (upd H p (.lst ys))) := by
  intro pins s σ H xs us Q I r h
  obtain ⟨d, kvs, rfl, hu, ⟨o, es, ep, ks, h1, rr⟩, ho, q⟩ := h
  obtain ⟨u, rfl, rx⟩ := vals1 r
  cases (show u = Value.ref d from rx)
  have hd := Inv.dget I h1
  have l1 : es.size = ks.length := size_of_entries rr.en
  have l2 : kvs.length = ks.length := Paired.length rr.kn
  have z := rr.sz
  refine Calls.call_function_entry PyProof.Rows.kind_sorted PyProof.Rows.plain_sorted PyProof.Rows.entry_sorted (PyProof.Rows.args_sorted1 _) ?_
  unfold Builtin.«sorted»
  refine wpAny_bind (m := checkCount "sorted" 1 1 _) (wpAny_pure ?_)
  refine wpAny_bind (kdu_collect (A := X.A.in1) (kdl_raw rr.sm rr.ex rr.dt) (I.ok.hd hc) hd (by omega) fun h' tk acc hk hacc => ?_)
  have I1 : Inv X pins σ H { s with heap := h', toks := tk } := I.kept hk
  have ea : acc.toList = ks.map fun x => Value.ref x.2.1 := by
    have hl : acc.toList.length = ks.length := by rw [Array.length_toList, hacc.1]; exact l1
    refine List.ext_getElem? fun j => ?_
    rw [List.getElem?_map]
    cases hj : acc.toList[j]? with
    | none =>
      have h1 := List.getElem?_eq_none_iff.mp hj
      rw [List.getElem?_eq_none (by omega)]
      all_goals rfl
    | some v =>
      obtain ⟨en, hen, hv⟩ := hacc.2 j v (by rw [← Array.getElem?_toList]; exact hj)
      have qe := entry_at rr.en j
      rw [hen] at qe
      cases hb : ks[j]? with
      | none => rw [hb] at qe; cases qe
      | some b =>
        rw [hb] at qe
        have e2 : en = entryOfKey (nestedKind X.prog X.w) b := Option.some.inj qe
        rw [hv, e2]
        all_goals rfl
  have lacc : acc.toList.length = ks.length := by rw [ea, List.length_map]
  have e1 : EachIs (fun u k => ∃ v, RelV v u ∧ Nk H v k) acc.toList (kvs.map (·.1)) := by
    rw [ea, rr.kn.keys]
    have all : ∀ l : List (NestedKey × Addr × Value), (∀ x ∈ l, Nk H (.ref x.2.1) x.1) → EachIs (fun u k => ∃ v, RelV v u ∧ Nk H v k) (l.map fun x => Value.ref x.2.1) (l.map (·.1)) := by
      intro l
      induction l with
      | nil => intro _; exact .nil
      | cons x l ih => intro hx; exact .cons ⟨V.ref x.2.1, rfl, hx x List.mem_cons_self⟩ (ih fun y hy => hx y (List.mem_cons_of_mem _ hy))
    exact all ks fun x hx => (rr.kn.all x hx).1
  refine wpAny_bind (wpAny_newList ?_ (by omega))
  have hoL : (h'.push (seqObj "list" acc.toList.toArray 0)).get? h'.objs.size = some (seqObj "list" acc.toList.toArray 0) := Heap.get?_push_size _ rfl
  have ok2 : HOk X.prog X.w H (h'.push (seqObj "list" acc.toList.toArray 0)) := I1.hok.kept fun b u e => Heap.get?_push_of_some _ e
  show wpAny _ _ _ _ _ { s with heap := h'.push (seqObj "list" acc.toList.toArray 0), toks := tk }
  refine wpAny_bind (wpAny_holding (list_sort_data (A := X.A.in1) (β := NestedKey) (enc := NestedKey.data) (bs := kvs.map (·.1)) (s := { s with heap := h'.push (seqObj "list" acc.toList.toArray 0), toks := tk }) hoL e1 (each_mono (fun u k ⟨v, r, n⟩ => ⟨[], Nk.reads ok2 k v u n r, by simp⟩) e1) ho.al ho.so ho.sz (fun b hb => by have := ho.dp b hb; show X.A.units + 1 + 1 + _ < _; omega) fun out lo eo => ?_))
  obtain ⟨ys, ry, ny⟩ := of_each eo
  obtain ⟨n, hn⟩ := sortedHeap_at (vs := acc.toList) (out := List.toArray out) hoL
  have lys : ys.length = out.length := ry.length
  refine wpAny_pure ⟨_, rfl, .ref h'.objs.size, upd H h'.objs.size (.lst ys), I1.laid (t' := tk) (fun b u e => ?_) (Nat.le_refl _) (show ObjOk X.prog X.w _ _ _ (.lst ys) from ⟨by have := ho.sz; omega, out, n, ry, hn⟩), rfl, q _ ys (I1.hok.fresh (Nat.le_refl _)) ny⟩
  have hb : b < h'.objs.size := Heap.lt_size e
  rw [sortedHeap_old (Nat.ne_of_lt hb) (by rw [size_push']; exact Nat.lt_succ_of_lt hb)]
  exact Heap.get?_push_of_some _ e
/-- min(list), not empty -/
theorem cr_minKey (hc : X.calm = true) : CallR X (.builtin "min") (fun xs H Q => ∃ (l : Addr) (vs : List V) (k : NestedKey) (ks : List NestedKey), xs = [.ref l] ∧ X.A.units + 64 < cLine ∧ SqL X.K H l vs ∧ Paired (Nk H) vs (k :: ks) ∧ Srt (k :: ks) ∧ ∀ v, v ∈ vs → (∃ k', Nk H v k' ∧ k' ∈ k :: ks ∧ k'.data = minD k.data (ks.map NestedKey.data)) → Q v H) := by
  intro pins s σ H xs us Q I r h
  obtain ⟨l, vs, k, ks, rfl, hu, hl, hp, ho, q⟩ := h
  obtain ⟨u, rfl, rx⟩ := vals1 r
  cases (show u = Value.ref l from rx)
  obtain ⟨its, rv, pl, hz⟩ := I.list hl
  have rd := NkA.reads I.hok (k :: ks) vs its (NkA.of hp) rv
  rw [datas_map, List.map_cons] at rd
  have hal : AlikeAll (k.data :: ks.map NestedKey.data) := by
    refine ⟨fun x hx y hy => ho.al x ?_ y ?_, fun x hx => ?_⟩
    · rw [List.map_cons]; exact hx
    · rw [List.map_cons]; exact hy
    · rcases ho.so with z | z
      · obtain ⟨a, b, e⟩ := z x (by rw [List.map_cons]; exact hx)
        rw [e]; exact fun q => nomatch q
      · exact (z x (by rw [List.map_cons]; exact hx)).1
  have dpa : PyData.depthAll (k.data :: ks.map NestedKey.data) ≤ 8 := by
    have all : ∀ l : List NestedKey, (∀ x ∈ l, x.data.depth ≤ 8) → PyData.depthAll (l.map NestedKey.data) ≤ 8 := by
      intro l
      induction l with
      | nil => intro _; rw [List.map_nil, PyData.depthAll]; omega
      | cons x l ih =>
        intro hx
        rw [List.map_cons, PyData.depthAll]
        have h1 := hx x List.mem_cons_self
        have h2 := ih fun y hy => hx y (List.mem_cons_of_mem _ hy)
        omega
    exact all (k :: ks) ho.dp
  refine min_list_data (I.ok.hd hc) pl.isList (as := []) (by simpa using rd) hal (by omega) fun i v h' tk bs hv rr hk => ?_
  have hv' : its[i]? = some v := by simpa using hv
  have I' : Inv X pins σ H { s with heap := h', toks := tk } := I.kept hk
  obtain ⟨x, hx, rxv⟩ : ∃ x, vs[i]? = some x ∧ RelV x v := by
    have hlt := (List.getElem?_eq_some_iff.mp hv').1
    have hx : vs[i]? = some (vs[i]'(by rw [rv.length]; exact hlt)) := List.getElem?_eq_getElem _
    obtain ⟨u, h1, h2⟩ := rv.get hx
    rw [hv'] at h1
    cases h1
    exact ⟨_, hx, h2⟩
  obtain ⟨k', hk', nk'⟩ := (NkA.of hp).get' hx
  have mk' : k' ∈ k :: ks := List.mem_of_getElem? hk'
  refine ⟨x, H, I', rxv, q x (List.mem_of_getElem? hx) ⟨k', nk', mk', ?_⟩⟩
  have r1 := Nk.reads I'.hok k' x v nk' rxv
  have mm : minD k.data (ks.map NestedKey.data) ∈ k.data :: ks.map NestedKey.data := minD_mem _ _
  exact alike_unique _ _ _ _ _ (hal.1 _ (by rw [← List.map_cons]; exact List.mem_map_of_mem mk') _ mm) r1 rr
end
end K19
set_option maxHeartbeats 4000000
namespace K19
open PySem PySem.Spec PyProof.Rows L2
/-! ### d.values() -/
section
variable {P : Program} {w : World} {K : PySem.W.Frag} {tg : Expr} {d : Addr} {o : Obj} {es : Array DictEntry} {ep : Nat}
theorem KN.at {H : Hp} {kvs : List (NestedKey × V)} {xs : List (NestedKey × Addr × Value)} (r : KN H kvs xs) : ∀ {i : Nat} {p : NestedKey × V}, kvs[i]? = some p → ∃ x, xs[i]? = some x ∧ RelV p.2 x.2.2 := by
  unfold KN at r
  induction r with
  | nil => intro i p e; simp at e
  | cons a b ih =>
    intro i p e
    cases i with
    | zero => simp at e; subst e; exact ⟨_, rfl, a.2.2⟩
    | succ i => exact let ⟨x, h1, h2⟩ := ih (i := i) (by simpa using e); ⟨x, by simpa using h1, h2⟩
theorem turn_nv {kvs : List (NestedKey × V)} {xs : List (NestedKey × Addr × Value)} {H0 : Hp} (it : Addr) (ex : o.ExactDict) (hod : o.data = .dict es ep) (he : es.toList = xs.map (entryOfKey (nestedKind P w))) (kn : KN H0 kvs xs) :
    Turn P w K tg (Itnv d (dO d o) kvs) [it] it (fun i h => h.IsValIter it d i es.size ep) where
  mem := by simp
  obj := fun i h st b hb => by
    obtain ⟨oi, e, c, dd⟩ := st
    obtain rfl : b = it := by simpa using hb
    exact ⟨oi, e, fun v z => by rw [dd] at z; cases z⟩
  keep := fun i h h' st k => let ⟨oi, e, c⟩ := st; ⟨oi, k it (by simp) oi e, c⟩
  item := by
    rintro X rfl rfl rfl hc i pins s σ H E I hf st ⟨hd, hi⟩
    obtain ⟨f0, f1, f2, f3, f4, f5⟩ := hf it (by simp)
    have hgd := Inv.dget I hd
    have hsz := size_of_entries he
    have hl : kvs.length = xs.length := Paired.length kn
    have hk : kvs[i]? = some kvs[i] := List.getElem?_eq_getElem hi
    obtain ⟨x, hx, rx⟩ := kn.at hk
    have qe := entry_at he i
    rw [hx] at qe
    have hlt : i < es.size := by omega
    have ev : es[i].val = x.2.2 := by
      rw [Array.getElem?_eq_getElem hlt] at qe
      exact congrArg DictEntry.val (Option.some.inj qe)
    refine wpAny_pyNext_values_item_raw st ⟨o, hgd, ex, hod⟩ hlt fun h' st' sb => ?_
    have I1 : Inv X pins σ H { s with heap := h' } := I.turned (t' := s.toks) (fun b ob hb e => (sb.2 b hb).trans e) f0 f1 f3 f4 f5
    obtain ⟨oi, e, c, dd⟩ := id st'
    exact ⟨_, rfl, go_of (s := { s with heap := h' }) e c dd (by decide) ⟨kvs[i].2, H, I1, by rw [ev]; exact rx, ⟨rfl, kvs[i].1, hk⟩, st', fun b hb => (hf b hb).1⟩⟩
  done := by
    rintro X rfl rfl rfl hc i pins s σ H E I hf st ⟨hd, hi⟩
    obtain ⟨f0, f1, f2, f3, f4, f5⟩ := hf it (by simp)
    have hsz := size_of_entries he
    have hl : kvs.length = xs.length := Paired.length kn
    exact wpAny_pyNext_values_end_raw (I.ok.hd hc) st ⟨o, Inv.dget I hd, ex, hod⟩ (by omega) fun h' eb => ⟨rfl, I.turned (t' := s.toks) (fun b ob hb e => eb b ob hb e) f0 f1 f3 f4 f5⟩
  self := fun A i s Q E st h => wpAny_pyIter_valiter st h
end
section
variable {X : Cx} {tg e : Expr} {td : TE} {apos cpos : Pos}
def iNV (P : Program) (w : World) (td : TE) : TI := fun σ H R => td σ H fun x H1 => ∃ d kvs, x = .ref d ∧ Dc P w H1 d kvs ∧ ∀ φ, H1 d = some φ → R (Itnv d φ kvs) H1
theorem pi_nvals (he : PE X e td) (hbase : attributeBase e "values" X.env (eval e X.env) = eval e X.env := by rfl) (hline : (apos.endLine == cpos.line) = true := by rfl) : PI X tg (.Call (.Attribute e "values" apos) [] [] cpos) (iNV X.prog X.w td) := by
  refine ⟨fun pins s σ H R I h => wpAny_Call_method (T := "dict") (id := "dict.values") hbase rfl hline F.plainAttrs_dict F.slot_dict_values F.type_dict_values (thn (he.run pins s σ H _ I h) ?_)⟩
  rintro u s1 ⟨x, H1, I1, rx, d, kvs, ex, dd, q⟩
  subst ex
  cases (show u = Value.ref d from rx)
  obtain ⟨t1, t2, _⟩ := nd_at I1 dd
  obtain ⟨o, es, ep, xs, h1, r⟩ := dd
  refine ⟨t1, t2, ?_⟩
  have raw : s1.heap.DictRaw d es ep := ⟨o, Inv.dget I1 h1, r.ex, r.dt⟩
  have I2 : Inv X pins σ H1 { s1 with heap := s1.heap.push { cls := .type "dict_values", data := .fields #[.ref d] } } := I1.kept (t' := s1.toks) fun b ob q => Heap.get?_push_of_some _ q
  have fin : wpAny (model X.prog X.w) X.A (pyIter (.ref s1.heap.objs.size)) (PIE X pins σ tg R) X.xe { s1 with heap := s1.heap.push { cls := .type "dict_values", data := .fields #[.ref d] } } :=
    wpAny_pyIter_values_raw (d := d) ⟨_, Heap.get?_push_size _ rfl, rfl, rfl⟩ (raw.at fun o e => Heap.get?_push_of_some _ e) (pi_one (tk := s1.toks) I2 _ (turn_nv _ r.ex r.dt r.en r.kn) ⟨_, Heap.get?_push_size _ rfl, rfl, rfl⟩ (q _ h1))
  show wpAny _ _ (callWith cpos (.builtin "dict.values") [.ref d] [] []) _ X.xe s1
  exact method_meetsIn F.slot_dict_values F.entry_dict_values rfl (PySem.evalArgs_none ⟨rfl, t1, F.args_dict_values_1 _, _, meets_dict_values_raw d r.sm, ⟨es, ep, raw⟩, fin⟩)
end
/-! ### {k: v for target in iter}, keys nested -/
section
variable {X : Cx}
theorem n_dictSet {pins : List (Addr × Obj)} {σ : L2.St} {H : Hp} {s : Shared} {E : Value → Shared → Prop} {D c : Addr} {kvs : List (NestedKey × V)} {k : NestedKey} {v : V} {r : Value} {Q : Unit → Shared → Prop} (hu : X.A.units + 64 < cLine) (I : Inv X pins σ H s) (hD : Dc X.prog X.w H D kvs) (hz : kvs.length < sizeLine)
    (hk : Nk H (.ref c) k) (dp : k.depth ≤ 8) (rv : RelV v r) (h : ∀ H' s', But D H H' → Dc X.prog X.w H' D (putK kvs k v) → Inv X pins σ H' s' → Q () s') : wpAny (model X.prog X.w) X.A (dictSet D (.ref c) r) Q E s := by
  obtain ⟨ob, es, ep, xs, h1, rr⟩ := id hD
  have hl : kvs.length = xs.length := Paired.length rr.kn
  refine wpAny_dictSet_heap (hsz := by omega) (show X.A.units + 8 < cLine by omega) (key_is I hk dp) (rr.ofH I h1) fun h' hm hs => ?_
  obtain ⟨H4, I4, b4, x4⟩ := Dc.wrote (t' := s.toks + (nestedKind X.prog X.w).draws k) I hD hs hm (rr.kn.put k ⟨hk, dp⟩ rv) (Nat.le_trans (length_putK _ _ _) hz)
  exact h H4 _ b4 x4 I4
def tDcN (P : Program) (w : World) (wi : TI) (g : TG) (tk tv : TE) (vs : List Nat) : TE := fun σ H Q => wi σ H fun J H1 => ∀ D H1', H1 D = none → But D H1 H1' → Dc P w H1' D [] → ∃ W : Nat → Nat → Hp → Prop, (∃ m, W 0 m H1') ∧ ∀ i m H, W i m H →
  (J.stop i H ∧ Q (.ref D) H) ∨ (J.go i H ∧ ∃ Nx : Hp → Prop, (∀ H', Nx H' → ∃ m', m' < m ∧ W (i + 1) m' H') ∧ ∀ x H', J.yld i H x H' → g x (wipe σ vs) H' fun σ2 H2 => wipe σ2 vs = wipe σ vs ∧
    tk σ2 H2 fun y H4 => tv σ2 H4 fun z H5 => ∃ kvs k c, y = .ref c ∧ Nk H5 y k ∧ k.depth ≤ 8 ∧ Dc P w H5 D kvs ∧ kvs.length < sizeLine ∧ ∀ H6, But D H5 H6 → Dc P w H6 D (putK kvs k z) → Nx H6)
abbrev BlkAll (X : Cx) (scope : Scope) (R : Cx → Prop) : Prop := ∀ (s : Shared) (H : Hp) (C : Addr) (cl : List (Str × Addr)) (fp : List Addr), R (X.blk s H scope (compEnvC scope cl C X.env) fp)
theorem pe_dcN {kx vx tg iter : Expr} {scope : Scope} {own : List (Str × Nat)} {pos : Pos} {wi : TI} {g : TG} {tk tv : TE} (hc : X.calm = true) (hu : X.A.units + 64 < cLine) (hN : X.N.Nodup) (hi : PI X tg iter wi) (ok : BlkOk X.N X.env.scope scope own)
    (hg : BlkAll X scope fun Y => PG Y tg g) (hk : BlkAll X scope fun Y => PE Y kx tk) (he : BlkAll X scope fun Y => PE Y vx tv) (hs : ∀ x, foldedSetIterable iter X.env x = pure x := by intro _; rfl) :
    PE X (.DictComp kx vx [⟨tg, iter, [], 0⟩] scope pos) (tDcN X.prog X.w wi g tk tv (own.map (·.2))) := by
  refine ⟨fun pins s σ H Q I h => ?_⟩
  rw [arm_eval_DictComp]
  have cells : ∀ y ∈ scope.names, y.2 = .free → ∃ c, X.env.cells.lookup y.1 = some c := fun y hy e => (ok.free y hy e).elim (fun k => I.ok.has _ (.inl k)) fun k => I.ok.has _ (.inr k)
  refine wpAny_comprehension_free (use := none) rfl hs (closure_ok cells) ok.kind (fun y hy e => by rw [ok.uniq y hy, e]) (thn (hi.run pins s σ H _ I h) fun xv s1 hx => thn hx ?_)
  rintro itv s2 ⟨it, fp, tn, J, H2, rfl, I2, T, st2, f2, q⟩
  refine wpAny_newObj_type (newEnv_comp ?_)
  obtain ⟨H3, I3, fr, b3, d3⟩ := Dc.laid (d := s2.heap.objs.size) (h' := s2.heap.push { cls := .type "dict", data := .dict #[] }) (t' := s2.toks) (kvs' := []) (xs' := []) I2 (fun _ _ q => Heap.get?_push_of_some _ q) (Nat.le_refl _) (Heap.DictOfH.new s2.heap) .nil (Nat.zero_le _)
  obtain ⟨W, ⟨m0, w0⟩, turn⟩ := q _ H3 fr b3 d3
  have lt2 : ∀ b ∈ fp, b < s2.heap.objs.size := fun b hb => let ⟨o, e, _⟩ := T.obj _ _ st2 b hb; Heap.lt_size e
  generalize hD : s2.heap.objs.size = D at *
  generalize e3 : ({ s2 with heap := s2.heap.push { cls := .type "dict", data := .dict #[] } } : Shared) = s3 at I3
  have h3 : s3.heap = s2.heap.push { cls := .type "dict", data := .dict #[] } := by rw [← e3]
  have f3 : ∀ b ∈ fp, FpOk X pins H3 b ∧ b < s3.heap.objs.size := fun b hb => by
    have l := lt2 b hb
    refine ⟨⟨?_, (f2 b hb).2⟩, ?_⟩
    · rw [b3 b (Nat.ne_of_lt l)]; exact (f2 b hb).1
    · rw [h3, Heap.size_push, hD]; exact Nat.lt_succ_of_lt l
  have st3 : tn 0 s3.heap := T.keep _ _ _ st2 fun b _ o e => by rw [h3]; exact Heap.get?_push_of_some _ e
  have I4 := block_start I3 ok hN f3
  have pg := hg s3 H3 s3.heap.objs.size (cellsFrom (s3.heap.objs.size + 1) scope.names (cloFrom X.env.cells scope.names [])) fp
  have pk := hk s3 H3 s3.heap.objs.size (cellsFrom (s3.heap.objs.size + 1) scope.names (cloFrom X.env.cells scope.names [])) fp
  have pv := he s3 H3 s3.heap.objs.size (cellsFrom (s3.heap.objs.size + 1) scope.names (cloFrom X.env.cells scope.names [])) fp
  show codeAny _ _ (.compStart (.DictComp kx vx [⟨tg, iter, [], 0⟩] scope pos) 0 (.ref it) (.ref D) (compEnvC scope (cellsFrom (s3.heap.objs.size + 1) scope.names (cloFrom X.env.cells scope.names [])) s3.heap.objs.size X.env)) (compPost (model X.prog X.w) X.A X.xe none (EP X pins σ Q) (.ref D) s3.heap.objs.size) { s3 with heap := pushCells (s3.heap.push { cls := .type "dict", data := .dict #[] }) scope.names }
  have nfp : ∀ b ∈ fp, H3 b = none := fun b hb => (f3 b hb).1.1
  generalize hce : compEnvC scope (cellsFrom (s3.heap.objs.size + 1) scope.names (cloFrom X.env.cells scope.names [])) s3.heap.objs.size X.env = ce at I4 pg pk pv ⊢
  have cL : ce.locals = s3.heap.objs.size := by subst hce; rfl
  generalize e4 : ({ s3 with heap := pushCells (s3.heap.push { cls := .type "dict", data := .dict #[] }) scope.names } : Shared) = s4 at I4 ⊢
  have st4 : tn 0 s4.heap := T.keep _ _ _ st3 fun b _ o e => by rw [← e4]; exact pushCells_keeps _ _ _ _ (Heap.get?_push_of_some _ e)
  have stat : ∀ {σ' : L2.St} {H' : Hp} {s' : Shared}, Inv (X.blk s3 H3 scope ce fp) [] σ' H' s' → (∀ b ∈ fp, H' b = none) → ∀ b ∈ fp, FpOk (X.blk s3 H3 scope ce fp) [] H' b := fun {σ' H' s'} I' hn b hb =>
    ⟨hn b hb, (I'.ok.exf b hb).1, I'.ok.exfs b hb, .inl hb, fun x c e => (I'.ok.exf b hb).2 x c e, fun p hp => absurd (show p ∈ ([] : List (Addr × Obj)) ++ [] from hp) (by simp)⟩
  have loop : codeAny (model X.prog X.w) X.A (.compLoop (.DictComp kx vx [⟨tg, iter, [], 0⟩] scope pos) 0 (.ref it) (.ref D) ce) (compPost (model X.prog X.w) X.A X.xe none (EP X pins σ Q) (.ref D) s3.heap.objs.size) s4 := by
    refine compLoop_anyD (fun n s' => ∃ i H', Inv (X.blk s3 H3 scope ce fp) [] (wipe σ (own.map (·.2))) H' s' ∧ tn i s'.heap ∧ (∀ b ∈ fp, H' b = none) ∧ W i n H') ?_ m0 ⟨0, H3, I4, st4, nfp, w0⟩
    rintro n s5 ⟨i, H5, I5, st5, n5, w5⟩
    rcases turn i n H5 w5 with ⟨stop, qq⟩ | ⟨go, Nx, hNx, step⟩
    · refine thnF (T.done (X.blk s3 H3 scope ce fp) rfl rfl rfl hc i [] s5 _ H5 (fun _ _ => False) I5 (stat I5 n5) st5 stop) ?_
      rintro r s6 ⟨rfl, I6⟩
      have I7 : Inv X pins σ H5 s6 := I3.call' (ch := fp) I6.os I6.base I6.hok I6.bare fun b hb => let z := (f3 b hb).1; ⟨z.2.2.2.1, z.2.1, z.2.2.2.2.1, z.2.2.2.2.2⟩
      have nC : H5 s3.heap.objs.size = none := by rw [← cL]; exact I6.free
      obtain ⟨m, hn, _⟩ := I6.loc
      have hn : s6.heap.Ns s3.heap.objs.size m := by rw [← cL]; exact hn
      obtain ⟨g0, g1, g2, g3, g4, g5⟩ := I3.fpOk (Nat.le_refl _) nC
      exact ⟨m, hn, fun h'' sb => ⟨.ref D, H5, I7.turned (t' := s6.toks) (fun b o hb e => (sb.2 b hb).trans e) g0 g1 g3 g4 g5, rfl, qq⟩⟩
    · refine thnF (T.item (X.blk s3 H3 scope ce fp) rfl rfl rfl hc i [] s5 _ H5 (fun _ _ => False) I5 (stat I5 n5) st5 go) ?_
      rintro r s6 ⟨u, rfl, h6⟩
      refine thnF h6 ?_
      rintro _ s7 ⟨x, H7, I7, r7, y7, st7, n7⟩
      refine thnF (pg.run _ s7 _ H7 x u _ (I7.pinned (stat I7 n7) (T.obj _ _ st7)) r7 (step x H7 y7)) ?_
      rintro _ s8 ⟨σ8, H8, I8, hw8, q8⟩
      refine wpAny_tests_nil ?_
      simp only [if_true]
      refine thnF (pk.run _ s8 σ8 H8 _ I8 q8) ?_
      rintro z s10 ⟨yk, H10, I10, r10, q10⟩
      refine thnF (pv.run _ s10 σ8 H10 _ I10 q10) ?_
      rintro z2 s11 ⟨yv, H11, I11, r11, kvs, k, c, ek, nk, dp, hD11, hz11, nx⟩
      subst ek
      cases (show z = Value.ref c from r10)
      refine n_dictSet (X := X.blk s3 H3 scope ce fp) hu I11 hD11 hz11 nk dp r11 fun H' s' bb dd I' => ?_
      obtain ⟨m', hm, w'⟩ := hNx H' (nx H' bb dd)
      have pin' : ∀ b ∈ fp, ∀ o, s7.heap.get? b = some o → s'.heap.get? b = some o ∧ H' b = none := fun b hb o e =>
        let z := I'.pin (b, o) (List.mem_append_right _ (List.mem_append_right _ (mem_pinsAt hb e)))
        ⟨z.1, z.2.1⟩
      refine ⟨m', hm, i + 1, H', (I'.unpinned (pins := [])).weak (by rw [← hw8, wipe_length]) (fun j v e => ?_), T.keep _ _ _ st7 fun b hb o e => (pin' b hb o e).1, fun b hb => ?_, w'⟩
      · rw [← hw8] at e
        exact (wipe_some e).1
      · obtain ⟨o, e, _⟩ := T.obj _ _ st7 b hb
        exact (pin' b hb o e).2
  exact codeAny_compStart_dict loop (T.self X.A 0 _ _ _ st4 loop)
end
end K19
set_option maxHeartbeats 4000000
namespace K19
open PySem PySem.Spec PyProof.Rows L2
/-! ### enumerate(t), t a tuple -/
theorem meets_enum1 {v : Value} {o : Obj} {HB : Heap → Prop} (B : Begins v o HB) :
    Meets (Builtin.«enumerate.__new__» ⟨[.type "enumerate", v], []⟩) (fun _ R s => HB s.heap ∧
      R (.ok (.ret (.ref (s.heap.push o).objs.size))) { s with heap := (s.heap.push o).push { cls := .type "enumerate", data := .fields #[.none, .bool false, .ref s.heap.objs.size, rawInt 0, .none, .none] } }) :=
  .of_wp fun prog w A R s h => by
    obtain ⟨hp, g, d, tk, os⟩ := s; obtain ⟨h1, h⟩ := h
    have hsub := sub_enumerate
    have q1 : ∀ {A' : Around} {E : Value → Shared → Prop} {Q : Value → Shared → Prop}, Q (.ref hp.objs.size) ⟨hp.push o, g, d, tk, os⟩ → wpAny (model prog w) A' (pyIter v) Q E ⟨hp, g, d, tk, os⟩ :=
      fun q => B.iter prog w _ _ ⟨hp, g, d, tk, os⟩ _ h1 q
    wp_walk using q1
    refine wpAny_stack_any fun st => wpAny_pure ?_
    split
    · rename_i c _ _ _ _ _
      cases (c == Value.type "enumerate")
      all_goals
        wp_walk using q1
        exact ⟨_, rfl, h⟩
    · wp_walk using q1
      exact ⟨_, rfl, h⟩
theorem enum_begins1 {prog : Program} {w : World} {A : Around} {E : Value → Shared → Prop} {s : Shared} {v : Value} {o : Obj} {HB : Heap → Prop} {Q : Value → Shared → Prop} (B : Begins v o HB) (h1 : HB s.heap)
    (h : ∀ h', IsEnum h' (s.heap.objs.size + 1) s.heap.objs.size 0 .none → h'.get? s.heap.objs.size = some o → (∀ b o, s.heap.get? b = some o → h'.get? b = some o) → Q (.ref (s.heap.objs.size + 1)) { s with heap := h' }) :
    wpAny (model prog w) A (call (.type "enumerate") [v]) Q E s := by
  refine callType_new F.called_enumerate (by decide) (F.typeCall_enumerate_1 _) (F.newCall_enumerate_1 _) (fun obj => F.args_object_init_2 obj _) F.entry_enumerate_new (meets_enum1 B) ⟨h1, ?_⟩
  have hz : (s.heap.push o).objs.size = s.heap.objs.size + 1 := Heap.size_push ..
  show _ ∧ _
  rw [hz]
  have he : IsEnum ((s.heap.push o).push { cls := .type "enumerate", data := .fields #[.none, .bool false, .ref s.heap.objs.size, rawInt 0, .none, .none] }) (s.heap.objs.size + 1) s.heap.objs.size 0 .none := by
    have z := Heap.get?_push_size (s.heap.push o) (o := { cls := .type "enumerate", data := .fields #[.none, .bool false, .ref s.heap.objs.size, rawInt 0, .none, .none] }) rfl
    rw [hz] at z
    exact z
  exact ⟨⟨_, he, rfl⟩, h _ he (Heap.get?_push_of_some _ (Heap.get?_push_size _ B.free)) fun b o x => Heap.get?_push_of_some _ (Heap.get?_push_of_some _ x)⟩
/-- the tuple at a, each item in a new pair with its number -/
def IteT (K : PySem.W.Frag) (a : Addr) : It :=
  ⟨fun i H => ∃ (xs : List V) (x : V), SqT K H a xs ∧ xs[i]? = some x, fun i H v H' => ∃ T x, v = .ref T ∧ H T = none ∧ H' = upd H T (.tup [.int (i : Nat), x]) ∧ ∀ xs, SqT K H a xs → xs[i]? = some x, fun i H => ∃ xs : List V, SqT K H a xs ∧ xs.length = i⟩
theorem walk_enumT {K : PySem.W.Frag} {a : Addr} {xs : List V} : Walk (IteT K a) xs.length (fun H => SqT K H a xs) (YPair (fun i => some (.int (i : Nat))) (fun i => xs[i]?)) :=
  ⟨fun i _ hi q => ⟨xs, xs[i], q, by simp [hi]⟩, fun _ q => ⟨xs, q, rfl⟩, fun i H v H' _ q y => let ⟨T, x, h1, h2, h3, h4⟩ := y; ⟨T, .int (i : Nat), x, h1, h2, h3, rfl, h4 xs q⟩⟩
theorem turn_enumT {P : Program} {w : World} {K : PySem.W.Frag} {elts : List Expr} {kk : Nat} {tpos : Pos} (a e it : Addr) :
    Turn P w K (.Tuple elts kk tpos) (IteT K a) [e, it] e (fun i h => (∃ old, IsEnum h e it ((i : Nat) : Int) old) ∧ h.IsTupleIter it a i ∧ e ≠ it ∧ a ≠ e ∧ a ≠ it) where
  mem := by simp
  obj := fun i h st b hb => by
    obtain ⟨⟨old, he⟩, ⟨o, ho, hc, hd⟩, _⟩ := st
    rcases (show b = e ∨ b = it by simpa using hb) with rfl | rfl
    · exact ⟨_, he, fun v q => nomatch q⟩
    · exact ⟨o, ho, fun v q => by rw [hd] at q; cases q⟩
  keep := fun i h h' st k => let ⟨⟨old, he⟩, hi, r⟩ := st; ⟨⟨old, k e (by simp) _ he⟩, hi.at fun o q => k it (by simp) o q, r⟩
  item := by
    rintro X rfl rfl rfl hc i pins s σ H E I hf ⟨⟨old, he⟩, hit, hne, hae, hai⟩ ⟨xs, x, hq, hx⟩
    obtain ⟨its, rv, p, hz⟩ := I.tuple hq
    obtain ⟨u, hu, ru⟩ := rv.get hx
    have hi : i < its.toArray.size := by simpa using (List.getElem?_eq_some_iff.mp hu).1
    have W := WalksT.enumFrom (prog := X.prog) (w := X.w) (A := X.A) 0 (Draws.tuple (A := X.A.in1) (show X.A.in1.handled = none from I.ok.hd hc) it a hai its.toArray) e hne (by simp [hne, Ne.symm hae]) (by simp)
    refine W.item i s _ _ hi ⟨⟨old, by rw [Int.zero_add]; exact he⟩, hit, p⟩ fun T vals h' tk hv hT hIT mid hk => ⟨_, rfl, W.go elts kk tpos i T { s with heap := h', toks := tk } _ _ mid fun h'' st'' hk2 => ?_⟩
    obtain ⟨t, y, hy, rfl⟩ := hv
    have ey : y = u := by
      have : its.toArray[i]? = some u := by simpa using hu
      rw [this] at hy
      exact (Option.some.inj hy).symm
    subst ey
    have hTw := W.apart i T h' mid
    obtain ⟨oT, hoT, hcT, nT, hdT⟩ := hIT
    have new : ObjOk X.prog X.w (upd H T (.tup [.int (i : Nat), x])) h'' T (.tup [.int (i : Nat), x]) :=
      ⟨by show 2 ≤ sizeLine; decide, [.int (0 + (i : Int)) t, y], .cons ⟨t, by rw [Int.zero_add]⟩ (.cons ru .nil), oT, hk2 _ _ hTw hoT, hcT, nT, hdT⟩
    have I1 : Inv X pins σ (upd H T (.tup [.int (i : Nat), x])) { s with heap := h'', toks := tk } :=
      I.turnedNew (ch := [e, it]) (fun b ob hb q => hk2 _ _ hb (hk b ob hb q)) hf hT new
    obtain ⟨⟨old2, he2⟩, hit2, _⟩ := st''
    refine ⟨.ref T, _, I1, rfl, ⟨T, x, rfl, I.hok.fresh hT, rfl, fun ys hy => by rw [I.tuple_inj hy hq]; exact hx⟩, ⟨⟨old2, ?_⟩, hit2, hne, hae, hai⟩, fun b hb => ?_⟩
    · have e1 : (0 : Int) + ((i + 1 : Nat) : Int) = ((i + 1 : Nat) : Int) := Int.zero_add _
      rw [← e1]; exact he2
    · have hb' : b < s.heap.objs.size := by
        rcases (show b = e ∨ b = it by simpa using hb) with rfl | rfl
        · exact Heap.lt_size he
        · obtain ⟨o, ho, _⟩ := hit; exact Heap.lt_size ho
      rw [upd_ne (Nat.ne_of_lt (Nat.lt_of_lt_of_le hb' hT))]
      exact (hf b hb).1
  done := by
    rintro X rfl rfl rfl hc i pins s σ H E I hf ⟨⟨old, he⟩, hit, hne, hae, hai⟩ ⟨xs, hq, hx⟩
    obtain ⟨its, rv, p, hz⟩ := I.tuple hq
    have hl := rv.length
    have hn : its.toArray.size = i := by simp; omega
    have W := WalksT.enumFrom (prog := X.prog) (w := X.w) (A := X.A) 0 (Draws.tuple (A := X.A.in1) (show X.A.in1.handled = none from I.ok.hd hc) it a hai its.toArray) e hne (by simp [hne, Ne.symm hae]) (by simp)
    subst hn
    exact W.done s _ _ ⟨⟨old, by rw [Int.zero_add]; exact he⟩, hit, p⟩ fun h' tk hk => ⟨rfl, I.turnedL (t' := tk) (ch := [e, it]) (fun b o hb q => hk b o hb q) hf⟩
  self := fun A i s Q E st h => let ⟨⟨_, he⟩, _⟩ := st; wpAny_pyIter_enum he h
section
variable {X : Cx} {tg e : Expr} {td : TE} {apos cpos : Pos}
def iEnumT (K : PySem.W.Frag) (ta : TA) : TI := fun σ H R => ta σ H fun vs H1 => ∃ a xs, vs = [.ref a] ∧ SqT K H1 a xs ∧ R (IteT K a) H1
theorem pi_enumT {ta : TA} {p pos tpos : Pos} {elts : List Expr} {kk : Nat} (hg : Gl X "enumerate") (hm : X.mg "enumerate" = none) (ha : PA X [e] ta) (hs : starEach [e] X.env = [(false, eval e X.env)] := by rfl) :
    PI X (.Tuple elts kk tpos) (.Call (.Name "enumerate" p) [e] [] pos) (iEnumT X.K ta) := by
  refine ⟨fun pins s σ H R I h => Call_ (ld_blt I hg hm boot_enumerate (PyProof.Rows.callWith_type1 (thn (ha.run pos pins s σ H _ I h) ?_) hs rfl))⟩
  rintro us s1 ⟨vs, H1, I1, r1, a, xs, rfl, hq, q⟩
  cases r1 with
  | cons r rr =>
    cases rr
    cases r
    obtain ⟨its, rv, p', hz⟩ := I1.tuple hq
    obtain ⟨oa, hoa, _⟩ := id p'
    have la : a < s1.heap.objs.size := Heap.lt_size hoa
    refine enum_begins1 (begins_tuple a its.toArray) p' fun h' he hit hk => wpAny_pyIter_enum he ?_
    have I2 : Inv X pins σ H1 { s1 with heap := h' } := I1.kept (t' := s1.toks) hk
    refine ⟨s1.heap.objs.size + 1, [s1.heap.objs.size + 1, s1.heap.objs.size], _, _, H1, rfl, I2, turn_enumT a (s1.heap.objs.size + 1) s1.heap.objs.size, ⟨⟨.none, he⟩, ⟨_, hit, rfl, rfl⟩, Nat.succ_ne_self _, by have : a < s1.heap.objs.size := la; exact Nat.ne_of_lt (Nat.lt_succ_of_lt this), Nat.ne_of_lt la⟩, fun b hb => ?_, q⟩
    have hle : s1.heap.objs.size ≤ b := by
      rcases (show b = s1.heap.objs.size + 1 ∨ b = s1.heap.objs.size by simpa using hb) with z | z
      · rw [z]; exact Nat.le_succ _
      · rw [z]; exact Nat.le_refl _
    exact I1.fpOk hle (I1.hok.fresh hle)
end
end K19
set_option maxHeartbeats 4000000
/-! list(zip(t, u)) of two tuples -/
namespace PySem
section
variable {prog : Program} {w : World} {A : Around} {E : Value → Shared → Prop} {s : Shared} {z TI TO T i1 i2 : Addr} {fp1 fp2 : List Addr} {n1 n2 i : Nat} {P1 P2 : Nat → Value → Prop} {St1 St2 : Nat → Heap → Prop} {f : Bool} {oT : Obj}
theorem k19_held_item {Q : Value → Shared → Prop} (S : ZipSep2 z TI TO i1 i2 fp1 fp2) (D1 : Draws prog w A i1 fp1 n1 P1 St1) (D2 : Draws prog w A i2 fp2 n2 P2 St2)
    (hz : IsZipHeld s.heap z TI TO T f) (hT : s.heap.get? T = some oT) (hTI : IsTupOf2 s.heap TI (.ref i1) (.ref i2)) (st1 : St1 i s.heap) (st2 : St2 i s.heap) (hlt1 : i < n1) (hlt2 : i < n2)
    (hQ : ∀ x1 x2 h' tk, P1 i x1 → P2 i x2 → IsZipHeld h' z TI TO T true → St1 (i + 1) h' → St2 (i + 1) h' → IsTupOf2 h' s.heap.objs.size x1 x2 →
      (∀ c o, c ≠ z → c ≠ i1 → c ≠ i2 → s.heap.get? c = some o → h'.get? c = some o) → Q (.ref s.heap.objs.size) { s with heap := h', toks := tk }) :
    wpAny (model prog w) A (Builtin.«zip.__next__» ⟨[.ref z], []⟩) (fun fin s' => ∃ v, fin = .done (.ret v) ∧ Q v s') E s := by
  obtain ⟨hp, g, d, tk0, os⟩ := s
  show wpAny _ _ (field (.ref z) 2 >>= _) _ _ _
  refine wpAny_bind (wpAny_field hz rfl (x := .bool false) rfl ?_)
  show wpAny _ _ (field (.ref z) 3 >>= _) _ _ _
  refine wpAny_bind (wpAny_field hz rfl (x := .ref TI) rfl (wpAny_bind (wpAny_seqItems hTI rfl ?_)))
  show wpAny _ _ (Builtin.SmallTypes.ownedTupleIsFree (.ref z) >>= _) _ _ _
  refine wpAny_bind (wpAny_tupleHeld_zip hz hT fun g0 hz0 hs0 => ?_)
  replace hs0 : Heap.SameBut z hp g0 := hs0
  simp only [Bool.false_eq_true, if_false]
  refine wpAny_bind ?_
  rw [← Array.forIn_toList]
  simp only [List.forIn_cons, List.forIn_nil]
  refine wpAny_bind (wpAny_bind (wpAny_holding ?_))
  show wpAny _ _ (Builtin.SmallTypes.nextOf (.ref i1) >>= _) _ _ ⟨g0, g, d, tk0, os⟩
  refine wpAny_bind (D1.item i _ _ _ hlt1 (D1.over st1 hs0 S.zf1) fun x1 p1 tk1 hx1 sn1 hp1 => wpAny_pure (wpAny_pure ?_))
  replace hp1 : Heap.SameBut i1 g0 p1 := hp1
  refine wpAny_bind (wpAny_bind (wpAny_holding ?_))
  show wpAny _ _ (Builtin.SmallTypes.nextOf (.ref i2) >>= _) _ _ ⟨p1, g, d, tk1, os⟩
  refine wpAny_bind (D2.item i _ _ _ hlt2 (D2.over (D2.over st2 hs0 S.zf2) hp1 S.sep1_2) fun x2 p2 tk2 hx2 sn2 hp2 => wpAny_pure (wpAny_pure (wpAny_pure ?_)))
  replace hp2 : Heap.SameBut i2 p1 p2 := hp2
  show wpAny _ _ (newTuple [x1, x2] >>= _) _ _ ⟨p2, g, d, tk2, os⟩
  refine wpAny_bind (wpAny_newTuple ?_)
  have hsz : p2.objs.size = hp.objs.size := by rw [hp2.1, hp1.1, hs0.1]
  have hzz : IsZipHeld p2 z TI TO T true := hp2.extBut _ _ S.zi2 (hp1.extBut _ _ S.zi1 hz0)
  have hkk : ∀ c o, c ≠ z → c ≠ i1 → c ≠ i2 → hp.get? c = some o → p2.get? c = some o := fun c o cz c1 c2 e => hp2.extBut _ _ c2 (hp1.extBut _ _ c1 (hs0.extBut _ _ cz e))
  have up : ∀ c o, p2.get? c = some o → (p2.push { cls := .type "tuple", data := .seq #[x1, x2] }).get? c = some o := fun c o e => Heap.get?_push_of_some _ e
  refine wpAny_pure ⟨_, rfl, ?_⟩
  show Q (.ref p2.objs.size) ⟨p2.push { cls := .type "tuple", data := .seq #[x1, x2] }, g, d, tk2, os⟩
  rw [hsz]
  refine hQ x1 x2 _ tk2 hx1 hx2 (up _ _ hzz) (D1.frame _ _ _ (D1.over sn1 hp2 S.sep2_1) fun b _ o e => up b o e) (D2.frame _ _ _ sn2 fun b _ o e => up b o e) ?_ fun c o cz c1 c2 e => up c o (hkk c o cz c1 c2 e)
  show (p2.push { cls := .type "tuple", data := .seq #[x1, x2] }).get? hp.objs.size = _
  rw [← hsz]
  exact Heap.get?_push_size _ rfl
theorem k19_held_end {Q : Fin → Shared → Prop} (S : ZipSep2 z TI TO i1 i2 fp1 fp2) (D1 : Draws prog w A i1 fp1 n1 P1 St1) (D2 : Draws prog w A i2 fp2 n2 P2 St2)
    (hz : IsZipHeld s.heap z TI TO T f) (hT : s.heap.get? T = some oT) (hTI : IsTupOf2 s.heap TI (.ref i1) (.ref i2)) (st1 : St1 n1 s.heap)
    (hE : ∀ h' tk e, (∀ c o, c ≠ z → c ≠ i1 → c ≠ i2 → s.heap.get? c = some o → h'.get? c = some o) → (∃ o, h'.get? e = some o ∧ o.cls = .type "StopIteration") → E (.ref e) { s with heap := h', toks := tk }) :
    wpAny (model prog w) A (Builtin.«zip.__next__» ⟨[.ref z], []⟩) Q E s := by
  obtain ⟨hp, g, d, tk0, os⟩ := s
  show wpAny _ _ (field (.ref z) 2 >>= _) _ _ _
  refine wpAny_bind (wpAny_field hz rfl (x := .bool false) rfl ?_)
  show wpAny _ _ (field (.ref z) 3 >>= _) _ _ _
  refine wpAny_bind (wpAny_field hz rfl (x := .ref TI) rfl (wpAny_bind (wpAny_seqItems hTI rfl ?_)))
  show wpAny _ _ (Builtin.SmallTypes.ownedTupleIsFree (.ref z) >>= _) _ _ _
  refine wpAny_bind (wpAny_tupleHeld_zip hz hT fun g0 hz0 hs0 => ?_)
  replace hs0 : Heap.SameBut z hp g0 := hs0
  simp only [Bool.false_eq_true, if_false]
  refine wpAny_bind ?_
  rw [← Array.forIn_toList]
  simp only [List.forIn_cons, List.forIn_nil]
  refine wpAny_bind (wpAny_bind (wpAny_holding ?_))
  show wpAny _ _ (Builtin.SmallTypes.nextOf (.ref i1) >>= _) _ _ ⟨g0, g, d, tk0, os⟩
  refine wpAny_bind (D1.done ⟨g0, g, d, tk0, os⟩ _ _ (D1.over st1 hs0 S.zf1) fun q e hq he => ?_)
  replace hq : Heap.ExtBut i1 g0 q := hq
  exact hE q tk0 e (fun c o cz c1 _ x => hq _ _ c1 (hs0.extBut _ _ cz x)) he
theorem k19_next_item {Q : Option Value → Shared → Prop} (S : ZipSep2 z TI TO i1 i2 fp1 fp2) (D1 : Draws prog w A.in1 i1 fp1 n1 P1 St1) (D2 : Draws prog w A.in1 i2 fp2 n2 P2 St2)
    (hz : IsZipHeld s.heap z TI TO T f) (hT : s.heap.get? T = some oT) (hTI : IsTupOf2 s.heap TI (.ref i1) (.ref i2)) (st1 : St1 i s.heap) (st2 : St2 i s.heap) (hlt1 : i < n1) (hlt2 : i < n2)
    (hQ : ∀ x1 x2 h' tk, P1 i x1 → P2 i x2 → IsZipHeld h' z TI TO T true → St1 (i + 1) h' → St2 (i + 1) h' → IsTupOf2 h' s.heap.objs.size x1 x2 →
      (∀ c o, c ≠ z → c ≠ i1 → c ≠ i2 → s.heap.get? c = some o → h'.get? c = some o) → Q (some (.ref s.heap.objs.size)) { s with heap := h', toks := tk }) :
    wpAny (model prog w) A (pyNext (.ref z)) Q E s := by
  have hTy : s.TypeIs (.ref z) "zip" := ⟨_, hz, rfl⟩
  unfold pyNext
  exact wpAny_bind (wpAny_attempt (wpAny_callSpecial?_slot (name := Str.ofString "__next__") hTy F.slot_zip_next (wpAny_call_entry F.slot_zip_next hTy F.entry_zip_next
    (k19_held_item S D1 D2 hz hT hTI st1 st2 hlt1 hlt2 fun x1 x2 h' tk y1 y2 b1 d1 d2 b5 b6 => wpAny_pure (hQ x1 x2 h' tk y1 y2 b1 d1 d2 b5 b6)) (F.args_zip_next_1 _))))
theorem k19_next_end {Q : Option Value → Shared → Prop} (S : ZipSep2 z TI TO i1 i2 fp1 fp2) (D1 : Draws prog w A.in1 i1 fp1 n1 P1 St1) (D2 : Draws prog w A.in1 i2 fp2 n2 P2 St2)
    (hz : IsZipHeld s.heap z TI TO T f) (hT : s.heap.get? T = some oT) (hTI : IsTupOf2 s.heap TI (.ref i1) (.ref i2)) (st1 : St1 n1 s.heap)
    (hQ : ∀ h' tk, (∀ c o, c ≠ z → c ≠ i1 → c ≠ i2 → s.heap.get? c = some o → h'.get? c = some o) → Q none { s with heap := h', toks := tk }) : wpAny (model prog w) A (pyNext (.ref z)) Q E s := by
  have hTy : s.TypeIs (.ref z) "zip" := ⟨_, hz, rfl⟩
  unfold pyNext
  refine wpAny_bind (wpAny_attempt (wpAny_callSpecial?_slot (name := Str.ofString "__next__") hTy F.slot_zip_next (wpAny_call_entry F.slot_zip_next hTy F.entry_zip_next
    (k19_held_end S D1 D2 hz hT hTI st1 fun h' tk e hk he => ?_) (F.args_zip_next_1 _))))
  obtain ⟨o, ho, hc⟩ := he
  refine wpAny_bind (wpAny_isInstance (T := "StopIteration") (b := true) ⟨o, ho, hc⟩ isSubtype_stop ?_)
  exact wpAny_pure (hQ _ _ hk)
end
theorem k19_zip_nolen : typeLookup (.type "zip") "__len__" = pure none := am_miss_of_fast (by decide +kernel)
theorem k19_zip_nohint : typeLookup (.type "zip") "__length_hint__" = pure none := am_miss_of_fast (by decide +kernel)
section
variable {prog : Program} {w : World} {A : Around} {E : Value → Shared → Prop} {z TI TO i1 i2 a b : Addr} {xs ys : List Value}
/-- the cells apart -/
structure ZA (S N z TI TO i1 i2 a b : Addr) : Prop where
  sz : z ≠ S
  sI : TI ≠ S
  sO : TO ≠ S
  s1 : i1 ≠ S
  s2 : i2 ≠ S
  sa : a ≠ S
  sb : b ≠ S
  nS : S < N
  nz : z < N
  n1 : i1 < N
  n2 : i2 < N
  nO : TO < N
  a1 : a ≠ i1
  b2 : b ≠ i2
/-- the zip at turn i -/
structure ZL (h : Heap) (z TI TO i1 i2 a b : Addr) (xs ys : List Value) (N : Addr) (i : Nat) : Prop where
  ti : IsTupOf2 h TI (.ref i1) (.ref i2)
  s1 : h.IsTupleIter i1 a i ∧ h.IsTuple a xs.toArray
  s2 : h.IsTupleIter i2 b i ∧ h.IsTuple b ys.toArray
  zz : (IsZip h z TI TO .none ∧ ∃ a1 a2, IsTupOf2 h TO a1 a2) ∨ ∃ T f oT, IsZipHeld h z TI TO T f ∧ h.get? T = some oT ∧ N ≤ T
theorem ZL.typeIs {s : Shared} {N : Addr} {i : Nat} (x : ZL s.heap z TI TO i1 i2 a b xs ys N i) : s.TypeIs (.ref z) "zip" := by
  rcases x.zz with ⟨h, _⟩ | ⟨T, f, oT, h, _⟩
  · exact ⟨_, h, rfl⟩
  · exact ⟨_, h, rfl⟩
theorem ne_of_big {c d N : Addr} (h : N ≤ c) (q : d < N) : c ≠ d := Nat.ne_of_gt (Nat.lt_of_lt_of_le q h)
theorem ZL.keep {h h' : Heap} {S N : Addr} {i : Nat} (x : ZL h z TI TO i1 i2 a b xs ys N i) (Z : ZA S N z TI TO i1 i2 a b) (k : ∀ b o, b ≠ S → h.get? b = some o → h'.get? b = some o) : ZL h' z TI TO i1 i2 a b xs ys N i := by
  refine ⟨k _ _ Z.sI x.ti, ⟨x.s1.1.at fun o e => k _ _ Z.s1 e, x.s1.2.at fun o e => k _ _ Z.sa e⟩, ⟨x.s2.1.at fun o e => k _ _ Z.s2 e, x.s2.2.at fun o e => k _ _ Z.sb e⟩, ?_⟩
  rcases x.zz with ⟨q, a1, a2, r⟩ | ⟨T, f, oT, q, r, t⟩
  · exact .inl ⟨k _ _ Z.sz q, a1, a2, k _ _ Z.sO r⟩
  · exact .inr ⟨T, f, oT, k _ _ Z.sz q, k _ _ (ne_of_big t Z.nS) r, t⟩
/-- the tuples made so far -/
def ZM (h : Heap) (N : Addr) (ts : List Addr) (ps : List (Value × Value)) : Prop := Paired (fun t p => N ≤ t ∧ IsTupOf2 h t p.1 p.2) ts ps
theorem ZM.keep {h h' : Heap} {N : Addr} {ts : List Addr} {ps : List (Value × Value)} (x : ZM h N ts ps) (k : ∀ b o, N ≤ b → h.get? b = some o → h'.get? b = some o) : ZM h' N ts ps := by
  unfold ZM at *
  induction x with
  | nil => exact .nil
  | cons a b ih => exact .cons ⟨a.1, k _ _ a.1 a.2⟩ ih
theorem ZM.lt {h : Heap} {N t : Addr} {ts : List Addr} {ps : List (Value × Value)} (x : ZM h N ts ps) : t ∈ ts → t < h.objs.size := by
  unfold ZM at x
  induction x with
  | nil => intro hm; exact nomatch hm
  | cons a b ih =>
    intro hm
    rcases List.mem_cons.mp hm with rfl | hm
    · exact Heap.lt_size a.2
    · exact ih hm
theorem nd_snoc {t : Addr} : ∀ {ts : List Addr}, ts.Nodup → t ∉ ts → (ts ++ [t]).Nodup := fun h1 h2 => List.nodup_append.mpr ⟨h1, by simp, fun a ha b hb => by rw [List.mem_singleton.mp hb]; exact fun z => h2 (z ▸ ha)⟩
theorem ZM.snoc {h : Heap} {N t : Addr} {p : Value × Value} (hN : N ≤ t) (ht : IsTupOf2 h t p.1 p.2) : ∀ {ts : List Addr} {ps : List (Value × Value)}, ZM h N ts ps → ZM h N (ts ++ [t]) (ps ++ [p])
  | _, _, .nil => .cons ⟨hN, ht⟩ .nil
  | _, _, .cons a b => .cons a (ZM.snoc hN ht b)
theorem k19_loop (hh : A.handled = none) {R : Result → Shared → Prop} (D : ZipSep2 z TI TO i1 i2 [i1, a] [i2, b]) (hl : xs.length = ys.length) (hsz : xs.length ≤ sizeLine) {S N : Addr} (Z : ZA S N z TI TO i1 i2 a b) (res : Value) :
    ∀ (k i : Nat) (s : Shared) (ts : List Addr) (c : Nat), xs.length - i = k → i ≤ xs.length → ZL s.heap z TI TO i1 i2 a b xs ys N i → N ≤ s.heap.objs.size →
      s.heap.get? S = some { cls := .type "list", dict := none, data := .seq (ts.map Value.ref).toArray c, slots := #[] } → ZM s.heap N ts ((xs.zip ys).take i) → ts.length = i → ts.Nodup →
      (∀ h' tk ts' c', ts'.Nodup → (∀ c o, c ≠ S → c ≠ z → c ≠ i1 → c ≠ i2 → c ≠ TO → s.heap.get? c = some o → h'.get? c = some o) → h'.get? S = some { cls := .type "list", dict := none, data := .seq (ts'.map Value.ref).toArray c', slots := #[] } → ZM h' N ts' (xs.zip ys) → R (.ok (.ret res)) { s with heap := h', toks := tk }) →
      codeAny (model prog w) A (.builtin "list.extend.loop" ⟨[.ref S, .ref z, res], []⟩) R s := by
  have D1 := Draws.tuple (prog := prog) (w := w) (A := A.in1.in1) (show A.in1.in1.handled = none from hh) i1 a Z.a1 xs.toArray
  have D2 := Draws.tuple (prog := prog) (w := w) (A := A.in1.in1) (show A.in1.in1.handled = none from hh) i2 b Z.b2 ys.toArray
  intro k
  induction k with
  | zero =>
    intro i s ts c hk hi zl hN hS zm hts hnd hR
    have hin : i = xs.length := by omega
    subst hin
    have zm' : ZM s.heap N ts (xs.zip ys) := by
      rw [List.take_of_length_le (by rw [List.length_zip]; omega)] at zm
      exact zm
    refine codeAny_builtin F.entry_extend_loop ?_
    rw [Around.under_plainId F.plain_extend_loop _]
    show wpAny _ A.in1 (pyNext (.ref z) >>= _) _ _ s
    have fin : ∀ h' tk, (∀ c o, c ≠ z → c ≠ TO → c ≠ i1 → c ≠ i2 → s.heap.get? c = some o → h'.get? c = some o) → R (.ok (.ret res)) { s with heap := h', toks := tk } := fun h' tk hk' =>
      hR h' tk ts c hnd (fun c o _ q1 q2 q3 q4 e => hk' c o q1 q4 q2 q3 e) (hk' S _ (Ne.symm Z.sz) (Ne.symm Z.sO) (Ne.symm Z.s1) (Ne.symm Z.s2) hS) (zm'.keep fun c o hc e => hk' c o (ne_of_big hc Z.nz) (ne_of_big hc Z.nO) (ne_of_big hc Z.n1) (ne_of_big hc Z.n2) e)
    have e1 : xs.toArray.size = xs.length := by simp
    have e2 : ys.toArray.size = xs.length := by simp [hl]
    rcases zl.zz with ⟨q, x1, x2, r⟩ | ⟨T, f, oT, q, r, t⟩
    · exact wpAny_bind (wpAny_pyNext_zipD2_end D D1 D2 q zl.ti r zl.s1 zl.s2 (by rw [e1]; exact Nat.le_refl _) (by rw [e2]; exact Nat.le_refl _) (.inl e1.symm) fun h' tk hk' => wpAny_pure (fin h' tk hk'))
    · exact wpAny_bind (k19_next_end D D1 D2 q r zl.ti (by rw [e1]; exact zl.s1) fun h' tk hk' => wpAny_pure (fin h' tk fun c o q1 _ q3 q4 e => hk' c o q1 q3 q4 e))
  | succ k ih =>
    intro i s ts c hk hi zl hN hS zm hts hnd hR
    have hlt : i < xs.length := by omega
    have l1 : i < xs.toArray.size := by simpa using hlt
    have l2 : i < ys.toArray.size := by simpa [← hl] using hlt
    refine codeAny_builtin F.entry_extend_loop ?_
    rw [Around.under_plainId F.plain_extend_loop _]
    show wpAny _ A.in1 (pyNext (.ref z) >>= _) _ _ s
    have go : ∀ x1 x2 h' tk, xs.toArray[i]? = some x1 → ys.toArray[i]? = some x2 → (∃ T f oT, IsZipHeld h' z TI TO T f ∧ h'.get? T = some oT ∧ N ≤ T) → h'.IsTupleIter i1 a (i + 1) ∧ h'.IsTuple a xs.toArray → h'.IsTupleIter i2 b (i + 1) ∧ h'.IsTuple b ys.toArray → IsTupOf2 h' s.heap.objs.size x1 x2 →
        (∀ c o, c ≠ z → c ≠ TO → c ≠ i1 → c ≠ i2 → s.heap.get? c = some o → h'.get? c = some o) →
        wpAny (model prog w) A.in1 (updateSeq S (·.push (.ref s.heap.objs.size)) >>= fun _ => again (.builtin "list.extend.loop" ⟨[.ref S, .ref z, res], []⟩)) (fun fin s' => match fin with | .done f => R (.ok f) s' | .again c' => c'.quiet = true ∧ codeAny (model prog w) A c' R s') (fun e s' => R (.error e) s') { s with heap := h', toks := tk } := by
      intro x1 x2 h' tk hx hy hz j1 j2 hT hk'
      have hS' := hk' S _ (Ne.symm Z.sz) (Ne.symm Z.sO) (Ne.symm Z.s1) (Ne.symm Z.s2) hS
      refine wpAny_bind (wpAny_updateSeq (s := { s with heap := h', toks := tk }) hS' rfl ?_ (by rw [List.size_toArray, List.length_map]; omega) (by simp only [Array.size_push, List.size_toArray, List.length_map]; omega))
      have hU := Heap.get?_update_self (Obj.mapSeq (·.push (Value.ref s.heap.objs.size))) hS' rfl
      obtain ⟨c2, hU2⟩ : ∃ c2, (h'.update S (Obj.mapSeq (·.push (Value.ref s.heap.objs.size)))).get? S = some { cls := .type "list", dict := none, data := .seq ((ts ++ [s.heap.objs.size]).map Value.ref).toArray c2, slots := #[] } := by
        have e : ((ts.map Value.ref).toArray.push (Value.ref s.heap.objs.size)) = ((ts ++ [s.heap.objs.size]).map Value.ref).toArray := by simp
        rw [hU, ← e]
        exact ⟨_, rfl⟩
      have oth : ∀ c o, c ≠ S → h'.get? c = some o → (h'.update S (Obj.mapSeq (·.push (Value.ref s.heap.objs.size)))).get? c = some o := fun c o hc e => (Heap.get?_update_other _ _ (Ne.symm hc)).trans e
      have bigT : s.heap.objs.size ≠ S := ne_of_big hN Z.nS
      have zl0 : ZL h' z TI TO i1 i2 a b xs ys N (i + 1) := ⟨hk' _ _ D.TIz D.TITO D.TIi1 D.TIi2 zl.ti, j1, j2, .inr hz⟩
      have htk : (xs.zip ys).take (i + 1) = (xs.zip ys).take i ++ [(x1, x2)] := by
        rw [List.take_add_one]
        congr 1
        have ex : xs[i]? = some x1 := by simpa using hx
        have ey : ys[i]? = some x2 := by simpa using hy
        rw [List.zip, List.getElem?_zipWith, ex, ey]
        rfl
      have zm1 : ZM h' N (ts ++ [s.heap.objs.size]) ((xs.zip ys).take (i + 1)) := by
        rw [htk]
        exact ZM.snoc hN hT (zm.keep fun c o hc e => hk' c o (ne_of_big hc Z.nz) (ne_of_big hc Z.nO) (ne_of_big hc Z.n1) (ne_of_big hc Z.n2) e)
      refine wpAny_pure ⟨plainId_quiet F.plain_extend_loop _, ih (i + 1) _ (ts ++ [s.heap.objs.size]) c2 (by omega) hlt (zl0.keep Z oth) ?_ hU2 (zm1.keep fun c o hc e => oth c o (ne_of_big hc Z.nS) e) (by simp [hts]) ?_ fun h'' tk' ts' c' nd2 hk2 hS2 zm2 => hR h'' tk' ts' c' nd2 (fun c o q0 q1 q2 q3 q4 e => hk2 c o q0 q1 q2 q3 q4 (oth c o q0 (hk' c o q1 q4 q2 q3 e))) hS2 zm2⟩
      · show N ≤ (h'.update S _).objs.size
        rw [Heap.size_update]
        exact Nat.le_trans hN (Nat.le_of_lt (Heap.lt_size hT))
      · refine nd_snoc hnd fun hm => ?_
        exact absurd (zm.lt hm) (Nat.lt_irrefl _)
    rcases zl.zz with ⟨q, x1, x2, r⟩ | ⟨T, f, oT, q, r, t⟩
    · refine wpAny_bind (wpAny_pyNext_zipD2_item D D1 D2 q zl.ti r zl.s1 zl.s2 l1 l2 fun x1 x2 h' tk y1 y2 b1 b2 d1 d2 b5 b6 b7 => ?_)
      exact go x1 x2 h' tk y1 y2 ⟨_, false, _, b1, b5, hN⟩ d1 d2 b5 b7
    · refine wpAny_bind (k19_next_item D D1 D2 q r zl.ti zl.s1 zl.s2 l1 l2 fun x1 x2 h' tk y1 y2 b1 d1 d2 b5 b6 => ?_)
      exact go x1 x2 h' tk y1 y2 ⟨T, true, oT, b1, b6 _ _ (ne_of_big t Z.nz) (ne_of_big t Z.n1) (ne_of_big t Z.n2) r, t⟩ d1 d2 b5 fun c o q1 _ q3 q4 e => b6 c o q1 q3 q4 e
end
end PySem
namespace PySem
open PySem.W
section
variable {prog : Program} {w : World} {A : Around} {E : Value → Shared → Prop} {s : Shared} {z TI TO i1 i2 a b : Addr} {xs ys : List Value}
theorem k19_list_zip {Q : Value → Shared → Prop} (hh : A.handled = none) (D : ZipSep2 z TI TO i1 i2 [i1, a] [i2, b]) (hl : xs.length = ys.length) (hsz : xs.length ≤ sizeLine)
    (hz : IsZip s.heap z TI TO .none) (hTO : ∃ a1 a2, IsTupOf2 s.heap TO a1 a2) (hTI : IsTupOf2 s.heap TI (.ref i1) (.ref i2)) (h1 : s.heap.IsTupleIter i1 a 0) (h2 : s.heap.IsTupleIter i2 b 0) (ha : s.heap.IsTuple a xs.toArray) (hb : s.heap.IsTuple b ys.toArray) (ne1 : a ≠ i1) (ne2 : b ≠ i2)
    (hQ : ∀ h' tk ts' c', ts'.Nodup → (∀ c o, c ≠ z → c ≠ i1 → c ≠ i2 → c ≠ TO → s.heap.get? c = some o → h'.get? c = some o) → h'.get? s.heap.objs.size = some { cls := .type "list", dict := none, data := .seq (ts'.map Value.ref).toArray c', slots := #[] } →
      ZM h' (s.heap.objs.size + 1) ts' (xs.zip ys) → Q (.ref s.heap.objs.size) { s with heap := h', toks := tk }) :
    wpAny (model prog w) A (call (.type "list") [.ref z]) Q E s := by
  have lt : ∀ {c : Addr} {o : Obj}, s.heap.get? c = some o → c < s.heap.objs.size := fun e => Heap.lt_size e
  have lz := lt hz
  have lI := lt hTI
  have lO : TO < s.heap.objs.size := let ⟨_, _, e⟩ := hTO; lt e
  have l1 : i1 < s.heap.objs.size := let ⟨_, e, _⟩ := h1; lt e
  have l2 : i2 < s.heap.objs.size := let ⟨_, e, _⟩ := h2; lt e
  have la : a < s.heap.objs.size := let ⟨_, e, _⟩ := ha; lt e
  have lb : b < s.heap.objs.size := let ⟨_, e, _⟩ := hb; lt e
  have Z : ZA s.heap.objs.size (s.heap.objs.size + 1) z TI TO i1 i2 a b := ⟨Nat.ne_of_lt lz, Nat.ne_of_lt lI, Nat.ne_of_lt lO, Nat.ne_of_lt l1, Nat.ne_of_lt l2, Nat.ne_of_lt la, Nat.ne_of_lt lb, Nat.lt_succ_self _, Nat.lt_succ_of_lt lz, Nat.lt_succ_of_lt l1, Nat.lt_succ_of_lt l2, Nat.lt_succ_of_lt lO, ne1, ne2⟩
  have zl : ZL s.heap z TI TO i1 i2 a b xs ys (s.heap.objs.size + 1) 0 := ⟨hTI, ⟨h1, ha⟩, ⟨h2, hb⟩, .inl ⟨hz, hTO⟩⟩
  refine callType_codes (Q₁ := fun obj s₁ => obj = .ref s.heap.objs.size ∧ s₁ = { s with heap := s.heap.push { cls := .type "list", data := .seq #[] } }) F.called_list (F.typeCall_list_1 _) F.entry_list_init (code_list_new _ ⟨rfl, rfl⟩) ?_
  rintro obj s₁ ⟨rfl, rfl⟩
  have hS : (s.heap.push { cls := .type "list", data := .seq #[] }).get? s.heap.objs.size = some { cls := .type "list", data := .seq #[] } := Heap.get?_push_size _ rfl
  have kp : ∀ c o, c ≠ s.heap.objs.size → s.heap.get? c = some o → (s.heap.push { cls := .type "list", data := .seq #[] }).get? c = some o := fun c o _ e => Heap.get?_push_of_some _ e
  refine ⟨⟨_, hS, rfl⟩, F.args_list_init_2 _ _, ?_⟩
  show wpAny _ _ (Builtin.List.listItems (.ref s.heap.objs.size) >>= fun old => Builtin.List.listUpdate (.ref s.heap.objs.size) (fun _ => #[]) >>= fun _ => letGo old.toList.reverse >>= fun _ => Builtin.List.listExtendWith (.ref s.heap.objs.size) (.ref z) .none) _ _ _
  refine wpAny_bind ?_
  unfold Builtin.List.listItems
  refine wpAny_bind (wpAny_seqItems (s := { s with heap := s.heap.push { cls := .type "list", data := .seq #[] } }) hS rfl (wpAny_pure ?_))
  refine wpAny_bind ?_
  show wpAny _ _ (updateSeq s.heap.objs.size (fun _ => #[])) _ _ _
  refine wpAny_updateSeq (s := { s with heap := s.heap.push { cls := .type "list", data := .seq #[] } }) hS rfl ?_
  have hS2 := Heap.get?_update_self (Obj.mapSeq (fun _ => (#[] : Array Value))) hS rfl
  have kp2 : ∀ c o, c ≠ s.heap.objs.size → s.heap.get? c = some o → ((s.heap.push { cls := .type "list", data := .seq #[] }).update s.heap.objs.size (Obj.mapSeq (fun _ => (#[] : Array Value)))).get? c = some o :=
    fun c o hc e => (Heap.get?_update_other _ _ (Ne.symm hc)).trans (kp c o hc e)
  refine wpAny_bind (wpAny_letGo ?_)
  generalize (s.heap.push { cls := .type "list", data := .seq #[] }).update s.heap.objs.size (Obj.mapSeq (fun _ => (#[] : Array Value))) = g at hS2 kp2
  have zl2 := zl.keep Z kp2
  unfold Builtin.List.listExtendWith
  refine wpAny_bind (wpAny_typeOf (T := "zip") (s := { s with heap := g }) zl2.typeIs ?_)
  have e1 : Builtin.List.listSameRef (.ref s.heap.objs.size) (.ref z) = false := by simp [Builtin.List.listSameRef, Ne.symm Z.sz]
  have e2 : (Value.type "zip" == Value.type "list") = false := by decide
  have e3 : (Value.type "zip" == Value.type "tuple") = false := by decide
  simp only [e1, e2, e3, Bool.or_false, Bool.false_eq_true, if_false]
  refine wpAny_bind (wpAny_pyIter_zip (s := { s with heap := g }) (kp2 _ _ Z.sz hz) ?_)
  refine wpAny_bind (wpAny_holding ?_)
  unfold Builtin.List.listLengthHint
  refine wpAny_bind (wpAny_specialOf (s := { s with heap := g }) zl2.typeIs k19_zip_nolen ?_)
  show wpAny _ _ (specialOf (Value.ref z) (Str.ofString "__length_hint__") >>= _) _ _ _
  refine wpAny_bind (wpAny_specialOf (s := { s with heap := g }) zl2.typeIs k19_zip_nohint (wpAny_pure ?_))
  show wpAny _ _ (rule "list.extend.makes-room" >>= fun _ => Builtin.List.listTouch (.ref s.heap.objs.size) >>= fun _ => again (.builtin "list.extend.loop" ⟨[.ref s.heap.objs.size, .ref z, .none], []⟩)) _ _ _
  refine wpAny_bind (wpAny_rule (wpAny_bind ?_))
  show wpAny _ _ (updateSeq s.heap.objs.size (·.push .none) >>= fun _ => updateSeq s.heap.objs.size (·.pop)) _ _ _
  refine wpAny_bind (wpAny_updateSeq (s := { s with heap := g }) hS2 rfl ?_)
  have hS3 := Heap.get?_update_self (Obj.mapSeq (·.push Value.none)) hS2 rfl
  refine wpAny_updateSeq (hz := by seq_fits) hS3 rfl ?_
  have hS4 := Heap.get?_update_self (Obj.mapSeq (·.pop)) hS3 rfl
  have kp4 : ∀ c o, c ≠ s.heap.objs.size → s.heap.get? c = some o → ((g.update s.heap.objs.size (Obj.mapSeq (·.push Value.none))).update s.heap.objs.size (Obj.mapSeq (·.pop))).get? c = some o :=
    fun c o hc e => (Heap.get?_update_other _ _ (Ne.symm hc)).trans ((Heap.get?_update_other _ _ (Ne.symm hc)).trans (kp2 c o hc e))
  refine wpAny_pure ⟨plainId_quiet F.plain_extend_loop _, k19_loop (A := A.in1) (show A.in1.handled = none from hh) D hl hsz Z .none _ 0 _ [] _ rfl (Nat.zero_le _) (zl.keep Z kp4) ?_ hS4 .nil rfl List.nodup_nil fun h' tk ts' c' nd hk hS' zm => ⟨rfl, ?_⟩⟩
  · exact Nat.succ_le_of_lt (Heap.lt_size hS4)
  · exact hQ h' tk ts' c' nd (fun c o q1 q2 q3 q4 e => hk c o (Nat.ne_of_lt (lt e)) q1 q2 q3 q4 (kp4 c o (Nat.ne_of_lt (lt e)) e)) hS' zm
end
end PySem
set_option maxHeartbeats 4000000
namespace K19
open PySem PySem.Spec PyProof.Rows L2
section
variable {X : Cx} {pins : List (Addr × Obj)} {σ : L2.St} {H : Hp} {s : Shared}
/-- an untracked object of ours is tracked -/
theorem Inv.track {a : Addr} {o : HO} (I : Inv X pins σ H s) (f : FpOk X pins H a) (hs : X.s_0.heap.objs.size ≤ a) (ok : ObjOk X.prog X.w (upd H a o) s.heap a o) : Inv X pins σ (upd H a o) s := by
  obtain ⟨f0, f1, f2, f3, f4, f5⟩ := f
  have ne : ∀ {b : Addr} {u : HO}, H b = some u → b ≠ a := fun e => ne_of_none e f0
  have old : ∀ {b : Addr} {u : HO}, H b = some u → upd H a o b = some u := fun e => by rw [upd_ne (ne e)]; exact e
  refine ⟨I.ok, I.os, I.bare, ⟨I.base.keep, I.base.slot, fun b ob q n hx => ?_, I.base.there, fun b xs q => old (I.base.tups b xs q), fun b ob u q => old (I.base.frzs b ob u q), fun b ps q => ?_⟩, I.loc, I.cell, ?_, fun x c e => ?_, fun p hp => ?_, fun b u e => ?_, I.len⟩
  · rw [upd_ne (Nat.ne_of_lt (Nat.lt_of_lt_of_le (Heap.lt_size q) hs))]
    exact I.base.free b ob q n hx
  · obtain ⟨m, e⟩ := I.base.tbls b ps q
    exact ⟨m, old e⟩
  · rw [upd_ne (Ne.symm f1)]; exact I.free
  · rw [upd_ne (f4 x c e)]; exact I.freeC x c e
  · obtain ⟨q1, q2, q3⟩ := I.pin p hp
    exact ⟨q1, by rw [upd_ne (f5 p hp)]; exact q2, q3⟩
  · by_cases hb : b = a
    · subst hb
      rw [upd_same] at e
      cases e
      exact ok
    · rw [upd_ne hb] at e
      exact (I.hok b u e).stay (fun c v _ q => q) (fun c q => old q) fun c xs q => old q
/-- the pairs of a zip, tracked -/
theorem Inv.trackZ {N : Addr} (hN : X.s_0.heap.objs.size ≤ N) (hf : ∀ b, N ≤ b → ∀ H : Hp, H b = none → FpOk X pins H b) : ∀ {ts : List Addr} {xs ys : List V} {us ws : List Value} {H : Hp}, Inv X pins σ H s → ts.Nodup → (∀ b ∈ ts, H b = none) → Vals xs us → Vals ys ws → ZM s.heap N ts (us.zip ws) →
    ∃ H', Inv X pins σ H' s ∧ (∀ b, b ∉ ts → H' b = H b) ∧ Paired (fun t (p : V × V) => H' t = some (.tup [p.1, p.2])) ts (xs.zip ys)
  | [], xs, ys, us, ws, H, I, _, _, rx, ry, zm => by
    refine ⟨H, I, fun _ _ => rfl, ?_⟩
    have hl : (us.zip ws).length = 0 := (Paired.length zm).symm
    have hl2 : (xs.zip ys).length = 0 := by
      rw [List.length_zip] at hl ⊢
      rw [rx.length, ry.length]; exact hl
    rw [List.eq_nil_of_length_eq_zero hl2]
    exact .nil
  | t :: ts, xs, ys, us, ws, H, I, nd, hn, rx, ry, zm => by
    cases rx with
    | nil => rw [List.zip_nil_left] at zm; cases zm
    | @cons x u xs us rxu rx =>
      cases ry with
      | nil => rw [List.zip_nil_right] at zm; cases zm
      | @cons y w ys ws ryw ry =>
        rw [List.zip_cons_cons] at zm
        cases zm with
        | cons a zm =>
          obtain ⟨n1, n2⟩ := List.nodup_cons.mp nd
          have ht := hn t List.mem_cons_self
          have I1 := Inv.track (o := .tup [x, y]) I (hf t a.1 H ht) (Nat.le_trans hN a.1) ⟨by show 2 ≤ sizeLine; decide, [u, w], .cons rxu (.cons ryw .nil), _, a.2, rfl, _, rfl⟩
          obtain ⟨H', I', k, p⟩ := Inv.trackZ hN hf I1 n2 (fun b hb => by
            have nb : b ≠ t := fun z => n1 (by rw [← z]; exact hb)
            rw [upd_ne nb]
            exact hn b (List.mem_cons_of_mem _ hb)) rx ry zm
          refine ⟨H', I', fun b hb => ?_, .cons (by rw [k t n1, upd_same]) p⟩
          rw [k b fun z => hb (List.mem_cons_of_mem _ z), upd_ne fun z => hb (by rw [z]; exact List.mem_cons_self)]
end
section
variable {X : Cx} {e1 e2 : Expr} {t1 t2 : TE}
/-- list(zip(t, u)), two tuples of one length: a new list of new pairs -/
def tLZ (K : PySem.W.Frag) (t1 t2 : TE) : TE := fun σ H Q => t1 σ H fun x H1 => t2 σ H1 fun y H2 => ∃ a b xs ys, x = .ref a ∧ y = .ref b ∧ SqT K H2 a xs ∧ SqT K H2 b ys ∧ xs.length = ys.length ∧
  ∀ H3 l ts, Same H2 H3 → H2 l = none → H3 l = some (.lst (ts.map V.ref)) → Paired (fun t (p : V × V) => H3 t = some (.tup [p.1, p.2])) ts (xs.zip ys) → Q (.ref l) H3
theorem pe_lzip {p p2 q pos : Pos} (hc : X.calm = true) (hg : Gl X "list") (hm : X.mg "list" = none) (hg2 : Gl X "zip") (hm2 : X.mg "zip" = none) (hA : PA X [e1, e2] (tCons t1 (tCons t2 tNil)))
    (na : starEach [Expr.Call (.Name "zip" p2) [e1, e2] [] q] X.env = [(false, eval (.Call (.Name "zip" p2) [e1, e2] [] q) X.env)] := by rfl)
    (hs : starEach [e1, e2] X.env = (false, eval e1 X.env) :: starEach [e2] X.env := by rfl) (hpl : (backTo q (starEach [e2] X.env)).any (·.1) = false := by rfl) :
    PE X (.Call (.Name "list" p) [.Call (.Name "zip" p2) [e1, e2] [] q] [] pos) (tLZ X.K t1 t2) := by
  refine ⟨fun pins s σ H Q I h => ?_⟩
  have inner : wpAny (model X.prog X.w) X.A (eval (.Call (.Name "zip" p2) [e1, e2] [] q) X.env) (fun v s2 => ∃ (s1 : Shared) (H2 : Hp) (xs ys : List V) (us ws : List Value) (a b : Addr) (h' : Heap), Inv X pins σ H2 s1 ∧ s2 = { s1 with heap := h' } ∧ v = .ref (s1.heap.objs.size + 4) ∧
      Vals xs us ∧ Vals ys ws ∧ xs.length = ys.length ∧ xs.length ≤ sizeLine ∧ s1.heap.IsTuple a us.toArray ∧ s1.heap.IsTuple b ws.toArray ∧ IsZip h' (s1.heap.objs.size + 4) (s1.heap.objs.size + 2) (s1.heap.objs.size + 3) .none ∧ IsTupOf2 h' (s1.heap.objs.size + 2) (.ref s1.heap.objs.size) (.ref (s1.heap.objs.size + 1)) ∧ IsTupOf2 h' (s1.heap.objs.size + 3) .none .none ∧
      h'.IsTupleIter s1.heap.objs.size a 0 ∧ h'.IsTupleIter (s1.heap.objs.size + 1) b 0 ∧ (∀ c o, s1.heap.get? c = some o → h'.get? c = some o) ∧ h'.objs.size = s1.heap.objs.size + 5 ∧
      ∀ H3 l ts, Same H2 H3 → H2 l = none → H3 l = some (.lst (ts.map V.ref)) → Paired (fun t (p : V × V) => H3 t = some (.tup [p.1, p.2])) ts (xs.zip ys) → Q (.ref l) H3) X.xe s := by
    refine Call_ (ld_blt I hg2 hm2 PyProof.Rows.boot_zip (PyProof.Rows.callWith_type1 (thn (hA.run q pins s σ H (fun vs H2 => match vs with
      | [x, y] => ∃ a b xs ys, x = .ref a ∧ y = .ref b ∧ SqT X.K H2 a xs ∧ SqT X.K H2 b ys ∧ xs.length = ys.length ∧ ∀ H3 l ts, Same H2 H3 → H2 l = none → H3 l = some (.lst (ts.map V.ref)) → Paired (fun t (p : V × V) => H3 t = some (.tup [p.1, p.2])) ts (xs.zip ys) → Q (.ref l) H3
      | _ => False) I h) ?_) hs hpl))
    rintro us0 s1 ⟨vs, H2, I1, r1, qq⟩
    cases r1 with
    | nil => exact qq.elim
    | @cons x u vs us ru rr =>
      cases rr with
      | nil => exact qq.elim
      | @cons y w vs us rw' rr =>
        cases rr with
        | cons _ _ => exact qq.elim
        | nil =>
          obtain ⟨a, b, xs, ys, ex, ey, hx, hy, hl, k⟩ := qq
          have ex : x = .ref a := ex
          have ey : y = .ref b := ey
          subst ex ey
          cases (show u = Value.ref a from ru)
          cases (show w = Value.ref b from rw')
          obtain ⟨us, rx, px, zx⟩ := I1.tuple hx
          obtain ⟨ws, ry, py, zy⟩ := I1.tuple hy
          refine zip_begins2 (begins_tuple a us.toArray) (begins_tuple b ws.toArray) px py fun h' hz hTI hTO g1 g2 hsz hk => ?_
          exact ⟨s1, H2, xs, ys, us, ws, a, b, h', I1, rfl, rfl, rx, ry, hl, zx, px, py, hz, hTI, hTO, ⟨_, g1, rfl, rfl⟩, ⟨_, g2, rfl, rfl⟩, hk, hsz, k⟩
  refine Call_ (ld_blt I hg hm boot_list (PyProof.Rows.callWith_type1 (args_cons (thn inner ?_) na) na rfl))
  rintro v s2 ⟨s1, H2, xs, ys, us, ws, a, b, h', I1, rfl, rfl, rx, ry, hl, zx, px, py, hz, hTI, hTO, g1, g2, hk, hsz, k⟩
  refine args_nil ?_
  have la : a < s1.heap.objs.size := let ⟨_, e, _⟩ := px; Heap.lt_size e
  have lb : b < s1.heap.objs.size := let ⟨_, e, _⟩ := py; Heap.lt_size e
  have S := zip_sep2 (N := s1.heap.objs.size) (fp1 := [a]) (fp2 := [b]) (fun c hc => by rw [List.mem_singleton.mp hc]; exact la) (fun c hc => by rw [List.mem_singleton.mp hc]; exact lb)
  refine k19_list_zip (s := { s1 with heap := h' }) (I1.ok.hd hc) S (xs := us) (ys := ws) (by rw [← rx.length, ← ry.length]; exact hl) (by rw [← rx.length]; exact zx) hz ⟨_, _, hTO⟩ hTI g1 g2 (px.at fun o e => hk a o e) (py.at fun o e => hk b o e) (Nat.ne_of_lt la) (Nat.ne_of_lt (Nat.lt_succ_of_lt lb)) fun h'' tk ts' c' nd hk2 hS zm => ?_
  have n5 : ∀ c o, s1.heap.get? c = some o → h''.get? c = some o := fun c o e => by
    have l : c < s1.heap.objs.size := Heap.lt_size e
    exact hk2 c o (Nat.ne_of_lt (Nat.lt_of_lt_of_le l (Nat.le_add_right _ _))) (Nat.ne_of_lt l) (Nat.ne_of_lt (Nat.lt_of_lt_of_le l (Nat.le_add_right _ _))) (Nat.ne_of_lt (Nat.lt_of_lt_of_le l (Nat.le_add_right _ _))) (hk c o e)
  have hN : s1.heap.objs.size ≤ h'.objs.size := by rw [hsz]; exact Nat.le_add_right _ _
  have I2 : Inv X pins σ H2 { s1 with heap := h'', toks := tk } := I1.kept n5
  have hf : ∀ b, s1.heap.objs.size ≤ b → ∀ H : Hp, H b = none → FpOk X pins H b := fun b hb H hn => I1.fpOk hb hn
  have big : ∀ t ∈ ts', h'.objs.size + 1 ≤ t := fun t ht => by
    have all : ∀ {ts : List Addr} {ps : List (Value × Value)}, ZM h'' (h'.objs.size + 1) ts ps → ∀ t ∈ ts, h'.objs.size + 1 ≤ t := by
      intro ts ps z
      unfold ZM at z
      induction z with
      | nil => intro t ht; exact nomatch ht
      | cons a b ih => intro t ht; rcases List.mem_cons.mp ht with rfl | ht; exact a.1; exact ih t ht
    exact all zm t ht
  have fr : ∀ b, s1.heap.objs.size ≤ b → H2 b = none := fun b hb => I1.hok.fresh hb
  obtain ⟨H3, I3, k3, p3⟩ := Inv.trackZ (N := h'.objs.size + 1) (Nat.le_trans I1.sz (Nat.le_trans hN (Nat.le_succ _))) (fun b hb => hf b (Nat.le_trans hN (Nat.le_trans (Nat.le_succ _) hb))) I2 nd (fun b hb => fr b (Nat.le_trans hN (Nat.le_trans (Nat.le_succ _) (big b hb)))) rx ry zm
  have nl : h'.objs.size ∉ ts' := fun hm => absurd (big _ hm) (Nat.not_succ_le_self _)
  have fl : H2 h'.objs.size = none := fr _ hN
  have I4 := Inv.track (a := h'.objs.size) (o := .lst (ts'.map V.ref)) I3 (hf _ hN H3 (by rw [k3 _ nl]; exact fl)) (Nat.le_trans I1.sz hN) ⟨by
    have e : ts'.length = (us.zip ws).length := Paired.length zm
    rw [List.length_map, e, List.length_zip, ← rx.length]
    exact Nat.le_trans (Nat.min_le_left _ _) zx, ts'.map Value.ref, c', vals_refs ts', hS⟩
  refine ⟨.ref h'.objs.size, _, I4, rfl, k _ _ ts' (fun c o e => ?_) fl upd_same ?_⟩
  · have nc : c ∉ ts' := fun hm => by rw [fr c (Nat.le_trans hN (Nat.le_trans (Nat.le_succ _) (big c hm)))] at e; cases e
    rw [upd_ne (ne_of_none e fl), k3 c nc]
    exact e
  · have all : ∀ {ts : List Addr} {ps : List (V × V)}, (∀ t ∈ ts, t ≠ h'.objs.size) → Paired (fun t (p : V × V) => H3 t = some (.tup [p.1, p.2])) ts ps → Paired (fun t (p : V × V) => upd H3 h'.objs.size (.lst (ts'.map V.ref)) t = some (.tup [p.1, p.2])) ts ps := by
      intro ts ps hne z
      induction z with
      | nil => exact .nil
      | cons a b ih => exact .cons (by rw [upd_ne (hne _ List.mem_cons_self)]; exact a) (ih fun t ht => hne t (List.mem_cons_of_mem _ ht))
    exact all (fun t ht z => nl (z ▸ ht)) p3
end
end K19
set_option maxHeartbeats 4000000
namespace K19
open PySem PySem.Spec PyProof.Rows L2
/-! ### defs by name -/
structure Df (K : PySem.W.Frag) (mg : Str → Option Value) (x : Str) (st : Stmt) : Prop where
  ex : ∃ f fd, mg x = some (.ref f) ∧ FunD K x x (defArgs st) (defBody st) (defScope st) [] [] f fd
structure Cl (P : Program) (w : World) (K : PySem.W.Frag) (mg : Str → Option Value) (base : Heap) (x : Str) (k : Nat) (ps : List Str) (sp : Sp) : Prop where
  ex : ∃ f fd, mg x = some (.ref f) ∧ FnOk P w K mg base CX0 k f fd ps sp ∧ PySem.W.keepIn K (.ref f) = true ∧ Binds K fd ps []
section
variable {P : Program} {w : World} {K : PySem.W.Frag} {mg : Str → Option Value} {base : Heap} {x : Str} {st : Stmt} {ps N : List Str} {k : Nat} {sp : Sp}
/-- the context of a def's body -/
abbrev cxd (P : Program) (w : World) (K : PySem.W.Frag) (mg : Str → Option Value) (base : Heap) (x : Str) (st : Stmt) (N : List Str) (f : Addr) (cdv : Value) (A : Around) (outer : List Env) (s : Shared) (H : Hp) (E : XK) : Cx :=
  (cxOf CX0 P w K mg base N x (defScope st) f cdv A outer s H E).nox
theorem Df.cl (D : Df K mg x st) (S : FnScope N ps (defScope st)) (len : ∀ vs H Q E, sp vs H Q E → vs.length = ps.length)
    (hb : ∀ (kV doc pm : Value) (an : Option Addr) (cdv ct : Value) (us : List Value), us.length = ps.length → bindArgs (PySem.W.fnOf x x (defArgs st) (defBody st) (defScope st) .none kV doc pm an cdv ct) ⟨us, []⟩ = pure (ps.zip us))
    (hbody : ∀ (f : Addr) (cdv : Value) (A : Around) (outer : List Env) (s : Shared) (H0 : Hp) (E0 : XK), Room k (A.deeper (envOfC x (defScope st) s.heap.objs.size f cdv)) →
      ∃ t, PSs (cxd P w K mg base x st N f cdv A outer s H0 E0) (defBody st) t ∧ ∀ vs H Q E, sp vs H Q E → t { nx := fun _ H' => Q .non H', rt := Q } (start N vs) H) : Cl P w K mg base x (k + 1) ps sp := by
  obtain ⟨f, fd, hm, F⟩ := D.ex
  refine ⟨f, fd, hm, F.ok S len fun cdv A outer s H vs Q E hr hs => ?_, F.kp, F.bindsN hb⟩
  obtain ⟨t, h, q⟩ := hbody f cdv A outer s H E hr
  exact ⟨t, h.nox, q vs H Q E hs⟩
theorem Cl.mono {j : Nat} (C : Cl P w K mg base x j ps sp) (h : j ≤ k) : Cl P w K mg base x k ps sp := by
  obtain ⟨f, fd, a, b, c, d⟩ := C.ex
  exact ⟨f, fd, a, b.mono h, c, d⟩
end
theorem pe_cl {X : Cx} {x : Str} {k j : Nat} {ps : List Str} {sp : Sp} {e : Expr} {es : List Expr} {t : TA} {p pos : Pos} (C : Cl X.prog X.w X.K X.mg X.base x k ps sp) (hr : Room j X.A) (hk : k ≤ j) (hg : Gl X x) (ha : PA X (e :: es) t)
    (hdb : (x == ("__debug__" : Str)) = false := by decide) (he : starEach (e :: es) X.env = (false, eval e X.env) :: starEach es X.env := by rfl) (hpl : (backTo pos (starEach es X.env)).any (·.1) = false := by rfl) :
    PE X (.Call (.Name x p) (e :: es) [] pos) (tCall sp [] E0 t) := by
  obtain ⟨f, fd, a, b, c, d⟩ := C.ex
  exact pe_call b (hr.mono hk) hg a c d .nil pass0 ha hdb he hpl
theorem pe_cl0 {X : Cx} {x : Str} {k j : Nat} {ps : List Str} {sp : Sp} {p pos : Pos} (C : Cl X.prog X.w X.K X.mg X.base x k ps sp) (hr : Room j X.A) (hk : k ≤ j) (hg : Gl X x)
    (hdb : (x == ("__debug__" : Str)) = false := by decide) : PE X (.Call (.Name x p) [] [] pos) (tCall sp [] E0 tNil) := by
  obtain ⟨f, fd, a, b, c, d⟩ := C.ex
  exact pe_call0 b (hr.mono hk) hg a c d .nil pass0 hdb
/-- a class's making -/
structure Ic (P : Program) (w : World) (K : PySem.W.Frag) (mg : Str → Option Value) (base : Heap) (C : Addr) (k : Nat) (ps : List Str) (sp : Sp) : Prop where
  ex : ∃ f fd, Mk K C f ∧ FnOk P w K mg base CX0 k f fd ps sp ∧ Binds K fd ps []
theorem Ic.of {P : Program} {w : World} {K : PySem.W.Frag} {mg : Str → Option Value} {base : Heap} {q : Str} {st : Stmt} {ps N : List Str} {k : Nat} {sp : Sp} {C : Addr}
    (D : ∃ f fd, Mk K C f ∧ FunD K "__init__" q (defArgs st) (defBody st) (defScope st) [] [] f fd) (S : FnScope N ps (defScope st)) (len : ∀ vs H Q E, sp vs H Q E → vs.length = ps.length)
    (hb : ∀ (kV doc pm : Value) (an : Option Addr) (cdv ct : Value) (us : List Value), us.length = ps.length → bindArgs (PySem.W.fnOf "__init__" q (defArgs st) (defBody st) (defScope st) .none kV doc pm an cdv ct) ⟨us, []⟩ = pure (ps.zip us))
    (hbody : ∀ (f : Addr) (cdv : Value) (A : Around) (outer : List Env) (s : Shared) (H0 : Hp) (E0 : XK), Room k (A.deeper (envOfC q (defScope st) s.heap.objs.size f cdv)) →
      ∃ t, PSs (cxd P w K mg base q st N f cdv A outer s H0 E0) (defBody st) t ∧ ∀ vs H Q E, sp vs H Q E → t { nx := fun _ H' => Q .non H', rt := Q } (start N vs) H) : Ic P w K mg base C (k + 1) ps sp := by
  obtain ⟨f, fd, hm, F⟩ := D
  refine ⟨f, fd, hm, F.ok S len fun cdv A outer s H vs Q E hr hs => ?_, F.bindsN hb⟩
  obtain ⟨t, h, q⟩ := hbody f cdv A outer s H E hr
  exact ⟨t, h.nox, q vs H Q E hs⟩
theorem pe_mk {X : Cx} {x : Str} {k j : Nat} {ps : List Str} {sp : Sp} {C : Addr} {e : Expr} {es : List Expr} {t : TA} {p pos : Pos} (I : Ic X.prog X.w X.K X.mg X.base C k ps sp) (hm : X.mg x = some (.ref C)) (hr : Room j X.A) (hk : k + 1 ≤ j) (hg : Gl X x) (ha : PA X (e :: es) t)
    (hdb : (x == ("__debug__" : Str)) = false := by decide) (he : starEach (e :: es) X.env = (false, eval e X.env) :: starEach es X.env := by rfl) (hpl : (backTo pos (starEach es X.env)).any (·.1) = false := by rfl) :
    PE X (.Call (.Name x p) (e :: es) [] pos) (tMake C sp [] E0 t) := by
  obtain ⟨f, fd, a, b, c⟩ := I.ex
  exact pe_make a b (hr.mono hk) hg hm c .nil pass0 ha hdb he hpl
theorem bt_isinstance : bootBuiltins "isinstance" = some (.builtin "isinstance") := by first | exact PySem.boot_isinstance | exact PyProof.Rows.boot_isinstance | kernel_rfl
theorem bt_int : bootBuiltins "int" = some (.type "int") := by first | exact PySem.boot_int | exact PyProof.Rows.boot_int | kernel_rfl
theorem bt_bool : bootBuiltins "bool" = some (.type "bool") := by first | exact PySem.boot_bool | exact PyProof.Rows.boot_bool | kernel_rfl
theorem bt_tuple : bootBuiltins "tuple" = some (.type "tuple") := by first | exact PySem.boot_tuple | exact PyProof.Rows.boot_tuple | kernel_rfl
theorem bt_len : bootBuiltins "len" = some (.builtin "len") := by first | exact PySem.boot_len | exact PyProof.Rows.boot_len | kernel_rfl
theorem bt_all : bootBuiltins "all" = some (.builtin "all") := by first | exact PySem.boot_all | exact PyProof.Rows.boot_all | kernel_rfl
theorem bt_any : bootBuiltins "any" = some (.builtin "any") := by first | exact PySem.boot_any | exact PyProof.Rows.boot_any | kernel_rfl
theorem bt_list : bootBuiltins "list" = some (.type "list") := by first | exact PySem.boot_list | exact PyProof.Rows.boot_list | kernel_rfl
theorem bt_sorted : bootBuiltins "sorted" = some (.builtin "sorted") := by first | exact PySem.boot_sorted | exact PyProof.Rows.boot_sorted | kernel_rfl
theorem bt_set : bootBuiltins "set" = some (.type "set") := by first | exact PySem.boot_set | exact PyProof.Rows.boot_set | kernel_rfl
theorem bt_dict : bootBuiltins "dict" = some (.type "dict") := by first | exact PySem.boot_dict | exact PyProof.Rows.boot_dict | kernel_rfl
theorem bt_sum : bootBuiltins "sum" = some (.builtin "sum") := by first | exact PySem.boot_sum | exact PyProof.Rows.boot_sum | kernel_rfl
theorem bt_min : bootBuiltins "min" = some (.builtin "min") := by first | exact PySem.boot_min | exact PyProof.Rows.boot_min | kernel_rfl
theorem bt_abs : bootBuiltins "abs" = some (.builtin "abs") := by first | exact PySem.boot_abs | exact PyProof.Rows.boot_abs | kernel_rfl
theorem bt_str : bootBuiltins "str" = some (.type "str") := by first | exact PySem.boot_str | exact PyProof.Rows.boot_str | kernel_rfl
theorem ru65 {k : Nat} {A : Around} (r : Room k A) : A.units + 65 < cLine := by have := r.un; omega
end K19
set_option maxHeartbeats 4000000
namespace K19
open PySem PySem.Spec PyProof.Rows L2
/-- what stands behind the top -/
structure Fx (K : PySem.W.Frag) (mg : Str → Option Value) (CB CW : Addr) : Prop where
  d_is_integer : Df K mg "is_integer" s_is_integer
  d_is_within : Df K mg "is_within" s_is_within
  d_is_tuple_of : Df K mg "is_tuple_of" s_is_tuple_of
  d_are_within : Df K mg "are_within" s_are_within
  d_is_rule : Df K mg "is_rule" s_is_rule
  d_is_move : Df K mg "is_move" s_is_move
  d_is_long : Df K mg "is_long" s_is_long
  d_check_rules : Df K mg "check_rules" s_check_rules
  d_check_moves : Df K mg "check_moves" s_check_moves
  d_price_of : Df K mg "price_of" s_price_of
  d_is_value : Df K mg "is_value" s_is_value
  d_is_of : Df K mg "is_of" s_is_of
  d_fits : Df K mg "fits" s_fits
  d_check_web : Df K mg "check_web" s_check_web
  d_ways_of_op : Df K mg "ways_of_op" s_ways_of_op
  d_raw_ways : Df K mg "raw_ways" s_raw_ways
  d_needs_in_order : Df K mg "needs_in_order" s_needs_in_order
  d_raw_needs : Df K mg "raw_needs" s_raw_needs
  d_is_giving : Df K mg "is_giving" s_is_giving
  d_usable_ways : Df K mg "usable_ways" s_usable_ways
  d_is_usable : Df K mg "is_usable" s_is_usable
  d_is_pair : Df K mg "is_pair" s_is_pair
  d_source_of : Df K mg "source_of" s_source_of
  d_comes_back : Df K mg "comes_back" s_comes_back
  d_is_choice_of : Df K mg "is_choice_of" s_is_choice_of
  d_is_choice : Df K mg "is_choice" s_is_choice
  d_check_choice : Df K mg "check_choice" s_check_choice
  d_raw_cost : Df K mg "raw_cost" s_raw_cost
  d_all_needed : Df K mg "all_needed" s_all_needed
  d_beyond : Df K mg "beyond" s_beyond
  d_raw_extras : Df K mg "raw_extras" s_raw_extras
  d_extras : Df K mg "extras" s_extras
  d_raw_undercut : Df K mg "raw_undercut" s_raw_undercut
  d_undercut : Df K mg "undercut" s_undercut
  d_is_best : Df K mg "is_best" s_is_best
  d_total : Df K mg "total" s_total
  d_better : Df K mg "better" s_better
  d_raw_alone : Df K mg "raw_alone" s_raw_alone
  d_own : Df K mg "own" s_own
  d_law_bag : Df K mg "_law_bag" s_law_bag
  d_law_pick : Df K mg "_law_pick" s_law_pick
  d_law_some : Df K mg "_law_some" s_law_some
  d_law_book : Df K mg "_law_book" s_law_book
  d_law_values : Df K mg "_law_values" s_law_values
  d_law_price : Df K mg "_law_price" s_law_price
  d_law_needs : Df K mg "_law_needs" s_law_needs
  d_law_usable : Df K mg "_law_usable" s_law_usable
  d_law_needed : Df K mg "_law_needed" s_law_needed
  d_law_cost : Df K mg "_law_cost" s_law_cost
  d_law_drawn_choice : Df K mg "_law_drawn_choice" s_law_drawn_choice
  d_law_extras : Df K mg "_law_extras" s_law_extras
  d_law_nested : Df K mg "_law_nested" s_law_nested
  d_law_is_right : Df K mg "_law_is_right" s_law_is_right
  d_law : Df K mg "law" s_law
  f_isinstance : mg "isinstance" = none
  f_int : mg "int" = none
  f_bool : mg "bool" = none
  f_tuple : mg "tuple" = none
  f_len : mg "len" = none
  f_all : mg "all" = none
  f_any : mg "any" = none
  f_enumerate : mg "enumerate" = none
  f_range : mg "range" = none
  f_list : mg "list" = none
  f_zip : mg "zip" = none
  f_sorted : mg "sorted" = none
  f_set : mg "set" = none
  f_dict : mg "dict" = none
  f_sum : mg "sum" = none
  f_min : mg "min" = none
  f_abs : mg "abs" = none
  f_str : mg "str" = none
  i_MOST_OPS : ∃ u, mg "MOST_OPS" = some u ∧ RelV (.int 8) u
  i_MOST_KINDS : ∃ u, mg "MOST_KINDS" = some u ∧ RelV (.int 5) u
  i_MOST_PARTS_books : ∃ u, mg "MOST_PARTS_books" = some u ∧ RelV (.int 2) u
  i_MOST_RULES : ∃ u, mg "MOST_RULES" = some u ∧ RelV (.int 40) u
  i_MOST_MOVES : ∃ u, mg "MOST_MOVES" = some u ∧ RelV (.int 20) u
  i_MOST_PRICE : ∃ u, mg "MOST_PRICE" = some u ∧ RelV (.int 1000) u
  i_MOST_OP : ∃ u, mg "MOST_OP" = some u ∧ RelV (.int 7) u
  i_MOST_PARTS_webs : ∃ u, mg "MOST_PARTS_webs" = some u ∧ RelV (.int 2) u
  i_MOST_VALUES : ∃ u, mg "MOST_VALUES" = some u ∧ RelV (.int 200) u
  gB : mg "Book" = some (.ref CB)
  clB : Cls K CB
  mkB : ∃ f fd, Mk K CB f ∧ FunD K "__init__" "Book.__init__" (defArgs s_Book_init) (defBody s_Book_init) (defScope s_Book_init) [] [] f fd
  nB_arities : NoAttr K CB "arities"
  nB_kinds : NoAttr K CB "kinds"
  nB_rules : NoAttr K CB "rules"
  nB_moves : NoAttr K CB "moves"
  gW : mg "Web" = some (.ref CW)
  clW : Cls K CW
  mkW : ∃ f fd, Mk K CW f ∧ FunD K "__init__" "Web.__init__" (defArgs s_Web_init) (defBody s_Web_init) (defScope s_Web_init) [] [] f fd
  nW_rows : NoAttr K CW "rows"
  insW : C8.InsC K CW
end K19
set_option maxHeartbeats 4000000
namespace K19
open PySem PySem.Spec PyProof.Rows L2
/-! ### the rules with the program, the world and the written part named -/
structure At (X : Cx) (P : Program) (w : World) (K : PySem.W.Frag) : Prop where
  p : X.prog = P
  w : X.w = w
  k : X.K = K
section
variable {X : Cx} {P : Program} {w : World} {K : PySem.W.Frag}
theorem qixT (h : At X P w K) : IxR X (rIxT K) := by obtain ⟨rfl, rfl, rfl⟩ := h; exact ix_tup
theorem qixL (h : At X P w K) : IxR X (rIxL K) := by obtain ⟨rfl, rfl, rfl⟩ := h; exact ix_list
theorem qslT (h : At X P w K) : SlR X (rSlT K) := by obtain ⟨rfl, rfl, rfl⟩ := h; exact sl_tup
theorem qslL (h : At X P w K) : SlR X (rSlL K) := by obtain ⟨rfl, rfl, rfl⟩ := h; exact sl_list
theorem qisi (h : At X P w K) : CallR X (.builtin "isinstance") (rIsi K) := by obtain ⟨rfl, rfl, rfl⟩ := h; exact call_isi
def rLenK (K : PySem.W.Frag) : List V → Hp → VK → Prop := fun xs H Q => ∃ x n, xs = [x] ∧ LenV K x H n ∧ Q (.int (n : Nat)) H
theorem qlen (h : At X P w K) : CallR X (.builtin "len") (rLenK K) := by obtain ⟨rfl, rfl, rfl⟩ := h; exact call_len
def rLenD (P : Program) (w : World) : List V → Hp → VK → Prop := fun xs H Q => ∃ (p : Addr) (kvs : List (NestedKey × V)), xs = [.ref p] ∧ Dc P w H p kvs ∧ Q (.int ((kvs.length : Nat) : Int)) H
theorem qlenD (h : At X P w K) : CallR X (.builtin "len") (rLenD P w) := by obtain ⟨rfl, rfl, rfl⟩ := h; exact call_len_n
theorem qall (h : At X P w K) (hc : X.calm = true) : CallR X (.builtin "all") (rAll K) := by obtain ⟨rfl, rfl, rfl⟩ := h; exact cr_all hc
theorem qany (h : At X P w K) (hc : X.calm = true) : CallR X (.builtin "any") (rAny K) := by obtain ⟨rfl, rfl, rfl⟩ := h; exact cr_any hc
theorem qsum (h : At X P w K) (hc : X.calm = true) : CallR X (.builtin "sum") (rSum K) := by obtain ⟨rfl, rfl, rfl⟩ := h; exact cr_sum hc
def rTupOf (K : PySem.W.Frag) : List V → Hp → VK → Prop := fun xs H Q => ∃ p ys, xs = [.ref p] ∧ ((SqL K H p ys ∧ ∀ l, H l = none → Q (.ref l) (upd H l (.tup ys))) ∨ (SqT K H p ys ∧ Q (.ref p) H))
theorem qtup (h : At X P w K) : CallR X (.type "tuple") (rTupOf K) := by obtain ⟨rfl, rfl, rfl⟩ := h; exact call_tuple_of
theorem qset (h : At X P w K) (hc : X.calm = true) (hu : X.A.units + 64 < cLine) : CallR X (.type "set") (rSetOfT K P w) := by obtain ⟨rfl, rfl, rfl⟩ := h; exact cr_setOfT hc hu
theorem qsorT (h : At X P w K) (hc : X.calm = true) : CallR X (.builtin "sorted") (rSortedT K P w) := by obtain ⟨rfl, rfl, rfl⟩ := h; exact cr_sortedT hc
def rSrtK (K : PySem.W.Frag) : List V → Hp → VK → Prop := fun xs H Q => ∃ (l : Addr) (vs : List V) (ks : List NestedKey), xs = [.ref l] ∧ SqL K H l vs ∧ Paired (Nk H) vs ks ∧ Srt ks ∧ ∀ p ys, H p = none → Paired (Nk H) ys (ksort ks) → Q (.ref p) (upd H p (.lst ys))
theorem qsorK (h : At X P w K) (hu : X.A.units + 64 < cLine) : CallR X (.builtin "sorted") (rSrtK K) := by
  obtain ⟨rfl, rfl, rfl⟩ := h
  intro pins s σ H xs us Q I r ⟨l, vs, ks, a, b, c, d, e⟩
  exact cr_sortedK pins s σ H xs us Q I r ⟨l, vs, ks, a, hu, b, c, d, e⟩
def rSrtN (P : Program) (w : World) : List V → Hp → VK → Prop := fun xs H Q => ∃ (d : Addr) (kvs : List (NestedKey × V)), xs = [.ref d] ∧ Dc P w H d kvs ∧ Srt (kvs.map (·.1)) ∧ ∀ p ys, H p = none → Paired (Nk H) ys (ksort (kvs.map (·.1))) → Q (.ref p) (upd H p (.lst ys))
theorem qsorN (h : At X P w K) (hc : X.calm = true) (hu : X.A.units + 64 < cLine) : CallR X (.builtin "sorted") (rSrtN P w) := by
  obtain ⟨rfl, rfl, rfl⟩ := h
  intro pins s σ H xs us Q I r ⟨d, kvs, a, b, c, e⟩
  exact cr_sortedN hc pins s σ H xs us Q I r ⟨d, kvs, a, hu, b, c, e⟩
def rMinK (K : PySem.W.Frag) : List V → Hp → VK → Prop := fun xs H Q => ∃ (l : Addr) (vs : List V) (k : NestedKey) (ks : List NestedKey), xs = [.ref l] ∧ SqL K H l vs ∧ Paired (Nk H) vs (k :: ks) ∧ Srt (k :: ks) ∧ ∀ v, v ∈ vs → (∃ k', Nk H v k' ∧ k' ∈ k :: ks ∧ k'.data = PySem.W.minD k.data (ks.map NestedKey.data)) → Q v H
theorem qminK (h : At X P w K) (hc : X.calm = true) (hu : X.A.units + 64 < cLine) : CallR X (.builtin "min") (rMinK K) := by
  obtain ⟨rfl, rfl, rfl⟩ := h
  intro pins s σ H xs us Q I r ⟨l, vs, k, ks, a, b, c, d, e⟩
  exact cr_minKey hc pins s σ H xs us Q I r ⟨l, vs, k, ks, a, hu, b, c, d, e⟩
def rDctN (P : Program) (w : World) : List V → Hp → VK → Prop := fun xs H Q => ∃ (d : Addr) (kvs : List (NestedKey × V)), xs = [V.ref d] ∧ Dc P w H d kvs ∧ HAp w kvs ∧ ∀ p H', H p = none → But p H H' → Dc P w H' p kvs → Q (.ref p) H'
theorem qdctN (h : At X P w K) (hu : X.A.units + 64 < cLine) : CallR X (.type "dict") (rDctN P w) := by
  obtain ⟨rfl, rfl, rfl⟩ := h
  intro pins s σ H xs us Q I r ⟨d, kvs, a, b, c, e⟩
  exact call_dict_n pins s σ H xs us Q I r ⟨d, kvs, a, hu, b, c, e⟩
def rLstN (P : Program) (w : World) : List V → Hp → VK → Prop := fun xs H Q => ∃ (d : Addr) (kvs : List (NestedKey × V)), xs = [V.ref d] ∧ Dc P w H d kvs ∧ ∀ p bs, H p = none → Paired (fun kv (b : Addr) => Nk H (.ref b) kv.1) kvs bs → Q (.ref p) (upd H p (.lst (bs.map V.ref)))
theorem qlstN (h : At X P w K) (hc : X.calm = true) : CallR X (.type "list") (rLstN P w) := by obtain ⟨rfl, rfl, rfl⟩ := h; exact call_list_n hc
def rIsiN (P : Program) (w : World) (K : PySem.W.Frag) : List V → Hp → VK → Prop := fun xs H Q => ∃ (d : Addr) (kvs : List (NestedKey × V)) (T : String) (b : Bool), xs = [V.ref d, .ty T] ∧ Dc P w H d kvs ∧ PySem.W.kitOne K (.type "dict") (.type T) = some b ∧ Q (.bl b) H
theorem qisiN (h : At X P w K) : CallR X (.builtin "isinstance") (rIsiN P w K) := by obtain ⟨rfl, rfl, rfl⟩ := h; exact call_isi_n
theorem CallR_or {f : Value} {r1 r2 : List V → Hp → VK → Prop} (h1 : CallR X f r1) (h2 : CallR X f r2) : CallR X f (fun xs H Q => r1 xs H Q ∨ r2 xs H Q) := fun pins s σ H xs us Q I r q => q.elim (h1 pins s σ H xs us Q I r) (h2 pins s σ H xs us Q I r)
theorem qnotinD (h : At X P w K) (hu : X.A.units + 65 < cLine) : OpR X (compareOp .NotIn) (rNotInD K) := by obtain ⟨rfl, rfl, rfl⟩ := h; exact op_notInD hu
def rLstOf (K : PySem.W.Frag) : List V → Hp → VK → Prop := fun xs H Q => ∃ p ys, xs = [.ref p] ∧ (SqL K H p ys ∨ SqT K H p ys) ∧ ∀ l, H l = none → Q (.ref l) (upd H l (.lst ys))
theorem qlst (h : At X P w K) : CallR X (.type "list") (rLstOf K) := by obtain ⟨rfl, rfl, rfl⟩ := h; exact call_list_of
theorem qcat (h : At X P w K) : OpR X (binaryOp .Add) (rCatT K) := by obtain ⟨rfl, rfl, rfl⟩ := h; exact op_catT
theorem qneN (h : At X P w K) (hu : X.A.units + 64 < cLine) : OpR X (compareOp .NotEq) (rNeN P w) := by obtain ⟨rfl, rfl, rfl⟩ := h; exact op_ne_n hu
theorem qneD (h : At X P w K) (hu : X.A.units + 64 < cLine) : OpR X (compareOp .NotEq) (rNeD K) := by obtain ⟨rfl, rfl, rfl⟩ := h; exact op_neD hu
theorem qeqD (h : At X P w K) (hu : X.A.units + 64 < cLine) : OpR X (compareOp .Eq) (rEqD K) := by obtain ⟨rfl, rfl, rfl⟩ := h; exact op_eqD hu
theorem qinD (h : At X P w K) (hu : X.A.units + 65 < cLine) : OpR X (compareOp .In) (rInD K) := by obtain ⟨rfl, rfl, rfl⟩ := h; exact op_inD hu
theorem qinS (h : At X P w K) : OpR X (compareOp .In) (rIn K false) := by obtain ⟨rfl, rfl, rfl⟩ := h; exact op_in_seq
variable {e o i f value a l : Expr} {es : List Expr} {ta to te ty td tv tx tl t1 t2 : TE} {t : TA} {pos pos' apos cpos p p2 q tpos : Pos} {x name : Str} {tg : Expr}
theorem qfld (h : At X P w K) (he : PE X e ta) (hb : attributeBase e x X.env (eval e X.env) = eval e X.env) : PE X (.Attribute e x pos) (tFld K ta x) := by obtain ⟨rfl, rfl, rfl⟩ := h; exact pe_fld he hb
theorem qsfld (h : At X P w K) (ha : PE X o ta) (hv : PE X value tv) (hs : swapsWith value (some (.Attribute o x pos')) pos.line X.env = pure false) : PS X (.Assign [.Attribute o x pos'] value pos) (sFld K ta tv x) := by obtain ⟨rfl, rfl, rfl⟩ := h; exact ps_fld ha hv hs
theorem qdnew (h : At X P w K) : PE X (.Dict [] [] pos) (tDNewN P w) := by obtain ⟨rfl, rfl, rfl⟩ := h; exact pe_dnewN
theorem qnget (h : At X P w K) (hu : X.A.units + 64 < cLine) (ho : PE X o td) (hi : PE X i ty) (hs : NoSl i) : PE X (.Subscript o i pos) (tNGet P w td ty) := by obtain ⟨rfl, rfl, rfl⟩ := h; exact pe_nget hu ho hi hs
theorem qnin (h : At X P w K) (hu : X.A.units + 64 < cLine) (hi : PE X i ty) (ho : PE X o td) : PC X .In i o (tNIn P w ty td) := by obtain ⟨rfl, rfl, rfl⟩ := h; exact pc_nin hu hi ho
theorem qnnot (h : At X P w K) (hu : X.A.units + 64 < cLine) (hi : PE X i ty) (ho : PE X o td) : PC X .NotIn i o (tNNotIn P w ty td) := by obtain ⟨rfl, rfl, rfl⟩ := h; exact pc_nnotin hu hi ho
theorem qnput (h : At X P w K) (hu : X.A.units + 64 < cLine) (ho : PE X o td) (hi : PE X i ty) (hv : PE X value tv) (hs : swapsWith value (some (.Subscript o i pos')) pos.line X.env = pure false) :
    PS X (.Assign [.Subscript o i pos'] value pos) (sNPut P w td ty tv) := by obtain ⟨rfl, rfl, rfl⟩ := h; exact ps_nput hu ho hi hv hs
theorem qnget2 (h : At X P w K) (hu : X.A.units + 64 < cLine) (ho : PE X o td) (he : PE X e ty) (hf : PE X f tx) (m : M2 X o "get" apos e f cpos) : PE X (.Call (.Attribute o "get" apos) [e, f] [] cpos) (tNGet2 P w td ty tx) := by obtain ⟨rfl, rfl, rfl⟩ := h; exact pe_nget2 hu ho he hf m
theorem qnpop (h : At X P w K) (hu : X.A.units + 64 < cLine) (ho : PE X o td) (he : PE X e ty) (m : M1 X o "pop" apos e cpos) : PE X (.Call (.Attribute o "pop" apos) [e] [] cpos) (tNPop P w td ty) := by obtain ⟨rfl, rfl, rfl⟩ := h; exact pe_npop hu ho he m
theorem qnupd (h : At X P w K) (hu : X.A.units + 64 < cLine) (ho : PE X o td) (he : PE X e ty) (m : M1 X o "update" apos e cpos) : PE X (.Call (.Attribute o "update" apos) [e] [] cpos) (tNUpd P w td ty) := by obtain ⟨rfl, rfl, rfl⟩ := h; exact pe_nupd hu ho he m
theorem qnclear (h : At X P w K) (ho : PE X o td) (hb : attributeBase o "clear" X.env (eval o X.env) = eval o X.env := by rfl) (hl : (apos.endLine == cpos.line) = true := by rfl) : PE X (.Call (.Attribute o "clear" apos) [] [] cpos) (tNClear P w td) := by obtain ⟨rfl, rfl, rfl⟩ := h; exact pe_nclear ho hb hl
theorem qnone1 (h : At X P w K) {ke ve : Expr} (hu : X.A.units + 64 < cLine) (hk : PE X ke ty) (hv : PE X ve tv)
    (hshape : (evalEachOpt [some ke] X.env).zip ((evalEach [ve] X.env).map fun v => do let x ← v; standAt pos; pure x) = [(eval ke X.env, do let x ← eval ve X.env; standAt pos; pure x)].map fun p => (some p.1, p.2) := by rfl) :
    PE X (.Dict [some ke] [ve] pos) (tNOne P w ty tv) := by obtain ⟨rfl, rfl, rfl⟩ := h; exact pe_none1 hu hk hv hshape
theorem qbm {T id : String} {r : V → List V → Hp → VK → Prop} (h : At X P w K) (pa : PlainAttrs T) (slot : Slot T name id) (hty : typeOf (.builtin id) = pure (.type "method_descriptor")) (hm : MtR X id r) (ho : PE X o to) (ha : PA X (e :: es) t)
    (hbase : attributeBase o name X.env (eval o X.env) = eval o X.env := by rfl)
    (hfew : ((backTo cpos (starEach (e :: es) X.env)).all (fun x => !x.1) && (backToKw cpos (keywordEach [] X.env)).all (fun x => x.1.isSome)
      && decide ((e :: es).length + ([] : List Keyword).length + (if ([] : List Keyword).isEmpty then 0 else 1) < 30)) = true := by rfl)
    (hline : (apos.endLine == cpos.line) = true := by rfl) (hs : starEach (e :: es) X.env = (false, eval e X.env) :: starEach es X.env := by rfl) (hplain : (backTo cpos (starEach es X.env)).any (·.1) = false := by rfl) :
    PE X (.Call (.Attribute o name apos) (e :: es) [] cpos) (tBM K T r to t) := by obtain ⟨rfl, rfl, rfl⟩ := h; exact pe_bm pa slot hty hm ho ha hbase hfew hline hs hplain
theorem qbm0 {T id : String} {r : V → List V → Hp → VK → Prop} (h : At X P w K) (pa : PlainAttrs T) (slot : Slot T name id) (hty : typeOf (.builtin id) = pure (.type "method_descriptor")) (hm : MtR X id r) (ho : PE X o to)
    (hbase : attributeBase o name X.env (eval o X.env) = eval o X.env := by rfl) (hline : (apos.endLine == cpos.line) = true := by rfl) : PE X (.Call (.Attribute o name apos) [] [] cpos) (tBM0 K T r to) := by obtain ⟨rfl, rfl, rfl⟩ := h; exact pe_bm0 pa slot hty hm ho hbase hline
theorem qpgT (h : At X P w K) {k : Nat} {t : TGs} {n : Nat} (hc : X.calm = true) (hh : PGs X es t)
    (hn : (assignEach es X.env).length = n := by rfl) (hst : (assignEach es X.env).findIdx? (·.1) = none := by rfl) : PG X (.Tuple es k pos) (gTup K n t) := by obtain ⟨rfl, rfl, rfl⟩ := h; exact pg_tup hc hh hn hst
theorem qpiL (h : At X P w K) (hl : PE X l tl) : PI X tg l (iList K tl) := by obtain ⟨rfl, rfl, rfl⟩ := h; exact pi_list hl
theorem qpiT (h : At X P w K) (hl : PE X l tl) : PI X tg l (iTup K tl) := by obtain ⟨rfl, rfl, rfl⟩ := h; exact pi_tup hl
theorem qpiN (h : At X P w K) (hl : PE X l tl) : PI X tg l (iN P w tl) := by obtain ⟨rfl, rfl, rfl⟩ := h; exact pi_n hl
theorem qpiV (h : At X P w K) (he : PE X e td) (hbase : attributeBase e "values" X.env (eval e X.env) = eval e X.env := by rfl) (hline : (apos.endLine == cpos.line) = true := by rfl) : PI X tg (.Call (.Attribute e "values" apos) [] [] cpos) (iNV P w td) := by obtain ⟨rfl, rfl, rfl⟩ := h; exact pi_nvals he hbase hline
theorem qpiE (h : At X P w K) {ta : TA} {elts : List Expr} {kk : Nat} (hg : Gl X "enumerate") (hm : X.mg "enumerate" = none) (ha : PA X [e] ta) (hs : starEach [e] X.env = [(false, eval e X.env)] := by rfl) :
    PI X (.Tuple elts kk tpos) (.Call (.Name "enumerate" p) [e] [] pos) (iEnumT K ta) := by obtain ⟨rfl, rfl, rfl⟩ := h; exact pi_enumT hg hm ha hs
theorem qlzip (h : At X P w K) {e1 e2 : Expr} (hc : X.calm = true) (hg : Gl X "list") (hm : X.mg "list" = none) (hg2 : Gl X "zip") (hm2 : X.mg "zip" = none) (hA : PA X [e1, e2] (tCons t1 (tCons t2 tNil)))
    (na : starEach [Expr.Call (.Name "zip" p2) [e1, e2] [] q] X.env = [(false, eval (.Call (.Name "zip" p2) [e1, e2] [] q) X.env)] := by rfl)
    (hs : starEach [e1, e2] X.env = (false, eval e1 X.env) :: starEach [e2] X.env := by rfl) (hpl : (backTo q (starEach [e2] X.env)).any (·.1) = false := by rfl) :
    PE X (.Call (.Name "list" p) [.Call (.Name "zip" p2) [e1, e2] [] q] [] pos) (tLZ K t1 t2) := by obtain ⟨rfl, rfl, rfl⟩ := h; exact pe_lzip hc hg hm hg2 hm2 hA na hs hpl
theorem qdcN (h : At X P w K) {kx vx tg iter : Expr} {scope : Scope} {own : List (Str × Nat)} {wi : TI} {g : TG} {tk tv : TE} (hc : X.calm = true) (hu : X.A.units + 64 < cLine) (hN : X.N.Nodup) (hi : PI X tg iter wi) (ok : BlkOk X.N X.env.scope scope own)
    (hg : BlkAll X scope fun Y => PG Y tg g) (hk : BlkAll X scope fun Y => PE Y kx tk) (he : BlkAll X scope fun Y => PE Y vx tv) (hs : ∀ x, foldedSetIterable iter X.env x = pure x := by intro _; rfl) :
    PE X (.DictComp kx vx [⟨tg, iter, [], 0⟩] scope pos) (tDcN P w wi g tk tv (own.map (·.2))) := by obtain ⟨rfl, rfl, rfl⟩ := h; exact pe_dcN hc hu hN hi ok hg hk he hs
end
end K19
set_option maxHeartbeats 4000000
namespace K19
open PySem PySem.Spec PyProof.Rows L2
/-! ### the data -/
abbrev Thg := Nat × Nat
abbrev Wy := Bool × Nat
abbrev Vl := Nat × List Nat
structure Rl where
  op : Nat
  src : List Nat
  tgt : Nat
  prc : Nat
structure Mv where
  fr : Nat
  to : Nat
  prc : Nat
structure Bk where
  ar : List Nat
  ks : Nat
  rs : List Rl
  ms : List Mv
abbrev kI (n : Nat) : NestedKey := .num (n : Int)
abbrev eL (l : List Nat) : NestedKey := .tup (l.map kI)
abbrev eT (t : Thg) : NestedKey := .tup [kI t.1, kI t.2]
abbrev wS (b : Bool) : Str := if b then "rule" else "move"
abbrev eW (w : Wy) : NestedKey := .tup [.text (wS w.1), kI w.2]
abbrev eR (r : Rl) : NestedKey := .tup [kI r.op, eL r.src, kI r.tgt, kI r.prc]
abbrev eM (m : Mv) : NestedKey := .tup [kI m.fr, kI m.to, kI m.prc]
abbrev eV (v : Vl) : NestedKey := .tup [kI v.1, eL v.2]
abbrev eRs (b : Bk) : NestedKey := .tup (b.rs.map eR)
abbrev eMs (b : Bk) : NestedKey := .tup (b.ms.map eM)
abbrev eB (b : Bk) : NestedKey := .tup [eL b.ar, kI b.ks, eRs b, eMs b]
abbrev eWb (W : List Vl) : NestedKey := .tup (W.map eV)
def Bk.hd (r : Rl) : Nat × List Nat × Nat := (r.op, r.src, r.tgt)
structure Bk.RlOk (b : Bk) (r : Rl) : Prop where
  ar : b.ar[r.op]? = some r.src.length
  src : ∀ s ∈ r.src, s < b.ks
  tgt : r.tgt < b.ks
  p1 : 1 ≤ r.prc
  p2 : r.prc ≤ 1000
structure Bk.MvOk (b : Bk) (m : Mv) : Prop where
  fr : m.fr < b.ks
  to : m.to < b.ks
  ne : m.fr ≠ m.to
  p1 : 1 ≤ m.prc
  p2 : m.prc ≤ 1000
structure Bk.Ok (b : Bk) : Prop where
  a1 : 1 ≤ b.ar.length
  a2 : b.ar.length ≤ 8
  a3 : ∀ a ∈ b.ar, a ≤ 2
  k1 : 1 ≤ b.ks
  k2 : b.ks ≤ 5
  rn : b.rs.length ≤ 40
  mn : b.ms.length ≤ 20
  ro : ∀ r ∈ b.rs, b.RlOk r
  mo : ∀ m ∈ b.ms, b.MvOk m
  rd : (b.rs.map Bk.hd).Nodup
  md : (b.ms.map fun m => (m.fr, m.to)).Nodup
structure VlOk (b : Bk) (i : Nat) (v : Vl) : Prop where
  ar : b.ar[v.1]? = some v.2.length
  lt : ∀ p ∈ v.2, p < i
structure WbOk (b : Bk) (W : List Vl) : Prop where
  n : W.length ≤ 9
  ok : ∀ i v, W[i]? = some v → VlOk b i v
/-! ### reading -/
section
variable {K : PySem.W.Frag} {H H' : Hp} {v : V} {ks : List NestedKey} {Q : VK}
theorem gmap {α β : Type} {f : α → β} {l : List α} {j : Nat} {a : α} (h : l[j]? = some a) : (l.map f)[j]? = some (f a) := by rw [List.getElem?_map, h]; rfl
theorem Nk.tupE (n : Nk H v (.tup ks)) : ∃ a xs, v = .ref a ∧ H a = some (.tup xs) ∧ NkA H xs ks := by
  cases n with
  | tup e a => exact ⟨_, _, rfl, e, a⟩
theorem gmap' {α β : Type} {f : α → β} {l : List α} {j : Nat} {x : β} (h : (l.map f)[j]? = some x) : ∃ a, l[j]? = some a ∧ x = f a := by
  rw [List.getElem?_map] at h
  cases e : l[j]? with
  | none => rw [e] at h; cases h
  | some a => rw [e] at h; exact ⟨a, rfl, (Option.some.inj h).symm⟩
theorem Nk.intE {i : Int} (n : Nk H v (.num i)) : v = .int i := by cases n; rfl
theorem Nk.strE {x : Str} (n : Nk H v (.text x)) : v = .str x := by cases n; rfl
theorem Nk.lenV (n : Nk H v (.tup ks)) : LenV K v H ks.length := by
  obtain ⟨a, xs, rfl, e, r⟩ := n.tupE
  exact .inr ⟨xs, .of e, r.length.symm⟩
theorem Nk.tyT (n : Nk H v (.tup ks)) : TyX K H v (.type "tuple") := by
  obtain ⟨a, xs, rfl, e, r⟩ := n.tupE
  exact .base (.tup e)
theorem rd_ix (n : Nk H v (.tup ks)) (j : Nat) {k : NestedKey} (e : ks[j]? = some k) (q : ∀ u, Nk H u k → Q u H) : rIxT K v (.int (j : Nat)) H Q := by
  obtain ⟨a, xs, rfl, ea, r⟩ := n.tupE
  obtain ⟨u, h1, h2⟩ := r.get e
  exact ⟨a, xs, _, u, rfl, rfl, .of ea, atI_nat h1, q u h2⟩
theorem rd_isi {x : V} {a b : String} {r : Bool} (ty : TyX K H x (.type a)) (h : kitB a b = some r) (q : Q (.bl r) H) : rIsi K [x, .ty b] H Q := ⟨_, _, _, _, r, rfl, .ty _, ty, kit_ty h, q⟩
theorem qT {Q : VK} {b : Bool} (e : b = true) (q : Q (.bl true) H) : Q (.bl b) H := by rw [e]; exact q
theorem qF {Q : VK} {b : Bool} (e : b = false) (q : Q (.bl false) H) : Q (.bl b) H := by rw [e]; exact q
theorem iteD {p : Prop} [Decidable p] {A B : Prop} (h : p) (q : A) : if decide p = true then A else B := by
  rw [if_pos (decide_eq_true h)]; exact q
theorem iteN {p : Prop} [Decidable p] {A B : Prop} (h : ¬ p) (q : B) : if decide p = true then A else B := by
  rw [if_neg (by rw [decide_eq_false h]; exact Bool.false_ne_true)]; exact q
theorem iteB {c : Bool} {A B : Prop} (h1 : c = true → A) (h2 : c = false → B) : if c = true then A else B := by
  cases c with
  | true => rw [if_pos rfl]; exact h1 rfl
  | false => rw [if_neg (by decide)]; exact h2 rfl
theorem bfl {b : Bool} (h : b = false) : ¬ b = true := by rw [h]; exact Bool.false_ne_true
theorem iteND {p : Prop} [Decidable p] {A B : Prop} (h : p) (q : B) : if (!decide p) = true then A else B := by
  rw [decide_eq_true h, if_neg (by decide)]; exact q
theorem iteNN {p : Prop} [Decidable p] {A B : Prop} (h : ¬ p) (q : A) : if (!decide p) = true then A else B := by
  rw [decide_eq_false h, if_pos (by decide)]; exact q
theorem nkT (n : Nk H v (.tup ks)) (s : Same H H') : Nk H' v (.tup ks) := n.keep (KpT.of s)
/-- a tuple of ints -/
theorem NkA.ints : ∀ {xs : List V} {l : List Nat}, NkA H xs (l.map kI) → xs = l.map fun n : Nat => V.int n
  | _, [], .nil => rfl
  | _, n :: l, .cons a b => by rw [NkA.ints b, a.intE]; rfl
theorem NkA.ofInts : ∀ l : List Nat, NkA H (l.map fun n : Nat => V.int n) (l.map kI)
  | [] => .nil
  | n :: l => .cons (.int _) (NkA.ofInts l)
theorem Nk.nums {l : List Nat} (n : Nk H v (eL l)) : ∃ a, v = .ref a ∧ H a = some (.tup (l.map fun n : Nat => V.int n)) := by
  obtain ⟨a, xs, rfl, e, r⟩ := n.tupE
  rw [r.ints] at e
  exact ⟨a, rfl, e⟩
theorem Nk.two {k1 k2 : NestedKey} (n : Nk H v (.tup [k1, k2])) : ∃ a x y, v = .ref a ∧ H a = some (.tup [x, y]) ∧ Nk H x k1 ∧ Nk H y k2 := by
  obtain ⟨a, xs, rfl, e, r⟩ := n.tupE
  cases r with
  | cons r1 r => cases r with
    | cons r2 r => cases r; exact ⟨a, _, _, rfl, e, r1, r2⟩
theorem Nk.rl {r : Rl} (n : Nk H v (eR r)) : ∃ a x, v = .ref a ∧ H a = some (.tup [.int (r.op : Nat), x, .int (r.tgt : Nat), .int (r.prc : Nat)]) ∧ Nk H x (eL r.src) := by
  obtain ⟨a, xs, rfl, e, r⟩ := n.tupE
  cases r with
  | cons r1 r => cases r with
    | cons r2 r => cases r with
      | cons r3 r => cases r with
        | cons r4 r => cases r; cases r1; cases r3; cases r4; exact ⟨a, _, rfl, e, r2⟩
theorem Nk.mv {m : Mv} (n : Nk H v (eM m)) : ∃ a, v = .ref a ∧ H a = some (.tup [.int (m.fr : Nat), .int (m.to : Nat), .int (m.prc : Nat)]) := by
  obtain ⟨a, xs, rfl, e, r⟩ := n.tupE
  cases r with
  | cons r1 r => cases r with
    | cons r2 r => cases r with
      | cons r3 r => cases r; cases r1; cases r2; cases r3; exact ⟨a, rfl, e⟩
theorem Nk.th {t : Thg} (n : Nk H v (eT t)) : ∃ a, v = .ref a ∧ H a = some (.tup [.int (t.1 : Nat), .int (t.2 : Nat)]) := by
  obtain ⟨a, x, y, rfl, e, r1, r2⟩ := n.two
  cases r1; cases r2; exact ⟨a, rfl, e⟩
theorem Nk.wy {t : Wy} (n : Nk H v (eW t)) : ∃ a, v = .ref a ∧ H a = some (.tup [.str (wS t.1), .int (t.2 : Nat)]) := by
  obtain ⟨a, x, y, rfl, e, r1, r2⟩ := n.two
  cases r1; cases r2; exact ⟨a, rfl, e⟩
theorem Nk.vl {t : Vl} (n : Nk H v (eV t)) : ∃ a x, v = .ref a ∧ H a = some (.tup [.int (t.1 : Nat), x]) ∧ Nk H x (eL t.2) := by
  obtain ⟨a, x, y, rfl, e, r1, r2⟩ := n.two
  cases r1; exact ⟨a, _, rfl, e, r2⟩
theorem Nk.ofNums {a : Addr} {l : List Nat} (e : H a = some (.tup (l.map fun n : Nat => V.int n))) : Nk H (.ref a) (eL l) := .tup e (NkA.ofInts l)
theorem Nk.ofTh {a : Addr} {t : Thg} (e : H a = some (.tup [.int (t.1 : Nat), .int (t.2 : Nat)])) : Nk H (.ref a) (eT t) := .tup e (.cons (.int _) (.cons (.int _) .nil))
theorem Nk.ofWy {a : Addr} {t : Wy} (e : H a = some (.tup [.str (wS t.1), .int (t.2 : Nat)])) : Nk H (.ref a) (eW t) := .tup e (.cons (.str _) (.cons (.int _) .nil))
theorem Nk.of2 {a : Addr} {x y : V} {k1 k2 : NestedKey} (e : H a = some (.tup [x, y])) (h1 : Nk H x k1) (h2 : Nk H y k2) : Nk H (.ref a) (.tup [k1, k2]) := .tup e (.cons h1 (.cons h2 .nil))
theorem wne : ¬ V.str (wS false) = V.str "rule" := by intro z; have := V.str.inj z; revert this; decide +kernel
theorem wne2 : ¬ V.str (wS true) = V.str "move" := by intro z; have := V.str.inj z; revert this; decide +kernel
theorem yes {σ : L2.St} {A B : Hp → Prop} (q : A H) : tYes σ H fun b H3 => if b = true then A H3 else B H3 := by
  show if true = true then A H else B H
  rw [if_pos rfl]; exact q
/-- a book object -/
def BkAt (CB : Addr) (H : Hp) (v : V) (b : Bk) : Prop := ∃ a dx xa xr xm, v = .ref a ∧ H a = some (.ins CB dx [("arities", xa), ("kinds", .int (b.ks : Nat)), ("rules", xr), ("moves", xm)]) ∧ Nk H xa (eL b.ar) ∧ Nk H xr (eRs b) ∧ Nk H xm (eMs b)
def WbAt (CW : Addr) (H : Hp) (v : V) (W : List Vl) : Prop := ∃ a dx xr, v = .ref a ∧ H a = some (.ins CW dx [("rows", xr)]) ∧ Nk H xr (eWb W)
theorem BkAt.same {CB : Addr} {b : Bk} (x : BkAt CB H v b) (s : Same H H') : BkAt CB H' v b := by
  obtain ⟨a, dx, xa, xr, xm, e, h, n1, n2, n3⟩ := x
  exact ⟨a, dx, xa, xr, xm, e, s _ _ h, n1.keep (.of s), n2.keep (.of s), n3.keep (.of s)⟩
theorem WbAt.same {CW : Addr} {W : List Vl} (x : WbAt CW H v W) (s : Same H H') : WbAt CW H' v W := by
  obtain ⟨a, dx, xr, e, h, n1⟩ := x
  exact ⟨a, dx, xr, e, s _ _ h, n1.keep (.of s)⟩
end
section
variable {K : PySem.W.Frag} {mg : Str → Option Value} {CB CW : Addr} {H : Hp} {v : V} {b : Bk} {W : List Vl} {Q : VK}
/-- a field's reading behind its object's -/
def FldK (K : PySem.W.Frag) (f : Str) (x : V) (H1 : Hp) (Q : VK) : Prop := ∃ a C dx fs v, x = .ref a ∧ H1 a = some (.ins C dx fs) ∧ Cls K C ∧ NoAttr K C f ∧ fs.lookup f = some v ∧ Q v H1
theorem Fx.far (Z : Fx K mg CB CW) (x : BkAt CB H v b) (q : ∀ u, Nk H u (eL b.ar) → Q u H) : FldK K "arities" v H Q := by
  obtain ⟨a, dx, xa, xr, xm, e, h, n1, n2, n3⟩ := x
  exact ⟨a, CB, dx, _, xa, e, h, Z.clB, Z.nB_arities, rfl, q _ n1⟩
theorem Fx.fks (Z : Fx K mg CB CW) (x : BkAt CB H v b) (q : Q (.int (b.ks : Nat)) H) : FldK K "kinds" v H Q := by
  obtain ⟨a, dx, xa, xr, xm, e, h, n1, n2, n3⟩ := x
  exact ⟨a, CB, dx, _, _, e, h, Z.clB, Z.nB_kinds, rfl, q⟩
theorem Fx.frs (Z : Fx K mg CB CW) (x : BkAt CB H v b) (q : ∀ u, Nk H u (eRs b) → Q u H) : FldK K "rules" v H Q := by
  obtain ⟨a, dx, xa, xr, xm, e, h, n1, n2, n3⟩ := x
  exact ⟨a, CB, dx, _, xr, e, h, Z.clB, Z.nB_rules, rfl, q _ n2⟩
theorem Fx.fms (Z : Fx K mg CB CW) (x : BkAt CB H v b) (q : ∀ u, Nk H u (eMs b) → Q u H) : FldK K "moves" v H Q := by
  obtain ⟨a, dx, xa, xr, xm, e, h, n1, n2, n3⟩ := x
  exact ⟨a, CB, dx, _, xm, e, h, Z.clB, Z.nB_moves, rfl, q _ n3⟩
theorem Fx.frw (Z : Fx K mg CB CW) (x : WbAt CW H v W) (q : ∀ u, Nk H u (eWb W) → Q u H) : FldK K "rows" v H Q := by
  obtain ⟨a, dx, xr, e, h, n1⟩ := x
  exact ⟨a, CW, dx, _, xr, e, h, Z.clW, Z.nW_rows, rfl, q _ n1⟩
end
/-! ### comprehensions that keep all that is tracked -/
/-- all but what stands at S is kept -/
def Fr (S : List Addr) (H H' : Hp) : Prop := ∀ b o, b ∉ S → H b = some o → H' b = some o
theorem Fr.refl (S : List Addr) (H : Hp) : Fr S H H := fun _ _ _ h => h
theorem Fr.trans {S : List Addr} {H H1 H2 : Hp} (a : Fr S H H1) (b : Fr S H1 H2) : Fr S H H2 := fun c o n h => b c o n (a c o n h)
theorem Fr.of {S : List Addr} {H H' : Hp} (s : Same H H') : Fr S H H' := fun c o _ h => s c o h
theorem Fr.nil {H H' : Hp} (s : Fr [] H H') : Same H H' := fun c o h => s c o (by simp) h
theorem sm0 (H : Hp) : Same H H := fun _ _ h => h
theorem smT {H H1 H2 : Hp} (a : Same H H1) (b : Same H1 H2) : Same H H2 := fun c o h => b c o (a c o h)
/-- B stands over S alone -/
def Over (S : List Addr) (B : Hp → Prop) : Prop := ∀ H H' : Hp, (∀ s ∈ S, ∀ o, H s = some o → H' s = some o) → B H → B H'
theorem lc_fr {S : List Addr} {B : Hp → Prop} {J : It} {n : Nat} {G : Hp → Prop} {Y : Nat → Hp → V → Hp → Prop} (w : Walk J n G Y) {g : TG} {tt : TT} {te : TE} {vs : List Nat} {σ : L2.St} {H1 : Hp} {Qd : Addr → Hp → Prop}
    (R : Nat → List V → Hp → Prop) (hn : n ≤ sizeLine) (ov : Over S B) (hS : ∀ s ∈ S, ∀ H, B H → H s ≠ none) (hB : B H1) (st : ∀ i acc H H', KpT H H' → R i acc H → R i acc H') (hl : ∀ i acc H, R i acc H → acc.length ≤ i) (hST : ∀ s ∈ S, ∀ H xs, B H → H s ≠ some (.tup xs))
    (hG : ∀ H, Fr S H1 H → G H) (h0 : R 0 [] H1)
    (hs : ∀ i x acc H H' (Kd : VK) (Kn : Hp → Prop), i < n → Fr S H1 H → B H → R i acc H → (∀ y H4, Fr S H H4 → B H4 → R (i + 1) (acc ++ [y]) H4 → Kd y H4) → (∀ H3, Fr S H H3 → B H3 → R (i + 1) acc H3 → Kn H3) → Y i H x H' →
      g x (wipe σ vs) H' fun σ2 H2 => wipe σ2 vs = wipe σ vs ∧ tt σ2 H2 fun b H3 => if b = true then te σ2 H3 Kd else Kn H3)
    (hd : ∀ acc H p, Fr S H1 H → B H → H p = some (.lst acc) → H1 p = none → R n acc H → Qd p H) :
    ∀ D, H1 D = none → ∃ W : Nat → Nat → Hp → Prop, (∃ m, W 0 m (upd H1 D (.lst []))) ∧ ∀ i m H, W i m H →
      (J.stop i H ∧ Qd D H) ∨ (J.go i H ∧ ∃ Nx : Hp → Prop, (∀ H', Nx H' → ∃ m', m' < m ∧ W (i + 1) m' H') ∧ ∀ x H', J.yld i H x H' → g x (wipe σ vs) H' fun σ2 H2 => wipe σ2 vs = wipe σ vs ∧ tt σ2 H2 fun b H3 =>
        if b = true then te σ2 H3 fun y H4 => ∃ acc, H4 D = some (.lst acc) ∧ acc.length < sizeLine ∧ Nx (upd H4 D (.lst (acc ++ [y]))) else Nx H3) := by
  intro D hD
  have nS : D ∉ S := fun z => hS D z H1 hB hD
  have frD : ∀ {H2 : Hp} {xs : List V}, Fr S H1 H2 → Fr S H1 (upd H2 D (.lst xs)) := fun {H2 xs} f b o nb e => by
    rw [upd_ne (ne_of_none e hD)]; exact f b o nb e
  have bD : ∀ {H2 : Hp} {xs : List V}, B H2 → B (upd H2 D (.lst xs)) := fun {H2 xs} hb => ov H2 _ (fun s hs o e => by rw [upd_ne (fun z : s = D => nS (z ▸ hs))]; exact e) hb
  refine lc_it w (fun i H => ∃ acc, H D = some (.lst acc) ∧ Fr S H1 H ∧ B H ∧ R i acc H) ⟨[], upd_same, frD (Fr.refl S H1), bD hB, st _ _ _ _ (But.upd.kpt fun xs e => by rw [hD] at e; cases e) h0⟩ (fun i H _ ⟨acc, _, f, _, _⟩ => hG H f) ?_ (fun H ⟨acc, e, f, b, r⟩ => hd acc H D f b e hD r)
  rintro i x H H' hi ⟨acc, e, f, b, r⟩ y
  refine hs i x acc H H' _ _ hi f b r (fun y H4 f4 b4 r4 => ?_) (fun H3 f3 b3 r3 => ⟨acc, f3 D _ nS e, f.trans f3, b3, r3⟩) y
  refine ⟨acc, f4 D _ nS e, Nat.lt_of_lt_of_le (Nat.lt_of_le_of_lt (hl i acc H r) hi) hn, acc ++ [y], upd_same, frD (f.trans f4), bD b4, st _ _ _ _ (But.upd.kpt fun xs z => ?_) r4⟩
  rw [f4 D _ nS e] at z; cases z
/-- .. nothing changes -/
theorem lc_sm {J : It} {n : Nat} {G : Hp → Prop} {Y : Nat → Hp → V → Hp → Prop} (w : Walk J n G Y) {g : TG} {tt : TT} {te : TE} {vs : List Nat} {σ : L2.St} {H1 : Hp} {Qd : Addr → Hp → Prop}
    (R : Nat → List V → Hp → Prop) (hn : n ≤ sizeLine) (st : ∀ i acc H H', KpT H H' → R i acc H → R i acc H') (hl : ∀ i acc H, R i acc H → acc.length ≤ i)
    (hG : ∀ H, Same H1 H → G H) (h0 : R 0 [] H1)
    (hs : ∀ i x acc H H' (Kd : VK) (Kn : Hp → Prop), i < n → Same H1 H → R i acc H → (∀ y H4, Same H H4 → R (i + 1) (acc ++ [y]) H4 → Kd y H4) → (∀ H3, Same H H3 → R (i + 1) acc H3 → Kn H3) → Y i H x H' →
      g x (wipe σ vs) H' fun σ2 H2 => wipe σ2 vs = wipe σ vs ∧ tt σ2 H2 fun b H3 => if b = true then te σ2 H3 Kd else Kn H3)
    (hd : ∀ acc H p, Same H1 H → H p = some (.lst acc) → H1 p = none → R n acc H → Qd p H) :
    ∀ D, H1 D = none → ∃ W : Nat → Nat → Hp → Prop, (∃ m, W 0 m (upd H1 D (.lst []))) ∧ ∀ i m H, W i m H →
      (J.stop i H ∧ Qd D H) ∨ (J.go i H ∧ ∃ Nx : Hp → Prop, (∀ H', Nx H' → ∃ m', m' < m ∧ W (i + 1) m' H') ∧ ∀ x H', J.yld i H x H' → g x (wipe σ vs) H' fun σ2 H2 => wipe σ2 vs = wipe σ vs ∧ tt σ2 H2 fun b H3 =>
        if b = true then te σ2 H3 fun y H4 => ∃ acc, H4 D = some (.lst acc) ∧ acc.length < sizeLine ∧ Nx (upd H4 D (.lst (acc ++ [y]))) else Nx H3) :=
  lc_fr (S := []) (B := fun _ => True) w R hn (fun _ _ _ _ => trivial) (fun _ z => by simp at z) trivial st hl (fun _ z => by simp at z) (fun H f => hG H f.nil) h0
    (fun i x acc H H' Kd Kn hi f _ r k1 k2 y => hs i x acc H H' Kd Kn hi f.nil r (fun y H4 s r => k1 y H4 (Fr.of s) trivial r) (fun H3 s r => k2 H3 (Fr.of s) trivial r) y) (fun acc H p f _ e n r => hd acc H p f.nil e n r)
/-- R for a list made of all turns -/
def RAll (f : Nat → V) (i : Nat) (acc : List V) (_ : Hp) : Prop := acc = (List.range i).map f
theorem RAll.step {f : Nat → V} {i : Nat} {acc : List V} {H H' : Hp} (r : RAll f i acc H) : RAll f (i + 1) (acc ++ [f i]) H' := by
  unfold RAll at *
  rw [r, List.range_succ, List.map_append]; rfl
theorem RAll.len {f : Nat → V} {i : Nat} {acc : List V} {H : Hp} (r : RAll f i acc H) : acc.length ≤ i := by
  unfold RAll at r
  rw [r]; simp
theorem all_const {n : Nat} : ((List.range n).map fun _ => true).all id = true := by
  rw [List.all_eq_true]; intro x hx
  obtain ⟨_, _, rfl⟩ := List.mem_map.mp hx; rfl
theorem any_const {n : Nat} : ((List.range n).map fun _ => false).any id = false := by
  rw [List.any_eq_false]; intro x hx
  obtain ⟨_, _, rfl⟩ := List.mem_map.mp hx; simp
theorem all_of {n : Nat} {f : Nat → Bool} (h : ∀ i, i < n → f i = true) : ((List.range n).map f).all id = true := by
  rw [List.all_eq_true]; intro x hx
  obtain ⟨i, hi, rfl⟩ := List.mem_map.mp hx; exact h i (List.mem_range.mp hi)
/-- behind a list of bools -/
theorem RAll.bl {f : Nat → Bool} {i : Nat} {acc : List V} {H : Hp} (r : RAll (fun i => .bl (f i)) i acc H) : acc = ((List.range i).map f).map V.bl := by
  unfold RAll at r
  rw [r, List.map_map]; rfl
theorem RAll.ints {f : Nat → Int} {i : Nat} {acc : List V} {H : Hp} (r : RAll (fun i => .int (f i)) i acc H) : acc = ((List.range i).map f).map V.int := by
  unfold RAll at r
  rw [r, List.map_map]; rfl
end K19
set_option maxHeartbeats 4000000
namespace K19
open PySem PySem.Spec PyProof.Rows L2
/-! ### keys that stand for data -/
structure Enc {α : Type} (e : α → NestedKey) : Prop where
  inj : ∀ a b, e a = e b → a = b
  dp : ∀ a, (e a).depth ≤ 8
  tp : ∀ a, ∃ ks, e a = .tup ks
theorem dpA_le {d : Nat} : ∀ {ks : List NestedKey}, (∀ k ∈ ks, k.depth ≤ d) → NestedKey.depthAll ks ≤ d
  | [], _ => by rw [NestedKey.depthAll]; exact Nat.zero_le _
  | k :: ks, h => by
    rw [NestedKey.depthAll]
    have h1 := h k (List.mem_cons_self ..)
    have h2 := dpA_le (ks := ks) fun x hx => h x (List.mem_cons_of_mem _ hx)
    omega
theorem dp_tup {d : Nat} {ks : List NestedKey} (h : ∀ k ∈ ks, k.depth ≤ d) : (NestedKey.tup ks).depth ≤ d + 1 := by
  rw [NestedKey.depth]; exact Nat.succ_le_succ (dpA_le h)
theorem dp_I (n : Nat) : (kI n).depth = 0 := by rw [NestedKey.depth]
theorem dp_L (l : List Nat) : (eL l).depth ≤ 1 := dp_tup fun k hk => by
  obtain ⟨n, _, rfl⟩ := List.mem_map.mp hk
  rw [dp_I]; exact Nat.le_refl _
theorem kI_inj {a b : Nat} (h : kI a = kI b) : a = b := by injection h with h; omega
theorem eL_inj : ∀ {a b : List Nat}, a.map kI = b.map kI → a = b
  | [], [], _ => rfl
  | [], _ :: _, h => by cases h
  | _ :: _, [], h => by cases h
  | a :: as, b :: bs, h => by
    rw [List.map_cons, List.map_cons] at h
    injection h with h1 h2
    rw [kI_inj h1, eL_inj h2]
theorem wS_inj {a b : Bool} (h : wS a = wS b) : a = b := by
  cases a <;> cases b <;> first | rfl | (exfalso; revert h; decide +kernel)
abbrev eH (h : Nat × List Nat × Nat) : NestedKey := .tup [kI h.1, eL h.2.1, kI h.2.2]
abbrev eP (p : Thg × Wy) : NestedKey := .tup [eT p.1, eW p.2]
theorem dp_T (t : Thg) : (eT t).depth ≤ 1 := dp_tup fun k hk => by
  rcases List.mem_cons.mp hk with rfl | hk
  · rw [dp_I]; exact Nat.le_refl _
  · rcases List.mem_cons.mp hk with rfl | hk
    · rw [dp_I]; exact Nat.le_refl _
    · cases hk
theorem dp_W (t : Wy) : (eW t).depth ≤ 1 := dp_tup fun k hk => by
  rcases List.mem_cons.mp hk with rfl | hk
  · rw [NestedKey.depth]; exact Nat.le_refl _
  · rcases List.mem_cons.mp hk with rfl | hk
    · rw [dp_I]; exact Nat.le_refl _
    · cases hk
theorem encT : Enc eT := ⟨fun a b h => by
  injection h with h
  injection h with h1 h2
  injection h2 with h2 h3
  exact Prod.ext (kI_inj h1) (kI_inj h2), fun a => Nat.le_trans (dp_T a) (by decide), fun a => ⟨_, rfl⟩⟩
theorem encW : Enc eW := ⟨fun a b h => by
  injection h with h
  injection h with h1 h2
  injection h2 with h2 h3
  injection h1 with h1
  exact Prod.ext (wS_inj h1) (kI_inj h2), fun a => Nat.le_trans (dp_W a) (by decide), fun a => ⟨_, rfl⟩⟩
theorem encP : Enc eP := ⟨fun a b h => by
  injection h with h
  injection h with h1 h2
  injection h2 with h2 h3
  exact Prod.ext (encT.inj _ _ h1) (encW.inj _ _ h2), fun a => Nat.le_trans (dp_tup (d := 1) fun k hk => by
    rcases List.mem_cons.mp hk with rfl | hk
    · exact dp_T _
    · rcases List.mem_cons.mp hk with rfl | hk
      · exact dp_W _
      · cases hk) (by decide), fun a => ⟨_, rfl⟩⟩
theorem encH : Enc eH := ⟨fun a b h => by
  injection h with h
  injection h with h1 h2
  injection h2 with h2 h3
  injection h3 with h3 h4
  injection h2 with h2
  exact Prod.ext (kI_inj h1) (Prod.ext (eL_inj h2) (kI_inj h3)), fun a => Nat.le_trans (dp_tup (d := 1) fun k hk => by
    rcases List.mem_cons.mp hk with rfl | hk
    · rw [dp_I]; exact Nat.zero_le _
    · rcases List.mem_cons.mp hk with rfl | hk
      · exact dp_L _
      · rcases List.mem_cons.mp hk with rfl | hk
        · rw [dp_I]; exact Nat.zero_le _
        · cases hk) (by decide), fun a => ⟨_, rfl⟩⟩
/-! ### dicts from data to values -/
section
variable {α : Type} {P : Program} {w : World} {H H' : Hp} {p : Addr} {e : α → NestedKey} {ts : List α} {f g : α → V}
def DM (P : Program) (w : World) (H : Hp) (p : Addr) (e : α → NestedKey) (ts : List α) (f : α → V) : Prop := Dc P w H p (ts.map fun t => (e t, f t))
theorem DM.same (d : DM P w H p e ts f) (s : Same H H') : DM P w H' p e ts f := Dc.same d s
theorem DM.keep (d : DM P w H p e ts f) (k : ∀ o, H p = some o → H' p = some o) (t : KpT H H') : DM P w H' p e ts f := Dc.keep d k t
theorem DM.congr (d : DM P w H p e ts f) (h : ∀ t ∈ ts, f t = g t) : DM P w H p e ts g := by
  unfold DM at *
  rw [List.map_congr_left (g := fun t => (e t, f t)) (fun t ht => by rw [h t ht])]; exact d
theorem DM.nd (E : Enc e) (d : DM P w H p e ts f) : ts.Nodup := by
  have h := Dc.nodup d
  rw [List.map_map] at h
  have h2 : (ts.map e).Nodup := h
  exact List.Pairwise.of_map e (fun a b h z => h (congrArg e z)) h2
theorem DM.len (d : DM P w H p e ts f) : ts.length ≤ sizeLine := by
  have h := Dc.size d
  rw [List.length_map] at h; exact h
variable [DecidableEq α]
/-- t is among ts -/
def memB (t : α) (ts : List α) : Bool := decide (t ∈ ts)
theorem memB_iff {t : α} {ts : List α} : memB t ts = true ↔ t ∈ ts := decide_eq_true_iff
theorem memB_t {t : α} {ts : List α} (h : t ∈ ts) : memB t ts = true := decide_eq_true h
theorem memB_f {t : α} {ts : List α} (h : t ∉ ts) : memB t ts = false := decide_eq_false h
def insL (ts : List α) (t : α) : List α := if t ∈ ts then ts else ts ++ [t]
def updF (f : α → V) (t : α) (v : V) : α → V := fun u => if u = t then v else f u
theorem mem_insL {ts : List α} {t u : α} : u ∈ insL ts t ↔ u ∈ ts ∨ u = t := by
  unfold insL
  split
  · constructor
    · exact .inl
    · rintro (h | rfl)
      · exact h
      · assumption
  · rw [List.mem_append, List.mem_singleton]
theorem valV_map_enc (E : Enc e) (t : α) : ∀ ts : List α, valV (ts.map fun t => (e t, f t)) (e t) = if memB t ts = true then some (f t) else none
  | [] => by rw [List.map_nil, valV_nil, memB_f (List.not_mem_nil)]; rfl
  | u :: ts => by
    rw [List.map_cons]
    by_cases h : u = t
    · subst h
      rw [valV_pos rfl, memB_t (List.mem_cons_self ..)]; rfl
    · rw [valV_neg (fun z => h (E.inj _ _ z)), valV_map_enc E t ts]
      have : memB t (u :: ts) = memB t ts := by
        rw [Bool.eq_iff_iff, memB_iff, memB_iff, List.mem_cons]
        exact ⟨fun z => z.resolve_left (Ne.symm h), .inr⟩
      rw [this]
theorem putK_map_enc (E : Enc e) (t : α) (v : V) (ts : List α) : putK (ts.map fun t => (e t, f t)) (e t) v = (insL ts t).map fun u => (e u, updF f t v u) := by
  unfold putK
  rw [valV_any, valV_map_enc E]
  unfold insL
  by_cases h : t ∈ ts
  · rw [memB_t h, if_pos rfl, if_pos h]
    rw [if_pos (by rfl), List.map_map]
    refine List.map_congr_left fun u hu => ?_
    show (if e u = e t then (e u, v) else (e u, f u)) = (e u, updF f t v u)
    unfold updF
    by_cases q : u = t
    · subst q; rw [if_pos rfl, if_pos rfl]
    · rw [if_neg (fun z => q (E.inj _ _ z)), if_neg q]
  · rw [memB_f h, if_neg h, if_neg (show ¬ (if false = true then some (f t) else none).isSome = true from Bool.false_ne_true), List.map_append]
    congr 1
    · refine List.map_congr_left fun u hu => ?_
      unfold updF
      rw [if_neg (fun z : u = t => h (z ▸ hu))]
    · show [(e t, v)] = [(e t, updF f t v t)]
      unfold updF
      rw [if_pos rfl]
theorem DM.nget (E : Enc e) (d : DM P w H p e ts f) {y : V} {t : α} (n : Nk H y (e t)) : NGet P w H p y (if memB t ts = true then some (f t) else none) := by
  obtain ⟨ks, hk⟩ := E.tp t
  have n2 := n
  rw [hk] at n2
  obtain ⟨b, xs, rfl, _, _⟩ := n2.tupE
  exact ⟨_, e t, b, d, rfl, n, E.dp t, (valV_map_enc E t ts).symm⟩
theorem DM.ngetT (E : Enc e) (d : DM P w H p e ts f) {y : V} {t : α} (n : Nk H y (e t)) (ht : t ∈ ts) : NGet P w H p y (some (f t)) := by
  have := d.nget E n
  rw [memB_t ht] at this; exact this
theorem ifSome {q : Bool} {v : V} : (if q = true then some v else none).isSome = q := by cases q <;> rfl
/-- a put -/
theorem DM.nput (E : Enc e) (d : DM P w H p e ts f) (hz : ts.length < sizeLine) {y v : V} {t : α} (n : Nk H y (e t)) {D : Ends} {σ : L2.St} (q : ∀ H4, But p H H4 → DM P w H4 p e (insL ts t) (updF f t v) → D.nx σ H4) :
    ∃ a kvs k b, V.ref p = .ref a ∧ Dc P w H a kvs ∧ y = .ref b ∧ Nk H y k ∧ k.depth ≤ 8 ∧ kvs.length < sizeLine ∧ ∀ H4, But a H H4 → Dc P w H4 a (putK kvs k v) → D.nx σ H4 := by
  obtain ⟨ks, hk⟩ := E.tp t
  have n2 := n
  rw [hk] at n2
  obtain ⟨b, xs, rfl, _, _⟩ := n2.tupE
  refine ⟨p, _, e t, b, rfl, d, rfl, n, E.dp t, by rw [List.length_map]; exact hz, fun H4 b4 d4 => q H4 b4 ?_⟩
  rw [putK_map_enc E] at d4
  exact d4
end
theorem smB {H H3 H4 : Hp} {p : Addr} (h : H p = none) (s : Same H H3) (b : But p H3 H4) : Same H H4 := fun c o e => by
  rw [b c (fun z => by rw [z, h] at e; cases e)]; exact s c o e
theorem smU {H H3 : Hp} {p : Addr} {o : HO} (h : H p = none) (s : Same H H3) : Same H (upd H3 p o) := smB h s But.upd
theorem insL_new {α : Type} [DecidableEq α] {ts : List α} {t : α} (h : t ∉ ts) : insL ts t = ts ++ [t] := by unfold insL; rw [if_neg h]
theorem insL_old {α : Type} [DecidableEq α] {ts : List α} {t : α} (h : t ∈ ts) : insL ts t = ts := by unfold insL; rw [if_pos h]
end K19
set_option maxHeartbeats 4000000
namespace K19
open PySem PySem.Spec PyProof.Rows L2
def sp_is_integer (P : Program) (w : World) (K : PySem.W.Frag) (CB CW : Addr) : Sp := fun vs H Q _ => ∃ a, vs = [a] ∧ ∃ i, a = .int i ∧ Q (.bl true) H
abbrev n_is_integer : List Str := ["thing"]
theorem sc_is_integer : FnScope n_is_integer ["thing"] (defScope s_is_integer) := ⟨rfl, rfl, rfl, by decide +kernel, rfl, by decide +kernel, by decide +kernel⟩
theorem cl_is_integer {P : Program} {w : World} {K : PySem.W.Frag} {mg : Str → Option Value} {base : Heap} {CB CW : Addr} (Z : Fx K mg CB CW) : Cl P w K mg base "is_integer" 1 ["thing"] (sp_is_integer P w K CB CW) := by
  refine Z.d_is_integer.cl (N := n_is_integer) (k := 0) sc_is_integer (fun vs H Q E h => by obtain ⟨_, rfl, _⟩ := h; rfl) (fun _ _ _ _ _ _ us hl => match us, hl with | [_], _ => rfl) fun f cdv A outer s H0 E0 hr => ⟨_, (pss_one (ps_ret (pe_and (pe_callB (qisi (by exact ⟨rfl, rfl, rfl⟩ : At _ P w K)) rfl Z.f_isinstance bt_isinstance (pa_cons (pv 0) (pa_cons (pe_bltn (v := .ty "int") rfl Z.f_int bt_int rfl) pa_nil))) (pe_one (pe_not (pe_callB (qisi (by exact ⟨rfl, rfl, rfl⟩ : At _ P w K)) rfl Z.f_isinstance bt_isinstance (pa_cons (pv 0) (pa_cons (pe_bltn (v := .ty "bool") rfl Z.f_bool bt_bool rfl) pa_nil)))))))), fun vs H Q E h => ?_⟩
  obtain ⟨v0, rfl, h⟩ := h
  obtain ⟨i, rfl, q⟩ := h
  refine ⟨_, rfl, _, _, _, _, true, rfl, .ty _, .base (.int i), kit_ty (by decide +kernel), _, rfl, iteT ?_⟩
  exact ⟨_, rfl, _, _, _, _, false, rfl, .ty _, .base (.int i), kit_ty (by decide +kernel), _, rfl, q⟩
def sp_is_within (P : Program) (w : World) (K : PySem.W.Frag) (CB CW : Addr) : Sp := fun vs H Q _ => ∃ a b c, vs = [a, b, c] ∧ ∃ i l m, a = .int i ∧ b = .int l ∧ c = .int m ∧ l ≤ i ∧ i ≤ m ∧ Q (.bl true) H
abbrev n_is_within : List Str := ["thing", "least", "most"]
theorem sc_is_within : FnScope n_is_within ["thing", "least", "most"] (defScope s_is_within) := ⟨rfl, rfl, rfl, by decide +kernel, rfl, by decide +kernel, by decide +kernel⟩
theorem cl_is_within {P : Program} {w : World} {K : PySem.W.Frag} {mg : Str → Option Value} {base : Heap} {CB CW : Addr} (Z : Fx K mg CB CW) : Cl P w K mg base "is_within" 2 ["thing", "least", "most"] (sp_is_within P w K CB CW) := by
  refine Z.d_is_within.cl (N := n_is_within) (k := 1) sc_is_within (fun vs H Q E h => by obtain ⟨_, _, _, rfl, _⟩ := h; rfl) (fun _ _ _ _ _ _ us hl => match us, hl with | [_, _, _], _ => rfl) fun f cdv A outer s H0 E0 hr => ⟨_, (pss_one (ps_ret (pe_and (pe_cl (cl_is_integer (P := P) (w := w) (K := K) (base := base) Z) hr (by decide) rfl (pa_cons (pv 0) pa_nil)) (pe_one (pe_chain op_le op_le (pv 1) (pv 0) (pv 2)))))), fun vs H Q E h => ?_⟩
  obtain ⟨v0, v1, v2, rfl, h⟩ := h
  obtain ⟨i, l, m, rfl, rfl, rfl, h1, h2, q⟩ := h
  exact ⟨_, rfl, ⟨_, rfl, _, rfl, ⟨_, rfl, iteT ⟨_, rfl, _, rfl, _, _, rfl, rfl, _, rfl, iteD h1 ⟨_, rfl, _, _, rfl, rfl, qT (decide_eq_true h2) q⟩⟩⟩⟩⟩
def sp_is_tuple_of (P : Program) (w : World) (K : PySem.W.Frag) (CB CW : Addr) : Sp := fun vs H Q _ => ∃ a b, vs = [a, b] ∧ ∃ ks, Nk H a (.tup ks) ∧ b = .int (ks.length : Nat) ∧ Q (.bl true) H
abbrev n_is_tuple_of : List Str := ["thing", "size"]
theorem sc_is_tuple_of : FnScope n_is_tuple_of ["thing", "size"] (defScope s_is_tuple_of) := ⟨rfl, rfl, rfl, by decide +kernel, rfl, by decide +kernel, by decide +kernel⟩
theorem cl_is_tuple_of {P : Program} {w : World} {K : PySem.W.Frag} {mg : Str → Option Value} {base : Heap} {CB CW : Addr} (Z : Fx K mg CB CW) : Cl P w K mg base "is_tuple_of" 1 ["thing", "size"] (sp_is_tuple_of P w K CB CW) := by
  refine Z.d_is_tuple_of.cl (N := n_is_tuple_of) (k := 0) sc_is_tuple_of (fun vs H Q E h => by obtain ⟨_, _, rfl, _⟩ := h; rfl) (fun _ _ _ _ _ _ us hl => match us, hl with | [_, _], _ => rfl) fun f cdv A outer s H0 E0 hr => ⟨_, (pss_one (ps_ret (pe_and (pe_callB (qisi (by exact ⟨rfl, rfl, rfl⟩ : At _ P w K)) rfl Z.f_isinstance bt_isinstance (pa_cons (pv 0) (pa_cons (pe_bltn (v := .ty "tuple") rfl Z.f_tuple bt_tuple rfl) pa_nil))) (pe_one (pe_cmpR op_eq (pe_callB (qlen (by exact ⟨rfl, rfl, rfl⟩ : At _ P w K)) rfl Z.f_len bt_len (pa_cons (pv 0) pa_nil)) (pv 1) (nomark _)))))), fun vs H Q E h => ?_⟩
  obtain ⟨v0, v1, rfl, h⟩ := h
  obtain ⟨ks, n, rfl, q⟩ := h
  exact ⟨_, rfl, _, _, _, _, true, rfl, .ty _, n.tyT, kit_ty (by decide +kernel), _, rfl, iteT ⟨_, rfl, _, _, rfl, n.lenV, _, rfl, rfl, qT (decide_eq_true rfl) q⟩⟩
def sp_is_long (P : Program) (w : World) (K : PySem.W.Frag) (CB CW : Addr) : Sp := fun vs H Q _ => ∃ a b, vs = [a, b] ∧ ∃ ks m, Nk H a (.tup ks) ∧ b = .int m ∧ ((ks.length : Nat) : Int) ≤ m ∧ Q (.bl true) H
abbrev n_is_long : List Str := ["thing", "most"]
theorem sc_is_long : FnScope n_is_long ["thing", "most"] (defScope s_is_long) := ⟨rfl, rfl, rfl, by decide +kernel, rfl, by decide +kernel, by decide +kernel⟩
theorem cl_is_long {P : Program} {w : World} {K : PySem.W.Frag} {mg : Str → Option Value} {base : Heap} {CB CW : Addr} (Z : Fx K mg CB CW) : Cl P w K mg base "is_long" 1 ["thing", "most"] (sp_is_long P w K CB CW) := by
  refine Z.d_is_long.cl (N := n_is_long) (k := 0) sc_is_long (fun vs H Q E h => by obtain ⟨_, _, rfl, _⟩ := h; rfl) (fun _ _ _ _ _ _ us hl => match us, hl with | [_, _], _ => rfl) fun f cdv A outer s H0 E0 hr => ⟨_, (pss_one (ps_ret (pe_and (pe_callB (qisi (by exact ⟨rfl, rfl, rfl⟩ : At _ P w K)) rfl Z.f_isinstance bt_isinstance (pa_cons (pv 0) (pa_cons (pe_bltn (v := .ty "tuple") rfl Z.f_tuple bt_tuple rfl) pa_nil))) (pe_one (pe_cmpR op_le (pe_callB (qlen (by exact ⟨rfl, rfl, rfl⟩ : At _ P w K)) rfl Z.f_len bt_len (pa_cons (pv 0) pa_nil)) (pv 1) (nomark _)))))), fun vs H Q E h => ?_⟩
  obtain ⟨v0, v1, rfl, h⟩ := h
  obtain ⟨ks, m, n, rfl, hm, q⟩ := h
  exact ⟨_, rfl, _, _, _, _, true, rfl, .ty _, n.tyT, kit_ty (by decide +kernel), _, rfl, iteT ⟨_, rfl, _, _, rfl, n.lenV, _, rfl, _, _, rfl, rfl, qT (decide_eq_true hm) q⟩⟩
def sp_are_within (P : Program) (w : World) (K : PySem.W.Frag) (CB CW : Addr) : Sp := fun vs H Q _ => ∃ a b c, vs = [a, b, c] ∧ ∃ (l : List Nat) (lo : Int) (hi : Int), Nk H a (eL l) ∧ b = .int lo ∧ c = .int hi ∧ l.length ≤ sizeLine ∧ (∀ x ∈ l, lo ≤ (x : Int) ∧ (x : Int) ≤ hi) ∧ ∀ H', Same H H' → Q (.bl true) H'
abbrev n_are_within : List Str := ["thing", "least", "most", "item"]
theorem sc_are_within : FnScope n_are_within ["thing", "least", "most"] (defScope s_are_within) := ⟨rfl, rfl, rfl, by decide +kernel, rfl, by decide +kernel, by decide +kernel⟩
theorem cl_are_within {P : Program} {w : World} {K : PySem.W.Frag} {mg : Str → Option Value} {base : Heap} {CB CW : Addr} (Z : Fx K mg CB CW) : Cl P w K mg base "are_within" 3 ["thing", "least", "most"] (sp_are_within P w K CB CW) := by
  refine Z.d_are_within.cl (N := n_are_within) (k := 2) sc_are_within (fun vs H Q E h => by obtain ⟨_, _, _, rfl, _⟩ := h; rfl) (fun _ _ _ _ _ _ us hl => match us, hl with | [_, _, _], _ => rfl) fun f cdv A outer s H0 E0 hr => ⟨_, (pss_one (ps_ret (pe_and (pe_callB (qisi (by exact ⟨rfl, rfl, rfl⟩ : At _ P w K)) rfl Z.f_isinstance bt_isinstance (pa_cons (pv 0) (pa_cons (pe_bltn (v := .ty "tuple") rfl Z.f_tuple bt_tuple rfl) pa_nil))) (pe_one (pe_callB (qall (by exact ⟨rfl, rfl, rfl⟩ : At _ P w K) rfl) rfl Z.f_all bt_all (pa_cons (pe_lc (own := [("item", 3)]) rfl sc_are_within.nd (qpiT (by exact ⟨rfl, rfl, rfl⟩ : At _ P w K) (pv 0)) (blkOk_by (N := n_are_within) (sc := defScope s_are_within) (by decide +kernel)) (fun _ _ _ _ _ => (pg_name (i := 3) sc_are_within.nd rfl (by first | exact Or.inl rfl | exact Or.inr rfl))) (fun _ _ _ _ _ => pts_nil) (fun _ _ _ _ _ => (pe_cl (cl_is_within (P := P) (w := w) (K := K) (base := base) Z) hr (by decide) rfl (pa_cons (pv 3) (pa_cons (pv 1) (pa_cons (pv 2) pa_nil)))))) pa_nil)))))), fun vs H Q E h => ?_⟩
  obtain ⟨v0, v1, v2, rfl, h⟩ := h
  obtain ⟨l, lo, hi, n, rfl, rfl, hz, hl, q⟩ := h
  obtain ⟨a, rfl, e⟩ := n.nums
  refine ⟨_, rfl, _, _, _, _, true, rfl, .ty _, n.tyT, kit_ty (by decide +kernel), _, rfl, iteT ⟨_, rfl, a, rfl, ⟨_, .of e⟩, ?_⟩⟩
  refine lc_sm walk_tup (RAll fun _ => .bl ((fun _ => true) 0)) (by rw [List.length_map]; exact hz) (fun _ _ _ _ _ r => r) (fun _ _ _ r => r.len) (fun H2 s => .of (s _ _ e)) rfl ?_ ?_
  · rintro i x acc H2 H3 Kd Kn hi s r kd kn ⟨rfl, hx⟩
    obtain ⟨y, hy, rfl⟩ := gmap' hx
    obtain ⟨h1, h2⟩ := hl y (List.mem_of_getElem? hy)
    exact ⟨rfl, yes ⟨_, rfl, _, rfl, _, rfl, _, _, _, rfl, _, _, _, rfl, rfl, rfl, h1, h2, kd _ _ (sm0 _) r.step⟩⟩
  · intro acc H2 p s ep np r
    exact ⟨p, _, rfl, .of (by rw [ep, r.bl]), qT all_const (q _ s)⟩
def sp_is_rule (P : Program) (w : World) (K : PySem.W.Frag) (CB CW : Addr) : Sp := fun vs H Q _ => ∃ a b c, vs = [a, b, c] ∧ ∃ (bk : Bk) (r : Rl), Nk H a (eR r) ∧ Nk H b (eL bk.ar) ∧ c = .int (bk.ks : Nat) ∧ bk.RlOk r ∧ r.src.length ≤ 2 ∧ ∀ H', Same H H' → Q (.bl true) H'
abbrev n_is_rule : List Str := ["thing", "arities", "kinds"]
theorem sc_is_rule : FnScope n_is_rule ["thing", "arities", "kinds"] (defScope s_is_rule) := ⟨rfl, rfl, rfl, by decide +kernel, rfl, by decide +kernel, by decide +kernel⟩
theorem cl_is_rule {P : Program} {w : World} {K : PySem.W.Frag} {mg : Str → Option Value} {base : Heap} {CB CW : Addr} (Z : Fx K mg CB CW) : Cl P w K mg base "is_rule" 4 ["thing", "arities", "kinds"] (sp_is_rule P w K CB CW) := by
  refine Z.d_is_rule.cl (N := n_is_rule) (k := 3) sc_is_rule (fun vs H Q E h => by obtain ⟨_, _, _, rfl, _⟩ := h; rfl) (fun _ _ _ _ _ _ us hl => match us, hl with | [_, _, _], _ => rfl) fun f cdv A outer s H0 E0 hr => ⟨_, (pss_cons (ps_if (PW.pt (pw_or (pt_not (pt_val (pe_cl (cl_is_tuple_of (P := P) (w := w) (K := K) (base := base) Z) hr (by decide) rfl (pa_cons (pv 0) (pa_cons pe_int pa_nil))))) (pw_or1 (pt_not (pt_val (pe_cl (cl_is_within (P := P) (w := w) (K := K) (base := base) Z) hr (by decide) rfl (pa_cons (pe_ix (qixT (by exact ⟨rfl, rfl, rfl⟩ : At _ P w K)) (pv 0) pe_int (fun _ _ => rfl)) (pa_cons pe_int (pa_cons (pe_op op_sub (pe_callB (qlen (by exact ⟨rfl, rfl, rfl⟩ : At _ P w K)) rfl Z.f_len bt_len (pa_cons (pv 1) pa_nil)) pe_int) pa_nil))))))))) (pss_one (ps_ret pe_bl)) pss_nil) (pss_cons (ps_if (PW.pt (pw_or (pt_not (pt_val (pe_cl (cl_are_within (P := P) (w := w) (K := K) (base := base) Z) hr (by decide) rfl (pa_cons (pe_ix (qixT (by exact ⟨rfl, rfl, rfl⟩ : At _ P w K)) (pv 0) pe_int (fun _ _ => rfl)) (pa_cons pe_int (pa_cons (pe_op op_sub (pv 2) pe_int) pa_nil)))))) (pw_or1 (pt_cmpR op_ne (pe_callB (qlen (by exact ⟨rfl, rfl, rfl⟩ : At _ P w K)) rfl Z.f_len bt_len (pa_cons (pe_ix (qixT (by exact ⟨rfl, rfl, rfl⟩ : At _ P w K)) (pv 0) pe_int (fun _ _ => rfl)) pa_nil)) (pe_ix (qixT (by exact ⟨rfl, rfl, rfl⟩ : At _ P w K)) (pv 1) (pe_ix (qixT (by exact ⟨rfl, rfl, rfl⟩ : At _ P w K)) (pv 0) pe_int (fun _ _ => rfl)) (fun _ _ => rfl)) (nomark _))))) (pss_one (ps_ret pe_bl)) pss_nil) (pss_one (ps_ret (pe_and (pe_cl (cl_is_within (P := P) (w := w) (K := K) (base := base) Z) hr (by decide) rfl (pa_cons (pe_ix (qixT (by exact ⟨rfl, rfl, rfl⟩ : At _ P w K)) (pv 0) pe_int (fun _ _ => rfl)) (pa_cons pe_int (pa_cons (pe_op op_sub (pv 2) pe_int) pa_nil)))) (pe_one (pe_cl (cl_is_within (P := P) (w := w) (K := K) (base := base) Z) hr (by decide) rfl (pa_cons (pe_ix (qixT (by exact ⟨rfl, rfl, rfl⟩ : At _ P w K)) (pv 0) pe_int (fun _ _ => rfl)) (pa_cons pe_int (pa_cons (C8.pe_gc rfl Z.i_MOST_PRICE) pa_nil)))))))))), fun vs H Q E h => ?_⟩
  obtain ⟨v0, v1, v2, rfl, h⟩ := h
  obtain ⟨bk, r, nr, na, rfl, ok, h2, q⟩ := h
  obtain ⟨a, x, rfl, e, nx⟩ := nr.rl
  obtain ⟨b, rfl, eb⟩ := na.nums
  have hlt : r.op < bk.ar.length := (List.getElem?_eq_some_iff.mp ok.ar).1
  refine ⟨_, rfl, _, _, rfl, _, nr, rfl, _, rfl, iteF ⟨_, rfl, _, _, _, _, rfl, rfl, .of e, rfl, _, rfl, _, _, rfl, na.lenV, _, _, rfl, rfl, _, _, _, rfl, _, _, _, rfl, rfl, rfl, ?_, ?_, _, rfl, iteF ?_⟩⟩
  · omega
  · simp only [List.length_map]; omega
  refine ⟨_, rfl, _, _, _, _, rfl, rfl, .of e, rfl, _, rfl, _, _, rfl, rfl, _, _, _, rfl, r.src, _, _, nx, rfl, rfl, ?_, ?_, fun H1 s1 => ⟨_, rfl, iteF ?_⟩⟩
  · exact Nat.le_trans h2 (by decide)
  · intro y hy
    have := ok.src y hy
    omega
  have e1 := s1 _ _ e
  have nx1 := nx.keep (KpT.of s1)
  refine ⟨_, rfl, _, _, _, _, rfl, rfl, .of e1, rfl, _, _, rfl, nx1.lenV, _, rfl, _, rfl, _, _, _, _, rfl, rfl, .of e1, rfl, _, _, _, _, rfl, rfl, .of (s1 _ _ eb), atI_nat (gmap ok.ar), rfl, _, rfl, ?_⟩
  rw [List.length_map, decide_eq_true rfl]
  have ht := ok.tgt
  refine iteF ⟨_, rfl, _, _, _, _, rfl, rfl, .of e1, rfl, _, rfl, _, _, rfl, rfl, _, _, _, rfl, _, _, _, rfl, rfl, rfl, by omega, by omega, _, rfl, iteT ?_⟩
  have p1 := ok.p1
  have p2 := ok.p2
  exact ⟨_, rfl, _, _, _, _, rfl, rfl, .of e1, rfl, _, _, _, rfl, _, _, _, rfl, rfl, rfl, by omega, by omega, q _ s1⟩
def sp_is_move (P : Program) (w : World) (K : PySem.W.Frag) (CB CW : Addr) : Sp := fun vs H Q _ => ∃ a b, vs = [a, b] ∧ ∃ (bk : Bk) (m : Mv), Nk H a (eM m) ∧ b = .int (bk.ks : Nat) ∧ bk.MvOk m ∧ ∀ H', Same H H' → Q (.bl true) H'
abbrev n_is_move : List Str := ["thing", "kinds"]
theorem sc_is_move : FnScope n_is_move ["thing", "kinds"] (defScope s_is_move) := ⟨rfl, rfl, rfl, by decide +kernel, rfl, by decide +kernel, by decide +kernel⟩
theorem cl_is_move {P : Program} {w : World} {K : PySem.W.Frag} {mg : Str → Option Value} {base : Heap} {CB CW : Addr} (Z : Fx K mg CB CW) : Cl P w K mg base "is_move" 4 ["thing", "kinds"] (sp_is_move P w K CB CW) := by
  refine Z.d_is_move.cl (N := n_is_move) (k := 3) sc_is_move (fun vs H Q E h => by obtain ⟨_, _, rfl, _⟩ := h; rfl) (fun _ _ _ _ _ _ us hl => match us, hl with | [_, _], _ => rfl) fun f cdv A outer s H0 E0 hr => ⟨_, (pss_cons (ps_if (PW.pt (pw_or (pt_not (pt_val (pe_cl (cl_is_tuple_of (P := P) (w := w) (K := K) (base := base) Z) hr (by decide) rfl (pa_cons (pv 0) (pa_cons pe_int pa_nil))))) (pw_or (pt_not (pt_val (pe_cl (cl_are_within (P := P) (w := w) (K := K) (base := base) Z) hr (by decide) rfl (pa_cons (pe_slice (qslT (by exact ⟨rfl, rfl, rfl⟩ : At _ P w K)) (pv 0) po_none (po_some pe_int)) (pa_cons pe_int (pa_cons (pe_op op_sub (pv 1) pe_int) pa_nil)))))) (pw_or1 (pt_cmpR op_eq (pe_ix (qixT (by exact ⟨rfl, rfl, rfl⟩ : At _ P w K)) (pv 0) pe_int (fun _ _ => rfl)) (pe_ix (qixT (by exact ⟨rfl, rfl, rfl⟩ : At _ P w K)) (pv 0) pe_int (fun _ _ => rfl)) (nomark _)))))) (pss_one (ps_ret pe_bl)) pss_nil) (pss_one (ps_ret (pe_cl (cl_is_within (P := P) (w := w) (K := K) (base := base) Z) hr (by decide) rfl (pa_cons (pe_ix (qixT (by exact ⟨rfl, rfl, rfl⟩ : At _ P w K)) (pv 0) pe_int (fun _ _ => rfl)) (pa_cons pe_int (pa_cons (C8.pe_gc rfl Z.i_MOST_PRICE) pa_nil))))))), fun vs H Q E h => ?_⟩
  obtain ⟨v0, v1, rfl, h⟩ := h
  obtain ⟨bk, m, nm, rfl, ok, q⟩ := h
  obtain ⟨a, rfl, e⟩ := nm.mv
  have p0 := ok.fr
  have p00 := ok.to
  refine ⟨_, rfl, _, _, rfl, _, nm, rfl, _, rfl, iteF ⟨_, rfl, _, rfl, a, _, rfl, .of e, (fun z => absurd z.2 (show ¬ (2 : Nat) = 3 by decide)), fun p np => ⟨_, rfl, _, _, rfl, rfl, _, _, _, rfl, [m.fr, m.to], _, _, .ofNums upd_same, rfl, rfl, by show 2 ≤ sizeLine; decide, ?_, fun H1 s1 => ⟨_, rfl, iteF ?_⟩⟩⟩⟩
  · intro x hx
    rcases List.mem_cons.mp hx with rfl | hx
    · omega
    · rcases List.mem_cons.mp hx with rfl | hx
      · omega
      · cases hx
  have s0 : Same H H1 := smT (same_upd np) s1
  refine ⟨_, rfl, _, _, _, _, rfl, rfl, .of (s0 _ _ e), rfl, _, rfl, _, _, _, _, rfl, rfl, .of (s0 _ _ e), rfl, rfl, _, rfl, ?_⟩
  have ne := ok.ne
  have p1 := ok.p1
  have p2 := ok.p2
  refine iteN (fun z => ne ?_) ⟨_, rfl, _, _, _, _, rfl, rfl, .of (s0 _ _ e), rfl, _, _, _, rfl, _, _, _, rfl, rfl, rfl, by omega, by omega, q _ s0⟩
  have := V.int.inj z
  omega
def sp_price_of (P : Program) (w : World) (K : PySem.W.Frag) (CB CW : Addr) : Sp := fun vs H Q _ => ∃ a b, vs = [a, b] ∧ ∃ (bk : Bk) (wy : Wy) (p : Nat), BkAt CB H a bk ∧ Nk H b (eW wy) ∧ (if wy.1 then (bk.rs[wy.2]?).map Rl.prc else (bk.ms[wy.2]?).map Mv.prc) = some p ∧ Q (.int (p : Nat)) H
abbrev n_price_of : List Str := ["book", "way"]
theorem sc_price_of : FnScope n_price_of ["book", "way"] (defScope s_price_of) := ⟨rfl, rfl, rfl, by decide +kernel, rfl, by decide +kernel, by decide +kernel⟩
theorem cl_price_of {P : Program} {w : World} {K : PySem.W.Frag} {mg : Str → Option Value} {base : Heap} {CB CW : Addr} (Z : Fx K mg CB CW) : Cl P w K mg base "price_of" 1 ["book", "way"] (sp_price_of P w K CB CW) := by
  refine Z.d_price_of.cl (N := n_price_of) (k := 0) sc_price_of (fun vs H Q E h => by obtain ⟨_, _, rfl, _⟩ := h; rfl) (fun _ _ _ _ _ _ us hl => match us, hl with | [_, _], _ => rfl) fun f cdv A outer s H0 E0 hr => ⟨_, (pss_one (ps_ret (pe_ifExp (pt_cmpR op_eq (pe_ix (qixT (by exact ⟨rfl, rfl, rfl⟩ : At _ P w K)) (pv 1) pe_int (fun _ _ => rfl)) pe_str (nomark _)) (pe_ix (qixT (by exact ⟨rfl, rfl, rfl⟩ : At _ P w K)) (pe_ix (qixT (by exact ⟨rfl, rfl, rfl⟩ : At _ P w K)) (qfld (by exact ⟨rfl, rfl, rfl⟩ : At _ P w K) (pv 0) rfl) (pe_ix (qixT (by exact ⟨rfl, rfl, rfl⟩ : At _ P w K)) (pv 1) pe_int (fun _ _ => rfl)) (fun _ _ => rfl)) pe_int (fun _ _ => rfl)) (pe_ix (qixT (by exact ⟨rfl, rfl, rfl⟩ : At _ P w K)) (pe_ix (qixT (by exact ⟨rfl, rfl, rfl⟩ : At _ P w K)) (qfld (by exact ⟨rfl, rfl, rfl⟩ : At _ P w K) (pv 0) rfl) (pe_ix (qixT (by exact ⟨rfl, rfl, rfl⟩ : At _ P w K)) (pv 1) pe_int (fun _ _ => rfl)) (fun _ _ => rfl)) pe_int (fun _ _ => rfl))))), fun vs H Q E h => ?_⟩
  obtain ⟨v0, v1, rfl, h⟩ := h
  obtain ⟨bk, ⟨wr, wi⟩, p, ⟨a, dx, xa, xr, xm, rfl, hB, na, nr, nm⟩, nw, hp, q⟩ := h
  obtain ⟨b, rfl, e⟩ := nw.wy
  cases wr with
  | true =>
    obtain ⟨r, hr1, rfl⟩ := Option.map_eq_some_iff.mp hp
    obtain ⟨c, xs, rfl, ec, rr⟩ := nr.tupE
    obtain ⟨u, h1, h2⟩ := rr.get (gmap hr1)
    obtain ⟨d, x, rfl, ed, _⟩ := h2.rl
    exact ⟨_, rfl, _, _, _, _, rfl, rfl, .of e, rfl, rfl, _, rfl, iteD rfl ⟨_, rfl, _, _, _, _, _, rfl, hB, Z.clB, Z.nB_rules, rfl, _, rfl, _, _, _, _, rfl, rfl, .of e, rfl, _, _, _, _, rfl, rfl, .of ec, atI_nat h1, _, _, _, _, rfl, rfl, .of ed, rfl, q⟩⟩
  | false =>
    obtain ⟨r, hr1, rfl⟩ := Option.map_eq_some_iff.mp hp
    obtain ⟨c, xs, rfl, ec, rr⟩ := nm.tupE
    obtain ⟨u, h1, h2⟩ := rr.get (gmap hr1)
    obtain ⟨d, rfl, ed⟩ := h2.mv
    exact ⟨_, rfl, _, _, _, _, rfl, rfl, .of e, rfl, rfl, _, rfl, iteN wne ⟨_, rfl, _, _, _, _, _, rfl, hB, Z.clB, Z.nB_moves, rfl, _, rfl, _, _, _, _, rfl, rfl, .of e, rfl, _, _, _, _, rfl, rfl, .of ec, atI_nat h1, _, _, _, _, rfl, rfl, .of ed, rfl, q⟩⟩
end K19
set_option maxHeartbeats 4000000
namespace K19
open PySem PySem.Spec PyProof.Rows L2
theorem take_snoc {α β : Type} {l : List α} {i : Nat} {x : α} {f : α → β} (h : l[i]? = some x) : (l.take (i + 1)).map f = (l.take i).map f ++ [f x] := by
  rw [List.take_succ, h, List.map_append]; rfl
theorem nodup_new {α β : Type} {l : List α} {i : Nat} {x : α} {f : α → β} (nd : (l.map f).Nodup) (h : l[i]? = some x) : f x ∉ (l.take i).map f := by
  intro z
  obtain ⟨j, hj⟩ := List.getElem?_of_mem z
  have hji : j < i := by
    have := (List.getElem?_eq_some_iff.mp hj).1
    rw [List.length_map, List.length_take] at this; omega
  have h1 : (l.map f)[j]? = some (f x) := by
    rw [← hj, List.getElem?_map, List.getElem?_map, List.getElem?_take, if_pos hji]
  have h2 : (l.map f)[i]? = some (f x) := gmap h
  have := List.getElem?_inj (List.getElem?_eq_some_iff.mp h1).1 nd |>.mp (h1.trans h2.symm)
  omega
theorem pre3 {H : Hp} {x y z : V} {q : Addr} {k1 k2 k3 : NestedKey} (e : H q = some (.tup [x, y, z])) (h1 : Nk H x k1) (h2 : Nk H y k2) (h3 : Nk H z k3) : Nk H (.ref q) (.tup [k1, k2, k3]) := .tup e (.cons h1 (.cons h2 (.cons h3 .nil)))
def sp_check_rules (P : Program) (w : World) (K : PySem.W.Frag) (CB CW : Addr) : Sp := fun vs H Q _ => ∃ a b c, vs = [a, b, c] ∧ ∃ (bk : Bk), bk.Ok ∧ Nk H a (eRs bk) ∧ Nk H b (eL bk.ar) ∧ c = .int (bk.ks : Nat) ∧ ∀ H', Same H H' → Q .non H'
abbrev n_check_rules : List Str := ["rules", "arities", "kinds", "known", "number", "rule"]
theorem sc_check_rules : FnScope n_check_rules ["rules", "arities", "kinds"] (defScope s_check_rules) := ⟨rfl, rfl, rfl, by decide +kernel, rfl, by decide +kernel, by decide +kernel⟩
theorem cl_check_rules {P : Program} {w : World} {K : PySem.W.Frag} {mg : Str → Option Value} {base : Heap} {CB CW : Addr} (Z : Fx K mg CB CW) : Cl P w K mg base "check_rules" 5 ["rules", "arities", "kinds"] (sp_check_rules P w K CB CW) := by
  refine Z.d_check_rules.cl (N := n_check_rules) (k := 4) sc_check_rules (fun vs H Q E h => by obtain ⟨_, _, _, rfl, _⟩ := h; rfl) (fun _ _ _ _ _ _ us hl => match us, hl with | [_, _, _], _ => rfl) fun f cdv A outer s H0 E0 hr => ⟨_, (pss_cons (ps_set (i := 3) sc_check_rules.nd rfl (Or.inl rfl) (qdnew (by exact ⟨rfl, rfl, rfl⟩ : At _ P w K))) (pss_one (ps_for PassesOwn.never rfl (qpiE (by exact ⟨rfl, rfl, rfl⟩ : At _ P w K) rfl Z.f_enumerate (pa_cons (pv 0) pa_nil)) (qpgT (n := 2) (by exact ⟨rfl, rfl, rfl⟩ : At _ P w K) rfl (pgs_cons (pg_name (i := 4) sc_check_rules.nd rfl (Or.inl rfl)) (pgs_cons (pg_name (i := 5) sc_check_rules.nd rfl (Or.inl rfl)) pgs_nil))) (pss_cons (ps_if (PW.pt (pw_or (pt_not (pt_val (pe_cl (cl_is_rule (P := P) (w := w) (K := K) (base := base) Z) hr (by decide) rfl (pa_cons (pv 5) (pa_cons (pv 1) (pa_cons (pv 2) pa_nil)))))) (pw_or1 (pt_cmp (qnin (by exact ⟨rfl, rfl, rfl⟩ : At _ P w K) hr.units (pe_slice (qslT (by exact ⟨rfl, rfl, rfl⟩ : At _ P w K)) (pv 5) po_none (po_some pe_int)) (pv 3)) rfl)))) (pss_one ps_never) pss_nil) (pss_one (qnput (by exact ⟨rfl, rfl, rfl⟩ : At _ P w K) hr.units (pv 3) (pe_slice (qslT (by exact ⟨rfl, rfl, rfl⟩ : At _ P w K)) (pv 5) po_none (po_some pe_int)) pe_bl rfl)))))), fun vs H Q E h => ?_⟩
  obtain ⟨v0, v1, v2, rfl, h⟩ := h
  obtain ⟨bk, ok, nr, na, rfl, q⟩ := h
  obtain ⟨a, xs, rfl, e, r⟩ := nr.tupE
  intro p H1 np b1 d1
  have s1 := b1.same np
  refine ⟨_, rfl, a, xs, rfl, .of (s1 _ _ e), ?_⟩
  refine for_it walk_enumT (fun i σ H2 => ∃ x y, σ = [some (.ref a), some v1, some (.int (bk.ks : Nat)), some (.ref p), x, y] ∧ Same H H2 ∧ DM P w H2 p eH ((bk.rs.take i).map Bk.hd) (fun _ => .bl true)) ⟨none, none, rfl, s1, d1⟩ (fun i σ H2 _ ⟨x, y, _, s, _⟩ => .of (s _ _ e)) ?_ (fun σ H2 ⟨_, _, _, s, _⟩ => q _ s)
  rintro i v σ H2 H3 hi ⟨x, y, rfl, s2, d2⟩ ⟨T, u, z, rfl, nT, rfl, hu, hz⟩
  obtain rfl := Option.some.inj hu
  obtain ⟨k, hk, nz⟩ := r.get' hz
  obtain ⟨rl, hr, rfl⟩ := gmap' hk
  have s3 := smT s2 (same_upd (o := .tup [.int (i : Nat), z]) nT)
  have okr := ok.ro rl (List.mem_of_getElem? hr)
  refine ⟨T, _, rfl, .of upd_same, rfl, _, _, rfl, _, _, rfl, rfl, ?_⟩
  have h2 : rl.src.length ≤ 2 := ok.a3 _ (List.mem_of_getElem? okr.ar)
  refine ⟨_, rfl, _, rfl, _, rfl, _, _, _, rfl, bk, rl, nz.keep (.of s3), na.keep (.of s3), rfl, okr, h2, fun H4 s4 => ⟨_, rfl, iteF ?_⟩⟩
  have s5 := smT s3 s4
  obtain ⟨b, x2, rfl, eb, nx2⟩ := nz.rl
  have d4 := d2.same (smT (same_upd (o := .tup [.int (i : Nat), V.ref b]) nT) s4)
  refine ⟨_, rfl, _, rfl, b, _, rfl, .of (s5 _ _ eb), (fun z => absurd z.2 (show ¬ (3 : Nat) = 4 by decide)), fun q1 nq1 => ?_⟩
  have n3 : Nk (upd H4 q1 (.tup (cutV [V.int (rl.op : Nat), x2, V.int (rl.tgt : Nat), V.int (rl.prc : Nat)] none (some 3)))) (.ref q1) (eH (Bk.hd rl)) := pre3 upd_same (.int _) ((nx2.keep (.of s5)).keep (.of (same_upd nq1))) (.int _)
  have new : Bk.hd rl ∉ (bk.rs.take i).map Bk.hd := nodup_new ok.rd hr
  refine ⟨_, rfl, p, _, rfl, (d4.same (same_upd nq1)).nget encH n3, _, rfl, ?_⟩
  rw [ifSome, memB_f new]
  refine iteF ⟨_, rfl, _, rfl, _, rfl, b, _, rfl, .of (same_upd nq1 _ _ (s5 _ _ eb)), (fun z => absurd z.2 (show ¬ (3 : Nat) = 4 by decide)), fun q2 nq2 => ?_⟩
  have s6 := smT s5 (same_upd (o := .tup (cutV [V.int (rl.op : Nat), x2, V.int (rl.tgt : Nat), V.int (rl.prc : Nat)] none (some 3))) nq1)
  have s7 := smT s6 (same_upd (o := .tup (cutV [V.int (rl.op : Nat), x2, V.int (rl.tgt : Nat), V.int (rl.prc : Nat)] none (some 3))) nq2)
  refine ((d4.same (same_upd nq1)).same (same_upd nq2)).nput encH (t := Bk.hd rl) ?_ (pre3 upd_same (.int _) (nx2.keep (.of s7)) (.int _)) fun H8 b8 d8 => ?_
  · have := ok.rn
    rw [List.length_map, List.length_take]
    exact Nat.lt_of_le_of_lt (Nat.le_trans (Nat.min_le_right _ _) this) (by decide)
  refine ⟨_, _, rfl, smB np s7 b8, ?_⟩
  rw [insL_new new, ← take_snoc (f := Bk.hd) hr] at d8
  exact d8.congr fun t _ => by unfold updF; split <;> rfl
abbrev mhd (m : Mv) : Thg := (m.fr, m.to)
def sp_check_moves (P : Program) (w : World) (K : PySem.W.Frag) (CB CW : Addr) : Sp := fun vs H Q _ => ∃ a c, vs = [a, c] ∧ ∃ (bk : Bk), bk.Ok ∧ Nk H a (eMs bk) ∧ c = .int (bk.ks : Nat) ∧ ∀ H', Same H H' → Q .non H'
abbrev n_check_moves : List Str := ["moves", "kinds", "known", "number", "move"]
theorem sc_check_moves : FnScope n_check_moves ["moves", "kinds"] (defScope s_check_moves) := ⟨rfl, rfl, rfl, by decide +kernel, rfl, by decide +kernel, by decide +kernel⟩
theorem cl_check_moves {P : Program} {w : World} {K : PySem.W.Frag} {mg : Str → Option Value} {base : Heap} {CB CW : Addr} (Z : Fx K mg CB CW) : Cl P w K mg base "check_moves" 5 ["moves", "kinds"] (sp_check_moves P w K CB CW) := by
  refine Z.d_check_moves.cl (N := n_check_moves) (k := 4) sc_check_moves (fun vs H Q E h => by obtain ⟨_, _, rfl, _⟩ := h; rfl) (fun _ _ _ _ _ _ us hl => match us, hl with | [_, _], _ => rfl) fun f cdv A outer s H0 E0 hr => ⟨_, (pss_cons (ps_set (i := 2) sc_check_moves.nd rfl (Or.inl rfl) (qdnew (by exact ⟨rfl, rfl, rfl⟩ : At _ P w K))) (pss_one (ps_for PassesOwn.never rfl (qpiE (by exact ⟨rfl, rfl, rfl⟩ : At _ P w K) rfl Z.f_enumerate (pa_cons (pv 0) pa_nil)) (qpgT (n := 2) (by exact ⟨rfl, rfl, rfl⟩ : At _ P w K) rfl (pgs_cons (pg_name (i := 3) sc_check_moves.nd rfl (Or.inl rfl)) (pgs_cons (pg_name (i := 4) sc_check_moves.nd rfl (Or.inl rfl)) pgs_nil))) (pss_cons (ps_if (PW.pt (pw_or (pt_not (pt_val (pe_cl (cl_is_move (P := P) (w := w) (K := K) (base := base) Z) hr (by decide) rfl (pa_cons (pv 4) (pa_cons (pv 1) pa_nil))))) (pw_or1 (pt_cmp (qnin (by exact ⟨rfl, rfl, rfl⟩ : At _ P w K) hr.units (pe_slice (qslT (by exact ⟨rfl, rfl, rfl⟩ : At _ P w K)) (pv 4) po_none (po_some pe_int)) (pv 2)) rfl)))) (pss_one ps_never) pss_nil) (pss_one (qnput (by exact ⟨rfl, rfl, rfl⟩ : At _ P w K) hr.units (pv 2) (pe_slice (qslT (by exact ⟨rfl, rfl, rfl⟩ : At _ P w K)) (pv 4) po_none (po_some pe_int)) pe_bl rfl)))))), fun vs H Q E h => ?_⟩
  obtain ⟨v0, v1, rfl, h⟩ := h
  obtain ⟨bk, ok, nr, rfl, q⟩ := h
  obtain ⟨a, xs, rfl, e, r⟩ := nr.tupE
  intro p H1 np b1 d1
  have s1 := b1.same np
  refine ⟨_, rfl, a, xs, rfl, .of (s1 _ _ e), ?_⟩
  refine for_it walk_enumT (fun i σ H2 => ∃ x y, σ = [some (.ref a), some (.int (bk.ks : Nat)), some (.ref p), x, y] ∧ Same H H2 ∧ DM P w H2 p eT ((bk.ms.take i).map mhd) (fun _ => .bl true)) ⟨none, none, rfl, s1, d1⟩ (fun i σ H2 _ ⟨x, y, _, s, _⟩ => .of (s _ _ e)) ?_ (fun σ H2 ⟨_, _, _, s, _⟩ => q _ s)
  rintro i v σ H2 H3 hi ⟨x, y, rfl, s2, d2⟩ ⟨T, u, z, rfl, nT, rfl, hu, hz⟩
  obtain rfl := Option.some.inj hu
  obtain ⟨k, hk, nz⟩ := r.get' hz
  obtain ⟨rl, hr, rfl⟩ := gmap' hk
  have s3 := smT s2 (same_upd (o := .tup [.int (i : Nat), z]) nT)
  have okr := ok.mo rl (List.mem_of_getElem? hr)
  refine ⟨T, _, rfl, .of upd_same, rfl, _, _, rfl, _, _, rfl, rfl, ?_⟩
  refine ⟨_, rfl, _, rfl, _, _, rfl, bk, rl, nz.keep (.of s3), rfl, okr, fun H4 s4 => ⟨_, rfl, iteF ?_⟩⟩
  have s5 := smT s3 s4
  obtain ⟨b, rfl, eb⟩ := nz.mv
  have d4 := d2.same (smT (same_upd (o := .tup [.int (i : Nat), V.ref b]) nT) s4)
  refine ⟨_, rfl, _, rfl, b, _, rfl, .of (s5 _ _ eb), (fun z => absurd z.2 (show ¬ (2 : Nat) = 3 by decide)), fun q1 nq1 => ?_⟩
  have n3 : Nk (upd H4 q1 (.tup (cutV [V.int (rl.fr : Nat), V.int (rl.to : Nat), V.int (rl.prc : Nat)] none (some 2)))) (.ref q1) (eT (mhd rl)) := .of2 upd_same (.int _) (.int _)
  have new : mhd rl ∉ (bk.ms.take i).map mhd := nodup_new ok.md hr
  refine ⟨_, rfl, p, _, rfl, (d4.same (same_upd nq1)).nget encT n3, _, rfl, ?_⟩
  rw [ifSome, memB_f new]
  refine iteF ⟨_, rfl, _, rfl, _, rfl, b, _, rfl, .of (same_upd nq1 _ _ (s5 _ _ eb)), (fun z => absurd z.2 (show ¬ (2 : Nat) = 3 by decide)), fun q2 nq2 => ?_⟩
  have s6 := smT s5 (same_upd (o := .tup (cutV [V.int (rl.fr : Nat), V.int (rl.to : Nat), V.int (rl.prc : Nat)] none (some 2))) nq1)
  have s7 := smT s6 (same_upd (o := .tup (cutV [V.int (rl.fr : Nat), V.int (rl.to : Nat), V.int (rl.prc : Nat)] none (some 2))) nq2)
  refine ((d4.same (same_upd nq1)).same (same_upd nq2)).nput encT (t := mhd rl) ?_ (.of2 upd_same (.int _) (.int _)) fun H8 b8 d8 => ?_
  · have := ok.mn
    rw [List.length_map, List.length_take]
    exact Nat.lt_of_le_of_lt (Nat.le_trans (Nat.min_le_right _ _) this) (by decide)
  refine ⟨_, _, rfl, smB np s7 b8, ?_⟩
  rw [insL_new new, ← take_snoc (f := mhd) hr] at d8
  exact d8.congr fun t _ => by unfold updF; split <;> rfl
end K19
set_option maxHeartbeats 4000000
namespace K19
open PySem PySem.Spec PyProof.Rows L2
def sp_is_value (P : Program) (w : World) (K : PySem.W.Frag) (CB CW : Addr) : Sp := fun vs H Q _ => ∃ a b, vs = [a, b] ∧ ∃ (bk : Bk) (i : Nat) (v : Vl), bk.Ok ∧ Nk H a (eV v) ∧ b = .int (i : Nat) ∧ VlOk bk i v ∧ ∀ H', Same H H' → Q (.bl true) H'
abbrev n_is_value : List Str := ["thing", "number", "part"]
theorem sc_is_value : FnScope n_is_value ["thing", "number"] (defScope s_is_value) := ⟨rfl, rfl, rfl, by decide +kernel, rfl, by decide +kernel, by decide +kernel⟩
theorem cl_is_value {P : Program} {w : World} {K : PySem.W.Frag} {mg : Str → Option Value} {base : Heap} {CB CW : Addr} (Z : Fx K mg CB CW) : Cl P w K mg base "is_value" 4 ["thing", "number"] (sp_is_value P w K CB CW) := by
  refine Z.d_is_value.cl (N := n_is_value) (k := 3) sc_is_value (fun vs H Q E h => by obtain ⟨_, _, rfl, _⟩ := h; rfl) (fun _ _ _ _ _ _ us hl => match us, hl with | [_, _], _ => rfl) fun f cdv A outer s H0 E0 hr => ⟨_, (pss_cons (ps_if (PW.pt (pw_or (pt_not (pt_val (pe_cl (cl_is_tuple_of (P := P) (w := w) (K := K) (base := base) Z) hr (by decide) rfl (pa_cons (pv 0) (pa_cons pe_int pa_nil))))) (pw_or1 (pt_not (pt_val (pe_cl (cl_is_within (P := P) (w := w) (K := K) (base := base) Z) hr (by decide) rfl (pa_cons (pe_ix (qixT (by exact ⟨rfl, rfl, rfl⟩ : At _ P w K)) (pv 0) pe_int (fun _ _ => rfl)) (pa_cons pe_int (pa_cons (C8.pe_gc rfl Z.i_MOST_OP) pa_nil))))))))) (pss_one (ps_ret pe_bl)) pss_nil) (pss_cons (ps_if (PW.pt (pw_or (pt_not (pt_val (pe_callB (qisi (by exact ⟨rfl, rfl, rfl⟩ : At _ P w K)) rfl Z.f_isinstance bt_isinstance (pa_cons (pe_ix (qixT (by exact ⟨rfl, rfl, rfl⟩ : At _ P w K)) (pv 0) pe_int (fun _ _ => rfl)) (pa_cons (pe_bltn (v := .ty "tuple") rfl Z.f_tuple bt_tuple rfl) pa_nil))))) (pw_or1 (pt_cmpR op_gt (pe_callB (qlen (by exact ⟨rfl, rfl, rfl⟩ : At _ P w K)) rfl Z.f_len bt_len (pa_cons (pe_ix (qixT (by exact ⟨rfl, rfl, rfl⟩ : At _ P w K)) (pv 0) pe_int (fun _ _ => rfl)) pa_nil)) (C8.pe_gc rfl Z.i_MOST_PARTS_webs) (nomark _))))) (pss_one (ps_ret pe_bl)) pss_nil) (pss_one (ps_ret (pe_callB (qall (by exact ⟨rfl, rfl, rfl⟩ : At _ P w K) rfl) rfl Z.f_all bt_all (pa_cons (pe_lc (own := [("part", 2)]) rfl sc_is_value.nd (qpiT (by exact ⟨rfl, rfl, rfl⟩ : At _ P w K) (pe_ix (qixT (by exact ⟨rfl, rfl, rfl⟩ : At _ P w K)) (pv 0) pe_int (fun _ _ => rfl))) (blkOk_by (N := n_is_value) (sc := defScope s_is_value) (by decide +kernel)) (fun _ _ _ _ _ => (pg_name (i := 2) sc_is_value.nd rfl (by first | exact Or.inl rfl | exact Or.inr rfl))) (fun _ _ _ _ _ => pts_nil) (fun _ _ _ _ _ => (pe_cl (cl_is_within (P := P) (w := w) (K := K) (base := base) Z) hr (by decide) rfl (pa_cons (pv 2) (pa_cons pe_int (pa_cons (pe_op op_sub (pv 1) pe_int) pa_nil)))))) pa_nil)))))), fun vs H Q E h => ?_⟩
  obtain ⟨v0, v1, rfl, h⟩ := h
  obtain ⟨bk, i, v, okb, nv, rfl, ok, q⟩ := h
  obtain ⟨a, x, rfl, e, nx⟩ := nv.vl
  obtain ⟨b, rfl, eb⟩ := nx.nums
  have h1 := (List.getElem?_eq_some_iff.mp ok.ar).1
  have h2 := okb.a2
  have h3 := okb.a3 _ (List.mem_of_getElem? ok.ar)
  refine ⟨_, rfl, _, _, rfl, _, nv, rfl, _, rfl, iteF ⟨_, rfl, _, _, _, _, rfl, rfl, .of e, rfl, _, _, _, rfl, _, _, _, rfl, rfl, rfl, by omega, by omega, _, rfl, iteF ?_⟩⟩
  refine ⟨_, rfl, _, _, _, _, rfl, rfl, .of e, rfl, _, _, _, _, true, rfl, .ty _, nx.tyT, kit_ty (by decide +kernel), _, rfl, iteF ⟨_, rfl, _, _, _, _, rfl, rfl, .of e, rfl, _, _, rfl, nx.lenV, _, _, rfl, rfl, _, rfl, iteN ?_ ?_⟩⟩
  · rw [List.length_map]; omega
  refine ⟨_, rfl, _, _, _, _, rfl, rfl, .of e, rfl, b, rfl, ⟨_, .of eb⟩, ?_⟩
  refine lc_sm walk_tup (RAll fun _ => .bl ((fun _ => true) 0)) (by rw [List.length_map]; exact Nat.le_trans h3 (by decide)) (fun _ _ _ _ _ r => r) (fun _ _ _ r => r.len) (fun H2 s => .of (s _ _ eb)) rfl ?_ ?_
  · rintro j y acc H2 H3 Kd Kn hi s r kd kn ⟨rfl, hx⟩
    obtain ⟨z, hz, rfl⟩ := gmap' hx
    have hl := ok.lt z (List.mem_of_getElem? hz)
    exact ⟨rfl, yes ⟨_, rfl, _, rfl, _, _, rfl, rfl, _, _, _, rfl, _, _, _, rfl, rfl, rfl, by omega, by omega, kd _ _ (sm0 _) r.step⟩⟩
  · intro acc H2 p s ep np r
    exact ⟨p, _, rfl, .of (by rw [ep, r.bl]), qT all_const (q _ s)⟩
def sp_is_of (P : Program) (w : World) (K : PySem.W.Frag) (CB CW : Addr) : Sp := fun vs H Q _ => ∃ a b, vs = [a, b] ∧ ∃ (bk : Bk) (v : Vl), BkAt CB H a bk ∧ Nk H b (eV v) ∧ bk.ar[v.1]? = some v.2.length ∧ Q (.bl true) H
abbrev n_is_of : List Str := ["book", "value"]
theorem sc_is_of : FnScope n_is_of ["book", "value"] (defScope s_is_of) := ⟨rfl, rfl, rfl, by decide +kernel, rfl, by decide +kernel, by decide +kernel⟩
theorem cl_is_of {P : Program} {w : World} {K : PySem.W.Frag} {mg : Str → Option Value} {base : Heap} {CB CW : Addr} (Z : Fx K mg CB CW) : Cl P w K mg base "is_of" 1 ["book", "value"] (sp_is_of P w K CB CW) := by
  refine Z.d_is_of.cl (N := n_is_of) (k := 0) sc_is_of (fun vs H Q E h => by obtain ⟨_, _, rfl, _⟩ := h; rfl) (fun _ _ _ _ _ _ us hl => match us, hl with | [_, _], _ => rfl) fun f cdv A outer s H0 E0 hr => ⟨_, (pss_one (ps_ret (pe_and (pe_cmpR op_lt (pe_ix (qixT (by exact ⟨rfl, rfl, rfl⟩ : At _ P w K)) (pv 1) pe_int (fun _ _ => rfl)) (pe_callB (qlen (by exact ⟨rfl, rfl, rfl⟩ : At _ P w K)) rfl Z.f_len bt_len (pa_cons (qfld (by exact ⟨rfl, rfl, rfl⟩ : At _ P w K) (pv 0) rfl) pa_nil)) (nomark _)) (pe_one (pe_cmpR op_eq (pe_callB (qlen (by exact ⟨rfl, rfl, rfl⟩ : At _ P w K)) rfl Z.f_len bt_len (pa_cons (pe_ix (qixT (by exact ⟨rfl, rfl, rfl⟩ : At _ P w K)) (pv 1) pe_int (fun _ _ => rfl)) pa_nil)) (pe_ix (qixT (by exact ⟨rfl, rfl, rfl⟩ : At _ P w K)) (qfld (by exact ⟨rfl, rfl, rfl⟩ : At _ P w K) (pv 0) rfl) (pe_ix (qixT (by exact ⟨rfl, rfl, rfl⟩ : At _ P w K)) (pv 1) pe_int (fun _ _ => rfl)) (fun _ _ => rfl)) (nomark _)))))), fun vs H Q E h => ?_⟩
  obtain ⟨v0, v1, rfl, h⟩ := h
  obtain ⟨bk, v, ⟨a, dx, xa, xr, xm, rfl, hB, na, nr, nm⟩, nv, har, q⟩ := h
  obtain ⟨b, x, rfl, e, nx⟩ := nv.vl
  obtain ⟨c, rfl, ec⟩ := na.nums
  have h1 := (List.getElem?_eq_some_iff.mp har).1
  refine ⟨_, rfl, _, _, _, _, rfl, rfl, .of e, rfl, _, rfl, _, _, _, _, _, rfl, hB, Z.clB, Z.nB_arities, rfl, _, _, rfl, na.lenV, _, _, rfl, rfl, _, rfl, iteD ?_ ?_⟩
  · rw [List.length_map]; omega
  refine ⟨_, rfl, _, _, _, _, rfl, rfl, .of e, rfl, _, _, rfl, nx.lenV, _, rfl, _, _, _, _, _, rfl, hB, Z.clB, Z.nB_arities, rfl, _, rfl, _, _, _, _, rfl, rfl, .of e, rfl, _, _, _, _, rfl, rfl, .of ec, atI_nat (gmap har), rfl, qT ?_ q⟩
  rw [List.length_map]
  exact decide_eq_true rfl
def sp_fits (P : Program) (w : World) (K : PySem.W.Frag) (CB CW : Addr) : Sp := fun vs H Q _ => ∃ a b, vs = [a, b] ∧ ∃ (bk : Bk) (W : List Vl), BkAt CB H a bk ∧ WbAt CW H b W ∧ WbOk bk W ∧ ∀ H', Same H H' → Q (.bl true) H'
abbrev n_fits : List Str := ["book", "web", "value"]
theorem sc_fits : FnScope n_fits ["book", "web"] (defScope s_fits) := ⟨rfl, rfl, rfl, by decide +kernel, rfl, by decide +kernel, by decide +kernel⟩
theorem cl_fits {P : Program} {w : World} {K : PySem.W.Frag} {mg : Str → Option Value} {base : Heap} {CB CW : Addr} (Z : Fx K mg CB CW) : Cl P w K mg base "fits" 2 ["book", "web"] (sp_fits P w K CB CW) := by
  refine Z.d_fits.cl (N := n_fits) (k := 1) sc_fits (fun vs H Q E h => by obtain ⟨_, _, rfl, _⟩ := h; rfl) (fun _ _ _ _ _ _ us hl => match us, hl with | [_, _], _ => rfl) fun f cdv A outer s H0 E0 hr => ⟨_, (pss_one (ps_ret (pe_callB (qall (by exact ⟨rfl, rfl, rfl⟩ : At _ P w K) rfl) rfl Z.f_all bt_all (pa_cons (pe_lc (own := [("value", 2)]) rfl sc_fits.nd (qpiT (by exact ⟨rfl, rfl, rfl⟩ : At _ P w K) (qfld (by exact ⟨rfl, rfl, rfl⟩ : At _ P w K) (pv 1) rfl)) (blkOk_by (N := n_fits) (sc := defScope s_fits) (by decide +kernel)) (fun _ _ _ _ _ => (pg_name (i := 2) sc_fits.nd rfl (by first | exact Or.inl rfl | exact Or.inr rfl))) (fun _ _ _ _ _ => pts_nil) (fun _ _ _ _ _ => (pe_cl (cl_is_of (P := P) (w := w) (K := K) (base := base) Z) hr (by decide) rfl (pa_cons (pv 0) (pa_cons (pv 2) pa_nil))))) pa_nil)))), fun vs H Q E h => ?_⟩
  obtain ⟨v0, v1, rfl, h⟩ := h
  obtain ⟨bk, W, hB, ⟨a, dx, xr, rfl, hW, nr⟩, ok, q⟩ := h
  obtain ⟨b, xs, rfl, e, r⟩ := nr.tupE
  have hl : xs.length = W.length := by rw [r.length, List.length_map]
  refine ⟨_, rfl, _, _, _, _, _, rfl, hW, Z.clW, Z.nW_rows, rfl, b, rfl, ⟨_, .of e⟩, ?_⟩
  refine lc_sm walk_tup (RAll fun _ => .bl ((fun _ => true) 0)) (by rw [hl]; exact Nat.le_trans ok.n (by decide)) (fun _ _ _ _ _ r => r) (fun _ _ _ r => r.len) (fun H2 s => .of (s _ _ e)) rfl ?_ ?_
  · rintro j y acc H2 H3 Kd Kn hi s r2 kd kn ⟨rfl, hx⟩
    obtain ⟨k, hk, ny⟩ := r.get' hx
    obtain ⟨v, hv, rfl⟩ := gmap' hk
    exact ⟨rfl, yes ⟨_, rfl, _, rfl, _, _, rfl, bk, v, hB.same s, ny.keep (.of s), (ok.ok _ _ hv).ar, kd _ _ (sm0 _) r2.step⟩⟩
  · intro acc H2 p s ep np r
    exact ⟨p, _, rfl, .of (by rw [ep, r.bl]), qT all_const (q _ s)⟩
def sp_check_web (P : Program) (w : World) (K : PySem.W.Frag) (CB CW : Addr) : Sp := fun vs H Q _ => ∃ a b, vs = [a, b] ∧ ∃ (bk : Bk) (W : List Vl), BkAt CB H a bk ∧ WbAt CW H b W ∧ WbOk bk W ∧ ∀ H', Same H H' → Q .non H'
abbrev n_check_web : List Str := ["book", "web"]
theorem sc_check_web : FnScope n_check_web ["book", "web"] (defScope s_check_web) := ⟨rfl, rfl, rfl, by decide +kernel, rfl, by decide +kernel, by decide +kernel⟩
theorem cl_check_web {P : Program} {w : World} {K : PySem.W.Frag} {mg : Str → Option Value} {base : Heap} {CB CW : Addr} (Z : Fx K mg CB CW) : Cl P w K mg base "check_web" 3 ["book", "web"] (sp_check_web P w K CB CW) := by
  refine Z.d_check_web.cl (N := n_check_web) (k := 2) sc_check_web (fun vs H Q E h => by obtain ⟨_, _, rfl, _⟩ := h; rfl) (fun _ _ _ _ _ _ us hl => match us, hl with | [_, _], _ => rfl) fun f cdv A outer s H0 E0 hr => ⟨_, (pss_one (ps_if (PW.pt (pw_or (pt_not (pt_val (pe_callB (C8.call_isC Z.insW) rfl Z.f_isinstance bt_isinstance (pa_cons (pv 1) (pa_cons (pe_glob (v := .ref _) rfl Z.gW rfl) pa_nil))))) (pw_or1 (pt_not (pt_val (pe_cl (cl_fits (P := P) (w := w) (K := K) (base := base) Z) hr (by decide) rfl (pa_cons (pv 0) (pa_cons (pv 1) pa_nil)))))))) (pss_one ps_never) pss_nil)), fun vs H Q E h => ?_⟩
  obtain ⟨v0, v1, rfl, h⟩ := h
  obtain ⟨bk, W, hB, hW0, ok, q⟩ := h
  obtain ⟨a, dx, xr, rfl, hW, nr⟩ := id hW0
  exact ⟨_, rfl, _, _, _, rfl, hW, _, rfl, iteF ⟨_, rfl, _, rfl, _, _, rfl, bk, W, hB, hW0, ok, fun H1 s => ⟨_, rfl, iteF (q _ s)⟩⟩⟩
/-- an instance is filled -/
def Made (x : Addr) (H H' : Hp) : Prop := ∀ b o, b ≠ x → H b = some o → H' b = some o
def sp_Book_init (P : Program) (w : World) (K : PySem.W.Frag) (CB CW : Addr) : Sp := fun vs H Q _ => ∃ v a b c d, vs = [v, a, b, c, d] ∧ ∃ (x dx : Addr) (bk : Bk), v = .ref x ∧ H x = some (.ins CB dx []) ∧ bk.Ok ∧ Nk H a (eL bk.ar) ∧ b = .int (bk.ks : Nat) ∧ Nk H c (eRs bk) ∧ Nk H d (eMs bk) ∧
  ∀ H', Made x H H' → H' x = some (.ins CB dx [("arities", a), ("kinds", .int (bk.ks : Nat)), ("rules", c), ("moves", d)]) → Q .non H'
abbrev n_Book_init : List Str := ["self", "arities", "kinds", "rules", "moves"]
theorem sc_Book_init : FnScope n_Book_init ["self", "arities", "kinds", "rules", "moves"] (defScope s_Book_init) := ⟨rfl, rfl, rfl, by decide +kernel, rfl, by decide +kernel, by decide +kernel⟩
theorem ic_Book {P : Program} {w : World} {K : PySem.W.Frag} {mg : Str → Option Value} {base : Heap} {CB CW : Addr} (Z : Fx K mg CB CW) : Ic P w K mg base CB 6 ["self", "arities", "kinds", "rules", "moves"] (sp_Book_init P w K CB CW) := by
  refine Ic.of (q := "Book.__init__") (st := s_Book_init) Z.mkB (N := n_Book_init) (k := 5) sc_Book_init (fun vs H Q E h => by obtain ⟨_, _, _, _, _, rfl, _⟩ := h; rfl) (fun _ _ _ _ _ _ us hl => match us, hl with | [_, _, _, _, _], _ => rfl) fun f cdv A outer s H0 E0 hr => ⟨_, (pss_cons (ps_if (PW.pt (pw_or (pt_not (pt_val (pe_cl (cl_are_within (P := P) (w := w) (K := K) (base := base) Z) hr (by decide) rfl (pa_cons (pv 1) (pa_cons pe_int (pa_cons (C8.pe_gc rfl Z.i_MOST_PARTS_books) pa_nil)))))) (pw_or1 (pt_not (pt_chain op_le op_le pe_int (pe_callB (qlen (by exact ⟨rfl, rfl, rfl⟩ : At _ P w K)) rfl Z.f_len bt_len (pa_cons (pv 1) pa_nil)) (C8.pe_gc rfl Z.i_MOST_OPS)))))) (pss_one ps_never) pss_nil) (pss_cons (ps_if (pt_not (pt_val (pe_cl (cl_is_within (P := P) (w := w) (K := K) (base := base) Z) hr (by decide) rfl (pa_cons (pv 2) (pa_cons pe_int (pa_cons (C8.pe_gc rfl Z.i_MOST_KINDS) pa_nil)))))) (pss_one ps_never) pss_nil) (pss_cons (ps_if (pt_not (pt_val (pe_cl (cl_is_long (P := P) (w := w) (K := K) (base := base) Z) hr (by decide) rfl (pa_cons (pv 3) (pa_cons (C8.pe_gc rfl Z.i_MOST_RULES) pa_nil))))) (pss_one ps_never) pss_nil) (pss_cons (ps_if (pt_not (pt_val (pe_cl (cl_is_long (P := P) (w := w) (K := K) (base := base) Z) hr (by decide) rfl (pa_cons (pv 4) (pa_cons (C8.pe_gc rfl Z.i_MOST_MOVES) pa_nil))))) (pss_one ps_never) pss_nil) (pss_cons (ps_expr (pe_cl (cl_check_rules (P := P) (w := w) (K := K) (base := base) Z) hr (by decide) rfl (pa_cons (pv 3) (pa_cons (pv 1) (pa_cons (pv 2) pa_nil))))) (pss_cons (ps_expr (pe_cl (cl_check_moves (P := P) (w := w) (K := K) (base := base) Z) hr (by decide) rfl (pa_cons (pv 4) (pa_cons (pv 2) pa_nil)))) (pss_cons (qsfld (by exact ⟨rfl, rfl, rfl⟩ : At _ P w K) (pv 0) (pv 1) rfl) (pss_cons (qsfld (by exact ⟨rfl, rfl, rfl⟩ : At _ P w K) (pv 0) (pv 2) rfl) (pss_cons (qsfld (by exact ⟨rfl, rfl, rfl⟩ : At _ P w K) (pv 0) (pv 3) rfl) (pss_one (qsfld (by exact ⟨rfl, rfl, rfl⟩ : At _ P w K) (pv 0) (pv 4) rfl))))))))))), fun vs H Q E h => ?_⟩
  obtain ⟨v0, v1, v2, v3, v4, rfl, h⟩ := h
  obtain ⟨x, dx, bk, rfl, hx, ok, na, rfl, nr, nm, q⟩ := h
  have k1 := ok.k1
  have k2 := ok.k2
  have a1 := ok.a1
  have a2 := ok.a2
  refine ⟨_, rfl, _, _, _, rfl, bk.ar, _, _, na, rfl, rfl, Nat.le_trans a2 (by decide), fun y hy => ⟨by omega, by have := ok.a3 y hy; omega⟩, fun H1 s1 => ⟨_, rfl, iteF ?_⟩⟩
  have na1 := na.keep (.of s1)
  have nr1 := nr.keep (.of s1)
  have nm1 := nm.keep (.of s1)
  refine ⟨_, rfl, _, _, rfl, na1.lenV, _, _, rfl, rfl, _, rfl, iteD ?_ ⟨_, _, rfl, rfl, _, rfl, ?_⟩⟩
  · rw [List.length_map]; omega
  refine iteND ?_ ?_
  · rw [List.length_map]; omega
  refine ⟨_, rfl, _, _, _, rfl, _, _, _, rfl, rfl, rfl, by omega, by omega, _, rfl, iteF ?_⟩
  refine ⟨_, rfl, _, _, rfl, _, _, nr1, rfl, ?_, _, rfl, iteF ⟨_, rfl, _, _, rfl, _, _, nm1, rfl, ?_, _, rfl, iteF ?_⟩⟩
  · rw [List.length_map]; have := ok.rn; omega
  · rw [List.length_map]; have := ok.mn; omega
  refine ⟨_, rfl, _, rfl, _, rfl, _, _, _, rfl, bk, ok, nr1, na1, rfl, fun H2 s2 => ?_⟩
  refine ⟨_, rfl, _, rfl, _, _, rfl, bk, ok, nm1.keep (.of s2), rfl, fun H3 s3 => ?_⟩
  have hx3 : H3 x = some (.ins CB dx []) := s3 _ _ (s2 _ _ (s1 _ _ hx))
  refine ⟨_, rfl, _, rfl, x, CB, dx, _, rfl, hx3, Z.clB, Z.nB_arities, by decide, ?_⟩
  refine ⟨_, rfl, _, rfl, x, CB, dx, _, rfl, upd_same, Z.clB, Z.nB_kinds, by show 1 < 1000; decide, ?_⟩
  refine ⟨_, rfl, _, rfl, x, CB, dx, _, rfl, upd_same, Z.clB, Z.nB_rules, by show 2 < 1000; decide, ?_⟩
  refine ⟨_, rfl, _, rfl, x, CB, dx, _, rfl, upd_same, Z.clB, Z.nB_moves, by show 3 < 1000; decide, ?_⟩
  refine q _ (fun b o hb e => ?_) upd_same
  rw [upd_ne hb, upd_ne hb, upd_ne hb, upd_ne hb]
  exact s3 _ _ (s2 _ _ (s1 _ _ e))
def sp_Web_init (P : Program) (w : World) (K : PySem.W.Frag) (CB CW : Addr) : Sp := fun vs H Q _ => ∃ v a, vs = [v, a] ∧ ∃ (x dx : Addr) (bk : Bk) (W : List Vl), v = .ref x ∧ H x = some (.ins CW dx []) ∧ bk.Ok ∧ WbOk bk W ∧ Nk H a (eWb W) ∧
  ∀ H', Made x H H' → H' x = some (.ins CW dx [("rows", a)]) → Q .non H'
abbrev n_Web_init : List Str := ["self", "values", "number", "value"]
theorem sc_Web_init : FnScope n_Web_init ["self", "values"] (defScope s_Web_init) := ⟨rfl, rfl, rfl, by decide +kernel, rfl, by decide +kernel, by decide +kernel⟩
theorem ic_Web {P : Program} {w : World} {K : PySem.W.Frag} {mg : Str → Option Value} {base : Heap} {CB CW : Addr} (Z : Fx K mg CB CW) : Ic P w K mg base CW 5 ["self", "values"] (sp_Web_init P w K CB CW) := by
  refine Ic.of (q := "Web.__init__") (st := s_Web_init) Z.mkW (N := n_Web_init) (k := 4) sc_Web_init (fun vs H Q E h => by obtain ⟨_, _, rfl, _⟩ := h; rfl) (fun _ _ _ _ _ _ us hl => match us, hl with | [_, _], _ => rfl) fun f cdv A outer s H0 E0 hr => ⟨_, (pss_cons (ps_if (PW.pt (pw_or (pt_not (pt_val (pe_callB (qisi (by exact ⟨rfl, rfl, rfl⟩ : At _ P w K)) rfl Z.f_isinstance bt_isinstance (pa_cons (pv 1) (pa_cons (pe_bltn (v := .ty "tuple") rfl Z.f_tuple bt_tuple rfl) pa_nil))))) (pw_or1 (pt_cmpR op_gt (pe_callB (qlen (by exact ⟨rfl, rfl, rfl⟩ : At _ P w K)) rfl Z.f_len bt_len (pa_cons (pv 1) pa_nil)) (C8.pe_gc rfl Z.i_MOST_VALUES) (nomark _))))) (pss_one ps_never) pss_nil) (pss_cons (ps_for PassesOwn.never rfl (qpiE (by exact ⟨rfl, rfl, rfl⟩ : At _ P w K) rfl Z.f_enumerate (pa_cons (pv 1) pa_nil)) (qpgT (n := 2) (by exact ⟨rfl, rfl, rfl⟩ : At _ P w K) rfl (pgs_cons (pg_name (i := 2) sc_Web_init.nd rfl (Or.inl rfl)) (pgs_cons (pg_name (i := 3) sc_Web_init.nd rfl (Or.inl rfl)) pgs_nil))) (pss_one (ps_if (pt_not (pt_val (pe_cl (cl_is_value (P := P) (w := w) (K := K) (base := base) Z) hr (by decide) rfl (pa_cons (pv 3) (pa_cons (pv 2) pa_nil))))) (pss_one ps_never) pss_nil))) (pss_one (qsfld (by exact ⟨rfl, rfl, rfl⟩ : At _ P w K) (pv 0) (pv 1) rfl)))), fun vs H Q E h => ?_⟩
  obtain ⟨v0, v1, rfl, h⟩ := h
  obtain ⟨x, dx, bk, W, rfl, hx, okb, ok, na, q⟩ := h
  obtain ⟨a, xs, rfl, e, r⟩ := na.tupE
  have hl : xs.length = W.length := by rw [r.length, List.length_map]
  have hn := ok.n
  refine ⟨_, rfl, _, _, _, _, true, rfl, .ty _, na.tyT, kit_ty (by decide +kernel), _, rfl, iteF ⟨_, rfl, _, _, rfl, na.lenV, _, _, rfl, rfl, _, rfl, iteN ?_ ?_⟩⟩
  · rw [List.length_map]; omega
  refine ⟨_, rfl, a, xs, rfl, .of e, ?_⟩
  refine for_it walk_enumT (fun i σ H2 => ∃ y z, σ = [some (.ref x), some (.ref a), y, z] ∧ Same H H2) ⟨none, none, rfl, sm0 _⟩ (fun i σ H2 _ ⟨y, z, _, s⟩ => .of (s _ _ e)) ?_ ?_
  · rintro i v σ H2 H3 hi ⟨y, z, rfl, s2⟩ ⟨T, u, z, rfl, nT, rfl, hu, hz⟩
    obtain rfl := Option.some.inj hu
    obtain ⟨k, hk, nz⟩ := r.get' hz
    obtain ⟨v, hv, rfl⟩ := gmap' hk
    have s3 := smT s2 (same_upd (o := .tup [.int (i : Nat), z]) nT)
    refine ⟨T, _, rfl, .of upd_same, rfl, _, _, rfl, _, _, rfl, rfl, ?_⟩
    exact ⟨_, rfl, _, rfl, _, _, rfl, bk, i, v, okb, nz.keep (.of s3), rfl, ok.ok _ _ hv, fun H4 s4 => ⟨_, rfl, iteF ⟨_, _, rfl, smT s3 s4⟩⟩⟩
  · rintro σ H2 ⟨y, z, rfl, s⟩
    refine ⟨_, rfl, _, rfl, x, CW, dx, _, rfl, s _ _ hx, Z.clW, Z.nW_rows, by decide, ?_⟩
    refine q _ (fun b o hb eb => ?_) upd_same
    rw [upd_ne hb]; exact s _ _ eb
end K19
set_option maxHeartbeats 4000000
namespace K19
open PySem PySem.Spec PyProof.Rows L2
/-! ### things and ways -/
def r0 : Rl := ⟨0, [], 0, 0⟩
def m0 : Mv := ⟨0, 0, 0⟩
def pM (b : Bk) (k i : Nat) : Bool := match b.ms[i]? with
  | some m => decide (m.to = k)
  | none => false
def pR (b : Bk) (op k i : Nat) : Bool := match b.rs[i]? with
  | some r => decide (r.op = op) && decide (r.tgt = k)
  | none => false
def mvs (b : Bk) (k n : Nat) : List Wy := ((List.range n).filter (pM b k)).map (Prod.mk false)
def rls (b : Bk) (op k n : Nat) : List Wy := ((List.range n).filter (pR b op k)).map (Prod.mk true)
def waysOp (b : Bk) (op k : Nat) : List Wy := mvs b k b.ms.length ++ rls b op k b.rs.length
def vlOf (W : List Vl) (t : Thg) : Vl := W.getD t.1 (0, [])
def waysT (b : Bk) (W : List Vl) (t : Thg) : List Wy := waysOp b (vlOf W t).1 t.2
def needsT (b : Bk) (W : List Vl) (t : Thg) (w : Wy) : List Thg := if w.1 then (vlOf W t).2.zip (b.rs.getD w.2 r0).src else [(t.1, (b.ms.getD w.2 m0).fr)]
def priceW (b : Bk) (w : Wy) : Nat := if w.1 then (b.rs.getD w.2 r0).prc else (b.ms.getD w.2 m0).prc
def usab (b : Bk) (W : List Vl) (ts : List Thg) (t : Thg) (w : Wy) : Bool := (needsT b W t w).all fun n => memB n ts
/-- a way that fits -/
structure WyOk (b : Bk) (W : List Vl) (t : Thg) (w : Wy) : Prop where
  v : t.1 < W.length
  r : w.1 = true → ∃ r, b.rs[w.2]? = some r ∧ r.src.length = (vlOf W t).2.length ∧ r.tgt = t.2 ∧ r.op = (vlOf W t).1
  m : w.1 = false → ∃ m, b.ms[w.2]? = some m ∧ m.to = t.2
theorem mvs_succ {b : Bk} {k n : Nat} : mvs b k (n + 1) = mvs b k n ++ if pM b k n = true then [(false, n)] else [] := by
  unfold mvs
  rw [List.range_succ, List.filter_append, List.map_append]
  congr 1
  by_cases h : pM b k n = true
  · rw [if_pos h, List.filter_cons_of_pos h]; rfl
  · rw [if_neg h, List.filter_cons_of_neg h]; rfl
theorem rls_succ {b : Bk} {op k n : Nat} : rls b op k (n + 1) = rls b op k n ++ if pR b op k n = true then [(true, n)] else [] := by
  unfold rls
  rw [List.range_succ, List.filter_append, List.map_append]
  congr 1
  by_cases h : pR b op k n = true
  · rw [if_pos h, List.filter_cons_of_pos h]; rfl
  · rw [if_neg h, List.filter_cons_of_neg h]; rfl
theorem mvs_len (b : Bk) (k n : Nat) : (mvs b k n).length ≤ n := by
  unfold mvs
  rw [List.length_map]
  exact Nat.le_trans (List.length_filter_le _ _) (by rw [List.length_range]; exact Nat.le_refl _)
theorem rls_len (b : Bk) (op k n : Nat) : (rls b op k n).length ≤ n := by
  unfold rls
  rw [List.length_map]
  exact Nat.le_trans (List.length_filter_le _ _) (by rw [List.length_range]; exact Nat.le_refl _)
theorem waysT_len {b : Bk} (ok : b.Ok) (W : List Vl) (t : Thg) : (waysT b W t).length ≤ 60 := by
  unfold waysT waysOp
  rw [List.length_append]
  have h1 := mvs_len b t.2 b.ms.length
  have h2 := rls_len b (vlOf W t).1 t.2 b.rs.length
  have h3 := ok.rn
  have h4 := ok.mn
  omega
theorem vl_at {W : List Vl} {t : Thg} (h : t.1 < W.length) : W[t.1]? = some (vlOf W t) := by
  unfold vlOf
  rw [List.getD_eq_getElem?_getD, List.getElem?_eq_getElem h]; rfl
theorem mem_waysT {b : Bk} {W : List Vl} {t : Thg} {w : Wy} (ok : b.Ok) (okW : WbOk b W) (ht : t.1 < W.length) (h : w ∈ waysT b W t) : WyOk b W t w := by
  unfold waysT waysOp at h
  rcases List.mem_append.mp h with h | h
  · obtain ⟨i, hi, rfl⟩ := List.mem_map.mp h
    have hp := (List.mem_filter.mp hi).2
    unfold pM at hp
    cases e : b.ms[i]? with
    | none => rw [e] at hp; cases hp
    | some m => rw [e] at hp; exact ⟨ht, (fun z => nomatch z), fun _ => ⟨m, e, of_decide_eq_true hp⟩⟩
  · obtain ⟨i, hi, rfl⟩ := List.mem_map.mp h
    have hp := (List.mem_filter.mp hi).2
    unfold pR at hp
    cases e : b.rs[i]? with
    | none => rw [e] at hp; cases hp
    | some r =>
      rw [e] at hp
      obtain ⟨h1, h2⟩ := Bool.and_eq_true_iff.mp hp
      have h1 := of_decide_eq_true h1
      have h2 := of_decide_eq_true h2
      refine ⟨ht, fun _ => ⟨r, e, ?_, h2, h1⟩, fun z => nomatch z⟩
      have a1 := (ok.ro r (List.mem_of_getElem? e)).ar
      have a2 := (okW.ok _ _ (vl_at ht)).ar
      rw [h1, a2] at a1
      exact (Option.some.inj a1).symm
theorem WyOk.price {b : Bk} {W : List Vl} {t : Thg} {w : Wy} (x : WyOk b W t w) : (if w.1 then (b.rs[w.2]?).map Rl.prc else (b.ms[w.2]?).map Mv.prc) = some (priceW b w) := by
  obtain ⟨wr, wi⟩ := w
  cases wr with
  | true => obtain ⟨r, h, _⟩ := x.r rfl; simp [priceW, h]
  | false => obtain ⟨r, h, _⟩ := x.m rfl; simp [priceW, h]
theorem WyOk.price_pos {b : Bk} {W : List Vl} {t : Thg} {w : Wy} (ok : b.Ok) (x : WyOk b W t w) : 1 ≤ priceW b w := by
  obtain ⟨wr, wi⟩ := w
  cases wr with
  | true => obtain ⟨r, h, _⟩ := x.r rfl; have := (ok.ro r (List.mem_of_getElem? h)).p1; simpa [priceW, h] using this
  | false => obtain ⟨r, h, _⟩ := x.m rfl; have := (ok.mo r (List.mem_of_getElem? h)).p1; simpa [priceW, h] using this
theorem needs_len {b : Bk} {W : List Vl} {t : Thg} {w : Wy} (ok : b.Ok) (okW : WbOk b W) (x : WyOk b W t w) : (needsT b W t w).length ≤ 2 := by
  obtain ⟨wr, wi⟩ := w
  cases wr with
  | false => exact Nat.le_succ 1
  | true =>
    show ((vlOf W t).2.zip _).length ≤ 2
    rw [List.length_zip]
    have a2 := (okW.ok _ _ (vl_at x.v)).ar
    have a3 := ok.a3 _ (List.mem_of_getElem? a2)
    omega
theorem needs_fits {b : Bk} {W : List Vl} {t : Thg} {w : Wy} (ok : b.Ok) (okW : WbOk b W) (x : WyOk b W t w) : ∀ n ∈ needsT b W t w, n.1 ≤ t.1 ∧ n.2 < b.ks ∧ (n.1 = t.1 → n.2 ≠ t.2 ∧ w.1 = false) := by
  obtain ⟨wr, wi⟩ := w
  cases wr with
  | false =>
    obtain ⟨m, h, hm⟩ := x.m rfl
    intro n hn
    have : n = (t.1, m.fr) := by simpa [needsT, h] using hn
    subst this
    have o := ok.mo m (List.mem_of_getElem? h)
    exact ⟨Nat.le_refl _, o.fr, fun _ => ⟨fun z => o.ne (z.trans hm.symm), rfl⟩⟩
  | true =>
    obtain ⟨r, h, hl, hm, _⟩ := x.r rfl
    intro n hn
    have hn : n ∈ (vlOf W t).2.zip r.src := by simpa [needsT, h] using hn
    have h1 := List.of_mem_zip hn
    have o := ok.ro r (List.mem_of_getElem? h)
    have l := (okW.ok _ _ (vl_at x.v)).lt _ h1.1
    exact ⟨Nat.le_of_lt l, o.src _ h1.2, fun z => by omega⟩
/-- a list of data -/
def LsK (H : Hp) (v : V) (ks : List NestedKey) : Prop := ∃ a xs, v = .ref a ∧ H a = some (.lst xs) ∧ NkA H xs ks
theorem LsK.same {H H' : Hp} {v : V} {ks : List NestedKey} (x : LsK H v ks) (s : Same H H') : LsK H' v ks := by
  obtain ⟨a, xs, e, h, n⟩ := x
  exact ⟨a, xs, e, s _ _ h, n.keep (.of s)⟩
theorem NkA.snoc {H : Hp} {k : NestedKey} {v : V} (h : Nk H v k) : ∀ {xs : List V} {ks : List NestedKey}, NkA H xs ks → NkA H (xs ++ [v]) (ks ++ [k])
  | _, _, .nil => .cons h .nil
  | _, _, .cons a b => .cons a (NkA.snoc h b)
theorem tyL {K : PySem.W.Frag} {H : Hp} {a : Addr} {xs : List V} (e : H a = some (.lst xs)) : tyV K "list" (.ref a) H := .inl ⟨rfl, _, .of e⟩
theorem eqvAll_refl : ∀ k : NestedKey, PyData.eqv k.data k.data = true := by
  intro k
  exact NestedKey.rec (motive_1 := fun k => PyData.eqv k.data k.data = true) (motive_2 := fun ks => PyData.eqvAll (NestedKey.datas ks) (NestedKey.datas ks) = true)
    (by rw [NestedKey.data, PyData.eqv]) (fun i => by rw [NestedKey.data, PyData.eqv]; exact beq_self_eq_true i) (fun x => by rw [NestedKey.data, PyData.eqv]; exact beq_self_eq_true x)
    (fun ks ih => by rw [NestedKey.data, PyData.eqv]; exact ih) (by rw [NestedKey.datas, PyData.eqvAll]) (fun k ks h1 h2 => by rw [NestedKey.datas, PyData.eqvAll, h1, h2]; rfl) k
end K19
set_option maxHeartbeats 4000000
namespace K19
open PySem PySem.Spec PyProof.Rows L2
def sp_ways_of_op (P : Program) (w : World) (K : PySem.W.Frag) (CB CW : Addr) : Sp := fun vs H Q _ => ∃ a b c, vs = [a, b, c] ∧ ∃ (bk : Bk) (op k : Nat), bk.Ok ∧ BkAt CB H a bk ∧ b = .int (op : Nat) ∧ c = .int (k : Nat) ∧ ∀ r H', Same H H' → LsK H' r ((waysOp bk op k).map eW) → Q r H'
abbrev n_ways_of_op : List Str := ["book", "op", "kind", "found", "number", "rule", "move"]
theorem sc_ways_of_op : FnScope n_ways_of_op ["book", "op", "kind"] (defScope s_ways_of_op) := ⟨rfl, rfl, rfl, by decide +kernel, rfl, by decide +kernel, by decide +kernel⟩
theorem cl_ways_of_op {P : Program} {w : World} {K : PySem.W.Frag} {mg : Str → Option Value} {base : Heap} {CB CW : Addr} (Z : Fx K mg CB CW) : Cl P w K mg base "ways_of_op" 1 ["book", "op", "kind"] (sp_ways_of_op P w K CB CW) := by
  refine Z.d_ways_of_op.cl (N := n_ways_of_op) (k := 0) sc_ways_of_op (fun vs H Q E h => by obtain ⟨_, _, _, rfl, _⟩ := h; rfl) (fun _ _ _ _ _ _ us hl => match us, hl with | [_, _, _], _ => rfl) fun f cdv A outer s H0 E0 hr => ⟨_, (pss_cons (ps_setLc (i := 3) (own := [("number", 4), ("move", 6)]) rfl sc_ways_of_op.nd rfl rfl (sw_true rfl rfl rfl (by decide +kernel)) (qpiE (by exact ⟨rfl, rfl, rfl⟩ : At _ P w K) rfl Z.f_enumerate (pa_cons (qfld (by exact ⟨rfl, rfl, rfl⟩ : At _ P w K) (pv 0) rfl) pa_nil)) (blkOk_by (N := n_ways_of_op) (sc := defScope s_ways_of_op) (by decide +kernel)) (fun _ _ _ _ _ => (qpgT (n := 2) (by exact ⟨rfl, rfl, rfl⟩ : At _ P w K) rfl (pgs_cons (pg_name (i := 4) sc_ways_of_op.nd rfl (by first | exact Or.inl rfl | exact Or.inr rfl)) (pgs_cons (pg_name (i := 6) sc_ways_of_op.nd rfl (by first | exact Or.inl rfl | exact Or.inr rfl)) pgs_nil)))) (fun _ _ _ _ _ => (pts_one (pt_cmpR op_eq (pe_ix (qixT (by exact ⟨rfl, rfl, rfl⟩ : At _ P w K)) (pv 6) pe_int (fun _ _ => rfl)) (pv 2) (nomark _)))) (fun _ _ _ _ _ => (pe_tup (pa_cons pe_str (pa_cons (pv 4) pa_nil))))) (pss_cons (ps_for PassesOwn.never rfl (qpiE (by exact ⟨rfl, rfl, rfl⟩ : At _ P w K) rfl Z.f_enumerate (pa_cons (qfld (by exact ⟨rfl, rfl, rfl⟩ : At _ P w K) (pv 0) rfl) pa_nil)) (qpgT (n := 2) (by exact ⟨rfl, rfl, rfl⟩ : At _ P w K) rfl (pgs_cons (pg_name (i := 4) sc_ways_of_op.nd rfl (Or.inl rfl)) (pgs_cons (pg_name (i := 5) sc_ways_of_op.nd rfl (Or.inl rfl)) pgs_nil))) (pss_one (ps_if (PW.pt (pw_and (pt_cmpR op_eq (pe_ix (qixT (by exact ⟨rfl, rfl, rfl⟩ : At _ P w K)) (pv 5) pe_int (fun _ _ => rfl)) (pv 1) (nomark _)) (pw_and1 (pt_cmpR op_eq (pe_ix (qixT (by exact ⟨rfl, rfl, rfl⟩ : At _ P w K)) (pv 5) pe_int (fun _ _ => rfl)) (pv 2) (nomark _))))) (pss_one (ps_expr (qbm (by exact ⟨rfl, rfl, rfl⟩ : At _ P w K) PySem.F.plainAttrs_list PySem.F.slot_list_append PySem.F.type_list_append mt_append (pv 3) (pa_cons (pe_tup (pa_cons pe_str (pa_cons (pv 4) pa_nil))) pa_nil)))) pss_nil))) (pss_one (ps_ret (pv 3))))), fun vs H Q E h => ?_⟩
  obtain ⟨v0, v1, v2, rfl, h⟩ := h
  obtain ⟨bk, op, k, ok, hB, rfl, rfl, q⟩ := h
  obtain ⟨a, dx, xa, xr, xm, rfl, eB, na, nr, nm⟩ := id hB
  obtain ⟨am, xs, rfl, em, rm⟩ := nm.tupE
  obtain ⟨ar, ys, rfl, er, rr⟩ := nr.tupE
  have hlm : xs.length = bk.ms.length := by rw [rm.length, List.length_map]
  have hlr : ys.length = bk.rs.length := by rw [rr.length, List.length_map]
  have hmn := ok.mn
  have hrn := ok.rn
  refine ⟨_, rfl, _, _, _, _, _, rfl, eB, Z.clB, Z.nB_moves, rfl, am, xs, rfl, .of em, ?_⟩
  refine lc_sm walk_enumT (fun i acc H2 => NkA H2 acc ((mvs bk k i).map eW)) (by rw [hlm]; exact Nat.le_trans hmn (by decide)) (fun i acc H2 H3 t r => r.keep t) (fun i acc H2 r => ?_) (fun H2 s => .of (s _ _ em)) .nil ?_ ?_
  · rw [r.length, List.length_map]; exact mvs_len _ _ _
  · rintro i v acc H2 H3 Kd Kn hi s2 r kd kn ⟨T, u, z, rfl, nT, rfl, hu, hz⟩
    obtain rfl := Option.some.inj hu
    obtain ⟨kk, hk, nz⟩ := rm.get' hz
    obtain ⟨m, hm, rfl⟩ := gmap' hk
    obtain ⟨d, rfl, ed⟩ := nz.mv
    have s3 := smT s2 (same_upd (o := .tup [.int (i : Nat), .ref d]) nT)
    refine ⟨T, _, rfl, .of upd_same, rfl, _, _, rfl, _, _, rfl, rfl, rfl, ?_⟩
    refine ⟨_, rfl, _, _, _, _, rfl, rfl, .of (s3 _ _ ed), rfl, _, rfl, rfl, _, rfl, ?_⟩
    have pm : pM bk k i = decide (m.to = k) := by unfold pM; rw [hm]
    have e : decide (V.int (m.to : Nat) = V.int (k : Nat)) = pM bk k i := by
      rw [pm]
      refine decide_eq_decide.mpr ⟨fun z => by have := V.int.inj z; omega, fun z => by rw [z]⟩
    show if decide (V.int (m.to : Nat) = V.int (k : Nat)) = true then _ else _
    rw [e]
    have sT : Same H2 (upd H2 T (.tup [.int (i : Nat), .ref d])) := same_upd nT
    by_cases hp : pM bk k i = true
    · rw [if_pos hp]
      refine ⟨_, rfl, by show 2 ≤ sizeLine; decide, fun p np => kd _ _ (smT sT (same_upd np)) ?_⟩
      rw [mvs_succ, if_pos hp, List.map_append]
      exact NkA.snoc (.ofWy (t := (false, i)) upd_same) (r.keep (.of (smT sT (same_upd np))))
    · rw [if_neg hp]
      refine kn _ sT ?_
      rw [mvs_succ, if_neg hp, List.append_nil]
      exact r.keep (.of sT)
  · intro acc H2 p s2 ep np r
    refine ⟨_, rfl, _, _, _, _, _, rfl, s2 _ _ eB, Z.clB, Z.nB_rules, rfl, ar, ys, rfl, .of (s2 _ _ er), ?_⟩
    refine for_it walk_enumT (fun i σ H3 => ∃ x y z, σ = [some (.ref a), some (.int (op : Nat)), some (.int (k : Nat)), some (.ref p), x, y, z] ∧ Same H H3 ∧ ∃ zs, H3 p = some (.lst zs) ∧ NkA H3 zs ((mvs bk k bk.ms.length ++ rls bk op k i).map eW)) ⟨none, none, none, rfl, s2, acc, ep, ?_⟩ (fun i σ H3 _ ⟨x, y, z, _, s, _⟩ => .of (s _ _ er)) ?_ ?_
    · rw [← hlm]
      have : rls bk op k 0 = [] := rfl
      rw [this, List.append_nil]; exact r
    · rintro i v σ H3 H4 hi ⟨x, y, z, rfl, s3, zs, ez, rz⟩ ⟨T, u, z, rfl, nT, rfl, hu, hz⟩
      obtain rfl := Option.some.inj hu
      obtain ⟨kk, hk, nz⟩ := rr.get' hz
      obtain ⟨rl, hr, rfl⟩ := gmap' hk
      obtain ⟨d, x2, rfl, ed, nx2⟩ := nz.rl
      have sT : Same H3 (upd H3 T (.tup [.int (i : Nat), .ref d])) := same_upd nT
      have s4 := smT s3 sT
      refine ⟨T, _, rfl, .of upd_same, rfl, _, _, rfl, _, _, rfl, rfl, ?_⟩
      refine ⟨_, rfl, _, _, _, _, rfl, rfl, .of (s4 _ _ ed), rfl, _, rfl, rfl, _, rfl, ?_⟩
      have pr : pR bk op k i = (decide (rl.op = op) && decide (rl.tgt = k)) := by unfold pR; rw [hr]
      have e1 : decide (V.int (rl.op : Nat) = V.int (op : Nat)) = decide (rl.op = op) := decide_eq_decide.mpr ⟨fun z => by have := V.int.inj z; omega, fun z => by rw [z]⟩
      have e2 : decide (V.int (rl.tgt : Nat) = V.int (k : Nat)) = decide (rl.tgt = k) := decide_eq_decide.mpr ⟨fun z => by have := V.int.inj z; omega, fun z => by rw [z]⟩
      have no : pR bk op k i = false → ∃ zs, (upd H3 T (.tup [.int (i : Nat), .ref d])) p = some (.lst zs) ∧ NkA (upd H3 T (.tup [.int (i : Nat), .ref d])) zs ((mvs bk k bk.ms.length ++ rls bk op k (i + 1)).map eW) := fun hp => by
        refine ⟨zs, sT _ _ ez, ?_⟩
        rw [rls_succ, if_neg (by rw [hp]; exact Bool.false_ne_true), List.append_nil]
        exact rz.keep (.of sT)
      show if decide (V.int (rl.op : Nat) = V.int (op : Nat)) = true then _ else _
      rw [e1]
      by_cases h1 : rl.op = op
      · rw [if_pos (decide_eq_true h1)]
        refine ⟨_, rfl, _, _, _, _, rfl, rfl, .of (s4 _ _ ed), rfl, _, rfl, rfl, _, rfl, ?_⟩
        show if decide (V.int (rl.tgt : Nat) = V.int (k : Nat)) = true then _ else _
        rw [e2]
        by_cases h2 : rl.tgt = k
        · rw [if_pos (decide_eq_true h2)]
          have hp : pR bk op k i = true := by rw [pr, decide_eq_true h1, decide_eq_true h2]; rfl
          refine ⟨_, rfl, tyL (sT _ _ ez), _, rfl, by show 2 ≤ sizeLine; decide, fun p2 np2 => ?_⟩
          have s5 := smT sT (same_upd (o := .tup [.str "rule", .int (i : Nat)]) np2)
          refine ⟨p, zs, _, rfl, rfl, s5 _ _ ez, ?_, _, _, _, rfl, smU np (smT s3 s5), _, upd_same, ?_⟩
          · rw [rz.length, List.length_map, List.length_append]
            have := mvs_len bk k bk.ms.length
            have := rls_len bk op k i
            have : i < 40 := by omega
            exact Nat.lt_of_le_of_lt (show _ ≤ 60 by omega) (by decide)
          · rw [rls_succ, if_pos hp, ← List.append_assoc, List.map_append]
            have kt : KpT (upd (upd H3 T (.tup [.int (i : Nat), .ref d])) p2 (.tup [.str "rule", .int (i : Nat)])) (upd (upd (upd H3 T (.tup [.int (i : Nat), .ref d])) p2 (.tup [.str "rule", .int (i : Nat)])) p (.lst (zs ++ [V.ref p2]))) := But.upd.kpt fun xs z => by rw [s5 _ _ ez] at z; cases z
            exact NkA.snoc (.ofWy (t := (true, i)) (kt _ _ upd_same)) ((rz.keep (.of s5)).keep kt)
        · rw [if_neg (by rw [decide_eq_false h2]; exact Bool.false_ne_true)]
          exact ⟨_, _, _, rfl, s4, no (by rw [pr, decide_eq_false h2, Bool.and_false])⟩
      · rw [if_neg (by rw [decide_eq_false h1]; exact Bool.false_ne_true)]
        exact ⟨_, _, _, rfl, s4, no (by rw [pr, decide_eq_false h1, Bool.false_and])⟩
    · rintro σ H3 ⟨x, y, z, rfl, s3, zs, ez, rz⟩
      refine ⟨_, rfl, q _ _ s3 ⟨p, zs, rfl, ez, ?_⟩⟩
      rw [hlr] at rz
      exact rz
end K19
set_option maxHeartbeats 4000000
namespace K19
open PySem PySem.Spec PyProof.Rows L2
def sp_raw_ways (P : Program) (w : World) (K : PySem.W.Frag) (CB CW : Addr) : Sp := fun vs H Q _ => ∃ a b c, vs = [a, b, c] ∧ ∃ (bk : Bk) (W : List Vl) (t : Thg), bk.Ok ∧ BkAt CB H a bk ∧ WbAt CW H b W ∧ Nk H c (eT t) ∧ t.1 < W.length ∧ ∀ r H', Same H H' → LsK H' r ((waysT bk W t).map eW) → Q r H'
abbrev n_raw_ways : List Str := ["book", "web", "thing"]
theorem sc_raw_ways : FnScope n_raw_ways ["book", "web", "thing"] (defScope s_raw_ways) := ⟨rfl, rfl, rfl, by decide +kernel, rfl, by decide +kernel, by decide +kernel⟩
theorem cl_raw_ways {P : Program} {w : World} {K : PySem.W.Frag} {mg : Str → Option Value} {base : Heap} {CB CW : Addr} (Z : Fx K mg CB CW) : Cl P w K mg base "raw_ways" 2 ["book", "web", "thing"] (sp_raw_ways P w K CB CW) := by
  refine Z.d_raw_ways.cl (N := n_raw_ways) (k := 1) sc_raw_ways (fun vs H Q E h => by obtain ⟨_, _, _, rfl, _⟩ := h; rfl) (fun _ _ _ _ _ _ us hl => match us, hl with | [_, _, _], _ => rfl) fun f cdv A outer s H0 E0 hr => ⟨_, (pss_one (ps_ret (pe_cl (cl_ways_of_op (P := P) (w := w) (K := K) (base := base) Z) hr (by decide) rfl (pa_cons (pv 0) (pa_cons (pe_ix (qixT (by exact ⟨rfl, rfl, rfl⟩ : At _ P w K)) (pe_ix (qixT (by exact ⟨rfl, rfl, rfl⟩ : At _ P w K)) (qfld (by exact ⟨rfl, rfl, rfl⟩ : At _ P w K) (pv 1) rfl) (pe_ix (qixT (by exact ⟨rfl, rfl, rfl⟩ : At _ P w K)) (pv 2) pe_int (fun _ _ => rfl)) (fun _ _ => rfl)) pe_int (fun _ _ => rfl)) (pa_cons (pe_ix (qixT (by exact ⟨rfl, rfl, rfl⟩ : At _ P w K)) (pv 2) pe_int (fun _ _ => rfl)) pa_nil)))))), fun vs H Q E h => ?_⟩
  obtain ⟨v0, v1, v2, rfl, h⟩ := h
  obtain ⟨bk, W, t, ok, hB, hW, nt, lt, q⟩ := h
  obtain ⟨a, dx, xr, rfl, eW', nr⟩ := id hW
  obtain ⟨b, xs, rfl, e, r⟩ := nr.tupE
  obtain ⟨u, h1, h2⟩ := r.get (gmap (vl_at lt))
  obtain ⟨d, x, rfl, ed, nx⟩ := h2.vl
  obtain ⟨c, rfl, ec⟩ := nt.th
  exact ⟨_, rfl, _, rfl, _, _, _, _, _, rfl, eW', Z.clW, Z.nW_rows, rfl, _, rfl, _, _, _, _, rfl, rfl, .of ec, rfl, _, _, _, _, rfl, rfl, .of e, atI_nat h1, _, _, _, _, rfl, rfl, .of ed, rfl, _, rfl, _, _, _, _, rfl, rfl, .of ec, rfl,
    _, _, _, rfl, bk, _, _, ok, hB, rfl, rfl, q⟩
theorem nk_zip {H : Hp} : ∀ {l1 l2 : List Nat} {ts : List Addr}, Paired (fun t (p : V × V) => H t = some (.tup [p.1, p.2])) ts ((l1.map fun n : Nat => V.int n).zip (l2.map fun n : Nat => V.int n)) → NkA H (ts.map V.ref) ((l1.zip l2).map eT)
  | [], _, ts, h => by
    rw [List.map_nil, List.zip_nil_left] at h
    cases h; exact .nil
  | _ :: _, [], ts, h => by
    rw [List.map_nil, List.zip_nil_right] at h
    cases h; exact .nil
  | n :: l1, m :: l2, ts, h => by
    rw [List.map_cons, List.map_cons, List.zip_cons_cons] at h
    cases h with
    | cons a b => exact .cons (.ofTh (t := (n, m)) a) (nk_zip b)
def sp_needs_in_order (P : Program) (w : World) (K : PySem.W.Frag) (CB CW : Addr) : Sp := fun vs H Q _ => ∃ a b c d, vs = [a, b, c, d] ∧ ∃ (bk : Bk) (W : List Vl) (t : Thg) (y : Wy), BkAt CB H a bk ∧ WbAt CW H b W ∧ Nk H c (eT t) ∧ Nk H d (eW y) ∧ WyOk bk W t y ∧ ∀ r H', Same H H' → LsK H' r ((needsT bk W t y).map eT) → Q r H'
abbrev n_needs_in_order : List Str := ["book", "web", "thing", "way"]
theorem sc_needs_in_order : FnScope n_needs_in_order ["book", "web", "thing", "way"] (defScope s_needs_in_order) := ⟨rfl, rfl, rfl, by decide +kernel, rfl, by decide +kernel, by decide +kernel⟩
theorem cl_needs_in_order {P : Program} {w : World} {K : PySem.W.Frag} {mg : Str → Option Value} {base : Heap} {CB CW : Addr} (Z : Fx K mg CB CW) : Cl P w K mg base "needs_in_order" 1 ["book", "web", "thing", "way"] (sp_needs_in_order P w K CB CW) := by
  refine Z.d_needs_in_order.cl (N := n_needs_in_order) (k := 0) sc_needs_in_order (fun vs H Q E h => by obtain ⟨_, _, _, _, rfl, _⟩ := h; rfl) (fun _ _ _ _ _ _ us hl => match us, hl with | [_, _, _, _], _ => rfl) fun f cdv A outer s H0 E0 hr => ⟨_, (pss_cons (ps_if (pt_cmpR op_eq (pe_ix (qixT (by exact ⟨rfl, rfl, rfl⟩ : At _ P w K)) (pv 3) pe_int (fun _ _ => rfl)) pe_str (nomark _)) (pss_one (ps_ret (pe_lst (pa_cons (pe_tup (pa_cons (pe_ix (qixT (by exact ⟨rfl, rfl, rfl⟩ : At _ P w K)) (pv 2) pe_int (fun _ _ => rfl)) (pa_cons (pe_ix (qixT (by exact ⟨rfl, rfl, rfl⟩ : At _ P w K)) (pe_ix (qixT (by exact ⟨rfl, rfl, rfl⟩ : At _ P w K)) (qfld (by exact ⟨rfl, rfl, rfl⟩ : At _ P w K) (pv 0) rfl) (pe_ix (qixT (by exact ⟨rfl, rfl, rfl⟩ : At _ P w K)) (pv 3) pe_int (fun _ _ => rfl)) (fun _ _ => rfl)) pe_int (fun _ _ => rfl)) pa_nil))) pa_nil)))) pss_nil) (pss_one (ps_ret (qlzip (by exact ⟨rfl, rfl, rfl⟩ : At _ P w K) rfl rfl Z.f_list rfl Z.f_zip (pa_cons (pe_ix (qixT (by exact ⟨rfl, rfl, rfl⟩ : At _ P w K)) (pe_ix (qixT (by exact ⟨rfl, rfl, rfl⟩ : At _ P w K)) (qfld (by exact ⟨rfl, rfl, rfl⟩ : At _ P w K) (pv 1) rfl) (pe_ix (qixT (by exact ⟨rfl, rfl, rfl⟩ : At _ P w K)) (pv 2) pe_int (fun _ _ => rfl)) (fun _ _ => rfl)) pe_int (fun _ _ => rfl)) (pa_cons (pe_ix (qixT (by exact ⟨rfl, rfl, rfl⟩ : At _ P w K)) (pe_ix (qixT (by exact ⟨rfl, rfl, rfl⟩ : At _ P w K)) (qfld (by exact ⟨rfl, rfl, rfl⟩ : At _ P w K) (pv 0) rfl) (pe_ix (qixT (by exact ⟨rfl, rfl, rfl⟩ : At _ P w K)) (pv 3) pe_int (fun _ _ => rfl)) (fun _ _ => rfl)) pe_int (fun _ _ => rfl)) pa_nil)))))), fun vs H Q E h => ?_⟩
  obtain ⟨v0, v1, v2, v3, rfl, h⟩ := h
  obtain ⟨bk, W, t, ⟨yr, yi⟩, hB, hW, nt, ny, ok, q⟩ := h
  obtain ⟨a, dx, xr, rfl, eW', nr⟩ := id hW
  obtain ⟨b, xs, rfl, e, r⟩ := nr.tupE
  obtain ⟨u, h1, h2⟩ := r.get (gmap (vl_at ok.v))
  obtain ⟨d, x, rfl, ed, nx⟩ := h2.vl
  obtain ⟨c, rfl, ec⟩ := nt.th
  obtain ⟨p, rfl, ep⟩ := ny.wy
  obtain ⟨o, dy, xa, xq, xm, rfl, eB, na, nq, nm⟩ := id hB
  obtain ⟨am, ys, rfl, em, rm⟩ := nm.tupE
  obtain ⟨ar, zs, rfl, er, rr⟩ := nq.tupE
  obtain ⟨xv, rfl, exv⟩ := nx.nums
  cases yr with
  | false =>
    obtain ⟨m, hm, _⟩ := ok.m rfl
    obtain ⟨u, g1, g2⟩ := rm.get (gmap hm)
    obtain ⟨dm, rfl, edm⟩ := g2.mv
    refine ⟨_, rfl, _, _, _, _, rfl, rfl, .of ep, rfl, rfl, _, rfl, iteD rfl ⟨_, rfl, _, _, _, _, rfl, rfl, .of ec, rfl, _, rfl, _, _, _, _, _, rfl, eB, Z.clB, Z.nB_moves, rfl, _, rfl, _, _, _, _, rfl, rfl, .of ep, rfl, _, _, _, _, rfl, rfl, .of em, atI_nat g1, _, _, _, _, rfl, rfl, .of edm, rfl, by show 2 ≤ sizeLine; decide, fun p1 np1 => ⟨by show 1 ≤ sizeLine; decide, fun p2 np2 => q _ _ (smT (same_upd np1) (same_upd np2)) ⟨p2, _, rfl, upd_same, ?_⟩⟩⟩⟩
    have : needsT bk W t (false, yi) = [(t.1, m.fr)] := by simp [needsT, hm]
    rw [this]
    exact .cons (.ofTh (t := (t.1, m.fr)) (same_upd np2 _ _ upd_same)) .nil
  | true =>
    obtain ⟨rl, hr, hl, _⟩ := ok.r rfl
    obtain ⟨u, g1, g2⟩ := rr.get (gmap hr)
    obtain ⟨dm, x2, rfl, edm, nx2⟩ := g2.rl
    obtain ⟨xs2, rfl, exs⟩ := nx2.nums
    refine ⟨_, rfl, _, _, _, _, rfl, rfl, .of ep, rfl, rfl, _, rfl, iteN wne2 ⟨_, rfl, _, _, _, _, _, rfl, eW', Z.clW, Z.nW_rows, rfl, _, rfl, _, _, _, _, rfl, rfl, .of ec, rfl, _, _, _, _, rfl, rfl, .of e, atI_nat h1, _, _, _, _, rfl, rfl, .of ed, rfl, _, rfl, _, _, _, _, _, rfl, eB, Z.clB, Z.nB_rules, rfl, _, rfl, _, _, _, _, rfl, rfl, .of ep, rfl, _, _, _, _, rfl, rfl, .of er, atI_nat g1, _, _, _, _, rfl, rfl, .of edm, rfl, _, _, _, _, rfl, rfl, .of exv, .of exs, ?_, fun H3 l ts s3 nl el pt => q _ _ s3 ⟨l, _, rfl, el, ?_⟩⟩⟩
    · rw [List.length_map, List.length_map]; exact hl.symm
    · have : needsT bk W t (true, yi) = (vlOf W t).2.zip rl.src := by simp [needsT, hr]
      rw [this]
      exact nk_zip pt
/-- things in a list, by their addresses -/
theorem nk_things {H : Hp} : ∀ {xs : List V} {ns : List Thg}, NkA H xs (ns.map eT) → ∃ ps : List (Addr × Thg), xs = ps.map (fun p => V.ref p.1) ∧ ns = ps.map (·.2) ∧ ∀ p ∈ ps, H p.1 = some (.tup [.int (p.2.1 : Nat), .int (p.2.2 : Nat)])
  | _, [], .nil => ⟨[], rfl, rfl, fun _ h => by cases h⟩
  | _, n :: ns, .cons a b => by
    obtain ⟨ps, h1, h2, h3⟩ := nk_things b
    obtain ⟨c, rfl, ec⟩ := a.th
    refine ⟨(c, n) :: ps, by rw [List.map_cons, h1], by rw [List.map_cons, ← h2], fun p hp => ?_⟩
    rcases List.mem_cons.mp hp with rfl | hp
    · exact ec
    · exact h3 p hp
theorem nk_back {H : Hp} {ns : List Thg} : ∀ {L : List (Addr × List Int)}, (∀ q ∈ L, ∃ n ∈ ns, q.2 = [(n.1 : Int), (n.2 : Int)] ∧ H q.1 = some (.tup [.int (n.1 : Nat), .int (n.2 : Nat)])) →
    ∃ l : List Thg, L.map (·.2) = l.map (fun n => [(n.1 : Int), (n.2 : Int)]) ∧ NkA H (L.map fun q => V.ref q.1) (l.map eT) ∧ ∀ n ∈ l, n ∈ ns
  | [], _ => ⟨[], rfl, .nil, fun _ h => by cases h⟩
  | q :: L, h => by
    obtain ⟨l, h1, h2, h3⟩ := nk_back (L := L) fun q hq => h q (List.mem_cons_of_mem _ hq)
    obtain ⟨n, hn, e1, e2⟩ := h q (List.mem_cons_self ..)
    refine ⟨n :: l, by rw [List.map_cons, List.map_cons, h1, e1], .cons (.ofTh e2) h2, fun m hm => ?_⟩
    rcases List.mem_cons.mp hm with rfl | hm
    · exact hn
    · exact h3 m hm
/-- a lot: a tuple of unlike things, the same as in a list -/
def LotK (H : Hp) (v : V) (ns : List Thg) : Prop := ∃ l : List Thg, l.Nodup ∧ (∀ n, n ∈ l ↔ n ∈ ns) ∧ Nk H v (.tup (l.map eT))
def sp_raw_needs (P : Program) (w : World) (K : PySem.W.Frag) (CB CW : Addr) : Sp := fun vs H Q _ => ∃ a b c d, vs = [a, b, c, d] ∧ ∃ (bk : Bk) (W : List Vl) (t : Thg) (y : Wy), bk.Ok ∧ WbOk bk W ∧ BkAt CB H a bk ∧ WbAt CW H b W ∧ Nk H c (eT t) ∧ Nk H d (eW y) ∧ WyOk bk W t y ∧ ∀ r H', Same H H' → LotK H' r (needsT bk W t y) → Q r H'
abbrev n_raw_needs : List Str := ["book", "web", "thing", "way"]
theorem sc_raw_needs : FnScope n_raw_needs ["book", "web", "thing", "way"] (defScope s_raw_needs) := ⟨rfl, rfl, rfl, by decide +kernel, rfl, by decide +kernel, by decide +kernel⟩
theorem cl_raw_needs {P : Program} {w : World} {K : PySem.W.Frag} {mg : Str → Option Value} {base : Heap} {CB CW : Addr} (Z : Fx K mg CB CW) : Cl P w K mg base "raw_needs" 2 ["book", "web", "thing", "way"] (sp_raw_needs P w K CB CW) := by
  refine Z.d_raw_needs.cl (N := n_raw_needs) (k := 1) sc_raw_needs (fun vs H Q E h => by obtain ⟨_, _, _, _, rfl, _⟩ := h; rfl) (fun _ _ _ _ _ _ us hl => match us, hl with | [_, _, _, _], _ => rfl) fun f cdv A outer s H0 E0 hr => ⟨_, (pss_one (ps_ret (pe_callTy (qtup (by exact ⟨rfl, rfl, rfl⟩ : At _ P w K)) rfl Z.f_tuple bt_tuple (pa_cons (pe_callB (qsorT (by exact ⟨rfl, rfl, rfl⟩ : At _ P w K) rfl) rfl Z.f_sorted bt_sorted (pa_cons (pe_callTy (qset (by exact ⟨rfl, rfl, rfl⟩ : At _ P w K) rfl hr.units) rfl Z.f_set bt_set (pa_cons (pe_cl (cl_needs_in_order (P := P) (w := w) (K := K) (base := base) Z) hr (by decide) rfl (pa_cons (pv 0) (pa_cons (pv 1) (pa_cons (pv 2) (pa_cons (pv 3) pa_nil))))) pa_nil)) pa_nil)) pa_nil)))), fun vs H Q E h => ?_⟩
  obtain ⟨v0, v1, v2, v3, rfl, h⟩ := h
  obtain ⟨bk, W, t, y, okb, okW, hB, hW, nt, ny, ok, q⟩ := h
  refine ⟨_, rfl, _, rfl, _, rfl, _, rfl, _, _, _, _, rfl, bk, W, t, y, hB, hW, nt, ny, ok, fun r H1 s1 hl => ?_⟩
  obtain ⟨l, xs, rfl, el, nl⟩ := hl
  obtain ⟨ps, rfl, e2, e3⟩ := nk_things nl
  have hl2 := needs_len okb okW ok
  have hpl : ps.length ≤ 2 := by rw [e2, List.length_map] at hl2; exact hl2
  have fit := needs_fits okb okW ok
  refine ⟨l, ps.map (fun p => (p.1, [(p.2.1 : Int), (p.2.2 : Int)])), rfl, .of (by rw [el, List.map_map]; rfl), ?_, by rw [List.length_map]; omega, fun a L na hL1 hL2 => ?_⟩
  · intro z hz
    obtain ⟨p, hp, rfl⟩ := List.mem_map.mp hz
    exact .of (e3 p hp)
  have sa : Same H1 (upd H1 a (SetTO P w a L)) := same_upd na
  have inL : ∀ z ∈ L, ∃ n ∈ needsT bk W t y, z.2 = [(n.1 : Int), (n.2 : Int)] ∧ H1 z.1 = some (.tup [.int (n.1 : Nat), .int (n.2 : Nat)]) := fun z hz => by
    obtain ⟨p, hp, rfl⟩ := List.mem_map.mp (hL1 z hz)
    exact ⟨p.2, by rw [e2]; exact List.mem_map_of_mem hp, rfl, e3 p hp⟩
  refine ⟨a, L, 2, 9, rfl, upd_same, fun z hz => ?_, by decide, fun z hz => ?_, fun L' p hperm hnd hlt hpw np => ?_⟩
  · obtain ⟨n, hn, h1, h2⟩ := inL z hz
    rw [h1]
    exact .of (sa _ _ h2)
  · obtain ⟨n, hn, h1, h2⟩ := inL z hz
    obtain ⟨f1, f2, _⟩ := fit n hn
    have := okb.k2
    have := okW.n
    have := ok.v
    rw [h1]
    refine ⟨rfl, fun m hm => ?_⟩
    rcases List.mem_cons.mp hm with rfl | hm
    · omega
    · rcases List.mem_cons.mp hm with rfl | hm
      · omega
      · cases hm
  obtain ⟨l2, g1, g2, g3⟩ := nk_back (L := L') fun z hz => inL z (hperm.mem_iff.mp hz)
  have sp : Same (upd H1 a (SetTO P w a L)) (upd (upd H1 a (SetTO P w a L)) p (.lst (L'.map fun q => V.ref q.1))) := same_upd np
  refine ⟨p, _, rfl, .inl ⟨.of upd_same, fun z nz => q _ _ (smT (smT (smT s1 sa) sp) (same_upd nz)) ⟨l2, ?_, fun n => ⟨fun h => g3 n h, fun h => ?_⟩, .tup upd_same (g2.keep (.of (smT (smT sa sp) (same_upd nz))))⟩⟩⟩
  · rw [g1] at hnd
    exact List.Pairwise.of_map _ (fun a b h z => h (by rw [z])) hnd
  · rw [e2] at h
    obtain ⟨pp, hp, rfl⟩ := List.mem_map.mp h
    have h1 := hL2 _ (List.mem_map_of_mem (f := fun p : Addr × Thg => (p.1, [(p.2.1 : Int), (p.2.2 : Int)])) hp)
    have h2 : [(pp.2.1 : Int), (pp.2.2 : Int)] ∈ L'.map (·.2) := (hperm.map _).mem_iff.mpr h1
    rw [g1] at h2
    obtain ⟨m, hm, e⟩ := List.mem_map.mp h2
    have : m = pp.2 := by
      injection e with e1 e
      injection e with e2 e
      exact Prod.ext (by omega) (by omega)
    rw [← this]; exact hm
end K19
set_option maxHeartbeats 4000000
namespace K19
open PySem PySem.Spec PyProof.Rows L2
theorem lay_T (t : Thg) : (eT t).data.canLay0 = true ∧ (eT t).data.depth ≤ 8 := by
  simp [NestedKey.data, NestedKey.datas, PyData.canLay0, PyData.canLayAll0, PyData.depth, PyData.depthAll]
theorem lay_W (t : Wy) : (eW t).data.canLay0 = true ∧ (eW t).data.depth ≤ 8 := by
  obtain ⟨a, b⟩ := t
  have h1 : PyData.strOk (wS a) = true := by cases a <;> decide +kernel
  have h1 : PyData.canLay0 (.str (wS a)) = true := by rw [PyData.canLay0]; exact h1
  constructor
  · show PyData.canLay0 (NestedKey.data (.tup [.text (wS a), kI b])) = true
    rw [NestedKey.data, NestedKey.datas, NestedKey.datas, NestedKey.datas, NestedKey.data, NestedKey.data, PyData.canLay0, PyData.canLayAll0, PyData.canLayAll0, PyData.canLayAll0, h1, PyData.canLay0]
    rfl
  · simp [NestedKey.data, NestedKey.datas, PyData.depth, PyData.depthAll]
theorem shp1 {d : PyData} (h : d.canLay0 = true ∧ d.depth ≤ 8) : SeqAt.shaped d = true := by
  unfold SeqAt.shaped
  rw [h.1, decide_eq_true (Nat.le_trans h.2 (by decide))]; rfl
theorem shp_list {ks : List NestedKey} (h : ∀ k ∈ ks, k.data.canLay0 = true ∧ k.data.depth ≤ 8) : SeqAt.shaped (.list (NestedKey.datas ks)) = true := by
  have h1 : ∀ {ks : List NestedKey}, (∀ k ∈ ks, k.data.canLay0 = true ∧ k.data.depth ≤ 8) → PyData.canLayAll0 (NestedKey.datas ks) = true ∧ PyData.depthAll (NestedKey.datas ks) ≤ 8 := by
    intro ks
    induction ks with
    | nil => intro _; rw [NestedKey.datas, PyData.canLayAll0, PyData.depthAll]; exact ⟨rfl, by decide⟩
    | cons k ks ih =>
      intro h
      obtain ⟨a, b⟩ := h k (List.mem_cons_self ..)
      obtain ⟨c, d⟩ := ih fun x hx => h x (List.mem_cons_of_mem _ hx)
      rw [NestedKey.datas, PyData.canLayAll0, PyData.depthAll, a, c]
      exact ⟨rfl, by omega⟩
  obtain ⟨a, b⟩ := h1 h
  unfold SeqAt.shaped
  rw [PyData.canLay0, a, PyData.depth, decide_eq_true (by omega)]; rfl
theorem LsK.dp {K : PySem.W.Frag} {H : Hp} {v : V} {ks : List NestedKey} (x : LsK H v ks) : Dp K H v (.list (NestedKey.datas ks)) := by
  obtain ⟨a, xs, rfl, e, n⟩ := x
  exact .lst (.of e) n.dp
theorem any_eqv {ks : List NestedKey} {k : NestedKey} (h : k ∈ ks) : (NestedKey.datas ks).any (fun z => PyData.eqv z k.data) = true := by
  induction ks with
  | nil => cases h
  | cons x ks ih =>
    rw [NestedKey.datas, List.any_cons]
    rcases List.mem_cons.mp h with rfl | h
    · rw [eqvAll_refl]; rfl
    · rw [ih h, Bool.or_true]
theorem eqv_T (a b : Thg) : PyData.eqv (eT a).data (eT b).data = decide (a = b) := by
  obtain ⟨a1, a2⟩ := a
  obtain ⟨b1, b2⟩ := b
  simp only [NestedKey.data, NestedKey.datas, PyData.eqv, PyData.eqvAll, Bool.and_true]
  rw [Bool.eq_iff_iff, Bool.and_eq_true, beq_iff_eq, beq_iff_eq, decide_eq_true_iff, Prod.mk.injEq]
  omega
def sp_is_giving (P : Program) (w : World) (K : PySem.W.Frag) (CB CW : Addr) : Sp := fun vs H Q _ => ∃ a b c d, vs = [a, b, c, d] ∧ ∃ (bk : Bk) (W : List Vl) (t : Thg) (y : Wy), bk.Ok ∧ BkAt CB H a bk ∧ WbAt CW H b W ∧ Nk H c (eT t) ∧ Nk H d (eW y) ∧ t.1 < W.length ∧ y ∈ waysT bk W t ∧ ∀ H', Same H H' → Q (.bl true) H'
abbrev n_is_giving : List Str := ["book", "web", "thing", "way"]
theorem sc_is_giving : FnScope n_is_giving ["book", "web", "thing", "way"] (defScope s_is_giving) := ⟨rfl, rfl, rfl, by decide +kernel, rfl, by decide +kernel, by decide +kernel⟩
theorem cl_is_giving {P : Program} {w : World} {K : PySem.W.Frag} {mg : Str → Option Value} {base : Heap} {CB CW : Addr} (Z : Fx K mg CB CW) : Cl P w K mg base "is_giving" 3 ["book", "web", "thing", "way"] (sp_is_giving P w K CB CW) := by
  refine Z.d_is_giving.cl (N := n_is_giving) (k := 2) sc_is_giving (fun vs H Q E h => by obtain ⟨_, _, _, _, rfl, _⟩ := h; rfl) (fun _ _ _ _ _ _ us hl => match us, hl with | [_, _, _, _], _ => rfl) fun f cdv A outer s H0 E0 hr => ⟨_, (pss_cons (ps_if (PW.pt (pw_or (pt_not (pt_val (pe_callB (qisi (by exact ⟨rfl, rfl, rfl⟩ : At _ P w K)) rfl Z.f_isinstance bt_isinstance (pa_cons (pv 3) (pa_cons (pe_bltn (v := .ty "tuple") rfl Z.f_tuple bt_tuple rfl) pa_nil))))) (pw_or (pt_cmpR op_ne (pe_callB (qlen (by exact ⟨rfl, rfl, rfl⟩ : At _ P w K)) rfl Z.f_len bt_len (pa_cons (pv 3) pa_nil)) pe_int (nomark _)) (pw_or (pt_not (pt_val (pe_callB (qisi (by exact ⟨rfl, rfl, rfl⟩ : At _ P w K)) rfl Z.f_isinstance bt_isinstance (pa_cons (pe_ix (qixT (by exact ⟨rfl, rfl, rfl⟩ : At _ P w K)) (pv 3) pe_int (fun _ _ => rfl)) (pa_cons (pe_bltn (v := .ty "str") rfl Z.f_str bt_str rfl) pa_nil))))) (pw_or1 (pt_val (pe_callB (qisi (by exact ⟨rfl, rfl, rfl⟩ : At _ P w K)) rfl Z.f_isinstance bt_isinstance (pa_cons (pe_ix (qixT (by exact ⟨rfl, rfl, rfl⟩ : At _ P w K)) (pv 3) pe_int (fun _ _ => rfl)) (pa_cons (pe_bltn (v := .ty "bool") rfl Z.f_bool bt_bool rfl) pa_nil))))))))) (pss_one (ps_ret pe_bl)) pss_nil) (pss_one (ps_ret (pe_and (pe_callB (qisi (by exact ⟨rfl, rfl, rfl⟩ : At _ P w K)) rfl Z.f_isinstance bt_isinstance (pa_cons (pe_ix (qixT (by exact ⟨rfl, rfl, rfl⟩ : At _ P w K)) (pv 3) pe_int (fun _ _ => rfl)) (pa_cons (pe_bltn (v := .ty "int") rfl Z.f_int bt_int rfl) pa_nil))) (pe_one (pe_cmpR (qinD (by exact ⟨rfl, rfl, rfl⟩ : At _ P w K) (ru65 hr)) (pv 3) (pe_cl (cl_raw_ways (P := P) (w := w) (K := K) (base := base) Z) hr (by decide) rfl (pa_cons (pv 0) (pa_cons (pv 1) (pa_cons (pv 2) pa_nil)))) rfl)))))), fun vs H Q E h => ?_⟩
  obtain ⟨v0, v1, v2, v3, rfl, h⟩ := h
  obtain ⟨bk, W, t, y, ok, hB, hW, nt, ny, lt, hy, q⟩ := h
  obtain ⟨b, rfl, eb⟩ := ny.wy
  refine ⟨_, rfl, _, _, _, _, true, rfl, .ty _, ny.tyT, kit_ty (by decide +kernel), _, rfl, iteF ⟨_, rfl, _, _, rfl, ny.lenV, rfl, _, rfl, iteND rfl ?_⟩⟩
  refine ⟨_, rfl, _, _, _, _, rfl, rfl, .of eb, rfl, _, _, _, _, true, rfl, .ty _, .base (.str _), kit_ty (by decide +kernel), _, rfl, iteF ?_⟩
  refine ⟨_, rfl, _, _, _, _, rfl, rfl, .of eb, rfl, _, _, _, _, false, rfl, .ty _, .base (.int _), kit_ty (by decide +kernel), _, rfl, iteF ?_⟩
  refine ⟨_, rfl, _, _, _, _, rfl, rfl, .of eb, rfl, _, _, _, _, true, rfl, .ty _, .base (.int _), kit_ty (by decide +kernel), _, rfl, iteT ?_⟩
  refine ⟨_, rfl, _, rfl, _, rfl, _, rfl, _, _, _, rfl, bk, W, t, ok, hB, hW, nt, lt, fun r H1 s1 hl => ?_⟩
  refine ⟨(eW y).data, _, (ny.keep (.of s1)).dp, hl.dp, shp1 (lay_W y), shp_list fun k hk => ?_, qT (any_eqv (List.mem_map_of_mem hy)) (q _ s1)⟩
  obtain ⟨z, _, rfl⟩ := List.mem_map.mp hk
  exact lay_W z
def sp_is_usable (P : Program) (w : World) (K : PySem.W.Frag) (CB CW : Addr) : Sp := fun vs H Q _ => ∃ a b c d e, vs = [a, b, c, d, e] ∧ ∃ (bk : Bk) (W : List Vl) (t : Thg) (y : Wy) (p : Addr) (ts : List Thg) (g : Thg → V), bk.Ok ∧ WbOk bk W ∧ BkAt CB H a bk ∧ WbAt CW H b W ∧ Nk H c (eT t) ∧ Nk H d (eW y) ∧ WyOk bk W t y ∧ e = .ref p ∧ DM P w H p eT ts g ∧
  ∀ H', Same H H' → Q (.bl (usab bk W ts t y)) H'
theorem getI {α : Type} {l : List α} {i : Nat} (h : i < l.length) : l[i]? = some l[i] := List.getElem?_eq_getElem h
theorem all_at {α : Type} (l : List α) (p : α → Bool) (d : α) : ((List.range l.length).map fun i => p (l.getD i d)).all id = l.all p := by
  rw [Bool.eq_iff_iff, List.all_eq_true, List.all_eq_true]
  constructor
  · intro h x hx
    obtain ⟨i, hi⟩ := List.getElem?_of_mem hx
    have := h (p (l.getD i d)) (List.mem_map_of_mem (f := fun i => p (l.getD i d)) (List.mem_range.mpr (List.getElem?_eq_some_iff.mp hi).1))
    rw [List.getD_eq_getElem?_getD, hi] at this; exact this
  · intro h x hx
    obtain ⟨i, hi, rfl⟩ := List.mem_map.mp hx
    have hi := List.mem_range.mp hi
    rw [List.getD_eq_getElem?_getD, getI hi]
    exact h _ (List.getElem_mem hi)
abbrev n_is_usable : List Str := ["book", "web", "thing", "way", "found", "need"]
theorem sc_is_usable : FnScope n_is_usable ["book", "web", "thing", "way", "found"] (defScope s_is_usable) := ⟨rfl, rfl, rfl, by decide +kernel, rfl, by decide +kernel, by decide +kernel⟩
theorem cl_is_usable {P : Program} {w : World} {K : PySem.W.Frag} {mg : Str → Option Value} {base : Heap} {CB CW : Addr} (Z : Fx K mg CB CW) : Cl P w K mg base "is_usable" 2 ["book", "web", "thing", "way", "found"] (sp_is_usable P w K CB CW) := by
  refine Z.d_is_usable.cl (N := n_is_usable) (k := 1) sc_is_usable (fun vs H Q E h => by obtain ⟨_, _, _, _, _, rfl, _⟩ := h; rfl) (fun _ _ _ _ _ _ us hl => match us, hl with | [_, _, _, _, _], _ => rfl) fun f cdv A outer s H0 E0 hr => ⟨_, (pss_one (ps_ret (pe_callB (qall (by exact ⟨rfl, rfl, rfl⟩ : At _ P w K) rfl) rfl Z.f_all bt_all (pa_cons (pe_lc (own := [("need", 5)]) rfl sc_is_usable.nd (qpiL (by exact ⟨rfl, rfl, rfl⟩ : At _ P w K) (pe_cl (cl_needs_in_order (P := P) (w := w) (K := K) (base := base) Z) hr (by decide) rfl (pa_cons (pv 0) (pa_cons (pv 1) (pa_cons (pv 2) (pa_cons (pv 3) pa_nil)))))) (blkOk_by (N := n_is_usable) (sc := defScope s_is_usable) (by decide +kernel)) (fun _ _ _ _ _ => (pg_name (i := 5) sc_is_usable.nd rfl (by first | exact Or.inl rfl | exact Or.inr rfl))) (fun _ _ _ _ _ => pts_nil) (fun _ _ _ _ _ => (pe_cmp (qnin (by exact ⟨rfl, rfl, rfl⟩ : At _ P w K) hr.units (pv 5) (pv 4)) rfl))) pa_nil)))), fun vs H Q E h => ?_⟩
  obtain ⟨v0, v1, v2, v3, v4, rfl, h⟩ := h
  obtain ⟨bk, W, t, y, p, ts, g, okb, okW, hB, hW, nt, ny, ok, rfl, d, q⟩ := h
  refine ⟨_, rfl, _, rfl, _, rfl, _, rfl, _, _, _, _, rfl, bk, W, t, y, hB, hW, nt, ny, ok, fun r H1 s1 hl => ?_⟩
  obtain ⟨l, xs, rfl, el, nl⟩ := hl
  have hlen : xs.length = (needsT bk W t y).length := by rw [nl.length, List.length_map]
  have hl2 := needs_len okb okW ok
  refine ⟨l, rfl, ⟨_, .of el⟩, ?_⟩
  refine lc_sm walk_list (RAll fun i => .bl (memB ((needsT bk W t y).getD i (0, 0)) ts)) (by rw [hlen]; exact Nat.le_trans hl2 (by decide)) (fun _ _ _ _ _ r => r) (fun _ _ _ r => r.len) (fun H2 s => .of (s _ _ el)) rfl ?_ ?_
  · rintro i x acc H2 H3 Kd Kn hi s r kd kn ⟨rfl, hx⟩
    obtain ⟨k, hk, nx⟩ := nl.get' hx
    obtain ⟨n, hn, rfl⟩ := gmap' hk
    refine ⟨rfl, yes ⟨_, rfl, _, rfl, p, _, rfl, (d.same (smT s1 s)).nget encT (nx.keep (.of s)), ?_⟩⟩
    rw [ifSome]
    refine kd _ _ (sm0 _) ?_
    have e : (needsT bk W t y).getD i (0, 0) = n := by rw [List.getD_eq_getElem?_getD, hn]; rfl
    have := RAll.step (f := fun i => V.bl (memB ((needsT bk W t y).getD i (0, 0)) ts)) (H' := H3) r
    rw [← e]; exact this
  · intro acc H2 p2 s ep np r
    refine ⟨p2, _, rfl, .of (by rw [ep, r.bl]), ?_⟩
    rw [hlen, all_at (needsT bk W t y) (fun n => memB n ts)]
    exact q _ (smT s1 s)
def sp_is_pair (P : Program) (w : World) (K : PySem.W.Frag) (CB CW : Addr) : Sp := fun vs H Q _ => ∃ a, vs = [a] ∧ ∃ t : Thg, Nk H a (eT t) ∧ ∀ H', Same H H' → Q (.bl true) H'
abbrev n_is_pair : List Str := ["thing", "item"]
theorem sc_is_pair : FnScope n_is_pair ["thing"] (defScope s_is_pair) := ⟨rfl, rfl, rfl, by decide +kernel, rfl, by decide +kernel, by decide +kernel⟩
theorem cl_is_pair {P : Program} {w : World} {K : PySem.W.Frag} {mg : Str → Option Value} {base : Heap} {CB CW : Addr} (Z : Fx K mg CB CW) : Cl P w K mg base "is_pair" 2 ["thing"] (sp_is_pair P w K CB CW) := by
  refine Z.d_is_pair.cl (N := n_is_pair) (k := 1) sc_is_pair (fun vs H Q E h => by obtain ⟨_, rfl, _⟩ := h; rfl) (fun _ _ _ _ _ _ us hl => match us, hl with | [_], _ => rfl) fun f cdv A outer s H0 E0 hr => ⟨_, (pss_one (ps_ret (pe_and (pe_cl (cl_is_tuple_of (P := P) (w := w) (K := K) (base := base) Z) hr (by decide) rfl (pa_cons (pv 0) (pa_cons pe_int pa_nil))) (pe_one (pe_not (pe_callB (qany (by exact ⟨rfl, rfl, rfl⟩ : At _ P w K) rfl) rfl Z.f_any bt_any (pa_cons (pe_lc (own := [("item", 1)]) rfl sc_is_pair.nd (qpiT (by exact ⟨rfl, rfl, rfl⟩ : At _ P w K) (pv 0)) (blkOk_by (N := n_is_pair) (sc := defScope s_is_pair) (by decide +kernel)) (fun _ _ _ _ _ => (pg_name (i := 1) sc_is_pair.nd rfl (by first | exact Or.inl rfl | exact Or.inr rfl))) (fun _ _ _ _ _ => pts_nil) (fun _ _ _ _ _ => (pe_or (pe_callB (qisi (by exact ⟨rfl, rfl, rfl⟩ : At _ P w K)) rfl Z.f_isinstance bt_isinstance (pa_cons (pv 1) (pa_cons (pe_bltn (v := .ty "bool") rfl Z.f_bool bt_bool rfl) pa_nil))) (pe_one (pe_not (pe_callB (qisi (by exact ⟨rfl, rfl, rfl⟩ : At _ P w K)) rfl Z.f_isinstance bt_isinstance (pa_cons (pv 1) (pa_cons (pe_bltn (v := .ty "int") rfl Z.f_int bt_int rfl) pa_nil)))))))) pa_nil))))))), fun vs H Q E h => ?_⟩
  obtain ⟨v0, rfl, h⟩ := h
  obtain ⟨t, n, q⟩ := h
  obtain ⟨a, rfl, e⟩ := n.th
  refine ⟨_, rfl, _, _, rfl, _, n, rfl, _, rfl, iteT ⟨_, rfl, a, rfl, ⟨_, .of e⟩, ?_⟩⟩
  refine lc_sm walk_tup (RAll fun _ => .bl ((fun _ => false) 0)) (by show 2 ≤ sizeLine; decide) (fun _ _ _ _ _ r => r) (fun _ _ _ r => r.len) (fun H2 s => .of (s _ _ e)) rfl ?_ ?_
  · rintro i x acc H2 H3 Kd Kn hi s r kd kn ⟨rfl, hx⟩
    have hx2 : ∃ n : Int, x = .int n := by
      have hm := List.mem_of_getElem? hx
      rcases List.mem_cons.mp hm with rfl | hm
      · exact ⟨_, rfl⟩
      · rcases List.mem_cons.mp hm with rfl | hm
        · exact ⟨_, rfl⟩
        · cases hm
    obtain ⟨n, rfl⟩ := hx2
    exact ⟨rfl, yes ⟨_, rfl, _, _, _, _, false, rfl, .ty _, .base (.int _), kit_ty (by decide +kernel), _, rfl, iteF ⟨_, rfl, _, _, _, _, true, rfl, .ty _, .base (.int _), kit_ty (by decide +kernel), _, rfl, kd _ _ (sm0 _) r.step⟩⟩⟩
  · intro acc H2 p2 s ep np r
    exact ⟨p2, _, rfl, .of (by rw [ep, r.bl]), _, rfl, qT (by rw [any_const]; rfl) (q _ s)⟩
/-- None or a thing -/
def OptT (H : Hp) (v : V) : Option Thg → Prop
  | none => v = .non
  | some t => Nk H v (eT t)
def srcT (bk : Bk) (t : Thg) (y : Wy) : Option Thg := if y.1 then none else some (t.1, (bk.ms.getD y.2 m0).fr)
def sp_source_of (P : Program) (w : World) (K : PySem.W.Frag) (CB CW : Addr) : Sp := fun vs H Q _ => ∃ a b c, vs = [a, b, c] ∧ ∃ (bk : Bk) (W : List Vl) (t : Thg) (y : Wy), BkAt CB H a bk ∧ Nk H b (eT t) ∧ Nk H c (eW y) ∧ WyOk bk W t y ∧ ∀ r H', Same H H' → OptT H' r (srcT bk t y) → Q r H'
abbrev n_source_of : List Str := ["book", "thing", "way"]
theorem sc_source_of : FnScope n_source_of ["book", "thing", "way"] (defScope s_source_of) := ⟨rfl, rfl, rfl, by decide +kernel, rfl, by decide +kernel, by decide +kernel⟩
theorem cl_source_of {P : Program} {w : World} {K : PySem.W.Frag} {mg : Str → Option Value} {base : Heap} {CB CW : Addr} (Z : Fx K mg CB CW) : Cl P w K mg base "source_of" 1 ["book", "thing", "way"] (sp_source_of P w K CB CW) := by
  refine Z.d_source_of.cl (N := n_source_of) (k := 0) sc_source_of (fun vs H Q E h => by obtain ⟨_, _, _, rfl, _⟩ := h; rfl) (fun _ _ _ _ _ _ us hl => match us, hl with | [_, _, _], _ => rfl) fun f cdv A outer s H0 E0 hr => ⟨_, (pss_one (ps_ret (pe_ifExp (pt_cmpR op_eq (pe_ix (qixT (by exact ⟨rfl, rfl, rfl⟩ : At _ P w K)) (pv 2) pe_int (fun _ _ => rfl)) pe_str (nomark _)) (pe_tup (pa_cons (pe_ix (qixT (by exact ⟨rfl, rfl, rfl⟩ : At _ P w K)) (pv 1) pe_int (fun _ _ => rfl)) (pa_cons (pe_ix (qixT (by exact ⟨rfl, rfl, rfl⟩ : At _ P w K)) (pe_ix (qixT (by exact ⟨rfl, rfl, rfl⟩ : At _ P w K)) (qfld (by exact ⟨rfl, rfl, rfl⟩ : At _ P w K) (pv 0) rfl) (pe_ix (qixT (by exact ⟨rfl, rfl, rfl⟩ : At _ P w K)) (pv 2) pe_int (fun _ _ => rfl)) (fun _ _ => rfl)) pe_int (fun _ _ => rfl)) pa_nil))) pe_non))), fun vs H Q E h => ?_⟩
  obtain ⟨v0, v1, v2, rfl, h⟩ := h
  obtain ⟨bk, W, t, ⟨yr, yi⟩, hB, nt, ny, ok, q⟩ := h
  obtain ⟨c, rfl, ec⟩ := nt.th
  obtain ⟨p, rfl, ep⟩ := ny.wy
  obtain ⟨o, dy, xa, xq, xm, rfl, eB, na, nq, nm⟩ := id hB
  obtain ⟨am, ys, rfl, em, rm⟩ := nm.tupE
  cases yr with
  | false =>
    obtain ⟨m, hm, _⟩ := ok.m rfl
    obtain ⟨u, g1, g2⟩ := rm.get (gmap hm)
    obtain ⟨dm, rfl, edm⟩ := g2.mv
    refine ⟨_, rfl, _, _, _, _, rfl, rfl, .of ep, rfl, rfl, _, rfl, iteD rfl ⟨_, rfl, _, _, _, _, rfl, rfl, .of ec, rfl, _, rfl, _, _, _, _, _, rfl, eB, Z.clB, Z.nB_moves, rfl, _, rfl, _, _, _, _, rfl, rfl, .of ep, rfl, _, _, _, _, rfl, rfl, .of em, atI_nat g1, _, _, _, _, rfl, rfl, .of edm, rfl, by show 2 ≤ sizeLine; decide, fun p1 np1 => q _ _ (same_upd np1) ?_⟩⟩
    have : srcT bk t (false, yi) = some (t.1, m.fr) := by simp [srcT, hm]
    rw [this]
    exact .ofTh (t := (t.1, m.fr)) upd_same
  | true =>
    refine ⟨_, rfl, _, _, _, _, rfl, rfl, .of ep, rfl, rfl, _, rfl, iteN wne2 (q _ _ (sm0 _) rfl)⟩
/-- a choice for the things M: its ways, with a rank that falls -/
structure ChOk (bk : Bk) (W : List Vl) (M : List Thg) (ch : Thg → Wy) (rank : Thg → Nat) : Prop where
  wy : ∀ t ∈ M, WyOk bk W t (ch t)
  nd : ∀ t ∈ M, ∀ n ∈ needsT bk W t (ch t), n ∈ M ∧ rank n < rank t
/-- .. at an address -/
structure ChAt (P : Program) (w : World) (H : Hp) (p : Addr) (M : List Thg) (ch : Thg → Wy) (g : Thg → V) : Prop where
  d : DM P w H p eT M g
  v : ∀ t ∈ M, Nk H (g t) (eW (ch t))
theorem ChAt.same {P : Program} {w : World} {H H' : Hp} {p : Addr} {M : List Thg} {ch : Thg → Wy} {g : Thg → V} (x : ChAt P w H p M ch g) (s : Same H H') : ChAt P w H' p M ch g := ⟨x.d.same s, fun t ht => (x.v t ht).keep (.of s)⟩
def sp_comes_back (P : Program) (w : World) (K : PySem.W.Frag) (CB CW : Addr) : Sp := fun vs H Q _ => ∃ a b c, vs = [a, b, c] ∧ ∃ (bk : Bk) (W : List Vl) (M : List Thg) (ch : Thg → Wy) (rank : Thg → Nat) (p : Addr) (g : Thg → V) (t : Thg), bk.Ok ∧ BkAt CB H a bk ∧ b = .ref p ∧ ChAt P w H p M ch g ∧ ChOk bk W M ch rank ∧ Nk H c (eT t) ∧ t ∈ M ∧ ∀ H', Same H H' → Q (.bl false) H'
theorem srcT_need {bk : Bk} {W : List Vl} {t n : Thg} {y : Wy} (h : srcT bk t y = some n) : n ∈ needsT bk W t y := by
  obtain ⟨yr, yi⟩ := y
  cases yr with
  | true => cases h
  | false =>
    have : n = (t.1, (bk.ms.getD yi m0).fr) := (Option.some.inj h).symm
    rw [this]
    exact List.mem_singleton.mpr rfl
abbrev n_comes_back : List Str := ["book", "choice", "thing", "here", "turn"]
theorem sc_comes_back : FnScope n_comes_back ["book", "choice", "thing"] (defScope s_comes_back) := ⟨rfl, rfl, rfl, by decide +kernel, rfl, by decide +kernel, by decide +kernel⟩
theorem cl_comes_back {P : Program} {w : World} {K : PySem.W.Frag} {mg : Str → Option Value} {base : Heap} {CB CW : Addr} (Z : Fx K mg CB CW) : Cl P w K mg base "comes_back" 2 ["book", "choice", "thing"] (sp_comes_back P w K CB CW) := by
  refine Z.d_comes_back.cl (N := n_comes_back) (k := 1) sc_comes_back (fun vs H Q E h => by obtain ⟨_, _, _, rfl, _⟩ := h; rfl) (fun _ _ _ _ _ _ us hl => match us, hl with | [_, _, _], _ => rfl) fun f cdv A outer s H0 E0 hr => ⟨_, (pss_cons (ps_set (i := 3) sc_comes_back.nd rfl (Or.inl rfl) (pe_cl (cl_source_of (P := P) (w := w) (K := K) (base := base) Z) hr (by decide) rfl (pa_cons (pv 0) (pa_cons (pv 2) (pa_cons (qnget (by exact ⟨rfl, rfl, rfl⟩ : At _ P w K) hr.units (pv 1) (pv 2) (fun _ _ => rfl)) pa_nil))))) (pss_cons (ps_for PassesOwn.never rfl (pi_range1 rfl Z.f_range (pa_cons (qfld (by exact ⟨rfl, rfl, rfl⟩ : At _ P w K) (pv 0) rfl) pa_nil)) (pg_name (i := 4) sc_comes_back.nd rfl (Or.inl rfl)) (pss_cons (ps_if (pt_cmpR (qeqD (by exact ⟨rfl, rfl, rfl⟩ : At _ P w K) hr.units) (pv 3) (pv 2) (nomark _)) (pss_one (ps_ret pe_bl)) pss_nil) (pss_one (ps_if (pt_cmpR op_notN (pv 3) pe_non (nomark _)) (pss_one (ps_set (i := 3) sc_comes_back.nd rfl (Or.inl rfl) (pe_cl (cl_source_of (P := P) (w := w) (K := K) (base := base) Z) hr (by decide) rfl (pa_cons (pv 0) (pa_cons (pv 3) (pa_cons (qnget (by exact ⟨rfl, rfl, rfl⟩ : At _ P w K) hr.units (pv 1) (pv 3) (fun _ _ => rfl)) pa_nil)))))) pss_nil)))) (pss_one (ps_ret pe_bl)))), fun vs H Q E h => ?_⟩
  obtain ⟨v0, v1, v2, rfl, h⟩ := h
  obtain ⟨bk, W, M, ch, rank, p, g, t, okb, hB, rfl, hC, ok, nt, ht, q⟩ := h
  have hk := okb.k2
  obtain ⟨o, dy, xa, xq, xm, rfl, eB, na, nq, nm⟩ := id hB
  refine ⟨_, rfl, _, rfl, _, rfl, _, rfl, p, _, rfl, hC.d.ngetT encT nt ht, _, _, _, rfl, bk, W, t, ch t, hB, nt, hC.v t ht, ok.wy t ht, fun r H1 s1 hr1 => ?_⟩
  refine ⟨_, rfl, _, _, _, _, _, rfl, s1 _ _ eB, Z.clB, Z.nB_kinds, rfl, _, rfl, by omega, by omega, ?_⟩
  refine for_it walk_range (fun i σ H2 => ∃ v y, σ = [some (.ref o), some (.ref p), some v2, some v, y] ∧ Same H H2 ∧ ∃ oh : Option Thg, OptT H2 v oh ∧ ∀ n, oh = some n → n ∈ M ∧ rank n < rank t) ⟨r, none, rfl, s1, _, hr1, fun n hn => ok.nd t ht n (srcT_need hn)⟩ (fun _ _ _ _ _ => trivial) ?_ (fun σ H2 ⟨v, y, _, s2, _⟩ => q _ s2)
  rintro i x σ H2 H3 hi ⟨v, y, rfl, s2, oh, ho, hn⟩ ⟨rfl, rfl⟩
  cases oh with
  | none =>
    cases (show v = .non from ho)
    refine ⟨_, rfl, _, rfl, .none, (eT t).data, .non, (nt.keep (.of s2)).dp, by decide, shp1 (lay_T t), _, rfl, ?_⟩
    have : PyData.eqv .none (eT t).data = false := by simp only [NestedKey.data, PyData.eqv]
    rw [this]
    exact iteF ⟨_, rfl, rfl, _, rfl, iteND rfl ⟨_, _, rfl, s2, none, rfl, fun n hn => nomatch hn⟩⟩
  | some n =>
    have nn : Nk H3 v (eT n) := ho
    obtain ⟨hm, hlt⟩ := hn n rfl
    refine ⟨_, rfl, _, rfl, (eT n).data, (eT t).data, nn.dp, (nt.keep (.of s2)).dp, shp1 (lay_T n), shp1 (lay_T t), _, rfl, ?_⟩
    rw [eqv_T, decide_eq_false (fun z : n = t => by rw [z] at hlt; exact Nat.lt_irrefl _ hlt)]
    obtain ⟨a, rfl, ea⟩ := nn.th
    refine iteF ⟨_, rfl, rfl, _, rfl, iteNN (fun z => nomatch z) ?_⟩
    have hC3 := hC.same s2
    refine ⟨_, rfl, _, rfl, _, rfl, _, rfl, p, _, rfl, hC3.d.ngetT encT nn hm, _, _, _, rfl, bk, W, n, ch n, hB.same s2, nn, hC3.v n hm, ok.wy n hm, fun r H4 s4 hr4 => ?_⟩
    exact ⟨_, _, rfl, smT s2 s4, _, hr4, fun k hk => ⟨(ok.nd n hm k (srcT_need hk)).1, Nat.lt_trans (ok.nd n hm k (srcT_need hk)).2 hlt⟩⟩
end K19
set_option maxHeartbeats 4000000
namespace K19
open PySem PySem.Spec PyProof.Rows L2
open PySem.W (dataLe keyToks keyToksAll alike alikeAll)
/-! ### the usable ways as they are found -/
abbrev US := List Thg × (Thg → List Wy)
def someU (b : Bk) (W : List Vl) (ts : List Thg) (t : Thg) : List Wy := (waysT b W t).filter fun w => usab b W ts t w
def stepU (b : Bk) (W : List Vl) (S : US) (t : Thg) : US := if (someU b W S.1 t).length = 0 then S else (insL S.1 t, fun u => if u = t then someU b W S.1 t else S.2 u)
def kL (b : Bk) (W : List Vl) (v : Nat) (S : US) (j : Nat) : US := (List.range j).foldl (fun S k => stepU b W S (v, k)) S
def tL (b : Bk) (W : List Vl) (v : Nat) (S : US) (i : Nat) : US := (List.range i).foldl (fun S _ => kL b W v S b.ks) S
def vL (b : Bk) (W : List Vl) (n : Nat) : US := (List.range n).foldl (fun S v => tL b W v S b.ks) ([], fun _ => [])
theorem kL_succ {b : Bk} {W : List Vl} {v : Nat} {S : US} {j : Nat} : kL b W v S (j + 1) = stepU b W (kL b W v S j) (v, j) := by
  unfold kL; rw [List.range_succ, List.foldl_append]; rfl
theorem tL_succ {b : Bk} {W : List Vl} {v : Nat} {S : US} {j : Nat} : tL b W v S (j + 1) = kL b W v (tL b W v S j) b.ks := by
  unfold tL; rw [List.range_succ, List.foldl_append]; rfl
theorem vL_succ {b : Bk} {W : List Vl} {j : Nat} : vL b W (j + 1) = tL b W j (vL b W j) b.ks := by
  unfold vL; rw [List.range_succ, List.foldl_append]; rfl
/-! ### sorted things -/
def leT (a b : Thg) : Bool := dataLe false NestedKey.data (eT a) (eT b)
def srtT (ts : List Thg) : List Thg := ts.mergeSort leT
theorem ksort_T (ts : List Thg) : ksort (ts.map eT) = (srtT ts).map eT := (List.map_mergeSort (r := leT) (s := dataLe false NestedKey.data) (f := eT) (l := ts) fun _ _ _ _ => rfl).symm
theorem srtT_perm (ts : List Thg) : (srtT ts).Perm ts := List.mergeSort_perm _ _
theorem toks_T (t : Thg) : keyToks (eT t).data = [.inl 1, .inl (t.1 : Int), .inl 1, .inl (t.2 : Int), .inl 0] := by
  simp [NestedKey.data, NestedKey.datas, keyToks, keyToksAll]
theorem alike_T (a b : Thg) : alike (eT a).data (eT b).data = true := by
  simp only [NestedKey.data, NestedKey.datas, alike, alikeAll, Bool.and_self]
theorem srt_T {ts : List Thg} (h : ts.length ≤ sizeLine) : Srt (ts.map eT) := by
  refine ⟨?_, .inl ?_, fun k hk => ?_, by rw [List.length_map]; exact h⟩
  · intro d hd d' hd'
    rw [List.map_map] at hd hd'
    obtain ⟨a, _, rfl⟩ := List.mem_map.mp hd
    obtain ⟨b, _, rfl⟩ := List.mem_map.mp hd'
    exact alike_T a b
  · intro d hd
    rw [List.map_map] at hd
    obtain ⟨a, _, rfl⟩ := List.mem_map.mp hd
    exact ⟨(kI a.1).data, [(kI a.2).data], by show NestedKey.data (eT a) = _; simp only [NestedKey.data, NestedKey.datas]⟩
  · obtain ⟨t, _, rfl⟩ := List.mem_map.mp hk
    exact (lay_T t).2
def UM (b : Bk) (W : List Vl) : List Thg := srtT (vL b W W.length).1
def UF (b : Bk) (W : List Vl) : Thg → List Wy := (vL b W W.length).2
/-- a dict of lists of ways -/
def UsAt (P : Program) (w : World) (H : Hp) (p : Addr) (M : List Thg) (F : Thg → List Wy) : Prop := ∃ g, DM P w H p eT M g ∧ ∀ t ∈ M, LsK H (g t) ((F t).map eW)
theorem UsAt.same {P : Program} {w : World} {H H' : Hp} {p : Addr} {M : List Thg} {F : Thg → List Wy} (x : UsAt P w H p M F) (s : Same H H') : UsAt P w H' p M F := by
  obtain ⟨g, d, l⟩ := x
  exact ⟨g, d.same s, fun t ht => (l t ht).same s⟩
/-- one more -/
theorem LsK.but {P : Program} {w : World} {H H' : Hp} {p : Addr} {kvs : List (NestedKey × V)} {v : V} {ks : List NestedKey} (x : LsK H v ks) (d : Dc P w H p kvs) (b : But p H H') : LsK H' v ks := by
  obtain ⟨a, xs, e, h, n⟩ := x
  obtain ⟨φ, hp⟩ := d.ext
  refine ⟨a, xs, e, ?_, n.keep (b.kpt d.ntup)⟩
  rw [b a (fun z => by rw [z, hp] at h; cases h)]; exact h
theorem walk_r0 {n : Nat} : Walk (Itr 0 n) n (fun _ => True) (YFn fun i => .int (i : Nat)) := walk_range.mono (fun _ h => h) (fun i H x H' _ _ y => ⟨y.1, y.2.trans (by show V.int (0 + (i : Nat)) = V.int (i : Nat); rw [Int.zero_add])⟩)
/-- a dict comprehension: nothing else changes -/
theorem dc_sm {P : Program} {w : World} {J : It} {n : Nat} {G : Hp → Prop} {Y : Nat → Hp → V → Hp → Prop} (wk : Walk J n G Y) {g : TG} {tk tv : TE} {vs : List Nat} {σ : L2.St} {H1 : Hp} {Qd : Addr → Hp → Prop}
    (R : Nat → List (NestedKey × V) → Prop) (hn : n ≤ sizeLine) (hl : ∀ i kvs, R i kvs → kvs.length ≤ i) (hG : ∀ H, Same H1 H → G H) (h0 : R 0 [])
    (hs : ∀ i x kvs H H' (Kd : V → V → Hp → Prop), i < n → Same H1 H → R i kvs → (∀ y z H5 k c, y = .ref c → Nk H5 y k → k.depth ≤ 8 → Same H H5 → R (i + 1) (putK kvs k z) → Kd y z H5) → Y i H x H' →
      g x (wipe σ vs) H' fun σ2 H2 => wipe σ2 vs = wipe σ vs ∧ tk σ2 H2 fun y H4 => tv σ2 H4 fun z H5 => Kd y z H5)
    (hd : ∀ kvs H p, Same H1 H → Dc P w H p kvs → H1 p = none → R n kvs → Qd p H) :
    ∀ D H1', H1 D = none → But D H1 H1' → Dc P w H1' D [] → ∃ W : Nat → Nat → Hp → Prop, (∃ m, W 0 m H1') ∧ ∀ i m H, W i m H →
      (J.stop i H ∧ Qd D H) ∨ (J.go i H ∧ ∃ Nx : Hp → Prop, (∀ H', Nx H' → ∃ m', m' < m ∧ W (i + 1) m' H') ∧ ∀ x H', J.yld i H x H' → g x (wipe σ vs) H' fun σ2 H2 => wipe σ2 vs = wipe σ vs ∧
        tk σ2 H2 fun y H4 => tv σ2 H4 fun z H5 => ∃ kvs k c, y = .ref c ∧ Nk H5 y k ∧ k.depth ≤ 8 ∧ Dc P w H5 D kvs ∧ kvs.length < sizeLine ∧ ∀ H6, But D H5 H6 → Dc P w H6 D (putK kvs k z) → Nx H6) := by
  intro D H1' nD b1 d1
  refine ⟨fun i m H => m = n - i ∧ i ≤ n ∧ ∃ kvs, Dc P w H D kvs ∧ Same H1 H ∧ R i kvs, ⟨n, by simp, Nat.zero_le _, [], d1, b1.same nD, h0⟩, ?_⟩
  rintro i m H ⟨rfl, hi, kvs, d, s, r⟩
  by_cases hlt : i < n
  · refine .inr ⟨wk.goes i H hlt (hG H s), fun H' => ∃ kvs, Dc P w H' D kvs ∧ Same H1 H' ∧ R (i + 1) kvs, fun H' ⟨kvs, d, s, r⟩ => ⟨n - (i + 1), by omega, rfl, hlt, kvs, d, s, r⟩, fun x H' y => ?_⟩
    refine hs i x kvs H H' _ hlt s r (fun y z H5 k c e nk dp s5 r5 => ?_) (wk.yields i H x H' hlt (hG H s) y)
    exact ⟨kvs, k, c, e, nk, dp, d.same s5, Nat.lt_of_lt_of_le (Nat.lt_of_le_of_lt (hl _ _ r) hlt) hn, fun H6 b6 d6 => ⟨_, d6, smB nD (smT s s5) b6, r5⟩⟩
  · have : i = n := by omega
    subst this
    exact .inl ⟨wk.stops H (hG H s), hd kvs H D s d nD r⟩
end K19
set_option maxHeartbeats 4000000
namespace K19
open PySem PySem.Spec PyProof.Rows L2
theorem paired_get {α β : Type} {R : α → β → Prop} : ∀ {xs : List α} {ys : List β}, Paired R xs ys → ∀ {i : Nat} {y : β}, ys[i]? = some y → ∃ x, xs[i]? = some x ∧ R x y
  | _, _, .nil, _, _, e => by simp at e
  | _, _, .cons a b, 0, _, e => by simp at e; subst e; exact ⟨_, rfl, a⟩
  | _, _, .cons a b, i + 1, _, e => by
    obtain ⟨x, h1, h2⟩ := paired_get b (i := i) (by simpa using e)
    exact ⟨x, by simpa using h1, h2⟩
theorem paired_getL {α β : Type} {R : α → β → Prop} : ∀ {xs : List α} {ys : List β}, Paired R xs ys → ∀ {i : Nat} {x : α}, xs[i]? = some x → ∃ y, ys[i]? = some y ∧ R x y
  | _, _, .nil, _, _, e => by simp at e
  | _, _, .cons a b, 0, _, e => by simp at e; subst e; exact ⟨_, rfl, a⟩
  | _, _, .cons a b, i + 1, _, e => by
    obtain ⟨x, h1, h2⟩ := paired_getL b (i := i) (by simpa using e)
    exact ⟨x, by simpa using h1, h2⟩
/-- good state of found -/
def GoodU (P : Program) (w : World) (H : Hp) (p : Addr) (S : US) : Prop := UsAt P w H p S.1 S.2
theorem filter_snoc {α : Type} {l : List α} {i : Nat} {x : α} {q : α → Bool} (h : l[i]? = some x) : (l.take (i + 1)).filter q = (l.take i).filter q ++ if q x = true then [x] else [] := by
  rw [List.take_succ, h, List.filter_append]
  congr 1
  by_cases e : q x = true
  · rw [if_pos e]; exact List.filter_cons_of_pos e
  · rw [if_neg e]; exact List.filter_cons_of_neg e
def sp_usable_ways (P : Program) (w : World) (K : PySem.W.Frag) (CB CW : Addr) : Sp := fun vs H Q _ => ∃ a b, vs = [a, b] ∧ ∃ (bk : Bk) (W : List Vl), bk.Ok ∧ WbOk bk W ∧ BkAt CB H a bk ∧ WbAt CW H b W ∧ ∀ p H', Same H H' → H p = none → UsAt P w H' p (UM bk W) (UF bk W) → Q (.ref p) H'
theorem stepU_sub {bk : Bk} {W : List Vl} {S : US} {t u : Thg} (h : u ∈ (stepU bk W S t).1) : u ∈ S.1 ∨ u = t := by
  unfold stepU at h
  split at h
  · exact .inl h
  · exact mem_insL.mp h
theorem kL_sub {bk : Bk} {W : List Vl} {v : Nat} {S : US} : ∀ {j : Nat} {u : Thg}, u ∈ (kL bk W v S j).1 → u ∈ S.1 ∨ (u.1 = v ∧ u.2 < j)
  | 0, u, h => .inl h
  | j + 1, u, h => by
    rw [kL_succ] at h
    rcases stepU_sub h with h | rfl
    · rcases kL_sub h with h | ⟨h1, h2⟩
      · exact .inl h
      · exact .inr ⟨h1, by omega⟩
    · exact .inr ⟨rfl, Nat.lt_succ_self _⟩
theorem tL_sub {bk : Bk} {W : List Vl} {v : Nat} {S : US} : ∀ {j : Nat} {u : Thg}, u ∈ (tL bk W v S j).1 → u ∈ S.1 ∨ (u.1 = v ∧ u.2 < bk.ks)
  | 0, u, h => .inl h
  | j + 1, u, h => by
    rw [tL_succ] at h
    rcases kL_sub h with h | h
    · exact tL_sub h
    · exact .inr h
theorem vL_sub {bk : Bk} {W : List Vl} : ∀ {n : Nat} {u : Thg}, u ∈ (vL bk W n).1 → u.1 < n ∧ u.2 < bk.ks
  | 0, u, h => by cases h
  | n + 1, u, h => by
    rw [vL_succ] at h
    rcases tL_sub h with h | ⟨h1, h2⟩
    · have := vL_sub h; omega
    · omega
theorem stepU_nd {bk : Bk} {W : List Vl} {S : US} {t : Thg} (h : S.1.Nodup) : (stepU bk W S t).1.Nodup := by
  unfold stepU
  split
  · exact h
  · show (insL S.1 t).Nodup
    unfold insL
    split
    · exact h
    · rename_i hm
      exact List.nodup_append.mpr ⟨h, by simp, fun a ha b hb => by rw [List.mem_singleton.mp hb]; intro z; exact hm (z ▸ ha)⟩
theorem not_mem_take {α : Type} {l : List α} {i : Nat} {x : α} (nd : l.Nodup) (h : l[i]? = some x) : x ∉ l.take i := by
  have := nodup_new (f := fun z : α => z) (l := l) (by rw [List.map_id']; exact nd) h
  rw [List.map_id'] at this; exact this
theorem put_take {α : Type} [DecidableEq α] {e : α → NestedKey} (E : Enc e) {g : α → V} {l : List α} {i : Nat} {t : α} (nd : l.Nodup) (h : l[i]? = some t) :
    putK ((l.take i).map fun t => (e t, g t)) (e t) (g t) = (l.take (i + 1)).map fun t => (e t, g t) := by
  rw [putK_map_enc E, insL_new (not_mem_take nd h), take_snoc h, List.map_append]
  have : ∀ u, updF g t (g t) u = g u := fun u => by unfold updF; split <;> simp_all
  simp only [this, List.map_cons, List.map_nil]
theorem none_back {H H' : Hp} {p : Addr} (s : Same H H') (h : H' p = none) : H p = none := by
  cases e : H p with
  | none => rfl
  | some o => rw [s _ _ e] at h; cases h
theorem nodup_sub_len {α : Type} [DecidableEq α] : ∀ {l m : List α}, l.Nodup → (∀ x ∈ l, x ∈ m) → l.length ≤ m.length
  | [], m, _, _ => Nat.zero_le _
  | a :: l, m, nd, h => by
    have ha := h a (List.mem_cons_self ..)
    have h1 := nodup_sub_len (l := l) (m := m.erase a) (List.nodup_cons.mp nd).2 fun x hx => by
      have hne : x ≠ a := fun z => (List.nodup_cons.mp nd).1 (z ▸ hx)
      exact (List.mem_erase_of_ne hne).mpr (h x (List.mem_cons_of_mem _ hx))
    rw [List.length_erase_of_mem ha] at h1
    have h2 := List.length_pos_of_mem ha
    rw [List.length_cons]; omega
theorem nodup_len {l : List Thg} {n k : Nat} (nd : l.Nodup) (h : ∀ u ∈ l, u.1 < n ∧ u.2 < k) : l.length ≤ n * k := by
  have h1 : (l.map fun u => u.1 * k + u.2).Nodup := by
    refine List.Pairwise.map _ (fun a b hab => ?_) (List.Pairwise.and_mem.mp nd)
    obtain ⟨ha, hb, hab⟩ := hab
    intro z
    apply hab
    obtain ⟨a1, a2⟩ := a
    obtain ⟨b1, b2⟩ := b
    have h1 := h _ ha
    have h2 := h _ hb
    simp only at z h1 h2
    have e1 : a1 = b1 := by
      have z1 := congrArg (· / k) z
      show a1 = b1
      change (a1 * k + a2) / k = (b1 * k + b2) / k at z1
      rw [Nat.mul_comm, Nat.mul_add_div (by omega), Nat.div_eq_of_lt h1.2, Nat.mul_comm, Nat.mul_add_div (by omega), Nat.div_eq_of_lt h2.2] at z1
      omega
    subst e1
    have : a2 = b2 := by omega
    rw [this]
  have h2 : ∀ x ∈ l.map fun u => u.1 * k + u.2, x ∈ List.range (n * k) := by
    intro x hx
    obtain ⟨u, hu, rfl⟩ := List.mem_map.mp hx
    have := h u hu
    rw [List.mem_range]
    calc u.1 * k + u.2 < u.1 * k + k := by omega
      _ = (u.1 + 1) * k := by rw [Nat.succ_mul]
      _ ≤ n * k := Nat.mul_le_mul_right k this.1
  have h3 := nodup_sub_len h1 h2
  rw [List.length_map, List.length_range] at h3
  exact h3
theorem vL_nd {bk : Bk} {W : List Vl} : ∀ n : Nat, (vL bk W n).1.Nodup := by
  have hk : ∀ (v : Nat) (S : US) (j : Nat), S.1.Nodup → (kL bk W v S j).1.Nodup := by
    intro v S j h
    induction j with
    | zero => exact h
    | succ j ih => rw [kL_succ]; exact stepU_nd ih
  have ht : ∀ (v : Nat) (S : US) (j : Nat), S.1.Nodup → (tL bk W v S j).1.Nodup := by
    intro v S j h
    induction j with
    | zero => exact h
    | succ j ih => rw [tL_succ]; exact hk _ _ _ ih
  intro n
  induction n with
  | zero => exact List.nodup_nil
  | succ n ih => rw [vL_succ]; exact ht _ _ _ ih
theorem vL_len {bk : Bk} {W : List Vl} (ok : bk.Ok) (okW : WbOk bk W) {n : Nat} (hn : n ≤ W.length) : (vL bk W n).1.length ≤ 45 := by
  have h := nodup_len (vL_nd n) fun u hu => vL_sub (bk := bk) (W := W) hu
  have h1 := ok.k2
  have h2 := okW.n
  have : n * bk.ks ≤ 9 * 5 := Nat.mul_le_mul (by omega) h1
  omega
abbrev n_usable_ways : List Str := ["book", "web", "found", "value", "turn", "kind", "thing", "some", "way"]
theorem sc_usable_ways : FnScope n_usable_ways ["book", "web"] (defScope s_usable_ways) := ⟨rfl, rfl, rfl, by decide +kernel, rfl, by decide +kernel, by decide +kernel⟩
theorem cl_usable_ways {P : Program} {w : World} {K : PySem.W.Frag} {mg : Str → Option Value} {base : Heap} {CB CW : Addr} (Z : Fx K mg CB CW) : Cl P w K mg base "usable_ways" 3 ["book", "web"] (sp_usable_ways P w K CB CW) := by
  refine Z.d_usable_ways.cl (N := n_usable_ways) (k := 2) sc_usable_ways (fun vs H Q E h => by obtain ⟨_, _, rfl, _⟩ := h; rfl) (fun _ _ _ _ _ _ us hl => match us, hl with | [_, _], _ => rfl) fun f cdv A outer s H0 E0 hr => ⟨_, (pss_cons (ps_set (i := 2) sc_usable_ways.nd rfl (Or.inr rfl) (qdnew (by exact ⟨rfl, rfl, rfl⟩ : At _ P w K))) (pss_cons (ps_for PassesOwn.never rfl (pi_range1 rfl Z.f_range (pa_cons (pe_callB (qlen (by exact ⟨rfl, rfl, rfl⟩ : At _ P w K)) rfl Z.f_len bt_len (pa_cons (qfld (by exact ⟨rfl, rfl, rfl⟩ : At _ P w K) (pv 1) rfl) pa_nil)) pa_nil)) (pg_name (i := 3) sc_usable_ways.nd rfl (Or.inl rfl)) (pss_one (ps_for PassesOwn.never rfl (pi_range1 rfl Z.f_range (pa_cons (qfld (by exact ⟨rfl, rfl, rfl⟩ : At _ P w K) (pv 0) rfl) pa_nil)) (pg_name (i := 4) sc_usable_ways.nd rfl (Or.inl rfl)) (pss_one (ps_for PassesOwn.never rfl (pi_range1 rfl Z.f_range (pa_cons (qfld (by exact ⟨rfl, rfl, rfl⟩ : At _ P w K) (pv 0) rfl) pa_nil)) (pg_name (i := 5) sc_usable_ways.nd rfl (Or.inl rfl)) (pss_cons (ps_set (i := 6) sc_usable_ways.nd rfl (Or.inr rfl) (pe_tup (pa_cons (pv 3) (pa_cons (pv 5) pa_nil)))) (pss_cons (ps_setLc (i := 7) (own := [("way", 8)]) rfl sc_usable_ways.nd rfl rfl (sw_true rfl rfl rfl (by decide +kernel)) (qpiL (by exact ⟨rfl, rfl, rfl⟩ : At _ P w K) (pe_cl (cl_raw_ways (P := P) (w := w) (K := K) (base := base) Z) hr (by decide) rfl (pa_cons (pv 0) (pa_cons (pv 1) (pa_cons (pv 6) pa_nil))))) (blkOk_by (N := n_usable_ways) (sc := defScope s_usable_ways) (by decide +kernel)) (fun _ _ _ _ _ => (pg_name (i := 8) sc_usable_ways.nd rfl (by first | exact Or.inl rfl | exact Or.inr rfl))) (fun _ _ _ _ _ => (pts_one (pt_val (pe_cl (cl_is_usable (P := P) (w := w) (K := K) (base := base) Z) hr (by decide) rfl (pa_cons (pv 0) (pa_cons (pv 1) (pa_cons (pv 6) (pa_cons (pv 8) (pa_cons (pv 2) pa_nil))))))))) (fun _ _ _ _ _ => (pv 8))) (pss_one (ps_if (pt_cmpR op_gt (pe_callB (qlen (by exact ⟨rfl, rfl, rfl⟩ : At _ P w K)) rfl Z.f_len bt_len (pa_cons (pv 7) pa_nil)) pe_int (nomark _)) (pss_one (qnput (by exact ⟨rfl, rfl, rfl⟩ : At _ P w K) hr.units (pv 2) (pv 6) (pv 7) rfl)) pss_nil))))))))) (pss_one (ps_ret (qdcN (by exact ⟨rfl, rfl, rfl⟩ : At _ P w K) (own := [("thing", 6)]) rfl hr.units sc_usable_ways.nd (qpiL (by exact ⟨rfl, rfl, rfl⟩ : At _ P w K) (pe_callB (qsorN (by exact ⟨rfl, rfl, rfl⟩ : At _ P w K) rfl hr.units) rfl Z.f_sorted bt_sorted (pa_cons (pv 2) pa_nil))) (blkOk_by (N := n_usable_ways) (sc := defScope s_usable_ways) (by decide +kernel)) (fun _ _ _ _ _ => (pg_name (i := 6) sc_usable_ways.nd rfl (by first | exact Or.inl rfl | exact Or.inr rfl))) (fun _ _ _ _ _ => (pv 6)) (fun _ _ _ _ _ => (qnget (by exact ⟨rfl, rfl, rfl⟩ : At _ P w K) hr.units (pv 2) (pv 6) (fun _ _ => rfl)))))))), fun vs H Q E h => ?_⟩
  obtain ⟨v0, v1, rfl, h⟩ := h
  obtain ⟨bk, W, okb, okW, hB, hW, q⟩ := h
  have hk1 := okb.k1
  have hk2 := okb.k2
  have hWn := okW.n
  obtain ⟨o, dy, xa, xq, xm, rfl, eB, na, nq, nm⟩ := id hB
  obtain ⟨wa, dx, xr, rfl, eW', nr⟩ := id hW
  intro p H1 np b1 d1
  have s1 := b1.same np
  refine ⟨_, rfl, _, _, _, _, _, rfl, s1 _ _ eW', Z.clW, Z.nW_rows, rfl, _, _, rfl, (nr.keep (.of s1)).lenV, _, rfl, by omega, by rw [List.length_map]; omega, ?_⟩
  rw [List.length_map, Int.toNat_natCast]
  refine for_it walk_r0 (fun i σ H2 => ∃ x3 x4 x5 x6 x7 x8, σ = [some (.ref o), some (.ref wa), some (.ref p), x3, x4, x5, x6, x7, x8] ∧ Same H H2 ∧ UsAt P w H2 p (vL bk W i).1 (vL bk W i).2) ⟨none, none, none, none, none, none, rfl, s1, fun _ => .non, d1, fun _ h => nomatch h⟩ (fun _ _ _ _ _ => trivial) ?_ ?_
  · rintro v x σ H2 H3 hv ⟨x3, x4, x5, x6, x7, x8, rfl, s2, g2⟩ ⟨rfl, rfl⟩
    refine ⟨_, rfl, _, _, _, _, _, rfl, s2 _ _ eB, Z.clB, Z.nB_kinds, rfl, _, rfl, by omega, by omega, ?_⟩
    rw [Int.toNat_natCast]
    refine for_it walk_r0 (fun i σ H2 => ∃ x4 x5 x6 x7 x8, σ = [some (.ref o), some (.ref wa), some (.ref p), some (.int (v : Nat)), x4, x5, x6, x7, x8] ∧ Same H H2 ∧ UsAt P w H2 p (tL bk W v (vL bk W v) i).1 (tL bk W v (vL bk W v) i).2) ⟨_, _, _, _, _, rfl, s2, g2⟩ (fun _ _ _ _ _ => trivial) ?_ ?_
    · rintro tu x σ H4 H5 htu ⟨x4, x5, x6, x7, x8, rfl, s4, g4⟩ ⟨rfl, rfl⟩
      refine ⟨_, rfl, _, _, _, _, _, rfl, s4 _ _ eB, Z.clB, Z.nB_kinds, rfl, _, rfl, by omega, by omega, ?_⟩
      rw [Int.toNat_natCast]
      refine for_it walk_r0 (fun i σ H2 => ∃ x5 x6 x7 x8, σ = [some (.ref o), some (.ref wa), some (.ref p), some (.int (v : Nat)), some (.int (tu : Nat)), x5, x6, x7, x8] ∧ Same H H2 ∧ UsAt P w H2 p (kL bk W v (tL bk W v (vL bk W v) tu) i).1 (kL bk W v (tL bk W v (vL bk W v) tu) i).2) ⟨_, _, _, _, rfl, s4, g4⟩ (fun _ _ _ _ _ => trivial) ?_ ?_
      · rintro k x σ H6 H7 hk ⟨x5, x6, x7, x8, rfl, s6, g6⟩ ⟨rfl, rfl⟩
        obtain ⟨g, d, gl⟩ := g6
        have lenS : (kL bk W v (tL bk W v (vL bk W v) tu) k).1.length < sizeLine := by
          have hnd : (kL bk W v (tL bk W v (vL bk W v) tu) k).1.Nodup := d.nd encT
          have := nodup_len (n := v + 1) (k := 5) hnd fun u hu => by
            rcases kL_sub hu with h | h
            · rcases tL_sub h with h | h
              · have := vL_sub h; omega
              · omega
            · omega
          exact Nat.lt_of_le_of_lt (show _ ≤ 45 by omega) (by decide)
        generalize hS : kL bk W v (tL bk W v (vL bk W v) tu) k = S at d gl lenS
        have kS : kL bk W v (tL bk W v (vL bk W v) tu) (k + 1) = stepU bk W S (v, k) := by rw [kL_succ, hS]
        rw [kS]
        refine ⟨_, rfl, _, rfl, by show 2 ≤ sizeLine; decide, fun q1 nq1 => ?_⟩
        have s7 : Same H7 (upd H7 q1 (.tup [.int (v : Nat), .int (k : Nat)])) := same_upd nq1
        have s07 := smT s6 s7
        have nt : Nk (upd H7 q1 (.tup [.int (v : Nat), .int (k : Nat)])) (.ref q1) (eT (v, k)) := .ofTh (t := (v, k)) upd_same
        generalize upd H7 q1 (.tup [.int (v : Nat), .int (k : Nat)]) = H8 at s7 s07 nt ⊢
        refine ⟨_, rfl, _, rfl, _, rfl, _, _, _, rfl, bk, W, (v, k), okb, hB.same s07, hW.same s07, nt, hv, fun r H9 s9 hl => ?_⟩
        obtain ⟨l, xs, rfl, el, nl⟩ := hl
        have hlen : xs.length = (waysT bk W (v, k)).length := by rw [nl.length, List.length_map]
        have hl60 := waysT_len okb W (v, k)
        refine ⟨l, rfl, ⟨_, .of el⟩, ?_⟩
        refine lc_sm walk_list (fun i acc H10 => NkA H10 acc ((((waysT bk W (v, k)).take i).filter (usab bk W S.1 (v, k))).map eW)) (by rw [hlen]; exact Nat.le_trans hl60 (by decide)) (fun i acc H2 H3 t r => r.keep t) (fun i acc H2 r => ?_) (fun H2 s => .of (s _ _ el)) .nil ?_ ?_
        · rw [r.length, List.length_map]
          exact Nat.le_trans (List.length_filter_le _ _) (List.length_take_le _ _)
        · rintro i x acc H10 H11 Kd Kn hi s10 r kd kn ⟨rfl, hx⟩
          obtain ⟨kk, hk', nx⟩ := nl.get' hx
          obtain ⟨y, hy, rfl⟩ := gmap' hk'
          have s89 := smT s9 s10
          have s010 := smT s07 s89
          refine ⟨rfl, _, rfl, _, rfl, _, rfl, _, rfl, _, rfl, _, _, _, _, _, rfl, bk, W, (v, k), y, p, S.1, g, okb, okW, hB.same s010, hW.same s010, nt.keep (.of s89), nx.keep (.of s10), mem_waysT okb okW hv (List.mem_of_getElem? hy), rfl, d.same (smT s7 s89), fun H12 s12 => ⟨_, rfl, ?_⟩⟩
          refine iteB (fun hu => ?_) (fun hu => ?_)
          · refine ⟨_, rfl, kd _ _ s12 ?_⟩
            rw [filter_snoc hy, if_pos hu, List.map_append]
            exact NkA.snoc (nx.keep (.of (smT s10 s12))) (r.keep (.of s12))
          · refine kn _ s12 ?_
            rw [filter_snoc hy, if_neg (bfl hu), List.append_nil]
            exact r.keep (.of s12)
        · intro acc H10 pL s10 ep np' r
          rw [hlen, List.take_length] at r
          have r : NkA H10 acc ((someU bk W S.1 (v, k)).map eW) := r
          have la : acc.length = (someU bk W S.1 (v, k)).length := by rw [r.length, List.length_map]
          have s810 := smT s9 s10
          have s010 := smT s07 s810
          have d10 := d.same (smT s7 s810)
          refine ⟨_, rfl, _, _, rfl, .inl ⟨_, .of ep, rfl⟩, _, _, rfl, rfl, _, rfl, ?_⟩
          by_cases h0 : acc.length = 0
          · refine iteN (by omega) ⟨_, _, _, _, rfl, s010, ?_⟩
            unfold stepU
            rw [if_pos (by omega)]
            exact ⟨g, d10, fun t ht => (gl t ht).same (smT s7 s810)⟩
          · refine iteD (by omega) ⟨_, rfl, _, rfl, _, rfl, d10.nput encT (t := (v, k)) lenS (nt.keep (.of s810)) fun H13 b13 d13 => ⟨_, _, _, _, rfl, smB np s010 b13, ?_⟩⟩
            unfold stepU
            rw [if_neg (by omega)]
            refine ⟨_, d13, fun t ht => ?_⟩
            unfold updF
            by_cases ht2 : t = (v, k)
            · rw [if_pos ht2]
              show LsK H13 (.ref pL) ((if t = (v, k) then someU bk W S.1 (v, k) else S.2 t).map eW)
              rw [if_pos ht2]
              exact LsK.but ⟨pL, acc, rfl, ep, r⟩ d10 b13
            · rw [if_neg ht2]
              show LsK H13 (g t) ((if t = (v, k) then someU bk W S.1 (v, k) else S.2 t).map eW)
              rw [if_neg ht2]
              exact LsK.but ((gl t ((mem_insL.mp ht).resolve_right ht2)).same (smT s7 s810)) d10 b13
      · rintro σ H6 ⟨x5, x6, x7, x8, rfl, s6, g6⟩
        exact ⟨_, _, _, _, _, rfl, s6, by rw [tL_succ]; exact g6⟩
    · rintro σ H4 ⟨x4, x5, x6, x7, x8, rfl, s4, g4⟩
      exact ⟨_, _, _, _, _, _, rfl, s4, by rw [vL_succ]; exact g4⟩
  · rintro σ H2 ⟨x3, x4, x5, x6, x7, x8, rfl, s2, g2⟩
    obtain ⟨g, d, gl⟩ := g2
    have lenM := vL_len (bk := bk) okb okW (Nat.le_refl W.length)
    refine ⟨_, rfl, p, _, rfl, d, ?_, fun pL ys nL nys => ?_⟩
    · rw [List.map_map]; exact srt_T (Nat.le_trans lenM (by decide))
    have e : ((vL bk W W.length).1.map fun t => (eT t, g t)).map (·.1) = (vL bk W W.length).1.map eT := by rw [List.map_map]; rfl
    rw [e, ksort_T] at nys
    have nys : Paired (Nk H2) ys ((UM bk W).map eT) := nys
    have perm : (UM bk W).Perm (vL bk W W.length).1 := srtT_perm _
    have lys : ys.length = (UM bk W).length := by rw [Paired.length nys, List.length_map]
    have sL : Same H2 (upd H2 pL (.lst ys)) := same_upd nL
    have pnL : p ≠ pL := fun z => by obtain ⟨φ, hp⟩ := Dc.ext d; rw [z, nL] at hp; cases hp
    refine ⟨pL, rfl, ⟨_, .of upd_same⟩, ?_⟩
    refine dc_sm walk_list (fun i kvs => kvs = ((UM bk W).take i).map fun t => (eT t, g t)) (by rw [lys, perm.length_eq]; exact Nat.le_trans lenM (by decide)) (fun i kvs r => by rw [r, List.length_map]; exact List.length_take_le _ _) (fun H s => .of (s _ _ upd_same)) rfl ?_ ?_
    · rintro i x kvs H5 H6 Kd hi s5 r kd ⟨rfl, hx⟩
      obtain ⟨t, ht⟩ : ∃ t, (UM bk W)[i]? = some t := ⟨_, getI (by omega)⟩
      obtain ⟨x', hx', nx⟩ := paired_get nys (gmap ht)
      obtain rfl : x = x' := by rw [hx] at hx'; exact Option.some.inj hx'
      have nx5 : Nk H6 x (eT t) := nx.keep (.of (smT sL s5))
      obtain ⟨b, rfl, eb⟩ := nx5.th
      have tm : t ∈ (vL bk W W.length).1 := perm.mem_iff.mp (List.mem_of_getElem? ht)
      refine ⟨rfl, _, rfl, _, rfl, _, rfl, p, _, rfl, (d.same (smT sL s5)).ngetT encT nx5 tm, ?_⟩
      refine kd _ _ _ (eT t) b rfl nx5 (encT.dp t) (sm0 _) ?_
      rw [r]
      exact put_take encT (perm.nodup_iff.mpr (vL_nd _)) ht
    · intro kvs H5 p2 s5 d5 np2 r
      rw [lys, List.take_length] at r
      subst r
      refine q p2 H5 (smT s2 (smT sL s5)) (none_back (smT s2 sL) np2) ⟨g, d5, fun t ht => (gl t (perm.mem_iff.mp ht)).same (smT sL s5)⟩
end K19
set_option maxHeartbeats 4000000
namespace K19
open PySem PySem.Spec PyProof.Rows L2
theorem stepU_way {bk : Bk} {W : List Vl} {S : US} {t : Thg} (h : ∀ u y, y ∈ S.2 u → y ∈ waysT bk W u) : ∀ u y, y ∈ (stepU bk W S t).2 u → y ∈ waysT bk W u := by
  intro u y hy
  unfold stepU at hy
  split at hy
  · exact h u y hy
  · by_cases e : u = t
    · have hy2 : y ∈ (if u = t then someU bk W S.1 t else S.2 u) := hy
      rw [if_pos e] at hy2
      rw [e]; exact (List.mem_filter.mp hy2).1
    · have hy2 : y ∈ (if u = t then someU bk W S.1 t else S.2 u) := hy
      rw [if_neg e] at hy2
      exact h u y hy2
theorem UF_way {bk : Bk} {W : List Vl} {t : Thg} {y : Wy} (h : y ∈ UF bk W t) : y ∈ waysT bk W t := by
  have hk : ∀ (v : Nat) (S : US) (j : Nat), (∀ u y, y ∈ S.2 u → y ∈ waysT bk W u) → ∀ u y, y ∈ (kL bk W v S j).2 u → y ∈ waysT bk W u := by
    intro v S j h
    induction j with
    | zero => exact h
    | succ j ih => rw [kL_succ]; exact stepU_way ih
  have ht : ∀ (v : Nat) (S : US) (j : Nat), (∀ u y, y ∈ S.2 u → y ∈ waysT bk W u) → ∀ u y, y ∈ (tL bk W v S j).2 u → y ∈ waysT bk W u := by
    intro v S j h
    induction j with
    | zero => exact h
    | succ j ih => rw [tL_succ]; exact hk _ _ _ ih
  have hv : ∀ n, ∀ u y, y ∈ (vL bk W n).2 u → y ∈ waysT bk W u := by
    intro n
    induction n with
    | zero => intro u y h; cases h
    | succ n ih => rw [vL_succ]; exact ht _ _ _ ih
  exact hv _ _ _ h
theorem UM_nd {bk : Bk} {W : List Vl} : (UM bk W).Nodup := (srtT_perm _).nodup_iff.mpr (vL_nd _)
theorem UM_lt {bk : Bk} {W : List Vl} {t : Thg} (h : t ∈ UM bk W) : t.1 < W.length ∧ t.2 < bk.ks := vL_sub ((srtT_perm _).mem_iff.mp h)
theorem UM_len {bk : Bk} {W : List Vl} (ok : bk.Ok) (okW : WbOk bk W) : (UM bk W).length ≤ 45 := by rw [UM, (srtT_perm _).length_eq]; exact vL_len ok okW (Nat.le_refl _)
/-- a choice of the web's -/
structure ChV (bk : Bk) (W : List Vl) (M : List Thg) (ch : Thg → Wy) (rank : Thg → Nat) : Prop where
  perm : M.Perm (UM bk W)
  u : ∀ t ∈ M, ch t ∈ UF bk W t
  ok : ChOk bk W M ch rank
/-- what is none -/
def NoCh (P : Program) (w : World) (K : PySem.W.Frag) (H : Hp) (v : V) (bk : Bk) (W : List Vl) : Prop :=
  (∃ T, TyX K H v (.type T) ∧ kitB T "dict" = some false) ∨ ∃ p kvs, v = .ref p ∧ Dc P w H p kvs ∧ kvs.length ≠ (UM bk W).length
theorem TyX.same {K : PySem.W.Frag} {H H' : Hp} {v : V} {T : String} (h : TyX K H v (.type T)) (s : Same H H') : TyX K H' v (.type T) := by
  cases h with
  | base h =>
    cases h with
    | non => exact .base .non
    | bl => exact .base (.bl _)
    | int => exact .base (.int _)
    | str => exact .base (.str _)
    | flt => exact .base (.flt _)
    | lst e => exact .base (.lst (s _ _ e))
    | frz e => exact .base (.frz (s _ _ e))
    | tup e => exact .base (.tup (s _ _ e))
    | dK e => exact .base (.dK (s _ _ e))
    | dT e => exact .base (.dT (s _ _ e))
  | byt => exact .byt _
  | set e => exact .set (s _ _ e)
  | kList e c => exact .kList e c
  | kTuple e c => exact .kTuple e c
  | kDict e c => exact .kDict e c
  | fTuple e => exact .fTuple (s _ _ e)
  | fDict e => exact .fDict (s _ _ e)
theorem NoCh.same {P : Program} {w : World} {K : PySem.W.Frag} {H H' : Hp} {v : V} {bk : Bk} {W : List Vl} (h : NoCh P w K H v bk W) (s : Same H H') : NoCh P w K H' v bk W := by
  rcases h with ⟨T, h, e⟩ | ⟨p, kvs, h, d, e⟩
  · exact .inl ⟨T, TyX.same h s, e⟩
  · exact .inr ⟨p, kvs, h, d.same s, e⟩
/-- yes or no -/
def ChB (P : Program) (w : World) (K : PySem.W.Frag) (H : Hp) (v : V) (bk : Bk) (W : List Vl) : Bool → Prop
  | true => ∃ M ch rank g p, v = .ref p ∧ ChAt P w H p M ch g ∧ ChV bk W M ch rank
  | false => NoCh P w K H v bk W
theorem ChB.same {P : Program} {w : World} {K : PySem.W.Frag} {H H' : Hp} {v : V} {bk : Bk} {W : List Vl} {r : Bool} (h : ChB P w K H v bk W r) (s : Same H H') : ChB P w K H' v bk W r := by
  cases r with
  | true => obtain ⟨M, ch, rank, g, p, e, a, b⟩ := h; exact ⟨M, ch, rank, g, p, e, a.same s, b⟩
  | false => exact NoCh.same h s
theorem kit_dict {K : PySem.W.Frag} : PySem.W.kitOne K (.type "dict") (.type "dict") = some true := kit_ty (by decide +kernel)
def sp_is_choice_of (P : Program) (w : World) (K : PySem.W.Frag) (CB CW : Addr) : Sp := fun vs H Q _ => ∃ a b c, vs = [a, b, c] ∧ ∃ (bk : Bk) (W : List Vl) (r : Bool), bk.Ok ∧ WbOk bk W ∧ BkAt CB H a bk ∧ WbAt CW H b W ∧ ChB P w K H c bk W r ∧ ∀ H', Same H H' → Q (.bl r) H'
abbrev n_is_choice_of : List Str := ["book", "web", "thing", "usable", "item"]
theorem sc_is_choice_of : FnScope n_is_choice_of ["book", "web", "thing"] (defScope s_is_choice_of) := ⟨rfl, rfl, rfl, by decide +kernel, rfl, by decide +kernel, by decide +kernel⟩
theorem cl_is_choice_of {P : Program} {w : World} {K : PySem.W.Frag} {mg : Str → Option Value} {base : Heap} {CB CW : Addr} (Z : Fx K mg CB CW) : Cl P w K mg base "is_choice_of" 4 ["book", "web", "thing"] (sp_is_choice_of P w K CB CW) := by
  refine Z.d_is_choice_of.cl (N := n_is_choice_of) (k := 3) sc_is_choice_of (fun vs H Q E h => by obtain ⟨_, _, _, rfl, _⟩ := h; rfl) (fun _ _ _ _ _ _ us hl => match us, hl with | [_, _, _], _ => rfl) fun f cdv A outer s H0 E0 hr => ⟨_, (pss_cons (ps_set (i := 3) sc_is_choice_of.nd rfl (Or.inl rfl) (pe_cl (cl_usable_ways (P := P) (w := w) (K := K) (base := base) Z) hr (by decide) rfl (pa_cons (pv 0) (pa_cons (pv 1) pa_nil)))) (pss_cons (ps_if (PW.pt (pw_or (pt_not (pt_val (pe_callB (CallR_or (qisi (by exact ⟨rfl, rfl, rfl⟩ : At _ P w K)) (qisiN (by exact ⟨rfl, rfl, rfl⟩ : At _ P w K))) rfl Z.f_isinstance bt_isinstance (pa_cons (pv 2) (pa_cons (pe_bltn (v := .ty "dict") rfl Z.f_dict bt_dict rfl) pa_nil))))) (pw_or1 (pt_cmpR op_ne (pe_callB (qlenD (by exact ⟨rfl, rfl, rfl⟩ : At _ P w K)) rfl Z.f_len bt_len (pa_cons (pv 2) pa_nil)) (pe_callB (qlenD (by exact ⟨rfl, rfl, rfl⟩ : At _ P w K)) rfl Z.f_len bt_len (pa_cons (pv 3) pa_nil)) (nomark _))))) (pss_one (ps_ret pe_bl)) pss_nil) (pss_cons (ps_for PassesOwn.never rfl (qpiN (by exact ⟨rfl, rfl, rfl⟩ : At _ P w K) (pv 2)) (pg_name (i := 4) sc_is_choice_of.nd rfl (Or.inl rfl)) (pss_cons (ps_if (PW.pt (pw_or (pt_not (pt_val (pe_cl (cl_is_pair (P := P) (w := w) (K := K) (base := base) Z) hr (by decide) rfl (pa_cons (pv 4) pa_nil)))) (pw_or (pt_cmp (qnnot (by exact ⟨rfl, rfl, rfl⟩ : At _ P w K) hr.units (pv 4) (pv 3)) rfl) (pw_or1 (pt_not (pt_val (pe_cl (cl_is_giving (P := P) (w := w) (K := K) (base := base) Z) hr (by decide) rfl (pa_cons (pv 0) (pa_cons (pv 1) (pa_cons (pv 4) (pa_cons (qnget (by exact ⟨rfl, rfl, rfl⟩ : At _ P w K) hr.units (pv 2) (pv 4) (fun _ _ => rfl)) pa_nil))))))))))) (pss_one (ps_ret pe_bl)) pss_nil) (pss_one (ps_if (pt_cmpR (qnotinD (by exact ⟨rfl, rfl, rfl⟩ : At _ P w K) (ru65 hr)) (qnget (by exact ⟨rfl, rfl, rfl⟩ : At _ P w K) hr.units (pv 2) (pv 4) (fun _ _ => rfl)) (qnget (by exact ⟨rfl, rfl, rfl⟩ : At _ P w K) hr.units (pv 3) (pv 4) (fun _ _ => rfl)) rfl) (pss_one (ps_ret pe_bl)) pss_nil)))) (pss_one (ps_ret (pe_not (pe_callB (qany (by exact ⟨rfl, rfl, rfl⟩ : At _ P w K) rfl) rfl Z.f_any bt_any (pa_cons (pe_lc (own := [("item", 4)]) rfl sc_is_choice_of.nd (qpiN (by exact ⟨rfl, rfl, rfl⟩ : At _ P w K) (pv 2)) (blkOk_by (N := n_is_choice_of) (sc := defScope s_is_choice_of) (by decide +kernel)) (fun _ _ _ _ _ => (pg_name (i := 4) sc_is_choice_of.nd rfl (by first | exact Or.inl rfl | exact Or.inr rfl))) (fun _ _ _ _ _ => pts_nil) (fun _ _ _ _ _ => (pe_cl (cl_comes_back (P := P) (w := w) (K := K) (base := base) Z) hr (by decide) rfl (pa_cons (pv 0) (pa_cons (pv 2) (pa_cons (pv 4) pa_nil)))))) pa_nil)))))))), fun vs H Q E h => ?_⟩
  obtain ⟨v0, v1, v2, rfl, h⟩ := h
  obtain ⟨bk, W, r, okb, okW, hB, hW, hC, q⟩ := h
  refine ⟨_, rfl, _, rfl, _, _, rfl, bk, W, okb, okW, hB, hW, fun p H1 s1 np us => ?_⟩
  obtain ⟨gu, du, lu⟩ := us
  cases r with
  | false =>
    rcases hC with ⟨T, ht, hk⟩ | ⟨pc, kvs, rfl, dc, hl⟩
    · exact ⟨_, rfl, .inl ⟨_, _, _, _, false, rfl, .ty _, TyX.same ht s1, kit_ty hk, _, rfl, iteT (q _ s1)⟩⟩
    · refine ⟨_, rfl, .inr ⟨pc, kvs, "dict", true, rfl, dc.same s1, kit_dict, _, rfl, iteF ⟨_, rfl, pc, kvs, rfl, dc.same s1, _, rfl, p, _, rfl, du, rfl, _, rfl, iteNN (fun z => hl ?_) (q _ s1)⟩⟩⟩
      have := V.int.inj z
      rw [List.length_map] at this; omega
  | true =>
    obtain ⟨M, ch, rank, g, pc, rfl, hc, hv⟩ := hC
    have hc1 := hc.same s1
    have hlen := hv.perm.length_eq
    refine ⟨_, rfl, .inr ⟨pc, _, "dict", true, rfl, hc1.d, kit_dict, _, rfl, iteF ⟨_, rfl, pc, _, rfl, hc1.d, _, rfl, p, _, rfl, du, rfl, _, rfl, iteND ?_ ?_⟩⟩⟩
    · rw [List.length_map, List.length_map, hlen]
    refine ⟨_, rfl, pc, _, rfl, hc1.d, fun φ bs hφ pbs => ?_⟩
    have lbs : bs.length = M.length := by rw [← Paired.length pbs, List.length_map]
    refine for_it walk_n (fun i σ H2 => ∃ x4, σ = [some v0, some v1, some (.ref pc), some (.ref p), x4] ∧ Same H1 H2) ⟨none, rfl, sm0 _⟩ (fun i σ H2 _ ⟨_, _, s2⟩ => s2 _ _ hφ) ?_ ?_
    · rintro i x σ H2 H3 hi ⟨x4, rfl, s2⟩ ⟨rfl, b, hb, rfl⟩
      obtain ⟨t, ht⟩ : ∃ t, M[i]? = some t := ⟨_, getI (by omega)⟩
      obtain ⟨b', hb', nt0⟩ := paired_getL pbs (gmap ht)
      obtain rfl : b = b' := by rw [hb] at hb'; exact Option.some.inj hb'
      have nt : Nk H3 (.ref b) (eT t) := (show Nk H1 (.ref b) (eT t) from nt0).keep (.of s2)
      have htM := List.mem_of_getElem? ht
      have htU := hv.perm.mem_iff.mp htM
      have hc2 := hc1.same s2
      refine ⟨_, rfl, _, rfl, t, nt, fun H4 s4 => ⟨_, rfl, iteF ?_⟩⟩
      have du4 := du.same (smT s2 s4)
      have hc4 := hc2.same s4
      refine ⟨_, rfl, _, rfl, p, _, rfl, du4.ngetT encT (nt.keep (.of s4)) htU, _, rfl, iteF ?_⟩
      have s14 := smT s1 (smT s2 s4)
      have w1 := UF_way (hv.u t htM)
      refine ⟨_, rfl, _, rfl, _, rfl, _, rfl, _, rfl, pc, _, rfl, hc4.d.ngetT encT (nt.keep (.of s4)) htM, _, _, _, _, rfl, bk, W, t, ch t, okb, hB.same s14, hW.same s14, nt.keep (.of s4), hc4.v t htM, (UM_lt htU).1, w1, fun H5 s5 => ⟨_, rfl, iteF ?_⟩⟩
      have hc5 := hc4.same s5
      have du5 := du4.same s5
      have nt5 := nt.keep (.of (smT s4 s5))
      refine ⟨_, rfl, _, rfl, pc, _, rfl, hc5.d.ngetT encT nt5 htM, _, rfl, _, rfl, p, _, rfl, du5.ngetT encT nt5 htU, ?_⟩
      have l5 := (lu t htU).same (smT s2 (smT s4 s5))
      refine ⟨(eW (ch t)).data, _, (hc5.v t htM).dp, l5.dp, shp1 (lay_W _), shp_list fun k hk => ?_, _, rfl, ?_⟩
      · obtain ⟨z, _, rfl⟩ := List.mem_map.mp hk
        exact lay_W z
      rw [any_eqv (List.mem_map_of_mem (hv.u t htM))]
      exact iteF ⟨_, rfl, smT s2 (smT s4 s5)⟩
    · rintro σ H2 ⟨x4, rfl, s2⟩
      have hc2 := hc1.same s2
      refine ⟨_, rfl, pc, _, rfl, hc2.d, fun φ2 bs2 hφ2 pbs2 => ?_⟩
      have lbs2 : bs2.length = M.length := by rw [← Paired.length pbs2, List.length_map]
      refine lc_sm walk_n (RAll fun _ => .bl ((fun _ => false) 0)) (by rw [lbs2]; exact hc.d.len) (fun _ _ _ _ _ r => r) (fun _ _ _ r => r.len) (fun H3 s => s _ _ hφ2) rfl ?_ ?_
      · rintro i x acc H3 H4 Kd Kn hi s3 r kd kn ⟨rfl, b, hb, rfl⟩
        obtain ⟨t, ht⟩ : ∃ t, M[i]? = some t := ⟨_, getI (by omega)⟩
        obtain ⟨b', hb', nt0⟩ := paired_getL pbs2 (gmap ht)
        obtain rfl : b = b' := by rw [hb] at hb'; exact Option.some.inj hb'
        have nt : Nk H4 (.ref b) (eT t) := (show Nk H2 (.ref b) (eT t) from nt0).keep (.of s3)
        exact ⟨rfl, yes ⟨_, rfl, _, rfl, _, rfl, _, _, _, rfl, bk, W, M, ch, rank, pc, g, t, okb, hB.same (smT s1 (smT s2 s3)), rfl, hc2.same s3, hv.ok, nt, List.mem_of_getElem? ht, fun H5 s5 => kd _ _ s5 r.step⟩⟩
      · intro acc H3 pl s3 ep np3 r
        exact ⟨pl, _, rfl, .of (by rw [ep, r.bl]), _, rfl, qT (by rw [any_const]; rfl) (q _ (smT s1 (smT s2 s3)))⟩
def sp_is_choice (P : Program) (w : World) (K : PySem.W.Frag) (CB CW : Addr) : Sp := sp_is_choice_of P w K CB CW
abbrev n_is_choice : List Str := ["book", "web", "thing"]
theorem sc_is_choice : FnScope n_is_choice ["book", "web", "thing"] (defScope s_is_choice) := ⟨rfl, rfl, rfl, by decide +kernel, rfl, by decide +kernel, by decide +kernel⟩
theorem cl_is_choice {P : Program} {w : World} {K : PySem.W.Frag} {mg : Str → Option Value} {base : Heap} {CB CW : Addr} (Z : Fx K mg CB CW) : Cl P w K mg base "is_choice" 5 ["book", "web", "thing"] (sp_is_choice P w K CB CW) := by
  refine Z.d_is_choice.cl (N := n_is_choice) (k := 4) sc_is_choice (fun vs H Q E h => by obtain ⟨_, _, _, rfl, _⟩ := h; rfl) (fun _ _ _ _ _ _ us hl => match us, hl with | [_, _, _], _ => rfl) fun f cdv A outer s H0 E0 hr => ⟨_, (pss_cons (ps_expr (pe_cl (cl_check_web (P := P) (w := w) (K := K) (base := base) Z) hr (by decide) rfl (pa_cons (pv 0) (pa_cons (pv 1) pa_nil)))) (pss_one (ps_ret (pe_cl (cl_is_choice_of (P := P) (w := w) (K := K) (base := base) Z) hr (by decide) rfl (pa_cons (pv 0) (pa_cons (pv 1) (pa_cons (pv 2) pa_nil))))))), fun vs H Q E h => ?_⟩
  obtain ⟨v0, v1, v2, rfl, h⟩ := h
  obtain ⟨bk, W, r, okb, okW, hB, hW, hC, q⟩ := h
  exact ⟨_, rfl, _, rfl, _, _, rfl, bk, W, hB, hW, okW, fun H1 s1 => ⟨_, rfl, _, rfl, _, rfl, _, _, _, rfl, bk, W, r, okb, okW, hB.same s1, hW.same s1, hC.same s1, fun H2 s2 => q _ (smT s1 s2)⟩⟩
def sp_check_choice (P : Program) (w : World) (K : PySem.W.Frag) (CB CW : Addr) : Sp := fun vs H Q _ => ∃ a b c, vs = [a, b, c] ∧ ∃ (bk : Bk) (W : List Vl), bk.Ok ∧ WbOk bk W ∧ BkAt CB H a bk ∧ WbAt CW H b W ∧ ChB P w K H c bk W true ∧ ∀ H', Same H H' → Q .non H'
abbrev n_check_choice : List Str := ["book", "web", "thing"]
theorem sc_check_choice : FnScope n_check_choice ["book", "web", "thing"] (defScope s_check_choice) := ⟨rfl, rfl, rfl, by decide +kernel, rfl, by decide +kernel, by decide +kernel⟩
theorem cl_check_choice {P : Program} {w : World} {K : PySem.W.Frag} {mg : Str → Option Value} {base : Heap} {CB CW : Addr} (Z : Fx K mg CB CW) : Cl P w K mg base "check_choice" 6 ["book", "web", "thing"] (sp_check_choice P w K CB CW) := by
  refine Z.d_check_choice.cl (N := n_check_choice) (k := 5) sc_check_choice (fun vs H Q E h => by obtain ⟨_, _, _, rfl, _⟩ := h; rfl) (fun _ _ _ _ _ _ us hl => match us, hl with | [_, _, _], _ => rfl) fun f cdv A outer s H0 E0 hr => ⟨_, (pss_one (ps_if (pt_not (pt_val (pe_cl (cl_is_choice (P := P) (w := w) (K := K) (base := base) Z) hr (by decide) rfl (pa_cons (pv 0) (pa_cons (pv 1) (pa_cons (pv 2) pa_nil)))))) (pss_one ps_never) pss_nil)), fun vs H Q E h => ?_⟩
  obtain ⟨v0, v1, v2, rfl, h⟩ := h
  obtain ⟨bk, W, okb, okW, hB, hW, hC, q⟩ := h
  exact ⟨_, rfl, _, rfl, _, rfl, _, _, _, rfl, bk, W, true, okb, okW, hB, hW, hC, fun H1 s1 => ⟨_, rfl, iteF (q _ s1)⟩⟩
def costT (bk : Bk) (ch : Thg → Wy) (ts : List Thg) : Int := (ts.map fun t => (priceW bk (ch t) : Int)).sum
theorem map_at {α β : Type} (l : List α) (F : α → β) (d : α) : (List.range l.length).map (fun i => F (l.getD i d)) = l.map F := by
  refine List.ext_getElem (by rw [List.length_map, List.length_map, List.length_range]) fun i h1 h2 => ?_
  have hi : i < l.length := by rw [List.length_map] at h2; exact h2
  rw [List.getElem_map, List.getElem_map, List.getElem_range, List.getD_eq_getElem?_getD, getI hi]; rfl
def sp_raw_cost (P : Program) (w : World) (K : PySem.W.Frag) (CB CW : Addr) : Sp := fun vs H Q _ => ∃ a b c, vs = [a, b, c] ∧ ∃ (bk : Bk) (W : List Vl) (M : List Thg) (ch : Thg → Wy) (p : Addr) (g : Thg → V) (ts : List Thg), BkAt CB H a bk ∧ b = .ref p ∧ ChAt P w H p M ch g ∧ (∀ t ∈ M, WyOk bk W t (ch t)) ∧ LsK H c (ts.map eT) ∧ ts.length ≤ sizeLine ∧ (∀ t ∈ ts, t ∈ M) ∧ ∀ H', Same H H' → Q (.int (costT bk ch ts)) H'
abbrev n_raw_cost : List Str := ["book", "choice", "things", "thing"]
theorem sc_raw_cost : FnScope n_raw_cost ["book", "choice", "things"] (defScope s_raw_cost) := ⟨rfl, rfl, rfl, by decide +kernel, rfl, by decide +kernel, by decide +kernel⟩
theorem cl_raw_cost {P : Program} {w : World} {K : PySem.W.Frag} {mg : Str → Option Value} {base : Heap} {CB CW : Addr} (Z : Fx K mg CB CW) : Cl P w K mg base "raw_cost" 2 ["book", "choice", "things"] (sp_raw_cost P w K CB CW) := by
  refine Z.d_raw_cost.cl (N := n_raw_cost) (k := 1) sc_raw_cost (fun vs H Q E h => by obtain ⟨_, _, _, rfl, _⟩ := h; rfl) (fun _ _ _ _ _ _ us hl => match us, hl with | [_, _, _], _ => rfl) fun f cdv A outer s H0 E0 hr => ⟨_, (pss_one (ps_ret (pe_callB (qsum (by exact ⟨rfl, rfl, rfl⟩ : At _ P w K) rfl) rfl Z.f_sum bt_sum (pa_cons (pe_lc (own := [("thing", 3)]) rfl sc_raw_cost.nd (qpiL (by exact ⟨rfl, rfl, rfl⟩ : At _ P w K) (pv 2)) (blkOk_by (N := n_raw_cost) (sc := defScope s_raw_cost) (by decide +kernel)) (fun _ _ _ _ _ => (pg_name (i := 3) sc_raw_cost.nd rfl (by first | exact Or.inl rfl | exact Or.inr rfl))) (fun _ _ _ _ _ => pts_nil) (fun _ _ _ _ _ => (pe_cl (cl_price_of (P := P) (w := w) (K := K) (base := base) Z) hr (by decide) rfl (pa_cons (pv 0) (pa_cons (qnget (by exact ⟨rfl, rfl, rfl⟩ : At _ P w K) hr.units (pv 1) (pv 3) (fun _ _ => rfl)) pa_nil))))) pa_nil)))), fun vs H Q E h => ?_⟩
  obtain ⟨v0, v1, v2, rfl, h⟩ := h
  obtain ⟨bk, W, M, ch, p, g, ts, hB, rfl, hc, ok, ⟨l, xs, rfl, el, nl⟩, hz, hm, q⟩ := h
  have hlen : xs.length = ts.length := by rw [nl.length, List.length_map]
  refine ⟨_, rfl, l, rfl, ⟨_, .of el⟩, ?_⟩
  refine lc_sm walk_list (RAll fun i => .int ((fun i => (priceW bk (ch (ts.getD i (0, 0))) : Int)) i)) (by rw [hlen]; exact hz) (fun _ _ _ _ _ r => r) (fun _ _ _ r => r.len) (fun H2 s => .of (s _ _ el)) rfl ?_ ?_
  · rintro i x acc H2 H3 Kd Kn hi s r kd kn ⟨rfl, hx⟩
    obtain ⟨k, hk, nx⟩ := nl.get' hx
    obtain ⟨t, ht, rfl⟩ := gmap' hk
    have tm := hm t (List.mem_of_getElem? ht)
    have hc3 := hc.same s
    refine ⟨rfl, yes ⟨_, rfl, _, rfl, _, rfl, p, _, rfl, hc3.d.ngetT encT (nx.keep (.of s)) tm, _, _, rfl, bk, ch t, priceW bk (ch t), hB.same s, hc3.v t tm, (ok t tm).price, kd _ _ (sm0 _) ?_⟩⟩
    have e : ts.getD i (0, 0) = t := by rw [List.getD_eq_getElem?_getD, ht]; rfl
    have := RAll.step (f := fun i => V.int (priceW bk (ch (ts.getD i (0, 0))) : Int)) (H' := H3) r
    rw [e] at this; exact this
  · intro acc H2 p2 s ep np r
    refine ⟨p2, _, rfl, .of (by rw [ep, r.ints]), ?_⟩
    rw [hlen, map_at ts (fun t => (priceW bk (ch t) : Int)) (0, 0)]
    exact q _ s
end K19
set_option maxHeartbeats 4000000
namespace K19
open PySem PySem.Spec PyProof.Rows L2
/-! ### what is needed -/
inductive Rch (bk : Bk) (W : List Vl) (ch : Thg → Wy) : Thg → Thg → Prop
  | self (t : Thg) : Rch bk W ch t t
  | step {t n u : Thg} : n ∈ needsT bk W t (ch t) → Rch bk W ch n u → Rch bk W ch t u
theorem Rch.iff {bk : Bk} {W : List Vl} {ch : Thg → Wy} {t u : Thg} : Rch bk W ch t u ↔ u = t ∨ ∃ n ∈ needsT bk W t (ch t), Rch bk W ch n u := by
  constructor
  · intro h
    cases h with
    | self => exact .inl rfl
    | step a b => exact .inr ⟨_, a, b⟩
  · rintro (rfl | ⟨n, a, b⟩)
    · exact .self _
    · exact .step a b
theorem Rch.mem {bk : Bk} {W : List Vl} {ch : Thg → Wy} {M : List Thg} {rank : Thg → Nat} (ok : ChOk bk W M ch rank) {t u : Thg} (h : Rch bk W ch t u) : t ∈ M → u ∈ M := by
  induction h with
  | self => exact id
  | step a b ih => intro ht; exact ih (ok.nd _ ht _ a).1
theorem Rch.rank {bk : Bk} {W : List Vl} {ch : Thg → Wy} {M : List Thg} {rank : Thg → Nat} (ok : ChOk bk W M ch rank) {t u : Thg} (h : Rch bk W ch t u) : t ∈ M → rank u ≤ rank t := by
  induction h with
  | self => intro _; exact Nat.le_refl _
  | step a b ih => intro ht; exact Nat.le_trans (ih (ok.nd _ ht _ a).1) (Nat.le_of_lt (ok.nd _ ht _ a).2)
/-- a small rank -/
theorem ChOk.small {bk : Bk} {W : List Vl} {ch : Thg → Wy} {M : List Thg} {rank : Thg → Nat} (ok : ChOk bk W M ch rank) : ∃ rk, ChOk bk W M ch rk ∧ ∀ t ∈ M, rk t < M.length := by
  refine ⟨fun t => (M.filter fun u => decide (rank u < rank t)).length, ⟨ok.wy, fun t ht n hn => ?_⟩, fun t ht => ?_⟩
  · obtain ⟨h1, h2⟩ := ok.nd t ht n hn
    refine ⟨h1, ?_⟩
    have sub : M.filter (fun u => decide (rank u < rank n)) = (M.filter fun u => decide (rank u < rank t)).filter fun u => decide (rank u < rank n) := by
      rw [List.filter_filter]
      refine List.filter_congr fun u _ => ?_
      rw [Bool.eq_iff_iff, Bool.and_eq_true, decide_eq_true_iff, decide_eq_true_iff]
      omega
    show (M.filter fun u => decide (rank u < rank n)).length < (M.filter fun u => decide (rank u < rank t)).length
    rw [sub]
    refine Nat.lt_of_le_of_ne (List.length_filter_le _ _) fun e => ?_
    have := (List.filter_eq_self.mp (List.filter_eq_self.mpr (List.length_filter_eq_length_iff.mp e))) n (List.mem_filter.mpr ⟨h1, decide_eq_true h2⟩)
    rw [decide_eq_true_iff] at this
    exact Nat.lt_irrefl _ this
  · refine Nat.lt_of_le_of_ne (List.length_filter_le _ _) fun e => ?_
    have := List.length_filter_eq_length_iff.mp e t ht
    rw [decide_eq_true_iff] at this
    exact Nat.lt_irrefl _ this
/-! ### merged dicts -/
section
variable {α : Type} [DecidableEq α] {e : α → NestedKey}
theorem mem_foldl_insL {u : α} : ∀ {l2 l : List α}, u ∈ l2.foldl insL l ↔ u ∈ l ∨ u ∈ l2
  | [], l => by simp
  | x :: l2, l => by
    rw [List.foldl_cons, mem_foldl_insL, mem_insL, List.mem_cons]
    constructor
    · rintro ((h | h) | h)
      · exact .inl h
      · exact .inr (.inl h)
      · exact .inr (.inr h)
    · rintro (h | h | h)
      · exact .inl (.inl h)
      · exact .inl (.inr h)
      · exact .inr h
theorem merge_DM (E : Enc e) {f2 : α → V} : ∀ (l2 l : List α) (f : α → V), ∃ f' : α → V, mergeN (l.map fun t => (e t, f t)) (l2.map fun t => (e t, f2 t)) = (l2.foldl insL l).map fun t => (e t, f' t)
  | [], l, f => ⟨f, rfl⟩
  | x :: l2, l, f => by
    obtain ⟨f', h⟩ := merge_DM E l2 (insL l x) (updF f x (f2 x))
    refine ⟨f', ?_⟩
    rw [List.foldl_cons, ← h, ← putK_map_enc E]
    rfl
end
theorem DM.but {α : Type} {P : Program} {w : World} {H H' : Hp} {p q : Addr} {e : α → NestedKey} {ts : List α} {f : α → V} (d : DM P w H q e ts f) (b : But p H H') (hp : q ≠ p) (ht : ∀ xs, H p ≠ some (.tup xs)) : DM P w H' q e ts f := Dc.but d b hp ht
theorem DM.ext {α : Type} {P : Program} {w : World} {H : Hp} {p : Addr} {e : α → NestedKey} {ts : List α} {f : α → V} (d : DM P w H p e ts f) : ∃ φ, H p = some (.ext φ) := Dc.ext d
/-- what t needs, as a dict -/
def LotAt (P : Program) (w : World) (H : Hp) (p : Addr) (v : V) (bk : Bk) (W : List Vl) (ch : Thg → Wy) (t : Thg) : Prop := ∃ q l f, v = .ref q ∧ q ≠ p ∧ DM P w H q eT l f ∧ ∀ u, u ∈ l ↔ Rch bk W ch t u
theorem LotAt.same {P : Program} {w : World} {H H' : Hp} {p : Addr} {v : V} {bk : Bk} {W : List Vl} {ch : Thg → Wy} {t : Thg} (x : LotAt P w H p v bk W ch t) (s : Same H H') : LotAt P w H' p v bk W ch t := by
  obtain ⟨q, l, f, a, b, c, d⟩ := x
  exact ⟨q, l, f, a, b, c.same s, d⟩
theorem LotAt.lst {P : Program} {w : World} {H : Hp} {p pw : Addr} {v : V} {bk : Bk} {W : List Vl} {ch : Thg → Wy} {t : Thg} {xs ys : List V} (x : LotAt P w H p v bk W ch t) (e : H pw = some (.lst xs)) : LotAt P w (upd H pw (.lst ys)) p v bk W ch t := by
  obtain ⟨q, l, f, a, b, c, d⟩ := x
  obtain ⟨φ, hq⟩ := c.ext
  exact ⟨q, l, f, a, b, c.but But.upd (fun z => by rw [z, e] at hq; cases hq) (fun xs z => by rw [e] at z; cases z), d⟩
def LotsAt (P : Program) (w : World) (H : Hp) (p : Addr) (bk : Bk) (W : List Vl) (M : List Thg) (ch : Thg → Wy) : Prop := ∃ ks g, DM P w H p eT ks g ∧ (∀ t ∈ M, t ∈ ks) ∧ ∀ t ∈ ks, LotAt P w H p (g t) bk W ch t
theorem LotsAt.same {P : Program} {w : World} {H H' : Hp} {p : Addr} {bk : Bk} {W : List Vl} {M : List Thg} {ch : Thg → Wy} (x : LotsAt P w H p bk W M ch) (s : Same H H') : LotsAt P w H' p bk W M ch := by
  obtain ⟨ks, g, a, b, c⟩ := x
  exact ⟨ks, g, a.same s, b, fun t ht => (c t ht).same s⟩
/-- the measure of the walk through what is needed -/
def topM (R : Nat) (rk : Thg → Nat) (ks stack : List Thg) : Nat := match stack.getLast? with
  | none => 0
  | some t => if memB t ks = true then 3 * R else 3 * rk t
def meas (R : Nat) (rk : Thg → Nat) (M ks stack : List Thg) : Nat := (M.filter fun t => !memB t ks).length * (3 * R + 1) + stack.length + topM R rk ks stack
theorem topM_le {R : Nat} {rk : Thg → Nat} {ks stack M : List Thg} (h : ∀ t ∈ stack, t ∈ M) (hr : ∀ t ∈ M, rk t < R) : topM R rk ks stack ≤ 3 * R := by
  unfold topM
  cases e : stack.getLast? with
  | none => exact Nat.zero_le _
  | some t =>
    show (if _ then _ else _) ≤ _
    split
    · exact Nat.le_refl _
    · exact Nat.mul_le_mul_left 3 (Nat.le_of_lt (hr t (h t (List.mem_of_getLast? e))))
theorem filter_ins {M ks : List Thg} {t : Thg} (ht : t ∈ M) (hk : t ∉ ks) : (M.filter fun u => !memB u (insL ks t)).length < (M.filter fun u => !memB u ks).length := by
  have sub : M.filter (fun u => !memB u (insL ks t)) = (M.filter fun u => !memB u ks).filter fun u => !memB u (insL ks t) := by
    rw [List.filter_filter]
    refine List.filter_congr fun u _ => ?_
    by_cases h : u ∈ ks
    · rw [memB_t (mem_insL.mpr (.inl h)), memB_t h]; rfl
    · rw [memB_f h]; simp
  rw [sub]
  refine Nat.lt_of_le_of_ne (List.length_filter_le _ _) fun e => ?_
  have := List.length_filter_eq_length_iff.mp e t (List.mem_filter.mpr ⟨ht, by rw [memB_f hk]; rfl⟩)
  rw [memB_t (mem_insL.mpr (.inr rfl))] at this
  cases this
theorem meas_pop {R : Nat} {rk : Thg → Nat} {M ks st : List Thg} {t : Thg} (hs : ∀ u ∈ st ++ [t], u ∈ M) (hr : ∀ t ∈ M, rk t < R) : meas R rk M (insL ks t) st < meas R rk M ks (st ++ [t]) := by
  unfold meas
  have h1 := topM_le (ks := insL ks t) (stack := st) (R := R) (rk := rk) (fun u hu => hs u (List.mem_append_left _ hu)) hr
  have ht : t ∈ M := hs t (by simp)
  have e : topM R rk ks (st ++ [t]) = if memB t ks = true then 3 * R else 3 * rk t := by
    unfold topM; rw [List.getLast?_append]; rfl
  rw [e, List.length_append, List.length_singleton]
  by_cases hk : t ∈ ks
  · rw [memB_t hk, if_pos rfl, insL_old hk]
    have := topM_le (ks := ks) (stack := st) (R := R) (rk := rk) (fun u hu => hs u (List.mem_append_left _ hu)) hr
    omega
  · have h2 := filter_ins ht hk
    have h3 : (M.filter fun u => !memB u (insL ks t)).length * (3 * R + 1) + (3 * R + 1) ≤ (M.filter fun u => !memB u ks).length * (3 * R + 1) := by
      rw [← Nat.succ_mul]; exact Nat.mul_le_mul_right _ h2
    omega
theorem meas_push {R : Nat} {rk : Thg → Nat} {M ks st ms : List Thg} {t : Thg} (hk : t ∉ ks) (hm : ms ≠ []) (h2 : ms.length ≤ 2) (hms : ∀ n ∈ ms, n ∉ ks ∧ rk n < rk t) : meas R rk M ks ((st ++ [t]) ++ ms) < meas R rk M ks (st ++ [t]) := by
  unfold meas
  have e : topM R rk ks (st ++ [t]) = 3 * rk t := by
    unfold topM; rw [List.getLast?_append]
    show (if memB t ks = true then 3 * R else 3 * rk t) = _
    rw [memB_f hk, if_neg (by decide)]
  have e2 : ∃ n ∈ ms, topM R rk ks ((st ++ [t]) ++ ms) = 3 * rk n := by
    unfold topM
    rw [List.getLast?_append]
    cases e3 : ms.getLast? with
    | none => exact absurd (List.getLast?_eq_none_iff.mp e3) hm
    | some n =>
      have hn := List.mem_of_getLast? e3
      refine ⟨n, hn, ?_⟩
      show (if memB n ks = true then 3 * R else 3 * rk n) = _
      rw [memB_f (hms _ hn).1, if_neg (by decide)]
  obtain ⟨n, hn, e2⟩ := e2
  have := (hms n hn).2
  rw [e, e2, List.length_append]
  omega
end K19
set_option maxHeartbeats 4000000
namespace K19
open PySem PySem.Spec PyProof.Rows L2
theorem snoc_of {α : Type} {l : List α} (h : l.length ≠ 0) : ∃ st t, l = st ++ [t] := by
  cases e : l.getLast? with
  | none => rw [List.getLast?_eq_none_iff.mp e] at h; exact absurd rfl h
  | some t =>
    refine ⟨l.dropLast, t, ?_⟩
    have hne : l ≠ [] := fun z => h (by rw [z]; rfl)
    have h2 := List.dropLast_concat_getLast hne
    rw [List.getLast?_eq_some_getLast hne] at e
    rw [← Option.some.inj e, h2]
theorem NkA.snocE {H : Hp} {k : NestedKey} : ∀ {xs : List V} {ks : List NestedKey}, NkA H xs (ks ++ [k]) → ∃ ys v, xs = ys ++ [v] ∧ NkA H ys ks ∧ Nk H v k
  | _, [], .cons a .nil => ⟨[], _, rfl, .nil, a⟩
  | _, _ :: _, .cons a b => by
    obtain ⟨ys, v, e, h1, h2⟩ := NkA.snocE b
    exact ⟨_ :: ys, v, by rw [e]; rfl, .cons a h1, h2⟩
theorem NkA.app {H : Hp} : ∀ {xs ys : List V} {ks ls : List NestedKey}, NkA H xs ks → NkA H ys ls → NkA H (xs ++ ys) (ks ++ ls)
  | _, _, _, _, .nil, h => h
  | _, _, _, _, .cons a b, h => .cons a (NkA.app b h)
theorem nk_paired {H : Hp} : ∀ {M : List Thg} {g : Thg → V} {bs : List Addr}, Paired (fun (kv : NestedKey × V) (b : Addr) => Nk H (.ref b) kv.1) (M.map fun t => (eT t, g t)) bs → NkA H (bs.map V.ref) (M.map eT)
  | [], _, _, h => by cases h; exact .nil
  | t :: M, g, _, h => by
    cases h with
    | cons a b => exact .cons a (nk_paired b)
theorem chkpt {H : Hp} {pw : Addr} {xs ys : List V} (e : H pw = some (.lst xs)) : KpT H (upd H pw (.lst ys)) := But.upd.kpt fun zs z => by rw [e] at z; cases z
def sp_all_needed (P : Program) (w : World) (K : PySem.W.Frag) (CB CW : Addr) : Sp := fun vs H Q _ => ∃ a b c, vs = [a, b, c] ∧ ∃ (bk : Bk) (W : List Vl) (M : List Thg) (ch : Thg → Wy) (rank : Thg → Nat) (pc : Addr) (g : Thg → V), bk.Ok ∧ WbOk bk W ∧ BkAt CB H a bk ∧ WbAt CW H b W ∧ c = .ref pc ∧ ChAt P w H pc M ch g ∧ ChOk bk W M ch rank ∧ M.length ≤ 45 ∧
  ∀ p H', Same H H' → LotsAt P w H' p bk W M ch → Q (.ref p) H'
/-- what stands at each turn of the walk -/
structure AnI (P : Program) (w : World) (H0 H : Hp) (bk : Bk) (W : List Vl) (M : List Thg) (ch : Thg → Wy) (p pw : Addr) (stack ks : List Thg) (vs : List V) (g : Thg → V) : Prop where
  s : Same H0 H
  ew : H pw = some (.lst vs)
  nv : NkA H vs (stack.map eT)
  sm : ∀ t ∈ stack, t ∈ M
  d : DM P w H p eT ks g
  lot : ∀ t ∈ ks, t ∈ M ∧ LotAt P w H p (g t) bk W ch t ∧ ∀ n ∈ needsT bk W t (ch t), n ∈ ks
  all : ∀ t ∈ M, t ∈ ks ∨ t ∈ stack
abbrev n_all_needed : List Str := ["book", "web", "choice", "found", "waiting", "here", "due", "missing", "inner", "need"]
theorem sc_all_needed : FnScope n_all_needed ["book", "web", "choice"] (defScope s_all_needed) := ⟨rfl, rfl, rfl, by decide +kernel, rfl, by decide +kernel, by decide +kernel⟩
theorem cl_all_needed {P : Program} {w : World} {K : PySem.W.Frag} {mg : Str → Option Value} {base : Heap} {CB CW : Addr} (Z : Fx K mg CB CW) : Cl P w K mg base "all_needed" 3 ["book", "web", "choice"] (sp_all_needed P w K CB CW) := by
  refine Z.d_all_needed.cl (N := n_all_needed) (k := 2) sc_all_needed (fun vs H Q E h => by obtain ⟨_, _, _, rfl, _⟩ := h; rfl) (fun _ _ _ _ _ _ us hl => match us, hl with | [_, _, _], _ => rfl) fun f cdv A outer s H0 E0 hr => ⟨_, (pss_cons (ps_set (i := 3) sc_all_needed.nd rfl (Or.inr rfl) (qdnew (by exact ⟨rfl, rfl, rfl⟩ : At _ P w K))) (pss_cons (ps_set (i := 4) sc_all_needed.nd rfl (Or.inl rfl) (pe_callTy (qlstN (by exact ⟨rfl, rfl, rfl⟩ : At _ P w K) rfl) rfl Z.f_list bt_list (pa_cons (pv 2) pa_nil))) (pss_cons (ps_while PassesOwn.never (pt_cmpR op_gt (pe_callB (qlen (by exact ⟨rfl, rfl, rfl⟩ : At _ P w K)) rfl Z.f_len bt_len (pa_cons (pv 4) pa_nil)) pe_int (nomark _)) (pss_cons (ps_set (i := 5) sc_all_needed.nd rfl (Or.inl rfl) (pe_ix (qixL (by exact ⟨rfl, rfl, rfl⟩ : At _ P w K)) (pv 4) (pe_un un_neg pe_int) (fun _ _ => rfl))) (pss_cons (ps_set (i := 6) sc_all_needed.nd rfl (Or.inl rfl) (pe_cl (cl_raw_needs (P := P) (w := w) (K := K) (base := base) Z) hr (by decide) rfl (pa_cons (pv 0) (pa_cons (pv 1) (pa_cons (pv 5) (pa_cons (qnget (by exact ⟨rfl, rfl, rfl⟩ : At _ P w K) hr.units (pv 2) (pv 5) (fun _ _ => rfl)) pa_nil)))))) (pss_cons (ps_setLc (i := 7) (own := [("need", 9)]) rfl sc_all_needed.nd rfl rfl (sw_true rfl rfl rfl (by decide +kernel)) (qpiT (by exact ⟨rfl, rfl, rfl⟩ : At _ P w K) (pv 6)) (blkOk_by (N := n_all_needed) (sc := defScope s_all_needed) (by decide +kernel)) (fun _ _ _ _ _ => (pg_name (i := 9) sc_all_needed.nd rfl (by first | exact Or.inl rfl | exact Or.inr rfl))) (fun _ _ _ _ _ => (pts_one (pt_cmp (qnnot (by exact ⟨rfl, rfl, rfl⟩ : At _ P w K) hr.units (pv 9) (pv 3)) rfl))) (fun _ _ _ _ _ => (pv 9))) (pss_one (ps_if (PW.pt (pw_or (pt_cmp (qnin (by exact ⟨rfl, rfl, rfl⟩ : At _ P w K) hr.units (pv 5) (pv 3)) rfl) (pw_or1 (pt_cmpR op_eq (pe_callB (qlen (by exact ⟨rfl, rfl, rfl⟩ : At _ P w K)) rfl Z.f_len bt_len (pa_cons (pv 7) pa_nil)) pe_int (nomark _))))) (pss_cons (ps_expr (qbm0 (by exact ⟨rfl, rfl, rfl⟩ : At _ P w K) PySem.F.plainAttrs_list PySem.F.slot_list_pop PySem.F.type_list_pop mt_pop (pv 4))) (pss_cons (ps_set (i := 8) sc_all_needed.nd rfl (Or.inl rfl) (qnone1 (by exact ⟨rfl, rfl, rfl⟩ : At _ P w K) hr.units (pv 5) pe_bl rfl)) (pss_cons (ps_for PassesOwn.never rfl (qpiT (by exact ⟨rfl, rfl, rfl⟩ : At _ P w K) (pv 6)) (pg_name (i := 9) sc_all_needed.nd rfl (Or.inl rfl)) (pss_one (ps_expr (qnupd (by exact ⟨rfl, rfl, rfl⟩ : At _ P w K) hr.units (pv 8) (qnget (by exact ⟨rfl, rfl, rfl⟩ : At _ P w K) hr.units (pv 3) (pv 9) (fun _ _ => rfl)) ⟨rfl, rfl, rfl, rfl⟩)))) (pss_one (qnput (by exact ⟨rfl, rfl, rfl⟩ : At _ P w K) hr.units (pv 3) (pv 5) (pv 8) rfl))))) (pss_one (ps_expr (qbm (by exact ⟨rfl, rfl, rfl⟩ : At _ P w K) PySem.F.plainAttrs_list PySem.F.slot_list_extend PySem.F.type_list_extend mt_extend (pv 4) (pa_cons (pv 7) pa_nil)))))))))) (pss_one (ps_ret (pv 3)))))), fun vs H Q E h => ?_⟩
  obtain ⟨v0, v1, v2, rfl, h⟩ := h
  obtain ⟨bk, W, M, ch, rank0, pc, g0, okb, okW, hB, hW, rfl, hc, hok0, hM, q⟩ := h
  obtain ⟨rk, hok, hrk⟩ := hok0.small
  intro p H1 np b1 d1
  have s1 := b1.same np
  have hc1 := hc.same s1
  refine ⟨_, rfl, pc, _, rfl, hc1.d, fun pw bs nw pbs => ?_⟩
  have nb := nk_paired pbs
  have npw : H pw = none := none_back s1 nw
  have sw : Same H1 (upd H1 pw (.lst (bs.map V.ref))) := same_upd nw
  have pne : p ≠ pw := fun z => by obtain ⟨φ, e⟩ := Dc.ext d1; rw [z, nw] at e; cases e
  refine ⟨fun m σ H2 => ∃ stack ks vs g x5 x6 x7 x8 x9, σ = [some v0, some v1, some (.ref pc), some (.ref p), some (.ref pw), x5, x6, x7, x8, x9] ∧ AnI P w H H2 bk W M ch p pw stack ks vs g ∧ m = meas M.length rk M ks stack ∧ m ≤ 7000, ⟨_, M, [], _, fun _ => .non, none, none, none, none, none, rfl, ⟨smT s1 sw, upd_same, nb.keep (.of sw), fun _ h => h, (show DM P w H1 p eT [] fun _ => .non from d1).same sw, (fun _ h => nomatch h), fun t h => .inr h⟩, rfl, ?_⟩, ?_⟩
  · unfold meas
    have h1 := topM_le (R := M.length) (rk := rk) (ks := []) (stack := M) (fun _ h => h) hrk
    have h2 : (M.filter fun t => !memB t []).length ≤ M.length := List.length_filter_le _ _
    have h3 : (M.filter fun t => !memB t []).length * (3 * M.length + 1) ≤ 45 * (3 * 45 + 1) := Nat.mul_le_mul (by omega) (by omega)
    omega
  rintro m σ H2 ⟨stack, ks, vs, g, x5, x6, x7, x8, x9, rfl, I, rfl, hm⟩
  have lvs : vs.length = stack.length := by rw [I.nv.length, List.length_map]
  refine ⟨_, rfl, _, _, rfl, .inl ⟨_, .of I.ew, rfl⟩, _, _, rfl, rfl, _, rfl, ?_⟩
  by_cases h0 : stack.length = 0
  · refine iteN (by omega) ⟨_, rfl, q p H2 I.s ⟨ks, g, I.d, fun t ht => (I.all t ht).resolve_right (fun z => by rw [List.eq_nil_of_length_eq_zero h0] at z; cases z), fun t ht => (I.lot t ht).2.1⟩⟩
  refine iteD (by omega) ?_
  obtain ⟨st, t, rfl⟩ := snoc_of h0
  obtain ⟨ys, u, rfl, nys, nu⟩ := NkA.snocE (by have := I.nv; rw [List.map_append] at this; exact this)
  have htM : t ∈ M := I.sm t (by simp)
  have hB2 := hB.same I.s
  have hW2 := hW.same I.s
  have hc2 := hc.same I.s
  have hwy := hok.wy t htM
  refine ⟨fun σ' H' => ∃ m', m' < meas M.length rk M ks (st ++ [t]) ∧ ∃ stack ks vs g x5 x6 x7 x8 x9, σ' = [some v0, some v1, some (.ref pc), some (.ref p), some (.ref pw), x5, x6, x7, x8, x9] ∧ AnI P w H H' bk W M ch p pw stack ks vs g ∧ m' = meas M.length rk M ks stack ∧ m' ≤ 7000, fun σ' H' ⟨m', h1, h2⟩ => ⟨m', h1, h2⟩, ?_⟩
  refine ⟨_, rfl, _, rfl, _, _, _, _, rfl, rfl, .of I.ew, atI_last _ _, ?_⟩
  refine ⟨_, rfl, _, rfl, _, rfl, _, rfl, _, rfl, pc, _, rfl, hc2.d.ngetT encT nu htM, _, _, _, _, rfl, bk, W, t, ch t, okb, okW, hB2, hW2, nu, hc2.v t htM, hwy, fun r H3 s3 hr3 => ?_⟩
  obtain ⟨due, dnd, dmem, ndue⟩ := hr3
  obtain ⟨ad, xd, rfl, ed, nxd⟩ := ndue.tupE
  have lxd : xd.length = due.length := by rw [nxd.length, List.length_map]
  have ldue : due.length ≤ 2 := Nat.le_trans (nodup_sub_len dnd fun n hn => (dmem n).mp hn) (needs_len okb okW hwy)
  refine ⟨_, rfl, ad, rfl, ⟨_, .of ed⟩, ?_⟩
  refine lc_sm walk_tup (fun i acc H4 => NkA H4 acc (((due.take i).filter fun n => !memB n ks).map eT)) (by rw [lxd]; exact Nat.le_trans ldue (by decide)) (fun i acc H2 H3 t r => r.keep t) (fun i acc H2 r => ?_) (fun H2 s => .of (s _ _ ed)) .nil ?_ ?_
  · rw [r.length, List.length_map]
    exact Nat.le_trans (List.length_filter_le _ _) (List.length_take_le _ _)
  · rintro i x acc H4 H5 Kd Kn hi s4 r kd kn ⟨rfl, hx⟩
    obtain ⟨kk, hk', nx⟩ := nxd.get' hx
    obtain ⟨n, hn, rfl⟩ := gmap' hk'
    have nx5 := nx.keep (.of s4)
    refine ⟨rfl, _, rfl, _, rfl, p, _, rfl, (I.d.same (smT s3 s4)).nget encT nx5, _, rfl, ?_⟩
    rw [ifSome]
    refine iteB (fun hu => ⟨_, rfl, kd _ _ (sm0 _) ?_⟩) (fun hu => kn _ (sm0 _) ?_)
    · rw [filter_snoc (q := fun n => !memB n ks) hn, if_pos hu, List.map_append]
      exact NkA.snoc nx5 r
    · rw [filter_snoc (q := fun n => !memB n ks) hn, if_neg (bfl hu), List.append_nil]
      exact r
  intro ms H4 pm s4 em npm rm
  rw [lxd, List.take_length] at rm
  have s24 := smT s3 s4
  have I4d := I.d.same s24
  have nu4 := nu.keep (.of s24)
  refine ⟨_, rfl, _, rfl, p, _, rfl, I4d.nget encT nu4, _, rfl, ?_⟩
  rw [ifSome]
  -- all needs are there
  have closed : (t ∈ ks ∨ ms.length = 0) → ∀ n ∈ needsT bk W t (ch t), n ∈ ks := by
    rintro (h | h) n hn
    · exact (I.lot t h).2.2 n hn
    · by_cases hk : n ∈ ks
      · exact hk
      · have h1 : n ∈ due.filter fun n => !memB n ks := List.mem_filter.mpr ⟨(dmem n).mpr hn, (by rw [memB_f hk]; rfl)⟩
        have h2 := rm.length
        rw [h, List.length_map] at h2
        rw [List.eq_nil_of_length_eq_zero h2.symm] at h1
        cases h1
  have lms : ms.length = (due.filter fun n => !memB n ks).length := by rw [rm.length, List.length_map]
  have ew4 : H4 pw = some (.lst (ys ++ [u])) := s24 _ _ I.ew
  have push : ∀ D : Ends, (∀ σ' H', (∃ m', m' < meas M.length rk M ks (st ++ [t]) ∧ ∃ stack ks vs g x5 x6 x7 x8 x9, σ' = [some v0, some v1, some (.ref pc), some (.ref p), some (.ref pw), x5, x6, x7, x8, x9] ∧ AnI P w H H' bk W M ch p pw stack ks vs g ∧ m' = meas M.length rk M ks stack ∧ m' ≤ 7000) → D.nx σ' H') → t ∉ ks → ms.length ≠ 0 → (tDrop (tBM K "list" rExtend (tVar 4) (tCons (tVar 7) tNil))) D [some v0, some v1, some (.ref pc), some (.ref p), some (.ref pw), some u, some (.ref ad), some (.ref pm), x8, x9] H4 := by
    intro D hD hk hne
    have hms : ∀ n ∈ due.filter (fun n => !memB n ks), n ∉ ks ∧ rk n < rk t := fun n hn => by
      obtain ⟨h1, h2⟩ := List.mem_filter.mp hn
      refine ⟨(fun z => by rw [memB_t z] at h2; cases h2), (hok.nd t htM n ((dmem n).mp h1)).2⟩
    have hl2 : (due.filter fun n => !memB n ks).length ≤ 2 := Nat.le_trans (List.length_filter_le _ _) ldue
    have hlt := meas_push (R := M.length) (rk := rk) (M := M) (st := st) hk (ms := due.filter fun n => !memB n ks) (fun z => hne (by rw [lms, z]; rfl)) hl2 hms
    have hst : (ys ++ [u]).length ≤ 7000 := by
      have h1 : (ys ++ [u]).length = (st ++ [t]).length := lvs
      have h2 : (st ++ [t]).length ≤ meas M.length rk M ks (st ++ [t]) := by unfold meas; omega
      omega
    refine ⟨_, rfl, tyL ew4, _, rfl, pw, pm, _, _, rfl, rfl, ew4, em, ?_, ?_⟩
    · have : (ys ++ [u]).length + ms.length ≤ 7002 := by omega
      exact Nat.le_trans this (by decide)
    have kt := chkpt (ys := (ys ++ [u]) ++ ms) ew4
    refine hD _ _ ⟨_, hlt, (st ++ [t]) ++ (due.filter fun n => !memB n ks), ks, _, g, _, _, _, _, _, rfl, ⟨smU npw (smT I.s s24), upd_same, ?_, fun n hn => ?_, ?_, fun n hn => ?_, fun n hn => ?_⟩, rfl, by omega⟩
    · rw [List.map_append]
      exact NkA.app ((I.nv.keep (.of s24)).keep kt) (rm.keep kt)
    · rcases List.mem_append.mp hn with hn | hn
      · exact I.sm n hn
      · exact (hok.nd t htM n ((dmem n).mp (List.mem_filter.mp hn).1)).1
    · exact I4d.but But.upd pne (fun xs z => by rw [ew4] at z; cases z)
    · obtain ⟨h1, h2, h3⟩ := I.lot n hn
      exact ⟨h1, (h2.same s24).lst ew4, h3⟩
    · rcases I.all n hn with h | h
      · exact .inl h
      · exact .inr (List.mem_append_left _ h)
  have pop : ∀ D : Ends, (∀ σ' H', (∃ m', m' < meas M.length rk M ks (st ++ [t]) ∧ ∃ stack ks vs g x5 x6 x7 x8 x9, σ' = [some v0, some v1, some (.ref pc), some (.ref p), some (.ref pw), x5, x6, x7, x8, x9] ∧ AnI P w H H' bk W M ch p pw stack ks vs g ∧ m' = meas M.length rk M ks stack ∧ m' ≤ 7000) → D.nx σ' H') → (∀ n ∈ needsT bk W t (ch t), n ∈ ks) → (tSeq (tDrop (tBM0 K "list" rPop (tVar 4))) (tSeq (tAsg (tNOne P w (tVar 5) (tC (.bl true))) (gName 8)) (tSeq (tFor (iTup K (tVar 6)) (gName 9) (tDrop (tNUpd P w (tVar 8) (tNGet P w (tVar 3) (tVar 9))))) (sNPut P w (tVar 3) (tVar 5) (tVar 8))))) D [some v0, some v1, some (.ref pc), some (.ref p), some (.ref pw), some u, some (.ref ad), some (.ref pm), x8, x9] H4 := by
    intro D hD cl
    refine ⟨_, rfl, tyL ew4, pw, _, u, rfl, rfl, ew4, by rw [List.length_append, List.length_singleton, Nat.add_sub_cancel, List.getElem?_append_right (Nat.le_refl _), Nat.sub_self]; rfl, ?_⟩
    rw [List.dropLast_concat]
    have k45 := chkpt (ys := ys) ew4
    have s5 : Same H (upd H4 pw (.lst ys)) := smU npw (smT I.s s24)
    have nu5 := nu4.keep k45
    have nys5 := (nys.keep (.of s24)).keep k45
    have ed5 := k45 _ _ (s4 _ _ ed)
    have nxd5 := (nxd.keep (.of s4)).keep k45
    have d5 := I4d.but (But.upd (o := .lst ys)) pne (fun xs z => by rw [ew4] at z; cases z)
    have lot5 : ∀ n ∈ ks, LotAt P w (upd H4 pw (.lst ys)) p (g n) bk W ch n := fun n hn => ((I.lot n hn).2.1.same s24).lst ew4
    have ew5 : (upd H4 pw (.lst ys)) pw = some (.lst ys) := upd_same
    generalize upd H4 pw (.lst ys) = H5 at s5 nu5 nys5 ed5 nxd5 d5 lot5 ew5 ⊢
    intro qi H6 nq b6 d6
    obtain ⟨bu, rfl, ebu⟩ := nu5.th
    have s56 := b6.same nq
    refine ⟨_, rfl, d6, eT t, bu, rfl, nu5.keep (.of s56), encT.dp t, fun H7 b7 d7 => ?_⟩
    have s57 : Same H5 H7 := smB nq s56 b7
    have qp : qi ≠ p := fun z => by obtain ⟨φ, e⟩ := d5.ext; rw [← z, nq] at e; cases e
    refine ⟨_, rfl, ad, rfl, ⟨_, .of (s57 _ _ ed5)⟩, ?_⟩
    have inM : ∀ n ∈ due, n ∈ M := fun n hn => (hok.nd t htM n ((dmem n).mp hn)).1
    refine for_it walk_tup (fun i σ H8 => ∃ x9 l f, σ = [some v0, some v1, some (.ref pc), some (.ref p), some (.ref pw), some (.ref bu), some (.ref ad), some (.ref pm), some (.ref qi), x9] ∧ Same H5 H8 ∧ DM P w H8 qi eT l f ∧ l ≠ [] ∧ ∀ v, v ∈ l ↔ v = t ∨ ∃ n ∈ due.take i, Rch bk W ch n v)
      ⟨_, [t], fun _ => .bl true, rfl, s57, d7, by simp, fun v => by simp⟩ (fun i σ H8 _ ⟨_, _, _, _, s, _⟩ => .of (s _ _ ed5)) ?_ ?_
    · rintro i x σ H8 H9 hi ⟨x9, l, f', rfl, s8, dl, hl, ml⟩ ⟨rfl, hx⟩
      obtain ⟨kk, hk', nx⟩ := nxd5.get' hx
      obtain ⟨n, hn, rfl⟩ := gmap' hk'
      have hnd := List.mem_of_getElem? hn
      have hnk : n ∈ ks := cl n ((dmem n).mp hnd)
      obtain ⟨qn, ln, fn, en, qnp, dn, mn⟩ := lot5 n hnk
      have nqi : qi ≠ qn := fun z => by obtain ⟨φ, e⟩ := dn.ext; rw [← z, nq] at e; cases e
      have dn8 := dn.same s8
      have lM : ∀ v ∈ l, v ∈ M := fun v hv => by
        rcases (ml v).mp hv with rfl | ⟨n', hn', r'⟩
        · exact htM
        · exact r'.mem hok (inM n' (List.mem_of_mem_take hn'))
      have lnM : ∀ v ∈ ln, v ∈ M := fun v hv => ((mn v).mp hv).mem hok (inM n hnd)
      have z1 := nodup_sub_len (dl.nd encT) lM
      have z2 := nodup_sub_len (dn8.nd encT) lnM
      have g8 := (d5.same s8).ngetT encT (nx.keep (.of s8)) hnk
      refine ⟨_, rfl, qi, rfl, ⟨_, dl⟩, _, rfl, _, rfl, p, _, rfl, g8, qn, _, _, en, nqi, dl, dn8, ?_, ?_, fun H10 b10 d10 => ?_⟩
      · intro z
        exact hl (List.map_eq_nil_iff.mp z)
      · rw [List.length_map, List.length_map]
        exact Nat.le_trans (show _ ≤ 90 by omega) (by decide)
      obtain ⟨f3, e3⟩ := merge_DM encT (f2 := fn) ln l f'
      rw [e3] at d10
      refine ⟨_, _, f3, rfl, smB nq s8 b10, d10, ?_, fun v => ?_⟩
      · intro z
        have h1 : n ∈ ln := (mn n).mpr (.self n)
        have h2 : n ∈ ln.foldl insL l := mem_foldl_insL.mpr (.inr h1)
        rw [z] at h2; cases h2
      · rw [mem_foldl_insL, ml, mn, List.take_succ, hn]
        constructor
        · rintro ((h | ⟨n', h1, h2⟩) | h)
          · exact .inl h
          · exact .inr ⟨n', List.mem_append_left _ h1, h2⟩
          · exact .inr ⟨n, List.mem_append_right _ (by simp), h⟩
        · rintro (h | ⟨n', h1, h2⟩)
          · exact .inl (.inl h)
          · rcases List.mem_append.mp h1 with h1 | h1
            · exact .inl (.inr ⟨n', h1, h2⟩)
            · have : n' = n := by simpa using h1
              rw [this] at h2
              exact .inr h2
    · rintro σ H8 ⟨x9, l, f', rfl, s8, dl, hl, ml⟩
      rw [lxd, List.take_length] at ml
      have d8 := d5.same s8
      have lks : ks.length < sizeLine := by
        have := nodup_sub_len (d8.nd encT) fun v hv => (I.lot v hv).1
        exact Nat.lt_of_le_of_lt (show _ ≤ 45 by omega) (by decide)
      refine ⟨_, rfl, _, rfl, _, rfl, d8.nput encT (t := t) lks (nu5.keep (.of s8)) fun H9 b9 d9 => hD _ _ ?_⟩
      have k9 : KpT H8 H9 := b9.kpt (Dc.ntup d8)
      have hlt := meas_pop (R := M.length) (rk := rk) (M := M) (ks := ks) (st := st) (t := t) I.sm hrk
      have pnw : pw ≠ p := Ne.symm pne
      have old : ∀ n ∈ ks, LotAt P w H9 p (g n) bk W ch n := fun n hn => by
        obtain ⟨qn, ln, fn, en, qnp, dn, mn⟩ := (lot5 n hn).same s8
        exact ⟨qn, ln, fn, en, qnp, dn.but b9 qnp (Dc.ntup d8), mn⟩
      refine ⟨_, hlt, st, insL ks t, ys, updF g t (.ref qi), _, _, _, _, _, rfl, ⟨smB np (smT s5 s8) b9, ?_, (nys5.keep (.of s8)).keep k9, fun n hn => I.sm n (List.mem_append_left _ hn), d9, fun n hn => ?_, fun n hn => ?_⟩, rfl, by omega⟩
      · rw [b9 _ pnw]; exact s8 _ _ ew5
      · by_cases hnt : n = t
        · subst hnt
          refine ⟨htM, ?_, fun k hk => mem_insL.mpr (.inl (cl k hk))⟩
          have : updF g n (.ref qi) n = .ref qi := by unfold updF; rw [if_pos rfl]
          rw [this]
          refine ⟨qi, l, f', rfl, qp, dl.but b9 qp (Dc.ntup d8), fun v => ?_⟩
          rw [ml, Rch.iff]
          constructor
          · rintro (h | ⟨k, h1, h2⟩)
            · exact .inl h
            · exact .inr ⟨k, (dmem k).mp h1, h2⟩
          · rintro (h | ⟨k, h1, h2⟩)
            · exact .inl h
            · exact .inr ⟨k, (dmem k).mpr h1, h2⟩
        · have hnk := (mem_insL.mp hn).resolve_right hnt
          have : updF g t (.ref qi) n = g n := by unfold updF; rw [if_neg hnt]
          rw [this]
          exact ⟨(I.lot n hnk).1, old n hnk, fun k hk => mem_insL.mpr (.inl ((I.lot n hnk).2.2 k hk))⟩
      · rcases I.all n hn with h | h
        · exact .inl (mem_insL.mpr (.inl h))
        · rcases List.mem_append.mp h with h | h
          · exact .inr h
          · exact .inl (mem_insL.mpr (.inr (List.mem_singleton.mp h)))
  refine iteB (fun hk => iteT (pop _ (fun _ _ h => h) (closed (.inl (memB_iff.mp hk))))) (fun hk => ?_)
  have hk : t ∉ ks := fun z => by rw [memB_t z] at hk; cases hk
  refine ⟨_, rfl, _, _, rfl, .inl ⟨_, .of em, rfl⟩, rfl, _, rfl, ?_⟩
  by_cases hz : ms.length = 0
  · exact iteD (by rw [hz]; rfl) (pop _ (fun _ _ h => h) (closed (.inr hz)))
  · exact iteN (fun z => by have := V.int.inj z; omega) (push _ (fun _ _ h => h) hk hz)
end K19
set_option maxHeartbeats 4000000
namespace K19
open PySem PySem.Spec PyProof.Rows L2
open PySem.W (dataLe keyToks keyToksAll alike alikeAll)
theorem nd_filter {α : Type} {l : List α} (p : α → Bool) (h : l.Nodup) : (l.filter p).Nodup := List.Pairwise.filter p h
/-- whether p holds -/
noncomputable def dcP (p : Prop) : Bool := @decide p (Classical.propDecidable p)
theorem dcP_iff {p : Prop} : dcP p = true ↔ p := @decide_eq_true_iff p (Classical.propDecidable p)
/-! ### extras -/
noncomputable def exL (bk : Bk) (W : List Vl) (ch : Thg → Wy) (t : Thg) (y : Wy) : List Thg := (UM bk W).filter fun u => dcP (Rch bk W ch t u ∧ ¬ ∃ n ∈ needsT bk W t y, Rch bk W ch n u)
noncomputable def exT (bk : Bk) (W : List Vl) (ch : Thg → Wy) (t : Thg) (y : Wy) : Int := costT bk ch (exL bk W ch t y)
theorem cost_perm {bk : Bk} {ch : Thg → Wy} {l m : List Thg} (h : l.Perm m) : costT bk ch l = costT bk ch m := by
  have : ∀ {a b : List Int}, a.Perm b → a.sum = b.sum := by
    intro a b h
    induction h with
    | nil => rfl
    | cons x _ ih => rw [List.sum_cons, List.sum_cons, ih]
    | swap x y l => rw [List.sum_cons, List.sum_cons, List.sum_cons, List.sum_cons]; omega
    | trans _ _ h1 h2 => rw [h1, h2]
  exact this (h.map _)
theorem perm_of {α : Type} [DecidableEq α] {l m : List α} (h1 : l.Nodup) (h2 : m.Nodup) (h : ∀ u, u ∈ l ↔ u ∈ m) : l.Perm m := (List.perm_ext_iff_of_nodup h1 h2).mpr h
theorem ex_eq {bk : Bk} {W : List Vl} {M : List Thg} {ch : Thg → Wy} {rank : Thg → Nat} (hv : ChV bk W M ch rank) {t : Thg} {y : Wy} (ht : t ∈ M) {l : List Thg} (nd : l.Nodup) (h : ∀ u, u ∈ l ↔ Rch bk W ch t u ∧ ¬ ∃ n ∈ needsT bk W t y, Rch bk W ch n u) : costT bk ch l = exT bk W ch t y := by
  refine cost_perm (perm_of nd (nd_filter _ UM_nd) fun u => ?_)
  unfold exL
  rw [h, List.mem_filter]
  rw [dcP_iff]
  exact ⟨fun z => ⟨hv.perm.mem_iff.mp (z.1.mem hv.ok ht), z⟩, fun z => z.2⟩
/-- the pairs of a thing and a usable way -/
def pairs (M : List Thg) (F : Thg → List Wy) : List (Thg × Wy) := M.flatMap fun t => (F t).map fun y => (t, y)
noncomputable def wrP (bk : Bk) (W : List Vl) (ch : Thg → Wy) (p : Thg × Wy) : Bool := decide ((priceW bk p.2 : Int) < exT bk W ch p.1 p.2)
noncomputable def wrong (bk : Bk) (W : List Vl) (ch : Thg → Wy) : List (Thg × Wy) := (pairs (UM bk W) (UF bk W)).filter (wrP bk W ch)
theorem mem_pairs {M : List Thg} {F : Thg → List Wy} {p : Thg × Wy} : p ∈ pairs M F ↔ p.1 ∈ M ∧ p.2 ∈ F p.1 := by
  unfold pairs
  rw [List.mem_flatMap]
  constructor
  · rintro ⟨t, h1, h2⟩
    obtain ⟨y, h3, rfl⟩ := List.mem_map.mp h2
    exact ⟨h1, h3⟩
  · rintro ⟨h1, h2⟩
    exact ⟨p.1, h1, List.mem_map.mpr ⟨p.2, h2, rfl⟩⟩
theorem pairs_nd {F : Thg → List Wy} (h : ∀ t, (F t).Nodup) : ∀ {M : List Thg}, M.Nodup → (pairs M F).Nodup
  | [], _ => List.nodup_nil
  | t :: M, nd => by
    obtain ⟨h1, h2⟩ := List.nodup_cons.mp nd
    show ((F t).map (fun y => (t, y)) ++ pairs M F).Nodup
    refine List.nodup_append.mpr ⟨?_, pairs_nd h h2, fun a ha b hb z => ?_⟩
    · exact List.Pairwise.map _ (fun a b hab z => hab (congrArg (·.2) z)) (h t)
    · obtain ⟨y, _, rfl⟩ := List.mem_map.mp ha
      rw [← z] at hb
      exact h1 (mem_pairs.mp hb).1
theorem waysT_nd {bk : Bk} {W : List Vl} {t : Thg} : (waysT bk W t).Nodup := by
  unfold waysT waysOp mvs rls
  refine List.nodup_append.mpr ⟨?_, ?_, fun a ha b hb z => ?_⟩
  · exact List.Pairwise.map _ (fun a b hab z => hab (congrArg (·.2) z)) (nd_filter _ List.nodup_range)
  · exact List.Pairwise.map _ (fun a b hab z => hab (congrArg (·.2) z)) (nd_filter _ List.nodup_range)
  · obtain ⟨i, _, rfl⟩ := List.mem_map.mp ha
    obtain ⟨j, _, rfl⟩ := List.mem_map.mp hb
    cases z
theorem UF_nd {bk : Bk} {W : List Vl} (t : Thg) : (UF bk W t).Nodup := by
  have hs : ∀ (S : US) (t : Thg), (∀ u, (S.2 u).Nodup) → ∀ u, ((stepU bk W S t).2 u).Nodup := by
    intro S t h u
    unfold stepU
    split
    · exact h u
    · show (if u = t then someU bk W S.1 t else S.2 u).Nodup
      split
      · exact nd_filter _ waysT_nd
      · exact h u
  have hk : ∀ (v : Nat) (S : US) (j : Nat), (∀ u, (S.2 u).Nodup) → ∀ u, ((kL bk W v S j).2 u).Nodup := by
    intro v S j h
    induction j with
    | zero => exact h
    | succ j ih => rw [kL_succ]; exact hs _ _ ih
  have ht : ∀ (v : Nat) (S : US) (j : Nat), (∀ u, (S.2 u).Nodup) → ∀ u, ((tL bk W v S j).2 u).Nodup := by
    intro v S j h
    induction j with
    | zero => exact h
    | succ j ih => rw [tL_succ]; exact hk _ _ _ ih
  have hv : ∀ n, ∀ u, ((vL bk W n).2 u).Nodup := by
    intro n
    induction n with
    | zero => exact fun _ => List.nodup_nil
    | succ n ih => rw [vL_succ]; exact ht _ _ _ ih
  exact hv _ t
theorem pairs_len {bk : Bk} {W : List Vl} (ok : bk.Ok) : ∀ M : List Thg, (pairs M (UF bk W)).length ≤ M.length * 60
  | [] => Nat.zero_le _
  | t :: M => by
    show ((UF bk W t).map (fun y => (t, y)) ++ pairs M (UF bk W)).length ≤ _
    rw [List.length_append, List.length_map, List.length_cons]
    have h1 := pairs_len (W := W) ok M
    have h2 := nodup_sub_len (UF_nd (bk := bk) (W := W) t) fun y hy => UF_way hy
    have h3 := waysT_len ok W t
    omega
theorem lay_P (p : Thg × Wy) : (eP p).data.canLay0 = true ∧ (eP p).data.depth ≤ 8 := by
  obtain ⟨⟨a, b⟩, c, d⟩ := p
  have h1 : PyData.strOk (wS c) = true := by cases c <;> decide +kernel
  constructor
  · simp [NestedKey.data, NestedKey.datas, PyData.canLay0, PyData.canLayAll0, h1]
  · simp [NestedKey.data, NestedKey.datas, PyData.depth, PyData.depthAll]
theorem alike_P (a b : Thg × Wy) : alike (eP a).data (eP b).data = true := by
  simp only [NestedKey.data, NestedKey.datas, alike, alikeAll, Bool.and_self]
theorem srt_P {ts : List (Thg × Wy)} (h : ts.length ≤ sizeLine) : Srt (ts.map eP) := by
  refine ⟨?_, .inl ?_, fun k hk => ?_, by rw [List.length_map]; exact h⟩
  · intro d hd d' hd'
    rw [List.map_map] at hd hd'
    obtain ⟨a, _, rfl⟩ := List.mem_map.mp hd
    obtain ⟨b, _, rfl⟩ := List.mem_map.mp hd'
    exact alike_P a b
  · intro d hd
    rw [List.map_map] at hd
    obtain ⟨a, _, rfl⟩ := List.mem_map.mp hd
    exact ⟨(eT a.1).data, [(eW a.2).data], by show NestedKey.data (eP a) = _; rw [NestedKey.data]; simp only [NestedKey.datas]⟩
  · obtain ⟨t, _, rfl⟩ := List.mem_map.mp hk
    exact (lay_P t).2
end K19
set_option maxHeartbeats 4000000
namespace K19
open PySem PySem.Spec PyProof.Rows L2
def sp_beyond (P : Program) (w : World) (K : PySem.W.Frag) (CB CW : Addr) : Sp := fun vs H Q _ => ∃ a b c, vs = [a, b, c] ∧ ∃ (bk : Bk) (W : List Vl) (M : List Thg) (ch : Thg → Wy) (t : Thg) (ns : List Thg) (p : Addr), M.length ≤ 45 ∧ (∀ t ∈ M, ∀ u, Rch bk W ch t u → u ∈ M) ∧ Nk H a (eT t) ∧ t ∈ M ∧ LotK H b ns ∧ ns.length ≤ 2 ∧ (∀ n ∈ ns, n ∈ M) ∧ c = .ref p ∧ LotsAt P w H p bk W M ch ∧
  ∀ r H' (l : List Thg), Same H H' → LsK H' r (l.map eT) → l.Nodup → (∀ u, u ∈ l ↔ Rch bk W ch t u ∧ ¬ ∃ n ∈ ns, Rch bk W ch n u) → Q r H'
abbrev n_beyond : List Str := ["thing", "due", "lots", "item", "need"]
theorem sc_beyond : FnScope n_beyond ["thing", "due", "lots"] (defScope s_beyond) := ⟨rfl, rfl, rfl, by decide +kernel, rfl, by decide +kernel, by decide +kernel⟩
theorem cl_beyond {P : Program} {w : World} {K : PySem.W.Frag} {mg : Str → Option Value} {base : Heap} {CB CW : Addr} (Z : Fx K mg CB CW) : Cl P w K mg base "beyond" 1 ["thing", "due", "lots"] (sp_beyond P w K CB CW) := by
  refine Z.d_beyond.cl (N := n_beyond) (k := 0) sc_beyond (fun vs H Q E h => by obtain ⟨_, _, _, rfl, _⟩ := h; rfl) (fun _ _ _ _ _ _ us hl => match us, hl with | [_, _, _], _ => rfl) fun f cdv A outer s H0 E0 hr => ⟨_, (pss_one (ps_ret (pe_lc (own := [("item", 3)]) rfl sc_beyond.nd (qpiN (by exact ⟨rfl, rfl, rfl⟩ : At _ P w K) (qnget (by exact ⟨rfl, rfl, rfl⟩ : At _ P w K) hr.units (pv 2) (pv 0) (fun _ _ => rfl))) (blkOk_by (N := n_beyond) (sc := defScope s_beyond) (by decide +kernel)) (fun _ _ _ _ _ => (pg_name (i := 3) sc_beyond.nd rfl (by first | exact Or.inl rfl | exact Or.inr rfl))) (fun _ _ _ _ _ => (pts_one (pt_not (pt_val (pe_callB (qany (by exact ⟨rfl, rfl, rfl⟩ : At _ P w K) rfl) rfl Z.f_any bt_any (pa_cons (pe_lc (own := [("need", 4)]) rfl sc_beyond.nd (qpiT (by exact ⟨rfl, rfl, rfl⟩ : At _ P w K) (pv 1)) (blkOk_by (N := n_beyond) (by first | decide +kernel | rfl | kernel_rfl)) (fun _ _ _ _ _ => (pg_name (i := 4) sc_beyond.nd rfl (by first | exact Or.inl rfl | exact Or.inr rfl))) (fun _ _ _ _ _ => pts_nil) (fun _ _ _ _ _ => (pe_cmp (qnin (by exact ⟨rfl, rfl, rfl⟩ : At _ P w K) hr.units (pv 3) (qnget (by exact ⟨rfl, rfl, rfl⟩ : At _ P w K) hr.units (pv 2) (pv 4) (fun _ _ => rfl))) rfl))) pa_nil)))))) (fun _ _ _ _ _ => (pv 3))))), fun vs H Q E h => ?_⟩
  obtain ⟨v0, v1, v2, rfl, h⟩ := h
  obtain ⟨bk, W, M, ch, t, ns, p, hM, clo, nt, htM, ⟨due, dnd, dmem, ndue⟩, hns, hnM, rfl, ⟨ks, g, dk, hks, lots⟩, q⟩ := h
  obtain ⟨ad, xd, rfl, ed, nxd⟩ := ndue.tupE
  have lxd : xd.length = due.length := by rw [nxd.length, List.length_map]
  have ldue : due.length ≤ 2 := Nat.le_trans (nodup_sub_len dnd fun n hn => (dmem n).mp hn) hns
  obtain ⟨qt, lt, ft, et, qtp, dt, mt⟩ := lots t (hks t htM)
  have hlt : lt.length ≤ 45 := Nat.le_trans (nodup_sub_len (dt.nd encT) fun u hu => clo t htM u ((mt u).mp hu)) hM
  have tk := hks t htM
  refine ⟨_, rfl, _, rfl, p, _, rfl, dk.ngetT encT nt tk, qt, _, et, dt, fun φ bs hφ pbs => ?_⟩
  have nb := nk_paired pbs
  have lbs : bs.length = lt.length := by rw [← Paired.length pbs, List.length_map]
  refine lc_sm walk_n (fun i acc H2 => NkA H2 acc (((lt.take i).filter fun u => !dcP (∃ n ∈ ns, Rch bk W ch n u)).map eT)) (by rw [lbs]; exact Nat.le_trans hlt (by decide)) (fun i acc H2 H3 t r => r.keep t) (fun i acc H2 r => ?_) (fun H2 s => s _ _ hφ) .nil ?_ ?_
  · rw [r.length, List.length_map]
    exact Nat.le_trans (List.length_filter_le _ _) (List.length_take_le _ _)
  · rintro i x acc H2 H3 Kd Kn hi s2 r kd kn ⟨rfl, b, hb, rfl⟩
    obtain ⟨u, hu⟩ : ∃ u, lt[i]? = some u := ⟨_, getI (by omega)⟩
    obtain ⟨x', hx', nx0⟩ := nb.get (gmap hu)
    obtain rfl : x' = .ref b := by rw [List.getElem?_map, hb] at hx'; exact (Option.some.inj hx').symm
    have nx := nx0.keep (.of s2)
    refine ⟨rfl, _, rfl, ad, rfl, ⟨_, .of (s2 _ _ ed)⟩, ?_⟩
    refine lc_sm walk_tup (RAll fun i => .bl ((fun i => dcP (Rch bk W ch (due.getD i (0, 0)) u)) i)) (by rw [lxd]; exact Nat.le_trans ldue (by decide)) (fun _ _ _ _ _ r => r) (fun _ _ _ r => r.len) (fun H2 s => .of (s _ _ (s2 _ _ ed))) rfl ?_ ?_
    · rintro j y acc2 H4 H5 Kd2 Kn2 hj s4 r2 kd2 kn2 ⟨rfl, hy⟩
      obtain ⟨kk, hk', ny⟩ := nxd.get' hy
      obtain ⟨n, hn, rfl⟩ := gmap' hk'
      have hnM2 := hnM n ((dmem n).mp (List.mem_of_getElem? hn))
      have s24 := smT s2 s4
      obtain ⟨qn, ln, fn, en, qnp, dn, mn⟩ := (lots n (hks n hnM2)).same s24
      refine ⟨rfl, yes ⟨_, rfl, _, rfl, _, rfl, p, _, rfl, (dk.same s24).ngetT encT (ny.keep (.of s24)) (hks n hnM2), qn, _, en, dn.nget encT (nx.keep (.of s4)), ?_⟩⟩
      rw [ifSome]
      refine kd2 _ _ (sm0 _) ?_
      have e : due.getD j (0, 0) = n := by rw [List.getD_eq_getElem?_getD, hn]; rfl
      have e2 : memB u ln = dcP (Rch bk W ch (due.getD j (0, 0)) u) := by
        rw [e, Bool.eq_iff_iff, memB_iff, mn, dcP_iff]
      rw [e2]
      exact RAll.step (f := fun i => V.bl (dcP (Rch bk W ch (due.getD i (0, 0)) u))) r2
    · intro acc2 H4 p2 s4 ep np r2
      refine ⟨p2, _, rfl, .of (by rw [ep, r2.bl]), _, rfl, ?_⟩
      have e : ((List.range xd.length).map fun i => dcP (Rch bk W ch (due.getD i (0, 0)) u)).any id = dcP (∃ n ∈ ns, Rch bk W ch n u) := by
        rw [lxd, map_at due (fun n => dcP (Rch bk W ch n u)) (0, 0), List.any_map, Bool.eq_iff_iff, List.any_eq_true, dcP_iff]
        constructor
        · rintro ⟨n, h1, h2⟩; exact ⟨n, (dmem n).mp h1, dcP_iff.mp h2⟩
        · rintro ⟨n, h1, h2⟩; exact ⟨n, (dmem n).mpr h1, dcP_iff.mpr h2⟩
      rw [e]
      refine iteB (fun hq => ⟨_, rfl, kd _ _ s4 ?_⟩) (fun hq => kn _ s4 ?_)
      · rw [filter_snoc (q := fun u => !dcP (∃ n ∈ ns, Rch bk W ch n u)) hu, if_pos hq, List.map_append]
        exact NkA.snoc (nx.keep (.of s4)) (r.keep (.of s4))
      · rw [filter_snoc (q := fun u => !dcP (∃ n ∈ ns, Rch bk W ch n u)) hu, if_neg (bfl hq), List.append_nil]
        exact r.keep (.of s4)
  · intro acc H2 p2 s2 ep np r
    rw [lbs, List.take_length] at r
    refine q _ _ _ s2 ⟨p2, acc, rfl, ep, r⟩ (nd_filter _ (dt.nd encT)) fun u => ?_
    rw [List.mem_filter, mt, Bool.not_eq_true', ← Bool.not_eq_true, dcP_iff]
end K19
set_option maxHeartbeats 4000000
namespace K19
open PySem PySem.Spec PyProof.Rows L2
theorem stepU_mono {bk : Bk} {W : List Vl} {S : US} {t u : Thg} (h : u ∈ S.1) : u ∈ (stepU bk W S t).1 := by
  unfold stepU
  split
  · exact h
  · exact mem_insL.mpr (.inl h)
theorem UF_need {bk : Bk} {W : List Vl} {t : Thg} {y : Wy} (h : y ∈ UF bk W t) : ∀ n ∈ needsT bk W t y, n ∈ UM bk W := by
  have hs : ∀ (S : US) (t : Thg), (∀ u y, y ∈ S.2 u → ∀ n ∈ needsT bk W u y, n ∈ S.1) → ∀ u y, y ∈ (stepU bk W S t).2 u → ∀ n ∈ needsT bk W u y, n ∈ (stepU bk W S t).1 := by
    intro S t h u y hy n hn
    unfold stepU at hy ⊢
    split at hy
    · rename_i c
      rw [if_pos c]; exact h u y hy n hn
    · rename_i c
      rw [if_neg c]
      have hy : y ∈ (if u = t then someU bk W S.1 t else S.2 u) := hy
      refine mem_insL.mpr (.inl ?_)
      by_cases e : u = t
      · rw [if_pos e] at hy
        have h2 := (List.mem_filter.mp hy).2
        subst e
        exact memB_iff.mp (List.all_eq_true.mp h2 n hn)
      · rw [if_neg e] at hy
        exact h u y hy n hn
  have hk : ∀ (v : Nat) (S : US) (j : Nat), (∀ u y, y ∈ S.2 u → ∀ n ∈ needsT bk W u y, n ∈ S.1) → ∀ u y, y ∈ (kL bk W v S j).2 u → ∀ n ∈ needsT bk W u y, n ∈ (kL bk W v S j).1 := by
    intro v S j h
    induction j with
    | zero => exact h
    | succ j ih => rw [kL_succ]; exact hs _ _ ih
  have ht : ∀ (v : Nat) (S : US) (j : Nat), (∀ u y, y ∈ S.2 u → ∀ n ∈ needsT bk W u y, n ∈ S.1) → ∀ u y, y ∈ (tL bk W v S j).2 u → ∀ n ∈ needsT bk W u y, n ∈ (tL bk W v S j).1 := by
    intro v S j h
    induction j with
    | zero => exact h
    | succ j ih => rw [tL_succ]; exact hk _ _ _ ih
  have hv : ∀ n, ∀ u y, y ∈ (vL bk W n).2 u → ∀ n' ∈ needsT bk W u y, n' ∈ (vL bk W n).1 := by
    intro n
    induction n with
    | zero => intro u y h; cases h
    | succ n ih => rw [vL_succ]; exact ht _ _ _ ih
  exact fun n hn => (srtT_perm _).mem_iff.mpr (hv _ t y h n hn)
theorem pairs_take {M : List Thg} {F : Thg → List Wy} {i : Nat} {t : Thg} (h : M[i]? = some t) : pairs (M.take (i + 1)) F = pairs (M.take i) F ++ (F t).map fun y => (t, y) := by
  unfold pairs
  rw [List.take_succ, h, List.flatMap_append]
  simp
/-- extras at an address -/
def ExAt (P : Program) (w : World) (H : Hp) (p : Addr) (bk : Bk) (W : List Vl) (ch : Thg → Wy) : Prop := ∃ f, DM P w H p eP (pairs (UM bk W) (UF bk W)) f ∧ ∀ q ∈ pairs (UM bk W) (UF bk W), f q = .int (exT bk W ch q.1 q.2)
theorem ExAt.same {P : Program} {w : World} {H H' : Hp} {p : Addr} {bk : Bk} {W : List Vl} {ch : Thg → Wy} (x : ExAt P w H p bk W ch) (s : Same H H') : ExAt P w H' p bk W ch := by
  obtain ⟨f, d, v⟩ := x
  exact ⟨f, d.same s, v⟩
def spEx (P : Program) (w : World) (CB CW : Addr) : Sp := fun vs H Q _ => ∃ a b c, vs = [a, b, c] ∧ ∃ (bk : Bk) (W : List Vl) (M : List Thg) (ch : Thg → Wy) (rank : Thg → Nat) (pc : Addr) (g : Thg → V), bk.Ok ∧ WbOk bk W ∧ BkAt CB H a bk ∧ WbAt CW H b W ∧ c = .ref pc ∧ ChAt P w H pc M ch g ∧ ChV bk W M ch rank ∧
  ∀ p H', Same H H' → H p = none → ExAt P w H' p bk W ch → Q (.ref p) H'
def sp_raw_extras (P : Program) (w : World) (K : PySem.W.Frag) (CB CW : Addr) : Sp := spEx P w CB CW
abbrev n_raw_extras : List Str := ["book", "web", "choice", "lots", "usable", "found", "thing", "way", "more"]
theorem sc_raw_extras : FnScope n_raw_extras ["book", "web", "choice"] (defScope s_raw_extras) := ⟨rfl, rfl, rfl, by decide +kernel, rfl, by decide +kernel, by decide +kernel⟩
theorem cl_raw_extras {P : Program} {w : World} {K : PySem.W.Frag} {mg : Str → Option Value} {base : Heap} {CB CW : Addr} (Z : Fx K mg CB CW) : Cl P w K mg base "raw_extras" 4 ["book", "web", "choice"] (sp_raw_extras P w K CB CW) := by
  refine Z.d_raw_extras.cl (N := n_raw_extras) (k := 3) sc_raw_extras (fun vs H Q E h => by obtain ⟨_, _, _, rfl, _⟩ := h; rfl) (fun _ _ _ _ _ _ us hl => match us, hl with | [_, _, _], _ => rfl) fun f cdv A outer s H0 E0 hr => ⟨_, (pss_cons (ps_set (i := 3) sc_raw_extras.nd rfl (Or.inl rfl) (pe_cl (cl_all_needed (P := P) (w := w) (K := K) (base := base) Z) hr (by decide) rfl (pa_cons (pv 0) (pa_cons (pv 1) (pa_cons (pv 2) pa_nil))))) (pss_cons (ps_set (i := 4) sc_raw_extras.nd rfl (Or.inl rfl) (pe_cl (cl_usable_ways (P := P) (w := w) (K := K) (base := base) Z) hr (by decide) rfl (pa_cons (pv 0) (pa_cons (pv 1) pa_nil)))) (pss_cons (ps_set (i := 5) sc_raw_extras.nd rfl (Or.inl rfl) (qdnew (by exact ⟨rfl, rfl, rfl⟩ : At _ P w K))) (pss_cons (ps_for PassesOwn.never rfl (qpiN (by exact ⟨rfl, rfl, rfl⟩ : At _ P w K) (pv 4)) (pg_name (i := 6) sc_raw_extras.nd rfl (Or.inl rfl)) (pss_one (ps_for PassesOwn.never rfl (qpiL (by exact ⟨rfl, rfl, rfl⟩ : At _ P w K) (qnget (by exact ⟨rfl, rfl, rfl⟩ : At _ P w K) hr.units (pv 4) (pv 6) (fun _ _ => rfl))) (pg_name (i := 7) sc_raw_extras.nd rfl (Or.inl rfl)) (pss_cons (ps_set (i := 8) sc_raw_extras.nd rfl (Or.inl rfl) (pe_cl (cl_beyond (P := P) (w := w) (K := K) (base := base) Z) hr (by decide) rfl (pa_cons (pv 6) (pa_cons (pe_cl (cl_raw_needs (P := P) (w := w) (K := K) (base := base) Z) hr (by decide) rfl (pa_cons (pv 0) (pa_cons (pv 1) (pa_cons (pv 6) (pa_cons (pv 7) pa_nil))))) (pa_cons (pv 3) pa_nil))))) (pss_one (qnput (by exact ⟨rfl, rfl, rfl⟩ : At _ P w K) hr.units (pv 5) (pe_tup (pa_cons (pv 6) (pa_cons (pv 7) pa_nil))) (pe_cl (cl_raw_cost (P := P) (w := w) (K := K) (base := base) Z) hr (by decide) rfl (pa_cons (pv 0) (pa_cons (pv 2) (pa_cons (pv 8) pa_nil)))) rfl)))))) (pss_one (ps_ret (pv 5))))))), fun vs H Q E h => ?_⟩
  obtain ⟨v0, v1, v2, rfl, h⟩ := h
  obtain ⟨bk, W, M, ch, rank, pc, g, okb, okW, hB, hW, rfl, hc, hv, q⟩ := h
  have hM : M.length ≤ 45 := by rw [hv.perm.length_eq]; exact UM_len okb okW
  refine ⟨_, rfl, _, rfl, _, rfl, _, _, _, rfl, bk, W, M, ch, rank, pc, g, okb, okW, hB, hW, rfl, hc, hv.ok, hM, fun pl H1 s1 lots => ?_⟩
  refine ⟨_, rfl, _, rfl, _, _, rfl, bk, W, okb, okW, hB.same s1, hW.same s1, fun pu H2 s2 nu us => ?_⟩
  have s02 := smT s1 s2
  obtain ⟨gu, du, lu⟩ := us
  intro p H3 np b3 d3
  have s23 := b3.same np
  have s03 := smT s02 s23
  have np0 : H p = none := none_back s02 np
  have du3 := du.same s23
  refine ⟨_, rfl, pu, _, rfl, du3, fun φ bs hφ pbs => ?_⟩
  have nb := nk_paired pbs
  have lbs : bs.length = (UM bk W).length := by rw [← Paired.length pbs, List.length_map]
  have hUM := UM_len okb okW
  have plen : ∀ {i j : Nat} {t : Thg}, (UM bk W)[i]? = some t → (pairs ((UM bk W).take i) (UF bk W) ++ ((UF bk W t).take j).map (fun y => (t, y))).length < sizeLine := fun {i j t} ht => by
    have h1 := pairs_len (W := W) okb ((UM bk W).take i)
    have h2 : ((UM bk W).take i).length ≤ 45 := Nat.le_trans (List.length_take_le' _ _) hUM
    have h3 := nodup_sub_len (UF_nd (bk := bk) (W := W) t) fun y hy => UF_way hy
    have h4 := waysT_len okb W t
    have h5 : ((UF bk W t).take j).length ≤ (UF bk W t).length := List.length_take_le' _ _
    rw [List.length_append, List.length_map]
    exact Nat.lt_of_le_of_lt (show _ ≤ 3000 by omega) (by decide)
  refine for_it walk_n (fun i σ H4 => ∃ x6 x7 x8, σ = [some v0, some v1, some (.ref pc), some (.ref pl), some (.ref pu), some (.ref p), x6, x7, x8] ∧ Same H2 H4 ∧ H4 pu = some φ ∧ KpT H3 H4 ∧ ∃ f, DM P w H4 p eP (pairs ((UM bk W).take i) (UF bk W)) f ∧ ∀ q ∈ pairs ((UM bk W).take i) (UF bk W), f q = .int (exT bk W ch q.1 q.2))
    ⟨none, none, none, rfl, s23, hφ, KpT.refl _, fun _ => .non, d3, fun _ h => nomatch h⟩ (fun i σ H4 _ ⟨_, _, _, _, _, e, _⟩ => e) ?_ ?_
  · rintro i x σ H4 H5 hi ⟨x6, x7, x8, rfl, s4, e4, k4, f0, d4, v4⟩ ⟨rfl, b, hb, rfl⟩
    obtain ⟨t, ht⟩ : ∃ t, (UM bk W)[i]? = some t := ⟨_, getI (by omega)⟩
    obtain ⟨x', hx', nt0⟩ := nb.get (gmap ht)
    obtain rfl : x' = .ref b := by rw [List.getElem?_map, hb] at hx'; exact (Option.some.inj hx').symm
    have htU := List.mem_of_getElem? ht
    have htM := hv.perm.mem_iff.mpr htU
    have nt := nt0.keep k4
    have du5 := du.same s4
    obtain ⟨l, xs, el0, el, nl⟩ := (lu t htU).same s4
    have lxs : xs.length = (UF bk W t).length := by rw [nl.length, List.length_map]
    have ppu : pu ≠ p := fun z => by obtain ⟨φ, e⟩ := du.ext; rw [z, np] at e; cases e
    refine ⟨_, rfl, _, rfl, pu, _, rfl, du5.ngetT encT nt htU, l, el0, ⟨_, .of el⟩, ?_⟩
    refine for_it walk_list (fun j σ H6 => ∃ x7 x8, σ = [some v0, some v1, some (.ref pc), some (.ref pl), some (.ref pu), some (.ref p), some (.ref b), x7, x8] ∧ Same H2 H6 ∧ H6 pu = some φ ∧ KpT H3 H6 ∧ H6 l = some (.lst xs) ∧ KpT H5 H6 ∧ ∃ f, DM P w H6 p eP (pairs ((UM bk W).take i) (UF bk W) ++ ((UF bk W t).take j).map fun y => (t, y)) f ∧ ∀ q ∈ pairs ((UM bk W).take i) (UF bk W) ++ ((UF bk W t).take j).map (fun y => (t, y)), f q = .int (exT bk W ch q.1 q.2))
      ⟨_, _, rfl, s4, e4, k4, el, KpT.refl _, f0, by simpa using d4, by simpa using v4⟩ (fun j σ H6 _ ⟨_, _, _, _, _, _, e, _⟩ => .of e) ?_ ?_
    · rintro j x σ H6 H7 hj ⟨x7, x8, rfl, s6, e6, k6, el6, kk6, f1, d6, w6⟩ ⟨rfl, hx⟩
      obtain ⟨kk, hk, ny0⟩ := nl.get' hx
      obtain ⟨y, hy, rfl⟩ := gmap' hk
      have hyU := List.mem_of_getElem? hy
      have ny := ny0.keep kk6
      have nt6 := nt0.keep k6
      have s06 := smT s02 s6
      have wyok := mem_waysT okb okW (UM_lt htU).1 (UF_way hyU)
      have nM : ∀ n ∈ needsT bk W t y, n ∈ M := fun n hn => hv.perm.mem_iff.mpr (UF_need hyU n hn)
      refine ⟨_, rfl, _, rfl, _, rfl, _, rfl, _, rfl, _, _, _, _, rfl, bk, W, t, y, okb, okW, hB.same s06, hW.same s06, nt6, ny, wyok, fun r H8 s8 hr8 => ?_⟩
      have s68 := smT s6 s8
      refine ⟨_, rfl, _, _, _, rfl, bk, W, M, ch, t, needsT bk W t y, pl, hM, fun t ht u hu => hu.mem hv.ok ht, nt6.keep (.of s8), htM, hr8, needs_len okb okW wyok, nM, rfl, lots.same (smT s2 s68), fun r2 H9 l2 s9 hl2 nd2 mem2 => ?_⟩
      have s69 := smT s8 s9
      have s09 := smT s06 s69
      have l2M : ∀ u ∈ l2, u ∈ M := fun u hu => ((mem2 u).mp hu).1.mem hv.ok htM
      refine ⟨_, rfl, _, rfl, _, rfl, _, _, _, rfl, bk, W, M, ch, pc, g, l2, hB.same s09, rfl, hc.same s09, hv.ok.wy, hl2, Nat.le_trans (nodup_sub_len nd2 l2M) (Nat.le_trans hM (by decide)), l2M, fun H10 s10 => ?_⟩
      have s610 := smT s69 s10
      refine ⟨_, rfl, _, rfl, _, rfl, by show 2 ≤ sizeLine; decide, fun qk nqk => ?_⟩
      have sk : Same H10 (upd H10 qk (.tup [.ref b, x])) := same_upd nqk
      have s6k := smT s610 sk
      have nkey : Nk (upd H10 qk (.tup [.ref b, x])) (.ref qk) (eP (t, y)) := .of2 upd_same (nt6.keep (.of s6k)) (ny.keep (.of s6k))
      have nw : (t, y) ∉ pairs ((UM bk W).take i) (UF bk W) ++ ((UF bk W t).take j).map fun y => (t, y) := fun z => by
        rcases List.mem_append.mp z with z | z
        · exact not_mem_take UM_nd ht (mem_pairs.mp z).1
        · obtain ⟨y', h1, h2⟩ := List.mem_map.mp z
          have : y' = y := congrArg (·.2) h2
          rw [this] at h1
          exact not_mem_take (UF_nd t) hy h1
      refine (d6.same s6k).nput encP (t := (t, y)) (plen ht) nkey fun H11 b11 d11 => ?_
      have dk := d6.same s6k
      have kb : KpT (upd H10 qk (.tup [.ref b, x])) H11 := b11.kpt (Dc.ntup dk)
      obtain ⟨φp, hφp⟩ := dk.ext
      have keepO : ∀ c o, c ≠ p → H7 c = some o → H11 c = some o := fun c o hc e => by rw [b11 c hc]; exact s6k _ _ e
      refine ⟨_, _, rfl, smB np (smT s6 s6k) b11, keepO _ _ ppu e6, (k6.trans (.of s6k)).trans kb, ?_, (kk6.trans (.of s6k)).trans kb, updF f1 (t, y) (.int (costT bk ch l2)), ?_, ?_⟩
      · refine keepO _ _ (fun z => ?_) el6
        obtain ⟨φ', e'⟩ := d6.ext
        rw [z, e'] at el6; cases el6
      · rw [insL_new nw] at d11
        rw [take_snoc hy, ← List.append_assoc]
        exact d11
      · rw [take_snoc hy, ← List.append_assoc]
        intro q' hq'
        unfold updF
        by_cases e : q' = (t, y)
        · rw [if_pos e, e, ex_eq hv htM nd2 mem2]
        · rw [if_neg e]
          rcases List.mem_append.mp hq' with h | h
          · exact w6 q' h
          · exact absurd (List.mem_singleton.mp h) e
    · rintro σ H6 ⟨x7, x8, rfl, s6, e6, k6, el6, kk6, f1, d6, w6⟩
      rw [lxs, List.take_length] at d6 w6
      rw [← pairs_take ht] at d6 w6
      exact ⟨_, _, _, rfl, s6, e6, k6, f1, d6, w6⟩
  · rintro σ H4 ⟨x6, x7, x8, rfl, s4, e4, k4, f0, d4, v4⟩
    rw [lbs, List.take_length] at d4 v4
    exact ⟨_, rfl, q p H4 (smT s02 s4) np0 ⟨f0, d4, v4⟩⟩
theorem chB {P : Program} {w : World} {K : PySem.W.Frag} {H : Hp} {bk : Bk} {W : List Vl} {M : List Thg} {ch : Thg → Wy} {rank : Thg → Nat} {pc : Addr} {g : Thg → V} (hc : ChAt P w H pc M ch g) (hv : ChV bk W M ch rank) : ChB P w K H (.ref pc) bk W true := ⟨M, ch, rank, g, pc, rfl, hc, hv⟩
def sp_extras (P : Program) (w : World) (K : PySem.W.Frag) (CB CW : Addr) : Sp := spEx P w CB CW
abbrev n_extras : List Str := ["book", "web", "choice"]
theorem sc_extras : FnScope n_extras ["book", "web", "choice"] (defScope s_extras) := ⟨rfl, rfl, rfl, by decide +kernel, rfl, by decide +kernel, by decide +kernel⟩
theorem cl_extras {P : Program} {w : World} {K : PySem.W.Frag} {mg : Str → Option Value} {base : Heap} {CB CW : Addr} (Z : Fx K mg CB CW) : Cl P w K mg base "extras" 7 ["book", "web", "choice"] (sp_extras P w K CB CW) := by
  refine Z.d_extras.cl (N := n_extras) (k := 6) sc_extras (fun vs H Q E h => by obtain ⟨_, _, _, rfl, _⟩ := h; rfl) (fun _ _ _ _ _ _ us hl => match us, hl with | [_, _, _], _ => rfl) fun f cdv A outer s H0 E0 hr => ⟨_, (pss_cons (ps_expr (pe_cl (cl_check_choice (P := P) (w := w) (K := K) (base := base) Z) hr (by decide) rfl (pa_cons (pv 0) (pa_cons (pv 1) (pa_cons (pv 2) pa_nil))))) (pss_one (ps_ret (pe_cl (cl_raw_extras (P := P) (w := w) (K := K) (base := base) Z) hr (by decide) rfl (pa_cons (pv 0) (pa_cons (pv 1) (pa_cons (pv 2) pa_nil))))))), fun vs H Q E h => ?_⟩
  obtain ⟨v0, v1, v2, rfl, h⟩ := h
  obtain ⟨bk, W, M, ch, rank, pc, g, okb, okW, hB, hW, rfl, hc, hv, q⟩ := h
  exact ⟨_, rfl, _, rfl, _, rfl, _, _, _, rfl, bk, W, okb, okW, hB, hW, chB hc hv, fun H1 s1 => ⟨_, rfl, _, rfl, _, rfl, _, _, _, rfl, bk, W, M, ch, rank, pc, g, okb, okW, hB.same s1, hW.same s1, rfl, hc.same s1, hv, fun p H2 s2 np ex => q p H2 (smT s1 s2) (none_back s1 np) ex⟩⟩
/-- the least pair that is undercut, or None -/
def UcR (H : Hp) (v : V) (ws : List (Thg × Wy)) : Prop := match ws with
  | [] => v = .non
  | k :: ks => ∃ k', Nk H v k' ∧ k' ∈ (k :: ks).map eP ∧ k'.data = PySem.W.minD (eP k).data ((ks.map eP).map NestedKey.data)
theorem UcR.non {H : Hp} {v : V} : ∀ {ws : List (Thg × Wy)}, UcR H v ws → (v = .non ↔ ws = [])
  | [], h => ⟨fun _ => rfl, fun _ => h⟩
  | k :: ks, h => by
    obtain ⟨k', n, hm, _⟩ := h
    refine ⟨fun z => ?_, fun z => nomatch z⟩
    obtain ⟨p, _, rfl⟩ := List.mem_map.mp hm
    obtain ⟨a, xs, e, _⟩ := n.tupE
    rw [z] at e; cases e
def spUc (P : Program) (w : World) (CB CW : Addr) : Sp := fun vs H Q _ => ∃ a b c, vs = [a, b, c] ∧ ∃ (bk : Bk) (W : List Vl) (M : List Thg) (ch : Thg → Wy) (rank : Thg → Nat) (pc : Addr) (g : Thg → V), bk.Ok ∧ WbOk bk W ∧ BkAt CB H a bk ∧ WbAt CW H b W ∧ c = .ref pc ∧ ChAt P w H pc M ch g ∧ ChV bk W M ch rank ∧
  ∀ r H', Same H H' → UcR H' r (wrong bk W ch) → Q r H'
def sp_raw_undercut (P : Program) (w : World) (K : PySem.W.Frag) (CB CW : Addr) : Sp := spUc P w CB CW
abbrev n_raw_undercut : List Str := ["book", "web", "choice", "found", "some", "pair"]
theorem sc_raw_undercut : FnScope n_raw_undercut ["book", "web", "choice"] (defScope s_raw_undercut) := ⟨rfl, rfl, rfl, by decide +kernel, rfl, by decide +kernel, by decide +kernel⟩
theorem cl_raw_undercut {P : Program} {w : World} {K : PySem.W.Frag} {mg : Str → Option Value} {base : Heap} {CB CW : Addr} (Z : Fx K mg CB CW) : Cl P w K mg base "raw_undercut" 5 ["book", "web", "choice"] (sp_raw_undercut P w K CB CW) := by
  refine Z.d_raw_undercut.cl (N := n_raw_undercut) (k := 4) sc_raw_undercut (fun vs H Q E h => by obtain ⟨_, _, _, rfl, _⟩ := h; rfl) (fun _ _ _ _ _ _ us hl => match us, hl with | [_, _, _], _ => rfl) fun f cdv A outer s H0 E0 hr => ⟨_, (pss_cons (ps_set (i := 3) sc_raw_undercut.nd rfl (Or.inr rfl) (pe_cl (cl_raw_extras (P := P) (w := w) (K := K) (base := base) Z) hr (by decide) rfl (pa_cons (pv 0) (pa_cons (pv 1) (pa_cons (pv 2) pa_nil))))) (pss_cons (ps_setLc (i := 4) (own := [("pair", 5)]) rfl sc_raw_undercut.nd rfl rfl (sw_true rfl rfl rfl (by decide +kernel)) (qpiN (by exact ⟨rfl, rfl, rfl⟩ : At _ P w K) (pv 3)) (blkOk_by (N := n_raw_undercut) (sc := defScope s_raw_undercut) (by decide +kernel)) (fun _ _ _ _ _ => (pg_name (i := 5) sc_raw_undercut.nd rfl (by first | exact Or.inl rfl | exact Or.inr rfl))) (fun _ _ _ _ _ => (pts_one (pt_cmpR op_gt (qnget (by exact ⟨rfl, rfl, rfl⟩ : At _ P w K) hr.units (pv 3) (pv 5) (fun _ _ => rfl)) (pe_cl (cl_price_of (P := P) (w := w) (K := K) (base := base) Z) hr (by decide) rfl (pa_cons (pv 0) (pa_cons (pe_ix (qixT (by exact ⟨rfl, rfl, rfl⟩ : At _ P w K)) (pv 5) pe_int (fun _ _ => rfl)) pa_nil))) (nomark _)))) (fun _ _ _ _ _ => (pv 5))) (pss_one (ps_ret (pe_ifExp (pt_cmpR op_gt (pe_callB (qlen (by exact ⟨rfl, rfl, rfl⟩ : At _ P w K)) rfl Z.f_len bt_len (pa_cons (pv 4) pa_nil)) pe_int (nomark _)) (pe_callB (qminK (by exact ⟨rfl, rfl, rfl⟩ : At _ P w K) rfl hr.units) rfl Z.f_min bt_min (pa_cons (pv 4) pa_nil)) pe_non))))), fun vs H Q E h => ?_⟩
  obtain ⟨v0, v1, v2, rfl, h⟩ := h
  obtain ⟨bk, W, M, ch, rank, pc, g, okb, okW, hB, hW, rfl, hc, hv, q⟩ := h
  refine ⟨_, rfl, _, rfl, _, rfl, _, _, _, rfl, bk, W, M, ch, rank, pc, g, okb, okW, hB, hW, rfl, hc, hv, fun p H1 s1 np ex => ?_⟩
  obtain ⟨f, d, vf⟩ := ex
  have plen : (pairs (UM bk W) (UF bk W)).length ≤ 2700 := by
    have h1 := pairs_len (W := W) okb (UM bk W)
    have h2 := UM_len okb okW
    omega
  refine ⟨_, rfl, p, _, rfl, d, fun φ bs hφ pbs => ?_⟩
  have lbs : bs.length = (pairs (UM bk W) (UF bk W)).length := by rw [← Paired.length pbs, List.length_map]
  refine lc_sm walk_n (fun i acc H2 => NkA H2 acc ((((pairs (UM bk W) (UF bk W)).take i).filter (wrP bk W ch)).map eP)) (by rw [lbs]; exact Nat.le_trans plen (by decide)) (fun i acc H2 H3 t r => r.keep t) (fun i acc H2 r => ?_) (fun H2 s => s _ _ hφ) .nil ?_ ?_
  · rw [r.length, List.length_map]
    exact Nat.le_trans (List.length_filter_le _ _) (List.length_take_le _ _)
  · rintro i x acc H2 H3 Kd Kn hi s2 r kd kn ⟨rfl, b, hb, rfl⟩
    obtain ⟨u, hu⟩ : ∃ u, (pairs (UM bk W) (UF bk W))[i]? = some u := ⟨_, getI (by omega)⟩
    obtain ⟨b', hb', nx0⟩ := paired_getL pbs (gmap hu)
    obtain rfl : b = b' := by rw [hb] at hb'; exact Option.some.inj hb'
    have nx : Nk H3 (.ref b) (eP u) := (show Nk H1 (.ref b) (eP u) from nx0).keep (.of s2)
    have hum := List.mem_of_getElem? hu
    obtain ⟨hu1, hu2⟩ := mem_pairs.mp hum
    obtain ⟨a, x, y, e1, e2, n1, n2⟩ := nx.two
    cases e1
    have wyok := mem_waysT okb okW (UM_lt hu1).1 (UF_way hu2)
    have vv := vf u hum
    refine ⟨rfl, _, rfl, _, rfl, p, _, rfl, (d.same s2).ngetT encP nx hum, _, rfl, _, rfl, _, _, _, _, rfl, rfl, .of e2, rfl, _, _, rfl, bk, u.2, priceW bk u.2, hB.same (smT s1 s2), n2, wyok.price, _, _, vv, rfl, _, rfl, ?_⟩
    refine iteB (c := wrP bk W ch u) (fun hq => ⟨_, rfl, kd _ _ (sm0 _) ?_⟩) (fun hq => kn _ (sm0 _) ?_)
    · rw [filter_snoc (q := wrP bk W ch) hu, if_pos hq, List.map_append]
      exact NkA.snoc nx r
    · rw [filter_snoc (q := wrP bk W ch) hu, if_neg (bfl hq), List.append_nil]
      exact r
  · intro acc H2 p2 s2 ep np2 r
    rw [lbs, List.take_length] at r
    have r : NkA H2 acc ((wrong bk W ch).map eP) := r
    have lac : acc.length = (wrong bk W ch).length := by rw [r.length, List.length_map]
    refine ⟨_, rfl, _, _, rfl, .inl ⟨_, .of ep, rfl⟩, _, _, rfl, rfl, _, rfl, ?_⟩
    have lw : (wrong bk W ch).length ≤ 2700 := Nat.le_trans (List.length_filter_le _ _) plen
    cases hw : wrong bk W ch with
    | nil =>
      rw [hw] at lac
      exact iteN (by rw [lac]; decide) (q _ _ (smT s1 s2) (by rw [hw]; rfl))
    | cons k ks =>
      rw [hw] at lac r lw
      rw [List.length_cons] at lac
      refine iteD (by omega) ⟨_, rfl, p2, acc, eP k, ks.map eP, rfl, .of ep, r.paired, srt_P (ts := k :: ks) (Nat.le_trans lw (by decide)), fun v hv' ⟨k', n', hk', e'⟩ => q _ _ (smT s1 s2) (by rw [hw]; exact ⟨k', n', hk', e'⟩)⟩
def sp_undercut (P : Program) (w : World) (K : PySem.W.Frag) (CB CW : Addr) : Sp := spUc P w CB CW
abbrev n_undercut : List Str := ["book", "web", "choice"]
theorem sc_undercut : FnScope n_undercut ["book", "web", "choice"] (defScope s_undercut) := ⟨rfl, rfl, rfl, by decide +kernel, rfl, by decide +kernel, by decide +kernel⟩
theorem cl_undercut {P : Program} {w : World} {K : PySem.W.Frag} {mg : Str → Option Value} {base : Heap} {CB CW : Addr} (Z : Fx K mg CB CW) : Cl P w K mg base "undercut" 7 ["book", "web", "choice"] (sp_undercut P w K CB CW) := by
  refine Z.d_undercut.cl (N := n_undercut) (k := 6) sc_undercut (fun vs H Q E h => by obtain ⟨_, _, _, rfl, _⟩ := h; rfl) (fun _ _ _ _ _ _ us hl => match us, hl with | [_, _, _], _ => rfl) fun f cdv A outer s H0 E0 hr => ⟨_, (pss_cons (ps_expr (pe_cl (cl_check_choice (P := P) (w := w) (K := K) (base := base) Z) hr (by decide) rfl (pa_cons (pv 0) (pa_cons (pv 1) (pa_cons (pv 2) pa_nil))))) (pss_one (ps_ret (pe_cl (cl_raw_undercut (P := P) (w := w) (K := K) (base := base) Z) hr (by decide) rfl (pa_cons (pv 0) (pa_cons (pv 1) (pa_cons (pv 2) pa_nil))))))), fun vs H Q E h => ?_⟩
  obtain ⟨v0, v1, v2, rfl, h⟩ := h
  obtain ⟨bk, W, M, ch, rank, pc, g, okb, okW, hB, hW, rfl, hc, hv, q⟩ := h
  exact ⟨_, rfl, _, rfl, _, rfl, _, _, _, rfl, bk, W, okb, okW, hB, hW, chB hc hv, fun H1 s1 => ⟨_, rfl, _, rfl, _, rfl, _, _, _, rfl, bk, W, M, ch, rank, pc, g, okb, okW, hB.same s1, hW.same s1, rfl, hc.same s1, hv, fun r H2 s2 u => q r H2 (smT s1 s2) u⟩⟩
def sp_is_best (P : Program) (w : World) (K : PySem.W.Frag) (CB CW : Addr) : Sp := fun vs H Q _ => ∃ a b c, vs = [a, b, c] ∧ ∃ (bk : Bk) (W : List Vl), bk.Ok ∧ WbOk bk W ∧ BkAt CB H a bk ∧ WbAt CW H b W ∧
  ((NoCh P w K H c bk W ∧ ∀ H', Same H H' → Q (.bl false) H') ∨ ∃ (M : List Thg) (ch : Thg → Wy) (rank : Thg → Nat) (pc : Addr) (g : Thg → V), c = .ref pc ∧ ChAt P w H pc M ch g ∧ ChV bk W M ch rank ∧ ∀ H', Same H H' → Q (.bl (wrong bk W ch).isEmpty) H')
abbrev n_is_best : List Str := ["book", "web", "choice"]
theorem sc_is_best : FnScope n_is_best ["book", "web", "choice"] (defScope s_is_best) := ⟨rfl, rfl, rfl, by decide +kernel, rfl, by decide +kernel, by decide +kernel⟩
theorem cl_is_best {P : Program} {w : World} {K : PySem.W.Frag} {mg : Str → Option Value} {base : Heap} {CB CW : Addr} (Z : Fx K mg CB CW) : Cl P w K mg base "is_best" 6 ["book", "web", "choice"] (sp_is_best P w K CB CW) := by
  refine Z.d_is_best.cl (N := n_is_best) (k := 5) sc_is_best (fun vs H Q E h => by obtain ⟨_, _, _, rfl, _⟩ := h; rfl) (fun _ _ _ _ _ _ us hl => match us, hl with | [_, _, _], _ => rfl) fun f cdv A outer s H0 E0 hr => ⟨_, (pss_one (ps_ret (pe_and (pe_cl (cl_is_choice (P := P) (w := w) (K := K) (base := base) Z) hr (by decide) rfl (pa_cons (pv 0) (pa_cons (pv 1) (pa_cons (pv 2) pa_nil)))) (pe_one (pe_cmpR op_isN (pe_cl (cl_raw_undercut (P := P) (w := w) (K := K) (base := base) Z) hr (by decide) rfl (pa_cons (pv 0) (pa_cons (pv 1) (pa_cons (pv 2) pa_nil)))) pe_non (nomark _)))))), fun vs H Q E h => ?_⟩
  obtain ⟨v0, v1, v2, rfl, h⟩ := h
  obtain ⟨bk, W, okb, okW, hB, hW, h⟩ := h
  rcases h with ⟨hn, q⟩ | ⟨M, ch, rank, pc, g, rfl, hc, hv, q⟩
  · exact ⟨_, rfl, _, rfl, _, rfl, _, _, _, rfl, bk, W, false, okb, okW, hB, hW, hn, fun H1 s1 => ⟨_, rfl, iteF (q _ s1)⟩⟩
  · refine ⟨_, rfl, _, rfl, _, rfl, _, _, _, rfl, bk, W, true, okb, okW, hB, hW, chB hc hv, fun H1 s1 => ⟨_, rfl, iteT ⟨_, rfl, _, rfl, _, rfl, _, _, _, rfl, bk, W, M, ch, rank, pc, g, okb, okW, hB.same s1, hW.same s1, rfl, hc.same s1, hv, fun r H2 s2 u => ⟨rfl, ?_⟩⟩⟩⟩
    have e : decide (r = V.non) = (wrong bk W ch).isEmpty := by
      rw [Bool.eq_iff_iff, decide_eq_true_iff, u.non, List.isEmpty_iff]
    have := q _ (smT s1 s2)
    rw [← e] at this
    exact this
end K19
set_option maxHeartbeats 4000000
namespace K19
open PySem PySem.Spec PyProof.Rows L2
/-- makeable things -/
inductive Mk (bk : Bk) (W : List Vl) : Thg → Prop
  | mk {t : Thg} {y : Wy} : t.1 < W.length → t.2 < bk.ks → y ∈ waysT bk W t → (∀ n ∈ needsT bk W t y, Mk bk W n) → Mk bk W t
theorem Mk.lt {bk : Bk} {W : List Vl} {t : Thg} (h : Mk bk W t) : t.1 < W.length ∧ t.2 < bk.ks := by cases h with | mk a b _ _ => exact ⟨a, b⟩
open PySem.W (dataLe dataLt keyToks keyToksAll alike alikeAll minD)
theorem dataLt_tot {a b : PyData} (h1 : dataLt a b = false) (h2 : dataLt b a = false) : keyToks a = keyToks b := (PyProof.Rows.listOrd PyProof.Rows.itemOrd).total _ _ h1 h2
theorem dataLt_neg {a b c : PyData} (h1 : dataLt a b = false) (h2 : dataLt b c = false) : dataLt a c = false := by
  cases e : dataLt a c with
  | false => rfl
  | true =>
    rcases (PyProof.Rows.listOrd PyProof.Rows.itemOrd).negTrans (keyToks a) (keyToks b) (keyToks c) e with h | h
    · exact absurd (h1.symm.trans h) Bool.false_ne_true
    · exact absurd (h2.symm.trans h) Bool.false_ne_true
theorem dataLt_irr (a : PyData) : dataLt a a = false := (PyProof.Rows.listOrd PyProof.Rows.itemOrd).irrefl _
theorem dataLt_asym {a b : PyData} (h : dataLt a b = true) : dataLt b a = false := by
  cases e : dataLt b a with
  | false => rfl
  | true => exact absurd ((dataLt_irr a).symm.trans ((PyProof.Rows.listOrd PyProof.Rows.itemOrd).trans _ _ _ h e)) Bool.false_ne_true
theorem minD_le : ∀ (xs : List PyData) (x y : PyData), y ∈ x :: xs → dataLt y (minD x xs) = false
  | [], x, y, h => by rw [List.mem_singleton.mp h]; exact dataLt_irr x
  | z :: zs, x, y, h => by
    have ih := minD_le zs (if dataLt z x = true then z else x)
    show dataLt y (minD (if dataLt z x = true then z else x) zs) = false
    have h0 := ih _ (List.mem_cons_self ..)
    rcases List.mem_cons.mp h with rfl | h
    · refine dataLt_neg (b := if dataLt z y = true then z else y) ?_ h0
      by_cases c : dataLt z y = true
      · rw [if_pos c]; exact dataLt_asym c
      · rw [if_neg c]; exact dataLt_irr y
    · rcases List.mem_cons.mp h with rfl | h
      · refine dataLt_neg (b := if dataLt y x = true then y else x) ?_ h0
        by_cases c : dataLt y x = true
        · rw [if_pos c]; exact dataLt_irr y
        · rw [if_neg c]; exact Bool.eq_false_iff.mpr c
      · exact ih y (List.mem_cons_of_mem _ h)
theorem toks_W (y : Wy) : keyToks (eW y).data = [.inl 1, .inr (wS y.1).cps.toList, .inl 1, .inl (y.2 : Int), .inl 0] := by
  simp [NestedKey.data, NestedKey.datas, keyToks, keyToksAll]
theorem toks_P (p : Thg × Wy) : keyToks (eP p).data = [.inl 1, .inl 1, .inl (p.1.1 : Int), .inl 1, .inl (p.1.2 : Int), .inl 0, .inl 1, .inl 1, .inr (wS p.2.1).cps.toList, .inl 1, .inl (p.2.2 : Int), .inl 0, .inl 0] := by
  simp [NestedKey.data, NestedKey.datas, keyToks, keyToksAll]
theorem toks_inj_P {a b : Thg × Wy} (h : keyToks (eP a).data = keyToks (eP b).data) : a = b := by
  rw [toks_P, toks_P] at h
  obtain ⟨⟨a1, a2⟩, a3, a4⟩ := a
  obtain ⟨⟨b1, b2⟩, b3, b4⟩ := b
  simp only [List.cons.injEq, Sum.inl.injEq, Sum.inr.injEq, true_and, and_true] at h
  obtain ⟨h1, h2, h3, h4⟩ := h
  have e1 : a1 = b1 := by omega
  have e2 : a2 = b2 := by omega
  have e4 : a4 = b4 := by omega
  have e3 : a3 = b3 := by
    cases a3 <;> cases b3 <;> first | rfl | (exfalso; revert h3; decide +kernel)
  rw [e1, e2, e3, e4]
theorem toks_inj_T {a b : Thg} (h : keyToks (eT a).data = keyToks (eT b).data) : a = b := by
  rw [toks_T, toks_T] at h
  obtain ⟨a1, a2⟩ := a
  obtain ⟨b1, b2⟩ := b
  simp only [List.cons.injEq, Sum.inl.injEq, true_and, and_true] at h
  obtain ⟨h1, h2⟩ := h
  have e1 : a1 = b1 := by omega
  have e2 : a2 = b2 := by omega
  rw [e1, e2]
theorem tot_le : PySem.W.TotalLe (dataLe false NestedKey.data) := PySem.W.sortLe_total _ _ _
theorem le_iff {a b : NestedKey} : dataLe false NestedKey.data a b = !dataLt b.data a.data := rfl
theorem srtT_uniq {a b : List Thg} (h : a.Perm b) : srtT a = srtT b := by
  have tl : PySem.W.TotalLe leT := ⟨fun x y z h1 h2 => tot_le.trans (eT x) (eT y) (eT z) h1 h2, fun x y => tot_le.total (eT x) (eT y)⟩
  refine List.Perm.eq_of_pairwise (le := fun x y => leT x y = true) (fun x y _ _ h1 h2 => ?_) (PySem.W.sort_pairwise tl a) (PySem.W.sort_pairwise tl b) ((srtT_perm a).trans (h.trans (srtT_perm b).symm))
  have h1 : (!dataLt (eT y).data (eT x).data) = true := h1
  have h2 : (!dataLt (eT x).data (eT y).data) = true := h2
  rw [Bool.not_eq_true'] at h1 h2
  exact toks_inj_T (dataLt_tot h2 h1)
/-! ### chains -/
inductive Chain (R : Nat → Prop) (E : Nat → Nat → Prop) : List Nat → Prop
  | one {k : Nat} : R k → Chain R E [k]
  | cons {k f : Nat} {l : List Nat} : E f k → Chain R E (f :: l) → Chain R E (k :: f :: l)
inductive Rk (R : Nat → Prop) (E : Nat → Nat → Prop) : Nat → Prop
  | base {k : Nat} : R k → Rk R E k
  | step {f k : Nat} : E f k → Rk R E f → Rk R E k
section
variable {R : Nat → Prop} {E : Nat → Nat → Prop}
theorem Chain.tail_of {k : Nat} : ∀ {l : List Nat}, Chain R E l → k ∈ l → ∃ l', Chain R E (k :: l') ∧ (k :: l').Sublist l
  | _, @Chain.one _ _ a h, hk => by
    rw [List.mem_singleton.mp hk]
    exact ⟨[], .one h, List.Sublist.refl _⟩
  | _, @Chain.cons _ _ a f l e c, hk => by
    rcases List.mem_cons.mp hk with rfl | hk
    · exact ⟨f :: l, .cons e c, List.Sublist.refl _⟩
    · obtain ⟨l', h1, h2⟩ := Chain.tail_of c hk
      exact ⟨l', h1, h2.cons _⟩
theorem Rk.chain {k : Nat} (h : Rk R E k) : ∃ l, Chain R E (k :: l) ∧ (k :: l).Nodup := by
  induction h with
  | base h => exact ⟨[], .one h, by simp⟩
  | step e h ih =>
    rename_i f k
    obtain ⟨l, h1, h2⟩ := ih
    by_cases hk : k ∈ f :: l
    · obtain ⟨l', h3, h4⟩ := h1.tail_of hk
      exact ⟨l', h3, h2.sublist h4⟩
    · exact ⟨f :: l, .cons e h1, List.nodup_cons.mpr ⟨hk, h2⟩⟩
def desc : List Nat → Nat
  | [] => 0
  | [_] => 0
  | k :: f :: l => (if k < f then 1 else 0) + desc (f :: l)
theorem desc_le : ∀ {l : List Nat} {k K : Nat}, (∀ x ∈ k :: l, x < K) → desc (k :: l) ≤ l.length ∧ (desc (k :: l) = l.length → k + l.length < K)
  | [], k, K, h => ⟨Nat.le_refl _, fun _ => h k (List.mem_cons_self ..)⟩
  | f :: l, k, K, h => by
    obtain ⟨h1, h2⟩ := desc_le (l := l) (k := f) (K := K) fun x hx => h x (List.mem_cons_of_mem _ hx)
    have e : desc (k :: f :: l) = (if k < f then 1 else 0) + desc (f :: l) := rfl
    rw [e, List.length_cons]
    split
    · exact ⟨by omega, fun z => by have := h2 (by omega); omega⟩
    · exact ⟨by omega, fun z => by omega⟩
theorem desc_kinds {l : List Nat} {k K : Nat} (nd : (k :: l).Nodup) (h : ∀ x ∈ k :: l, x < K) : desc (k :: l) + 1 ≤ K ∧ (desc (k :: l) + 1 = K → k = 0) := by
  obtain ⟨h1, h2⟩ := desc_le h
  have h3 := nodup_sub_len nd (m := List.range K) fun x hx => List.mem_range.mpr (h x hx)
  rw [List.length_cons, List.length_range] at h3
  exact ⟨by omega, fun z => by have := h2 (by omega); omega⟩
theorem Chain.lt {K : Nat} (hR : ∀ k, R k → k < K) (hE : ∀ f k, E f k → k < K) : ∀ {l : List Nat}, Chain R E l → ∀ x ∈ l, x < K
  | _, .one h, x, hx => by rw [List.mem_singleton.mp hx]; exact hR _ h
  | _, .cons e c, x, hx => by
    rcases List.mem_cons.mp hx with rfl | hx
    · exact hE _ _ e
    · exact Chain.lt hR hE c x hx
end
/-! ### the search, turn by turn -/
section
variable {bk : Bk} {W : List Vl}
theorem stepU_mono' {S : US} {t u : Thg} (h : u ∈ S.1) : u ∈ (stepU bk W S t).1 := by
  unfold stepU
  split
  · exact h
  · exact mem_insL.mpr (.inl h)
theorem stepU_add {S : US} {t : Thg} {y : Wy} (hy : y ∈ waysT bk W t) (h : usab bk W S.1 t y = true) : t ∈ (stepU bk W S t).1 ∧ (stepU bk W S t).2 t = someU bk W S.1 t := by
  have hm : y ∈ someU bk W S.1 t := List.mem_filter.mpr ⟨hy, h⟩
  have hl := List.length_pos_of_mem hm
  unfold stepU
  rw [if_neg (by omega)]
  exact ⟨mem_insL.mpr (.inr rfl), if_pos rfl⟩
theorem stepU_other {S : US} {t u : Thg} (h : u ≠ t) : (stepU bk W S t).2 u = S.2 u := by
  unfold stepU
  split
  · rfl
  · exact if_neg h
theorem kL_mono {v : Nat} {S : US} {u : Thg} : ∀ {j j' : Nat}, j ≤ j' → u ∈ (kL bk W v S j).1 → u ∈ (kL bk W v S j').1 := by
  intro j j' h hu
  induction j' with
  | zero => rw [show j = 0 by omega] at hu; exact hu
  | succ n ih =>
    by_cases e : j = n + 1
    · rw [← e]; exact hu
    · rw [kL_succ]; exact stepU_mono' (ih (by omega))
theorem kL_base {v : Nat} {S : US} {u : Thg} {j : Nat} (h : u ∈ S.1) : u ∈ (kL bk W v S j).1 := kL_mono (Nat.zero_le j) (show u ∈ (kL bk W v S 0).1 from h)
theorem tL_mono {v : Nat} {S : US} {u : Thg} : ∀ {i i' : Nat}, i ≤ i' → u ∈ (tL bk W v S i).1 → u ∈ (tL bk W v S i').1 := by
  intro i i' h hu
  induction i' with
  | zero => rw [show i = 0 by omega] at hu; exact hu
  | succ n ih =>
    by_cases e : i = n + 1
    · rw [← e]; exact hu
    · rw [tL_succ]; exact kL_base (ih (by omega))
theorem vL_mono {u : Thg} : ∀ {i i' : Nat}, i ≤ i' → u ∈ (vL bk W i).1 → u ∈ (vL bk W i').1 := by
  intro i i' h hu
  induction i' with
  | zero => rw [show i = 0 by omega] at hu; exact hu
  | succ n ih =>
    by_cases e : i = n + 1
    · rw [← e]; exact hu
    · rw [vL_succ]
      exact tL_mono (Nat.zero_le _) (show u ∈ (tL bk W n (vL bk W n) 0).1 from ih (by omega))
theorem kL_other {v : Nat} {S : US} {u : Thg} : ∀ {j j' : Nat}, j ≤ j' → (u.1 ≠ v ∨ u.2 < j) → (kL bk W v S j').2 u = (kL bk W v S j).2 u := by
  intro j j' h hu
  induction j' with
  | zero => rw [show j = 0 by omega]
  | succ n ih =>
    by_cases e : j = n + 1
    · rw [← e]
    · rw [kL_succ, stepU_other, ih (by omega)]
      intro z
      rcases hu with h1 | h1
      · exact h1 (congrArg (·.1) z)
      · have : u.2 = n := congrArg (·.2) z
        omega
theorem tL_other {v : Nat} {S : US} {u : Thg} (hu : u.1 ≠ v) : ∀ i, (tL bk W v S i).2 u = S.2 u := by
  intro i
  induction i with
  | zero => rfl
  | succ n ih => rw [tL_succ, kL_other (Nat.zero_le _) (.inl hu)]; exact ih
theorem vL_other {u : Thg} {i : Nat} (hu : u.1 < i) : ∀ {i' : Nat}, i ≤ i' → (vL bk W i').2 u = (vL bk W i).2 u := by
  intro i' h
  induction i' with
  | zero => rw [show i = 0 by omega]
  | succ n ih =>
    by_cases e : i = n + 1
    · rw [← e]
    · rw [vL_succ, tL_other (by omega)]; exact ih (by omega)
theorem usab_mono {ts ts' : List Thg} {t : Thg} {y : Wy} (h : ∀ u ∈ ts, u ∈ ts') (hu : usab bk W ts t y = true) : usab bk W ts' t y = true :=
  List.all_eq_true.mpr fun n hn => memB_t (h n (memB_iff.mp (List.all_eq_true.mp hu n hn)))
/-- all that is found is makeable -/
theorem stepU_ok {S : US} {t : Thg} (h : ∀ u ∈ S.1, Mk bk W u) (h1 : t.1 < W.length) (h2 : t.2 < bk.ks) : ∀ u ∈ (stepU bk W S t).1, Mk bk W u := by
  intro u hu
  unfold stepU at hu
  split at hu
  · exact h u hu
  · rename_i hne
    rcases mem_insL.mp hu with hu | rfl
    · exact h u hu
    · cases e : someU bk W S.1 u with
      | nil => rw [e] at hne; exact absurd rfl hne
      | cons y ys =>
        have hy : y ∈ someU bk W S.1 u := by rw [e]; exact List.mem_cons_self ..
        obtain ⟨h3, h4⟩ := List.mem_filter.mp hy
        exact .mk h1 h2 h3 fun n hn => h n (memB_iff.mp (List.all_eq_true.mp h4 n hn))
theorem kL_ok {S : US} {v : Nat} (h : ∀ u ∈ S.1, Mk bk W u) (h1 : v < W.length) : ∀ j, j ≤ bk.ks → ∀ u ∈ (kL bk W v S j).1, Mk bk W u := by
  intro j
  induction j with
  | zero => exact fun _ => h
  | succ n ih => intro hj; rw [kL_succ]; exact stepU_ok (ih (by omega)) h1 (by show n < bk.ks; omega)
theorem tL_ok {S : US} {v : Nat} (h : ∀ u ∈ S.1, Mk bk W u) (h1 : v < W.length) : ∀ i, ∀ u ∈ (tL bk W v S i).1, Mk bk W u := by
  intro i
  induction i with
  | zero => exact h
  | succ n ih => rw [tL_succ]; exact kL_ok ih h1 _ (Nat.le_refl _)
theorem vL_ok : ∀ i, i ≤ W.length → ∀ u ∈ (vL bk W i).1, Mk bk W u := by
  intro i
  induction i with
  | zero => intro _ u h; cases h
  | succ n ih => intro hi; rw [vL_succ]; exact tL_ok (ih (by omega)) (by omega) _
/-- a kind by a rule; by a move -/
def RlK (bk : Bk) (W : List Vl) (v k : Nat) : Prop := v < W.length ∧ k < bk.ks ∧ ∃ y ∈ waysT bk W (v, k), ∀ n ∈ needsT bk W (v, k) y, n.1 < v ∧ Mk bk W n
def MvK (bk : Bk) (W : List Vl) (v f k : Nat) : Prop := v < W.length ∧ k < bk.ks ∧ f ≠ k ∧ ∃ y ∈ waysT bk W (v, k), needsT bk W (v, k) y = [(v, f)]
theorem way_kind (ok : bk.Ok) (okW : WbOk bk W) {t : Thg} {y : Wy} (h1 : t.1 < W.length) (hy : y ∈ waysT bk W t) : (∀ n ∈ needsT bk W t y, n.1 < t.1) ∨ ∃ f, f ≠ t.2 ∧ needsT bk W t y = [(t.1, f)] := by
  have wy := mem_waysT ok okW h1 hy
  have fit := needs_fits ok okW wy
  obtain ⟨yr, yi⟩ := y
  cases yr with
  | true =>
    refine .inl fun n hn => ?_
    obtain ⟨a, _, c⟩ := fit n hn
    refine Nat.lt_of_le_of_ne a fun z => ?_
    have := (c z).2
    cases this
  | false =>
    refine .inr ⟨(bk.ms.getD yi m0).fr, ?_, rfl⟩
    exact ((fit (t.1, (bk.ms.getD yi m0).fr) (List.mem_singleton.mpr rfl)).2.2 rfl).1
theorem Mk.rk (ok : bk.Ok) (okW : WbOk bk W) {t : Thg} (h : Mk bk W t) : Rk (RlK bk W t.1) (MvK bk W t.1) t.2 := by
  induction h with
  | mk h1 h2 h3 h4 ih =>
    rename_i t y
    rcases way_kind ok okW h1 h3 with h | ⟨f, hf, e⟩
    · exact .base ⟨h1, h2, y, h3, fun n hn => ⟨h n hn, h4 n hn⟩⟩
    · have hm : (t.1, f) ∈ needsT bk W t y := by rw [e]; exact List.mem_singleton.mpr rfl
      exact .step ⟨h1, h2, hf, y, h3, e⟩ (ih _ hm)
/-- when a chain's head is found -/
theorem chain_found {v : Nat} {S : US} (hS : ∀ t, t.1 < v → Mk bk W t → t ∈ S.1) : ∀ {l : List Nat}, Chain (RlK bk W v) (MvK bk W v) l → l.Nodup → ∀ k r, l = k :: r → (v, k) ∈ (kL bk W v (tL bk W v S (desc l)) (k + 1)).1
  | _, @Chain.one _ _ a h, _, k, r, e => by
    cases e
    obtain ⟨_, hk, y, hy, hn⟩ := h
    rw [kL_succ]
    refine (stepU_add hy (List.all_eq_true.mpr fun n hn' => memB_t (kL_base ?_))).1
    exact tL_mono (Nat.zero_le _) (show n ∈ (tL bk W v S 0).1 from hS n (hn n hn').1 (hn n hn').2)
  | _, @Chain.cons _ _ a f l e c, nd, k, r, e0 => by
    cases e0
    have ih := chain_found hS c (List.nodup_cons.mp nd).2 f l rfl
    obtain ⟨_, hk, hne, y, hy, en⟩ := e
    have ed : desc (a :: f :: l) = (if a < f then 1 else 0) + desc (f :: l) := rfl
    rw [kL_succ]
    refine (stepU_add hy (List.all_eq_true.mpr fun n hn' => memB_t ?_)).1
    rw [en] at hn'
    rw [List.mem_singleton.mp hn', ed]
    by_cases hkf : a < f
    · rw [if_pos hkf, Nat.add_comm, tL_succ]
      refine kL_base ?_
      have hf : f < bk.ks := Chain.lt (fun k h => h.2.1) (fun f k h => h.2.1) c f (List.mem_cons_self ..)
      exact kL_mono hf ih
    · rw [if_neg hkf, Nat.zero_add]
      exact kL_mono (by omega) ih
/-- the kinds of a value, found -/
theorem value_found (ok : bk.Ok) (okW : WbOk bk W) {v : Nat} {S : US} (hv : v < W.length) (hS : ∀ t, t.1 < v → Mk bk W t → t ∈ S.1) {k : Nat} (h : Mk bk W (v, k)) :
    (v, k) ∈ (tL bk W v S bk.ks).1 ∧ ((v, k) ∈ (tL bk W v S (bk.ks - 1)).1 ∨ (k = 0 ∧ (v, k) ∈ (kL bk W v (tL bk W v S (bk.ks - 1)) 1).1)) := by
  obtain ⟨l, c0, nd0⟩ := Rk.chain (Mk.rk ok okW h)
  have c : Chain (RlK bk W v) (MvK bk W v) (k :: l) := c0
  have nd : (k :: l).Nodup := nd0
  clear c0 nd0
  have lt : ∀ x ∈ k :: l, x < bk.ks := Chain.lt (fun k h => h.2.1) (fun f k h => h.2.1) c
  obtain ⟨d1, d2⟩ := desc_kinds nd lt
  have f := chain_found hS c nd k l rfl
  have hk := lt k (List.mem_cons_self ..)
  have f2 : (v, k) ∈ (tL bk W v S (desc (k :: l) + 1)).1 := by rw [tL_succ]; exact kL_mono hk f
  refine ⟨tL_mono d1 f2, ?_⟩
  by_cases e : desc (k :: l) + 1 = bk.ks
  · refine .inr ⟨d2 e, ?_⟩
    have e2 : desc (k :: l) = bk.ks - 1 := by omega
    rw [e2] at f
    have k0 : k = 0 := d2 e
    subst k0
    exact f
  · exact .inl (tL_mono (by omega) f2)
theorem vL_all (ok : bk.Ok) (okW : WbOk bk W) : ∀ i, i ≤ W.length → ∀ t, t.1 < i → Mk bk W t → t ∈ (vL bk W i).1 := by
  intro i
  induction i with
  | zero => intro _ t h; omega
  | succ n ih =>
    intro hi t ht hm
    have ih := ih (by omega)
    rw [vL_succ]
    by_cases e : t.1 = n
    · subst e
      exact (value_found ok okW (by omega) ih hm).1
    · exact tL_mono (Nat.zero_le _) (show t ∈ (tL bk W n (vL bk W n) 0).1 from ih t (by omega) hm)
theorem UM_mk (ok : bk.Ok) (okW : WbOk bk W) {t : Thg} : t ∈ UM bk W ↔ Mk bk W t := by
  rw [UM, (srtT_perm _).mem_iff]
  exact ⟨vL_ok _ (Nat.le_refl _) t, fun h => vL_all ok okW _ (Nat.le_refl _) t h.lt.1 h⟩
theorem UF_eq (ok : bk.Ok) (okW : WbOk bk W) {t : Thg} (h : t ∈ UM bk W) : UF bk W t = (waysT bk W t).filter (usab bk W (UM bk W) t) := by
  have hm := (UM_mk ok okW).mp h
  obtain ⟨v, k⟩ := t
  obtain ⟨hv, hk⟩ := hm.lt
  have hv : v < W.length := hv
  have hk : k < bk.ks := hk
  have hS := vL_all ok okW v (Nat.le_of_lt hv)
  have hks : bk.ks - 1 + 1 = bk.ks := by have := ok.k1; omega
  -- the state at which it is set last
  have e1 : UF bk W (v, k) = (kL bk W v (tL bk W v (vL bk W v) (bk.ks - 1)) (k + 1)).2 (v, k) := by
    unfold UF
    have e2 : tL bk W v (vL bk W v) bk.ks = kL bk W v (tL bk W v (vL bk W v) (bk.ks - 1)) bk.ks := by
      rw [← tL_succ, hks]
    rw [vL_other (i := v + 1) (by show v < v + 1; omega) hv, vL_succ, e2]
    exact kL_other hk (.inr (Nat.lt_succ_self k))
  -- what is needed is found by then
  have sx : ∀ n, Mk bk W n → (n.1 < v ∨ (n.1 = v ∧ n.2 ≠ k)) → n ∈ (kL bk W v (tL bk W v (vL bk W v) (bk.ks - 1)) k).1 := by
    intro n hn hc
    rcases hc with hc | ⟨rfl, hc⟩
    · exact kL_base (tL_mono (Nat.zero_le _) (show n ∈ (tL bk W v (vL bk W v) 0).1 from hS n hc hn))
    · rcases (value_found ok okW hv hS (k := n.2) hn).2 with h1 | ⟨h0, h1⟩
      · exact kL_base h1
      · exact kL_mono (by omega) h1
  have us : ∀ y ∈ waysT bk W (v, k), usab bk W (kL bk W v (tL bk W v (vL bk W v) (bk.ks - 1)) k).1 (v, k) y = usab bk W (UM bk W) (v, k) y := by
    intro y hy
    rw [Bool.eq_iff_iff]
    constructor
    · refine usab_mono fun u hu => (srtT_perm _).mem_iff.mpr ?_
      have h1 : u ∈ (tL bk W v (vL bk W v) bk.ks).1 := by
        have e2 : tL bk W v (vL bk W v) bk.ks = kL bk W v (tL bk W v (vL bk W v) (bk.ks - 1)) bk.ks := by
          rw [← tL_succ, hks]
        rw [e2]
        exact kL_mono (Nat.le_of_lt hk) hu
      exact vL_mono (i := v + 1) hv (by rw [vL_succ]; exact h1)
    · intro hu
      refine List.all_eq_true.mpr fun n hn => memB_t ?_
      have hnm := (UM_mk ok okW).mp (memB_iff.mp (List.all_eq_true.mp hu n hn))
      refine sx n hnm ?_
      rcases way_kind ok okW (t := (v, k)) hv hy with hw | ⟨f, hf, e⟩
      · exact .inl (hw n hn)
      · rw [e] at hn
        rw [List.mem_singleton.mp hn]
        exact .inr ⟨rfl, hf⟩
  rw [e1, kL_succ]
  obtain ⟨y, hy, hyu⟩ : ∃ y ∈ waysT bk W (v, k), usab bk W (UM bk W) (v, k) y = true := by
    cases hm with
    | mk _ _ c d => exact ⟨_, c, List.all_eq_true.mpr fun n hn => memB_t ((UM_mk ok okW).mpr (d n hn))⟩
  rw [(stepU_add hy ((us y hy).trans hyu)).2]
  exact List.filter_congr fun y hy => us y hy
end
end K19
set_option maxHeartbeats 4000000
namespace K19
open PySem PySem.Spec PyProof.Rows L2
/-! ### alone prices, as they are found -/
abbrev PS := List Thg × (Thg → Nat)
def totU (b : Bk) (W : List Vl) (S : PS) (t : Thg) (y : Wy) : Option Nat := if usab b W S.1 t y = true then some (priceW b y + ((needsT b W t y).map S.2).sum) else none
def getU (S : PS) (t : Thg) : Option Nat := if memB t S.1 = true then some (S.2 t) else none
def betU : Option Nat → Option Nat → Bool
  | none, _ => false
  | some _, none => true
  | some a, some b => decide (a < b)
def rlx (b : Bk) (W : List Vl) (t : Thg) (S : PS) (y : Wy) : PS := match totU b W S t y with
  | none => S
  | some h => if betU (some h) (getU S t) = true then (insL S.1 t, fun u => if u = t then h else S.2 u) else S
def rlT (b : Bk) (W : List Vl) (S : PS) (t : Thg) : PS := (UF b W t).foldl (rlx b W t) S
def thV (b : Bk) (W : List Vl) (v : Nat) : List Thg := ((List.range b.ks).map fun k => (v, k)).filter fun t => memB t (UM b W)
def rlP (b : Bk) (W : List Vl) (v : Nat) (S : PS) : PS := (thV b W v).foldl (rlT b W) S
def rlV (b : Bk) (W : List Vl) (S : PS) (v : Nat) : PS := (thV b W v).foldl (fun S _ => rlP b W v S) S
def PA (b : Bk) (W : List Vl) : PS := (List.range W.length).foldl (rlV b W) ([], fun _ => 0)
theorem foldl_take {α β : Type} {f : β → α → β} {l : List α} {i : Nat} {x : α} {S : β} (h : l[i]? = some x) : (l.take (i + 1)).foldl f S = f ((l.take i).foldl f S) x := by
  rw [List.take_succ, h, List.foldl_append]; rfl
theorem getU_t {S : PS} {t : Thg} (h : t ∈ S.1) : getU S t = some (S.2 t) := by unfold getU; rw [memB_t h]; rfl
theorem getU_f {S : PS} {t : Thg} (h : t ∉ S.1) : getU S t = none := by unfold getU; rw [memB_f h]; rfl
/-- one step, in short -/
theorem rlx_eq {b : Bk} {W : List Vl} {t : Thg} {S : PS} {y : Wy} : (betU (totU b W S t y) (getU S t) = true ∧ ∃ h, totU b W S t y = some h ∧ rlx b W t S y = (insL S.1 t, fun u => if u = t then h else S.2 u)) ∨ (betU (totU b W S t y) (getU S t) = false ∧ rlx b W t S y = S) := by
  unfold rlx
  cases e : totU b W S t y with
  | none => exact .inr ⟨rfl, rfl⟩
  | some h =>
    cases e2 : betU (some h) (getU S t) with
    | true => exact .inl ⟨rfl, h, rfl, by show (if _ then _ else _) = _; rw [if_pos e2]⟩
    | false => exact .inr ⟨rfl, by show (if _ then _ else _) = _; rw [if_neg (bfl e2)]⟩
theorem mem_thV {b : Bk} {W : List Vl} {v : Nat} {t : Thg} : t ∈ thV b W v ↔ t.1 = v ∧ t.2 < b.ks ∧ t ∈ UM b W := by
  unfold thV
  rw [List.mem_filter, memB_iff, List.mem_map]
  constructor
  · rintro ⟨⟨k, hk, rfl⟩, h⟩
    exact ⟨rfl, List.mem_range.mp hk, h⟩
  · rintro ⟨rfl, h1, h2⟩
    exact ⟨⟨t.2, List.mem_range.mpr h1, rfl⟩, h2⟩
/-- what stands all through: only usable things have prices -/
theorem rlx_sub {b : Bk} {W : List Vl} {t u : Thg} {S : PS} {y : Wy} (h : u ∈ (rlx b W t S y).1) : u ∈ S.1 ∨ u = t := by
  rcases rlx_eq (b := b) (W := W) (t := t) (S := S) (y := y) with ⟨_, h', _, e⟩ | ⟨_, e⟩
  · rw [e] at h; exact mem_insL.mp h
  · rw [e] at h; exact .inl h
section
variable {b : Bk} {W : List Vl}
def LeP (S S' : PS) : Prop := ∀ u ∈ S.1, u ∈ S'.1 ∧ S'.2 u ≤ S.2 u
theorem LeP.refl (S : PS) : LeP S S := fun _ h => ⟨h, Nat.le_refl _⟩
theorem LeP.trans {S S' S'' : PS} (a : LeP S S') (c : LeP S' S'') : LeP S S'' := fun u h => ⟨(c u (a u h).1).1, Nat.le_trans (c u (a u h).1).2 (a u h).2⟩
theorem rlx_le {t : Thg} {S : PS} {y : Wy} : LeP S (rlx b W t S y) := by
  intro u hu
  rcases rlx_eq (b := b) (W := W) (t := t) (S := S) (y := y) with ⟨hb, h, e1, e⟩ | ⟨_, e⟩
  · rw [e]
    refine ⟨mem_insL.mpr (.inl hu), ?_⟩
    show (if u = t then h else S.2 u) ≤ S.2 u
    by_cases c : u = t
    · rw [if_pos c]
      subst c
      rw [e1, getU_t hu] at hb
      exact Nat.le_of_lt (of_decide_eq_true hb)
    · rw [if_neg c]; exact Nat.le_refl _
  · rw [e]; exact ⟨hu, Nat.le_refl _⟩
theorem rlx_add {t : Thg} {S : PS} {y : Wy} {h : Nat} (hu : totU b W S t y = some h) : t ∈ (rlx b W t S y).1 ∧ (rlx b W t S y).2 t ≤ h := by
  rcases rlx_eq (b := b) (W := W) (t := t) (S := S) (y := y) with ⟨_, h', e1, e⟩ | ⟨hb, e⟩
  · rw [hu] at e1
    obtain rfl := Option.some.inj e1
    rw [e]
    exact ⟨mem_insL.mpr (.inr rfl), Nat.le_of_eq (if_pos rfl)⟩
  · rw [hu] at hb
    rw [e]
    by_cases m : t ∈ S.1
    · rw [getU_t m] at hb
      have := of_decide_eq_false hb
      exact ⟨m, by omega⟩
    · rw [getU_f m] at hb
      cases hb
theorem sum_mono {α : Type} {f g : α → Nat} : ∀ {l : List α}, (∀ x ∈ l, f x ≤ g x) → (l.map f).sum ≤ (l.map g).sum
  | [], _ => Nat.le_refl _
  | a :: l, h => by
    rw [List.map_cons, List.map_cons, List.sum_cons, List.sum_cons]
    exact Nat.add_le_add (h a (List.mem_cons_self ..)) (sum_mono fun x hx => h x (List.mem_cons_of_mem _ hx))
theorem totU_some {S : PS} {t : Thg} {y : Wy} {h : Nat} (e : totU b W S t y = some h) : (∀ n ∈ needsT b W t y, n ∈ S.1) ∧ h = priceW b y + ((needsT b W t y).map S.2).sum := by
  unfold totU at e
  by_cases c : usab b W S.1 t y = true
  · rw [if_pos c] at e
    exact ⟨fun n hn => memB_iff.mp (List.all_eq_true.mp c n hn), (Option.some.inj e).symm⟩
  · rw [if_neg c] at e; cases e
theorem totU_of {S : PS} {t : Thg} {y : Wy} (h : ∀ n ∈ needsT b W t y, n ∈ S.1) : totU b W S t y = some (priceW b y + ((needsT b W t y).map S.2).sum) := if_pos (List.all_eq_true.mpr fun n hn => memB_t (h n hn))
theorem totU_mono {S S' : PS} {t : Thg} {y : Wy} {h : Nat} (e : totU b W S t y = some h) (le : LeP S S') : ∃ h', totU b W S' t y = some h' ∧ h' ≤ h := by
  obtain ⟨m, rfl⟩ := totU_some e
  exact ⟨_, totU_of fun n hn => (le n (m n hn)).1, Nat.add_le_add_left (sum_mono fun n hn => (le n (m n hn)).2) _⟩
theorem fold_inv {α : Type} {f : PS → α → PS} {I : PS → Prop} : ∀ {l : List α} {S : PS}, (∀ S x, x ∈ l → I S → I (f S x)) → I S → I (l.foldl f S)
  | [], _, _, h => h
  | a :: l, S, hs, h => by
    rw [List.foldl_cons]
    exact fold_inv (fun S x hx => hs S x (List.mem_cons_of_mem _ hx)) (hs S a (List.mem_cons_self ..) h)
/-- a chain of kinds with what it costs -/
inductive CC (b : Bk) (W : List Vl) (v : Nat) (p : Thg → Nat) : List Nat → Nat → Prop
  | one {k : Nat} {y : Wy} : (v, k) ∈ UM b W → y ∈ UF b W (v, k) → (∀ n ∈ needsT b W (v, k) y, n.1 < v) → CC b W v p [k] (priceW b y + ((needsT b W (v, k) y).map p).sum)
  | cons {k f : Nat} {l : List Nat} {y : Wy} {c : Nat} : (v, k) ∈ UM b W → y ∈ UF b W (v, k) → needsT b W (v, k) y = [(v, f)] → CC b W v p (f :: l) c → CC b W v p (k :: f :: l) (priceW b y + c)
theorem CC.tail_of {v : Nat} {p : Thg → Nat} {k : Nat} : ∀ {l : List Nat} {c : Nat}, CC b W v p l c → k ∈ l → ∃ l' c', CC b W v p (k :: l') c' ∧ (k :: l').Sublist l ∧ c' ≤ c
  | _, _, @CC.one _ _ _ _ a y h1 h2 h3, hk => by
    rw [List.mem_singleton.mp hk]
    exact ⟨[], _, .one h1 h2 h3, List.Sublist.refl _, Nat.le_refl _⟩
  | _, _, @CC.cons _ _ _ _ a f l y c h1 h2 h3 h4, hk => by
    rcases List.mem_cons.mp hk with rfl | hk
    · exact ⟨f :: l, _, .cons h1 h2 h3 h4, List.Sublist.refl _, Nat.le_refl _⟩
    · obtain ⟨l', c', e1, e2, e3⟩ := CC.tail_of h4 hk
      exact ⟨l', c', e1, e2.cons _, by omega⟩
theorem CC.in {v : Nat} {p : Thg → Nat} : ∀ {l : List Nat} {c : Nat}, CC b W v p l c → ∀ k ∈ l, (v, k) ∈ thV b W v
  | _, _, .one h1 _ _, k, hk => by rw [List.mem_singleton.mp hk]; exact mem_thV.mpr ⟨rfl, (UM_lt h1).2, h1⟩
  | _, _, .cons h1 _ _ h4, k, hk => by
    rcases List.mem_cons.mp hk with rfl | hk
    · exact mem_thV.mpr ⟨rfl, (UM_lt h1).2, h1⟩
    · exact CC.in h4 k hk
theorem CC.len {v : Nat} {p : Thg → Nat} {l : List Nat} {c : Nat} (x : CC b W v p l c) (nd : l.Nodup) : l.length ≤ (thV b W v).length := by
  have h := nodup_sub_len (l := l.map fun k => (v, k)) (m := thV b W v) (List.Pairwise.map _ (fun a b hab z => hab (congrArg (·.2) z)) nd) fun u hu => by
    obtain ⟨k, hk, rfl⟩ := List.mem_map.mp hu
    exact x.in k hk
  rwa [List.length_map] at h
theorem Chain.cc (ok : b.Ok) (okW : WbOk b W) {v : Nat} {p : Thg → Nat} : ∀ {l : List Nat}, Chain (RlK b W v) (MvK b W v) l → ∀ k r, l = k :: r → Mk b W (v, k) ∧ ∃ c, CC b W v p l c
  | _, @Chain.one _ _ a h, k, r, e => by
    cases e
    obtain ⟨h1, h2, y, hy, hn⟩ := h
    have m : Mk b W (v, a) := .mk h1 h2 hy fun n hn' => (hn n hn').2
    have mu := (UM_mk ok okW).mpr m
    refine ⟨m, _, .one (y := y) mu ?_ fun n hn' => (hn n hn').1⟩
    rw [UF_eq ok okW mu]
    exact List.mem_filter.mpr ⟨hy, List.all_eq_true.mpr fun n hn' => memB_t ((UM_mk ok okW).mpr (hn n hn').2)⟩
  | _, @Chain.cons _ _ a f l e c, k, r, e0 => by
    cases e0
    obtain ⟨mf, c', hc⟩ := Chain.cc ok okW (p := p) c f l rfl
    obtain ⟨h1, h2, _, y, hy, en⟩ := e
    have hn : ∀ n ∈ needsT b W (v, a) y, Mk b W n := fun n hn => by rw [en] at hn; rw [List.mem_singleton.mp hn]; exact mf
    have m : Mk b W (v, a) := .mk h1 h2 hy hn
    have mu := (UM_mk ok okW).mpr m
    refine ⟨m, _, .cons (y := y) mu ?_ en hc⟩
    rw [UF_eq ok okW mu]
    exact List.mem_filter.mpr ⟨hy, List.all_eq_true.mpr fun n hn' => memB_t ((UM_mk ok okW).mpr (hn n hn'))⟩
theorem cc_ex (ok : b.Ok) (okW : WbOk b W) {v k : Nat} (p : Thg → Nat) (h : (v, k) ∈ UM b W) : ∃ l c, CC b W v p (k :: l) c ∧ (k :: l).Nodup := by
  obtain ⟨l, c0, nd0⟩ := Rk.chain (Mk.rk ok okW ((UM_mk ok okW).mp h))
  have c1 : Chain (RlK b W v) (MvK b W v) (k :: l) := c0
  obtain ⟨_, c, hc⟩ := Chain.cc ok okW (p := p) c1 k l rfl
  exact ⟨l, c, hc, nd0⟩
structure InvP (b : Bk) (W : List Vl) (v : Nat) (S0 S : PS) : Prop where
  o : ∀ u, u.1 ≠ v → (u ∈ S.1 ↔ u ∈ S0.1) ∧ S.2 u = S0.2 u
  lo : ∀ k, (v, k) ∈ S.1 → ∃ l c, CC b W v S0.2 (k :: l) c ∧ (k :: l).Nodup ∧ c ≤ S.2 (v, k)
  att : ∀ t ∈ S.1, t.1 = v → ∃ y ∈ UF b W t, ∃ h, totU b W S t y = some h ∧ h ≤ S.2 t
/-- a way's total has a chain no dearer -/
theorem tot_chain (ok : b.Ok) (okW : WbOk b W) {v k : Nat} {S0 S : PS} {y : Wy} {h : Nat} (i : InvP b W v S0 S) (ht : (v, k) ∈ UM b W) (hy : y ∈ UF b W (v, k)) (e : totU b W S (v, k) y = some h) : ∃ l c, CC b W v S0.2 (k :: l) c ∧ (k :: l).Nodup ∧ c ≤ h := by
  obtain ⟨m, rfl⟩ := totU_some e
  rcases way_kind ok okW (t := (v, k)) (UM_lt ht).1 (UF_way hy) with hw | ⟨f, hf, en⟩
  · have hw : ∀ n ∈ needsT b W (v, k) y, n.1 < v := hw
    refine ⟨[], _, .one ht hy hw, by simp, Nat.add_le_add_left (Nat.le_of_eq (congrArg _ (List.map_congr_left fun n hn => ?_))) _⟩
    exact (i.o n (Nat.ne_of_lt (hw n hn))).2.symm
  · have en : needsT b W (v, k) y = [(v, f)] := en
    obtain ⟨l, c, h1, h2, h3⟩ := i.lo f (m (v, f) (by rw [en]; exact List.mem_singleton.mpr rfl))
    have es : ((needsT b W (v, k) y).map S.2).sum = S.2 (v, f) := by rw [en]; simp
    rw [es]
    by_cases hk : k ∈ f :: l
    · obtain ⟨l', c', e1, e2, e3⟩ := h1.tail_of hk
      exact ⟨l', c', e1, h2.sublist e2, by omega⟩
    · exact ⟨f :: l, _, .cons ht hy en h1, List.nodup_cons.mpr ⟨hk, h2⟩, by omega⟩
theorem rlx_inv (ok : b.Ok) (okW : WbOk b W) {v : Nat} {S0 S : PS} {t : Thg} {y : Wy} (i : InvP b W v S0 S) (ht : t ∈ thV b W v) (hy : y ∈ UF b W t) : InvP b W v S0 (rlx b W t S y) := by
  obtain ⟨tv, _, tu⟩ := mem_thV.mp ht
  have le := rlx_le (b := b) (W := W) (t := t) (S := S) (y := y)
  rcases rlx_eq (b := b) (W := W) (t := t) (S := S) (y := y) with ⟨_, h, e1, e⟩ | ⟨_, e⟩
  · rw [e] at le ⊢
    refine ⟨fun u hu => ?_, fun k hk => ?_, fun u hu huv => ?_⟩
    · have ne : u ≠ t := fun z => hu (z ▸ tv)
      refine ⟨⟨fun hm => ?_, fun hm => mem_insL.mpr (.inl ((i.o u hu).1.mpr hm))⟩, (if_neg ne).trans (i.o u hu).2⟩
      rcases mem_insL.mp hm with hm | hm
      · exact (i.o u hu).1.mp hm
      · exact absurd hm ne
    · show ∃ l c, _ ∧ _ ∧ c ≤ (if (v, k) = t then h else S.2 (v, k))
      by_cases c : (v, k) = t
      · rw [if_pos c]
        subst c
        exact tot_chain ok okW i tu hy e1
      · rw [if_neg c]
        rcases mem_insL.mp hk with hk | hk
        · exact i.lo k hk
        · exact absurd hk c
    · by_cases c : u = t
      · subst c
        obtain ⟨h', g1, g2⟩ := totU_mono e1 le
        exact ⟨y, hy, h', g1, Nat.le_trans g2 (Nat.le_of_eq (if_pos rfl).symm)⟩
      · have hm : u ∈ S.1 := by
          rcases mem_insL.mp hu with hm | hm
          · exact hm
          · exact absurd hm c
        obtain ⟨y', hy', h0, g1, g2⟩ := i.att u hm huv
        obtain ⟨h', g3, g4⟩ := totU_mono g1 le
        exact ⟨y', hy', h', g3, Nat.le_trans g4 (Nat.le_trans g2 (Nat.le_of_eq (if_neg c).symm))⟩
  · rw [e]; exact i
theorem rlT_inv (ok : b.Ok) (okW : WbOk b W) {v : Nat} {S0 S1 S : PS} {t : Thg} {l : List Wy} (hl : ∀ y ∈ l, y ∈ UF b W t) (ht : t ∈ thV b W v) (i : InvP b W v S0 S ∧ LeP S1 S) : InvP b W v S0 (l.foldl (rlx b W t) S) ∧ LeP S1 (l.foldl (rlx b W t) S) :=
  fold_inv (I := fun S => InvP b W v S0 S ∧ LeP S1 S) (fun S y hy ⟨a, c⟩ => ⟨rlx_inv ok okW a ht (hl y hy), c.trans rlx_le⟩) i
theorem rlP_inv (ok : b.Ok) (okW : WbOk b W) {v : Nat} {S0 S1 S : PS} {l : List Thg} (hl : ∀ t ∈ l, t ∈ thV b W v) (i : InvP b W v S0 S ∧ LeP S1 S) : InvP b W v S0 (l.foldl (rlT b W) S) ∧ LeP S1 (l.foldl (rlT b W) S) :=
  fold_inv (I := fun S => InvP b W v S0 S ∧ LeP S1 S) (fun S t ht i => rlT_inv ok okW (fun _ h => h) (hl t ht) i) i
/-- no chain so long is cheaper -/
def UpP (b : Bk) (W : List Vl) (v : Nat) (S0 S : PS) (j : Nat) : Prop := ∀ k r c, CC b W v S0.2 (k :: r) c → (k :: r).Nodup → (k :: r).length ≤ j → (v, k) ∈ S.1 ∧ S.2 (v, k) ≤ c
theorem rlP_up (ok : b.Ok) (okW : WbOk b W) {v : Nat} {S0 S : PS} {j : Nat} (h0 : ∀ n ∈ UM b W, n.1 < v → n ∈ S0.1) (i : InvP b W v S0 S) (up : UpP b W v S0 S j) : UpP b W v S0 (rlP b W v S) (j + 1) := by
  -- at whatever state the head's way is relaxed
  have main : ∀ k y h, (v, k) ∈ thV b W v → y ∈ UF b W (v, k) → (∀ S2, InvP b W v S0 S2 → LeP S S2 → ∃ h', totU b W S2 (v, k) y = some h' ∧ h' ≤ h) → (v, k) ∈ (rlP b W v S).1 ∧ (rlP b W v S).2 (v, k) ≤ h := by
    intro k y h ht hy hs
    obtain ⟨l1, l2, el⟩ := List.append_of_mem ht
    obtain ⟨m1, m2, em⟩ := List.append_of_mem hy
    have hl1 : ∀ t ∈ l1, t ∈ thV b W v := fun t h => by rw [el]; exact List.mem_append_left _ h
    have hl2 : ∀ t ∈ l2, t ∈ thV b W v := fun t h => by rw [el]; exact List.mem_append_right _ (List.mem_cons_of_mem _ h)
    have hm1 : ∀ t ∈ m1, t ∈ UF b W (v, k) := fun t h => by rw [em]; exact List.mem_append_left _ h
    have hm2 : ∀ t ∈ m2, t ∈ UF b W (v, k) := fun t h => by rw [em]; exact List.mem_append_right _ (List.mem_cons_of_mem _ h)
    obtain ⟨i1, c1⟩ := rlP_inv ok okW hl1 ⟨i, LeP.refl S⟩
    obtain ⟨i2, c2⟩ := rlT_inv ok okW hm1 ht ⟨i1, c1⟩
    obtain ⟨h', e, le⟩ := hs _ i2 c2
    obtain ⟨a1, a2⟩ := rlx_add e
    have i3 := rlx_inv ok okW i2 ht hy
    obtain ⟨i4, c4⟩ := rlT_inv ok okW hm2 ht ⟨i3, LeP.refl _⟩
    have er : rlP b W v S = l2.foldl (rlT b W) (m2.foldl (rlx b W (v, k)) (rlx b W (v, k) (m1.foldl (rlx b W (v, k)) (l1.foldl (rlT b W) S)) y)) := by
      unfold rlP
      rw [el, List.foldl_append, List.foldl_cons]
      refine congrArg (fun z => l2.foldl (rlT b W) z) ?_
      show (UF b W (v, k)).foldl _ _ = _
      rw [em, List.foldl_append, List.foldl_cons]
    obtain ⟨_, c5⟩ := rlP_inv ok okW hl2 ⟨i4, c4⟩
    rw [er]
    exact ⟨(c5 _ a1).1, Nat.le_trans (c5 _ a1).2 (Nat.le_trans a2 le)⟩
  intro k r c x nd hl
  cases x with
  | one h1 h2 h3 =>
    refine main k _ _ (mem_thV.mpr ⟨rfl, (UM_lt h1).2, h1⟩) h2 fun S2 i2 _ => ⟨_, totU_of fun n hn => (i2.o n (Nat.ne_of_lt (h3 n hn))).1.mpr (h0 n (UF_need h2 n hn) (h3 n hn)), Nat.add_le_add_left (Nat.le_of_eq (congrArg _ (List.map_congr_left fun n hn => ?_))) _⟩
    exact (i2.o n (Nat.ne_of_lt (h3 n hn))).2
  | cons h1 h2 h3 h4 =>
    rename_i f l y c
    refine main k y _ (mem_thV.mpr ⟨rfl, (UM_lt h1).2, h1⟩) h2 fun S2 i2 le => ?_
    obtain ⟨u1, u2⟩ := up f l c h4 (List.nodup_cons.mp nd).2 (by rw [List.length_cons] at hl; omega)
    obtain ⟨g1, g2⟩ := le _ u1
    refine ⟨_, totU_of fun n hn => ?_, Nat.add_le_add_left ?_ _⟩
    · rw [h3] at hn
      rw [List.mem_singleton.mp hn]; exact g1
    · rw [h3]
      simp only [List.map_cons, List.map_nil, List.sum_cons, List.sum_nil, Nat.add_zero]
      omega
theorem passes (ok : b.Ok) (okW : WbOk b W) {v : Nat} {S0 : PS} (h0 : ∀ n ∈ UM b W, n.1 < v → n ∈ S0.1) : ∀ (l : List Thg) {S : PS} {j : Nat}, InvP b W v S0 S → UpP b W v S0 S j → InvP b W v S0 (l.foldl (fun S _ => rlP b W v S) S) ∧ UpP b W v S0 (l.foldl (fun S _ => rlP b W v S) S) (j + l.length)
  | [], _, _, i, u => ⟨i, u⟩
  | _ :: l, S, j, i, u => by
    have h := passes ok okW h0 l (rlP_inv ok okW (fun _ h => h) ⟨i, LeP.refl S⟩).1 (rlP_up ok okW h0 i u)
    rw [List.length_cons, show j + (l.length + 1) = j + 1 + l.length by omega]
    exact h
/-- what stands after some values -/
structure ValsP (b : Bk) (W : List Vl) (i : Nat) (S : PS) : Prop where
  lt : ∀ t ∈ S.1, t.1 < i
  al : ∀ t ∈ UM b W, t.1 < i → t ∈ S.1 ∧ ∃ y ∈ UF b W t, totU b W S t y = some (S.2 t)
theorem vals_step (ok : b.Ok) (okW : WbOk b W) {v : Nat} {S : PS} (x : ValsP b W v S) : ValsP b W (v + 1) (rlV b W S v) := by
  have h0 : ∀ n ∈ UM b W, n.1 < v → n ∈ S.1 := fun n h1 h2 => (x.al n h1 h2).1
  have i0 : InvP b W v S S := ⟨fun u _ => ⟨Iff.rfl, rfl⟩, fun k hk => absurd (x.lt _ hk) (Nat.lt_irrefl v), fun t ht e => absurd (x.lt t ht) (by omega)⟩
  have u0 : UpP b W v S S 0 := fun k r c _ _ hl => absurd hl (by rw [List.length_cons]; omega)
  obtain ⟨i, u⟩ := passes ok okW h0 (thV b W v) i0 u0
  rw [Nat.zero_add] at u
  have eS : rlV b W S v = (thV b W v).foldl (fun S _ => rlP b W v S) S := rfl
  rw [← eS] at i u
  refine ⟨fun t ht => ?_, fun t ht hl => ?_⟩
  · by_cases e : t.1 = v
    · omega
    · exact Nat.lt_succ_of_lt (x.lt t ((i.o t e).1.mp ht))
  · by_cases e : t.1 = v
    · obtain ⟨v', k⟩ := t
      obtain rfl : v' = v := e
      obtain ⟨l, c, hc, nd⟩ := cc_ex ok okW S.2 ht
      have m := (u k l c hc nd (hc.len nd)).1
      obtain ⟨y, hy, h, e1, e2⟩ := i.att _ m rfl
      refine ⟨m, y, hy, ?_⟩
      obtain ⟨l', c', hc', nd', le⟩ := tot_chain ok okW i ht hy e1
      have := (u k l' c' hc' nd' (hc'.len nd')).2
      rw [e1, show h = (rlV b W S v').2 (v', k) by omega]
    · have tl : t.1 < v := by omega
      obtain ⟨m, y, hy, e1⟩ := x.al t ht tl
      refine ⟨(i.o t e).1.mpr m, y, hy, ?_⟩
      have ne : ∀ n ∈ needsT b W t y, n.1 ≠ v := fun n hn => by
        have := (needs_fits ok okW (mem_waysT ok okW (UM_lt ht).1 (UF_way hy)) n hn).1
        omega
      obtain ⟨nm, e2⟩ := totU_some e1
      rw [totU_of fun n hn => (i.o n (ne n hn)).1.mpr (nm n hn), (i.o t e).2, e2]
      exact congrArg (fun z => some (priceW b y + List.sum z)) (List.map_congr_left fun n hn => (i.o n (ne n hn)).2)
theorem vals_all (ok : b.Ok) (okW : WbOk b W) : ∀ n, ValsP b W n ((List.range n).foldl (rlV b W) ([], fun _ => 0))
  | 0 => ⟨fun _ h => (nomatch h), fun t _ h => absurd h (Nat.not_lt_zero _)⟩
  | n + 1 => by
    rw [List.range_succ, List.foldl_append]
    exact vals_step ok okW (vals_all ok okW n)
end
theorem PA_all {b : Bk} {W : List Vl} (ok : b.Ok) (okW : WbOk b W) {t : Thg} (h : t ∈ UM b W) : t ∈ (PA b W).1 := ((vals_all ok okW W.length).al t h (UM_lt h).1).1
theorem PA_fix {b : Bk} {W : List Vl} (ok : b.Ok) (okW : WbOk b W) {t : Thg} (h : t ∈ UM b W) : ∃ y ∈ UF b W t, totU b W (PA b W) t y = some ((PA b W).2 t) := ((vals_all ok okW W.length).al t h (UM_lt h).1).2
end K19
set_option maxHeartbeats 4000000
namespace K19
open PySem PySem.Spec PyProof.Rows L2
def oI : Option Nat → V
  | none => .non
  | some n => .int (n : Nat)
theorem getD_oI {S : PS} {n : Thg} {f : Thg → V} (hf : ∀ t ∈ S.1, f t = .int (S.2 t : Nat)) : (if memB n S.1 = true then some (f n) else none).getD .non = oI (getU S n) := by
  unfold getU
  cases e : memB n S.1 with
  | true => rw [if_pos rfl, if_pos rfl, hf n (memB_iff.mp e)]; rfl
  | false => rw [if_neg Bool.false_ne_true, if_neg Bool.false_ne_true]; rfl
/-- a dict of prices -/
def PrAt (P : Program) (w : World) (H : Hp) (p : Addr) (S : PS) : Prop := ∃ f, DM P w H p eT S.1 f ∧ ∀ t ∈ S.1, f t = .int (S.2 t : Nat)
theorem PrAt.same {P : Program} {w : World} {H H' : Hp} {p : Addr} {S : PS} (x : PrAt P w H p S) (s : Same H H') : PrAt P w H' p S := by
  obtain ⟨f, d, v⟩ := x
  exact ⟨f, d.same s, v⟩
theorem flat_oI : ∀ o, flatV (oI o) = true
  | none => rfl
  | some _ => rfl
def sp_total (P : Program) (w : World) (K : PySem.W.Frag) (CB CW : Addr) : Sp := fun vs H Q _ => ∃ a b c d e, vs = [a, b, c, d, e] ∧ ∃ (bk : Bk) (W : List Vl) (t : Thg) (y : Wy) (p : Addr) (S : PS), bk.Ok ∧ WbOk bk W ∧ BkAt CB H a bk ∧ WbAt CW H b W ∧ Nk H c (eT t) ∧ Nk H d (eW y) ∧ WyOk bk W t y ∧ e = .ref p ∧ PrAt P w H p S ∧
  ∀ H', Same H H' → Q (oI (totU bk W S t y)) H'
abbrev n_total : List Str := ["book", "web", "thing", "way", "prices", "due", "need"]
theorem sc_total : FnScope n_total ["book", "web", "thing", "way", "prices"] (defScope s_total) := ⟨rfl, rfl, rfl, by decide +kernel, rfl, by decide +kernel, by decide +kernel⟩
theorem cl_total {P : Program} {w : World} {K : PySem.W.Frag} {mg : Str → Option Value} {base : Heap} {CB CW : Addr} (Z : Fx K mg CB CW) : Cl P w K mg base "total" 2 ["book", "web", "thing", "way", "prices"] (sp_total P w K CB CW) := by
  refine Z.d_total.cl (N := n_total) (k := 1) sc_total (fun vs H Q E h => by obtain ⟨_, _, _, _, _, rfl, _⟩ := h; rfl) (fun _ _ _ _ _ _ us hl => match us, hl with | [_, _, _, _, _], _ => rfl) fun f cdv A outer s H0 E0 hr => ⟨_, (pss_cons (ps_setLc (i := 5) (own := [("need", 6)]) rfl sc_total.nd rfl rfl (sw_true rfl rfl rfl (by decide +kernel)) (qpiL (by exact ⟨rfl, rfl, rfl⟩ : At _ P w K) (pe_cl (cl_needs_in_order (P := P) (w := w) (K := K) (base := base) Z) hr (by decide) rfl (pa_cons (pv 0) (pa_cons (pv 1) (pa_cons (pv 2) (pa_cons (pv 3) pa_nil)))))) (blkOk_by (N := n_total) (sc := defScope s_total) (by decide +kernel)) (fun _ _ _ _ _ => (pg_name (i := 6) sc_total.nd rfl (by first | exact Or.inl rfl | exact Or.inr rfl))) (fun _ _ _ _ _ => pts_nil) (fun _ _ _ _ _ => (qnget2 (by exact ⟨rfl, rfl, rfl⟩ : At _ P w K) hr.units (pv 4) (pv 6) pe_non ⟨rfl, rfl, rfl, rfl⟩))) (pss_one (ps_ret (pe_ifExp (pt_cmpR (qinS (by exact ⟨rfl, rfl, rfl⟩ : At _ P w K)) pe_non (pv 5) rfl) pe_non (pe_op op_add (pe_cl (cl_price_of (P := P) (w := w) (K := K) (base := base) Z) hr (by decide) rfl (pa_cons (pv 0) (pa_cons (pv 3) pa_nil))) (pe_callB (qsum (by exact ⟨rfl, rfl, rfl⟩ : At _ P w K) rfl) rfl Z.f_sum bt_sum (pa_cons (pv 5) pa_nil))))))), fun vs H Q E h => ?_⟩
  obtain ⟨v0, v1, v2, v3, v4, rfl, h⟩ := h
  obtain ⟨bk, W, t, y, p, S, okb, okW, hB, hW, nt, ny, ok, rfl, ⟨f, d, hf⟩, q⟩ := h
  refine ⟨_, rfl, _, rfl, _, rfl, _, rfl, _, _, _, _, rfl, bk, W, t, y, hB, hW, nt, ny, ok, fun r H1 s1 hl => ?_⟩
  obtain ⟨l, xs, rfl, el, nl⟩ := hl
  have hlen : xs.length = (needsT bk W t y).length := by rw [nl.length, List.length_map]
  have hl2 := needs_len okb okW ok
  refine ⟨l, rfl, ⟨_, .of el⟩, ?_⟩
  refine lc_sm walk_list (RAll fun i => oI (getU S ((needsT bk W t y).getD i (0, 0)))) (by rw [hlen]; exact Nat.le_trans hl2 (by decide)) (fun _ _ _ _ _ r => r) (fun _ _ _ r => r.len) (fun H2 s => .of (s _ _ el)) rfl ?_ ?_
  · rintro i x acc H2 H3 Kd Kn hi s r kd kn ⟨rfl, hx⟩
    obtain ⟨k, hk, nx⟩ := nl.get' hx
    obtain ⟨n, hn, rfl⟩ := gmap' hk
    have d3 := d.same (smT s1 s)
    refine ⟨rfl, yes ⟨_, rfl, p, rfl, ⟨_, d3⟩, _, rfl, _, d3.nget encT (nx.keep (.of s)), ?_⟩⟩
    rw [getD_oI hf]
    refine kd _ _ (sm0 _) ?_
    have e : (needsT bk W t y).getD i (0, 0) = n := by rw [List.getD_eq_getElem?_getD, hn]; rfl
    have := RAll.step (f := fun i => oI (getU S ((needsT bk W t y).getD i (0, 0)))) (H' := H3) r
    rw [← e]; exact this
  · intro acc H2 p2 s ep np r
    have ea : acc = (needsT bk W t y).map fun n => oI (getU S n) := by
      have : acc = _ := r
      rw [this, hlen, map_at (needsT bk W t y) (fun n => oI (getU S n)) (0, 0)]
    have s02 := smT s1 s
    have e1 : inV .non acc = !usab bk W S.1 t y := by
      rw [ea]
      unfold inV usab
      rw [List.any_map, Bool.eq_iff_iff, List.any_eq_true, Bool.not_eq_true', List.all_eq_false]
      constructor
      · rintro ⟨n, h1, h2⟩
        refine ⟨n, h1, fun z => ?_⟩
        have h3 : eqV (oI (getU S n)) .non = true := h2
        rw [getU_t (memB_iff.mp z)] at h3
        cases h3
      · rintro ⟨n, h1, h2⟩
        refine ⟨n, h1, ?_⟩
        show eqV (oI (getU S n)) .non = true
        rw [getU_f (fun z => h2 (memB_t z))]; rfl
    refine ⟨_, rfl, p2, acc, rfl, .inl (.of ep), rfl, ?_, _, rfl, ?_⟩
    · rw [ea, List.all_map, List.all_eq_true]
      exact fun n _ => flat_oI _
    show if inV .non acc = true then _ else _
    rw [e1]
    have tu : totU bk W S t y = if usab bk W S.1 t y = true then some (priceW bk y + ((needsT bk W t y).map S.2).sum) else none := rfl
    cases hu : usab bk W S.1 t y with
    | false =>
      refine iteT (q _ s02 |> fun z => ?_)
      rw [tu, hu] at z
      exact z
    | true =>
      refine iteF ⟨_, rfl, _, rfl, _, _, rfl, bk, y, priceW bk y, hB.same s02, ny.keep (.of s02), ok.price, _, rfl, p2, (needsT bk W t y).map fun n => (S.2 n : Int), rfl, .of (by
        rw [ep, ea, List.map_map]
        refine congrArg (fun z => some (HO.lst z)) (List.map_congr_left fun n hn => ?_)
        show oI (getU S n) = V.int (S.2 n : Nat)
        rw [getU_t (memB_iff.mp (List.all_eq_true.mp hu n hn))]; rfl), _, _, rfl, rfl, ?_⟩
      have z := q _ s02
      rw [tu, hu, if_pos rfl] at z
      have e2 : ((needsT bk W t y).map fun n => (S.2 n : Int)).sum = (((needsT bk W t y).map S.2).sum : Nat) := by
        induction needsT bk W t y with
        | nil => rfl
        | cons a l ih => rw [List.map_cons, List.map_cons, List.sum_cons, List.sum_cons, ih]; omega
      have e3 : ((priceW bk y : Nat) : Int) + ((needsT bk W t y).map fun n => (S.2 n : Int)).sum = ((priceW bk y + ((needsT bk W t y).map S.2).sum : Nat) : Int) := by rw [e2]; omega
      have z2 : Q (V.int ((priceW bk y + ((needsT bk W t y).map S.2).sum : Nat) : Int)) H2 := z
      rw [← e3] at z2
      exact z2
def sp_better (P : Program) (w : World) (K : PySem.W.Frag) (CB CW : Addr) : Sp := fun vs H Q _ => ∃ a b, vs = [a, b] ∧ ∃ o1 o2, a = oI o1 ∧ b = oI o2 ∧ Q (.bl (betU o1 o2)) H
abbrev n_better : List Str := ["one", "other"]
theorem sc_better : FnScope n_better ["one", "other"] (defScope s_better) := ⟨rfl, rfl, rfl, by decide +kernel, rfl, by decide +kernel, by decide +kernel⟩
theorem cl_better {P : Program} {w : World} {K : PySem.W.Frag} {mg : Str → Option Value} {base : Heap} {CB CW : Addr} (Z : Fx K mg CB CW) : Cl P w K mg base "better" 1 ["one", "other"] (sp_better P w K CB CW) := by
  refine Z.d_better.cl (N := n_better) (k := 0) sc_better (fun vs H Q E h => by obtain ⟨_, _, rfl, _⟩ := h; rfl) (fun _ _ _ _ _ _ us hl => match us, hl with | [_, _], _ => rfl) fun f cdv A outer s H0 E0 hr => ⟨_, (pss_one (ps_ret (pe_and (pe_cmpR op_notN (pv 0) pe_non (nomark _)) (pe_one (pe_or (pe_cmpR op_isN (pv 1) pe_non (nomark _)) (pe_one (pe_cmpR op_lt (pv 0) (pv 1) (nomark _)))))))), fun vs H Q E h => ?_⟩
  obtain ⟨v0, v1, rfl, h⟩ := h
  obtain ⟨o1, o2, rfl, rfl, q⟩ := h
  cases o1 with
  | none => exact ⟨_, rfl, rfl, _, rfl, iteF q⟩
  | some a =>
    cases o2 with
    | none => exact ⟨_, rfl, rfl, _, rfl, iteT ⟨_, rfl, rfl, _, rfl, iteT q⟩⟩
    | some b =>
      refine ⟨_, rfl, rfl, _, rfl, iteT ⟨_, rfl, rfl, _, rfl, iteF ⟨_, rfl, _, rfl, _, _, rfl, rfl, ?_⟩⟩⟩
      have e : decide ((a : Int) < (b : Int)) = betU (some a) (some b) := decide_eq_decide.mpr (by omega)
      have q2 := q
      rw [← e] at q2
      exact q2
end K19
set_option maxHeartbeats 4000000
namespace K19
open PySem PySem.Spec PyProof.Rows L2
/-- all but the dict at p -/
def Ep (p : Addr) (H H' : Hp) : Prop := ∀ b o, b ≠ p → H b = some o → H' b = some o
theorem Ep.refl (p : Addr) (H : Hp) : Ep p H H := fun _ _ _ h => h
theorem Ep.trans {p : Addr} {H H1 H2 : Hp} (a : Ep p H H1) (b : Ep p H1 H2) : Ep p H H2 := fun c o n h => b c o n (a c o n h)
theorem Ep.of {p : Addr} {H H' : Hp} (s : Same H H') : Ep p H H' := fun c o _ h => s c o h
theorem Ep.but {p : Addr} {H H' : Hp} (b : But p H H') : Ep p H H' := fun c o n h => by rw [b c n]; exact h
theorem Ep.kpt {p : Addr} {H H' : Hp} (f : Ep p H H') (hp : ∀ xs, H p ≠ some (.tup xs)) : KpT H H' := fun c xs e => f c _ (fun z => hp xs (by rw [← z]; exact e)) e
theorem LsK.ep {p : Addr} {H H' : Hp} {v : V} {ks : List NestedKey} (x : LsK H v ks) (hp : ∃ φ, H p = some (.ext φ)) (f : Ep p H H') : LsK H' v ks := by
  obtain ⟨a, xs, e, h, n⟩ := x
  obtain ⟨φ, hp⟩ := hp
  exact ⟨a, xs, e, f a _ (fun z => by rw [z, hp] at h; cases h) h, n.keep (f.kpt fun xs z => by rw [hp] at z; cases z)⟩
theorem PrAt.ext {P : Program} {w : World} {H : Hp} {p : Addr} {S : PS} (x : PrAt P w H p S) : ∃ φ, H p = some (.ext φ) := let ⟨_, d, _⟩ := x; d.ext
abbrev ePW (bk : Bk) (y : Wy) : NestedKey := .tup [kI (priceW bk y), eW y]
theorem dpd_PW (bk : Bk) (y : Wy) : (ePW bk y).data.depth ≤ 8 := by
  simp [NestedKey.data, NestedKey.datas, PyData.depth, PyData.depthAll]
theorem srt_PW {bk : Bk} {ts : List Wy} (h : ts.length ≤ sizeLine) : Srt (ts.map (ePW bk)) := by
  refine ⟨?_, .inl ?_, fun k hk => ?_, by rw [List.length_map]; exact h⟩
  · intro d hd d' hd'
    rw [List.map_map] at hd hd'
    obtain ⟨a, _, rfl⟩ := List.mem_map.mp hd
    obtain ⟨b, _, rfl⟩ := List.mem_map.mp hd'
    show PySem.W.alike (ePW bk a).data (ePW bk b).data = true
    simp only [NestedKey.data, NestedKey.datas, PySem.W.alike, PySem.W.alikeAll, Bool.and_self]
  · intro d hd
    rw [List.map_map] at hd
    obtain ⟨a, _, rfl⟩ := List.mem_map.mp hd
    exact ⟨(kI (priceW bk a)).data, [(eW a).data], by show NestedKey.data (ePW bk a) = _; simp only [NestedKey.data, NestedKey.datas]⟩
  · obtain ⟨t, _, rfl⟩ := List.mem_map.mp hk
    exact dpd_PW bk t
noncomputable def okW (bk : Bk) (W : List Vl) (t : Thg) (y : Wy) : Bool := decide (totU bk W (PA bk W) t y = some ((PA bk W).2 t))
def sp_raw_alone (P : Program) (w : World) (K : PySem.W.Frag) (CB CW : Addr) : Sp := fun vs H Q _ => ∃ a b, vs = [a, b] ∧ ∃ (bk : Bk) (W : List Vl), bk.Ok ∧ WbOk bk W ∧ BkAt CB H a bk ∧ WbAt CW H b W ∧
  ∀ a H' x p ch g, Same H H' → H' a = some (.tup [x, .ref p]) → ChAt P w H' p (UM bk W) ch g → (∀ t ∈ UM bk W, ch t ∈ UF bk W t ∧ totU bk W (PA bk W) t (ch t) = some ((PA bk W).2 t)) → Q (.ref a) H'
abbrev n_raw_alone : List Str := ["book", "web", "usable", "prices", "value", "things", "turn", "thing", "way", "here", "found", "some", "kind"]
theorem sc_raw_alone : FnScope n_raw_alone ["book", "web"] (defScope s_raw_alone) := ⟨rfl, rfl, rfl, by decide +kernel, rfl, by decide +kernel, by decide +kernel⟩
theorem cl_raw_alone {P : Program} {w : World} {K : PySem.W.Frag} {mg : Str → Option Value} {base : Heap} {CB CW : Addr} (Z : Fx K mg CB CW) : Cl P w K mg base "raw_alone" 4 ["book", "web"] (sp_raw_alone P w K CB CW) := by
  refine Z.d_raw_alone.cl (N := n_raw_alone) (k := 3) sc_raw_alone (fun vs H Q E h => by obtain ⟨_, _, rfl, _⟩ := h; rfl) (fun _ _ _ _ _ _ us hl => match us, hl with | [_, _], _ => rfl) fun f cdv A outer s H0 E0 hr => ⟨_, (pss_cons (ps_set (i := 2) sc_raw_alone.nd rfl (Or.inr rfl) (pe_cl (cl_usable_ways (P := P) (w := w) (K := K) (base := base) Z) hr (by decide) rfl (pa_cons (pv 0) (pa_cons (pv 1) pa_nil)))) (pss_cons (ps_set (i := 3) sc_raw_alone.nd rfl (Or.inr rfl) (qdnew (by exact ⟨rfl, rfl, rfl⟩ : At _ P w K))) (pss_cons (ps_for PassesOwn.never rfl (pi_range1 rfl Z.f_range (pa_cons (pe_callB (qlen (by exact ⟨rfl, rfl, rfl⟩ : At _ P w K)) rfl Z.f_len bt_len (pa_cons (qfld (by exact ⟨rfl, rfl, rfl⟩ : At _ P w K) (pv 1) rfl) pa_nil)) pa_nil)) (pg_name (i := 4) sc_raw_alone.nd rfl (Or.inr rfl)) (pss_cons (ps_setLc (i := 5) (own := [("kind", 12)]) rfl sc_raw_alone.nd rfl rfl (sw_true rfl rfl rfl (by decide +kernel)) (pi_range1 rfl Z.f_range (pa_cons (qfld (by exact ⟨rfl, rfl, rfl⟩ : At _ P w K) (pv 0) rfl) pa_nil)) (blkOk_by (N := n_raw_alone) (sc := defScope s_raw_alone) (by decide +kernel)) (fun _ _ _ _ _ => (pg_name (i := 12) sc_raw_alone.nd rfl (by first | exact Or.inl rfl | exact Or.inr rfl))) (fun _ _ _ _ _ => (pts_one (pt_cmp (qnin (by exact ⟨rfl, rfl, rfl⟩ : At _ P w K) hr.units (pe_tup (pa_cons (pv 4) (pa_cons (pv 12) pa_nil))) (pv 2)) rfl))) (fun _ _ _ _ _ => (pe_tup (pa_cons (pv 4) (pa_cons (pv 12) pa_nil))))) (pss_one (ps_for PassesOwn.never rfl (qpiL (by exact ⟨rfl, rfl, rfl⟩ : At _ P w K) (pv 5)) (pg_name (i := 6) sc_raw_alone.nd rfl (Or.inl rfl)) (pss_one (ps_for PassesOwn.never rfl (qpiL (by exact ⟨rfl, rfl, rfl⟩ : At _ P w K) (pv 5)) (pg_name (i := 7) sc_raw_alone.nd rfl (Or.inr rfl)) (pss_one (ps_for PassesOwn.never rfl (qpiL (by exact ⟨rfl, rfl, rfl⟩ : At _ P w K) (qnget (by exact ⟨rfl, rfl, rfl⟩ : At _ P w K) hr.units (pv 2) (pv 7) (fun _ _ => rfl))) (pg_name (i := 8) sc_raw_alone.nd rfl (Or.inl rfl)) (pss_cons (ps_set (i := 9) sc_raw_alone.nd rfl (Or.inl rfl) (pe_cl (cl_total (P := P) (w := w) (K := K) (base := base) Z) hr (by decide) rfl (pa_cons (pv 0) (pa_cons (pv 1) (pa_cons (pv 7) (pa_cons (pv 8) (pa_cons (pv 3) pa_nil))))))) (pss_one (ps_if (pt_val (pe_cl (cl_better (P := P) (w := w) (K := K) (base := base) Z) hr (by decide) rfl (pa_cons (pv 9) (pa_cons (qnget2 (by exact ⟨rfl, rfl, rfl⟩ : At _ P w K) hr.units (pv 3) (pv 7) pe_non ⟨rfl, rfl, rfl, rfl⟩) pa_nil)))) (pss_one (qnput (by exact ⟨rfl, rfl, rfl⟩ : At _ P w K) hr.units (pv 3) (pv 7) (pv 9) rfl)) pss_nil))))))))))) (pss_cons (ps_set (i := 10) sc_raw_alone.nd rfl (Or.inl rfl) (qdnew (by exact ⟨rfl, rfl, rfl⟩ : At _ P w K))) (pss_cons (ps_for PassesOwn.never rfl (qpiN (by exact ⟨rfl, rfl, rfl⟩ : At _ P w K) (pv 2)) (pg_name (i := 7) sc_raw_alone.nd rfl (Or.inr rfl)) (pss_cons (ps_setLc (i := 11) (own := [("way", 8)]) rfl sc_raw_alone.nd rfl rfl (sw_true rfl rfl rfl (by decide +kernel)) (qpiL (by exact ⟨rfl, rfl, rfl⟩ : At _ P w K) (qnget (by exact ⟨rfl, rfl, rfl⟩ : At _ P w K) hr.units (pv 2) (pv 7) (fun _ _ => rfl))) (blkOk_by (N := n_raw_alone) (sc := defScope s_raw_alone) (by decide +kernel)) (fun _ _ _ _ _ => (pg_name (i := 8) sc_raw_alone.nd rfl (by first | exact Or.inl rfl | exact Or.inr rfl))) (fun _ _ _ _ _ => (pts_one (pt_cmpR op_eq (pe_cl (cl_total (P := P) (w := w) (K := K) (base := base) Z) hr (by decide) rfl (pa_cons (pv 0) (pa_cons (pv 1) (pa_cons (pv 7) (pa_cons (pv 8) (pa_cons (pv 3) pa_nil)))))) (qnget (by exact ⟨rfl, rfl, rfl⟩ : At _ P w K) hr.units (pv 3) (pv 7) (fun _ _ => rfl)) (nomark _)))) (fun _ _ _ _ _ => (pv 8))) (pss_one (qnput (by exact ⟨rfl, rfl, rfl⟩ : At _ P w K) hr.units (pv 10) (pv 7) (pe_ix (qixT (by exact ⟨rfl, rfl, rfl⟩ : At _ P w K)) (pe_callB (qminK (by exact ⟨rfl, rfl, rfl⟩ : At _ P w K) rfl hr.units) rfl Z.f_min bt_min (pa_cons (pe_lc (own := [("way", 8)]) rfl sc_raw_alone.nd (qpiL (by exact ⟨rfl, rfl, rfl⟩ : At _ P w K) (pv 11)) (blkOk_by (N := n_raw_alone) (sc := defScope s_raw_alone) (by decide +kernel)) (fun _ _ _ _ _ => (pg_name (i := 8) sc_raw_alone.nd rfl (by first | exact Or.inl rfl | exact Or.inr rfl))) (fun _ _ _ _ _ => pts_nil) (fun _ _ _ _ _ => (pe_tup (pa_cons (pe_cl (cl_price_of (P := P) (w := w) (K := K) (base := base) Z) hr (by decide) rfl (pa_cons (pv 0) (pa_cons (pv 8) pa_nil))) (pa_cons (pv 8) pa_nil))))) pa_nil)) pe_int (fun _ _ => rfl)) rfl)))) (pss_one (ps_ret (pe_tup (pa_cons (qdcN (by exact ⟨rfl, rfl, rfl⟩ : At _ P w K) (own := [("thing", 7)]) rfl hr.units sc_raw_alone.nd (qpiN (by exact ⟨rfl, rfl, rfl⟩ : At _ P w K) (pv 2)) (blkOk_by (N := n_raw_alone) (sc := defScope s_raw_alone) (by decide +kernel)) (fun _ _ _ _ _ => (pg_name (i := 7) sc_raw_alone.nd rfl (by first | exact Or.inl rfl | exact Or.inr rfl))) (fun _ _ _ _ _ => (pv 7)) (fun _ _ _ _ _ => (qnget (by exact ⟨rfl, rfl, rfl⟩ : At _ P w K) hr.units (pv 3) (pv 7) (fun _ _ => rfl)))) (pa_cons (pv 10) pa_nil)))))))))), fun vs H Q E h => ?_⟩
  obtain ⟨v0, v1, rfl, h⟩ := h
  obtain ⟨bk, W, okb, okW, hB, hW, q⟩ := h
  have hk1 := okb.k1
  have hk2 := okb.k2
  have hWn := okW.n
  obtain ⟨o, dy, xa, xq, xm, rfl, eB, na, nq, nm⟩ := id hB
  obtain ⟨wa, dx, xr, rfl, eW', nr⟩ := id hW
  refine ⟨_, rfl, _, rfl, _, _, rfl, bk, W, okb, okW, hB, hW, fun pu H1 s1 nu us => ?_⟩
  obtain ⟨gu, du, lu⟩ := us
  have hUM := UM_len okb okW
  intro p H2 np b2 d2
  have s12 := b2.same np
  have s02 := smT s1 s12
  refine ⟨_, rfl, _, _, _, _, _, rfl, s02 _ _ eW', Z.clW, Z.nW_rows, rfl, _, _, rfl, (nr.keep (.of s02)).lenV, _, rfl, by omega, by rw [List.length_map]; omega, ?_⟩
  rw [List.length_map, Int.toNat_natCast]
  refine for_it walk_r0 (fun i σ H3 => ∃ x4 x5 x6 x7 x8 x9 x10 x11 x12, σ = [some (.ref o), some (.ref wa), some (.ref pu), some (.ref p), x4, x5, x6, x7, x8, x9, x10, x11, x12] ∧ Same H1 H3 ∧ PrAt P w H3 p ((List.range i).foldl (rlV bk W) ([], fun _ => 0)) ∧ ∀ u ∈ ((List.range i).foldl (rlV bk W) ([], fun _ => 0)).1, u ∈ UM bk W) ⟨none, none, none, none, none, none, none, none, none, rfl, s12, ⟨fun _ => .non, d2, fun _ h => nomatch h⟩, fun _ h => nomatch h⟩ (fun _ _ _ _ _ => trivial) ?_ ?_
  · rintro v x σ H3 H4 hv ⟨x4, x5, x6, x7, x8, x9, x10, x11, x12, rfl, s3, pr3, sub3⟩ ⟨rfl, rfl⟩
    have hS : (List.range (v + 1)).foldl (rlV bk W) ([], fun _ => 0) = rlV bk W ((List.range v).foldl (rlV bk W) ([], fun _ => 0)) v := by rw [List.range_succ, List.foldl_append]; rfl
    rw [hS]
    generalize (List.range v).foldl (rlV bk W) ([], fun _ => 0) = S0 at pr3 sub3 ⊢
    have s04 := smT s1 s3
    refine ⟨_, rfl, _, _, _, _, _, rfl, s04 _ _ eB, Z.clB, Z.nB_kinds, rfl, _, rfl, by omega, by omega, ?_⟩
    rw [Int.toNat_natCast]
    refine lc_sm walk_r0 (fun i acc H5 => NkA H5 acc ((((List.range i).map fun k => (v, k)).filter fun t => memB t (UM bk W)).map eT)) (Nat.le_trans hk2 (by decide)) (fun i acc H2 H3 t r => r.keep t) (fun i acc H2 r => ?_) (fun _ _ => trivial) .nil ?_ ?_
    · rw [r.length, List.length_map]
      refine Nat.le_trans (List.length_filter_le _ _) (by rw [List.length_map, List.length_range]; exact Nat.le_refl _)
    · rintro k x acc H5 H6 Kd Kn hk s5 r kd kn ⟨rfl, rfl⟩
      refine ⟨rfl, _, rfl, _, rfl, by show 2 ≤ sizeLine; decide, fun q1 nq1 => ?_⟩
      have s7 : Same H6 (upd H6 q1 (.tup [.int (v : Nat), .int (k : Nat)])) := same_upd nq1
      have nt : Nk (upd H6 q1 (.tup [.int (v : Nat), .int (k : Nat)])) (.ref q1) (eT (v, k)) := .ofTh (t := (v, k)) upd_same
      refine ⟨_, rfl, pu, _, rfl, (du.same (smT s3 (smT s5 s7))).nget encT nt, _, rfl, ?_⟩
      rw [ifSome]
      have e1 : ((List.range (k + 1)).map fun k => (v, k)).filter (fun t => memB t (UM bk W)) = ((List.range k).map fun k => (v, k)).filter (fun t => memB t (UM bk W)) ++ if memB (v, k) (UM bk W) = true then [(v, k)] else [] := by
        rw [List.range_succ, List.map_append, List.filter_append]
        congr 1
        by_cases h : memB (v, k) (UM bk W) = true
        · rw [if_pos h]; exact List.filter_cons_of_pos h
        · rw [if_neg h]; exact List.filter_cons_of_neg h
      refine iteB (fun hu => ⟨_, rfl, _, rfl, by show 2 ≤ sizeLine; decide, fun q2 nq2 => kd _ _ (smT s7 (same_upd nq2)) ?_⟩) (fun hu => kn _ s7 ?_)
      · rw [e1, if_pos hu, List.map_append]
        exact NkA.snoc (.ofTh (t := (v, k)) upd_same) (r.keep (.of (smT s7 (same_upd nq2))))
      · rw [e1, if_neg (bfl hu), List.append_nil]
        exact r.keep (.of s7)
    intro xs H5 lt s5 et nlt nth
    have nth : NkA H5 xs ((thV bk W v).map eT) := nth
    have lxs : xs.length = (thV bk W v).length := by rw [nth.length, List.length_map]
    have pr5 := pr3.same s5
    have px5 := pr5.ext
    obtain ⟨φp, hφp⟩ := px5
    have ltp : lt ≠ p := fun z => by rw [z, hφp] at et; cases et
    have ntp5 : ∀ ys, H5 p ≠ some (.tup ys) := fun ys z => by rw [hφp] at z; cases z
    have s15 := smT s3 s5
    refine ⟨_, rfl, lt, rfl, ⟨_, .of et⟩, ?_⟩
    refine for_it walk_list (fun i σ H6 => ∃ x6 x7 x8 x9 x10 x11 x12, σ = [some (.ref o), some (.ref wa), some (.ref pu), some (.ref p), some (.int (v : Nat)), some (.ref lt), x6, x7, x8, x9, x10, x11, x12] ∧ Same H1 H6 ∧ Ep p H5 H6 ∧ PrAt P w H6 p (((thV bk W v).take i).foldl (fun S _ => rlP bk W v S) S0) ∧ ∀ u ∈ (((thV bk W v).take i).foldl (fun S _ => rlP bk W v S) S0).1, u ∈ UM bk W) ⟨_, _, _, _, _, _, _, rfl, s15, Ep.refl _ _, pr5, sub3⟩ (fun i σ H6 _ ⟨_, _, _, _, _, _, _, _, _, e, _⟩ => .of (e _ _ ltp et)) ?_ ?_
    · rintro i x σ H6 H7 hi ⟨x6, x7, x8, x9, x10, x11, x12, rfl, s6, ep6, pr6, sub6⟩ ⟨rfl, hx⟩
      obtain ⟨kk0, hk0, _⟩ := nth.get' hx
      obtain ⟨tu, htu, _⟩ := gmap' hk0
      rw [foldl_take (f := fun S _ => rlP bk W v S) htu]
      generalize ((thV bk W v).take i).foldl (fun S _ => rlP bk W v S) S0 = S1 at pr6 sub6 ⊢
      refine ⟨_, rfl, lt, rfl, ⟨_, .of (ep6 _ _ ltp et)⟩, ?_⟩
      refine for_it walk_list (fun i σ H6 => ∃ x7 x8 x9 x10 x11 x12, σ = [some (.ref o), some (.ref wa), some (.ref pu), some (.ref p), some (.int (v : Nat)), some (.ref lt), some x, x7, x8, x9, x10, x11, x12] ∧ Same H1 H6 ∧ Ep p H5 H6 ∧ PrAt P w H6 p (((thV bk W v).take i).foldl (rlT bk W) S1) ∧ ∀ u ∈ (((thV bk W v).take i).foldl (rlT bk W) S1).1, u ∈ UM bk W) ⟨_, _, _, _, _, _, rfl, s6, ep6, pr6, sub6⟩ (fun i σ H6 _ ⟨_, _, _, _, _, _, _, _, e, _⟩ => .of (e _ _ ltp et)) ?_ ?_
      · rintro j y σ H8 H9 hj ⟨x7, x8, x9, x10, x11, x12, rfl, s8, ep8, pr8, sub8⟩ ⟨rfl, hy⟩
        obtain ⟨kk, hk, nt0⟩ := nth.get' hy
        obtain ⟨t, ht, rfl⟩ := gmap' hk
        rw [foldl_take ht]
        generalize ((thV bk W v).take j).foldl (rlT bk W) S1 = S2 at pr8 sub8 ⊢
        obtain ⟨htv, _, htU⟩ := mem_thV.mp (List.mem_of_getElem? ht)
        have nt8 := nt0.keep (ep8.kpt ntp5)
        obtain ⟨l, ys, el0, el, nl⟩ := (lu t htU)
        have lys : ys.length = (UF bk W t).length := by rw [nl.length, List.length_map]
        refine ⟨_, rfl, _, rfl, pu, _, rfl, (du.same s8).ngetT encT nt8 htU, l, el0, ⟨_, .of (s8 _ _ el)⟩, ?_⟩
        refine for_it walk_list (fun i σ H6 => ∃ x8 x9 x10 x11 x12, σ = [some (.ref o), some (.ref wa), some (.ref pu), some (.ref p), some (.int (v : Nat)), some (.ref lt), some x, some y, x8, x9, x10, x11, x12] ∧ Same H1 H6 ∧ Ep p H5 H6 ∧ PrAt P w H6 p (((UF bk W t).take i).foldl (rlx bk W t) S2) ∧ ∀ u ∈ (((UF bk W t).take i).foldl (rlx bk W t) S2).1, u ∈ UM bk W) ⟨_, _, _, _, _, rfl, s8, ep8, pr8, sub8⟩ (fun i σ H6 _ ⟨_, _, _, _, _, _, s, _⟩ => .of (s _ _ el)) ?_ ?_
        · rintro m z σ H10 H11 hm ⟨x8, x9, x10, x11, x12, rfl, s10, ep10, pr10, sub10⟩ ⟨rfl, hz⟩
          obtain ⟨kk2, hk2', nz0⟩ := nl.get' hz
          obtain ⟨yw, hyw, rfl⟩ := gmap' hk2'
          rw [foldl_take hyw]
          generalize ((UF bk W t).take m).foldl (rlx bk W t) S2 = S3 at pr10 sub10 ⊢
          have hywU := List.mem_of_getElem? hyw
          have wyok := mem_waysT okb okW (UM_lt htU).1 (UF_way hywU)
          have nz := nz0.keep (.of s10)
          have nt10 := nt0.keep (ep10.kpt ntp5)
          have s010 := smT s1 s10
          refine ⟨_, rfl, _, rfl, _, rfl, _, rfl, _, rfl, _, _, _, _, _, rfl, bk, W, t, yw, p, S3, okb, okW, hB.same s010, hW.same s010, nt10, nz, wyok, rfl, pr10, fun H12 s12' => ?_⟩
          obtain ⟨f, d, hf⟩ := pr10.same s12'
          have nt12 := nt10.keep (.of s12')
          refine ⟨_, rfl, _, rfl, p, rfl, ⟨_, d⟩, _, rfl, _, d.nget encT nt12, ?_⟩
          rw [getD_oI hf]
          refine ⟨_, _, rfl, totU bk W S3 t yw, getU S3 t, rfl, rfl, _, rfl, ?_⟩
          have ep12 := ep10.trans (Ep.of s12')
          have s112 := smT s10 s12'
          rcases rlx_eq (b := bk) (W := W) (t := t) (S := S3) (y := yw) with ⟨e1, h', e2, e3⟩ | ⟨e1, e3⟩
          · rw [e1, e3]
            have ls : S3.1.length < sizeLine := Nat.lt_of_le_of_lt (Nat.le_trans (nodup_sub_len (d.nd encT) sub10) hUM) (by decide)
            refine iteT ⟨_, rfl, _, rfl, _, rfl, d.nput encT (t := t) ls nt12 fun H13 b13 d13 => ⟨_, _, _, _, _, rfl, smB np s112 b13, ep12.trans (Ep.but b13), ⟨_, d13, fun u hu => ?_⟩, fun u hu => ?_⟩⟩
            · rw [e2]
              unfold updF
              by_cases hut : u = t
              · rw [if_pos hut]
                show oI (some h') = V.int ((if u = t then h' else S3.2 u : Nat) : Int)
                rw [if_pos hut]; rfl
              · rw [if_neg hut]
                show f u = V.int ((if u = t then h' else S3.2 u : Nat) : Int)
                rw [if_neg hut]
                exact hf u ((mem_insL.mp hu).resolve_right hut)
            · rcases mem_insL.mp hu with h | h
              · exact sub10 u h
              · rw [h]; exact htU
          · rw [e1, e3]
            exact iteF ⟨_, _, _, _, _, rfl, s112, ep12, ⟨f, d, hf⟩, sub10⟩
        · rintro σ H10 ⟨x8, x9, x10, x11, x12, rfl, s10, ep10, pr10, sub10⟩
          rw [lys, List.take_length] at pr10 sub10
          exact ⟨_, _, _, _, _, _, rfl, s10, ep10, pr10, sub10⟩
      · rintro σ H8 ⟨x7, x8, x9, x10, x11, x12, rfl, s8, ep8, pr8, sub8⟩
        rw [lxs, List.take_length] at pr8 sub8
        exact ⟨_, _, _, _, _, _, _, rfl, s8, ep8, pr8, sub8⟩
    · rintro σ H6 ⟨x6, x7, x8, x9, x10, x11, x12, rfl, s6, ep6, pr6, sub6⟩
      rw [lxs, List.take_length] at pr6 sub6
      exact ⟨_, _, _, _, _, _, _, _, _, rfl, s6, pr6, sub6⟩
  · rintro σ H3 ⟨x4, x5, x6, x7, x8, x9, x10, x11, x12, rfl, s3, pr3, sub3⟩
    have pr3 : PrAt P w H3 p (PA bk W) := pr3
    obtain ⟨f, d, hf⟩ := pr3
    intro pf H4 npf b4 d4
    have s34 := b4.same npf
    have npf1 : H1 pf = none := none_back s3 npf
    have du4 := du.same (smT s3 s34)
    have tot : ∀ t ∈ UM bk W, ∀ y ∈ UF bk W t, ∃ c, totU bk W (PA bk W) t y = some c := fun t ht y hy => by
      refine ⟨_, if_pos (List.all_eq_true.mpr fun n hn => memB_t (PA_all okb okW (UF_need hy n hn)))⟩
    refine ⟨_, rfl, pu, _, rfl, du4, fun φ bs hφ pbs => ?_⟩
    have nb := nk_paired pbs
    have lbs : bs.length = (UM bk W).length := by rw [← Paired.length pbs, List.length_map]
    have ppf : pf ≠ p := fun z => by obtain ⟨φ, e⟩ := d.ext; rw [← z, npf] at e; cases e
    have pupf : pu ≠ pf := fun z => by obtain ⟨φ, e⟩ := (du.same s3).ext; rw [z, npf] at e; cases e
    refine for_it walk_n (fun i σ H5 => ∃ x4 x5 x6 x7 x8 x9 x11 x12, σ = [some (.ref o), some (.ref wa), some (.ref pu), some (.ref p), x4, x5, x6, x7, x8, x9, some (.ref pf), x11, x12] ∧ Same H3 H5 ∧ H5 pu = some φ ∧ KpT H4 H5 ∧ ∃ ch g, DM P w H5 pf eT ((UM bk W).take i) g ∧ ∀ t ∈ (UM bk W).take i, Nk H5 (g t) (eW (ch t)) ∧ ch t ∈ UF bk W t ∧ totU bk W (PA bk W) t (ch t) = some ((PA bk W).2 t))
      ⟨_, _, _, _, _, _, _, _, rfl, s34, hφ, KpT.refl _, fun _ => (false, 0), fun _ => .non, d4, fun _ h => nomatch h⟩ (fun i σ H5 _ ⟨_, _, _, _, _, _, _, _, _, _, e, _⟩ => e) ?_ ?_
    · rintro i x σ H5 H6 hi ⟨x4, x5, x6, x7, x8, x9, x11, x12, rfl, s5, e5, k5, ch, g, d5, v5⟩ ⟨rfl, b, hb, rfl⟩
      obtain ⟨t, ht⟩ : ∃ t, (UM bk W)[i]? = some t := ⟨_, getI (by omega)⟩
      obtain ⟨x', hx', nt0⟩ := nb.get (gmap ht)
      obtain rfl : x' = .ref b := by rw [List.getElem?_map, hb] at hx'; exact (Option.some.inj hx').symm
      have htU := List.mem_of_getElem? ht
      have nt := nt0.keep k5
      have s15 := smT s3 s5
      have s05 := smT s1 s15
      obtain ⟨l, ys, el0, el, nl⟩ := (lu t htU).same s15
      have lys : ys.length = (UF bk W t).length := by rw [nl.length, List.length_map]
      have lUF : (UF bk W t).length ≤ 60 := Nat.le_trans (nodup_sub_len (UF_nd t) fun y hy => UF_way hy) (waysT_len okb W t)
      refine ⟨_, rfl, _, rfl, pu, _, rfl, (du.same s15).ngetT encT nt htU, l, el0, ⟨_, .of el⟩, ?_⟩
      refine lc_sm walk_list (fun i acc H7 => NkA H7 acc ((((UF bk W t).take i).filter (K19.okW bk W t)).map eW)) (by rw [lys]; exact Nat.le_trans lUF (by decide)) (fun i acc H2 H3 t r => r.keep t) (fun i acc H2 r => ?_) (fun H2 s => .of (s _ _ el)) .nil ?_ ?_
      · rw [r.length, List.length_map]
        exact Nat.le_trans (List.length_filter_le _ _) (List.length_take_le _ _)
      · rintro m z acc H7 H8 Kd Kn hm s7 r kd kn ⟨rfl, hz⟩
        obtain ⟨kk, hk, nz0⟩ := nl.get' hz
        obtain ⟨y, hy, rfl⟩ := gmap' hk
        have hyU := List.mem_of_getElem? hy
        have wyok := mem_waysT okb okW (UM_lt htU).1 (UF_way hyU)
        have nz := nz0.keep (.of s7)
        have nt7 := nt.keep (.of s7)
        have s07 := smT s05 s7
        obtain ⟨c, hc⟩ := tot t htU y hyU
        refine ⟨rfl, _, rfl, _, rfl, _, rfl, _, rfl, _, rfl, _, _, _, _, _, rfl, bk, W, t, y, p, PA bk W, okb, okW, hB.same s07, hW.same s07, nt7, nz, wyok, rfl, ⟨f, d.same (smT s5 s7), hf⟩, fun H9 s9 => ?_⟩
        have htP := PA_all okb okW htU
        rw [hc]
        refine ⟨_, rfl, _, rfl, p, _, rfl, (d.same (smT s5 (smT s7 s9))).ngetT encT (nt7.keep (.of s9)) htP, ?_⟩
        rw [hf t htP]
        refine ⟨rfl, _, rfl, ?_⟩
        have e : decide (oI (some c) = V.int ((PA bk W).2 t : Nat)) = K19.okW bk W t y := by
          unfold K19.okW
          rw [hc]
          refine decide_eq_decide.mpr ⟨fun z => ?_, fun z => by rw [Option.some.inj z]; rfl⟩
          have := V.int.inj z
          rw [show c = (PA bk W).2 t by omega]
        show if decide (oI (some c) = V.int ((PA bk W).2 t : Nat)) = true then _ else _
        rw [e]
        refine iteB (fun hq => ⟨_, rfl, kd _ _ s9 ?_⟩) (fun hq => kn _ s9 ?_)
        · rw [filter_snoc hy, if_pos hq, List.map_append]
          exact NkA.snoc (nz.keep (.of s9)) (r.keep (.of s9))
        · rw [filter_snoc hy, if_neg (bfl hq), List.append_nil]
          exact r.keep (.of s9)
      intro ws H7 lw s7 ew nlw nws
      rw [lys, List.take_length] at nws
      obtain ⟨y0, hy0, hy1⟩ := PA_fix okb okW htU
      have hy0m : y0 ∈ (UF bk W t).filter (K19.okW bk W t) := List.mem_filter.mpr ⟨hy0, decide_eq_true hy1⟩
      have lsome : ((UF bk W t).filter (K19.okW bk W t)).length ≤ 60 := Nat.le_trans (List.length_filter_le _ _) lUF
      have inS : ∀ y ∈ (UF bk W t).filter (K19.okW bk W t), y ∈ UF bk W t ∧ totU bk W (PA bk W) t y = some ((PA bk W).2 t) := fun y hy => ⟨(List.mem_filter.mp hy).1, of_decide_eq_true (List.mem_filter.mp hy).2⟩
      generalize (UF bk W t).filter (K19.okW bk W t) = S at nws hy0m lsome inS
      have lws : ws.length = S.length := by rw [nws.length, List.length_map]
      have s57 := smT s5 s7
      have s07 := smT s05 s7
      refine ⟨_, rfl, lw, rfl, ⟨_, .of ew⟩, ?_⟩
      refine lc_sm walk_list (fun i acc H8 => NkA H8 acc ((S.take i).map (ePW bk))) (by rw [lws]; exact Nat.le_trans lsome (by decide)) (fun i acc H2 H3 t r => r.keep t) (fun i acc H2 r => ?_) (fun H2 s => .of (s _ _ ew)) .nil ?_ ?_
      · rw [r.length, List.length_map]; exact List.length_take_le _ _
      · rintro m z acc H8 H9 Kd Kn hm s8 r kd kn ⟨rfl, hz⟩
        obtain ⟨kk, hk, nz0⟩ := nws.get' hz
        obtain ⟨y, hy, rfl⟩ := gmap' hk
        have wyok := mem_waysT okb okW (UM_lt htU).1 (UF_way (inS y (List.mem_of_getElem? hy)).1)
        have nz := nz0.keep (.of s8)
        refine ⟨rfl, yes ⟨_, rfl, _, rfl, _, _, rfl, bk, y, priceW bk y, hB.same (smT s07 s8), nz, wyok.price, _, rfl, by show 2 ≤ sizeLine; decide, fun q1 nq1 => kd _ _ (same_upd nq1) ?_⟩⟩
        rw [take_snoc hy]
        exact NkA.snoc (.of2 upd_same (.int _) (nz.keep (.of (same_upd nq1)))) (r.keep (.of (same_upd nq1)))
      intro ps H8 lp s8 ep8 nlp nps
      rw [lws, List.take_length] at nps
      have nps := nps.paired
      obtain ⟨y1, S', eS⟩ : ∃ y1 S', S = y1 :: S' := by
        cases S with
        | nil => cases hy0m
        | cons a b => exact ⟨a, b, rfl⟩
      rw [eS] at nps
      have s58 := smT s57 s8
      refine ⟨lp, ps, ePW bk y1, S'.map (ePW bk), rfl, .of ep8, nps, srt_PW (ts := y1 :: S') (by rw [← eS]; exact Nat.le_trans lsome (by decide)), fun v hv ⟨k', nk', hk', _⟩ => ?_⟩
      obtain ⟨y, hyS, rfl⟩ : ∃ y ∈ S, k' = ePW bk y := by
        rw [eS]
        obtain ⟨y, h1, h2⟩ := List.mem_map.mp (show k' ∈ (y1 :: S').map (ePW bk) from hk')
        exact ⟨y, h1, h2.symm⟩
      obtain ⟨a, u1, u2, rfl, ea, n1, n2⟩ := nk'.two
      have d5' := d5.same (smT s7 s8)
      have lt5 : ((UM bk W).take i).length < sizeLine := Nat.lt_of_le_of_lt (Nat.le_trans (List.length_take_le' _ _) hUM) (by decide)
      refine ⟨_, _, _, _, rfl, rfl, .of ea, rfl, _, rfl, _, rfl, d5'.nput encT (t := t) lt5 (nt.keep (.of (smT s7 s8))) fun H9 b9 d9 => ?_⟩
      have k9 : KpT H8 H9 := b9.kpt (Dc.ntup d5')
      rw [insL_new (not_mem_take UM_nd ht), ← show (UM bk W).take (i + 1) = (UM bk W).take i ++ [t] by have := take_snoc (f := fun z : Thg => z) ht; simpa using this] at d9
      refine ⟨_, _, _, _, _, _, _, _, rfl, smB npf s58 b9, ?_, (k5.trans (.of (smT s7 s8))).trans k9, fun z => if z = t then y else ch z, _, d9, fun z hz => ?_⟩
      · rw [b9 _ pupf]; exact smT s7 s8 _ _ e5
      · unfold updF
        by_cases hzt : z = t
        · rw [if_pos hzt]
          subst hzt
          show Nk H9 u2 (eW (if z = z then y else ch z)) ∧ (if z = z then y else ch z) ∈ _ ∧ totU bk W (PA bk W) z (if z = z then y else ch z) = _
          rw [if_pos rfl]
          exact ⟨n2.keep k9, inS y hyS⟩
        · rw [if_neg hzt]
          show Nk H9 (g z) (eW (if z = t then y else ch z)) ∧ (if z = t then y else ch z) ∈ _ ∧ totU bk W (PA bk W) z (if z = t then y else ch z) = _
          rw [if_neg hzt]
          have hz' : z ∈ (UM bk W).take i := by
            have e := take_snoc (f := fun z : Thg => z) ht
            rw [List.map_id', List.map_id'] at e
            rw [e] at hz
            exact (List.mem_append.mp hz).resolve_right fun h => hzt (List.mem_singleton.mp h)
          obtain ⟨h1, h2, h3⟩ := v5 z hz'
          exact ⟨(h1.keep (.of (smT s7 s8))).keep k9, h2, h3⟩
    · rintro σ H5 ⟨x4, x5, x6, x7, x8, x9, x11, x12, rfl, s5, e5, k5, ch, g, d5, v5⟩
      rw [lbs, List.take_length] at d5 v5
      have s15 := smT s3 s5
      refine ⟨_, rfl, pu, _, rfl, du.same s15, fun φ2 bs2 hφ2 pbs2 => ?_⟩
      have nb2 := nk_paired pbs2
      have lbs2 : bs2.length = (UM bk W).length := by rw [← Paired.length pbs2, List.length_map]
      refine dc_sm walk_n (fun i kvs => kvs = ((UM bk W).take i).map fun t => (eT t, f t)) (by rw [lbs2]; exact Nat.le_trans hUM (by decide)) (fun i kvs r => by rw [r, List.length_map]; exact List.length_take_le _ _) (fun H s => s _ _ hφ2) rfl ?_ ?_
      · rintro i x kvs H6 H7 Kd hi s6 r kd ⟨rfl, b, hb, rfl⟩
        obtain ⟨t, ht⟩ : ∃ t, (UM bk W)[i]? = some t := ⟨_, getI (by omega)⟩
        obtain ⟨x', hx', nt0⟩ := nb2.get (gmap ht)
        obtain rfl : x' = .ref b := by rw [List.getElem?_map, hb] at hx'; exact (Option.some.inj hx').symm
        have nt := nt0.keep (.of s6)
        refine ⟨rfl, _, rfl, _, rfl, _, rfl, p, _, rfl, (d.same (smT s5 s6)).ngetT encT nt (PA_all okb okW (List.mem_of_getElem? ht)), ?_⟩
        refine kd _ _ _ (eT t) b rfl nt (encT.dp t) (sm0 _) ?_
        rw [r]
        exact put_take encT UM_nd ht
      · intro kvs H6 p2 s6 d6 np2 r
        refine ⟨_, rfl, by show 2 ≤ sizeLine; decide, fun a na => ?_⟩
        have sa : Same H6 (upd H6 a (.tup [.ref p2, .ref pf])) := same_upd na
        exact q a _ _ pf ch g (smT s1 (smT s15 (smT s6 sa))) upd_same ⟨d5.same (smT s6 sa), fun t ht => (v5 t ht).1.keep (.of (smT s6 sa))⟩ fun t ht => (v5 t ht).2
end K19
set_option maxHeartbeats 4000000
namespace K19
open PySem PySem.Spec PyProof.Rows L2
theorem mem_sum_le {l : List Nat} {x : Nat} (h : x ∈ l) : x ≤ l.sum := by
  induction l with
  | nil => cases h
  | cons a l ih =>
    rw [List.sum_cons]
    rcases List.mem_cons.mp h with rfl | h
    · omega
    · have := ih h; omega
theorem own_ChV {bk : Bk} {W : List Vl} {ch : Thg → Wy} (okb : bk.Ok) (okW : WbOk bk W) (h : ∀ t ∈ UM bk W, ch t ∈ UF bk W t ∧ totU bk W (PA bk W) t (ch t) = some ((PA bk W).2 t)) : ChV bk W (UM bk W) ch (PA bk W).2 := by
  refine ⟨List.Perm.refl _, fun t ht => (h t ht).1, ⟨fun t ht => mem_waysT okb okW (UM_lt ht).1 (UF_way (h t ht).1), fun t ht n hn => ⟨UF_need (h t ht).1 n hn, ?_⟩⟩⟩
  obtain ⟨h1, h2⟩ := h t ht
  have wy := mem_waysT okb okW (UM_lt ht).1 (UF_way h1)
  unfold totU at h2
  split at h2
  · have e := Option.some.inj h2
    have p := wy.price_pos okb
    have := mem_sum_le (List.mem_map_of_mem (f := (PA bk W).2) hn)
    omega
  · cases h2
def sp_own (P : Program) (w : World) (K : PySem.W.Frag) (CB CW : Addr) : Sp := fun vs H Q _ => ∃ a b, vs = [a, b] ∧ ∃ (bk : Bk) (W : List Vl), bk.Ok ∧ WbOk bk W ∧ BkAt CB H a bk ∧ WbAt CW H b W ∧
  ∀ H' p ch g, Same H H' → ChAt P w H' p (UM bk W) ch g → ChV bk W (UM bk W) ch (PA bk W).2 → Q (.ref p) H'
abbrev n_own : List Str := ["book", "web"]
theorem sc_own : FnScope n_own ["book", "web"] (defScope s_own) := ⟨rfl, rfl, rfl, by decide +kernel, rfl, by decide +kernel, by decide +kernel⟩
theorem cl_own {P : Program} {w : World} {K : PySem.W.Frag} {mg : Str → Option Value} {base : Heap} {CB CW : Addr} (Z : Fx K mg CB CW) : Cl P w K mg base "own" 5 ["book", "web"] (sp_own P w K CB CW) := by
  refine Z.d_own.cl (N := n_own) (k := 4) sc_own (fun vs H Q E h => by obtain ⟨_, _, rfl, _⟩ := h; rfl) (fun _ _ _ _ _ _ us hl => match us, hl with | [_, _], _ => rfl) fun f cdv A outer s H0 E0 hr => ⟨_, (pss_cons (ps_expr (pe_cl (cl_check_web (P := P) (w := w) (K := K) (base := base) Z) hr (by decide) rfl (pa_cons (pv 0) (pa_cons (pv 1) pa_nil)))) (pss_one (ps_ret (pe_ix (qixT (by exact ⟨rfl, rfl, rfl⟩ : At _ P w K)) (pe_cl (cl_raw_alone (P := P) (w := w) (K := K) (base := base) Z) hr (by decide) rfl (pa_cons (pv 0) (pa_cons (pv 1) pa_nil))) pe_int (fun _ _ => rfl))))), fun vs H Q E h => ?_⟩
  obtain ⟨v0, v1, rfl, h⟩ := h
  obtain ⟨bk, W, okb, okW, hB, hW, q⟩ := h
  exact ⟨_, rfl, _, rfl, _, _, rfl, bk, W, hB, hW, okW, fun H1 s1 => ⟨_, rfl, _, rfl, _, _, rfl, bk, W, okb, okW, hB.same s1, hW.same s1, fun a H2 x p ch g s2 ea hc hv => ⟨a, _, _, _, rfl, rfl, .of ea, rfl, q H2 p ch g (smT s1 s2) hc (own_ChV okb okW hv)⟩⟩⟩
/-! ### the law's own -/
theorem Nk.parts {H : Hp} {v : V} {b : Bk} (n : Nk H v (eB b)) : ∃ a xa xr xm, v = .ref a ∧ H a = some (.tup [xa, .int (b.ks : Nat), xr, xm]) ∧ Nk H xa (eL b.ar) ∧ Nk H xr (eRs b) ∧ Nk H xm (eMs b) := by
  obtain ⟨a, xs, rfl, e, r⟩ := n.tupE
  cases r with
  | cons r1 r => cases r with
    | cons r2 r => cases r with
      | cons r3 r => cases r with
        | cons r4 r => cases r; cases r2; exact ⟨a, _, _, _, rfl, e, r1, r3, r4⟩
def sp_law_price (P : Program) (w : World) (K : PySem.W.Frag) (CB CW : Addr) : Sp := fun vs H Q _ => ∃ a b, vs = [a, b] ∧ ∃ (bk : Bk) (wy : Wy) (p : Nat), Nk H a (eB bk) ∧ Nk H b (eW wy) ∧ (if wy.1 then (bk.rs[wy.2]?).map Rl.prc else (bk.ms[wy.2]?).map Mv.prc) = some p ∧ Q (.int (p : Nat)) H
abbrev n_law_price : List Str := ["_law_parts", "_law_way"]
theorem sc_law_price : FnScope n_law_price ["_law_parts", "_law_way"] (defScope s_law_price) := ⟨rfl, rfl, rfl, by decide +kernel, rfl, by decide +kernel, by decide +kernel⟩
theorem cl_law_price {P : Program} {w : World} {K : PySem.W.Frag} {mg : Str → Option Value} {base : Heap} {CB CW : Addr} (Z : Fx K mg CB CW) : Cl P w K mg base "_law_price" 1 ["_law_parts", "_law_way"] (sp_law_price P w K CB CW) := by
  refine Z.d_law_price.cl (N := n_law_price) (k := 0) sc_law_price (fun vs H Q E h => by obtain ⟨_, _, rfl, _⟩ := h; rfl) (fun _ _ _ _ _ _ us hl => match us, hl with | [_, _], _ => rfl) fun f cdv A outer s H0 E0 hr => ⟨_, (pss_one (ps_ret (pe_ifExp (pt_cmpR op_eq (pe_ix (qixT (by exact ⟨rfl, rfl, rfl⟩ : At _ P w K)) (pv 1) pe_int (fun _ _ => rfl)) pe_str (nomark _)) (pe_ix (qixT (by exact ⟨rfl, rfl, rfl⟩ : At _ P w K)) (pe_ix (qixT (by exact ⟨rfl, rfl, rfl⟩ : At _ P w K)) (pe_ix (qixT (by exact ⟨rfl, rfl, rfl⟩ : At _ P w K)) (pv 0) pe_int (fun _ _ => rfl)) (pe_ix (qixT (by exact ⟨rfl, rfl, rfl⟩ : At _ P w K)) (pv 1) pe_int (fun _ _ => rfl)) (fun _ _ => rfl)) pe_int (fun _ _ => rfl)) (pe_ix (qixT (by exact ⟨rfl, rfl, rfl⟩ : At _ P w K)) (pe_ix (qixT (by exact ⟨rfl, rfl, rfl⟩ : At _ P w K)) (pe_ix (qixT (by exact ⟨rfl, rfl, rfl⟩ : At _ P w K)) (pv 0) pe_int (fun _ _ => rfl)) (pe_ix (qixT (by exact ⟨rfl, rfl, rfl⟩ : At _ P w K)) (pv 1) pe_int (fun _ _ => rfl)) (fun _ _ => rfl)) pe_int (fun _ _ => rfl))))), fun vs H Q E h => ?_⟩
  obtain ⟨v0, v1, rfl, h⟩ := h
  obtain ⟨bk, ⟨wr, wi⟩, p, nB, nw, hp, q⟩ := h
  obtain ⟨a, xa, xr, xm, rfl, hB, na, nr, nm⟩ := nB.parts
  obtain ⟨b, rfl, e⟩ := nw.wy
  cases wr with
  | true =>
    obtain ⟨r, hr1, rfl⟩ := Option.map_eq_some_iff.mp hp
    obtain ⟨c, xs, rfl, ec, rr⟩ := nr.tupE
    obtain ⟨u, h1, h2⟩ := rr.get (gmap hr1)
    obtain ⟨d, x, rfl, ed, _⟩ := h2.rl
    exact ⟨_, rfl, _, _, _, _, rfl, rfl, .of e, rfl, rfl, _, rfl, iteD rfl ⟨_, rfl, _, _, _, _, rfl, rfl, .of hB, rfl, _, rfl, _, _, _, _, rfl, rfl, .of e, rfl, _, _, _, _, rfl, rfl, .of ec, atI_nat h1, _, _, _, _, rfl, rfl, .of ed, rfl, q⟩⟩
  | false =>
    obtain ⟨r, hr1, rfl⟩ := Option.map_eq_some_iff.mp hp
    obtain ⟨c, xs, rfl, ec, rr⟩ := nm.tupE
    obtain ⟨u, h1, h2⟩ := rr.get (gmap hr1)
    obtain ⟨d, rfl, ed⟩ := h2.mv
    exact ⟨_, rfl, _, _, _, _, rfl, rfl, .of e, rfl, rfl, _, rfl, iteN wne ⟨_, rfl, _, _, _, _, rfl, rfl, .of hB, rfl, _, rfl, _, _, _, _, rfl, rfl, .of e, rfl, _, _, _, _, rfl, rfl, .of ec, atI_nat h1, _, _, _, _, rfl, rfl, .of ed, rfl, q⟩⟩
def sp_law_needs (P : Program) (w : World) (K : PySem.W.Frag) (CB CW : Addr) : Sp := fun vs H Q _ => ∃ a b c d, vs = [a, b, c, d] ∧ ∃ (bk : Bk) (W : List Vl) (t : Thg) (y : Wy), Nk H a (eB bk) ∧ Nk H b (eWb W) ∧ Nk H c (eT t) ∧ Nk H d (eW y) ∧ WyOk bk W t y ∧ ∀ r H', Same H H' → LsK H' r ((needsT bk W t y).map eT) → Q r H'
abbrev n_law_needs : List Str := ["_law_parts", "_law_values_here", "_law_thing", "_law_way"]
theorem sc_law_needs : FnScope n_law_needs ["_law_parts", "_law_values_here", "_law_thing", "_law_way"] (defScope s_law_needs) := ⟨rfl, rfl, rfl, by decide +kernel, rfl, by decide +kernel, by decide +kernel⟩
theorem cl_law_needs {P : Program} {w : World} {K : PySem.W.Frag} {mg : Str → Option Value} {base : Heap} {CB CW : Addr} (Z : Fx K mg CB CW) : Cl P w K mg base "_law_needs" 1 ["_law_parts", "_law_values_here", "_law_thing", "_law_way"] (sp_law_needs P w K CB CW) := by
  refine Z.d_law_needs.cl (N := n_law_needs) (k := 0) sc_law_needs (fun vs H Q E h => by obtain ⟨_, _, _, _, rfl, _⟩ := h; rfl) (fun _ _ _ _ _ _ us hl => match us, hl with | [_, _, _, _], _ => rfl) fun f cdv A outer s H0 E0 hr => ⟨_, (pss_cons (ps_if (pt_cmpR op_eq (pe_ix (qixT (by exact ⟨rfl, rfl, rfl⟩ : At _ P w K)) (pv 3) pe_int (fun _ _ => rfl)) pe_str (nomark _)) (pss_one (ps_ret (pe_lst (pa_cons (pe_tup (pa_cons (pe_ix (qixT (by exact ⟨rfl, rfl, rfl⟩ : At _ P w K)) (pv 2) pe_int (fun _ _ => rfl)) (pa_cons (pe_ix (qixT (by exact ⟨rfl, rfl, rfl⟩ : At _ P w K)) (pe_ix (qixT (by exact ⟨rfl, rfl, rfl⟩ : At _ P w K)) (pe_ix (qixT (by exact ⟨rfl, rfl, rfl⟩ : At _ P w K)) (pv 0) pe_int (fun _ _ => rfl)) (pe_ix (qixT (by exact ⟨rfl, rfl, rfl⟩ : At _ P w K)) (pv 3) pe_int (fun _ _ => rfl)) (fun _ _ => rfl)) pe_int (fun _ _ => rfl)) pa_nil))) pa_nil)))) pss_nil) (pss_one (ps_ret (qlzip (by exact ⟨rfl, rfl, rfl⟩ : At _ P w K) rfl rfl Z.f_list rfl Z.f_zip (pa_cons (pe_ix (qixT (by exact ⟨rfl, rfl, rfl⟩ : At _ P w K)) (pe_ix (qixT (by exact ⟨rfl, rfl, rfl⟩ : At _ P w K)) (pv 1) (pe_ix (qixT (by exact ⟨rfl, rfl, rfl⟩ : At _ P w K)) (pv 2) pe_int (fun _ _ => rfl)) (fun _ _ => rfl)) pe_int (fun _ _ => rfl)) (pa_cons (pe_ix (qixT (by exact ⟨rfl, rfl, rfl⟩ : At _ P w K)) (pe_ix (qixT (by exact ⟨rfl, rfl, rfl⟩ : At _ P w K)) (pe_ix (qixT (by exact ⟨rfl, rfl, rfl⟩ : At _ P w K)) (pv 0) pe_int (fun _ _ => rfl)) (pe_ix (qixT (by exact ⟨rfl, rfl, rfl⟩ : At _ P w K)) (pv 3) pe_int (fun _ _ => rfl)) (fun _ _ => rfl)) pe_int (fun _ _ => rfl)) pa_nil)))))), fun vs H Q E h => ?_⟩
  obtain ⟨v0, v1, v2, v3, rfl, h⟩ := h
  obtain ⟨bk, W, t, ⟨yr, yi⟩, nB, nW, nt, ny, ok, q⟩ := h
  obtain ⟨b, xs, rfl, e, r⟩ := nW.tupE
  obtain ⟨u, h1, h2⟩ := r.get (gmap (vl_at ok.v))
  obtain ⟨d, x, rfl, ed, nx⟩ := h2.vl
  obtain ⟨c, rfl, ec⟩ := nt.th
  obtain ⟨p, rfl, ep⟩ := ny.wy
  obtain ⟨o, xa, xq, xm, rfl, eB, na, nq, nm⟩ := nB.parts
  obtain ⟨am, ys, rfl, em, rm⟩ := nm.tupE
  obtain ⟨ar, zs, rfl, er, rr⟩ := nq.tupE
  obtain ⟨xv, rfl, exv⟩ := nx.nums
  cases yr with
  | false =>
    obtain ⟨m, hm, _⟩ := ok.m rfl
    obtain ⟨u, g1, g2⟩ := rm.get (gmap hm)
    obtain ⟨dm, rfl, edm⟩ := g2.mv
    refine ⟨_, rfl, _, _, _, _, rfl, rfl, .of ep, rfl, rfl, _, rfl, iteD rfl ⟨_, rfl, _, _, _, _, rfl, rfl, .of ec, rfl, _, rfl, _, _, _, _, rfl, rfl, .of eB, rfl, _, rfl, _, _, _, _, rfl, rfl, .of ep, rfl, _, _, _, _, rfl, rfl, .of em, atI_nat g1, _, _, _, _, rfl, rfl, .of edm, rfl, by show 2 ≤ sizeLine; decide, fun p1 np1 => ⟨by show 1 ≤ sizeLine; decide, fun p2 np2 => q _ _ (smT (same_upd np1) (same_upd np2)) ⟨p2, _, rfl, upd_same, ?_⟩⟩⟩⟩
    have : needsT bk W t (false, yi) = [(t.1, m.fr)] := by simp [needsT, hm]
    rw [this]
    exact .cons (.ofTh (t := (t.1, m.fr)) (same_upd np2 _ _ upd_same)) .nil
  | true =>
    obtain ⟨rl, hr, hl, _⟩ := ok.r rfl
    obtain ⟨u, g1, g2⟩ := rr.get (gmap hr)
    obtain ⟨dm, x2, rfl, edm, nx2⟩ := g2.rl
    obtain ⟨xs2, rfl, exs⟩ := nx2.nums
    refine ⟨_, rfl, _, _, _, _, rfl, rfl, .of ep, rfl, rfl, _, rfl, iteN wne2 ⟨_, rfl, _, rfl, _, _, _, _, rfl, rfl, .of ec, rfl, _, _, _, _, rfl, rfl, .of e, atI_nat h1, _, _, _, _, rfl, rfl, .of ed, rfl, _, rfl, _, _, _, _, rfl, rfl, .of eB, rfl, _, rfl, _, _, _, _, rfl, rfl, .of ep, rfl, _, _, _, _, rfl, rfl, .of er, atI_nat g1, _, _, _, _, rfl, rfl, .of edm, rfl, _, _, _, _, rfl, rfl, .of exv, .of exs, ?_, fun H3 l ts s3 nl el pt => q _ _ s3 ⟨l, _, rfl, el, ?_⟩⟩⟩
    · rw [List.length_map, List.length_map]; exact hl.symm
    · have : needsT bk W t (true, yi) = (vlOf W t).2.zip rl.src := by simp [needsT, hr]
      rw [this]
      exact nk_zip pt
def sp_law_cost (P : Program) (w : World) (K : PySem.W.Frag) (CB CW : Addr) : Sp := fun vs H Q _ => ∃ a b c, vs = [a, b, c] ∧ ∃ (bk : Bk) (W : List Vl) (M : List Thg) (ch : Thg → Wy) (p : Addr) (g : Thg → V) (ts : List Thg), Nk H a (eB bk) ∧ b = .ref p ∧ ChAt P w H p M ch g ∧ (∀ t ∈ M, WyOk bk W t (ch t)) ∧ LsK H c (ts.map eT) ∧ ts.length ≤ sizeLine ∧ (∀ t ∈ ts, t ∈ M) ∧ ∀ H', Same H H' → Q (.int (costT bk ch ts)) H'
abbrev n_law_cost : List Str := ["_law_parts", "_law_choice", "_law_things", "_law_thing"]
theorem sc_law_cost : FnScope n_law_cost ["_law_parts", "_law_choice", "_law_things"] (defScope s_law_cost) := ⟨rfl, rfl, rfl, by decide +kernel, rfl, by decide +kernel, by decide +kernel⟩
theorem cl_law_cost {P : Program} {w : World} {K : PySem.W.Frag} {mg : Str → Option Value} {base : Heap} {CB CW : Addr} (Z : Fx K mg CB CW) : Cl P w K mg base "_law_cost" 2 ["_law_parts", "_law_choice", "_law_things"] (sp_law_cost P w K CB CW) := by
  refine Z.d_law_cost.cl (N := n_law_cost) (k := 1) sc_law_cost (fun vs H Q E h => by obtain ⟨_, _, _, rfl, _⟩ := h; rfl) (fun _ _ _ _ _ _ us hl => match us, hl with | [_, _, _], _ => rfl) fun f cdv A outer s H0 E0 hr => ⟨_, (pss_one (ps_ret (pe_callB (qsum (by exact ⟨rfl, rfl, rfl⟩ : At _ P w K) rfl) rfl Z.f_sum bt_sum (pa_cons (pe_lc (own := [("_law_thing", 3)]) rfl sc_law_cost.nd (qpiL (by exact ⟨rfl, rfl, rfl⟩ : At _ P w K) (pv 2)) (blkOk_by (N := n_law_cost) (sc := defScope s_law_cost) (by decide +kernel)) (fun _ _ _ _ _ => (pg_name (i := 3) sc_law_cost.nd rfl (by first | exact Or.inl rfl | exact Or.inr rfl))) (fun _ _ _ _ _ => pts_nil) (fun _ _ _ _ _ => (pe_cl (cl_law_price (P := P) (w := w) (K := K) (base := base) Z) hr (by decide) rfl (pa_cons (pv 0) (pa_cons (qnget (by exact ⟨rfl, rfl, rfl⟩ : At _ P w K) hr.units (pv 1) (pv 3) (fun _ _ => rfl)) pa_nil))))) pa_nil)))), fun vs H Q E h => ?_⟩
  obtain ⟨v0, v1, v2, rfl, h⟩ := h
  obtain ⟨bk, W, M, ch, p, g, ts, nB, rfl, hc, ok, ⟨l, xs, rfl, el, nl⟩, hz, hm, q⟩ := h
  have hlen : xs.length = ts.length := by rw [nl.length, List.length_map]
  refine ⟨_, rfl, l, rfl, ⟨_, .of el⟩, ?_⟩
  refine lc_sm walk_list (RAll fun i => .int ((fun i => (priceW bk (ch (ts.getD i (0, 0))) : Int)) i)) (by rw [hlen]; exact hz) (fun _ _ _ _ _ r => r) (fun _ _ _ r => r.len) (fun H2 s => .of (s _ _ el)) rfl ?_ ?_
  · rintro i x acc H2 H3 Kd Kn hi s r kd kn ⟨rfl, hx⟩
    obtain ⟨k, hk, nx⟩ := nl.get' hx
    obtain ⟨t, ht, rfl⟩ := gmap' hk
    have tm := hm t (List.mem_of_getElem? ht)
    have hc3 := hc.same s
    refine ⟨rfl, yes ⟨_, rfl, _, rfl, _, rfl, p, _, rfl, hc3.d.ngetT encT (nx.keep (.of s)) tm, _, _, rfl, bk, ch t, priceW bk (ch t), nB.keep (.of s), hc3.v t tm, (ok t tm).price, kd _ _ (sm0 _) ?_⟩⟩
    have e : ts.getD i (0, 0) = t := by rw [List.getD_eq_getElem?_getD, ht]; rfl
    have := RAll.step (f := fun i => V.int (priceW bk (ch (ts.getD i (0, 0))) : Int)) (H' := H3) r
    rw [e] at this; exact this
  · intro acc H2 p2 s ep np r
    refine ⟨p2, _, rfl, .of (by rw [ep, r.ints]), ?_⟩
    rw [hlen, map_at ts (fun t => (priceW bk (ch t) : Int)) (0, 0)]
    exact q _ s
end K19
set_option maxHeartbeats 4000000
namespace K19
open PySem PySem.Spec PyProof.Rows L2
/-- all that some things need, as a dict -/
def NdAt (P : Program) (w : World) (H : Hp) (p : Addr) (bk : Bk) (W : List Vl) (ch : Thg → Wy) (ts : List Thg) : Prop := ∃ l f, DM P w H p eT l f ∧ ∀ u, u ∈ l ↔ ∃ t ∈ ts, Rch bk W ch t u
theorem NdAt.same {P : Program} {w : World} {H H' : Hp} {p : Addr} {bk : Bk} {W : List Vl} {ch : Thg → Wy} {ts : List Thg} (x : NdAt P w H p bk W ch ts) (s : Same H H') : NdAt P w H' p bk W ch ts := by
  obtain ⟨l, f, d, m⟩ := x
  exact ⟨l, f, d.same s, m⟩
structure NdI (P : Program) (w : World) (H0 H : Hp) (bk : Bk) (W : List Vl) (M : List Thg) (ch : Thg → Wy) (ts : List Thg) (p pw : Addr) (stack ks : List Thg) (vs : List V) (g : Thg → V) : Prop where
  s : Same H0 H
  ew : H pw = some (.lst vs)
  nv : NkA H vs (stack.map eT)
  sm : ∀ t ∈ stack, t ∈ M ∧ ∃ t0 ∈ ts, Rch bk W ch t0 t
  d : DM P w H p eT ks g
  kM : ∀ t ∈ ks, t ∈ M ∧ (∃ t0 ∈ ts, Rch bk W ch t0 t) ∧ ∀ n ∈ needsT bk W t (ch t), n ∈ ks ∨ n ∈ stack
  all : ∀ t ∈ ts, t ∈ ks ∨ t ∈ stack
def measN (M ks stack : List Thg) : Nat := (M.filter fun t => !memB t ks).length * 3 + stack.length
theorem Rch.trans {bk : Bk} {W : List Vl} {ch : Thg → Wy} {t n u : Thg} (h : Rch bk W ch t n) : Rch bk W ch n u → Rch bk W ch t u := by
  induction h with
  | self => exact id
  | step a b ih => intro h; exact .step a (ih h)
def sp_law_needed (P : Program) (w : World) (K : PySem.W.Frag) (CB CW : Addr) : Sp := fun vs H Q _ => ∃ a b c d, vs = [a, b, c, d] ∧ ∃ (bk : Bk) (W : List Vl) (M : List Thg) (ch : Thg → Wy) (rank : Thg → Nat) (pc : Addr) (g : Thg → V) (ts : List Thg), bk.Ok ∧ WbOk bk W ∧ Nk H a (eB bk) ∧ Nk H b (eWb W) ∧ c = .ref pc ∧ ChAt P w H pc M ch g ∧ ChOk bk W M ch rank ∧ M.length ≤ 45 ∧ LsK H d (ts.map eT) ∧ ts.length ≤ 2 ∧ (∀ t ∈ ts, t ∈ M) ∧
  ∀ p H', Same H H' → H p = none → NdAt P w H' p bk W ch ts → Q (.ref p) H'
abbrev n_law_needed : List Str := ["_law_parts", "_law_values_here", "_law_choice", "_law_things", "_law_found", "_law_waiting", "_law_thing"]
theorem sc_law_needed : FnScope n_law_needed ["_law_parts", "_law_values_here", "_law_choice", "_law_things"] (defScope s_law_needed) := ⟨rfl, rfl, rfl, by decide +kernel, rfl, by decide +kernel, by decide +kernel⟩
theorem cl_law_needed {P : Program} {w : World} {K : PySem.W.Frag} {mg : Str → Option Value} {base : Heap} {CB CW : Addr} (Z : Fx K mg CB CW) : Cl P w K mg base "_law_needed" 2 ["_law_parts", "_law_values_here", "_law_choice", "_law_things"] (sp_law_needed P w K CB CW) := by
  refine Z.d_law_needed.cl (N := n_law_needed) (k := 1) sc_law_needed (fun vs H Q E h => by obtain ⟨_, _, _, _, rfl, _⟩ := h; rfl) (fun _ _ _ _ _ _ us hl => match us, hl with | [_, _, _, _], _ => rfl) fun f cdv A outer s H0 E0 hr => ⟨_, (pss_cons (ps_set (i := 4) sc_law_needed.nd rfl (Or.inl rfl) (qdnew (by exact ⟨rfl, rfl, rfl⟩ : At _ P w K))) (pss_cons (ps_set (i := 5) sc_law_needed.nd rfl (Or.inl rfl) (pe_callTy (qlst (by exact ⟨rfl, rfl, rfl⟩ : At _ P w K)) rfl Z.f_list bt_list (pa_cons (pv 3) pa_nil))) (pss_cons (ps_while PassesOwn.never (pt_cmpR op_gt (pe_callB (qlen (by exact ⟨rfl, rfl, rfl⟩ : At _ P w K)) rfl Z.f_len bt_len (pa_cons (pv 5) pa_nil)) pe_int (nomark _)) (pss_cons (ps_set (i := 6) sc_law_needed.nd rfl (Or.inl rfl) (qbm0 (by exact ⟨rfl, rfl, rfl⟩ : At _ P w K) PySem.F.plainAttrs_list PySem.F.slot_list_pop PySem.F.type_list_pop mt_pop (pv 5))) (pss_one (ps_if (pt_cmp (qnnot (by exact ⟨rfl, rfl, rfl⟩ : At _ P w K) hr.units (pv 6) (pv 4)) rfl) (pss_cons (qnput (by exact ⟨rfl, rfl, rfl⟩ : At _ P w K) hr.units (pv 4) (pv 6) pe_bl rfl) (pss_one (ps_expr (qbm (by exact ⟨rfl, rfl, rfl⟩ : At _ P w K) PySem.F.plainAttrs_list PySem.F.slot_list_extend PySem.F.type_list_extend mt_extend (pv 5) (pa_cons (pe_cl (cl_law_needs (P := P) (w := w) (K := K) (base := base) Z) hr (by decide) rfl (pa_cons (pv 0) (pa_cons (pv 1) (pa_cons (pv 6) (pa_cons (qnget (by exact ⟨rfl, rfl, rfl⟩ : At _ P w K) hr.units (pv 2) (pv 6) (fun _ _ => rfl)) pa_nil))))) pa_nil))))) pss_nil)))) (pss_one (ps_ret (pv 4)))))), fun vs H Q E h => ?_⟩
  obtain ⟨v0, v1, v2, v3, rfl, h⟩ := h
  obtain ⟨bk, W, M, ch, rank, pc, g0, ts, okb, okW, nB, nW, rfl, hc, hok, hM, ⟨l0, xs0, rfl, el0, nl0⟩, hts, htM, q⟩ := h
  intro p H1 np b1 d1
  have s1 := b1.same np
  refine ⟨_, rfl, l0, xs0, rfl, .inl (.of (s1 _ _ el0)), fun pw nw => ?_⟩
  have npw : H pw = none := none_back s1 nw
  have sw : Same H1 (upd H1 pw (.lst xs0)) := same_upd nw
  have pne : p ≠ pw := fun z => by obtain ⟨φ, e⟩ := Dc.ext d1; rw [z, nw] at e; cases e
  refine ⟨fun m σ H2 => ∃ stack ks vs g x6, σ = [some v0, some v1, some (.ref pc), some (.ref l0), some (.ref p), some (.ref pw), x6] ∧ NdI P w H H2 bk W M ch ts p pw stack ks vs g ∧ m = measN M ks stack ∧ m ≤ 200, ⟨_, ts, [], _, fun _ => .non, none, rfl, ⟨smT s1 sw, upd_same, nl0.keep (.of (smT s1 sw)), fun t h => ⟨htM t h, t, h, .self t⟩, (show DM P w H1 p eT [] fun _ => .non from d1).same sw, (fun _ h => nomatch h), fun t h => .inr h⟩, rfl, ?_⟩, ?_⟩
  · unfold measN
    have h2 : (M.filter fun t => !memB t []).length ≤ M.length := List.length_filter_le _ _
    omega
  rintro m σ H2 ⟨stack, ks, vs, g, x6, rfl, I, rfl, hm⟩
  have lvs : vs.length = stack.length := by rw [I.nv.length, List.length_map]
  refine ⟨_, rfl, _, _, rfl, .inl ⟨_, .of I.ew, rfl⟩, _, _, rfl, rfl, _, rfl, ?_⟩
  by_cases h0 : stack.length = 0
  · have se := List.eq_nil_of_length_eq_zero h0
    refine iteN (by omega) ⟨_, rfl, q p H2 I.s np ⟨ks, g, I.d, fun u => ⟨fun h => (I.kM u h).2.1, ?_⟩⟩⟩
    have cl : ∀ {t u : Thg}, Rch bk W ch t u → t ∈ ks → u ∈ ks := by
      intro t u h
      induction h with
      | self => exact id
      | step a b ih => intro ht; exact ih (((I.kM _ ht).2.2 _ a).resolve_right fun z => by rw [se] at z; cases z)
    rintro ⟨t, ht, hr⟩
    exact cl hr ((I.all t ht).resolve_right fun z => by rw [se] at z; cases z)
  refine iteD (by omega) ?_
  obtain ⟨st, t, rfl⟩ := snoc_of h0
  obtain ⟨ys, u, rfl, nys, nu⟩ := NkA.snocE (by have := I.nv; rw [List.map_append] at this; exact this)
  obtain ⟨htM2, t0, ht0, hrt⟩ := I.sm t (by simp)
  refine ⟨fun σ' H' => ∃ m', m' < measN M ks (st ++ [t]) ∧ ∃ stack ks vs g x6, σ' = [some v0, some v1, some (.ref pc), some (.ref l0), some (.ref p), some (.ref pw), x6] ∧ NdI P w H H' bk W M ch ts p pw stack ks vs g ∧ m' = measN M ks stack ∧ m' ≤ 200, fun σ' H' ⟨m', h1, h2⟩ => ⟨m', h1, h2⟩, ?_⟩
  have ew := I.ew
  refine ⟨_, rfl, tyL ew, pw, _, u, rfl, rfl, ew, by rw [List.length_append, List.length_singleton, Nat.add_sub_cancel, List.getElem?_append_right (Nat.le_refl _), Nat.sub_self]; rfl, ?_⟩
  rw [List.dropLast_concat]
  have k3 := chkpt (ys := ys) ew
  have s3 : Same H (upd H2 pw (.lst ys)) := smU npw I.s
  have nu3 := nu.keep k3
  have nys3 := nys.keep k3
  have d3 := I.d.but (But.upd (o := .lst ys)) pne (fun xs z => by rw [ew] at z; cases z)
  have ew3 : (upd H2 pw (.lst ys)) pw = some (.lst ys) := upd_same
  generalize upd H2 pw (.lst ys) = H3 at s3 nu3 nys3 d3 ew3 ⊢
  refine ⟨_, rfl, _, rfl, p, _, rfl, d3.nget encT nu3, _, rfl, ?_⟩
  rw [ifSome]
  have hst : (M.filter fun t => !memB t ks).length * 3 + (st.length + 1) ≤ 200 := by
    have := hm
    unfold measN at this
    rw [List.length_append, List.length_singleton] at this; exact this
  by_cases hk : t ∈ ks
  · rw [memB_t hk]
    refine iteF ⟨measN M ks st, ?_, st, ks, ys, g, _, rfl, ⟨s3, ew3, nys3, fun n hn => I.sm n (List.mem_append_left _ hn), d3, fun n hn => ?_, fun n hn => ?_⟩, rfl, ?_⟩
    · unfold measN; rw [List.length_append, List.length_singleton]; omega
    · obtain ⟨h1, h2, h3⟩ := I.kM n hn
      refine ⟨h1, h2, fun k hk' => ?_⟩
      rcases h3 k hk' with h | h
      · exact .inl h
      · rcases List.mem_append.mp h with h | h
        · exact .inr h
        · rw [List.mem_singleton.mp h]; exact .inl hk
    · rcases I.all n hn with h | h
      · exact .inl h
      · rcases List.mem_append.mp h with h | h
        · exact .inr h
        · rw [List.mem_singleton.mp h]; exact .inl hk
    · unfold measN; omega
  · rw [memB_f hk]
    have lks : ks.length < sizeLine := by
      have := nodup_sub_len (d3.nd encT) fun v hv => (I.kM v hv).1
      exact Nat.lt_of_le_of_lt (show _ ≤ 45 by omega) (by decide)
    refine iteT ⟨_, rfl, _, rfl, d3.nput encT (t := t) lks nu3 fun H4 b4 d4 => ?_⟩
    have k4 : KpT H3 H4 := b4.kpt (Dc.ntup d3)
    have s4 : Same H H4 := smB np s3 b4
    have ew4 : H4 pw = some (.lst ys) := by rw [b4 _ (Ne.symm pne)]; exact ew3
    have nu4 := nu3.keep k4
    have hc4 := hc.same s4
    have wyok := hok.wy t htM2
    refine ⟨_, rfl, tyL ew4, _, rfl, _, rfl, _, rfl, _, rfl, _, rfl, pc, _, rfl, hc4.d.ngetT encT nu4 htM2, _, _, _, _, rfl, bk, W, t, ch t, nB.keep (.of s4), nW.keep (.of s4), nu4, hc4.v t htM2, wyok, fun r H5 s5 hl => ?_⟩
    obtain ⟨l, zs, rfl, el, nl⟩ := hl
    have lzs : zs.length ≤ 2 := by rw [nl.length, List.length_map]; exact needs_len okb okW wyok
    have ew5 := s5 _ _ ew4
    have lys : ys.length = st.length := by rw [nys.length, List.length_map]
    have d5 := d4.same s5
    refine ⟨pw, l, _, _, rfl, rfl, ew5, el, ?_, ?_⟩
    · exact Nat.le_trans (show _ ≤ 300 by omega) (by decide)
    have k6 := chkpt (ys := ys ++ zs) ew5
    have hf := filter_ins (M := M) htM2 hk
    have lN : (needsT bk W t (ch t)).length ≤ 2 := needs_len okb okW wyok
    have hlt : measN M (insL ks t) (st ++ needsT bk W t (ch t)) < measN M ks (st ++ [t]) := by
      unfold measN
      rw [List.length_append, List.length_append, List.length_singleton]; omega
    refine ⟨_, hlt, st ++ needsT bk W t (ch t), insL ks t, _, _, _, rfl, ⟨smU npw (smT s4 s5), upd_same, ?_, fun n hn => ?_, d5.but But.upd pne (fun xs z => by rw [ew5] at z; cases z), fun n hn => ?_, fun n hn => ?_⟩, rfl, by omega⟩
    · rw [List.map_append]
      exact NkA.app (((nys3.keep k4).keep (.of s5)).keep k6) (nl.keep k6)
    · rcases List.mem_append.mp hn with hn | hn
      · exact I.sm n (List.mem_append_left _ hn)
      · exact ⟨(hok.nd t htM2 n hn).1, t0, ht0, hrt.trans (.step hn (.self n))⟩
    · by_cases hnt : n = t
      · rw [hnt]
        exact ⟨htM2, ⟨t0, ht0, hrt⟩, fun k hk' => .inr (List.mem_append_right _ hk')⟩
      · obtain ⟨h1, h2, h3⟩ := I.kM n ((mem_insL.mp hn).resolve_right hnt)
        refine ⟨h1, h2, fun k hk' => ?_⟩
        rcases h3 k hk' with h | h
        · exact .inl (mem_insL.mpr (.inl h))
        · rcases List.mem_append.mp h with h | h
          · exact .inr (List.mem_append_left _ h)
          · exact .inl (mem_insL.mpr (.inr (List.mem_singleton.mp h)))
    · rcases I.all n hn with h | h
      · exact .inl (mem_insL.mpr (.inl h))
      · rcases List.mem_append.mp h with h | h
        · exact .inr (List.mem_append_left _ h)
        · exact .inl (mem_insL.mpr (.inr (List.mem_singleton.mp h)))
def sp_law_nested (P : Program) (w : World) (K : PySem.W.Frag) (CB CW : Addr) : Sp := fun vs H Q _ => vs = [] ∧ ∀ a H' xs, Same H H' → H' a = some (.tup xs) → Q (.ref a) H'
end K19
set_option maxHeartbeats 4000000
namespace K19
open PySem PySem.Spec PyProof.Rows L2
abbrev n_law_nested : List Str := ["_law_thing", "_law_turn"]
theorem sc_law_nested : FnScope n_law_nested [] (defScope s_law_nested) := ⟨rfl, rfl, rfl, by decide +kernel, rfl, by decide +kernel, by decide +kernel⟩
theorem cl_law_nested {P : Program} {w : World} {K : PySem.W.Frag} {mg : Str → Option Value} {base : Heap} {CB CW : Addr} (Z : Fx K mg CB CW) : Cl P w K mg base "_law_nested" 1 [] (sp_law_nested P w K CB CW) := by
  refine Z.d_law_nested.cl (N := n_law_nested) (k := 0) sc_law_nested (fun vs H Q E h => by obtain ⟨rfl, _⟩ := h; rfl) (fun _ _ _ _ _ _ us hl => match us, hl with | [], _ => rfl) fun f cdv A outer s H0 E0 hr => ⟨_, (pss_cons (ps_set (i := 0) sc_law_nested.nd rfl (Or.inl rfl) (pe_tup pa_nil)) (pss_cons (ps_for PassesOwn.never rfl (pi_range1 rfl Z.f_range (pa_cons pe_int pa_nil)) (pg_name (i := 1) sc_law_nested.nd rfl (Or.inl rfl)) (pss_one (ps_set (i := 0) sc_law_nested.nd rfl (Or.inl rfl) (pe_tup (pa_cons (pv 0) pa_nil))))) (pss_one (ps_ret (pv 0))))), fun vs H Q E h => ?_⟩
  obtain ⟨rfl, h⟩ := h
  refine ⟨Nat.zero_le _, fun p np => ?_⟩
  refine ⟨36, rfl, by decide, by decide, ?_⟩
  refine for_it (n := 36) walk_r0 (fun i σ H2 => ∃ a xs x1, σ = [some (.ref a), x1] ∧ Same H H2 ∧ H2 a = some (.tup xs)) ⟨p, [], none, rfl, same_upd np, upd_same⟩ (fun _ _ _ _ _ => trivial) ?_ ?_
  · rintro i x σ H2 H3 hi ⟨a, xs, x1, rfl, s, ea⟩ ⟨rfl, rfl⟩
    exact ⟨_, rfl, by show 1 ≤ sizeLine; decide, fun q1 nq1 => ⟨q1, _, _, rfl, smT s (same_upd nq1), upd_same⟩⟩
  · rintro σ H2 ⟨a, xs, x1, rfl, s, ea⟩
    exact ⟨_, rfl, h a H2 xs s ea⟩
def sp_law_extras (P : Program) (w : World) (K : PySem.W.Frag) (CB CW : Addr) : Sp := fun vs H Q _ => ∃ a b c d, vs = [a, b, c, d] ∧ ∃ (bk : Bk) (W : List Vl) (M : List Thg) (ch : Thg → Wy) (rank : Thg → Nat) (pu pc : Addr) (g : Thg → V), bk.Ok ∧ WbOk bk W ∧ Nk H a (eB bk) ∧ Nk H b (eWb W) ∧ c = .ref pu ∧ UsAt P w H pu (UM bk W) (UF bk W) ∧ d = .ref pc ∧ ChAt P w H pc M ch g ∧ ChV bk W M ch rank ∧
  ∀ p H', Same H H' → ExAt P w H' p bk W ch → Q (.ref p) H'
abbrev n_law_extras : List Str := ["_law_parts", "_law_values_here", "_law_usable_here", "_law_choice", "_law_found", "_law_thing", "_law_mine", "_law_way", "_law_there", "_law_one"]
theorem sc_law_extras : FnScope n_law_extras ["_law_parts", "_law_values_here", "_law_usable_here", "_law_choice"] (defScope s_law_extras) := ⟨rfl, rfl, rfl, by decide +kernel, rfl, by decide +kernel, by decide +kernel⟩
theorem cl_law_extras {P : Program} {w : World} {K : PySem.W.Frag} {mg : Str → Option Value} {base : Heap} {CB CW : Addr} (Z : Fx K mg CB CW) : Cl P w K mg base "_law_extras" 3 ["_law_parts", "_law_values_here", "_law_usable_here", "_law_choice"] (sp_law_extras P w K CB CW) := by
  refine Z.d_law_extras.cl (N := n_law_extras) (k := 2) sc_law_extras (fun vs H Q E h => by obtain ⟨_, _, _, _, rfl, _⟩ := h; rfl) (fun _ _ _ _ _ _ us hl => match us, hl with | [_, _, _, _], _ => rfl) fun f cdv A outer s H0 E0 hr => ⟨_, (pss_cons (ps_set (i := 4) sc_law_extras.nd rfl (Or.inl rfl) (qdnew (by exact ⟨rfl, rfl, rfl⟩ : At _ P w K))) (pss_cons (ps_for PassesOwn.never rfl (qpiN (by exact ⟨rfl, rfl, rfl⟩ : At _ P w K) (pv 2)) (pg_name (i := 5) sc_law_extras.nd rfl (Or.inl rfl)) (pss_cons (ps_set (i := 6) sc_law_extras.nd rfl (Or.inl rfl) (pe_cl (cl_law_needed (P := P) (w := w) (K := K) (base := base) Z) hr (by decide) rfl (pa_cons (pv 0) (pa_cons (pv 1) (pa_cons (pv 3) (pa_cons (pe_lst (pa_cons (pv 5) pa_nil)) pa_nil)))))) (pss_one (ps_for PassesOwn.never rfl (qpiL (by exact ⟨rfl, rfl, rfl⟩ : At _ P w K) (qnget (by exact ⟨rfl, rfl, rfl⟩ : At _ P w K) hr.units (pv 2) (pv 5) (fun _ _ => rfl))) (pg_name (i := 7) sc_law_extras.nd rfl (Or.inl rfl)) (pss_cons (ps_set (i := 8) sc_law_extras.nd rfl (Or.inr rfl) (pe_cl (cl_law_needed (P := P) (w := w) (K := K) (base := base) Z) hr (by decide) rfl (pa_cons (pv 0) (pa_cons (pv 1) (pa_cons (pv 3) (pa_cons (pe_cl (cl_law_needs (P := P) (w := w) (K := K) (base := base) Z) hr (by decide) rfl (pa_cons (pv 0) (pa_cons (pv 1) (pa_cons (pv 5) (pa_cons (pv 7) pa_nil))))) pa_nil)))))) (pss_one (qnput (by exact ⟨rfl, rfl, rfl⟩ : At _ P w K) hr.units (pv 4) (pe_tup (pa_cons (pv 5) (pa_cons (pv 7) pa_nil))) (pe_cl (cl_law_cost (P := P) (w := w) (K := K) (base := base) Z) hr (by decide) rfl (pa_cons (pv 0) (pa_cons (pv 3) (pa_cons (pe_lc (own := [("_law_one", 9)]) rfl sc_law_extras.nd (qpiN (by exact ⟨rfl, rfl, rfl⟩ : At _ P w K) (pv 6)) (blkOk_by (N := n_law_extras) (sc := defScope s_law_extras) (by decide +kernel)) (fun _ _ _ _ _ => (pg_name (i := 9) sc_law_extras.nd rfl (by first | exact Or.inl rfl | exact Or.inr rfl))) (fun _ _ _ _ _ => (pts_one (pt_cmp (qnnot (by exact ⟨rfl, rfl, rfl⟩ : At _ P w K) hr.units (pv 9) (pv 8)) rfl))) (fun _ _ _ _ _ => (pv 9))) pa_nil)))) rfl))))))) (pss_one (ps_ret (pv 4))))), fun vs H Q E h => ?_⟩
  obtain ⟨v0, v1, v2, v3, rfl, h⟩ := h
  obtain ⟨bk, W, M, ch, rank, pu, pc, g, okb, okW, nB, nW, rfl, us, rfl, hc, hv, q⟩ := h
  have hM : M.length ≤ 45 := by rw [hv.perm.length_eq]; exact UM_len okb okW
  obtain ⟨gu, du, lu⟩ := us
  intro p H3 np b3 d3
  have s23 := b3.same np
  have du3 := du.same s23
  refine ⟨_, rfl, pu, _, rfl, du3, fun φ bs hφ pbs => ?_⟩
  have nb := nk_paired pbs
  have lbs : bs.length = (UM bk W).length := by rw [← Paired.length pbs, List.length_map]
  have hUM := UM_len okb okW
  have ppu : pu ≠ p := fun z => by obtain ⟨φ, e⟩ := du.ext; rw [z, np] at e; cases e
  have plen : ∀ {i j : Nat} {t : Thg}, (UM bk W)[i]? = some t → (pairs ((UM bk W).take i) (UF bk W) ++ ((UF bk W t).take j).map (fun y => (t, y))).length < sizeLine := fun {i j t} ht => by
    have h1 := pairs_len (W := W) okb ((UM bk W).take i)
    have h2 : ((UM bk W).take i).length ≤ 45 := Nat.le_trans (List.length_take_le' _ _) hUM
    have h3 := nodup_sub_len (UF_nd (bk := bk) (W := W) t) fun y hy => UF_way hy
    have h4 := waysT_len okb W t
    have h5 : ((UF bk W t).take j).length ≤ (UF bk W t).length := List.length_take_le' _ _
    rw [List.length_append, List.length_map]
    exact Nat.lt_of_le_of_lt (show _ ≤ 3000 by omega) (by decide)
  refine for_it walk_n (fun i σ H4 => ∃ x5 x6 x7 x8 x9, σ = [some v0, some v1, some (.ref pu), some (.ref pc), some (.ref p), x5, x6, x7, x8, x9] ∧ Same H H4 ∧ H4 pu = some φ ∧ KpT H3 H4 ∧ ∃ f, DM P w H4 p eP (pairs ((UM bk W).take i) (UF bk W)) f ∧ ∀ q ∈ pairs ((UM bk W).take i) (UF bk W), f q = .int (exT bk W ch q.1 q.2))
    ⟨none, none, none, none, none, rfl, s23, hφ, KpT.refl _, fun _ => .non, d3, fun _ h => nomatch h⟩ (fun i σ H4 _ ⟨_, _, _, _, _, _, _, e, _⟩ => e) ?_ ?_
  · rintro i x σ H4 H5 hi ⟨x5, x6, x7, x8, x9, rfl, s4, e4, k4, f0, d4, v4⟩ ⟨rfl, b, hb, rfl⟩
    obtain ⟨t, ht⟩ : ∃ t, (UM bk W)[i]? = some t := ⟨_, getI (by omega)⟩
    obtain ⟨x', hx', nt0⟩ := nb.get (gmap ht)
    obtain rfl : x' = .ref b := by rw [List.getElem?_map, hb] at hx'; exact (Option.some.inj hx').symm
    have htU := List.mem_of_getElem? ht
    have htM := hv.perm.mem_iff.mpr htU
    have nt := nt0.keep k4
    refine ⟨_, rfl, _, rfl, _, rfl, _, rfl, by show 1 ≤ sizeLine; decide, fun ql nql => ?_⟩
    have sq : Same H5 (upd H5 ql (.lst [.ref b])) := same_upd nql
    have s0q := smT s4 sq
    refine ⟨_, _, _, _, rfl, bk, W, M, ch, rank, pc, g, [t], okb, okW, nB.keep (.of s0q), nW.keep (.of s0q), rfl, hc.same s0q, hv.ok, hM, ⟨ql, _, rfl, upd_same,   .cons (nt.keep (.of sq)) .nil⟩, Nat.le_succ 1, fun u hu => by rw [List.mem_singleton.mp hu]; exact htM, fun pm H6 s6 npm mine => ?_⟩
    have s56 := smT sq s6
    have s06 := smT s4 s56
    obtain ⟨lm, fm, dm, mm⟩ := mine
    have nt6 := nt.keep (.of s56)
    have d6 := d4.same s56
    obtain ⟨l, xs, el0, el, nl⟩ := (lu t htU).same s06
    have lxs : xs.length = (UF bk W t).length := by rw [nl.length, List.length_map]
    refine ⟨_, rfl, _, rfl, pu, _, rfl, (du.same s06).ngetT encT nt6 htU, l, el0, ⟨_, .of el⟩, ?_⟩
    refine for_it walk_list (fun j σ H7 => ∃ x7 x8 x9, σ = [some v0, some v1, some (.ref pu), some (.ref pc), some (.ref p), some (.ref b), some (.ref pm), x7, x8, x9] ∧ Same H H7 ∧ H7 pu = some φ ∧ KpT H3 H7 ∧ H7 l = some (.lst xs) ∧ KpT H6 H7 ∧ DM P w H7 pm eT lm fm ∧ ∃ f, DM P w H7 p eP (pairs ((UM bk W).take i) (UF bk W) ++ ((UF bk W t).take j).map fun y => (t, y)) f ∧ ∀ q ∈ pairs ((UM bk W).take i) (UF bk W) ++ ((UF bk W t).take j).map (fun y => (t, y)), f q = .int (exT bk W ch q.1 q.2))
      ⟨_, _, _, rfl, s06, s56 _ _ e4, k4.trans (.of s56), el, KpT.refl _, dm, f0, by simpa using d6, by simpa using v4⟩ (fun j σ H6 _ ⟨_, _, _, _, _, _, _, e, _⟩ => .of e) ?_ ?_
    · rintro j x σ H7 H8 hj ⟨x7, x8, x9, rfl, s7, e7, k7, el7, kk7, dm7, f1, d7, w7⟩ ⟨rfl, hx⟩
      obtain ⟨kk, hk, ny0⟩ := nl.get' hx
      obtain ⟨y, hy, rfl⟩ := gmap' hk
      have hyU := List.mem_of_getElem? hy
      have ny := ny0.keep kk7
      have nt7 := nt0.keep k7
      have wyok := mem_waysT okb okW (UM_lt htU).1 (UF_way hyU)
      have nM : ∀ n ∈ needsT bk W t y, n ∈ M := fun n hn => hv.perm.mem_iff.mpr (UF_need hyU n hn)
      refine ⟨_, rfl, _, rfl, _, rfl, _, rfl, _, rfl, _, rfl, _, rfl, _, _, _, _, rfl, bk, W, t, y, nB.keep (.of s7), nW.keep (.of s7), nt7, ny, wyok, fun r H9 s9 hl => ?_⟩
      have s09 := smT s7 s9
      refine ⟨_, _, _, _, rfl, bk, W, M, ch, rank, pc, g, needsT bk W t y, okb, okW, nB.keep (.of s09), nW.keep (.of s09), rfl, hc.same s09, hv.ok, hM, hl, needs_len okb okW wyok, nM, fun pt H10 s10 _ there => ?_⟩
      obtain ⟨lt, ft, dt, mt⟩ := there
      have s710 := smT s9 s10
      have s010 := smT s7 s710
      have dm10 := dm7.same s710
      have llm : lm.length ≤ 45 := Nat.le_trans (nodup_sub_len (dm.nd encT) fun u hu => by
        obtain ⟨t', ht', hr'⟩ := (mm u).mp hu
        rw [List.mem_singleton.mp ht'] at hr'
        exact hr'.mem hv.ok htM) hM
      refine ⟨_, rfl, _, rfl, _, rfl, pm, _, rfl, dm10, fun φ2 bs2 hφ2 pbs2 => ?_⟩
      have nb2 := nk_paired pbs2
      have lbs2 : bs2.length = lm.length := by rw [← Paired.length pbs2, List.length_map]
      refine lc_sm walk_n (fun i acc H11 => NkA H11 acc (((lm.take i).filter fun u => !memB u lt).map eT)) (by rw [lbs2]; exact Nat.le_trans llm (by decide)) (fun i acc H2 H3 t r => r.keep t) (fun i acc H2 r => ?_) (fun H2 s => s _ _ hφ2) .nil ?_ ?_
      · rw [r.length, List.length_map]
        exact Nat.le_trans (List.length_filter_le _ _) (List.length_take_le _ _)
      · rintro m z acc H11 H12 Kd Kn hm s11 r kd kn ⟨rfl, b2, hb2, rfl⟩
        obtain ⟨u, hu⟩ : ∃ u, lm[m]? = some u := ⟨_, getI (by omega)⟩
        obtain ⟨x', hx', nx0⟩ := nb2.get (gmap hu)
        obtain rfl : x' = .ref b2 := by rw [List.getElem?_map, hb2] at hx'; exact (Option.some.inj hx').symm
        have nx := nx0.keep (.of s11)
        refine ⟨rfl, _, rfl, _, rfl, pt, _, rfl, (dt.same s11).nget encT nx, _, rfl, ?_⟩
        rw [ifSome]
        refine iteB (fun hq => ⟨_, rfl, kd _ _ (sm0 _) ?_⟩) (fun hq => kn _ (sm0 _) ?_)
        · rw [filter_snoc (q := fun u => !memB u lt) hu, if_pos hq, List.map_append]
          exact NkA.snoc nx r
        · rw [filter_snoc (q := fun u => !memB u lt) hu, if_neg (bfl hq), List.append_nil]
          exact r
      intro acc H11 p2 s11 ep2 np2 r
      rw [lbs2, List.take_length] at r
      have s011 := smT s010 s11
      have l2M : ∀ u ∈ lm.filter (fun u => !memB u lt), u ∈ M := fun u hu => by
        obtain ⟨t', ht', hr'⟩ := (mm u).mp (List.mem_filter.mp hu).1
        rw [List.mem_singleton.mp ht'] at hr'
        exact hr'.mem hv.ok htM
      have nd2 : (lm.filter fun u => !memB u lt).Nodup := nd_filter _ (dm.nd encT)
      have mem2 : ∀ u, u ∈ lm.filter (fun u => !memB u lt) ↔ Rch bk W ch t u ∧ ¬ ∃ n ∈ needsT bk W t y, Rch bk W ch n u := fun u => by
        rw [List.mem_filter, mm, Bool.not_eq_true', ← Bool.not_eq_true, memB_iff, mt]
        constructor
        · rintro ⟨⟨t', h1, h2⟩, h3⟩; rw [List.mem_singleton.mp h1] at h2; exact ⟨h2, h3⟩
        · rintro ⟨h1, h2⟩; exact ⟨⟨t, by simp, h1⟩, h2⟩
      refine ⟨_, _, _, rfl, bk, W, M, ch, pc, g, lm.filter (fun u => !memB u lt), nB.keep (.of s011), rfl, hc.same s011, hv.ok.wy, ⟨p2, acc, rfl, ep2, r⟩, Nat.le_trans (nodup_sub_len nd2 l2M) (Nat.le_trans hM (by decide)), l2M, fun H12 s12 => ?_⟩
      have s712 := smT s710 (smT s11 s12)
      refine ⟨_, rfl, _, rfl, _, rfl, by show 2 ≤ sizeLine; decide, fun qk nqk => ?_⟩
      have sk : Same H12 (upd H12 qk (.tup [.ref b, x])) := same_upd nqk
      have s7k := smT s712 sk
      have nkey : Nk (upd H12 qk (.tup [.ref b, x])) (.ref qk) (eP (t, y)) := .of2 upd_same (nt7.keep (.of s7k)) (ny.keep (.of s7k))
      have nw : (t, y) ∉ pairs ((UM bk W).take i) (UF bk W) ++ ((UF bk W t).take j).map fun y => (t, y) := fun z => by
        rcases List.mem_append.mp z with z | z
        · exact not_mem_take UM_nd ht (mem_pairs.mp z).1
        · obtain ⟨y', h1, h2⟩ := List.mem_map.mp z
          have : y' = y := congrArg (·.2) h2
          rw [this] at h1
          exact not_mem_take (UF_nd t) hy h1
      refine (d7.same s7k).nput encP (t := (t, y)) (plen ht) nkey fun H13 b13 d13 => ?_
      have dk := d7.same s7k
      have kb : KpT (upd H12 qk (.tup [.ref b, x])) H13 := b13.kpt (Dc.ntup dk)
      have keepO : ∀ c o, c ≠ p → H8 c = some o → H13 c = some o := fun c o hc e => by rw [b13 c hc]; exact s7k _ _ e
      have pmp : pm ≠ p := fun z => by
        obtain ⟨φp, hφp⟩ := d4.ext
        have h1 := sq _ _ hφp
        rw [← z, npm] at h1; cases h1
      refine ⟨_, _, _, rfl, smB np (smT s7 s7k) b13, keepO _ _ ppu e7, (k7.trans (.of s7k)).trans kb, ?_, (kk7.trans (.of s7k)).trans kb, (dm7.same s7k).but b13 pmp (Dc.ntup dk), updF f1 (t, y) (.int (costT bk ch (lm.filter fun u => !memB u lt))), ?_, ?_⟩
      · refine keepO _ _ (fun z => ?_) el7
        obtain ⟨φ', e'⟩ := d7.ext
        rw [z, e'] at el7; cases el7
      · rw [insL_new nw] at d13
        rw [take_snoc hy, ← List.append_assoc]
        exact d13
      · rw [take_snoc hy, ← List.append_assoc]
        intro q' hq'
        unfold updF
        by_cases e : q' = (t, y)
        · rw [if_pos e, e, ex_eq hv htM nd2 mem2]
        · rw [if_neg e]
          rcases List.mem_append.mp hq' with h | h
          · exact w7 q' h
          · exact absurd (List.mem_singleton.mp h) e
    · rintro σ H7 ⟨x7, x8, x9, rfl, s7, e7, k7, el7, kk7, dm7, f1, d7, w7⟩
      rw [lxs, List.take_length] at d7 w7
      rw [← pairs_take ht] at d7 w7
      exact ⟨_, _, _, _, _, rfl, s7, e7, k7, f1, d7, w7⟩
  · rintro σ H4 ⟨x5, x6, x7, x8, x9, rfl, s4, e4, k4, f0, d4, v4⟩
    rw [lbs, List.take_length] at d4 v4
    exact ⟨_, rfl, q p H4 s4 ⟨f0, d4, v4⟩⟩
end K19
set_option maxHeartbeats 4000000
namespace K19
open PySem PySem.Spec PyProof.Rows L2
def aT (n k : Nat) : List Thg := (List.range n).flatMap fun v => (List.range k).map fun j => (v, j)
theorem aT_succ (n k : Nat) : aT (n + 1) k = aT n k ++ (List.range k).map fun j => (n, j) := by
  unfold aT; rw [List.range_succ, List.flatMap_append]; simp
theorem mem_aT {n k : Nat} {t : Thg} : t ∈ aT n k ↔ t.1 < n ∧ t.2 < k := by
  unfold aT
  rw [List.mem_flatMap]
  constructor
  · rintro ⟨v, h1, h2⟩
    obtain ⟨j, h3, rfl⟩ := List.mem_map.mp h2
    exact ⟨List.mem_range.mp h1, List.mem_range.mp h3⟩
  · rintro ⟨h1, h2⟩
    exact ⟨t.1, List.mem_range.mpr h1, List.mem_map.mpr ⟨t.2, List.mem_range.mpr h2, rfl⟩⟩
/-- all([need in found for need in needs(..)]) -/
theorem rd_all {P : Program} {w : World} {K : PySem.W.Frag} {CB CW : Addr} {a b c d i j : Nat} {s : Str} {va vb vc vd : V} {σ : L2.St} {H : Hp} {Q : VK} {bk : Bk} {W : List Vl} {t : Thg} {y : Wy} {p : Addr} {ts : List Thg} {f : Thg → V} {E : XK}
    (ha : σ[a]? = some (some va)) (hb : σ[b]? = some (some vb)) (hc : σ[c]? = some (some vc)) (hd : σ[d]? = some (some vd)) (hj : σ[j]? = some (some (.ref p))) (hi : i < σ.length) (hij : j ≠ i)
    (okb : bk.Ok) (okW : WbOk bk W) (nB : Nk H va (eB bk)) (nW : Nk H vb (eWb W)) (nt : Nk H vc (eT t)) (ny : Nk H vd (eW y)) (ok : WyOk bk W t y) (dm : DM P w H p eT ts f) (q : ∀ H', Same H H' → Q (.bl (usab bk W ts t y)) H') :
    tCB (rAll K) (tCons (tLc (iList K (tCall (sp_law_needs P w K CB CW) [] E (tCons (tVar a) (tCons (tVar b) (tCons (tVar c) (tCons (tVar d) tNil)))))) (gName i) tYes (tNIn P w (tVar i) (tVar j)) (List.map (fun x : Str × Nat => x.2) [(s, i)])) tNil) σ H Q := by
  refine ⟨_, ha, _, hb, _, hc, _, hd, _, _, _, _, rfl, bk, W, t, y, nB, nW, nt, ny, ok, fun r H1 s1 hl => ?_⟩
  obtain ⟨l, xs, rfl, el, nl⟩ := hl
  have hlen : xs.length = (needsT bk W t y).length := by rw [nl.length, List.length_map]
  have hl2 := needs_len okb okW ok
  refine ⟨l, rfl, ⟨_, .of el⟩, ?_⟩
  refine lc_sm walk_list (RAll fun i => .bl (memB ((needsT bk W t y).getD i (0, 0)) ts)) (by rw [hlen]; exact Nat.le_trans hl2 (by decide)) (fun _ _ _ _ _ r => r) (fun _ _ _ r => r.len) (fun H2 s => .of (s _ _ el)) rfl ?_ ?_
  · rintro m x acc H2 H3 Kd Kn hm s3 r kd kn ⟨rfl, hx⟩
    obtain ⟨k, hk, nx⟩ := nl.get' hx
    obtain ⟨n, hn, rfl⟩ := gmap' hk
    have e0 : ((σ.set i none).set i (some x))[i]? = some (some x) := by rw [List.getElem?_set_self (by rw [List.length_set]; exact hi)]
    have e1 : ((σ.set i none).set i (some x))[j]? = some (some (.ref p)) := by rw [List.getElem?_set_ne (Ne.symm hij), List.getElem?_set_ne (Ne.symm hij)]; exact hj
    refine ⟨?_, yes ⟨_, e0, _, e1, p, _, rfl, (dm.same (smT s1 s3)).nget encT (nx.keep (.of s3)), ?_⟩⟩
    · show ((σ.set i none).set i (some x)).set i none = σ.set i none
      rw [List.set_set, List.set_set]
    rw [ifSome]
    refine kd _ _ (sm0 _) ?_
    have e : (needsT bk W t y).getD m (0, 0) = n := by rw [List.getD_eq_getElem?_getD, hn]; rfl
    have := RAll.step (f := fun i => V.bl (memB ((needsT bk W t y).getD i (0, 0)) ts)) (H' := H3) r
    rw [← e]; exact this
  · intro acc H2 p2 s2 ep np r
    refine ⟨p2, _, rfl, .of (by rw [ep, r.bl]), ?_⟩
    rw [hlen, all_at (needsT bk W t y) (fun n => memB n ts)]
    exact q _ (smT s1 s2)
theorem rd_allS {P : Program} {w : World} {K : PySem.W.Frag} {CB CW : Addr} {a b c d i j : Nat} {s : Str} {va vb vc vd : V} {σ : L2.St} {H : Hp} {bk : Bk} {W : List Vl} {t : Thg} {y : Wy} {p : Addr} {ts : List Thg} {f : Thg → V} {E : XK} {D : Ends} {t1 t2 : TS}
    (ha : σ[a]? = some (some va)) (hb : σ[b]? = some (some vb)) (hc : σ[c]? = some (some vc)) (hd : σ[d]? = some (some vd)) (hj : σ[j]? = some (some (.ref p))) (hi : i < σ.length) (hij : j ≠ i)
    (okb : bk.Ok) (okW : WbOk bk W) (nB : Nk H va (eB bk)) (nW : Nk H vb (eWb W)) (nt : Nk H vc (eT t)) (ny : Nk H vd (eW y)) (ok : WyOk bk W t y) (dm : DM P w H p eT ts f) (q : ∀ H', Same H H' → if usab bk W ts t y = true then t1 D σ H' else t2 D σ H') :
    tIfS (tB (tCB (rAll K) (tCons (tLc (iList K (tCall (sp_law_needs P w K CB CW) [] E (tCons (tVar a) (tCons (tVar b) (tCons (tVar c) (tCons (tVar d) tNil)))))) (gName i) tYes (tNIn P w (tVar i) (tVar j)) (List.map (fun x : Str × Nat => x.2) [(s, i)])) tNil))) t1 t2 D σ H :=
  rd_all ha hb hc hd hj hi hij okb okW nB nW nt ny ok dm fun H' s => ⟨_, rfl, q H' s⟩
/-- what stands at each turn of the search -/
structure UlI (P : Program) (w : World) (H0 H : Hp) (bk : Bk) (W : List Vl) (pm : Addr) (mk : List Thg) (f : Thg → V) : Prop where
  s : Same H0 H
  d : DM P w H pm eT mk f
  ok : ∀ t ∈ mk, Mk bk W t
theorem UlI.len {P : Program} {w : World} {H0 H : Hp} {bk : Bk} {W : List Vl} {pm : Addr} {mk : List Thg} {f : Thg → V} (I : UlI P w H0 H bk W pm mk f) (ok : bk.Ok) (okW : WbOk bk W) : mk.length ≤ 45 := by
  have h := nodup_len (n := 9) (k := 5) (I.d.nd encT) fun u hu => by
    have := (I.ok u hu).lt
    have := okW.n
    have := ok.k2
    omega
  exact h
theorem UlI.same {P : Program} {w : World} {H0 H H' : Hp} {bk : Bk} {W : List Vl} {pm : Addr} {mk : List Thg} {f : Thg → V} (I : UlI P w H0 H bk W pm mk f) (s : Same H H') : UlI P w H0 H' bk W pm mk f := ⟨smT I.s s, I.d.same s, I.ok⟩
def sp_law_usable (P : Program) (w : World) (K : PySem.W.Frag) (CB CW : Addr) : Sp := fun vs H Q _ => ∃ a b, vs = [a, b] ∧ ∃ (bk : Bk) (W : List Vl), bk.Ok ∧ WbOk bk W ∧ Nk H a (eB bk) ∧ Nk H b (eWb W) ∧
  ∀ p H' (mk : List Thg), Same H H' → mk.Nodup → (∀ t ∈ mk, Mk bk W t) → (∀ t, t.1 < W.length → t.2 < bk.ks → ∀ y ∈ waysT bk W t, usab bk W mk t y = true → t ∈ mk) → UsAt P w H' p (srtT mk) (fun t => (waysT bk W t).filter (usab bk W mk t)) → Q (.ref p) H'
abbrev n_law_usable : List Str := ["_law_parts", "_law_values_here", "_law_giving", "_law_value", "_law_kind", "_law_some_here", "_law_at", "_law_rule", "_law_made", "_law_grown", "_law_thing", "_law_way", "_law_found", "_law_need"]
theorem sc_law_usable : FnScope n_law_usable ["_law_parts", "_law_values_here"] (defScope s_law_usable) := ⟨rfl, rfl, rfl, by decide +kernel, rfl, by decide +kernel, by decide +kernel⟩
theorem cl_law_usable {P : Program} {w : World} {K : PySem.W.Frag} {mg : Str → Option Value} {base : Heap} {CB CW : Addr} (Z : Fx K mg CB CW) : Cl P w K mg base "_law_usable" 2 ["_law_parts", "_law_values_here"] (sp_law_usable P w K CB CW) := by
  refine Z.d_law_usable.cl (N := n_law_usable) (k := 1) sc_law_usable (fun vs H Q E h => by obtain ⟨_, _, rfl, _⟩ := h; rfl) (fun _ _ _ _ _ _ us hl => match us, hl with | [_, _], _ => rfl) fun f cdv A outer s H0 E0 hr => ⟨_, (pss_cons (ps_set (i := 2) sc_law_usable.nd rfl (Or.inl rfl) (qdnew (by exact ⟨rfl, rfl, rfl⟩ : At _ P w K))) (pss_cons (ps_for PassesOwn.never rfl (pi_range1 rfl Z.f_range (pa_cons (pe_callB (qlen (by exact ⟨rfl, rfl, rfl⟩ : At _ P w K)) rfl Z.f_len bt_len (pa_cons (pv 1) pa_nil)) pa_nil)) (pg_name (i := 3) sc_law_usable.nd rfl (Or.inl rfl)) (pss_one (ps_for PassesOwn.never rfl (pi_range1 rfl Z.f_range (pa_cons (pe_ix (qixT (by exact ⟨rfl, rfl, rfl⟩ : At _ P w K)) (pv 0) pe_int (fun _ _ => rfl)) pa_nil)) (pg_name (i := 4) sc_law_usable.nd rfl (Or.inr rfl)) (pss_cons (ps_setLc (i := 5) (own := [("_law_at", 6)]) rfl sc_law_usable.nd rfl rfl (sw_true rfl rfl rfl (by decide +kernel)) (pi_range1 rfl Z.f_range (pa_cons (pe_callB (qlen (by exact ⟨rfl, rfl, rfl⟩ : At _ P w K)) rfl Z.f_len bt_len (pa_cons (pe_ix (qixT (by exact ⟨rfl, rfl, rfl⟩ : At _ P w K)) (pv 0) pe_int (fun _ _ => rfl)) pa_nil)) pa_nil)) (blkOk_by (N := n_law_usable) (sc := defScope s_law_usable) (by decide +kernel)) (fun _ _ _ _ _ => (pg_name (i := 6) sc_law_usable.nd rfl (by first | exact Or.inl rfl | exact Or.inr rfl))) (fun _ _ _ _ _ => (pts_one (pt_cmpR op_eq (pe_ix (qixT (by exact ⟨rfl, rfl, rfl⟩ : At _ P w K)) (pe_ix (qixT (by exact ⟨rfl, rfl, rfl⟩ : At _ P w K)) (pe_ix (qixT (by exact ⟨rfl, rfl, rfl⟩ : At _ P w K)) (pv 0) pe_int (fun _ _ => rfl)) (pv 6) (fun _ _ => rfl)) pe_int (fun _ _ => rfl)) (pv 4) (nomark _)))) (fun _ _ _ _ _ => (pe_tup (pa_cons pe_str (pa_cons (pv 6) pa_nil))))) (pss_cons (ps_for PassesOwn.never rfl (qpiE (by exact ⟨rfl, rfl, rfl⟩ : At _ P w K) rfl Z.f_enumerate (pa_cons (pe_ix (qixT (by exact ⟨rfl, rfl, rfl⟩ : At _ P w K)) (pv 0) pe_int (fun _ _ => rfl)) pa_nil)) (qpgT (n := 2) (by exact ⟨rfl, rfl, rfl⟩ : At _ P w K) rfl (pgs_cons (pg_name (i := 6) sc_law_usable.nd rfl (Or.inl rfl)) (pgs_cons (pg_name (i := 7) sc_law_usable.nd rfl (Or.inl rfl)) pgs_nil))) (pss_one (ps_if (pt_cmpR (qeqD (by exact ⟨rfl, rfl, rfl⟩ : At _ P w K) hr.units) (pe_tup (pa_cons (pe_ix (qixT (by exact ⟨rfl, rfl, rfl⟩ : At _ P w K)) (pv 7) pe_int (fun _ _ => rfl)) (pa_cons (pe_ix (qixT (by exact ⟨rfl, rfl, rfl⟩ : At _ P w K)) (pv 7) pe_int (fun _ _ => rfl)) pa_nil))) (pe_tup (pa_cons (pe_ix (qixT (by exact ⟨rfl, rfl, rfl⟩ : At _ P w K)) (pe_ix (qixT (by exact ⟨rfl, rfl, rfl⟩ : At _ P w K)) (pv 1) (pv 3) (fun _ _ => rfl)) pe_int (fun _ _ => rfl)) (pa_cons (pv 4) pa_nil))) (nomark _)) (pss_one (ps_expr (qbm (by exact ⟨rfl, rfl, rfl⟩ : At _ P w K) PySem.F.plainAttrs_list PySem.F.slot_list_append PySem.F.type_list_append mt_append (pv 5) (pa_cons (pe_tup (pa_cons pe_str (pa_cons (pv 6) pa_nil))) pa_nil)))) pss_nil))) (pss_one (qnput (by exact ⟨rfl, rfl, rfl⟩ : At _ P w K) hr.units (pv 2) (pe_tup (pa_cons (pv 3) (pa_cons (pv 4) pa_nil))) (pv 5) rfl))))))) (pss_cons (ps_set (i := 8) sc_law_usable.nd rfl (Or.inr rfl) (qdnew (by exact ⟨rfl, rfl, rfl⟩ : At _ P w K))) (pss_cons (ps_set (i := 9) sc_law_usable.nd rfl (Or.inl rfl) pe_bl) (pss_cons (ps_while PassesOwn.never (pt_val (pv 9)) (pss_cons (ps_set (i := 9) sc_law_usable.nd rfl (Or.inl rfl) pe_bl) (pss_one (ps_for PassesOwn.never rfl (qpiN (by exact ⟨rfl, rfl, rfl⟩ : At _ P w K) (pv 2)) (pg_name (i := 10) sc_law_usable.nd rfl (Or.inl rfl)) (pss_one (ps_for PassesOwn.never rfl (qpiL (by exact ⟨rfl, rfl, rfl⟩ : At _ P w K) (pe_ifExp (pt_cmp (qnnot (by exact ⟨rfl, rfl, rfl⟩ : At _ P w K) hr.units (pv 10) (pv 8)) rfl) (qnget (by exact ⟨rfl, rfl, rfl⟩ : At _ P w K) hr.units (pv 2) (pv 10) (fun _ _ => rfl)) (pe_lst pa_nil))) (pg_name (i := 11) sc_law_usable.nd rfl (Or.inl rfl)) (pss_one (ps_if (pt_val (pe_callB (qall (by exact ⟨rfl, rfl, rfl⟩ : At _ P w K) rfl) rfl Z.f_all bt_all (pa_cons (pe_lc (own := [("_law_need", 13)]) rfl sc_law_usable.nd (qpiL (by exact ⟨rfl, rfl, rfl⟩ : At _ P w K) (pe_cl (cl_law_needs (P := P) (w := w) (K := K) (base := base) Z) hr (by decide) rfl (pa_cons (pv 0) (pa_cons (pv 1) (pa_cons (pv 10) (pa_cons (pv 11) pa_nil)))))) (blkOk_by (N := n_law_usable) (sc := defScope s_law_usable) (by decide +kernel)) (fun _ _ _ _ _ => (pg_name (i := 13) sc_law_usable.nd rfl (by first | exact Or.inl rfl | exact Or.inr rfl))) (fun _ _ _ _ _ => pts_nil) (fun _ _ _ _ _ => (pe_cmp (qnin (by exact ⟨rfl, rfl, rfl⟩ : At _ P w K) hr.units (pv 13) (pv 8)) rfl))) pa_nil))) (pss_cons (qnput (by exact ⟨rfl, rfl, rfl⟩ : At _ P w K) hr.units (pv 8) (pv 10) pe_bl rfl) (pss_one (ps_set (i := 9) sc_law_usable.nd rfl (Or.inl rfl) pe_bl))) pss_nil)))))))) (pss_cons (ps_set (i := 12) sc_law_usable.nd rfl (Or.inl rfl) (qdnew (by exact ⟨rfl, rfl, rfl⟩ : At _ P w K))) (pss_cons (ps_for PassesOwn.never rfl (qpiL (by exact ⟨rfl, rfl, rfl⟩ : At _ P w K) (pe_callB (qsorK (by exact ⟨rfl, rfl, rfl⟩ : At _ P w K) hr.units) rfl Z.f_sorted bt_sorted (pa_cons (pe_callTy (qlstN (by exact ⟨rfl, rfl, rfl⟩ : At _ P w K) rfl) rfl Z.f_list bt_list (pa_cons (pv 8) pa_nil)) pa_nil))) (pg_name (i := 10) sc_law_usable.nd rfl (Or.inl rfl)) (pss_cons (qnput (by exact ⟨rfl, rfl, rfl⟩ : At _ P w K) hr.units (pv 12) (pv 10) (pe_lst pa_nil) rfl) (pss_one (ps_for PassesOwn.never rfl (qpiL (by exact ⟨rfl, rfl, rfl⟩ : At _ P w K) (qnget (by exact ⟨rfl, rfl, rfl⟩ : At _ P w K) hr.units (pv 2) (pv 10) (fun _ _ => rfl))) (pg_name (i := 11) sc_law_usable.nd rfl (Or.inl rfl)) (pss_one (ps_if (pt_val (pe_callB (qall (by exact ⟨rfl, rfl, rfl⟩ : At _ P w K) rfl) rfl Z.f_all bt_all (pa_cons (pe_lc (own := [("_law_need", 13)]) rfl sc_law_usable.nd (qpiL (by exact ⟨rfl, rfl, rfl⟩ : At _ P w K) (pe_cl (cl_law_needs (P := P) (w := w) (K := K) (base := base) Z) hr (by decide) rfl (pa_cons (pv 0) (pa_cons (pv 1) (pa_cons (pv 10) (pa_cons (pv 11) pa_nil)))))) (blkOk_by (N := n_law_usable) (sc := defScope s_law_usable) (by decide +kernel)) (fun _ _ _ _ _ => (pg_name (i := 13) sc_law_usable.nd rfl (by first | exact Or.inl rfl | exact Or.inr rfl))) (fun _ _ _ _ _ => pts_nil) (fun _ _ _ _ _ => (pe_cmp (qnin (by exact ⟨rfl, rfl, rfl⟩ : At _ P w K) hr.units (pv 13) (pv 8)) rfl))) pa_nil))) (pss_one (ps_expr (qbm (by exact ⟨rfl, rfl, rfl⟩ : At _ P w K) PySem.F.plainAttrs_list PySem.F.slot_list_append PySem.F.type_list_append mt_append (qnget (by exact ⟨rfl, rfl, rfl⟩ : At _ P w K) hr.units (pv 12) (pv 10) (fun _ _ => rfl)) (pa_cons (pv 11) pa_nil)))) pss_nil)))))) (pss_one (ps_ret (pv 12)))))))))), fun vs H Q E h => ?_⟩
  obtain ⟨v0, v1, rfl, h⟩ := h
  obtain ⟨bk, W, okb, okW, nB, nW, q⟩ := h
  have hk1 := okb.k1
  have hk2 := okb.k2
  have hWn := okW.n
  obtain ⟨o, xa, xr, xm, rfl, eB, na, nr, nm⟩ := nB.parts
  obtain ⟨wb, ws, rfl, eWs, rW⟩ := id nW.tupE
  obtain ⟨am, ms, rfl, em, rm⟩ := nm.tupE
  obtain ⟨ar, rs, rfl, er, rr⟩ := nr.tupE
  have hlm : ms.length = bk.ms.length := by rw [rm.length, List.length_map]
  have hlr : rs.length = bk.rs.length := by rw [rr.length, List.length_map]
  have hlW : ws.length = W.length := by rw [rW.length, List.length_map]
  have hmn := okb.mn
  have hrn := okb.rn
  intro pg H1 npg b1 d1
  have s1 := b1.same npg
  refine ⟨_, rfl, _, _, rfl, (nW.keep (.of s1)).lenV, _, rfl, by omega, by rw [List.length_map]; omega, ?_⟩
  rw [List.length_map, Int.toNat_natCast]
  refine for_it walk_r0 (fun i σ H2 => ∃ x3 x4 x5 x6 x7 x8 x9 x10 x11 x12 x13, σ = [some (.ref o), some (.ref wb), some (.ref pg), x3, x4, x5, x6, x7, x8, x9, x10, x11, x12, x13] ∧ Same H H2 ∧ ∃ g, DM P w H2 pg eT (aT i bk.ks) g ∧ ∀ t ∈ aT i bk.ks, LsK H2 (g t) ((waysT bk W t).map eW)) ⟨none, none, none, none, none, none, none, none, none, none, none, rfl, s1, fun _ => .non, d1, fun _ h => nomatch h⟩ (fun _ _ _ _ _ => trivial) ?_ ?_
  · rintro v x σ H2 H3 hv ⟨x3, x4, x5, x6, x7, x8, x9, x10, x11, x12, x13, rfl, s2, g2, d2, l2⟩ ⟨rfl, rfl⟩
    refine ⟨_, rfl, _, _, _, _, rfl, rfl, .of (s2 _ _ eB), rfl, _, rfl, by omega, by omega, ?_⟩
    rw [Int.toNat_natCast]
    refine for_it walk_r0 (fun i σ H4 => ∃ x4 x5 x6 x7 x8 x9 x10 x11 x12 x13, σ = [some (.ref o), some (.ref wb), some (.ref pg), some (.int (v : Nat)), x4, x5, x6, x7, x8, x9, x10, x11, x12, x13] ∧ Same H H4 ∧ ∃ g, DM P w H4 pg eT (aT v bk.ks ++ (List.range i).map fun j => (v, j)) g ∧ ∀ t ∈ aT v bk.ks ++ (List.range i).map (fun j => (v, j)), LsK H4 (g t) ((waysT bk W t).map eW)) ⟨_, _, _, _, _, _, _, _, _, _, rfl, s2, g2, by simpa using d2, by simpa using l2⟩ (fun _ _ _ _ _ => trivial) ?_ ?_
    · rintro k x σ H4 H5 hk ⟨x4, x5, x6, x7, x8, x9, x10, x11, x12, x13, rfl, s4, g4, d4, l4⟩ ⟨rfl, rfl⟩
      have hvl := vl_at (W := W) (t := (v, k)) hv
      obtain ⟨uv, hu1, hu2⟩ := rW.get (gmap hvl)
      obtain ⟨dv, xv, rfl, edv, nxv⟩ := hu2.vl
      have hls : (aT v bk.ks ++ (List.range k).map fun j => (v, j)).length < sizeLine := by
        have := nodup_len (n := 9) (k := 5) (d4.nd encT) fun u hu => by
          rcases List.mem_append.mp hu with h | h
          · have := mem_aT.mp h; omega
          · obtain ⟨j, hj, rfl⟩ := List.mem_map.mp h
            have := List.mem_range.mp hj
            exact ⟨by show v < 9; omega, by show j < 5; omega⟩
        exact Nat.lt_of_le_of_lt (show _ ≤ 45 by omega) (by decide)
      have nw : (v, k) ∉ aT v bk.ks ++ (List.range k).map fun j => (v, j) := fun z => by
        rcases List.mem_append.mp z with h | h
        · have := (mem_aT.mp h).1; exact Nat.lt_irrefl _ this
        · obtain ⟨j, hj, e⟩ := List.mem_map.mp h
          have := List.mem_range.mp hj
          have : j = k := congrArg (·.2) e
          omega
      refine ⟨_, rfl, _, _, _, _, rfl, rfl, .of (s4 _ _ eB), rfl, _, _, rfl, (nm.keep (.of s4)).lenV, _, rfl, by omega, by rw [List.length_map]; omega, ?_⟩
      rw [List.length_map, Int.toNat_natCast]
      refine lc_sm walk_r0 (fun i acc H6 => NkA H6 acc ((mvs bk k i).map eW)) (Nat.le_trans hmn (by decide)) (fun i acc H2 H3 t r => r.keep t) (fun i acc H2 r => ?_) (fun _ _ => trivial) .nil ?_ ?_
      · rw [r.length, List.length_map]; exact mvs_len _ _ _
      · rintro i x acc H6 H7 Kd Kn hi s6 r kd kn ⟨rfl, rfl⟩
        have s07 := smT s4 s6
        obtain ⟨m, hm⟩ : ∃ m, bk.ms[i]? = some m := ⟨_, getI hi⟩
        obtain ⟨z, hz1, hz2⟩ := rm.get (gmap hm)
        obtain ⟨d, rfl, ed⟩ := hz2.mv
        refine ⟨rfl, ?_⟩
        refine ⟨_, rfl, _, _, _, _, rfl, rfl, .of (s07 _ _ eB), rfl, _, rfl, _, _, _, _, rfl, rfl, .of (s07 _ _ em), atI_nat hz1, _, _, _, _, rfl, rfl, .of (s07 _ _ ed), rfl, _, rfl, rfl, _, rfl, ?_⟩
        have pm : pM bk k i = decide (m.to = k) := by unfold pM; rw [hm]
        have e : decide (V.int (m.to : Nat) = V.int (k : Nat)) = pM bk k i := by
          rw [pm]
          exact decide_eq_decide.mpr ⟨fun z => by have := V.int.inj z; omega, fun z => by rw [z]⟩
        show if decide (V.int (m.to : Nat) = V.int (k : Nat)) = true then _ else _
        rw [e]
        refine iteB (fun hp => ⟨_, rfl, by show 2 ≤ sizeLine; decide, fun p np => kd _ _ (same_upd np) ?_⟩) (fun hp => kn _ (sm0 _) ?_)
        · rw [mvs_succ, if_pos hp, List.map_append]
          exact NkA.snoc (.ofWy (t := (false, i)) upd_same) (r.keep (.of (same_upd np)))
        · rw [mvs_succ, if_neg (bfl hp), List.append_nil]
          exact r
      intro acc H6 p s6 ep np r
      have s06 := smT s4 s6
      refine ⟨_, rfl, _, _, _, _, rfl, rfl, .of (s06 _ _ eB), rfl, ar, rs, rfl, .of (s06 _ _ er), ?_⟩
      refine for_it walk_enumT (fun i σ H7 => ∃ x6 x7 x8 x9 x10 x11 x12 x13, σ = [some (.ref o), some (.ref wb), some (.ref pg), some (.int (v : Nat)), some (.int (k : Nat)), some (.ref p), x6, x7, x8, x9, x10, x11, x12, x13] ∧ Same H5 H7 ∧ ∃ zs, H7 p = some (.lst zs) ∧ NkA H7 zs ((mvs bk k bk.ms.length ++ rls bk (vlOf W (v, k)).1 k i).map eW)) ⟨_, _, _, _, _, _, _, _, rfl, s6, acc, ep, ?_⟩ (fun i σ H7 _ ⟨_, _, _, _, _, _, _, _, _, s, _⟩ => .of (s _ _ (s4 _ _ er))) ?_ ?_
      · have : rls bk (vlOf W (v, k)).1 k 0 = [] := rfl
        rw [this, List.append_nil]; exact r
      · rintro i x σ H7 H8 hi ⟨x6, x7, x8, x9, x10, x11, x12, x13, rfl, s7, zs, ez, rz⟩ ⟨T, u, z, rfl, nT, rfl, hu, hz⟩
        obtain rfl := Option.some.inj hu
        obtain ⟨kk, hk', nz⟩ := rr.get' hz
        obtain ⟨rl, hr, rfl⟩ := gmap' hk'
        obtain ⟨d, x2, rfl, ed, nx2⟩ := nz.rl
        have sT : Same H7 (upd H7 T (.tup [.int (i : Nat), .ref d])) := same_upd nT
        have s8 := smT s7 sT
        have s08 := smT s4 s8
        refine ⟨T, _, rfl, .of upd_same, rfl, _, _, rfl, _, _, rfl, rfl, ?_⟩
        generalize upd H7 T (.tup [.int (i : Nat), .ref d]) = H8 at sT s8 s08 ⊢
        refine ⟨_, rfl, _, _, _, _, rfl, rfl, .of (s08 _ _ ed), rfl, _, rfl, _, _, _, _, rfl, rfl, .of (s08 _ _ ed), rfl, by show 2 ≤ sizeLine; decide, fun qa nqa => ?_⟩
        have sa : Same H8 (upd H8 qa (.tup [.int (rl.op : Nat), .int (rl.tgt : Nat)])) := same_upd nqa
        have ta : Nk (upd H8 qa (.tup [.int (rl.op : Nat), .int (rl.tgt : Nat)])) (.ref qa) (eT (rl.op, rl.tgt)) := .ofTh (t := (rl.op, rl.tgt)) upd_same
        generalize upd H8 qa (.tup [.int (rl.op : Nat), .int (rl.tgt : Nat)]) = H9 at sa ta ⊢
        have s09 := smT s08 sa
        refine ⟨_, rfl, _, rfl, _, _, _, _, rfl, rfl, .of (s09 _ _ eWs), atI_nat hu1, _, _, _, _, rfl, rfl, .of (s09 _ _ edv), rfl, _, rfl, by show 2 ≤ sizeLine; decide, fun qb nqb => ?_⟩
        have sb : Same H9 (upd H9 qb (.tup [.int ((vlOf W (v, k)).1 : Nat), .int (k : Nat)])) := same_upd nqb
        have tb : Nk (upd H9 qb (.tup [.int ((vlOf W (v, k)).1 : Nat), .int (k : Nat)])) (.ref qb) (eT ((vlOf W (v, k)).1, k)) := .ofTh (t := ((vlOf W (v, k)).1, k)) upd_same
        generalize upd H9 qb (.tup [.int ((vlOf W (v, k)).1 : Nat), .int (k : Nat)]) = H10 at sb tb ⊢
        have s710 := smT sT (smT sa sb)
        have s510 := smT s7 s710
        refine ⟨_, _, (ta.keep (.of sb)).dp, tb.dp, shp1 (lay_T _), shp1 (lay_T _), _, rfl, ?_⟩
        rw [eqv_T]
        have pr : pR bk (vlOf W (v, k)).1 k i = decide ((rl.op, rl.tgt) = ((vlOf W (v, k)).1, k)) := by
          unfold pR; rw [hr]
          show (decide (rl.op = (vlOf W (v, k)).1) && decide (rl.tgt = k)) = _
          rw [Bool.eq_iff_iff, Bool.and_eq_true, decide_eq_true_iff, decide_eq_true_iff, decide_eq_true_iff, Prod.mk.injEq]
        rw [← pr]
        have ez10 := s710 _ _ ez
        refine iteB (fun hp => ?_) (fun hp => ?_)
        · refine ⟨_, rfl, tyL ez10, _, rfl, by show 2 ≤ sizeLine; decide, fun p2 np2 => ?_⟩
          have s11 : Same H10 (upd H10 p2 (.tup [.str "rule", .int (i : Nat)])) := same_upd np2
          have ez11 := s11 _ _ ez10
          refine ⟨p, zs, _, rfl, rfl, ez11, ?_, _, _, _, _, _, _, _, _, rfl, smU np (smT s510 s11), _, upd_same, ?_⟩
          · rw [rz.length, List.length_map, List.length_append]
            have := mvs_len bk k bk.ms.length
            have := rls_len bk (vlOf W (v, k)).1 k i
            have : i < 40 := by omega
            exact Nat.lt_of_le_of_lt (show _ ≤ 60 by omega) (by decide)
          · rw [rls_succ, if_pos hp, ← List.append_assoc, List.map_append]
            have kt := chkpt (ys := zs ++ [V.ref p2]) ez11
            exact NkA.snoc (.ofWy (t := (true, i)) (kt _ _ upd_same)) ((rz.keep (.of (smT s710 s11))).keep kt)
        · refine ⟨_, _, _, _, _, _, _, _, rfl, s510, zs, ez10, ?_⟩
          rw [rls_succ, if_neg (bfl hp), List.append_nil]
          exact rz.keep (.of s710)
      · rintro σ H7 ⟨x6, x7, x8, x9, x10, x11, x12, x13, rfl, s7, zs, ez, rz⟩
        rw [hlr] at rz
        have rz : NkA H7 zs ((waysT bk W (v, k)).map eW) := rz
        refine ⟨_, rfl, _, rfl, _, rfl, _, rfl, by show 2 ≤ sizeLine; decide, fun qk nqk => ?_⟩
        have sk : Same H7 (upd H7 qk (.tup [.int (v : Nat), .int (k : Nat)])) := same_upd nqk
        have s5k := smT s7 sk
        have dk := d4.same s5k
        have ezk := sk _ _ ez
        refine dk.nput encT (t := (v, k)) hls (.ofTh (t := (v, k)) upd_same) fun H9 b9 d9 => ?_
        rw [insL_new nw] at d9
        refine ⟨_, _, _, _, _, _, _, _, _, _, rfl, smB npg (smT s4 s5k) b9, updF g4 (v, k) (.ref p), ?_, fun t ht => ?_⟩
        · rw [List.range_succ, List.map_append, ← List.append_assoc]; exact d9
        · rw [List.range_succ, List.map_append, ← List.append_assoc] at ht
          unfold updF
          by_cases e : t = (v, k)
          · rw [if_pos e, e]
            exact LsK.but ⟨p, zs, rfl, ezk, rz.keep (.of sk)⟩ dk b9
          · rw [if_neg e]
            rcases List.mem_append.mp ht with h | h
            · exact LsK.but ((l4 t h).same s5k) dk b9
            · exact absurd (List.mem_singleton.mp h) e
    · rintro σ H4 ⟨x4, x5, x6, x7, x8, x9, x10, x11, x12, x13, rfl, s4, g4, d4, l4⟩
      rw [← aT_succ] at d4 l4
      exact ⟨_, _, _, _, _, _, _, _, _, _, _, rfl, s4, g4, d4, l4⟩
  · rintro σ H2 ⟨x3, x4, x5, x6, x7, x8, x9, x10, x11, x12, x13, rfl, s2, g, d, gl⟩
    intro pm H3 npm b3 d3
    have s23 := b3.same npm
    have pgm : pg ≠ pm := fun z => by obtain ⟨φ, e⟩ := d.ext; rw [z, npm] at e; cases e
    have allU : ∀ t, t ∈ aT W.length bk.ks ↔ t.1 < W.length ∧ t.2 < bk.ks := fun t => mem_aT
    refine ⟨fun m σ H4 => ∃ mk f gr x3 x4 x5 x6 x7 x10 x11 x12 x13, σ = [some (.ref o), some (.ref wb), some (.ref pg), x3, x4, x5, x6, x7, some (.ref pm), some (.bl gr), x10, x11, x12, x13] ∧ UlI P w H2 H4 bk W pm mk f ∧ (gr = false → ∀ t ∈ aT W.length bk.ks, t ∉ mk → ∀ y ∈ waysT bk W t, usab bk W mk t y = false) ∧ m = (45 - mk.length) * 2 + (if gr = true then 1 else 0),
      ⟨_, [], fun _ => .non, true, _, _, _, _, _, _, _, _, _, rfl, ⟨s23, d3, fun _ h => nomatch h⟩, fun z => (nomatch z), rfl⟩, ?_⟩
    rintro m σ H4 ⟨mk, f, gr, x3, x4, x5, x6, x7, x10, x11, x12, x13, rfl, I, cl, rfl⟩
    have hmk := I.len okb okW
    refine ⟨_, rfl, _, rfl, ?_⟩
    cases gr with
    | true =>
      refine iteT ⟨fun σ' H' => ∃ m', m' < (45 - mk.length) * 2 + (if true = true then 1 else 0) ∧ ∃ mk f gr x3 x4 x5 x6 x7 x10 x11 x12 x13, σ' = [some (.ref o), some (.ref wb), some (.ref pg), x3, x4, x5, x6, x7, some (.ref pm), some (.bl gr), x10, x11, x12, x13] ∧ UlI P w H2 H' bk W pm mk f ∧ (gr = false → ∀ t ∈ aT W.length bk.ks, t ∉ mk → ∀ y ∈ waysT bk W t, usab bk W mk t y = false) ∧ m' = (45 - mk.length) * 2 + (if gr = true then 1 else 0), fun σ' H' ⟨m', h1, h2⟩ => ⟨m', h1, h2⟩, ?_⟩
      have d4 := d.same I.s
      refine ⟨_, rfl, pg, _, rfl, d4, fun φ bs hφ pbs => ?_⟩
      have nb := nk_paired pbs
      have lbs : bs.length = (aT W.length bk.ks).length := by rw [← Paired.length pbs, List.length_map]
      refine for_it walk_n (fun i σ H5 => ∃ mk' f' gr' x3 x4 x5 x6 x7 x10 x11 x12 x13, σ = [some (.ref o), some (.ref wb), some (.ref pg), x3, x4, x5, x6, x7, some (.ref pm), some (.bl gr'), x10, x11, x12, x13] ∧ UlI P w H2 H5 bk W pm mk' f' ∧ H5 pg = some φ ∧ KpT H4 H5 ∧ (gr' = true → mk.length < mk'.length) ∧ (gr' = false → mk' = mk ∧ ∀ t ∈ (aT W.length bk.ks).take i, t ∉ mk → ∀ y ∈ waysT bk W t, usab bk W mk t y = false))
        ⟨mk, f, false, _, _, _, _, _, _, _, _, _, rfl, I, hφ, KpT.refl _, (fun z => nomatch z), fun _ => ⟨rfl, fun _ h => nomatch h⟩⟩ (fun i σ H5 _ ⟨_, _, _, _, _, _, _, _, _, _, _, _, _, _, e, _⟩ => e) ?_ ?_
      · rintro i x σ H5 H6 hi ⟨mk', f', gr', x3, x4, x5, x6, x7, x10, x11, x12, x13, rfl, I5, e5, k5, g1, g2⟩ ⟨rfl, b, hb, rfl⟩
        obtain ⟨t, ht⟩ : ∃ t, (aT W.length bk.ks)[i]? = some t := ⟨_, getI (by omega)⟩
        obtain ⟨x', hx', nt0⟩ := nb.get (gmap ht)
        obtain rfl : x' = .ref b := by rw [List.getElem?_map, hb] at hx'; exact (Option.some.inj hx').symm
        have nt := nt0.keep k5
        have htA := List.mem_of_getElem? ht
        obtain ⟨ht1, ht2⟩ := (allU t).mp htA
        refine ⟨_, rfl, _, rfl, pm, _, rfl, I5.d.nget encT nt, _, rfl, ?_⟩
        rw [ifSome]
        by_cases htm : t ∈ mk'
        · rw [memB_t htm]
          refine iteF ⟨Nat.zero_le _, fun ql nql => ⟨ql, rfl, ⟨_, .of upd_same⟩, ?_⟩⟩
          have sq : Same H6 (upd H6 ql (.lst [])) := same_upd nql
          refine for_it (walk_list (xs := [])) (fun j σ H7 => σ = [some (.ref o), some (.ref wb), some (.ref pg), x3, x4, x5, x6, x7, some (.ref pm), some (.bl gr'), some (.ref b), x11, x12, x13] ∧ H7 = upd H6 ql (.lst [])) ⟨rfl, rfl⟩ (fun j σ H7 _ ⟨_, e⟩ => .of (by rw [e]; exact upd_same)) (fun i x σ H H' hi => absurd hi (Nat.not_lt_zero _)) ?_
          rintro σ H7 ⟨rfl, rfl⟩
          refine ⟨mk', f', gr', _, _, _, _, _, _, _, _, _, rfl, I5.same sq, sq _ _ e5, k5.trans (.of sq), g1, fun z => ?_⟩
          obtain ⟨h1, h2⟩ := g2 z
          refine ⟨h1, fun u hu => ?_⟩
          have e := take_snoc (f := fun z : Thg => z) ht
          rw [List.map_id', List.map_id'] at e
          rw [e] at hu
          rcases List.mem_append.mp hu with h | h
          · exact h2 u h
          · intro hn; rw [List.mem_singleton.mp h, ← h1] at hn; exact absurd htm hn
        · rw [memB_f htm]
          obtain ⟨l, xs, el0, el, nl⟩ := (gl t htA).same I5.s
          have lxs : xs.length = (waysT bk W t).length := by rw [nl.length, List.length_map]
          refine iteT ⟨_, rfl, _, rfl, pg, _, rfl, (d.same I5.s).ngetT encT nt htA, l, el0, ⟨_, .of el⟩, ?_⟩
          refine for_it walk_list (fun j σ H7 => ∃ mk2 f2 gr2 x11 x13, σ = [some (.ref o), some (.ref wb), some (.ref pg), x3, x4, x5, x6, x7, some (.ref pm), some (.bl gr2), some (.ref b), x11, x12, x13] ∧ UlI P w H2 H7 bk W pm mk2 f2 ∧ H7 pg = some φ ∧ KpT H6 H7 ∧ H7 l = some (.lst xs) ∧ (gr2 = true → mk.length < mk2.length) ∧ (t ∈ mk2 → gr2 = true) ∧ (gr2 = false → gr' = false ∧ mk2 = mk' ∧ ∀ y ∈ (waysT bk W t).take j, usab bk W mk' t y = false))
            ⟨mk', f', gr', _, _, rfl, I5, e5, KpT.refl _, el, g1, fun z => absurd z htm, fun z => ⟨z, rfl, fun _ h => nomatch h⟩⟩ (fun j σ H7 _ ⟨_, _, _, _, _, _, _, _, _, e, _⟩ => .of e) ?_ ?_
          · rintro j z σ H7 H8 hj ⟨mk2, f2, gr2, x11, x13, rfl, I7, e7, k7, el7, q1, q2, q3⟩ ⟨rfl, hz⟩
            obtain ⟨kk, hk', ny0⟩ := nl.get' hz
            obtain ⟨y, hy, rfl⟩ := gmap' hk'
            have ny := ny0.keep k7
            have nt7 := nt.keep k7
            have hyW := List.mem_of_getElem? hy
            have wyok := mem_waysT okb okW ht1 hyW
            have s07 := smT s2 I7.s
            dsimp only [gName]
            refine rd_allS (a := 0) (b := 1) (c := 10) (d := 11) (j := 8) (i := 13) rfl rfl rfl rfl rfl (by show 13 < 14; decide) (by decide) okb okW (nB.keep (.of s07)) (nW.keep (.of s07)) nt7 ny wyok I7.d fun H9 s9 => ?_
            have I9 := I7.same s9
            refine iteB (fun hu => ?_) (fun hu => ?_)
            · have lm : mk2.length < sizeLine := Nat.lt_of_le_of_lt (I9.len okb okW) (by decide)
              refine ⟨_, rfl, _, rfl, I9.d.nput encT (t := t) lm (nt7.keep (.of s9)) fun H10 b10 d10 => ?_⟩
              have kb : KpT H9 H10 := b10.kpt (Dc.ntup I9.d)
              have hMk : Mk bk W t := .mk ht1 ht2 hyW fun n hn => I9.ok n (memB_iff.mp (List.all_eq_true.mp hu n hn))
              refine ⟨insL mk2 t, _, true, _, _, rfl, ⟨smB npm I9.s b10, d10, fun u hu' => ?_⟩, ?_, (k7.trans (.of s9)).trans kb, ?_, fun _ => ?_, fun _ => rfl, fun z => nomatch z⟩
              · rcases mem_insL.mp hu' with h | h
                · exact I9.ok u h
                · rw [h]; exact hMk
              · rw [b10 _ pgm]; exact s9 _ _ e7
              · rw [b10 _ (fun z => by obtain ⟨φ', e'⟩ := I7.d.ext; rw [z, e'] at el7; cases el7)]; exact s9 _ _ el7
              · by_cases hm2 : t ∈ mk2
                · rw [insL_old hm2]; exact q1 (q2 hm2)
                · rw [insL_new hm2, List.length_append, List.length_singleton]
                  cases hg : gr2 with
                  | true => have := q1 hg; omega
                  | false =>
                    obtain ⟨h1, h2, _⟩ := q3 hg
                    rw [h2, (g2 h1).1]; omega
            · refine ⟨mk2, f2, gr2, _, _, rfl, I9, s9 _ _ e7, k7.trans (.of s9), s9 _ _ el7, q1, q2, fun z => ?_⟩
              obtain ⟨h1, h2, h3⟩ := q3 z
              refine ⟨h1, h2, fun y' hy' => ?_⟩
              have e := take_snoc (f := fun z : Wy => z) hy
              rw [List.map_id', List.map_id'] at e
              rw [e] at hy'
              rcases List.mem_append.mp hy' with h | h
              · exact h3 y' h
              · rw [List.mem_singleton.mp h, ← h2]; exact hu
          · rintro σ H7 ⟨mk2, f2, gr2, x11, x13, rfl, I7, e7, k7, el7, q1, q2, q3⟩
            rw [lxs, List.take_length] at q3
            refine ⟨mk2, f2, gr2, _, _, _, _, _, _, _, _, _, rfl, I7, e7, k5.trans k7, q1, fun z => ?_⟩
            obtain ⟨h1, h2, h3⟩ := q3 z
            obtain ⟨h4, h5⟩ := g2 h1
            refine ⟨h2.trans h4, fun u hu hn => ?_⟩
            have e := take_snoc (f := fun z : Thg => z) ht
            rw [List.map_id', List.map_id'] at e
            rw [e] at hu
            rcases List.mem_append.mp hu with h | h
            · exact h5 u h hn
            · rw [List.mem_singleton.mp h, ← h4]; exact h3
      · rintro σ H5 ⟨mk', f', gr', x3, x4, x5, x6, x7, x10, x11, x12, x13, rfl, I5, e5, k5, g1, g2⟩
        rw [lbs, List.take_length] at g2
        have hmk' := I5.len okb okW
        refine ⟨_, ?_, mk', f', gr', _, _, _, _, _, _, _, _, _, rfl, I5, fun z => ?_, rfl⟩
        · cases gr' with
          | true => have := g1 rfl; simp; omega
          | false => rw [(g2 rfl).1]; simp
        · rw [(g2 z).1]; exact (g2 z).2
    | false =>
      refine iteF ?_
      have cl := cl rfl
      intro pf H5 npf b5 d5
      have s45 := b5.same npf
      have npf2 : H2 pf = none := none_back I.s npf
      have npf0 : H pf = none := none_back s2 npf2
      have d5m := I.d.same s45
      refine ⟨_, rfl, pm, _, rfl, d5m, fun pl bs npl pbs => ?_⟩
      have sl : Same H5 (upd H5 pl (.lst (bs.map V.ref))) := same_upd npl
      have nbl := (nk_paired pbs).keep (.of sl)
      refine ⟨pl, _, _, rfl, .of upd_same, nbl.paired, srt_T (Nat.le_trans hmk (by decide)), fun ps ys nps pys => ?_⟩
      rw [ksort_T] at pys
      have ss : Same H5 (upd (upd H5 pl (.lst (bs.map V.ref))) ps (.lst ys)) := smT sl (same_upd nps)
      have nys := (NkA.of pys).keep (.of (same_upd (o := .lst ys) nps))
      have eps : (upd (upd H5 pl (.lst (bs.map V.ref))) ps (.lst ys)) ps = some (.lst ys) := upd_same
      generalize upd (upd H5 pl (.lst (bs.map V.ref))) ps (.lst ys) = Hq at ss nys eps ⊢
      have s2q : Same H2 Hq := smT I.s (smT s45 ss)
      have dfq : DM P w Hq pf eT [] (fun _ => .non) := (show DM P w H5 pf eT [] (fun _ => .non) from d5).same ss
      have dmq := d5m.same ss
      have perm := srtT_perm mk
      have ndm : mk.Nodup := I.d.nd encT
      have ndS : (srtT mk).Nodup := perm.nodup_iff.mpr ndm
      have lys : ys.length = (srtT mk).length := by rw [nys.length, List.length_map]
      obtain ⟨φf, hφf⟩ := dfq.ext
      have pspf : ps ≠ pf := fun z => by rw [z, hφf] at eps; cases eps
      have ntf : ∀ zs, Hq pf ≠ some (.tup zs) := fun zs z => by rw [hφf] at z; cases z
      have pgf : pg ≠ pf := fun z => by obtain ⟨φ, e⟩ := d.ext; rw [z, npf2] at e; cases e
      have mpf : pm ≠ pf := fun z => by obtain ⟨φ, e⟩ := I.d.ext; rw [z, npf] at e; cases e
      refine ⟨ps, rfl, ⟨_, .of eps⟩, ?_⟩
      refine for_it walk_list (fun i σ H6 => ∃ x3 x4 x5 x6 x7 x10 x11 x13, σ = [some (.ref o), some (.ref wb), some (.ref pg), x3, x4, x5, x6, x7, some (.ref pm), some (.bl false), x10, x11, some (.ref pf), x13] ∧ Same H2 H6 ∧ Ep pf Hq H6 ∧ ∃ g, DM P w H6 pf eT ((srtT mk).take i) g ∧ ∀ t ∈ (srtT mk).take i, LsK H6 (g t) (((waysT bk W t).filter (usab bk W mk t)).map eW))
        ⟨_, _, _, _, _, _, _, _, rfl, s2q, Ep.refl _ _, fun _ => .non, dfq, fun _ h => nomatch h⟩ (fun i σ H6 _ ⟨_, _, _, _, _, _, _, _, _, _, e, _⟩ => .of (e _ _ pspf eps)) ?_ ?_
      · rintro i x σ H6 Hb hi ⟨x3, x4, x5, x6, x7, x10, x11, x13, rfl, s6, ep6, g6, d6, l6⟩ ⟨rfl, hx⟩
        obtain ⟨kk, hk', nx0⟩ := nys.get' hx
        obtain ⟨t, ht, rfl⟩ := gmap' hk'
        have nt := nx0.keep (ep6.kpt ntf)
        have htS := List.mem_of_getElem? ht
        obtain ⟨ht1, ht2⟩ := (I.ok t (perm.mem_iff.mp htS)).lt
        have htA := (allU t).mpr ⟨ht1, ht2⟩
        have lt6 : ((srtT mk).take i).length < sizeLine := Nat.lt_of_le_of_lt (Nat.le_trans (List.length_take_le' _ _) (by rw [perm.length_eq]; exact hmk)) (by decide)
        refine ⟨Nat.zero_le _, fun l nl0 => ⟨_, rfl, _, rfl, ?_⟩⟩
        have sl6 : Same Hb (upd Hb l (.lst [])) := same_upd nl0
        refine (d6.same sl6).nput encT (t := t) lt6 (nt.keep (.of sl6)) fun H7 b7 d7 => ?_
        rw [insL_new (not_mem_take ndS ht)] at d7
        obtain ⟨φ6, hφ6⟩ := d6.ext
        have lpf : l ≠ pf := fun z => by rw [z, hφ6] at nl0; cases nl0
        have el7 : H7 l = some (.lst []) := by rw [b7 _ lpf]; exact upd_same
        have sB7 : Same H2 H7 := smB npf2 (smT s6 sl6) b7
        have epB7 : Ep pf Hb H7 := (Ep.of sl6).trans (Ep.but b7)
        have eg : updF g6 t (.ref l) t = .ref l := by unfold updF; rw [if_pos rfl]
        have ntb : ∀ zs, Hb pf ≠ some (.tup zs) := fun zs z => by rw [hφ6] at z; cases z
        have nt7 := nt.keep (epB7.kpt ntb)
        obtain ⟨lw, ws', elw0, elw, nlw⟩ := (gl t htA)
        have lws : ws'.length = (waysT bk W t).length := by rw [nlw.length, List.length_map]
        refine ⟨_, rfl, _, rfl, pg, _, rfl, (d.same sB7).ngetT encT nt7 htA, lw, elw0, ⟨_, .of (sB7 _ _ elw)⟩, ?_⟩
        refine for_it walk_list (fun j σ H8 => ∃ x11 x13, σ = [some (.ref o), some (.ref wb), some (.ref pg), x3, x4, x5, x6, x7, some (.ref pm), some (.bl false), some x, x11, some (.ref pf), x13] ∧ Same H2 H8 ∧ Ep pf Hb H8 ∧ DM P w H8 pm eT mk f ∧ DM P w H8 pf eT ((srtT mk).take i ++ [t]) (updF g6 t (.ref l)) ∧ ∃ zs, H8 l = some (.lst zs) ∧ NkA H8 zs ((((waysT bk W t).take j).filter (usab bk W mk t)).map eW))
          ⟨_, _, rfl, sB7, epB7, I.d.same (smT s45 ss) |> fun z => (show DM P w Hq pm eT mk f from z).keep (fun o e => (ep6.trans epB7) _ _ mpf e) ((ep6.trans epB7).kpt ntf), d7, [], el7, .nil⟩ (fun j σ H8 _ ⟨_, _, _, s, _⟩ => .of (s _ _ elw)) ?_ ?_
        · rintro j z σ H8 H9 hj ⟨x11, x13, rfl, s8, ep8, dm8, d8, zs, ez, nz⟩ ⟨rfl, hz⟩
          obtain ⟨kk, hk', ny0⟩ := nlw.get' hz
          obtain ⟨y, hy, rfl⟩ := gmap' hk'
          have ny := ny0.keep (.of s8)
          have nt8 := nt.keep (ep8.kpt ntb)
          have hyW := List.mem_of_getElem? hy
          have wyok := mem_waysT okb okW ht1 hyW
          have s08 := smT s2 s8
          dsimp only [gName]
          refine rd_allS (a := 0) (b := 1) (c := 10) (d := 11) (j := 8) (i := 13) rfl rfl rfl rfl rfl (by show 13 < 14; decide) (by decide) okb okW (nB.keep (.of s08)) (nW.keep (.of s08)) nt8 ny wyok dm8 fun H10 s10 => ?_
          have ez10 := s10 _ _ ez
          have nz10 := nz.keep (.of s10)
          have d10 := d8.same s10
          refine iteB (fun hu => ?_) (fun hu => ?_)
          · have ng := d10.ngetT encT (nt8.keep (.of s10)) (t := t) (List.mem_append_right _ (by simp))
            rw [eg] at ng
            have kt := chkpt (ys := zs ++ [z]) ez10
            have e1 : (((waysT bk W t).take (j + 1)).filter (usab bk W mk t)).map eW = (((waysT bk W t).take j).filter (usab bk W mk t)).map eW ++ [eW y] := by
              rw [filter_snoc hy, if_pos hu, List.map_append]; rfl
            refine ⟨_, rfl, _, rfl, pf, _, rfl, ng, tyL ez10, _, rfl, l, zs, z, rfl, rfl, ez10, ?_, ?_⟩
            · rw [nz.length, List.length_map]
              refine Nat.lt_of_le_of_lt (Nat.le_trans (List.length_filter_le _ _) (Nat.le_trans (List.length_take_le' _ _) (waysT_len okb W t))) (by decide)
            have nl2 : H2 l = none := none_back s6 nl0
            have sL : Same H2 (upd H10 l (.lst (zs ++ [z]))) := smU nl2 (smT s8 s10)
            refine ⟨_, _, rfl, sL, ?_, (dm8.same s10).but But.upd (fun z => ?_) (fun xs z => by rw [ez10] at z; cases z), d10.but But.upd (Ne.symm lpf) (fun xs z => by rw [ez10] at z; cases z), _, upd_same, ?_⟩
            · intro c o' hc e
              rw [upd_ne (ne_of_none e nl0)]
              exact s10 _ _ (ep8 _ _ hc e)
            · obtain ⟨φm, e'⟩ := dm8.ext; rw [z, ez] at e'; cases e'
            · rw [e1]
              exact NkA.snoc ((ny.keep (.of s10)).keep kt) (nz10.keep kt)
          · have e1 : (((waysT bk W t).take (j + 1)).filter (usab bk W mk t)).map eW = (((waysT bk W t).take j).filter (usab bk W mk t)).map eW := by
              rw [filter_snoc hy, if_neg (bfl hu), List.append_nil]
            exact ⟨_, _, rfl, smT s8 s10, ep8.trans (Ep.of s10), dm8.same s10, d10, zs, ez10, by rw [e1]; exact nz10⟩
        · rintro σ H8 ⟨x11, x13, rfl, s8, ep8, dm8, d8, zs, ez, nz⟩
          rw [lws, List.take_length] at nz
          have e := take_snoc (f := fun z : Thg => z) ht
          rw [List.map_id', List.map_id'] at e
          refine ⟨_, _, _, _, _, _, _, _, rfl, s8, ep6.trans ep8, updF g6 t (.ref l), by rw [e]; exact d8, fun u hu => ?_⟩
          rw [e] at hu
          by_cases hut : u = t
          · rw [hut, eg]
            exact ⟨l, zs, rfl, ez, nz⟩
          · have : updF g6 t (.ref l) u = g6 u := by unfold updF; rw [if_neg hut]
            rw [this]
            refine LsK.ep (l6 u ((List.mem_append.mp hu).resolve_right fun h => hut (List.mem_singleton.mp h))) ⟨φ6, hφ6⟩ ep8
      · rintro σ H6 ⟨x3, x4, x5, x6, x7, x10, x11, x13, rfl, s6, ep6, g6, d6, l6⟩
        rw [lys, List.take_length] at d6 l6
        refine ⟨_, rfl, q pf H6 mk (smT s2 s6) ndm I.ok (fun t h1 h2 y hy hu => ?_) ⟨g6, d6, l6⟩⟩
        by_cases hm : t ∈ mk
        · exact hm
        · rw [cl t ((allU t).mpr ⟨h1, h2⟩) hm y hy] at hu; cases hu
end K19
set_option maxHeartbeats 4000000
namespace K19
open PySem PySem.Spec PyProof.Rows L2
/-- the bag of draws -/
structure Bag (H : Hp) (b g : Addr) : Prop where
  ne : b ≠ g
  ex : ∃ (s c : Int) (gs : List Int) (al : V), H b = some (.lst [.int s, .int c, .ref g, al]) ∧ H g = some (.lst (gs.map V.int)) ∧ gs.length ≤ 63 ∧ (al = .non ∨ ∃ n : Int, al = .int n)
/-- all but the bag is kept -/
def Bg (b g : Addr) (H H' : Hp) : Prop := Fr [b, g] H H'
theorem Bg.at {b g x : Addr} {H H' : Hp} {o : HO} (f : Bg b g H H') (h1 : x ≠ b) (h2 : x ≠ g) (e : H x = some o) : H' x = some o := f x o (fun z => by
  rcases List.mem_cons.mp z with z | z
  · exact h1 z
  · exact h2 (List.mem_singleton.mp z)) e
theorem Bg.refl (b g : Addr) (H : Hp) : Bg b g H H := Fr.refl _ H
theorem Bg.trans {b g : Addr} {H H1 H2 : Hp} (x : Bg b g H H1) (y : Bg b g H1 H2) : Bg b g H H2 := Fr.trans x y
theorem Bg.of {b g : Addr} {H H' : Hp} (s : Same H H') : Bg b g H H' := Fr.of s
theorem Bag.same {b g : Addr} {H H' : Hp} (x : Bag H b g) (s : Same H H') : Bag H' b g := by
  obtain ⟨s0, c, gs, al, h1, h2, h3, h4⟩ := x.ex
  exact ⟨x.ne, s0, c, gs, al, s _ _ h1, s _ _ h2, h3, h4⟩
theorem Bag.over {b g : Addr} : Over [b, g] fun H => Bag H b g := fun H H' h x => by
  obtain ⟨s0, c, gs, al, h1, h2, h3, h4⟩ := x.ex
  exact ⟨x.ne, s0, c, gs, al, h b (by simp) _ h1, h g (by simp) _ h2, h3, h4⟩
theorem Bag.lst {b g : Addr} {H : Hp} (x : Bag H b g) : ∀ s ∈ [b, g], ∃ xs, H s = some (.lst xs) := fun s hs => by
  obtain ⟨s0, c, gs, al, h1, h2, h3, h4⟩ := x.ex
  rcases List.mem_cons.mp hs with rfl | hs
  · exact ⟨_, h1⟩
  · rw [List.mem_singleton.mp hs]; exact ⟨_, h2⟩
theorem Bag.notOf {b g x : Addr} {H : Hp} {o : HO} (y : Bag H b g) (e : H x = some o) (h : ∀ xs, o ≠ .lst xs) : x ≠ b ∧ x ≠ g := by
  obtain ⟨s0, c, gs, al, h1, h2, h3, h4⟩ := y.ex
  exact ⟨fun z => by rw [z, h1] at e; exact h _ (Option.some.inj e).symm, fun z => by rw [z, h2] at e; exact h _ (Option.some.inj e).symm⟩
theorem Bag.notNone {b g x : Addr} {H : Hp} (y : Bag H b g) (e : H x = none) : x ≠ b ∧ x ≠ g := by
  obtain ⟨s0, c, gs, al, h1, h2, h3, h4⟩ := y.ex
  exact ⟨(fun z => by rw [z, h1] at e; cases e), (fun z => by rw [z, h2] at e; cases e)⟩
theorem Bg.kpt {b g : Addr} {H H' : Hp} (f : Bg b g H H') (y : Bag H b g) : KpT H H' := fun c xs e => by
  obtain ⟨h1, h2⟩ := y.notOf e (fun xs z => by cases z)
  exact f.at h1 h2 e
theorem DM.bg {α : Type} {P : Program} {w : World} {H H' : Hp} {p b g : Addr} {e : α → NestedKey} {ts : List α} {f : α → V} (d : DM P w H p e ts f) (x : Bg b g H H') (y : Bag H b g) : DM P w H' p e ts f := by
  obtain ⟨φ, hp⟩ := d.ext
  obtain ⟨h1, h2⟩ := y.notOf hp (fun xs z => by cases z)
  exact d.keep (fun o e => x.at h1 h2 e) (x.kpt y)
theorem sqlS {K : PySem.W.Frag} {H H' : Hp} {a : Addr} {xs : List V} (h : SqL K H a xs) (s : Same H H') : SqL K H' a xs := by
  rcases h with (h | ⟨o, h⟩) | h
  · exact .inl (.inl (s _ _ h))
  · exact .inl (.inr ⟨o, s _ _ h⟩)
  · exact .inr h
theorem cut_int {ns : List Int} {x : V} {i : Nat} {lo hi : Option Int} (h : (cutV (ns.map V.int) lo hi)[i]? = some x) : ∃ n, x = .int n := by
  have h1 := List.mem_of_getElem? h
  unfold cutV at h1
  obtain ⟨n, _, e⟩ := List.mem_map.mp (List.mem_of_mem_drop (List.mem_of_mem_take h1))
  exact ⟨n, e.symm⟩
theorem cut_len63 {ns : List Int} (h : ns.length ≤ 63) {lo hi : Option Int} : (cutV (ns.map V.int) lo hi).length ≤ 63 := Nat.le_trans (cutV_length _ _ _) (by rw [List.length_map]; exact h)
def sp_law_bag (P : Program) (w : World) (K : PySem.W.Frag) (CB CW : Addr) : Sp := fun vs H Q _ => ∃ a, vs = [a] ∧ ∃ (l : Addr) (ns : List Int), a = .ref l ∧ SqL K H l (ns.map V.int) ∧ ns.length ≤ 63 ∧ ∀ b g H', Same H H' → Bag H' b g → Q (.ref b) H'
abbrev n_law_bag : List Str := ["_law_script", "_law_seed", "_law_cell", "_law_great", "_law_always"]
theorem sc_law_bag : FnScope n_law_bag ["_law_script"] (defScope s_law_bag) := ⟨rfl, rfl, rfl, by decide +kernel, rfl, by decide +kernel, by decide +kernel⟩
theorem cl_law_bag {P : Program} {w : World} {K : PySem.W.Frag} {mg : Str → Option Value} {base : Heap} {CB CW : Addr} (Z : Fx K mg CB CW) : Cl P w K mg base "_law_bag" 1 ["_law_script"] (sp_law_bag P w K CB CW) := by
  refine Z.d_law_bag.cl (N := n_law_bag) (k := 0) sc_law_bag (fun vs H Q E h => by obtain ⟨_, rfl, _⟩ := h; rfl) (fun _ _ _ _ _ _ us hl => match us, hl with | [_], _ => rfl) fun f cdv A outer s H0 E0 hr => ⟨_, (pss_cons (ps_set (i := 1) sc_law_bag.nd rfl (Or.inl rfl) (pe_op op_add pe_int (pe_callB (qlen (by exact ⟨rfl, rfl, rfl⟩ : At _ P w K)) rfl Z.f_len bt_len (pa_cons (pv 0) pa_nil)))) (pss_cons (ps_for PassesOwn.never rfl (qpiL (by exact ⟨rfl, rfl, rfl⟩ : At _ P w K) (pe_slice (qslL (by exact ⟨rfl, rfl, rfl⟩ : At _ P w K)) (pv 0) po_none (po_some pe_int))) (pg_name (i := 2) sc_law_bag.nd rfl (Or.inl rfl)) (pss_one (ps_set (i := 1) sc_law_bag.nd rfl (Or.inl rfl) (pe_op op_modN (pe_callTy call_int1 rfl Z.f_int bt_int (pa_cons (pe_op op_add (pe_op op_add (pe_op op_mul (pv 1) pe_int) (pe_op op_modN (pe_callTy call_int1 rfl Z.f_int bt_int (pa_cons (pv 2) pa_nil)) pe_int)) pe_int) pa_nil)) pe_int)))) (pss_cons (ps_setLc (i := 3) (own := [("_law_cell", 2)]) rfl sc_law_bag.nd rfl rfl (sw_true rfl rfl rfl (by decide +kernel)) (qpiL (by exact ⟨rfl, rfl, rfl⟩ : At _ P w K) (pe_slice (qslL (by exact ⟨rfl, rfl, rfl⟩ : At _ P w K)) (pv 0) po_none (po_some pe_int))) (blkOk_by (N := n_law_bag) (sc := defScope s_law_bag) (by decide +kernel)) (fun _ _ _ _ _ => (pg_name (i := 2) sc_law_bag.nd rfl (by first | exact Or.inl rfl | exact Or.inr rfl))) (fun _ _ _ _ _ => (pts_one (pt_cmpR op_ge (pe_callB call_abs rfl Z.f_abs bt_abs (pa_cons (pe_callTy call_int1 rfl Z.f_int bt_int (pa_cons (pv 2) pa_nil)) pa_nil)) (pe_op op_pow pe_int pe_int) (nomark _)))) (fun _ _ _ _ _ => (pe_callB call_abs rfl Z.f_abs bt_abs (pa_cons (pe_callTy call_int1 rfl Z.f_int bt_int (pa_cons (pv 2) pa_nil)) pa_nil)))) (pss_cons (ps_set (i := 4) sc_law_bag.nd rfl (Or.inl rfl) pe_non) (pss_cons (ps_if (PW.pt (pw_and (pt_cmpR op_lt (pe_callB (qlen (by exact ⟨rfl, rfl, rfl⟩ : At _ P w K)) rfl Z.f_len bt_len (pa_cons (pv 0) pa_nil)) pe_int (nomark _)) (pw_and1 (pt_cmpR op_eq (pe_callB (qlen (by exact ⟨rfl, rfl, rfl⟩ : At _ P w K)) rfl Z.f_len bt_len (pa_cons (pv 3) pa_nil)) pe_int (nomark _))))) (pss_one (ps_set (i := 4) sc_law_bag.nd rfl (Or.inl rfl) (pe_callB call_abs rfl Z.f_abs bt_abs (pa_cons (pe_callB (qsum (by exact ⟨rfl, rfl, rfl⟩ : At _ P w K) rfl) rfl Z.f_sum bt_sum (pa_cons (pe_lc (own := [("_law_cell", 2)]) rfl sc_law_bag.nd (qpiL (by exact ⟨rfl, rfl, rfl⟩ : At _ P w K) (pv 0)) (blkOk_by (N := n_law_bag) (sc := defScope s_law_bag) (by decide +kernel)) (fun _ _ _ _ _ => (pg_name (i := 2) sc_law_bag.nd rfl (by first | exact Or.inl rfl | exact Or.inr rfl))) (fun _ _ _ _ _ => pts_nil) (fun _ _ _ _ _ => (pe_callTy call_int1 rfl Z.f_int bt_int (pa_cons (pv 2) pa_nil)))) pa_nil)) pa_nil)))) pss_nil) (pss_one (ps_ret (pe_lst (pa_cons (pv 1) (pa_cons pe_int (pa_cons (pv 3) (pa_cons (pv 4) pa_nil)))))))))))), fun vs H Q E h => ?_⟩
  obtain ⟨v0, rfl, h⟩ := h
  obtain ⟨l, ns, rfl, hl, hn, q⟩ := h
  have z63 : (63 : Nat) ≤ sizeLine := by decide
  refine ⟨_, rfl, _, _, rfl, .inl ⟨_, hl, rfl⟩, _, _, rfl, rfl, ?_⟩
  refine ⟨_, rfl, _, rfl, l, _, rfl, hl, fun p np => ⟨p, rfl, ⟨_, .of upd_same⟩, ?_⟩⟩
  refine for_it walk_list (fun i σ H1 => ∃ sd x2 x3 x4, σ = [some (.ref l), some (.int sd), x2, x3, x4] ∧ Same H H1 ∧ H1 p = some (.lst (cutV (ns.map V.int) none (some 63)))) ⟨_, _, _, _, rfl, same_upd np, upd_same⟩ (fun i σ H1 _ ⟨_, _, _, _, _, _, e⟩ => .of e) ?_ ?_
  · rintro i x σ H1 H2 hi ⟨sd, x2, x3, x4, rfl, s1, e1⟩ ⟨rfl, hx⟩
    obtain ⟨n, rfl⟩ := cut_int hx
    refine ⟨_, rfl, _, _, rfl, rfl, .inr ⟨by decide, by decide⟩, _, rfl, .inl ⟨_, rfl, _, _, rfl, rfl, (show (1000003 : Int) ≠ 0 by decide), _, _, rfl, rfl, _, _, rfl, rfl, .inl ⟨_, rfl, _, _, rfl, rfl, (show (2147483647 : Int) ≠ 0 by decide), ?_⟩⟩⟩
    exact ⟨_, _, _, _, rfl, s1, e1⟩
  rintro σ H1 ⟨sd, x2, x3, x4, rfl, s1, e1⟩
  have hl1 := sqlS hl s1
  refine ⟨_, rfl, _, rfl, l, _, rfl, hl1, fun p2 np2 => ⟨p2, rfl, ⟨_, .of upd_same⟩, ?_⟩⟩
  have s2 : Same H1 (upd H1 p2 (.lst (cutV (ns.map V.int) none (some 63)))) := same_upd np2
  refine lc_sm walk_list (fun i acc _ => ∃ gs : List Int, acc = gs.map V.int ∧ gs.length ≤ i) (Nat.le_trans (cut_len63 hn) z63) (fun _ _ _ _ _ r => r) (fun i acc H ⟨gs, e, h⟩ => by rw [e, List.length_map]; exact h) (fun H2 s => .of (s _ _ upd_same)) ⟨[], rfl, Nat.le_refl _⟩ ?_ ?_
  · rintro i x acc H2 H3 Kd Kn hi s3 ⟨gs, rfl, hgs⟩ kd kn ⟨rfl, hx⟩
    obtain ⟨n, rfl⟩ := cut_int hx
    refine ⟨rfl, ?_⟩
    refine ⟨_, rfl, .inl ⟨_, rfl, _, rfl, _, _, rfl, rfl, ⟨by decide, by decide, by decide⟩, _, _, rfl, rfl, _, rfl, ?_⟩⟩
    refine iteB (fun _ => ?_) (fun _ => kn _ (sm0 _) ⟨gs, rfl, by omega⟩)
    refine ⟨_, rfl, .inl ⟨_, rfl, _, rfl, kd _ _ (sm0 _) ⟨gs ++ [if n < 0 then -n else n], by rw [List.map_append]; rfl, by rw [List.length_append, List.length_singleton]; omega⟩⟩⟩
  rintro acc H2 g s3 eg ng ⟨gs, rfl, hgs⟩
  have hgs : gs.length ≤ 63 := Nat.le_trans hgs (cut_len63 hn)
  have s02 := smT s1 (smT s2 s3)
  have hl2 := sqlS hl s02
  have fin : ∀ (H3 : Hp) (al : V), Same H2 H3 → (al = .non ∨ ∃ n : Int, al = .int n) → ∀ b, H3 b = none → Q (.ref b) (upd H3 b (.lst [.int sd, .int 1, .ref g, al])) := fun H3 al s4 ha b nb => by
    have eg3 := s4 _ _ eg
    have hbg : b ≠ g := fun z => by rw [z, eg3] at nb; cases nb
    exact q b g _ (smT s02 (smT s4 (same_upd nb))) ⟨hbg, sd, 1, gs, al, upd_same, by rw [upd_ne (Ne.symm hbg)]; exact eg3, hgs, ha⟩
  refine ⟨_, rfl, _, _, rfl, .inl ⟨_, hl2, rfl⟩, _, _, rfl, rfl, _, rfl, ?_⟩
  refine iteB (fun _ => ?_) (fun _ => iteF ⟨_, rfl, _, rfl, _, rfl, by show 4 ≤ sizeLine; decide, fun b nb => fin H2 .non (sm0 _) (.inl rfl) b nb⟩)
  refine ⟨_, rfl, _, _, rfl, .inl ⟨_, .of eg, rfl⟩, rfl, _, rfl, ?_⟩
  refine iteB (fun _ => ?_) (fun _ => ⟨_, rfl, _, rfl, _, rfl, by show 4 ≤ sizeLine; decide, fun b nb => fin H2 .non (sm0 _) (.inl rfl) b nb⟩)
  refine ⟨_, rfl, l, rfl, ⟨_, hl2⟩, ?_⟩
  refine lc_sm walk_list (RAll fun i => .int ((fun i => ns.getD i 0) i)) (by rw [List.length_map]; exact Nat.le_trans hn z63) (fun _ _ _ _ _ r => r) (fun _ _ _ r => r.len) (fun H3 s => sqlS hl2 s) rfl ?_ ?_
  · rintro i x acc H3 H4 Kd Kn hi s4 r kd kn ⟨rfl, hx⟩
    obtain ⟨n, hn', rfl⟩ := gmap' hx
    refine ⟨rfl, yes ⟨_, rfl, .inl ⟨_, rfl, kd _ _ (sm0 _) ?_⟩⟩⟩
    have e : ns.getD i 0 = n := by rw [List.getD_eq_getElem?_getD, hn']; rfl
    have := RAll.step (f := fun i => V.int (ns.getD i 0)) (H' := H4) r
    rw [e] at this; exact this
  · intro acc H3 p3 s4 ep3 np3 r
    exact ⟨p3, _, rfl, .of (by rw [ep3, r.ints]), _, rfl, _, rfl, _, rfl, _, rfl, by show 4 ≤ sizeLine; decide, fun b nb => fin H3 _ s4 (.inr ⟨_, rfl⟩) b nb⟩
def sp_law_some (P : Program) (w : World) (K : PySem.W.Frag) (CB CW : Addr) : Sp := fun vs H Q _ => ∃ a c, vs = [a, c] ∧ ∃ (b g l : Addr) (xs : List V), a = .ref b ∧ Bag H b g ∧ c = .ref l ∧ H l = some (.lst xs) ∧ l ≠ b ∧ l ≠ g ∧ 1 ≤ xs.length ∧ xs.length ≤ 1000 ∧ ∀ (i : Nat) x H', xs[i]? = some x → Bg b g H H' → Bag H' b g → Q x H'
def sp_law_pick (P : Program) (w : World) (K : PySem.W.Frag) (CB CW : Addr) : Sp := fun vs H Q _ => ∃ a c, vs = [a, c] ∧ ∃ (b g : Addr) (m : Nat), a = .ref b ∧ Bag H b g ∧ c = .int (m : Nat) ∧ 1 ≤ m ∧ m ≤ 1000 ∧ ∀ (r : Nat) H', r < m → Bg b g H H' → Bag H' b g → Q (.int (r : Nat)) H'
theorem fmod_nat (x : Int) {m : Nat} (h : 1 ≤ m) : ∃ r : Nat, r < m ∧ x.fmod (m : Nat) = (r : Nat) := by
  have h1 := Int.fmod_nonneg_of_pos x (b := (m : Int)) (by omega)
  have h2 := Int.fmod_lt_of_pos x (b := (m : Int)) (by omega)
  exact ⟨(x.fmod (m : Nat)).toNat, by omega, by omega⟩
theorem ix0 {n : Nat} (h : 0 < n) : ixN n 0 = some 0 := by
  unfold ixN
  rw [if_pos (by decide), if_pos (by omega)]; rfl
theorem sq0 {n : Nat} (h : 0 < n) : seqIndex? 0 n = some 0 := by
  unfold seqIndex?
  simp; omega
theorem qM {Q : VK} {H : Hp} {x : Int} {m : Nat} (h : 1 ≤ m) (q : ∀ r : Nat, r < m → Q (.int (r : Nat)) H) : Q (.int (x.fmod (m : Nat))) H := by
  obtain ⟨r, hr, e⟩ := fmod_nat x h
  rw [e]; exact q r hr
theorem fmod_bd (x m : Int) (h1 : 0 < m) (h2 : m < 2 ^ 64) : -(2 ^ 64) < x.fmod m ∧ x.fmod m < 2 ^ 64 := by
  have h3 := Int.fmod_nonneg_of_pos x h1
  have h4 := Int.fmod_lt_of_pos x h1
  omega
theorem qN {Q : VK} {H : Hp} {i : Int} {r : Nat} (e : i = (r : Nat)) (q : Q (.int (r : Nat)) H) : Q (.int i) H := by rw [e]; exact q
abbrev n_law_pick : List Str := ["_law_bag_here", "_law_many", "_law_great", "_law_digit", "_law_number"]
theorem sc_law_pick : FnScope n_law_pick ["_law_bag_here", "_law_many"] (defScope s_law_pick) := ⟨rfl, rfl, rfl, by decide +kernel, rfl, by decide +kernel, by decide +kernel⟩
theorem cl_law_pick {P : Program} {w : World} {K : PySem.W.Frag} {mg : Str → Option Value} {base : Heap} {CB CW : Addr} (Z : Fx K mg CB CW) : Cl P w K mg base "_law_pick" 1 ["_law_bag_here", "_law_many"] (sp_law_pick P w K CB CW) := by
  refine Z.d_law_pick.cl (N := n_law_pick) (k := 0) sc_law_pick (fun vs H Q E h => by obtain ⟨_, _, rfl, _⟩ := h; rfl) (fun _ _ _ _ _ _ us hl => match us, hl with | [_, _], _ => rfl) fun f cdv A outer s H0 E0 hr => ⟨_, (pss_cons (ps_if (pt_cmpR op_notN (pe_ix (qixL (by exact ⟨rfl, rfl, rfl⟩ : At _ P w K)) (pv 0) pe_int (fun _ _ => rfl)) pe_non (nomark _)) (pss_one (ps_ret (pe_op op_modN (pe_callTy call_int1 rfl Z.f_int bt_int (pa_cons (pe_ix (qixL (by exact ⟨rfl, rfl, rfl⟩ : At _ P w K)) (pv 0) pe_int (fun _ _ => rfl)) pa_nil)) (pv 1)))) pss_nil) (pss_cons (ps_asg (pe_op op_add (pe_ix (qixL (by exact ⟨rfl, rfl, rfl⟩ : At _ P w K)) (pv 0) pe_int (fun _ _ => rfl)) pe_int) (pg_sub (pv 0) pe_int set_list)) (pss_cons (ps_set (i := 2) sc_law_pick.nd rfl (Or.inl rfl) (pe_ix (qixL (by exact ⟨rfl, rfl, rfl⟩ : At _ P w K)) (pv 0) pe_int (fun _ _ => rfl))) (pss_cons (ps_if (pt_cmpR op_gt (pe_callB (qlen (by exact ⟨rfl, rfl, rfl⟩ : At _ P w K)) rfl Z.f_len bt_len (pa_cons (pv 2) pa_nil)) pe_int (nomark _)) (pss_cons (ps_set (i := 3) sc_law_pick.nd rfl (Or.inl rfl) (pe_op op_modN (pe_callTy call_int1 rfl Z.f_int bt_int (pa_cons (pe_ix (qixL (by exact ⟨rfl, rfl, rfl⟩ : At _ P w K)) (pv 2) pe_int (fun _ _ => rfl)) pa_nil)) (pv 1))) (pss_cons (ps_asg (pe_op op_fdivN (pe_callTy call_int1 rfl Z.f_int bt_int (pa_cons (pe_ix (qixL (by exact ⟨rfl, rfl, rfl⟩ : At _ P w K)) (pv 2) pe_int (fun _ _ => rfl)) pa_nil)) (pv 1)) (pg_sub (pv 2) pe_int set_list)) (pss_cons (ps_if (pt_cmpR op_eq (pe_ix (qixL (by exact ⟨rfl, rfl, rfl⟩ : At _ P w K)) (pv 2) pe_int (fun _ _ => rfl)) pe_int (nomark _)) (pss_one (ps_expr (qbm (by exact ⟨rfl, rfl, rfl⟩ : At _ P w K) PySem.F.plainAttrs_list PySem.F.slot_list_pop PySem.F.type_list_pop mt_popAt (pv 2) (pa_cons pe_int pa_nil)))) pss_nil) (pss_one (ps_ret (pv 3)))))) pss_nil) (pss_cons (ps_set (i := 4) sc_law_pick.nd rfl (Or.inl rfl) (pe_op op_modN (pe_callTy call_int1 rfl Z.f_int bt_int (pa_cons (pe_op op_mul (pe_op op_add (pe_ix (qixL (by exact ⟨rfl, rfl, rfl⟩ : At _ P w K)) (pv 0) pe_int (fun _ _ => rfl)) (pe_op op_mul pe_int (pe_ix (qixL (by exact ⟨rfl, rfl, rfl⟩ : At _ P w K)) (pv 0) pe_int (fun _ _ => rfl)))) pe_int) pa_nil)) pe_int)) (pss_cons (ps_set (i := 4) sc_law_pick.nd rfl (Or.inl rfl) (pe_op op_modN (pe_callTy call_int1 rfl Z.f_int bt_int (pa_cons (pe_op op_mul (pv 4) (pe_op op_add (pe_op op_fdivN (pv 4) pe_int) pe_int)) pa_nil)) pe_int)) (pss_cons (ps_set (i := 4) sc_law_pick.nd rfl (Or.inl rfl) (pe_op op_modN (pe_callTy call_int1 rfl Z.f_int bt_int (pa_cons (pe_op op_mul (pv 4) (pe_op op_add (pe_op op_fdivN (pv 4) pe_int) pe_int)) pa_nil)) pe_int)) (pss_one (ps_ret (pe_op op_modN (pe_callTy call_int1 rfl Z.f_int bt_int (pa_cons (pe_op op_fdivN (pv 4) pe_int) pa_nil)) (pv 1))))))))))), fun vs H Q E h => ?_⟩
  obtain ⟨v0, v1, rfl, h⟩ := h
  obtain ⟨b, g, m, rfl, B, rfl, h1, h2, q⟩ := h
  obtain ⟨s0, c, gs, al, eb, eg, hg, ha⟩ := B.ex
  have m0 : (m : Int) ≠ 0 := by omega
  rcases ha with rfl | ⟨n, rfl⟩
  · refine ⟨_, rfl, _, _, _, _, rfl, rfl, .of eb, rfl, rfl, _, rfl, iteND rfl ?_⟩
    refine ⟨_, rfl, _, _, _, _, rfl, rfl, .of eb, rfl, _, _, rfl, rfl, _, rfl, b, _, _, 1, rfl, rfl, eb, rfl, ?_⟩
    have eb1 : (upd H b (.lst ([V.int s0, .int c, .ref g, .non].set 1 (.int (c + 1))))) b = some (.lst [.int s0, .int (c + 1), .ref g, .non]) := upd_same
    have eg1 : (upd H b (.lst ([V.int s0, .int c, .ref g, .non].set 1 (.int (c + 1))))) g = some (.lst (gs.map V.int)) := by rw [upd_ne (Ne.symm B.ne)]; exact eg
    have f1 : Bg b g H (upd H b (.lst ([V.int s0, .int c, .ref g, .non].set 1 (.int (c + 1))))) := fun x o hx e => by rw [upd_ne (fun z => hx (by rw [z]; simp))]; exact e
    generalize upd H b (.lst ([V.int s0, .int c, .ref g, .non].set 1 (.int (c + 1)))) = H1 at eb1 eg1 f1 ⊢
    refine ⟨_, rfl, _, _, _, _, rfl, rfl, .of eb1, rfl, ?_⟩
    refine ⟨_, rfl, _, _, rfl, .inl ⟨_, .of eg1, rfl⟩, _, _, rfl, rfl, _, rfl, ?_⟩
    cases gs with
    | nil =>
      have B1 : Bag H1 b g := ⟨B.ne, s0, c + 1, [], .non, eb1, eg1, by decide, .inl rfl⟩
      refine iteN (by simp) ⟨_, rfl, _, _, _, _, rfl, rfl, .of eb1, rfl, _, rfl, _, _, _, _, rfl, rfl, .of eb1, rfl, _, _, rfl, rfl, .inl ⟨by decide, by decide⟩, _, _, rfl, rfl, _, _, rfl, rfl, .inr ⟨by decide, by decide⟩, .inl ⟨_, rfl, _, _, rfl, rfl, (show (2147483647 : Int) ≠ 0 by decide), ?_⟩⟩
      refine ⟨_, rfl, _, rfl, _, _, rfl, rfl, ⟨by decide, by decide⟩, _, _, rfl, rfl, _, _, rfl, rfl, .inl (fmod_bd _ _ (by decide) (by decide)), .inl ⟨_, rfl, _, _, rfl, rfl, (show (2147483647 : Int) ≠ 0 by decide), ?_⟩⟩
      refine ⟨_, rfl, _, rfl, _, _, rfl, rfl, ⟨by decide, by decide⟩, _, _, rfl, rfl, _, _, rfl, rfl, .inl (fmod_bd _ _ (by decide) (by decide)), .inl ⟨_, rfl, _, _, rfl, rfl, (show (2147483399 : Int) ≠ 0 by decide), ?_⟩⟩
      exact ⟨_, rfl, _, _, rfl, rfl, ⟨by decide, by decide⟩, .inl ⟨_, rfl, _, rfl, _, _, rfl, rfl, m0, qM h1 fun r hr => q r H1 hr f1 B1⟩⟩
    | cons g0 gr =>
      refine iteD (by rw [List.length_map, List.length_cons]; omega) ⟨_, rfl, _, _, _, _, rfl, rfl, .of eg1, atI_nat (j := 0) (v := .int g0) rfl, .inl ⟨_, rfl, _, rfl, _, _, rfl, rfl, m0, ?_⟩⟩
      refine ⟨_, rfl, _, _, _, _, rfl, rfl, .of eg1, atI_nat (j := 0) (v := .int g0) rfl, .inl ⟨_, rfl, _, rfl, _, _, rfl, rfl, ⟨m0, by show (m : Int).natAbs < _; omega⟩, _, rfl, g, _, _, 0, rfl, rfl, eg1, ix0 (by rw [List.length_map, List.length_cons]; omega), ?_⟩⟩
      have eg2 : (upd H1 g (.lst ((List.map V.int (g0 :: gr)).set 0 (.int (g0.fdiv (m : Nat)))))) g = some (.lst ((g0.fdiv (m : Nat) :: gr).map V.int)) := upd_same
      have eb2 : (upd H1 g (.lst ((List.map V.int (g0 :: gr)).set 0 (.int (g0.fdiv (m : Nat)))))) b = some (.lst [.int s0, .int (c + 1), .ref g, .non]) := by rw [upd_ne B.ne]; exact eb1
      have f2 : Bg b g H (upd H1 g (.lst ((List.map V.int (g0 :: gr)).set 0 (.int (g0.fdiv (m : Nat)))))) := f1.trans fun x o hx e => by rw [upd_ne (fun z => hx (by rw [z]; simp))]; exact e
      generalize upd H1 g (.lst ((List.map V.int (g0 :: gr)).set 0 (.int (g0.fdiv (m : Nat))))) = H2 at eg2 eb2 f2 ⊢
      have lg : gr.length ≤ 62 := by rw [List.length_cons] at hg; omega
      refine ⟨_, rfl, _, _, _, _, rfl, rfl, .of eg2, atI_nat (j := 0) (v := .int (g0.fdiv (m : Nat))) rfl, rfl, _, rfl, ?_⟩
      refine iteB (c := decide (V.int (g0.fdiv (m : Nat)) = V.int 0)) (fun hq => ?_) (fun hq => ?_)
      · refine ⟨_, rfl, tyL eg2, g, _, 0, 0, _, rfl, rfl, eg2, by decide, by decide, sq0 (by rw [List.length_map, List.length_cons]; omega), rfl, ?_⟩
        exact ⟨_, rfl, qM h1 fun r hr => q r _ hr (f2.trans fun x o hx e => by rw [upd_ne (fun z => hx (by rw [z]; simp))]; exact e) ⟨B.ne, s0, c + 1, gr, .non, by rw [upd_ne B.ne]; exact eb2, upd_same, by omega, .inl rfl⟩⟩
      · exact ⟨_, rfl, qM h1 fun r hr => q r _ hr f2 ⟨B.ne, s0, c + 1, g0.fdiv (m : Nat) :: gr, .non, eb2, eg2, by rw [List.length_cons]; omega, .inl rfl⟩⟩
  · refine ⟨_, rfl, _, _, _, _, rfl, rfl, .of eb, rfl, rfl, _, rfl, iteNN (fun z => nomatch z) ?_⟩
    obtain ⟨r, hr, e⟩ := fmod_nat n h1
    exact ⟨_, rfl, _, _, _, _, rfl, rfl, .of eb, rfl, .inl ⟨_, rfl, _, rfl, _, _, rfl, rfl, m0, qN e (q r H hr (Bg.refl _ _ _) B)⟩⟩
abbrev n_law_some : List Str := ["_law_bag_here", "_law_things"]
theorem sc_law_some : FnScope n_law_some ["_law_bag_here", "_law_things"] (defScope s_law_some) := ⟨rfl, rfl, rfl, by decide +kernel, rfl, by decide +kernel, by decide +kernel⟩
theorem cl_law_some {P : Program} {w : World} {K : PySem.W.Frag} {mg : Str → Option Value} {base : Heap} {CB CW : Addr} (Z : Fx K mg CB CW) : Cl P w K mg base "_law_some" 2 ["_law_bag_here", "_law_things"] (sp_law_some P w K CB CW) := by
  refine Z.d_law_some.cl (N := n_law_some) (k := 1) sc_law_some (fun vs H Q E h => by obtain ⟨_, _, rfl, _⟩ := h; rfl) (fun _ _ _ _ _ _ us hl => match us, hl with | [_, _], _ => rfl) fun f cdv A outer s H0 E0 hr => ⟨_, (pss_one (ps_ret (pe_ix (qixL (by exact ⟨rfl, rfl, rfl⟩ : At _ P w K)) (pv 1) (pe_cl (cl_law_pick (P := P) (w := w) (K := K) (base := base) Z) hr (by decide) rfl (pa_cons (pv 0) (pa_cons (pe_callB (qlen (by exact ⟨rfl, rfl, rfl⟩ : At _ P w K)) rfl Z.f_len bt_len (pa_cons (pv 1) pa_nil)) pa_nil))) (fun _ _ => rfl)))), fun vs H Q E h => ?_⟩
  obtain ⟨v0, v1, rfl, h⟩ := h
  obtain ⟨b, g, l, xs, rfl, B, rfl, el, h1, h2, h3, h4, q⟩ := h
  refine ⟨_, rfl, _, rfl, _, rfl, _, _, rfl, .inl ⟨_, .of el, rfl⟩, _, _, rfl, b, g, xs.length, rfl, B, rfl, h3, h4, fun r H1 hr f1 B1 => ?_⟩
  exact ⟨l, xs, _, _, rfl, rfl, .of (f1.at h1 h2 el), atI_nat (getI hr), q r _ H1 (getI hr) f1 B1⟩
end K19
set_option maxHeartbeats 4000000
namespace K19
open PySem PySem.Spec PyProof.Rows L2
/-- a comprehension that draws -/
theorem lc_bg {b g : Addr} {J : It} {n : Nat} {G : Hp → Prop} {Y : Nat → Hp → V → Hp → Prop} (w : Walk J n G Y) {gt : TG} {tt : TT} {te : TE} {vs : List Nat} {σ : L2.St} {H1 : Hp} {Qd : Addr → Hp → Prop}
    (R : Nat → List V → Hp → Prop) (hn : n ≤ sizeLine) (hB : Bag H1 b g) (st : ∀ i acc H H', KpT H H' → R i acc H → R i acc H') (hl : ∀ i acc H, R i acc H → acc.length ≤ i)
    (hG : ∀ H, Bg b g H1 H → G H) (h0 : R 0 [] H1)
    (hs : ∀ i x acc H H' (Kd : VK) (Kn : Hp → Prop), i < n → Bg b g H1 H → Bag H b g → R i acc H → (∀ y H4, Bg b g H H4 → Bag H4 b g → R (i + 1) (acc ++ [y]) H4 → Kd y H4) → (∀ H3, Bg b g H H3 → Bag H3 b g → R (i + 1) acc H3 → Kn H3) → Y i H x H' →
      gt x (wipe σ vs) H' fun σ2 H2 => wipe σ2 vs = wipe σ vs ∧ tt σ2 H2 fun b H3 => if b = true then te σ2 H3 Kd else Kn H3)
    (hd : ∀ acc H p, Bg b g H1 H → Bag H b g → H p = some (.lst acc) → H1 p = none → R n acc H → Qd p H) :
    ∀ D, H1 D = none → ∃ W : Nat → Nat → Hp → Prop, (∃ m, W 0 m (upd H1 D (.lst []))) ∧ ∀ i m H, W i m H →
      (J.stop i H ∧ Qd D H) ∨ (J.go i H ∧ ∃ Nx : Hp → Prop, (∀ H', Nx H' → ∃ m', m' < m ∧ W (i + 1) m' H') ∧ ∀ x H', J.yld i H x H' → gt x (wipe σ vs) H' fun σ2 H2 => wipe σ2 vs = wipe σ vs ∧ tt σ2 H2 fun b H3 =>
        if b = true then te σ2 H3 fun y H4 => ∃ acc, H4 D = some (.lst acc) ∧ acc.length < sizeLine ∧ Nx (upd H4 D (.lst (acc ++ [y]))) else Nx H3) :=
  lc_fr (S := [b, g]) (B := fun H => Bag H b g) w R hn Bag.over (fun s hs H y => by obtain ⟨xs, e⟩ := y.lst s hs; rw [e]; exact fun z => nomatch z) hB st hl (fun s hs H xs y => by obtain ⟨xs, e⟩ := y.lst s hs; rw [e]; exact fun z => nomatch z) hG h0 hs hd
structure VsOk (ar : List Nat) (W : List Vl) : Prop where
  ok : ∀ (i : Nat) (v : Vl), W[i]? = some v → ar[v.1]? = some v.2.length ∧ ∀ p ∈ v.2, p < i
  z : W[0]? = some (0, [])
def sp_law_values (P : Program) (w : World) (K : PySem.W.Frag) (CB CW : Addr) : Sp := fun vs H Q _ => ∃ a b c, vs = [a, b, c] ∧ ∃ (bb g : Addr) (ar : List Nat) (m : Nat), a = .ref bb ∧ Bag H bb g ∧ Nk H b (eL ar) ∧ c = .int (m : Nat) ∧ 1 ≤ m ∧ m ≤ 9 ∧ ar.length ≤ 8 ∧ ar[0]? = some 0 ∧ (∀ a ∈ ar, a ≤ 2) ∧
  ∀ W r H', W.length = m → VsOk ar W → Bg bb g H H' → Bag H' bb g → Nk H' r (eWb W) → Q r H'
abbrev n_law_values : List Str := ["_law_bag_here", "_law_arities", "_law_many", "_law_found", "_law_number", "_law_op", "_law_part"]
theorem sc_law_values : FnScope n_law_values ["_law_bag_here", "_law_arities", "_law_many"] (defScope s_law_values) := ⟨rfl, rfl, rfl, by decide +kernel, rfl, by decide +kernel, by decide +kernel⟩
theorem cl_law_values {P : Program} {w : World} {K : PySem.W.Frag} {mg : Str → Option Value} {base : Heap} {CB CW : Addr} (Z : Fx K mg CB CW) : Cl P w K mg base "_law_values" 2 ["_law_bag_here", "_law_arities", "_law_many"] (sp_law_values P w K CB CW) := by
  refine Z.d_law_values.cl (N := n_law_values) (k := 1) sc_law_values (fun vs H Q E h => by obtain ⟨_, _, _, rfl, _⟩ := h; rfl) (fun _ _ _ _ _ _ us hl => match us, hl with | [_, _, _], _ => rfl) fun f cdv A outer s H0 E0 hr => ⟨_, (pss_cons (ps_set (i := 3) sc_law_values.nd rfl (Or.inl rfl) (pe_lst (pa_cons (pe_tup (pa_cons pe_int (pa_cons (pe_tup pa_nil) pa_nil))) pa_nil))) (pss_cons (ps_for PassesOwn.never rfl (pi_range2 rfl Z.f_range (pa_cons pe_int (pa_cons (pv 2) pa_nil))) (pg_name (i := 4) sc_law_values.nd rfl (Or.inr rfl)) (pss_cons (ps_set (i := 5) sc_law_values.nd rfl (Or.inl rfl) (pe_cl (cl_law_pick (P := P) (w := w) (K := K) (base := base) Z) hr (by decide) rfl (pa_cons (pv 0) (pa_cons (pe_callB (qlen (by exact ⟨rfl, rfl, rfl⟩ : At _ P w K)) rfl Z.f_len bt_len (pa_cons (pv 1) pa_nil)) pa_nil)))) (pss_one (ps_expr (qbm (by exact ⟨rfl, rfl, rfl⟩ : At _ P w K) PySem.F.plainAttrs_list PySem.F.slot_list_append PySem.F.type_list_append mt_append (pv 3) (pa_cons (pe_tup (pa_cons (pv 5) (pa_cons (pe_callTy (qtup (by exact ⟨rfl, rfl, rfl⟩ : At _ P w K)) rfl Z.f_tuple bt_tuple (pa_cons (pe_lc (own := [("_law_part", 6)]) rfl sc_law_values.nd (pi_range1 rfl Z.f_range (pa_cons (pe_ix (qixT (by exact ⟨rfl, rfl, rfl⟩ : At _ P w K)) (pv 1) (pv 5) (fun _ _ => rfl)) pa_nil)) (blkOk_by (N := n_law_values) (sc := defScope s_law_values) (by decide +kernel)) (fun _ _ _ _ _ => (pg_name (i := 6) sc_law_values.nd rfl (by first | exact Or.inl rfl | exact Or.inr rfl))) (fun _ _ _ _ _ => pts_nil) (fun _ _ _ _ _ => (pe_op op_sub (pe_op op_sub (pv 4) pe_int) (pe_cl (cl_law_pick (P := P) (w := w) (K := K) (base := base) Z) hr (by decide) rfl (pa_cons (pv 0) (pa_cons (pe_callB (call_min2 rfl) rfl Z.f_min bt_min (pa_cons (pv 4) (pa_cons pe_int pa_nil))) pa_nil)))))) pa_nil)) pa_nil))) pa_nil)))))) (pss_one (ps_ret (pe_callTy (qtup (by exact ⟨rfl, rfl, rfl⟩ : At _ P w K)) rfl Z.f_tuple bt_tuple (pa_cons (pv 3) pa_nil)))))), fun vs H Q E h => ?_⟩
  obtain ⟨v0, v1, v2, rfl, h⟩ := h
  obtain ⟨bb, g, ar, m, rfl, B, nar, rfl, h1, h9, h8, h0, h2, q⟩ := h
  obtain ⟨aa, rfl, ea⟩ := nar.nums
  have lar : 1 ≤ ar.length := by have := (List.getElem?_eq_some_iff.mp h0).1; omega
  refine ⟨Nat.zero_le _, fun p0 np0 => ⟨by show 2 ≤ sizeLine; decide, fun p1 np1 => ⟨by show 1 ≤ sizeLine; decide, fun p np => ?_⟩⟩⟩
  have s0 : Same H (upd (upd H p0 (.tup [])) p1 (.tup [.int 0, .ref p0])) := smT (same_upd np0) (same_upd np1)
  have nv0 : Nk (upd (upd H p0 (.tup [])) p1 (.tup [.int 0, .ref p0])) (.ref p1) (eV (0, [])) := .of2 upd_same (.int _) (.tup (same_upd np1 _ _ upd_same) .nil)
  generalize upd (upd H p0 (.tup [])) p1 (.tup [.int 0, .ref p0]) = H1 at s0 nv0 np ⊢
  have B1 := B.same s0
  obtain ⟨pb, pg⟩ := B1.notNone np
  have sp : Same H1 (upd H1 p (.lst [.ref p1])) := same_upd np
  refine ⟨_, rfl, _, _, rfl, ⟨by omega, by omega, by omega, by omega⟩, ?_⟩
  have e1 : ((m : Int) - 1).toNat = m - 1 := by omega
  rw [e1]
  refine for_it walk_range (fun i σ H2 => ∃ x4 x5 x6, σ = [some (.ref bb), some (.ref aa), some (.int (m : Nat)), some (.ref p), x4, x5, x6] ∧ Bg bb g H H2 ∧ Bag H2 bb g ∧ ∃ zs W, H2 p = some (.lst zs) ∧ NkA H2 zs (W.map eV) ∧ W.length = i + 1 ∧ VsOk ar W)
    ⟨_, _, _, rfl, Bg.of (smT s0 sp), B1.same sp, [.ref p1], [(0, [])], upd_same, .cons (nv0.keep (.of sp)) .nil, rfl, ⟨fun i v hv => ?_, rfl⟩⟩ (fun _ _ _ _ _ => trivial) ?_ ?_
  · cases i with
    | zero =>
      have : v = (0, []) := (Option.some.inj hv).symm
      rw [this]; exact ⟨h0, fun _ h => nomatch h⟩
    | succ i => cases hv
  · rintro i x σ H2 H3 hi ⟨x4, x5, x6, rfl, f2, B2, zs, W, ez, nz, lW, okW⟩ ⟨rfl, rfl⟩
    have ea2 := f2.at (B.notOf ea (fun xs z => by cases z)).1 (B.notOf ea (fun xs z => by cases z)).2 ea
    have nar2 := nar.keep (f2.kpt B)
    refine ⟨_, rfl, _, rfl, _, _, rfl, nar2.lenV, _, _, rfl, bb, g, ar.length, rfl, B2, by rw [List.length_map], lar, by omega, fun r H4 hr f4 B4 => ?_⟩
    have f04 := f2.trans f4
    have ea4 := f4.at (B2.notOf ea2 (fun xs z => by cases z)).1 (B2.notOf ea2 (fun xs z => by cases z)).2 ea2
    have har : ar[r]? = some ar[r] := getI hr
    have ha2 := h2 _ (List.getElem_mem hr)
    have ez4 := f4.at pb pg ez
    have lzs : zs.length = W.length := by rw [nz.length, List.length_map]
    refine ⟨_, rfl, tyL ez4, _, rfl, _, rfl, _, rfl, _, _, _, _, rfl, rfl, .of ea4, atI_nat (gmap har), _, rfl, by omega, by omega, ?_⟩
    rw [Int.toNat_natCast]
    refine lc_bg walk_r0 (fun j acc _ => ∃ ps : List Nat, acc = ps.map (fun n : Nat => V.int n) ∧ ps.length = j ∧ ∀ p ∈ ps, p < 1 + i) (Nat.le_trans ha2 (by decide)) B4 (fun _ _ _ _ _ r => r) (fun j acc H ⟨ps, e, h, _⟩ => by rw [e, List.length_map]; omega) (fun _ _ => trivial) ⟨[], rfl, rfl, fun _ h => nomatch h⟩ ?_ ?_
    · rintro j x acc H5 H6 Kd Kn hj f5 B5 ⟨ps, rfl, hps, hlt⟩ kd kn ⟨rfl, rfl⟩
      have emin : (if (3 : Int) < 1 + (i : Int) then (3 : Int) else 1 + (i : Int)) = ((min 3 (1 + i) : Nat) : Int) := by
        split <;> omega
      refine ⟨rfl, yes ⟨_, rfl, _, _, rfl, rfl, _, rfl, _, rfl, _, _, rfl, _, _, rfl, bb, g, min 3 (1 + i), rfl, B5, congrArg V.int emin, by omega, by omega, fun r2 H7 hr2 f7 B7 => ⟨_, _, rfl, rfl, ?_⟩⟩⟩
      have e2 : (1 + (i : Int)) - 1 - (r2 : Int) = ((i - r2 : Nat) : Int) := by omega
      have := kd (.int ((i - r2 : Nat) : Int)) H7 f7 B7 ⟨ps ++ [i - r2], by rw [List.map_append]; rfl, by rw [List.length_append, List.length_singleton, hps], fun p hp => by
        rcases List.mem_append.mp hp with h | h
        · exact hlt p h
        · rw [List.mem_singleton.mp h]; omega⟩
      rw [← e2] at this
      exact this
    · rintro acc H5 p5 f5 B5 e5 n5 ⟨ps, rfl, hps, hlt⟩
      have ez5 := f5.at pb pg ez4
      refine ⟨p5, _, rfl, .inl ⟨.of e5, fun p6 np6 => ?_⟩⟩
      have s6 : Same H5 (upd H5 p6 (.tup (ps.map fun n : Nat => V.int n))) := same_upd np6
      have nps : Nk (upd H5 p6 (.tup (ps.map fun n : Nat => V.int n))) (.ref p6) (eL ps) := .ofNums upd_same
      have B6 := B5.same s6
      generalize upd H5 p6 (.tup (ps.map fun n : Nat => V.int n)) = H6 at s6 nps B6 ⊢
      have ez6 := s6 _ _ ez5
      refine ⟨by show 2 ≤ sizeLine; decide, fun p7 np7 => ?_⟩
      have s7 : Same H6 (upd H6 p7 (.tup [.int (r : Nat), .ref p6])) := same_upd np7
      have ez7 := s7 _ _ ez6
      have B7 := B6.same s7
      have f7 : Bg bb g H (upd H6 p7 (.tup [.int (r : Nat), .ref p6])) := f04.trans (f5.trans (Bg.of (smT s6 s7)))
      refine ⟨p, zs, _, rfl, rfl, ez7, Nat.lt_of_le_of_lt (show _ ≤ 9 by omega) (by decide), ?_⟩
      have kt := chkpt (ys := zs ++ [V.ref p7]) ez7
      have k27 : KpT H3 (upd H6 p7 (.tup [.int (r : Nat), .ref p6])) := ((f4.kpt B2).trans (f5.kpt B4)).trans (.of (smT s6 s7))
      refine ⟨_, _, _, rfl, ?_, ?_, zs ++ [.ref p7], W ++ [(r, ps)], upd_same, ?_, by rw [List.length_append, List.length_singleton, lW], ?_⟩
      · intro x o hx e
        have e7 := f7 x o hx e
        by_cases hxp : x = p
        · rw [hxp] at e; rw [none_back s0 np] at e; cases e
        · rw [upd_ne hxp]; exact e7
      · exact Bag.over (upd H6 p7 (.tup [.int (r : Nat), .ref p6])) _ (fun s hs o e => by
          rw [upd_ne (fun z => by
            rcases List.mem_cons.mp hs with h | h
            · exact pb (z.symm.trans h)
            · exact pg (z.symm.trans (List.mem_singleton.mp h)))]; exact e) B7
      · rw [List.map_append]
        exact NkA.snoc ((Nk.of2 upd_same (.int _) (nps.keep (.of s7))).keep kt) ((nz.keep k27).keep kt)
      · refine ⟨fun j v hv => ?_, by rw [List.getElem?_append_left (by omega)]; exact okW.z⟩
        by_cases hj : j < W.length
        · rw [List.getElem?_append_left hj] at hv
          exact okW.ok j v hv
        · rw [List.getElem?_append_right (by omega)] at hv
          have hj0 : j - W.length = 0 := by
            have := (List.getElem?_eq_some_iff.mp hv).1
            rw [List.length_singleton] at this; omega
          rw [hj0] at hv
          have : v = (r, ps) := (Option.some.inj hv).symm
          rw [this]
          exact ⟨by rw [har, hps], fun p hp => by have := hlt p hp; omega⟩
  · rintro σ H2 ⟨x4, x5, x6, rfl, f2, B2, zs, W, ez, nz, lW, okW⟩
    refine ⟨_, rfl, p, zs, rfl, .inl ⟨.of ez, fun p9 np9 => ?_⟩⟩
    have s9 : Same H2 (upd H2 p9 (.tup zs)) := same_upd np9
    exact q W _ _ (by omega) okW (f2.trans (Bg.of s9)) (B2.same s9) (.tup upd_same (nz.keep (.of s9)))
end K19
set_option maxHeartbeats 4000000
namespace K19
open PySem PySem.Spec PyProof.Rows L2
theorem bgB {b g p : Addr} {H H3 H4 : Hp} (np : H p = none) (f : Bg b g H H3) (x : But p H3 H4) : Bg b g H H4 := fun c o hc e => by
  rw [x c (fun z => by rw [z, np] at e; cases e)]; exact f c o hc e
theorem Bag.but {b g p : Addr} {H3 H4 : Hp} (B : Bag H3 b g) (x : But p H3 H4) (pb : p ≠ b) (pg : p ≠ g) : Bag H4 b g :=
  Bag.over H3 H4 (fun s hs o e => by
    rw [x s (fun z => by
      rcases List.mem_cons.mp hs with h | h
      · exact pb (z.symm.trans h)
      · exact pg (z.symm.trans (List.mem_singleton.mp h)))]; exact e) B
/-- a rule's head that fits -/
structure HdOk (ar : List Nat) (ks : Nat) (h : Nat × List Nat × Nat) : Prop where
  ar : ar[h.1]? = some h.2.1.length
  src : ∀ s ∈ h.2.1, s < ks
  tgt : h.2.2 < ks
def toR (pc : Nat × List Nat × Nat → Nat) (h : Nat × List Nat × Nat) : Rl := ⟨h.1, h.2.1, h.2.2, pc h⟩
def toM (pc : Thg → Nat) (h : Thg) : Mv := ⟨h.1, h.2, pc h⟩
/-- drawn rules, drawn moves -/
def RsAt (P : Program) (w : World) (H : Hp) (p : Addr) (ar : List Nat) (ks n : Nat) (hs : List (Nat × List Nat × Nat)) (pc : Nat × List Nat × Nat → Nat) : Prop := ∃ f, DM P w H p eH hs f ∧ hs.length ≤ n ∧ ∀ h ∈ hs, f h = .int (pc h : Nat) ∧ HdOk ar ks h ∧ 1 ≤ pc h ∧ pc h ≤ 1000
def MsAt (P : Program) (w : World) (H : Hp) (p : Addr) (ks n : Nat) (hs : List Thg) (pc : Thg → Nat) : Prop := ∃ f, DM P w H p eT hs f ∧ hs.length ≤ n ∧ ∀ h ∈ hs, f h = .int (pc h : Nat) ∧ h.1 < ks ∧ h.2 < ks ∧ h.1 ≠ h.2 ∧ 1 ≤ pc h ∧ pc h ≤ 1000
theorem insL_len {α : Type} [DecidableEq α] {ts : List α} {t : α} : (insL ts t).length ≤ ts.length + 1 := by
  unfold insL
  split
  · omega
  · rw [List.length_append, List.length_singleton]; exact Nat.le_refl _
theorem rs_new {P : Program} {w : World} {H' : Hp} {p : Addr} {ar : List Nat} {ks n c : Nat} {hs : List (Nat × List Nat × Nat)} {pc : Nat × List Nat × Nat → Nat} {f : Nat × List Nat × Nat → V} {h : Nat × List Nat × Nat} {i : Int}
    (d : DM P w H' p eH (insL hs h) (updF f h (.int i))) (hl : hs.length ≤ n) (hv : ∀ h ∈ hs, f h = .int (pc h : Nat) ∧ HdOk ar ks h ∧ 1 ≤ pc h ∧ pc h ≤ 1000) (hd : HdOk ar ks h) (hi : i = (c : Nat)) (c1 : 1 ≤ c) (c2 : c ≤ 1000) :
    RsAt P w H' p ar ks (n + 1) (insL hs h) (fun u => if u = h then c else pc u) := by
  refine ⟨_, d, Nat.le_trans insL_len (by omega), fun u hu => ?_⟩
  unfold updF
  by_cases e : u = h
  · rw [if_pos e]
    show V.int i = V.int ((if u = h then c else pc u : Nat) : Int) ∧ HdOk ar ks u ∧ 1 ≤ (if u = h then c else pc u) ∧ (if u = h then c else pc u) ≤ 1000
    rw [if_pos e, hi, e]
    exact ⟨rfl, hd, c1, c2⟩
  · rw [if_neg e]
    show f u = V.int ((if u = h then c else pc u : Nat) : Int) ∧ HdOk ar ks u ∧ 1 ≤ (if u = h then c else pc u) ∧ (if u = h then c else pc u) ≤ 1000
    rw [if_neg e]
    exact hv u ((mem_insL.mp hu).resolve_right e)
theorem ms_new {P : Program} {w : World} {H' : Hp} {p : Addr} {ks n c : Nat} {hs : List Thg} {pc : Thg → Nat} {f : Thg → V} {h : Thg} {i : Int}
    (d : DM P w H' p eT (insL hs h) (updF f h (.int i))) (hl : hs.length ≤ n) (hv : ∀ h ∈ hs, f h = .int (pc h : Nat) ∧ h.1 < ks ∧ h.2 < ks ∧ h.1 ≠ h.2 ∧ 1 ≤ pc h ∧ pc h ≤ 1000) (hd : h.1 < ks ∧ h.2 < ks ∧ h.1 ≠ h.2) (hi : i = (c : Nat)) (c1 : 1 ≤ c) (c2 : c ≤ 1000) :
    MsAt P w H' p ks (n + 1) (insL hs h) (fun u => if u = h then c else pc u) := by
  refine ⟨_, d, Nat.le_trans insL_len (by omega), fun u hu => ?_⟩
  unfold updF
  by_cases e : u = h
  · rw [if_pos e]
    show V.int i = V.int ((if u = h then c else pc u : Nat) : Int) ∧ u.1 < ks ∧ u.2 < ks ∧ u.1 ≠ u.2 ∧ 1 ≤ (if u = h then c else pc u) ∧ (if u = h then c else pc u) ≤ 1000
    rw [if_pos e, hi, e]
    exact ⟨rfl, hd.1, hd.2.1, hd.2.2, c1, c2⟩
  · rw [if_neg e]
    show f u = V.int ((if u = h then c else pc u : Nat) : Int) ∧ u.1 < ks ∧ u.2 < ks ∧ u.1 ≠ u.2 ∧ 1 ≤ (if u = h then c else pc u) ∧ (if u = h then c else pc u) ≤ 1000
    rw [if_neg e]
    exact hv u ((mem_insL.mp hu).resolve_right e)
theorem nkp {α : Type} {e : α → NestedKey} {H : Hp} : ∀ {M : List α} {g : α → V} {bs : List Addr}, Paired (fun (kv : NestedKey × V) (b : Addr) => Nk H (.ref b) kv.1) (M.map fun t => (e t, g t)) bs → NkA H (bs.map V.ref) (M.map e)
  | [], _, _, h => by cases h; exact .nil
  | t :: M, g, _, h => by
    cases h with
    | cons a b => exact .cons a (nkp b)
theorem Nk.hd {H : Hp} {v : V} {h : Nat × List Nat × Nat} (n : Nk H v (eH h)) : ∃ a x, v = .ref a ∧ H a = some (.tup [.int (h.1 : Nat), x, .int (h.2.2 : Nat)]) ∧ Nk H x (eL h.2.1) := by
  obtain ⟨a, xs, rfl, e, r⟩ := n.tupE
  cases r with
  | cons r1 r => cases r with
    | cons r2 r => cases r with
      | cons r3 r => cases r; cases r1; cases r3; exact ⟨a, _, rfl, e, r2⟩
theorem rd_many {P : Program} {w : World} {K : PySem.W.Frag} {CB CW : Addr} {E : XK} {σ : L2.St} {H : Hp} {R : It → Hp → Prop} {bb g : Addr} {ks : Nat} (h0 : σ[0]? = some (some (.ref bb))) (h2 : σ[2]? = some (some (.int (ks : Nat)))) (B : Bag H bb g) (k1 : 2 ≤ ks) (k2 : ks ≤ 5)
    (q : ∀ n H', n ≤ 12 → Bg bb g H H' → Bag H' bb g → R (Itr 0 n) H') :
    iRng1 (tCons (tIf (tTest (tOp (rI0 fun i j => .bl (decide (i < j))) (tCall (sp_law_pick P w K CB CW) [] E (tCons (tVar 0) (tCons (tC (.int 3)) tNil))) (tC (.int 2)))) (tCall (sp_law_pick P w K CB CW) [] E (tCons (tVar 0) (tCons (tC (.int 3)) tNil)))
      (tOp (rI0 fun i j => .int (i + j)) (tC (.int 3)) (tCall (sp_law_pick P w K CB CW) [] E (tCons (tVar 0) (tCons (tOp (rI CMul fun i j => .int (i * j)) (tC (.int 2)) (tVar 2)) tNil))))) tNil) σ H R := by
  refine ⟨_, h0, _, _, rfl, bb, g, 3, rfl, B, rfl, by decide, by decide, fun r1 H1 hr1 f1 B1 => ⟨_, _, rfl, rfl, _, rfl, ?_⟩⟩
  refine iteB (fun _ => ?_) (fun _ => ?_)
  · refine ⟨_, h0, _, _, rfl, bb, g, 3, rfl, B1, rfl, by decide, by decide, fun r2 H2 hr2 f2 B2 => ⟨_, rfl, by omega, by omega, ?_⟩⟩
    rw [Int.toNat_natCast]
    exact q r2 H2 (by omega) (f1.trans f2) B2
  · refine ⟨_, h0, _, h2, _, _, rfl, rfl, .inl ⟨by decide, by decide⟩, _, _, rfl, bb, g, 2 * ks, rfl, B1, ?_, by omega, by omega, fun r2 H2 hr2 f2 B2 => ⟨_, _, rfl, rfl, _, rfl, by omega, by omega, ?_⟩⟩
    · congr 1
    · have e : (3 + (r2 : Int)).toNat = 3 + r2 := by omega
      rw [e]
      exact q _ H2 (by omega) (f1.trans f2) B2
theorem gNm {i : Nat} {v : V} {σ : L2.St} {H : Hp} {Q : L2.St → Hp → Prop} (q : Q (σ.set i (some v)) H) : gName i v σ H Q := q
theorem sqS {t u : TS} {D : Ends} {σ : L2.St} {H : Hp} (q : t { D with nx := u D } σ H) : tSeq t u D σ H := q
theorem rd_manyF {P : Program} {w : World} {K : PySem.W.Frag} {CB CW : Addr} {E : XK} {σ : L2.St} {H : Hp} {bb g : Addr} {ks : Nat} {gt : TG} {tb : TS} {D : Ends} (h0 : σ[0]? = some (some (.ref bb))) (h2 : σ[2]? = some (some (.int (ks : Nat)))) (B : Bag H bb g) (k1 : 2 ≤ ks) (k2 : ks ≤ 5)
    (q : ∀ n H', n ≤ 12 → Bg bb g H H' → Bag H' bb g → tFor (fun _ _ R => R (Itr 0 n) H') gt tb D σ H') :
    tFor (iRng1 (tCons (tIf (tTest (tOp (rI0 fun i j => .bl (decide (i < j))) (tCall (sp_law_pick P w K CB CW) [] E (tCons (tVar 0) (tCons (tC (.int 3)) tNil))) (tC (.int 2)))) (tCall (sp_law_pick P w K CB CW) [] E (tCons (tVar 0) (tCons (tC (.int 3)) tNil)))
      (tOp (rI0 fun i j => .int (i + j)) (tC (.int 3)) (tCall (sp_law_pick P w K CB CW) [] E (tCons (tVar 0) (tCons (tOp (rI CMul fun i j => .int (i * j)) (tC (.int 2)) (tVar 2)) tNil))))) tNil)) gt tb D σ H :=
  rd_many h0 h2 B k1 k2 fun n H' a b c => q n H' a b c
def sp_law_book (P : Program) (w : World) (K : PySem.W.Frag) (CB CW : Addr) : Sp := fun vs H Q _ => ∃ a b c d, vs = [a, b, c, d] ∧ ∃ (bb g : Addr) (ops ks most : Nat), a = .ref bb ∧ Bag H bb g ∧ b = .int (ops : Nat) ∧ c = .int (ks : Nat) ∧ d = .int (most : Nat) ∧ 2 ≤ ops ∧ ops ≤ 5 ∧ 2 ≤ ks ∧ ks ≤ 5 ∧ 1 ≤ most ∧ most ≤ 1000 ∧
  ∀ (bk : Bk) r H', bk.Ok → bk.ar[0]? = some 0 → (∃ rl ∈ bk.rs, rl.op = 0) → Bg bb g H H' → Bag H' bb g → Nk H' r (eB bk) → Q r H'
abbrev n_law_book : List Str := ["_law_bag_here", "_law_ops", "_law_kinds", "_law_most", "_law_arities", "_law_rules", "_law_op", "_law_turn", "_law_sources", "_law_moves", "_law_one", "_law_other", "_law_rows", "_law_key", "_law_part"]
theorem sc_law_book : FnScope n_law_book ["_law_bag_here", "_law_ops", "_law_kinds", "_law_most"] (defScope s_law_book) := ⟨rfl, rfl, rfl, by decide +kernel, rfl, by decide +kernel, by decide +kernel⟩
theorem cl_law_book {P : Program} {w : World} {K : PySem.W.Frag} {mg : Str → Option Value} {base : Heap} {CB CW : Addr} (Z : Fx K mg CB CW) : Cl P w K mg base "_law_book" 2 ["_law_bag_here", "_law_ops", "_law_kinds", "_law_most"] (sp_law_book P w K CB CW) := by
  refine Z.d_law_book.cl (N := n_law_book) (k := 1) sc_law_book (fun vs H Q E h => by obtain ⟨_, _, _, _, rfl, _⟩ := h; rfl) (fun _ _ _ _ _ _ us hl => match us, hl with | [_, _, _, _], _ => rfl) fun f cdv A outer s H0 E0 hr => ⟨_, (pss_cons (ps_set (i := 4) sc_law_book.nd rfl (Or.inl rfl) (pe_op (qcat (by exact ⟨rfl, rfl, rfl⟩ : At _ P w K)) (pe_tup (pa_cons pe_int pa_nil)) (pe_callTy (qtup (by exact ⟨rfl, rfl, rfl⟩ : At _ P w K)) rfl Z.f_tuple bt_tuple (pa_cons (pe_lc (own := [("_law_op", 6)]) rfl sc_law_book.nd (pi_range2 rfl Z.f_range (pa_cons pe_int (pa_cons (pv 1) pa_nil))) (blkOk_by (N := n_law_book) (sc := defScope s_law_book) (by decide +kernel)) (fun _ _ _ _ _ => (pg_name (i := 6) sc_law_book.nd rfl (by first | exact Or.inl rfl | exact Or.inr rfl))) (fun _ _ _ _ _ => pts_nil) (fun _ _ _ _ _ => (pe_ifExp (pt_cmpR op_gt (pe_cl (cl_law_pick (P := P) (w := w) (K := K) (base := base) Z) hr (by decide) rfl (pa_cons (pv 0) (pa_cons pe_int pa_nil))) pe_int (nomark _)) (pe_op op_add pe_int (pe_callTy call_int1 rfl Z.f_int bt_int (pa_cons (pe_cmpR op_eq (pe_cl (cl_law_pick (P := P) (w := w) (K := K) (base := base) Z) hr (by decide) rfl (pa_cons (pv 0) (pa_cons pe_int pa_nil))) pe_int (nomark _)) pa_nil))) pe_int))) pa_nil)))) (pss_cons (ps_set (i := 5) sc_law_book.nd rfl (Or.inr rfl) (qdnew (by exact ⟨rfl, rfl, rfl⟩ : At _ P w K))) (pss_cons (ps_for PassesOwn.never rfl (pi_range1 rfl Z.f_range (pa_cons (pv 1) pa_nil)) (pg_name (i := 6) sc_law_book.nd rfl (Or.inl rfl)) (pss_one (ps_for PassesOwn.never rfl (pi_range1 rfl Z.f_range (pa_cons (pe_op op_add pe_int (pe_cl (cl_law_pick (P := P) (w := w) (K := K) (base := base) Z) hr (by decide) rfl (pa_cons (pv 0) (pa_cons pe_int pa_nil)))) pa_nil)) (pg_name (i := 7) sc_law_book.nd rfl (Or.inl rfl)) (pss_cons (ps_set (i := 8) sc_law_book.nd rfl (Or.inl rfl) (pe_callTy (qtup (by exact ⟨rfl, rfl, rfl⟩ : At _ P w K)) rfl Z.f_tuple bt_tuple (pa_cons (pe_lc (own := [("_law_part", 14)]) rfl sc_law_book.nd (pi_range1 rfl Z.f_range (pa_cons (pe_ix (qixT (by exact ⟨rfl, rfl, rfl⟩ : At _ P w K)) (pv 4) (pv 6) (fun _ _ => rfl)) pa_nil)) (blkOk_by (N := n_law_book) (sc := defScope s_law_book) (by decide +kernel)) (fun _ _ _ _ _ => (pg_name (i := 14) sc_law_book.nd rfl (by first | exact Or.inl rfl | exact Or.inr rfl))) (fun _ _ _ _ _ => pts_nil) (fun _ _ _ _ _ => (pe_cl (cl_law_pick (P := P) (w := w) (K := K) (base := base) Z) hr (by decide) rfl (pa_cons (pv 0) (pa_cons (pv 2) pa_nil))))) pa_nil))) (pss_one (qnput (by exact ⟨rfl, rfl, rfl⟩ : At _ P w K) hr.units (pv 5) (pe_tup (pa_cons (pv 6) (pa_cons (pv 8) (pa_cons (pe_cl (cl_law_pick (P := P) (w := w) (K := K) (base := base) Z) hr (by decide) rfl (pa_cons (pv 0) (pa_cons (pv 2) pa_nil))) pa_nil)))) (pe_op op_add pe_int (pe_cl (cl_law_pick (P := P) (w := w) (K := K) (base := base) Z) hr (by decide) rfl (pa_cons (pv 0) (pa_cons (pv 3) pa_nil)))) rfl)))))) (pss_cons (ps_set (i := 9) sc_law_book.nd rfl (Or.inr rfl) (qdnew (by exact ⟨rfl, rfl, rfl⟩ : At _ P w K))) (pss_cons (ps_for PassesOwn.never rfl (pi_range1 rfl Z.f_range (pa_cons (pe_ifExp (pt_cmpR op_lt (pe_cl (cl_law_pick (P := P) (w := w) (K := K) (base := base) Z) hr (by decide) rfl (pa_cons (pv 0) (pa_cons pe_int pa_nil))) pe_int (nomark _)) (pe_cl (cl_law_pick (P := P) (w := w) (K := K) (base := base) Z) hr (by decide) rfl (pa_cons (pv 0) (pa_cons pe_int pa_nil))) (pe_op op_add pe_int (pe_cl (cl_law_pick (P := P) (w := w) (K := K) (base := base) Z) hr (by decide) rfl (pa_cons (pv 0) (pa_cons (pe_op op_mul pe_int (pv 2)) pa_nil))))) pa_nil)) (pg_name (i := 7) sc_law_book.nd rfl (Or.inl rfl)) (pss_cons (ps_par (i := 10) (j := 11) rfl sc_law_book.nd rfl rfl (by decide) rfl rfl (pa_cons (pe_cl (cl_law_pick (P := P) (w := w) (K := K) (base := base) Z) hr (by decide) rfl (pa_cons (pv 0) (pa_cons (pv 2) pa_nil))) (pa_cons (pe_cl (cl_law_pick (P := P) (w := w) (K := K) (base := base) Z) hr (by decide) rfl (pa_cons (pv 0) (pa_cons (pv 2) pa_nil))) pa_nil)) rfl) (pss_one (ps_if (pt_cmpR op_ne (pv 10) (pv 11) (nomark _)) (pss_one (qnput (by exact ⟨rfl, rfl, rfl⟩ : At _ P w K) hr.units (pv 9) (pe_tup (pa_cons (pv 10) (pa_cons (pv 11) pa_nil))) (pe_op op_add pe_int (pe_cl (cl_law_pick (P := P) (w := w) (K := K) (base := base) Z) hr (by decide) rfl (pa_cons (pv 0) (pa_cons (pv 3) pa_nil)))) rfl)) pss_nil)))) (pss_cons (ps_set (i := 12) sc_law_book.nd rfl (Or.inl rfl) (pe_callTy (qtup (by exact ⟨rfl, rfl, rfl⟩ : At _ P w K)) rfl Z.f_tuple bt_tuple (pa_cons (pe_lc (own := [("_law_key", 13)]) rfl sc_law_book.nd (qpiN (by exact ⟨rfl, rfl, rfl⟩ : At _ P w K) (pv 5)) (blkOk_by (N := n_law_book) (sc := defScope s_law_book) (by decide +kernel)) (fun _ _ _ _ _ => (pg_name (i := 13) sc_law_book.nd rfl (by first | exact Or.inl rfl | exact Or.inr rfl))) (fun _ _ _ _ _ => pts_nil) (fun _ _ _ _ _ => (pe_op (qcat (by exact ⟨rfl, rfl, rfl⟩ : At _ P w K)) (pv 13) (pe_tup (pa_cons (qnget (by exact ⟨rfl, rfl, rfl⟩ : At _ P w K) hr.units (pv 5) (pv 13) (fun _ _ => rfl)) pa_nil))))) pa_nil))) (pss_one (ps_ret (pe_tup (pa_cons (pv 4) (pa_cons (pv 2) (pa_cons (pv 12) (pa_cons (pe_callTy (qtup (by exact ⟨rfl, rfl, rfl⟩ : At _ P w K)) rfl Z.f_tuple bt_tuple (pa_cons (pe_lc (own := [("_law_key", 13)]) rfl sc_law_book.nd (qpiN (by exact ⟨rfl, rfl, rfl⟩ : At _ P w K) (pv 9)) (blkOk_by (N := n_law_book) (sc := defScope s_law_book) (by decide +kernel)) (fun _ _ _ _ _ => (pg_name (i := 13) sc_law_book.nd rfl (by first | exact Or.inl rfl | exact Or.inr rfl))) (fun _ _ _ _ _ => pts_nil) (fun _ _ _ _ _ => (pe_op (qcat (by exact ⟨rfl, rfl, rfl⟩ : At _ P w K)) (pv 13) (pe_tup (pa_cons (qnget (by exact ⟨rfl, rfl, rfl⟩ : At _ P w K) hr.units (pv 9) (pv 13) (fun _ _ => rfl)) pa_nil))))) pa_nil)) pa_nil))))))))))))), fun vs H Q E h => ?_⟩
  obtain ⟨v0, v1, v2, v3, rfl, h⟩ := h
  obtain ⟨bb, g, ops, ks, most, rfl, B, rfl, rfl, rfl, o1, o2, k1, k2, m1, m2, q⟩ := h
  refine ⟨by show 1 ≤ sizeLine; decide, fun pz npz => ?_⟩
  have sz : Same H (upd H pz (.tup [.int 0])) := same_upd npz
  have ez : (upd H pz (.tup [.int 0])) pz = some (.tup [.int 0]) := upd_same
  have Bz := B.same sz
  generalize upd H pz (.tup [.int 0]) = Hz at sz ez Bz ⊢
  refine ⟨_, rfl, _, _, rfl, ⟨by omega, by omega, by omega, by omega⟩, ?_⟩
  have e1 : ((ops : Int) - 1).toNat = ops - 1 := by omega
  rw [e1]
  refine lc_bg walk_range (fun j acc _ => ∃ as : List Nat, acc = as.map (fun n : Nat => V.int n) ∧ as.length = j ∧ ∀ a ∈ as, a ≤ 2) (Nat.le_trans (show _ ≤ 5 by omega) (by decide)) Bz (fun _ _ _ _ _ r => r) (fun j acc H ⟨ps, e, h, _⟩ => by rw [e, List.length_map]; omega) (fun _ _ => trivial) ⟨[], rfl, rfl, fun _ h => nomatch h⟩ ?_ ?_
  · rintro j x acc H5 H6 Kd Kn hj f5 B5 ⟨as, rfl, has, hle⟩ kd kn ⟨rfl, rfl⟩
    refine ⟨rfl, yes ⟨_, rfl, _, _, rfl, bb, g, 5, rfl, B5, rfl, by decide, by decide, fun r1 H7 hr1 f7 B7 => ⟨_, _, rfl, rfl, _, rfl, ?_⟩⟩⟩
    refine iteB (fun _ => ?_) (fun _ => ?_)
    · refine ⟨_, rfl, _, _, rfl, bb, g, 3, rfl, B7, rfl, by decide, by decide, fun r2 H8 hr2 f8 B8 => ⟨rfl, .inr ⟨_, rfl, _, _, rfl, rfl, ?_⟩⟩⟩
      have fin : ∀ k : Bool, Kd (.int (1 + (if k = true then 1 else 0))) H8 := fun k => by
        have := kd (.int ((if k = true then 2 else 1 : Nat) : Int)) H8 (f7.trans f8) B8 ⟨as ++ [if k = true then 2 else 1], by rw [List.map_append]; rfl, by rw [List.length_append, List.length_singleton, has], fun a ha => by
          rcases List.mem_append.mp ha with h | h
          · exact hle a h
          · rw [List.mem_singleton.mp h]; split <;> omega⟩
        cases k with
        | true => exact this
        | false => exact this
      exact fin _
    · exact kd (.int ((0 : Nat) : Int)) H7 f7 B7 ⟨as ++ [0], by rw [List.map_append]; rfl, by rw [List.length_append, List.length_singleton, has], fun a ha => by
        rcases List.mem_append.mp ha with h | h
        · exact hle a h
        · rw [List.mem_singleton.mp h]; omega⟩
  rintro acc H5 p5 f5 B5 e5 n5 ⟨as, rfl, has, hle⟩
  have ez5 := f5.at (Bz.notOf ez (fun xs z => by cases z)).1 (Bz.notOf ez (fun xs z => by cases z)).2 ez
  refine ⟨p5, _, rfl, .inl ⟨.of e5, fun p6 np6 => ?_⟩⟩
  have s6 : Same H5 (upd H5 p6 (.tup (as.map fun n : Nat => V.int n))) := same_upd np6
  have ne6 : (as.map fun n : Nat => V.int (n : Int)) ≠ [] := fun z => by
    have := congrArg List.length z
    rw [List.length_map, List.length_nil] at this; omega
  refine ⟨pz, p6, _, _, rfl, rfl, .of (s6 _ _ ez5), .of upd_same, by simp, ?_, fun z => absurd z ne6, fun _ pa npa => ?_⟩
  · rw [List.length_map]; exact Nat.le_trans (show _ ≤ 6 by show 1 + _ ≤ 6; omega) (by decide)
  have sa : Same H5 (upd (upd H5 p6 (.tup (as.map fun n : Nat => V.int n))) pa (.tup ([.int 0] ++ as.map fun n : Nat => V.int n))) := smT s6 (same_upd npa)
  have nar : Nk (upd (upd H5 p6 (.tup (as.map fun n : Nat => V.int n))) pa (.tup ([.int 0] ++ as.map fun n : Nat => V.int n))) (.ref pa) (eL (0 :: as)) := .ofNums (l := 0 :: as) upd_same
  have fa : Bg bb g H (upd (upd H5 p6 (.tup (as.map fun n : Nat => V.int n))) pa (.tup ([.int 0] ++ as.map fun n : Nat => V.int n))) := (Bg.of sz).trans (f5.trans (Bg.of sa))
  have Ba := B5.same sa
  generalize upd (upd H5 p6 (.tup (as.map fun n : Nat => V.int n))) pa (.tup ([.int 0] ++ as.map fun n : Nat => V.int n)) = Ha at sa nar fa Ba ⊢
  generalize har : 0 :: as = ar at nar
  have lar : ar.length = ops := by rw [← har, List.length_cons, has]; omega
  have har0 : ar[0]? = some 0 := by rw [← har]; rfl
  have har2 : ∀ a ∈ ar, a ≤ 2 := by
    rw [← har]; intro a ha
    rcases List.mem_cons.mp ha with h | h
    · omega
    · exact hle a h
  obtain ⟨_, ea0, ea⟩ := nar.nums
  cases ea0
  intro pr H1 npr b1 d1
  have B1 := Ba.same (b1.same npr)
  have fr1 : Bg bb g H H1 := fa.trans (Bg.of (b1.same npr))
  obtain ⟨prb, prg⟩ := Ba.notNone npr
  have npr0 : H pr = none := by
    cases e : H pr with
    | none => rfl
    | some o => rw [fa.at prb prg e] at npr; cases npr
  have ka1 := KpT.of (b1.same npr)
  refine ⟨_, rfl, _, rfl, by omega, by omega, ?_⟩
  rw [Int.toNat_natCast]
  refine for_it walk_r0 (fun i σ H2 => ∃ x6 x7 x8 x9 x10 x11 x12 x13 x14, σ = [some (.ref bb), some (.int (ops : Nat)), some (.int (ks : Nat)), some (.int (most : Nat)), some (.ref pa), some (.ref pr), x6, x7, x8, x9, x10, x11, x12, x13, x14] ∧ Bg bb g H H2 ∧ Bag H2 bb g ∧ KpT Ha H2 ∧ ∃ hs pc, RsAt P w H2 pr ar ks (3 * i) hs pc ∧ (0 < i → ∃ h ∈ hs, h.1 = 0))
    ⟨_, _, _, _, _, _, _, _, _, rfl, fr1, B1, ka1, [], fun _ => 0, ⟨fun _ => .non, d1, Nat.le_refl _, fun _ h => nomatch h⟩, fun z => absurd z (Nat.lt_irrefl _)⟩ (fun _ _ _ _ _ => trivial) ?_ ?_
  · rintro i x σ H2 H3 hi ⟨x6, x7, x8, x9, x10, x11, x12, x13, x14, rfl, f2, B2, k2', hs, pc, R2, z2⟩ ⟨rfl, rfl⟩
    refine ⟨_, rfl, _, _, rfl, bb, g, 3, rfl, B2, rfl, by decide, by decide, fun r1 H4 hr1 f4 B4 => ⟨_, _, rfl, rfl, _, rfl, by omega, by omega, ?_⟩⟩
    have e2 : (1 + (r1 : Int)).toNat = r1 + 1 := by omega
    rw [e2]
    obtain ⟨f2', d2, l2, v2⟩ := R2
    have d4 := d2.bg f4 B2
    refine for_it walk_r0 (fun j σ H5 => ∃ x7 x8 x9 x10 x11 x12 x13 x14, σ = [some (.ref bb), some (.int (ops : Nat)), some (.int (ks : Nat)), some (.int (most : Nat)), some (.ref pa), some (.ref pr), some (.int (i : Nat)), x7, x8, x9, x10, x11, x12, x13, x14] ∧ Bg bb g H H5 ∧ Bag H5 bb g ∧ KpT Ha H5 ∧ ∃ hs pc, RsAt P w H5 pr ar ks (3 * i + j) hs pc ∧ (0 < i ∨ 0 < j → ∃ h ∈ hs, h.1 = 0))
      ⟨_, _, _, _, _, _, _, _, rfl, f2.trans f4, B4, k2'.trans (f4.kpt B2), hs, pc, ⟨f2', d4, l2, v2⟩, fun z => z2 (by omega)⟩ (fun _ _ _ _ _ => trivial) ?_ ?_
    · rintro j x σ H5 H6 hj ⟨x7, x8, x9, x10, x11, x12, x13, x14, rfl, f5, B5, k5, hs, pc, ⟨f', d5, l5, v5⟩, z5⟩ ⟨rfl, rfl⟩
      have hil : i < ar.length := by omega
      have hari := getI hil
      have hai := har2 _ (List.getElem_mem hil)
      refine ⟨_, rfl, _, rfl, _, _, _, _, rfl, rfl, .of (k5 _ _ ea), atI_nat (gmap hari), _, rfl, by omega, by omega, ?_⟩
      rw [Int.toNat_natCast]
      refine lc_bg walk_r0 (fun j acc _ => ∃ ps : List Nat, acc = ps.map (fun n : Nat => V.int n) ∧ ps.length = j ∧ ∀ p ∈ ps, p < ks) (Nat.le_trans hai (by decide)) B5 (fun _ _ _ _ _ r => r) (fun j acc H ⟨ps, e, h, _⟩ => by rw [e, List.length_map]; omega) (fun _ _ => trivial) ⟨[], rfl, rfl, fun _ h => nomatch h⟩ ?_ ?_
      · rintro m x acc H7 H8 Kd Kn hm f7 B7 ⟨ps, rfl, hps, hlt⟩ kd kn ⟨rfl, rfl⟩
        refine ⟨rfl, yes ⟨_, rfl, _, rfl, _, _, rfl, bb, g, ks, rfl, B7, rfl, by omega, by omega, fun r H9 hr f9 B9 => kd _ H9 f9 B9 ⟨ps ++ [r], by rw [List.map_append]; rfl, by rw [List.length_append, List.length_singleton, hps], fun p hp => ?_⟩⟩⟩
        rcases List.mem_append.mp hp with h | h
        · exact hlt p h
        · rw [List.mem_singleton.mp h]; exact hr
      rintro acc H7 p7 f7 B7 e7 n7 ⟨ps, rfl, hps, hlt⟩
      refine ⟨p7, _, rfl, .inl ⟨.of e7, fun p8 np8 => ?_⟩⟩
      have s8 : Same H7 (upd H7 p8 (.tup (ps.map fun n : Nat => V.int n))) := same_upd np8
      have nps : Nk (upd H7 p8 (.tup (ps.map fun n : Nat => V.int n))) (.ref p8) (eL ps) := .ofNums upd_same
      have B8 := B7.same s8
      generalize upd H7 p8 (.tup (ps.map fun n : Nat => V.int n)) = H8 at s8 nps B8 ⊢
      refine ⟨_, rfl, _, rfl, _, _, rfl, bb, g, most, rfl, B8, rfl, m1, m2, fun r5 H9 hr5 f9 B9 => ⟨_, _, rfl, rfl, _, rfl, _, rfl, _, rfl, _, rfl, _, rfl, _, _, rfl, bb, g, ks, rfl, B9, rfl, by omega, by omega, fun r6 H10 hr6 f10 B10 => ⟨by show 3 ≤ sizeLine; decide, fun qk nqk => ?_⟩⟩⟩
      have f510 : Bg bb g _ H10 := f7.trans ((Bg.of s8).trans (f9.trans f10))
      have d10 := d5.bg f510 B5
      have sk : Same H10 (upd H10 qk (.tup [.int (i : Nat), .ref p8, .int (r6 : Nat)])) := same_upd nqk
      have nps10 := (nps.keep (f9.kpt B8)).keep (f10.kpt B9)
      have nkey : Nk (upd H10 qk (.tup [.int (i : Nat), .ref p8, .int (r6 : Nat)])) (.ref qk) (eH (i, ps, r6)) := pre3 upd_same (.int _) (nps10.keep (.of sk)) (.int _)
      have dk := d10.same sk
      have Bk' := B10.same sk
      refine dk.nput encH (t := (i, ps, r6)) (Nat.lt_of_le_of_lt (Nat.le_trans l5 (show _ ≤ 30 by omega)) (by decide)) nkey fun H11 b11 d11 => ?_
      have hd : HdOk ar ks (i, ps, r6) := ⟨by show ar[i]? = some ps.length; rw [hari, hps], hlt, hr6⟩
      refine ⟨_, _, _, _, _, _, _, _, rfl, bgB npr0 (f5.trans (f510.trans (Bg.of sk))) b11, Bk'.but b11 prb prg, ((k5.trans (f510.kpt B5)).trans (.of sk)).trans (b11.kpt (Dc.ntup dk)), _, _, rs_new (c := 1 + r5) d11 l5 v5 hd (by omega) (by omega) (by omega), fun _ => ?_⟩
      by_cases h0 : i = 0
      · exact ⟨(i, ps, r6), mem_insL.mpr (.inr rfl), h0⟩
      · obtain ⟨h, h1, h2⟩ := z5 (.inl (by omega))
        exact ⟨h, mem_insL.mpr (.inl h1), h2⟩
    · rintro σ H5 ⟨x7, x8, x9, x10, x11, x12, x13, x14, rfl, f5, B5, k5, hs, pc, ⟨f', d5, l5, v5⟩, z5⟩
      exact ⟨_, _, _, _, _, _, _, _, _, rfl, f5, B5, k5, hs, pc, ⟨f', d5, by omega, v5⟩, fun _ => z5 (.inr (by omega))⟩
  rintro σ H2 ⟨x6, x7, x8, x9, x10, x11, x12, x13, x14, rfl, f2, B2, k2', hs, pc, R2, z2⟩
  have z2 := z2 (by omega)
  intro pm H3 npm b3 d3
  obtain ⟨pmb, pmg⟩ := B2.notNone npm
  have npm0 : H pm = none := by
    cases e : H pm with
    | none => rfl
    | some o => rw [f2.at pmb pmg e] at npm; cases npm
  have s23 := b3.same npm
  have B3 := B2.same s23
  obtain ⟨fR, dR, lR, vR⟩ := R2
  have pre : pr ≠ pm := fun z => by obtain ⟨φ, e⟩ := dR.ext; rw [z, npm] at e; cases e
  refine gNm ?_
  refine sqS ?_
  refine rd_manyF rfl rfl B3 k1 k2 fun n H4 hn f4 B4 => ?_
  have d4 := (show DM P w H3 pm eT [] (fun _ => .non) from d3).bg f4 B3
  have dR4 := (dR.same s23).bg f4 B3
  refine for_it walk_r0 (fun i σ H5 => ∃ x6 x7 x8 x10 x11 x12 x13 x14, σ = [some (.ref bb), some (.int (ops : Nat)), some (.int (ks : Nat)), some (.int (most : Nat)), some (.ref pa), some (.ref pr), x6, x7, x8, some (.ref pm), x10, x11, x12, x13, x14] ∧ Bg bb g H H5 ∧ Bag H5 bb g ∧ KpT Ha H5 ∧ DM P w H5 pr eH hs fR ∧ ∃ ms pc, MsAt P w H5 pm ks i ms pc)
    ⟨_, _, _, _, _, _, _, _, rfl, f2.trans ((Bg.of s23).trans f4), B4, (k2'.trans (.of s23)).trans (f4.kpt B3), dR4, [], fun _ => 0, ⟨_, d4, Nat.le_refl _, fun _ h => nomatch h⟩⟩ (fun _ _ _ _ _ => trivial) ?_ ?_
  · rintro i x σ H5 H6 hi ⟨x6, x7, x8, x10, x11, x12, x13, x14, rfl, f5, B5, k5, dR5, ms, pcm, fM, dM, lM, vM⟩ ⟨rfl, rfl⟩
    refine ⟨_, rfl, _, rfl, _, _, rfl, bb, g, ks, rfl, B5, rfl, by omega, by omega, fun r1 H7 hr1 f7 B7 => ⟨_, rfl, _, rfl, _, _, rfl, bb, g, ks, rfl, B7, rfl, by omega, by omega, fun r2 H8 hr2 f8 B8 => ⟨_, _, rfl, ?_⟩⟩⟩
    have f58 := f7.trans f8
    refine ⟨_, rfl, _, rfl, rfl, _, rfl, ?_⟩
    by_cases h12 : r1 = r2
    · refine iteND (by rw [h12]) ⟨_, _, _, _, _, _, _, _, rfl, f5.trans f58, B8, k5.trans (f58.kpt B5), dR5.bg f58 B5, ms, pcm, fM, dM.bg f58 B5, by omega, vM⟩
    · refine iteNN (fun z => h12 (by have := V.int.inj z; omega)) ?_
      refine ⟨_, rfl, _, rfl, _, _, rfl, bb, g, most, rfl, B8, rfl, m1, m2, fun r5 H9 hr5 f9 B9 => ⟨_, _, rfl, rfl, _, rfl, _, rfl, _, rfl, by show 2 ≤ sizeLine; decide, fun qk nqk => ?_⟩⟩
      have f59 := f58.trans f9
      have d9 := dM.bg f59 B5
      have sk : Same H9 (upd H9 qk (.tup [.int (r1 : Nat), .int (r2 : Nat)])) := same_upd nqk
      have dk := d9.same sk
      have Bk' := B9.same sk
      refine dk.nput encT (t := (r1, r2)) (Nat.lt_of_le_of_lt (Nat.le_trans lM (show _ ≤ 12 by omega)) (by decide)) (.ofTh (t := (r1, r2)) upd_same) fun H11 b11 d11 => ?_
      exact ⟨_, _, _, _, _, _, _, _, rfl, bgB npm0 (f5.trans (f59.trans (Bg.of sk))) b11, Bk'.but b11 pmb pmg, ((k5.trans (f59.kpt B5)).trans (.of sk)).trans (b11.kpt (Dc.ntup dk)), ((dR5.bg f59 B5).same sk).but b11 pre (Dc.ntup dk), _, _, ms_new (c := 1 + r5) d11 lM vM ⟨hr1, hr2, h12⟩ (by omega) (by omega) (by omega)⟩
  rintro σ H5 ⟨x6, x7, x8, x10, x11, x12, x13, x14, rfl, f5, B5, k5, dR5, ms, pcm, fM, dM, lM, vM⟩
  refine ⟨_, rfl, pr, _, rfl, dR5, fun φ bs hφ pbs => ?_⟩
  have nb := nkp pbs
  have lbs : bs.length = hs.length := by rw [← Paired.length pbs, List.length_map]
  refine lc_sm walk_n (fun i acc H6 => NkA H6 acc ((hs.take i).map fun h => eR (toR pc h))) (by rw [lbs]; exact Nat.le_trans (Nat.le_trans lR (show _ ≤ 15 by omega)) (by decide)) (fun i acc H2 H3 t r => r.keep t) (fun i acc H2 r => by rw [r.length, List.length_map]; exact List.length_take_le _ _) (fun H2 s => s _ _ hφ) .nil ?_ ?_
  · rintro i x acc H6 H7 Kd Kn hi s6 r kd kn ⟨rfl, b, hb, rfl⟩
    obtain ⟨h, hh⟩ : ∃ h, hs[i]? = some h := ⟨_, getI (by omega)⟩
    obtain ⟨x', hx', nx0⟩ := nb.get (gmap hh)
    obtain rfl : x' = .ref b := by rw [List.getElem?_map, hb] at hx'; exact (Option.some.inj hx').symm
    have nx := nx0.keep (.of s6)
    obtain ⟨_, xs, eb0, eb, nxs⟩ := nx.hd
    cases eb0
    obtain ⟨v1, v2, v3, v4⟩ := vR h (List.mem_of_getElem? hh)
    refine ⟨rfl, yes ⟨_, rfl, _, rfl, _, rfl, pr, _, rfl, (dR5.same s6).ngetT encH nx (List.mem_of_getElem? hh), by show 1 ≤ sizeLine; decide, fun q1 nq1 => ?_⟩⟩
    rw [v1]
    have s1 : Same H7 (upd H7 q1 (.tup [.int (pc h : Nat)])) := same_upd nq1
    refine ⟨b, q1, _, _, rfl, rfl, .of (s1 _ _ eb), .of upd_same, by simp, by show 4 ≤ sizeLine; decide, (fun z => nomatch z), fun _ q2 nq2 => kd _ _ (smT s1 (same_upd nq2)) ?_⟩
    rw [take_snoc hh]
    have s2 := smT s1 (same_upd (o := .tup ([V.int (h.1 : Nat), xs, V.int (h.2.2 : Nat)] ++ [V.int (pc h : Nat)])) nq2)
    exact NkA.snoc (.tup upd_same (.cons (.int _) (.cons (nxs.keep (.of s2)) (.cons (.int _) (.cons (.int _) .nil))))) (r.keep (.of s2))
  intro acc H6 p6 s6 e6 n6 nrs
  rw [lbs, List.take_length] at nrs
  refine ⟨p6, _, rfl, .inl ⟨.of e6, fun p7 np7 => ?_⟩⟩
  have s7 : Same H6 (upd H6 p7 (.tup acc)) := same_upd np7
  have nR : Nk (upd H6 p7 (.tup acc)) (.ref p7) (.tup (hs.map fun h => eR (toR pc h))) := .tup upd_same (nrs.keep (.of s7))
  generalize upd H6 p7 (.tup acc) = H7 at s7 nR ⊢
  have s57 := smT s6 s7
  have dM7 := dM.same s57
  refine ⟨_, rfl, _, rfl, _, rfl, _, rfl, pm, _, rfl, dM7, fun φ bs hφ pbs => ?_⟩
  have nb := nkp pbs
  have lbs : bs.length = ms.length := by rw [← Paired.length pbs, List.length_map]
  refine lc_sm walk_n (fun i acc H8 => NkA H8 acc ((ms.take i).map fun h => eM (toM pcm h))) (by rw [lbs]; exact Nat.le_trans (Nat.le_trans lM (show _ ≤ 12 by omega)) (by decide)) (fun i acc H2 H3 t r => r.keep t) (fun i acc H2 r => by rw [r.length, List.length_map]; exact List.length_take_le _ _) (fun H2 s => s _ _ hφ) .nil ?_ ?_
  · rintro i x acc H8 H9 Kd Kn hi s8 r kd kn ⟨rfl, b, hb, rfl⟩
    obtain ⟨h, hh⟩ : ∃ h, ms[i]? = some h := ⟨_, getI (by omega)⟩
    obtain ⟨x', hx', nx0⟩ := nb.get (gmap hh)
    obtain rfl : x' = .ref b := by rw [List.getElem?_map, hb] at hx'; exact (Option.some.inj hx').symm
    have nx := nx0.keep (.of s8)
    obtain ⟨_, eb0, eb⟩ := nx.th
    cases eb0
    obtain ⟨v1, _⟩ := vM h (List.mem_of_getElem? hh)
    refine ⟨rfl, yes ⟨_, rfl, _, rfl, _, rfl, pm, _, rfl, (dM7.same s8).ngetT encT nx (List.mem_of_getElem? hh), by show 1 ≤ sizeLine; decide, fun q1 nq1 => ?_⟩⟩
    rw [v1]
    have s1 : Same H9 (upd H9 q1 (.tup [.int (pcm h : Nat)])) := same_upd nq1
    refine ⟨b, q1, _, _, rfl, rfl, .of (s1 _ _ eb), .of upd_same, by simp, by show 3 ≤ sizeLine; decide, (fun z => nomatch z), fun _ q2 nq2 => kd _ _ (smT s1 (same_upd nq2)) ?_⟩
    rw [take_snoc hh]
    have s2 := smT s1 (same_upd (o := .tup ([V.int (h.1 : Nat), V.int (h.2 : Nat)] ++ [V.int (pcm h : Nat)])) nq2)
    exact NkA.snoc (.tup upd_same (.cons (.int _) (.cons (.int _) (.cons (.int _) .nil)))) (r.keep (.of s2))
  intro acc2 H8 p8 s8 e8 n8 nms
  rw [lbs, List.take_length] at nms
  refine ⟨p8, _, rfl, .inl ⟨.of e8, fun p9 np9 => ?_⟩⟩
  have s9 : Same H8 (upd H8 p9 (.tup acc2)) := same_upd np9
  have nM : Nk (upd H8 p9 (.tup acc2)) (.ref p9) (.tup (ms.map fun h => eM (toM pcm h))) := .tup upd_same (nms.keep (.of s9))
  generalize upd H8 p9 (.tup acc2) = H9 at s9 nM ⊢
  have s79 := smT s8 s9
  have s59 := smT s57 s79
  refine ⟨by show 4 ≤ sizeLine; decide, fun pp npp => ?_⟩
  have sp : Same H9 (upd H9 pp (.tup [.ref pa, .int (ks : Nat), .ref p7, .ref p9])) := same_upd npp
  have ndh : hs.Nodup := dR.nd encH
  have ndm : ms.Nodup := dM.nd encT
  refine q ⟨ar, ks, hs.map (toR pc), ms.map (toM pcm)⟩ _ _ ⟨by show 1 ≤ ar.length; omega, by show ar.length ≤ 8; omega, har2, by show 1 ≤ ks; omega, k2, ?_, ?_, ?_, ?_, ?_, ?_⟩ har0 ?_ (f5.trans (Bg.of (smT s59 sp))) (B5.same (smT s59 sp)) (.tup upd_same (.cons ((nar.keep (k5.trans (.of s59))).keep (.of sp)) (.cons (.int _) (.cons ?_ (.cons ?_ .nil)))))
  · show (hs.map (toR pc)).length ≤ 40
    rw [List.length_map]; omega
  · show (ms.map (toM pcm)).length ≤ 20
    rw [List.length_map]; omega
  · intro r hr
    obtain ⟨h, hh, rfl⟩ := List.mem_map.mp hr
    obtain ⟨v1, v2, v3, v4⟩ := vR h hh
    exact ⟨v2.ar, v2.src, v2.tgt, v3, v4⟩
  · intro r hr
    obtain ⟨h, hh, rfl⟩ := List.mem_map.mp hr
    obtain ⟨v1, v2, v3, v4, v5, v6⟩ := vM h hh
    exact ⟨v2, v3, v4, v5, v6⟩
  · show ((hs.map (toR pc)).map Bk.hd).Nodup
    rw [List.map_map]
    have : (Bk.hd ∘ toR pc) = id := rfl
    rw [this, List.map_id]; exact ndh
  · show ((ms.map (toM pcm)).map fun m => (m.fr, m.to)).Nodup
    rw [List.map_map]
    have : ((fun m : Mv => (m.fr, m.to)) ∘ toM pcm) = id := rfl
    rw [this, List.map_id]; exact ndm
  · obtain ⟨h, h1, h2⟩ := z2
    exact ⟨toR pc h, List.mem_map_of_mem h1, h2⟩
  · show Nk _ _ (.tup ((hs.map (toR pc)).map eR))
    rw [List.map_map]; exact (nR.keep (.of s79)).keep (.of sp)
  · show Nk _ _ (.tup ((ms.map (toM pcm)).map eM))
    rw [List.map_map]; exact nM.keep (.of sp)
end K19
set_option maxHeartbeats 4000000
namespace K19
open PySem PySem.Spec PyProof.Rows L2
theorem srtT_eq {a b : List Thg} (h : a.Perm b) : srtT a = srtT b := srtT_uniq h
theorem mem_UF {bk : Bk} {W : List Vl} (ok : bk.Ok) (okW : WbOk bk W) {t : Thg} (h : t ∈ UM bk W) {y : Wy} : y ∈ UF bk W t ↔ y ∈ waysT bk W t ∧ ∀ n ∈ needsT bk W t y, n ∈ UM bk W := by
  rw [UF_eq ok okW h, List.mem_filter]
  constructor
  · rintro ⟨h1, h2⟩; exact ⟨h1, fun n hn => memB_iff.mp (List.all_eq_true.mp h2 n hn)⟩
  · rintro ⟨h1, h2⟩; exact ⟨h1, List.all_eq_true.mpr fun n hn => memB_t (h2 n hn)⟩
/-- there is always one that can be made next -/
theorem next_ready {bk : Bk} {W : List Vl} (ok : bk.Ok) (okW : WbOk bk W) {fs : List Thg} (h : fs.length < (UM bk W).length) : ∃ t ∈ UM bk W, t ∉ fs ∧ ∃ y ∈ UF bk W t, usab bk W fs t y = true := by
  refine Classical.byContradiction fun hn => ?_
  have all : ∀ t, Mk bk W t → t ∈ fs := by
    intro t ht
    induction ht with
    | mk h1 h2 h3 h4 ih =>
      rename_i t y
      refine Classical.byContradiction fun hf => hn ?_
      have hU : t ∈ UM bk W := (UM_mk ok okW).mpr (.mk h1 h2 h3 h4)
      exact ⟨t, hU, hf, y, (mem_UF ok okW hU).mpr ⟨h3, fun n hn => (UM_mk ok okW).mpr (h4 n hn)⟩, List.all_eq_true.mpr fun n hn => memB_t (ih n hn)⟩
  have := nodup_sub_len (UM_nd (bk := bk) (W := W)) fun u hu => all u ((UM_mk ok okW).mp hu)
  omega
/-- the law's own dict of usable ways is the program's -/
theorem law_UM {bk : Bk} {W : List Vl} (ok : bk.Ok) (okW : WbOk bk W) {mk : List Thg} (nd : mk.Nodup) (h1 : ∀ t ∈ mk, Mk bk W t) (h2 : ∀ t, t.1 < W.length → t.2 < bk.ks → ∀ y ∈ waysT bk W t, usab bk W mk t y = true → t ∈ mk) : srtT mk = UM bk W ∧ ∀ t ∈ UM bk W, (waysT bk W t).filter (usab bk W mk t) = UF bk W t := by
  have m : ∀ t, t ∈ mk ↔ t ∈ UM bk W := fun t => by
    rw [UM_mk ok okW]
    refine ⟨h1 t, fun h => ?_⟩
    induction h with
    | mk a b c d ih => exact h2 _ a b _ c (List.all_eq_true.mpr fun n hn => memB_t (ih n hn))
  refine ⟨srtT_eq (perm_of nd (vL_nd _) fun t => (m t).trans (srtT_perm _).mem_iff), fun t ht => ?_⟩
  rw [UF_eq ok okW ht]
  refine List.filter_congr fun y _ => ?_
  unfold usab
  refine congrArg (fun p : Thg → Bool => (needsT bk W t y).all p) (funext fun n => ?_)
  rw [Bool.eq_iff_iff, memB_iff, memB_iff]; exact m n
end K19
set_option maxHeartbeats 4000000
namespace K19
open PySem PySem.Spec PyProof.Rows L2
/-- an item of the ready list: a thing and its ways -/
def RdI (H : Hp) (ex : List Addr) (bk : Bk) (W : List Vl) (fs : List Thg) (z : V) : Prop := ∃ (t : Thg) (ys : List Wy) (a l : Addr) (tk : V) (xs : List V), z = .ref a ∧ H a = some (.tup [tk, .ref l]) ∧ Nk H tk (eT t) ∧ H l = some (.lst xs) ∧ NkA H xs (ys.map eW) ∧ l ∉ ex ∧ t ∈ UM bk W ∧ t ∉ fs ∧ ys ≠ [] ∧ ys.length ≤ 60 ∧ ∀ y ∈ ys, y ∈ UF bk W t ∧ usab bk W fs t y = true
theorem RdI.same {H H' : Hp} {ex : List Addr} {bk : Bk} {W : List Vl} {fs : List Thg} {z : V} (x : RdI H ex bk W fs z) (s : Same H H') : RdI H' ex bk W fs z := by
  obtain ⟨t, ys, a, l, tk, xs, h1, h2, h3, h4, h5, h6⟩ := x
  exact ⟨t, ys, a, l, tk, xs, h1, s _ _ h2, h3.keep (.of s), s _ _ h4, h5.keep (.of s), h6⟩
theorem RdI.but {H : Hp} {ex : List Addr} {bk : Bk} {W : List Vl} {fs : List Thg} {z : V} {pr : Addr} {us vs : List V} (x : RdI H ex bk W fs z) (h : pr ∈ ex) (e : H pr = some (.lst us)) : RdI (upd H pr (.lst vs)) ex bk W fs z := by
  obtain ⟨t, ys, a, l, tk, xs, h1, h2, h3, h4, h5, h6, h7⟩ := x
  have k := chkpt (ys := vs) e
  exact ⟨t, ys, a, l, tk, xs, h1, k _ _ h2, h3.keep k, by rw [upd_ne (fun z : l = pr => h6 (z ▸ h))]; exact h4, h5.keep k, h6, h7⟩
theorem UF_ne {bk : Bk} {W : List Vl} (ok : bk.Ok) (okW : WbOk bk W) {t : Thg} (h : t ∈ UM bk W) : UF bk W t ≠ [] := fun z => by
  have hm := (UM_mk ok okW).mp h
  cases hm with
  | mk a b c d =>
    have := (mem_UF ok okW h).mpr ⟨c, fun n hn => (UM_mk ok okW).mpr (d n hn)⟩
    rw [z] at this; cases this
theorem ways_apart {H : Hp} {b g : Addr} {v : V} {ys : List Wy} (x : LsK H v (ys.map eW)) (hy : ys ≠ []) (B : Bag H b g) : ∃ l xs, v = .ref l ∧ H l = some (.lst xs) ∧ NkA H xs (ys.map eW) ∧ l ≠ b ∧ l ≠ g := by
  obtain ⟨l, xs, e, h, n⟩ := x
  refine ⟨l, xs, e, h, n, ?_, ?_⟩
  all_goals
    obtain ⟨s0, c, gs, al, h1, h2, _⟩ := B.ex
    intro z
    cases ys with
    | nil => exact hy rfl
    | cons y ys =>
      rw [List.map_cons] at n
      cases n with
      | cons n1 n2 =>
        obtain ⟨_, e1, _⟩ := n1.wy
        rw [e1] at h
        first
        | (rw [z, h1] at h; injection h with h; injection h with h; injection h with h; cases h)
        | (rw [z, h2] at h; injection h with h; injection h with h
           cases gs with
           | nil => cases h
           | cons a l => rw [List.map_cons] at h; injection h with h; cases h)
theorem UsAt.bg {P : Program} {w : World} {H H' : Hp} {b g p : Addr} {M : List Thg} {F : Thg → List Wy} (x : UsAt P w H p M F) (hF : ∀ t ∈ M, F t ≠ []) (f : Bg b g H H') (B : Bag H b g) : UsAt P w H' p M F := by
  obtain ⟨gu, d, l⟩ := x
  refine ⟨gu, d.bg f B, fun t ht => ?_⟩
  obtain ⟨l, xs, e, h, n, h1, h2⟩ := ways_apart (l t ht) (hF t ht) B
  exact ⟨l, xs, e, f.at h1 h2 h, n.keep (f.kpt B)⟩
/-- drawn so far -/
structure DrI (P : Program) (w : World) (H : Hp) (bk : Bk) (W : List Vl) (pf : Addr) (i : Nat) (fs : List Thg) (ch : Thg → Wy) (rk : Thg → Nat) (g : Thg → V) : Prop where
  d : DM P w H pf eT fs g
  n : fs.length = i
  v : ∀ t ∈ fs, Nk H (g t) (eW (ch t))
  u : ∀ t ∈ fs, t ∈ UM bk W ∧ ch t ∈ UF bk W t ∧ rk t < i ∧ ∀ n ∈ needsT bk W t (ch t), n ∈ fs ∧ rk n < rk t
def sp_law_drawn_choice (P : Program) (w : World) (K : PySem.W.Frag) (CB CW : Addr) : Sp := fun vs H Q _ => ∃ a b c d, vs = [a, b, c, d] ∧ ∃ (bb gg : Addr) (bk : Bk) (W : List Vl) (pu : Addr), bk.Ok ∧ WbOk bk W ∧ a = .ref bb ∧ Bag H bb gg ∧ Nk H b (eB bk) ∧ Nk H c (eWb W) ∧ d = .ref pu ∧ UsAt P w H pu (UM bk W) (UF bk W) ∧
  ∀ M ch rank g p H', ChV bk W M ch rank → ChAt P w H' p M ch g → Bg bb gg H H' → Bag H' bb gg → Q (.ref p) H'
abbrev n_law_drawn_choice : List Str := ["_law_bag_here", "_law_parts", "_law_values_here", "_law_usable_here", "_law_found", "_law_turn", "_law_ready", "_law_thing", "_law_some_here", "_law_way", "_law_need"]
theorem sc_law_drawn_choice : FnScope n_law_drawn_choice ["_law_bag_here", "_law_parts", "_law_values_here", "_law_usable_here"] (defScope s_law_drawn_choice) := ⟨rfl, rfl, rfl, by decide +kernel, rfl, by decide +kernel, by decide +kernel⟩
theorem cl_law_drawn_choice {P : Program} {w : World} {K : PySem.W.Frag} {mg : Str → Option Value} {base : Heap} {CB CW : Addr} (Z : Fx K mg CB CW) : Cl P w K mg base "_law_drawn_choice" 3 ["_law_bag_here", "_law_parts", "_law_values_here", "_law_usable_here"] (sp_law_drawn_choice P w K CB CW) := by
  refine Z.d_law_drawn_choice.cl (N := n_law_drawn_choice) (k := 2) sc_law_drawn_choice (fun vs H Q E h => by obtain ⟨_, _, _, _, rfl, _⟩ := h; rfl) (fun _ _ _ _ _ _ us hl => match us, hl with | [_, _, _, _], _ => rfl) fun f cdv A outer s H0 E0 hr => ⟨_, (pss_cons (ps_set (i := 4) sc_law_drawn_choice.nd rfl (Or.inr rfl) (qdnew (by exact ⟨rfl, rfl, rfl⟩ : At _ P w K))) (pss_cons (ps_for PassesOwn.never rfl (pi_range1 rfl Z.f_range (pa_cons (pe_callB (qlenD (by exact ⟨rfl, rfl, rfl⟩ : At _ P w K)) rfl Z.f_len bt_len (pa_cons (pv 3) pa_nil)) pa_nil)) (pg_name (i := 5) sc_law_drawn_choice.nd rfl (Or.inl rfl)) (pss_cons (ps_set (i := 6) sc_law_drawn_choice.nd rfl (Or.inl rfl) (pe_lst pa_nil)) (pss_cons (ps_for PassesOwn.never rfl (qpiN (by exact ⟨rfl, rfl, rfl⟩ : At _ P w K) (pv 3)) (pg_name (i := 7) sc_law_drawn_choice.nd rfl (Or.inl rfl)) (pss_cons (ps_set (i := 8) sc_law_drawn_choice.nd rfl (Or.inl rfl) (pe_lst pa_nil)) (pss_cons (ps_for PassesOwn.never rfl (qpiL (by exact ⟨rfl, rfl, rfl⟩ : At _ P w K) (qnget (by exact ⟨rfl, rfl, rfl⟩ : At _ P w K) hr.units (pv 3) (pv 7) (fun _ _ => rfl))) (pg_name (i := 9) sc_law_drawn_choice.nd rfl (Or.inl rfl)) (pss_one (ps_if (pt_val (pe_callB (qall (by exact ⟨rfl, rfl, rfl⟩ : At _ P w K) rfl) rfl Z.f_all bt_all (pa_cons (pe_lc (own := [("_law_need", 10)]) rfl sc_law_drawn_choice.nd (qpiL (by exact ⟨rfl, rfl, rfl⟩ : At _ P w K) (pe_cl (cl_law_needs (P := P) (w := w) (K := K) (base := base) Z) hr (by decide) rfl (pa_cons (pv 1) (pa_cons (pv 2) (pa_cons (pv 7) (pa_cons (pv 9) pa_nil)))))) (blkOk_by (N := n_law_drawn_choice) (sc := defScope s_law_drawn_choice) (by decide +kernel)) (fun _ _ _ _ _ => (pg_name (i := 10) sc_law_drawn_choice.nd rfl (by first | exact Or.inl rfl | exact Or.inr rfl))) (fun _ _ _ _ _ => pts_nil) (fun _ _ _ _ _ => (pe_cmp (qnin (by exact ⟨rfl, rfl, rfl⟩ : At _ P w K) hr.units (pv 10) (pv 4)) rfl))) pa_nil))) (pss_one (ps_expr (qbm (by exact ⟨rfl, rfl, rfl⟩ : At _ P w K) PySem.F.plainAttrs_list PySem.F.slot_list_append PySem.F.type_list_append mt_append (pv 8) (pa_cons (pv 9) pa_nil)))) pss_nil))) (pss_one (ps_if (PW.pt (pw_and (pt_cmp (qnnot (by exact ⟨rfl, rfl, rfl⟩ : At _ P w K) hr.units (pv 7) (pv 4)) rfl) (pw_and1 (pt_cmpR op_gt (pe_callB (qlen (by exact ⟨rfl, rfl, rfl⟩ : At _ P w K)) rfl Z.f_len bt_len (pa_cons (pv 8) pa_nil)) pe_int (nomark _))))) (pss_one (ps_expr (qbm (by exact ⟨rfl, rfl, rfl⟩ : At _ P w K) PySem.F.plainAttrs_list PySem.F.slot_list_append PySem.F.type_list_append mt_append (pv 6) (pa_cons (pe_tup (pa_cons (pv 7) (pa_cons (pv 8) pa_nil))) pa_nil)))) pss_nil))))) (pss_cons (ps_asg (pe_cl (cl_law_some (P := P) (w := w) (K := K) (base := base) Z) hr (by decide) rfl (pa_cons (pv 0) (pa_cons (pv 6) pa_nil))) (qpgT (n := 2) (by exact ⟨rfl, rfl, rfl⟩ : At _ P w K) rfl (pgs_cons (pg_name (i := 7) sc_law_drawn_choice.nd rfl (Or.inl rfl)) (pgs_cons (pg_name (i := 8) sc_law_drawn_choice.nd rfl (Or.inl rfl)) pgs_nil)))) (pss_one (qnput (by exact ⟨rfl, rfl, rfl⟩ : At _ P w K) hr.units (pv 4) (pv 7) (pe_cl (cl_law_some (P := P) (w := w) (K := K) (base := base) Z) hr (by decide) rfl (pa_cons (pv 0) (pa_cons (pv 8) pa_nil))) rfl)))))) (pss_one (ps_ret (pv 4))))), fun vs H Q E h => ?_⟩
  obtain ⟨v0, v1, v2, v3, rfl, h⟩ := h
  obtain ⟨bb, gg, bk, W, pu, okb, okW, rfl, B, nB, nW, rfl, us, q⟩ := h
  have hne : ∀ t ∈ UM bk W, UF bk W t ≠ [] := fun t ht => UF_ne okb okW ht
  have hUM := UM_len okb okW
  intro pf H1 npf b1 d1
  have s1 := b1.same npf
  have B1 := B.same s1
  obtain ⟨pfb, pfg⟩ := B.notNone npf
  obtain ⟨gu1, du1, lu1⟩ := us.same s1
  refine ⟨_, rfl, pu, _, rfl, du1, _, rfl, by omega, by rw [List.length_map]; omega, ?_⟩
  rw [List.length_map, Int.toNat_natCast]
  refine for_it walk_r0 (fun i σ H2 => ∃ x5 x6 x7 x8 x9 x10, σ = [some (.ref bb), some v1, some v2, some (.ref pu), some (.ref pf), x5, x6, x7, x8, x9, x10] ∧ Bg bb gg H H2 ∧ Bag H2 bb gg ∧ ∃ fs ch rk g, DrI P w H2 bk W pf i fs ch rk g)
    ⟨_, _, _, _, _, _, rfl, Bg.of s1, B1, [], fun _ => (false, 0), fun _ => 0, fun _ => .non, ⟨d1, rfl, (fun _ h => nomatch h), fun _ h => nomatch h⟩⟩ (fun _ _ _ _ _ => trivial) ?_ ?_
  · rintro i x σ H2 H3 hi ⟨x5, x6, x7, x8, x9, x10, rfl, f2, B2, fs, ch, rk, g, I⟩ ⟨rfl, rfl⟩
    refine ⟨Nat.zero_le _, fun pr npr => ?_⟩
    obtain ⟨prb, prg⟩ := B2.notNone npr
    have sr : Same H3 (upd H3 pr (.lst [])) := same_upd npr
    have er : (upd H3 pr (.lst [])) pr = some (.lst []) := upd_same
    generalize upd H3 pr (.lst []) = H4 at sr er ⊢
    obtain ⟨gu, du, lu⟩ := us.bg hne f2 B
    have nB3 := nB.keep (f2.kpt B)
    have nW3 := nW.keep (f2.kpt B)
    refine ⟨_, rfl, pu, _, rfl, du.same sr, fun φ bs hφ pbs => ?_⟩
    have nb := nk_paired pbs
    have lbs : bs.length = (UM bk W).length := by rw [← Paired.length pbs, List.length_map]
    refine for_it walk_n (fun k σ H5 => ∃ x7 x8 x9 x10, σ = [some (.ref bb), some v1, some v2, some (.ref pu), some (.ref pf), some (.int (i : Nat)), some (.ref pr), x7, x8, x9, x10] ∧ Same H3 H5 ∧ H5 pu = some φ ∧ KpT H4 H5 ∧ ∃ zs, H5 pr = some (.lst zs) ∧ (∀ z ∈ zs, RdI H5 [bb, gg, pr] bk W fs z) ∧ zs.length ≤ k ∧ ((∃ t ∈ (UM bk W).take k, t ∉ fs ∧ ∃ y ∈ UF bk W t, usab bk W fs t y = true) → zs ≠ []))
      ⟨_, _, _, _, rfl, sr, hφ, KpT.refl _, [], er, (fun _ h => nomatch h), Nat.le_refl _, fun ⟨t, h, _⟩ => nomatch h⟩ (fun k σ H5 _ ⟨_, _, _, _, _, _, e, _⟩ => e) ?_ ?_
    · rintro k x σ H5 H6 hk ⟨x7, x8, x9, x10, rfl, s5, e5, k5, zs, ez, hzs, lzs, cz⟩ ⟨rfl, b, hb, rfl⟩
      obtain ⟨t, ht⟩ : ∃ t, (UM bk W)[k]? = some t := ⟨_, getI (by omega)⟩
      obtain ⟨x', hx', nt0⟩ := nb.get (gmap ht)
      obtain rfl : x' = .ref b := by rw [List.getElem?_map, hb] at hx'; exact (Option.some.inj hx').symm
      have nt := nt0.keep k5
      have htU := List.mem_of_getElem? ht
      refine ⟨Nat.zero_le _, fun l8 nl8 => ?_⟩
      have s8 : Same H6 (upd H6 l8 (.lst [])) := same_upd nl8
      have e8 : (upd H6 l8 (.lst [])) l8 = some (.lst []) := upd_same
      have nl83 : H3 l8 = none := none_back s5 nl8
      generalize upd H6 l8 (.lst []) = H7 at s8 e8 ⊢
      have s37 := smT s5 s8
      obtain ⟨l, xs, el0, el, nl⟩ := (lu t htU).same s37
      have lxs : xs.length = (UF bk W t).length := by rw [nl.length, List.length_map]
      have lUF : (UF bk W t).length ≤ 60 := Nat.le_trans (nodup_sub_len (UF_nd t) fun y hy => UF_way hy) (waysT_len okb W t)
      have l8l : l ≠ l8 := by
        obtain ⟨l', xs', e', h', _⟩ := lu t htU
        rw [e'] at el0
        cases el0
        exact fun z => by rw [z, nl83] at h'; cases h'
      refine ⟨_, rfl, _, rfl, pu, _, rfl, (du.same s37).ngetT encT (nt.keep (.of s8)) htU, l, el0, ⟨_, .of el⟩, ?_⟩
      refine for_it walk_list (fun j σ H8 => ∃ x9 x10, σ = [some (.ref bb), some v1, some v2, some (.ref pu), some (.ref pf), some (.int (i : Nat)), some (.ref pr), some (.ref b), some (.ref l8), x9, x10] ∧ Same H6 H8 ∧ H8 l = some (.lst xs) ∧ KpT H7 H8 ∧ ∃ ws, H8 l8 = some (.lst ws) ∧ NkA H8 ws ((((UF bk W t).take j).filter (usab bk W fs t)).map eW))
        ⟨_, _, rfl, s8, el, KpT.refl _, [], e8, .nil⟩ (fun j σ H8 _ ⟨_, _, _, _, e, _⟩ => .of e) ?_ ?_
      · rintro j z σ H8 H9 hj ⟨x9, x10, rfl, s68, el8, k8, ws, ew, nw⟩ ⟨rfl, hz⟩
        obtain ⟨kk, hk', ny0⟩ := nl.get' hz
        obtain ⟨y, hy, rfl⟩ := gmap' hk'
        have ny := ny0.keep k8
        have s39 := smT s5 s68
        have wyok := mem_waysT okb okW (UM_lt htU).1 (UF_way (List.mem_of_getElem? hy))
        refine gNm ?_
        refine rd_allS (a := 1) (b := 2) (c := 7) (d := 9) (j := 4) (i := 10) rfl rfl rfl rfl rfl (by show 10 < 11; decide) (by decide) okb okW (nB3.keep (.of s39)) (nW3.keep (.of s39)) (nt.keep (.of s68)) ny wyok (I.d.same s39) fun H10 s10 => ?_
        refine iteB (fun hu => ?_) (fun hu => ?_)
        · have ew10 := s10 _ _ ew
          refine ⟨_, rfl, tyL ew10, _, rfl, l8, ws, z, rfl, rfl, ew10, ?_, ?_⟩
          · rw [nw.length, List.length_map]
            exact Nat.lt_of_le_of_lt (Nat.le_trans (List.length_filter_le _ _) (Nat.le_trans (List.length_take_le' _ _) lUF)) (by decide)
          have kt := chkpt (ys := ws ++ [z]) ew10
          refine ⟨_, _, rfl, smU nl8 (smT s68 s10), by rw [upd_ne l8l]; exact s10 _ _ el8, (k8.trans (.of s10)).trans kt, _, upd_same, ?_⟩
          rw [filter_snoc hy, if_pos hu, List.map_append]
          exact NkA.snoc ((ny.keep (.of s10)).keep kt) ((nw.keep (.of s10)).keep kt)
        · refine ⟨_, _, rfl, smT s68 s10, s10 _ _ el8, k8.trans (.of s10), ws, s10 _ _ ew, ?_⟩
          rw [filter_snoc hy, if_neg (bfl hu), List.append_nil]
          exact nw.keep (.of s10)
      · rintro σ H8 ⟨x9, x10, rfl, s68, el8, k8, ws, ew, nw⟩
        rw [lxs, List.take_length] at nw
        have s38 := smT s5 s68
        have nt8 := nt.keep (.of s68)
        have lws : ws.length = ((UF bk W t).filter (usab bk W fs t)).length := by rw [nw.length, List.length_map]
        have e1 := take_snoc (f := fun z : Thg => z) ht
        rw [List.map_id', List.map_id'] at e1
        have ez8 := s68 _ _ ez
        have no : (∃ t ∈ (UM bk W).take (k + 1), t ∉ fs ∧ ∃ y ∈ UF bk W t, usab bk W fs t y = true) → ¬ (t ∉ fs ∧ ws.length ≠ 0) → zs ≠ [] := by
          rintro ⟨u, hu, h1, y, h2, h3⟩ hno
          rw [e1] at hu
          rcases List.mem_append.mp hu with h | h
          · exact cz ⟨u, h, h1, y, h2, h3⟩
          · have hut := List.mem_singleton.mp h
            subst hut
            refine absurd ⟨h1, fun z => ?_⟩ hno
            rw [lws] at z
            have : y ∈ (UF bk W u).filter (usab bk W fs u) := List.mem_filter.mpr ⟨h2, h3⟩
            rw [List.eq_nil_of_length_eq_zero z] at this; cases this
        have skip : ¬ (t ∉ fs ∧ ws.length ≠ 0) → ∃ y7 y8 y9 y10, [some (V.ref bb), some v1, some v2, some (.ref pu), some (.ref pf), some (.int (i : Nat)), some (.ref pr), some (.ref b), some (.ref l8), x9, x10] = [some (V.ref bb), some v1, some v2, some (.ref pu), some (.ref pf), some (.int (i : Nat)), some (.ref pr), y7, y8, y9, y10] ∧ Same H3 H8 ∧ H8 pu = some φ ∧ KpT H4 H8 ∧ ∃ zs, H8 pr = some (.lst zs) ∧ (∀ z ∈ zs, RdI H8 [bb, gg, pr] bk W fs z) ∧ zs.length ≤ k + 1 ∧ ((∃ t ∈ (UM bk W).take (k + 1), t ∉ fs ∧ ∃ y ∈ UF bk W t, usab bk W fs t y = true) → zs ≠ []) := fun hno =>
          ⟨some (.ref b), some (.ref l8), x9, x10, rfl, s38, s68 _ _ e5, k5.trans (.of s68), zs, ez8, fun z hz => (hzs z hz).same s68, by omega, fun h => no h hno⟩
        refine ⟨_, rfl, _, rfl, pf, _, rfl, (I.d.same s38).nget encT nt8, _, rfl, ?_⟩
        rw [ifSome]
        by_cases htf : t ∈ fs
        · rw [memB_t htf]
          exact iteF (iteF (skip fun z => z.1 htf))
        · rw [memB_f htf]
          refine iteT ⟨_, rfl, _, _, rfl, .inl ⟨_, .of ew, rfl⟩, _, _, rfl, rfl, _, rfl, ?_⟩
          by_cases h0 : ws.length = 0
          · exact iteN (by omega) (skip fun z => z.2 h0)
          · refine iteD (by omega) ⟨_, rfl, tyL ez8, _, rfl, _, rfl, by show 2 ≤ sizeLine; decide, fun qa nqa => ?_⟩
            have sq : Same H8 (upd H8 qa (.tup [.ref b, .ref l8])) := same_upd nqa
            have eqa : (upd H8 qa (.tup [.ref b, .ref l8])) qa = some (.tup [.ref b, .ref l8]) := upd_same
            generalize upd H8 qa (.tup [.ref b, .ref l8]) = H9 at sq eqa ⊢
            have ez9 := sq _ _ ez8
            have kt := chkpt (ys := zs ++ [V.ref qa]) ez9
            have npr3 : H3 pr = none := npr
            have l8pr : l8 ≠ pr := fun z => by rw [z, ez] at nl8; cases nl8
            obtain ⟨l8b, l8g⟩ := B2.notNone nl83
            refine ⟨pr, zs, _, rfl, rfl, ez9, Nat.lt_of_le_of_lt (Nat.le_trans lzs (show _ ≤ 45 by omega)) (by decide), ?_⟩
            refine ⟨_, _, _, _, rfl, smU npr (smT s38 sq), ?_, ((k5.trans (.of s68)).trans (.of sq)).trans kt, zs ++ [.ref qa], upd_same, fun z hz => ?_, by rw [List.length_append, List.length_singleton]; omega, fun _ => by simp⟩
            · rw [upd_ne (fun z => ?_)]
              · exact sq _ _ (s68 _ _ e5)
              · obtain ⟨φ', h'⟩ := du.ext
                rw [z, npr] at h'; cases h'
            · rcases List.mem_append.mp hz with h | h
              · exact ((hzs z h).same (smT s68 sq)).but (by simp) ez9
              · rw [List.mem_singleton.mp h]
                refine ⟨t, (UF bk W t).filter (usab bk W fs t), qa, l8, .ref b, ws, rfl, kt _ _ eqa, (nt8.keep (.of sq)).keep kt, by rw [upd_ne l8pr]; exact sq _ _ ew, (nw.keep (.of sq)).keep kt, ?_, htU, htf, ?_, Nat.le_trans (List.length_filter_le _ _) lUF, fun y hy => List.mem_filter.mp hy⟩
                · simp [l8b, l8g, l8pr]
                · intro z; rw [lws, z] at h0; exact h0 rfl
    · rintro σ H5 ⟨x7, x8, x9, x10, rfl, s5, e5, k5, zs, ez, hzs, lzs, cz⟩
      rw [lbs, List.take_length] at cz
      rw [lbs] at lzs
      have zne := cz (next_ready okb okW (by rw [I.n]; exact hi))
      have lz1 : 1 ≤ zs.length := List.length_pos_iff.mpr zne
      have B5 := B2.same s5
      refine ⟨_, rfl, _, rfl, _, _, rfl, bb, gg, pr, zs, rfl, B5, rfl, ez, prb, prg, lz1, by omega, fun m z H6 hz f6 B6 => ?_⟩
      obtain ⟨t, ys, a, l, tk, xs, rfl, ea, ntk, el, nys, lex, htU, htf, yne, yl, yok⟩ := hzs z (List.mem_of_getElem? hz)
      have lb : l ≠ bb := fun z => lex (by rw [z]; simp)
      have lg : l ≠ gg := fun z => lex (by rw [z]; simp)
      have k6 := f6.kpt B5
      have lxs : xs.length = ys.length := by rw [nys.length, List.length_map]
      have ly : 1 ≤ ys.length := List.length_pos_iff.mpr yne
      refine ⟨a, _, rfl, .of (k6 _ _ ea), rfl, _, _, rfl, _, _, rfl, rfl, ?_⟩
      refine ⟨_, rfl, _, rfl, _, _, rfl, bb, gg, l, xs, rfl, B6, rfl, f6.at lb lg el, lb, lg, by omega, by omega, fun m2 z2 H7 hz2 f7 B7 => ?_⟩
      obtain ⟨kk, hkk, ny0⟩ := nys.get' hz2
      obtain ⟨y, hy, rfl⟩ := gmap' hkk
      obtain ⟨yU, yus⟩ := yok y (List.mem_of_getElem? hy)
      have k7 := f7.kpt B6
      have d7 := ((I.d.same s5).bg f6 B5).bg f7 B6
      have fsU : fs.length ≤ 45 := by rw [I.n]; omega
      have ny7 := (ny0.keep k6).keep k7
      refine ⟨_, rfl, _, rfl, d7.nput encT (t := t) (Nat.lt_of_le_of_lt fsU (by decide)) ((ntk.keep k6).keep k7) fun H8 b8 d8 => ?_⟩
      rw [insL_new htf] at d8
      have k8 : KpT H7 H8 := b8.kpt (Dc.ntup d7)
      have f38 : Bg bb gg H H7 := f2.trans ((Bg.of s5).trans (f6.trans f7))
      have npf0 : H pf = none := npf
      refine ⟨_, _, _, _, _, _, rfl, bgB npf0 f38 b8, B7.but b8 pfb pfg, fs ++ [t], (fun u => if u = t then y else ch u), (fun u => if u = t then i else rk u), _, ⟨d8, by rw [List.length_append, List.length_singleton, I.n], fun u hu => ?_, fun u hu => ?_⟩⟩
      · unfold updF
        by_cases e : u = t
        · rw [if_pos e]
          show Nk H8 z2 (eW (if u = t then y else ch u))
          rw [if_pos e]
          exact ny7.keep k8
        · rw [if_neg e]
          show Nk H8 (g u) (eW (if u = t then y else ch u))
          rw [if_neg e]
          have hu' := (List.mem_append.mp hu).resolve_right fun h => e (List.mem_singleton.mp h)
          exact ((((I.v u hu').keep (.of s5)).keep k6).keep k7).keep k8
      · by_cases e : u = t
        · subst e
          show u ∈ _ ∧ (if u = u then y else ch u) ∈ _ ∧ (if u = u then i else rk u) < i + 1 ∧ ∀ n ∈ needsT bk W u (if u = u then y else ch u), n ∈ fs ++ [u] ∧ (if n = u then i else rk n) < (if u = u then i else rk u)
          rw [if_pos rfl, if_pos rfl]
          refine ⟨htU, yU, Nat.lt_succ_self _, fun n hn => ?_⟩
          have hnf : n ∈ fs := memB_iff.mp (List.all_eq_true.mp yus n hn)
          rw [if_neg (fun z : n = u => htf (z ▸ hnf))]
          exact ⟨List.mem_append_left _ hnf, (I.u n hnf).2.2.1⟩
        · have hu' := (List.mem_append.mp hu).resolve_right fun h => e (List.mem_singleton.mp h)
          obtain ⟨h1, h2, h3, h4⟩ := I.u u hu'
          show u ∈ _ ∧ (if u = t then y else ch u) ∈ _ ∧ (if u = t then i else rk u) < i + 1 ∧ ∀ n ∈ needsT bk W u (if u = t then y else ch u), n ∈ fs ++ [t] ∧ (if n = t then i else rk n) < (if u = t then i else rk u)
          rw [if_neg e, if_neg e]
          refine ⟨h1, h2, by omega, fun n hn => ?_⟩
          obtain ⟨h5, h6⟩ := h4 n hn
          rw [if_neg (fun z : n = t => htf (z ▸ h5))]
          exact ⟨List.mem_append_left _ h5, h6⟩
  · rintro σ H2 ⟨x5, x6, x7, x8, x9, x10, rfl, f2, B2, fs, ch, rk, g, I⟩
    have perm : fs.Perm (UM bk W) := by
      refine perm_of (I.d.nd encT) UM_nd fun u => ⟨fun h => (I.u u h).1, fun h => ?_⟩
      refine Classical.byContradiction fun hn => ?_
      have := nodup_sub_len (l := u :: fs) (m := UM bk W) (List.nodup_cons.mpr ⟨hn, I.d.nd encT⟩) fun z hz => by
        rcases List.mem_cons.mp hz with rfl | hz
        · exact h
        · exact (I.u z hz).1
      rw [List.length_cons, I.n] at this; omega
    refine ⟨_, rfl, q fs ch rk g pf H2 ⟨perm, fun t ht => (I.u t ht).2.1, ⟨fun t ht => mem_waysT okb okW (UM_lt (I.u t ht).1).1 (UF_way (I.u t ht).2.1), fun t ht n hn => (I.u t ht).2.2.2 n hn⟩⟩ ⟨I.d, I.v⟩ f2 B2⟩
end K19
set_option maxHeartbeats 4000000
namespace K19
open PySem PySem.Spec PyProof.Rows L2
open PySem.W (dataLe dataLt keyToks keyToksAll alike alikeAll minD)
/-- the least of some pairs stands ahead of them sorted -/
theorem ksort_min {k : Thg × Wy} {ks : List (Thg × Wy)} {k' : NestedKey} (h : k' ∈ (k :: ks).map eP) (e : k'.data = minD (eP k).data ((ks.map eP).map NestedKey.data)) : ∃ r, ksort ((k :: ks).map eP) = k' :: r := by
  have hp := PySem.W.sort_pairwise tot_le ((k :: ks).map eP)
  have hperm := List.mergeSort_perm ((k :: ks).map eP) (dataLe false NestedKey.data)
  cases hs : ksort ((k :: ks).map eP) with
  | nil =>
    have := hperm.length_eq
    rw [show ((k :: ks).map eP).mergeSort (dataLe false NestedKey.data) = [] from hs] at this
    simp at this
  | cons x r =>
    refine ⟨r, ?_⟩
    rw [show ((k :: ks).map eP).mergeSort (dataLe false NestedKey.data) = x :: r from hs] at hp hperm
    have hx : x ∈ (k :: ks).map eP := hperm.mem_iff.mp (List.mem_cons_self ..)
    have h1 : dataLt k'.data x.data = false := by
      rcases List.mem_cons.mp (hperm.mem_iff.mpr h) with rfl | hk
      · exact dataLt_irr _
      · have := (List.pairwise_cons.mp hp).1 k' hk
        rw [le_iff, Bool.not_eq_true'] at this; exact this
    have h2 : dataLt x.data k'.data = false := by
      rw [e]
      refine minD_le _ _ _ ?_
      have := List.mem_map_of_mem (f := NestedKey.data) hx
      rw [List.map_cons, List.map_cons] at this; exact this
    obtain ⟨p, _, rfl⟩ := List.mem_map.mp h
    obtain ⟨q, _, rfl⟩ := List.mem_map.mp hx
    rw [toks_inj_P (dataLt_tot h1 h2)]
/-- the way that is chosen has just its price -/
theorem ex_own {bk : Bk} {W : List Vl} {M : List Thg} {ch : Thg → Wy} {rank : Thg → Nat} (hv : ChV bk W M ch rank) {t : Thg} (ht : t ∈ M) : exT bk W ch t (ch t) = (priceW bk (ch t) : Nat) := by
  rw [← ex_eq (y := ch t) hv ht (l := [t]) (by simp) fun u => ?_]
  · show ([t].map fun t => (priceW bk (ch t) : Int)).sum = _
    simp
  · rw [List.mem_singleton]
    constructor
    · rintro rfl
      refine ⟨.self _, ?_⟩
      rintro ⟨n, hn, hr⟩
      obtain ⟨h1, h2⟩ := hv.ok.nd _ ht n hn
      have := hr.rank hv.ok h1
      omega
    · rintro ⟨h1, h2⟩
      exact (Rch.iff.mp h1).resolve_right h2
end K19
set_option maxHeartbeats 4000000
namespace K19
open PySem PySem.Spec PyProof.Rows L2
theorem ex_pair {P : Program} {w : World} {H : Hp} {bk : Bk} {W : List Vl} {ch : Thg → Wy} {p q : Addr} (x : ExAt P w H p bk W ch) (y : ExAt P w H q bk W ch) : ∃ ks ls, Dc P w H p ks ∧ Dc P w H q ls ∧ Paired (fun (a b : NestedKey × V) => a.1 = b.1 ∧ ∃ i, a.2 = .int i ∧ b.2 = .int i) ks ls := by
  obtain ⟨f, d, v⟩ := x
  obtain ⟨f2, d2, v2⟩ := y
  refine ⟨_, _, d, d2, ?_⟩
  have all : ∀ l : List (Thg × Wy), (∀ z ∈ l, f z = .int (exT bk W ch z.1 z.2) ∧ f2 z = .int (exT bk W ch z.1 z.2)) → Paired (fun (a b : NestedKey × V) => a.1 = b.1 ∧ ∃ i, a.2 = .int i ∧ b.2 = .int i) (l.map fun t => (eP t, f t)) (l.map fun t => (eP t, f2 t)) := by
    intro l
    induction l with
    | nil => intro _; exact .nil
    | cons z l ih =>
      intro h
      obtain ⟨h1, h2⟩ := h z (List.mem_cons_self ..)
      exact .cons ⟨rfl, _, h1, h2⟩ (ih fun u hu => h u (List.mem_cons_of_mem _ hu))
  exact all _ fun z hz => ⟨v z hz, v2 z hz⟩
theorem ifHead {K : PySem.W.Frag} {σ : L2.St} {H : Hp} {ps : Addr} {ys : List V} {c : Bool} {Q : VK} (hc : c = decide ((0 : Int) < (ys.length : Nat))) (h8 : σ[8]? = some (some (.ref ps))) (e : H ps = some (.lst ys)) (r : Q (ys.headD .non) H) :
    if c = true then tOp (rIxL K) (tVar 8) (tC (.int 0)) σ H Q else tC .non σ H Q := by
  subst hc
  cases ys with
  | nil => exact iteN (by simp) r
  | cons y ys => exact iteD (by rw [List.length_cons]; omega) ⟨_, h8, ps, _, _, _, rfl, rfl, .of e, atI_nat (j := 0) (v := y) rfl, r⟩
def sp_law_is_right (P : Program) (w : World) (K : PySem.W.Frag) (CB CW : Addr) : Sp := fun vs H Q _ => ∃ a b c d e f, vs = [a, b, c, d, e, f] ∧ ∃ (bk : Bk) (W : List Vl) (M : List Thg) (ch : Thg → Wy) (rank : Thg → Nat) (pu pc : Addr) (g : Thg → V), bk.Ok ∧ WbOk bk W ∧ Nk H a (eB bk) ∧ Nk H b (eWb W) ∧ c = .ref pu ∧ UsAt P w H pu (UM bk W) (UF bk W) ∧ BkAt CB H d bk ∧ WbAt CW H e W ∧ f = .ref pc ∧ ChAt P w H pc M ch g ∧ ChV bk W M ch rank ∧
  ∀ H', Same H H' → Q (.bl true) H'
abbrev n_law_is_right : List Str := ["_law_parts", "_law_values_here", "_law_usable_here", "_law_book_here", "_law_web", "_law_choice", "_law_due", "_law_told", "_law_wrong", "_law_least", "_law_flag", "_law_pair", "_law_thing", "_law_number"]
theorem sc_law_is_right : FnScope n_law_is_right ["_law_parts", "_law_values_here", "_law_usable_here", "_law_book_here", "_law_web", "_law_choice"] (defScope s_law_is_right) := ⟨rfl, rfl, rfl, by decide +kernel, rfl, by decide +kernel, by decide +kernel⟩
theorem cl_law_is_right {P : Program} {w : World} {K : PySem.W.Frag} {mg : Str → Option Value} {base : Heap} {CB CW : Addr} (Z : Fx K mg CB CW) : Cl P w K mg base "_law_is_right" 8 ["_law_parts", "_law_values_here", "_law_usable_here", "_law_book_here", "_law_web", "_law_choice"] (sp_law_is_right P w K CB CW) := by
  refine Z.d_law_is_right.cl (N := n_law_is_right) (k := 7) sc_law_is_right (fun vs H Q E h => by obtain ⟨_, _, _, _, _, _, rfl, _⟩ := h; rfl) (fun _ _ _ _ _ _ us hl => match us, hl with | [_, _, _, _, _, _], _ => rfl) fun f cdv A outer s H0 E0 hr => ⟨_, (pss_cons (ps_set (i := 6) sc_law_is_right.nd rfl (Or.inr rfl) (pe_cl (cl_law_extras (P := P) (w := w) (K := K) (base := base) Z) hr (by decide) rfl (pa_cons (pv 0) (pa_cons (pv 1) (pa_cons (pv 2) (pa_cons (pv 5) pa_nil)))))) (pss_cons (ps_set (i := 7) sc_law_is_right.nd rfl (Or.inl rfl) (pe_cl (cl_extras (P := P) (w := w) (K := K) (base := base) Z) hr (by decide) rfl (pa_cons (pv 3) (pa_cons (pv 4) (pa_cons (pv 5) pa_nil))))) (pss_cons (ps_if (PW.pt (pw_or (pt_not (pt_val (pe_callB (qisiN (by exact ⟨rfl, rfl, rfl⟩ : At _ P w K)) rfl Z.f_isinstance bt_isinstance (pa_cons (pv 7) (pa_cons (pe_bltn (v := .ty "dict") rfl Z.f_dict bt_dict rfl) pa_nil))))) (pw_or (pt_cmpR (qneN (by exact ⟨rfl, rfl, rfl⟩ : At _ P w K) hr.units) (pv 7) (pv 6) (nomark _)) (pw_or1 (pt_val (pe_callB (qany (by exact ⟨rfl, rfl, rfl⟩ : At _ P w K) rfl) rfl Z.f_any bt_any (pa_cons (pe_lc (own := [("_law_number", 13)]) rfl sc_law_is_right.nd (qpiV (by exact ⟨rfl, rfl, rfl⟩ : At _ P w K) (pv 7)) (blkOk_by (N := n_law_is_right) (sc := defScope s_law_is_right) (by decide +kernel)) (fun _ _ _ _ _ => (pg_name (i := 13) sc_law_is_right.nd rfl (by first | exact Or.inl rfl | exact Or.inr rfl))) (fun _ _ _ _ _ => pts_nil) (fun _ _ _ _ _ => (pe_callB (qisi (by exact ⟨rfl, rfl, rfl⟩ : At _ P w K)) rfl Z.f_isinstance bt_isinstance (pa_cons (pv 13) (pa_cons (pe_bltn (v := .ty "bool") rfl Z.f_bool bt_bool rfl) pa_nil))))) pa_nil))))))) (pss_one (ps_ret pe_bl)) pss_nil) (pss_cons (ps_expr (qnclear (by exact ⟨rfl, rfl, rfl⟩ : At _ P w K) (pv 7))) (pss_cons (ps_if (pt_cmpR (qneN (by exact ⟨rfl, rfl, rfl⟩ : At _ P w K) hr.units) (pe_cl (cl_extras (P := P) (w := w) (K := K) (base := base) Z) hr (by decide) rfl (pa_cons (pv 3) (pa_cons (pv 4) (pa_cons (pv 5) pa_nil)))) (pv 6) (nomark _)) (pss_one (ps_ret pe_bl)) pss_nil) (pss_cons (ps_set (i := 8) sc_law_is_right.nd rfl (Or.inl rfl) (pe_callB (qsorK (by exact ⟨rfl, rfl, rfl⟩ : At _ P w K) hr.units) rfl Z.f_sorted bt_sorted (pa_cons (pe_lc (own := [("_law_pair", 11)]) rfl sc_law_is_right.nd (qpiN (by exact ⟨rfl, rfl, rfl⟩ : At _ P w K) (pv 6)) (blkOk_by (N := n_law_is_right) (sc := defScope s_law_is_right) (by decide +kernel)) (fun _ _ _ _ _ => (pg_name (i := 11) sc_law_is_right.nd rfl (by first | exact Or.inl rfl | exact Or.inr rfl))) (fun _ _ _ _ _ => (pts_one (pt_cmpR op_gt (qnget (by exact ⟨rfl, rfl, rfl⟩ : At _ P w K) hr.units (pv 6) (pv 11) (fun _ _ => rfl)) (pe_cl (cl_law_price (P := P) (w := w) (K := K) (base := base) Z) hr (by decide) rfl (pa_cons (pv 0) (pa_cons (pe_ix (qixT (by exact ⟨rfl, rfl, rfl⟩ : At _ P w K)) (pv 11) pe_int (fun _ _ => rfl)) pa_nil))) (nomark _)))) (fun _ _ _ _ _ => (pv 11))) pa_nil))) (pss_cons (ps_set (i := 9) sc_law_is_right.nd rfl (Or.inl rfl) (pe_cl (cl_undercut (P := P) (w := w) (K := K) (base := base) Z) hr (by decide) rfl (pa_cons (pv 3) (pa_cons (pv 4) (pa_cons (pv 5) pa_nil))))) (pss_cons (ps_if (pt_cmpR (qneD (by exact ⟨rfl, rfl, rfl⟩ : At _ P w K) hr.units) (pv 9) (pe_ifExp (pt_cmpR op_gt (pe_callB (qlen (by exact ⟨rfl, rfl, rfl⟩ : At _ P w K)) rfl Z.f_len bt_len (pa_cons (pv 8) pa_nil)) pe_int (nomark _)) (pe_ix (qixL (by exact ⟨rfl, rfl, rfl⟩ : At _ P w K)) (pv 8) pe_int (fun _ _ => rfl)) pe_non) (nomark _)) (pss_one (ps_ret pe_bl)) pss_nil) (pss_cons (ps_set (i := 10) sc_law_is_right.nd rfl (Or.inl rfl) (pe_cl (cl_is_best (P := P) (w := w) (K := K) (base := base) Z) hr (by decide) rfl (pa_cons (pv 3) (pa_cons (pv 4) (pa_cons (pv 5) pa_nil))))) (pss_cons (ps_if (PW.pt (pw_or (pt_not (pt_val (pe_callB (qisi (by exact ⟨rfl, rfl, rfl⟩ : At _ P w K)) rfl Z.f_isinstance bt_isinstance (pa_cons (pv 10) (pa_cons (pe_bltn (v := .ty "bool") rfl Z.f_bool bt_bool rfl) pa_nil))))) (pw_or1 (pt_cmpR op_ne (pv 10) (pe_cmpR op_eq (pe_callB (qlen (by exact ⟨rfl, rfl, rfl⟩ : At _ P w K)) rfl Z.f_len bt_len (pa_cons (pv 8) pa_nil)) pe_int (nomark _)) (nomark _))))) (pss_one (ps_ret pe_bl)) pss_nil) (pss_one (ps_ret (pe_callB (qall (by exact ⟨rfl, rfl, rfl⟩ : At _ P w K) rfl) rfl Z.f_all bt_all (pa_cons (pe_lc (own := [("_law_thing", 12)]) rfl sc_law_is_right.nd (qpiN (by exact ⟨rfl, rfl, rfl⟩ : At _ P w K) (pv 5)) (blkOk_by (N := n_law_is_right) (sc := defScope s_law_is_right) (by decide +kernel)) (fun _ _ _ _ _ => (pg_name (i := 12) sc_law_is_right.nd rfl (by first | exact Or.inl rfl | exact Or.inr rfl))) (fun _ _ _ _ _ => pts_nil) (fun _ _ _ _ _ => (pe_cmpR op_eq (qnget (by exact ⟨rfl, rfl, rfl⟩ : At _ P w K) hr.units (pv 6) (pe_tup (pa_cons (pv 12) (pa_cons (qnget (by exact ⟨rfl, rfl, rfl⟩ : At _ P w K) hr.units (pv 5) (pv 12) (fun _ _ => rfl)) pa_nil))) (fun _ _ => rfl)) (pe_cl (cl_law_price (P := P) (w := w) (K := K) (base := base) Z) hr (by decide) rfl (pa_cons (pv 0) (pa_cons (qnget (by exact ⟨rfl, rfl, rfl⟩ : At _ P w K) hr.units (pv 5) (pv 12) (fun _ _ => rfl)) pa_nil))) (nomark _)))) pa_nil)))))))))))))), fun vs H Q E h => ?_⟩
  obtain ⟨v0, v1, v2, v3, v4, v5, rfl, h⟩ := h
  obtain ⟨bk, W, M, ch, rank, pu, pc, g, okb, okW, nB, nW, rfl, us, hB, hW, rfl, hc, hv, q⟩ := h
  refine ⟨_, rfl, _, rfl, _, rfl, _, rfl, _, _, _, _, rfl, bk, W, M, ch, rank, pu, pc, g, okb, okW, nB, nW, rfl, us, rfl, hc, hv, fun pd H1 s1 exd => ?_⟩
  refine ⟨_, rfl, _, rfl, _, rfl, _, _, _, rfl, bk, W, M, ch, rank, pc, g, okb, okW, hB.same s1, hW.same s1, rfl, hc.same s1, hv, fun pt H2 s2 npt ext => ?_⟩
  have exd2 := exd.same s2
  obtain ⟨k1, l1, dk1, dl1, pp1⟩ := ex_pair ext exd2
  obtain ⟨ft, dt, vt⟩ := id ext
  have s02 := smT s1 s2
  refine ⟨_, rfl, pt, _, "dict", true, rfl, dt, kit_dict, _, rfl, iteF ?_⟩
  refine ⟨_, rfl, _, rfl, pt, pd, k1, l1, rfl, rfl, dk1, dl1, pp1, _, rfl, iteF ?_⟩
  have plen : (pairs (UM bk W) (UF bk W)).length ≤ 2700 := by
    have h1 := pairs_len (W := W) okb (UM bk W)
    have h2 := UM_len okb okW
    omega
  refine ⟨_, rfl, pt, _, rfl, dt, fun φ hφ => ?_⟩
  refine lc_sm walk_nv (RAll fun _ => .bl ((fun _ => false) 0)) (by rw [List.length_map]; exact Nat.le_trans plen (by decide)) (fun _ _ _ _ _ r => r) (fun _ _ _ r => r.len) (fun H3 s => s _ _ hφ) rfl ?_ ?_
  · rintro i x acc H3 H4 Kd Kn hi s3 r kd kn ⟨rfl, k, hk⟩
    obtain ⟨z, hz, e⟩ := gmap' hk
    have ex : x = .int (exT bk W ch z.1 z.2) := by rw [← vt z (List.mem_of_getElem? hz)]; exact congrArg (·.2) e
    subst ex
    exact ⟨rfl, yes ⟨_, rfl, _, _, _, _, false, rfl, .ty _, .base (.int _), kit_ty (by decide +kernel), kd _ _ (sm0 _) r.step⟩⟩
  intro acc H3 pa s3 ea npa r
  refine ⟨pa, _, rfl, .of (by rw [ea, r.bl]), _, rfl, ?_⟩
  rw [any_const]
  refine iteF ?_
  have dt3 := dt.same s3
  refine ⟨_, rfl, pt, _, rfl, dt3, fun H4 b4 d4 => ?_⟩
  have s03 := smT s02 s3
  have npt0 : H pt = none := none_back s1 npt
  have s04 : Same H H4 := smB npt0 s03 b4
  have exd4 : ExAt P w H4 pd bk W ch := by
    obtain ⟨fd, dd, vd⟩ := exd2.same s3
    refine ⟨fd, dd.but b4 (fun z => ?_) (Dc.ntup dt3), vd⟩
    obtain ⟨φ', e'⟩ := exd.choose_spec.1.ext
    rw [z, npt] at e'; cases e'
  refine ⟨_, rfl, _, rfl, _, rfl, _, _, _, rfl, bk, W, M, ch, rank, pc, g, okb, okW, hB.same s04, hW.same s04, rfl, hc.same s04, hv, fun pt2 H5 s5 npt2 ext2 => ?_⟩
  have exd5 := exd4.same s5
  obtain ⟨k2, l2, dk2, dl2, pp2⟩ := ex_pair ext2 exd5
  refine ⟨_, rfl, pt2, pd, k2, l2, rfl, rfl, dk2, dl2, pp2, _, rfl, iteF ?_⟩
  have s05 := smT s04 s5
  obtain ⟨fd, dd, vd⟩ := exd5
  have hc5 := hc.same s05
  refine ⟨_, rfl, pd, _, rfl, dd, fun φ2 bs hφ2 pbs => ?_⟩
  have nb := nkp pbs
  have lbs : bs.length = (pairs (UM bk W) (UF bk W)).length := by rw [← Paired.length pbs, List.length_map]
  refine lc_sm walk_n (fun i acc H6 => NkA H6 acc ((((pairs (UM bk W) (UF bk W)).take i).filter (wrP bk W ch)).map eP)) (by rw [lbs]; exact Nat.le_trans plen (by decide)) (fun i acc H2 H3 t r => r.keep t) (fun i acc H2 r => ?_) (fun H2 s => s _ _ hφ2) .nil ?_ ?_
  · rw [r.length, List.length_map]
    exact Nat.le_trans (List.length_filter_le _ _) (List.length_take_le _ _)
  · rintro i x acc H6 H7 Kd Kn hi s6 r kd kn ⟨rfl, b, hb, rfl⟩
    obtain ⟨u, hu⟩ : ∃ u, (pairs (UM bk W) (UF bk W))[i]? = some u := ⟨_, getI (by omega)⟩
    obtain ⟨x', hx', nx0⟩ := nb.get (gmap hu)
    obtain rfl : x' = .ref b := by rw [List.getElem?_map, hb] at hx'; exact (Option.some.inj hx').symm
    have nx := nx0.keep (.of s6)
    have hum := List.mem_of_getElem? hu
    obtain ⟨hu1, hu2⟩ := mem_pairs.mp hum
    obtain ⟨a, x, y, e1, e2, n1, n2⟩ := nx.two
    cases e1
    have wyok := mem_waysT okb okW (UM_lt hu1).1 (UF_way hu2)
    have vv := vd u hum
    refine ⟨rfl, _, rfl, _, rfl, pd, _, rfl, (dd.same s6).ngetT encP nx hum, _, rfl, _, rfl, _, _, _, _, rfl, rfl, .of e2, rfl, _, _, rfl, bk, u.2, priceW bk u.2, nB.keep (.of (smT s05 s6)), n2, wyok.price, _, _, vv, rfl, _, rfl, ?_⟩
    refine iteB (c := wrP bk W ch u) (fun hq => ⟨_, rfl, kd _ _ (sm0 _) ?_⟩) (fun hq => kn _ (sm0 _) ?_)
    · rw [filter_snoc (q := wrP bk W ch) hu, if_pos hq, List.map_append]
      exact NkA.snoc nx r
    · rw [filter_snoc (q := wrP bk W ch) hu, if_neg (bfl hq), List.append_nil]
      exact r
  intro ws H6 pw s6 ew npw nws
  rw [lbs, List.take_length] at nws
  have nws : NkA H6 ws ((wrong bk W ch).map eP) := nws
  have lw : (wrong bk W ch).length ≤ 2700 := Nat.le_trans (List.length_filter_le _ _) plen
  refine ⟨pw, ws, _, rfl, .of ew, nws.paired, srt_P (Nat.le_trans lw (by decide)), fun ps ys nps pys => ?_⟩
  have s7 : Same H6 (upd H6 ps (.lst ys)) := same_upd nps
  have nys := (NkA.of pys).keep (.of s7)
  have eps : (upd H6 ps (.lst ys)) ps = some (.lst ys) := upd_same
  generalize upd H6 ps (.lst ys) = H7 at s7 nys eps ⊢
  have s57 := smT s6 s7
  have s07 := smT s05 s57
  refine ⟨_, rfl, _, rfl, _, rfl, _, _, _, rfl, bk, W, M, ch, rank, pc, g, okb, okW, hB.same s07, hW.same s07, rfl, hc.same s07, hv, fun r H8 s8 uc => ?_⟩
  have s08 := smT s07 s8
  have eps8 := s8 _ _ eps
  have nys8 := nys.keep (.of s8)
  have lys : ys.length = (wrong bk W ch).length := by
    rw [nys.length, (List.mergeSort_perm _ _).length_eq, List.length_map]
  have same : ∃ d1 d2, Dp K H8 r d1 ∧ Dp K H8 (ys.headD .non) d2 ∧ SeqAt.shaped d1 = true ∧ SeqAt.shaped d2 = true ∧ PyData.eqv d1 d2 = true := by
    cases hw : wrong bk W ch with
    | nil =>
      rw [hw] at uc lys
      have er : r = .non := uc
      rw [List.eq_nil_of_length_eq_zero lys, er]
      exact ⟨.none, .none, .non, .non, by decide, by decide, by rw [PyData.eqv]⟩
    | cons k ks =>
      rw [hw] at uc nys8
      obtain ⟨k', nk', hk', ek'⟩ := uc
      obtain ⟨rr, hr⟩ := ksort_min hk' ek'
      rw [hr] at nys8
      obtain ⟨p, _, rfl⟩ := List.mem_map.mp hk'
      cases nys8 with
      | cons n1 n2 => exact ⟨_, _, nk'.dp, n1.dp, shp1 (lay_P p), shp1 (lay_P p), eqvAll_refl _⟩
  obtain ⟨d1, d2, p1, p2, p3, p4, p5⟩ := same
  refine ⟨_, rfl, _, rfl, _, _, rfl, .inl ⟨_, .of eps8, rfl⟩, _, _, rfl, rfl, _, rfl, ?_⟩
  refine ifHead rfl rfl eps8 ⟨d1, d2, p1, p2, p3, p4, _, rfl, ?_⟩
  rw [p5]
  refine iteF ⟨_, rfl, _, rfl, _, rfl, _, _, _, rfl, bk, W, okb, okW, hB.same s08, hW.same s08, .inr ⟨M, ch, rank, pc, g, rfl, hc.same s08, hv, fun H9 s9 => ?_⟩⟩
  have s09 := smT s08 s9
  refine ⟨_, rfl, _, _, _, _, true, rfl, .ty _, .base (.bl _), kit_ty (by decide +kernel), _, rfl, iteF ?_⟩
  refine ⟨_, rfl, _, rfl, _, _, rfl, .inl ⟨_, .of (s9 _ _ eps8), rfl⟩, rfl, rfl, _, rfl, ?_⟩
  have eflag : (V.bl (wrong bk W ch).isEmpty) = V.bl (decide (V.int ((ys.length : Nat) : Int) = V.int 0)) := by
    congr 1
    rw [Bool.eq_iff_iff, decide_eq_true_iff, List.isEmpty_iff, ← List.length_eq_zero_iff, ← lys]
    exact ⟨fun z => by rw [z]; rfl, fun z => by have := V.int.inj z; omega⟩
  refine iteND eflag ?_
  have hc9 := hc.same s09
  have exd9 : DM P w H9 pd eP (pairs (UM bk W) (UF bk W)) fd := dd.same (smT s57 (smT s8 s9))
  refine ⟨_, rfl, pc, _, rfl, hc9.d, fun φ3 bs3 hφ3 pbs3 => ?_⟩
  have nb3 := nkp pbs3
  have lbs3 : bs3.length = M.length := by rw [← Paired.length pbs3, List.length_map]
  refine lc_sm walk_n (RAll fun _ => .bl ((fun _ => true) 0)) (by rw [lbs3]; exact hc.d.len) (fun _ _ _ _ _ r => r) (fun _ _ _ r => r.len) (fun H3 s => s _ _ hφ3) rfl ?_ ?_
  · rintro i x acc H10 H11 Kd Kn hi s10 r kd kn ⟨rfl, b, hb, rfl⟩
    obtain ⟨t, ht⟩ : ∃ t, M[i]? = some t := ⟨_, getI (by omega)⟩
    obtain ⟨x', hx', nx0⟩ := nb3.get (gmap ht)
    obtain rfl : x' = .ref b := by rw [List.getElem?_map, hb] at hx'; exact (Option.some.inj hx').symm
    have nt := nx0.keep (.of s10)
    have htM := List.mem_of_getElem? ht
    have hc10 := hc9.same s10
    have htU := hv.perm.mem_iff.mp htM
    have wyok := hv.ok.wy t htM
    have g10 := hc10.d.ngetT encT nt htM
    refine ⟨rfl, yes ⟨_, rfl, _, rfl, _, rfl, _, rfl, pc, _, rfl, g10, by show 2 ≤ sizeLine; decide, fun qk nqk => ?_⟩⟩
    have sk : Same H11 (upd H11 qk (.tup [.ref b, g t])) := same_upd nqk
    have nkey : Nk (upd H11 qk (.tup [.ref b, g t])) (.ref qk) (eP (t, ch t)) := .of2 upd_same (nt.keep (.of sk)) ((hc10.v t htM).keep (.of sk))
    have hp : (t, ch t) ∈ pairs (UM bk W) (UF bk W) := mem_pairs.mpr ⟨htU, hv.u t htM⟩
    have hck := hc10.same sk
    refine ⟨pd, _, rfl, (exd9.same (smT s10 sk)).ngetT encP nkey hp, _, rfl, _, rfl, _, rfl, pc, _, rfl, hck.d.ngetT encT (nt.keep (.of sk)) htM, _, _, rfl, bk, ch t, priceW bk (ch t), nB.keep (.of (smT s09 (smT s10 sk))), hck.v t htM, wyok.price, ?_⟩
    rw [vd _ hp, ex_own hv htM]
    refine ⟨rfl, ?_⟩
    rw [decide_eq_true rfl]
    exact kd _ _ sk r.step
  · intro acc H10 pz s10 ez nz r
    exact ⟨pz, _, rfl, .of (by rw [ez, r.bl]), qT all_const (q _ (smT s09 s10))⟩
end K19
set_option maxHeartbeats 4000000
namespace K19
open PySem PySem.Spec PyProof.Rows L2
theorem okU {P : Program} {w : World} {K : PySem.W.Frag} {mg : Str → Option Value} {base : Heap} {x : Str} {st : Stmt} {ps N : List Str} {k : Nat} {sp : Sp} {f : Addr} {fd : FuncData} (F : FunD K x x (defArgs st) (defBody st) (defScope st) [] [] f fd) (S : FnScope N ps (defScope st)) (len : ∀ vs H Q E, sp vs H Q E → vs.length = ps.length)
    (hbody : ∀ (cdv : Value) (A : Around) (outer : List Env) (s : Shared) (H0 : Hp) (E0 : XK), Room k (A.deeper (envOfC x (defScope st) s.heap.objs.size f cdv)) →
      ∃ t, PSs (cxd P w K mg base x st N f cdv A outer s H0 E0) (defBody st) t ∧ ∀ vs H Q E, sp vs H Q E → t { nx := fun _ H' => Q .non H', rt := Q } (start N vs) H) : FnOk P w K mg base CX0 (k + 1) f fd ps sp := by
  refine F.ok S len fun cdv A outer s H vs Q E hr hs => ?_
  obtain ⟨t, h, q⟩ := hbody cdv A outer s H E hr
  exact ⟨t, h.nox, q vs H Q E hs⟩
theorem BkAt.bg {CB b g : Addr} {H H' : Hp} {v : V} {bk : Bk} (x : BkAt CB H v bk) (f : Bg b g H H') (B : Bag H b g) : BkAt CB H' v bk := by
  obtain ⟨a, dx, xa, xr, xm, e, h, n1, n2, n3⟩ := x
  obtain ⟨h1, h2⟩ := B.notOf h (fun xs z => by cases z)
  have k := f.kpt B
  exact ⟨a, dx, xa, xr, xm, e, f.at h1 h2 h, n1.keep k, n2.keep k, n3.keep k⟩
theorem WbAt.bg {CW b g : Addr} {H H' : Hp} {v : V} {W : List Vl} (x : WbAt CW H v W) (f : Bg b g H H') (B : Bag H b g) : WbAt CW H' v W := by
  obtain ⟨a, dx, xr, e, h, n1⟩ := x
  obtain ⟨h1, h2⟩ := B.notOf h (fun xs z => by cases z)
  exact ⟨a, dx, xr, e, f.at h1 h2 h, n1.keep (f.kpt B)⟩
theorem ChAt.bg {P : Program} {w : World} {b g p : Addr} {H H' : Hp} {M : List Thg} {ch : Thg → Wy} {gg : Thg → V} (x : ChAt P w H p M ch gg) (f : Bg b g H H') (B : Bag H b g) : ChAt P w H' p M ch gg := ⟨x.d.bg f B, fun t ht => (x.v t ht).keep (f.kpt B)⟩
theorem Dc.bg {P : Program} {w : World} {b g p : Addr} {H H' : Hp} {kvs : List (NestedKey × V)} (x : Dc P w H p kvs) (f : Bg b g H H') (B : Bag H b g) : Dc P w H' p kvs := by
  obtain ⟨φ, hp⟩ := x.ext
  obtain ⟨h1, h2⟩ := B.notOf hp (fun xs z => by cases z)
  exact x.keep (fun o e => f.at h1 h2 e) (f.kpt B)
def hT (t : Thg) : Int := reduceHash (Builtin.Tuple.tupleHashOf [hashInt t.1, hashInt t.2])
theorem hT_eq (w : World) (t : Thg) : (eT t).hash w = hT t := by
  simp only [NestedKey.hash, NestedKey.hashes]; rfl
def chkH (l : List Thg) (m : List Int) : Bool := match l, m with
  | [], [] => true
  | a :: l, b :: m => decide (hT a = b) && chkH l m
  | _, _ => false
theorem chkH_eq : ∀ {l : List Thg} {m : List Int}, chkH l m = true → l.map hT = m
  | [], [], _ => rfl
  | a :: l, b :: m, h => by
    have h : (decide (hT a = b) && chkH l m) = true := h
    obtain ⟨h1, h2⟩ := Bool.and_eq_true_iff.mp h
    rw [List.map_cons, of_decide_eq_true h1, chkH_eq h2]
  | [], _ :: _, h => nomatch h
  | _ :: _, [], h => nomatch h
def vals45 : List Int := [-8458139203682520985, -1950498447580522560, 7204814214171964562, -4734289103435588629, 1773351652666409796, -5164621852614943976, 8389048192121911274, -3550055125485641917, -1440771752368011620, -6333845781340707986, 4685526799349444076, 6794810172467074373, 1901736143494378007, 8409376899596376432, 3516302870623680066, 2248468952609198383, 8756109708711196808, 3863035679738500442, 5972319052856130739, 1079245023883434373, -6348126469135965181, 159514286966033244, -9131917124991031250, -2624276368889032825, 3883364387212965600, -3054609118068388172, 3453031638033610253, -5838399773923454241, 669240982178544184, -4223833046794152182, -5491666964808633865, 8062003079928221385, -3877100237679331806, 2630540518422666619, -6660890893534397875, 4358481687155754187, -7580621630451799004, 5973048414285056246, 8082331787402686543, 3189257758429990177, 1921423840415508494, 8429064596517506919, 3535990567544810553, -8403112750062742638, 752199911689744484]
theorem aT_vals : aT 9 5 = [(0, 0), (0, 1), (0, 2), (0, 3), (0, 4), (1, 0), (1, 1), (1, 2), (1, 3), (1, 4), (2, 0), (2, 1), (2, 2), (2, 3), (2, 4), (3, 0), (3, 1), (3, 2), (3, 3), (3, 4), (4, 0), (4, 1), (4, 2), (4, 3), (4, 4), (5, 0), (5, 1), (5, 2), (5, 3), (5, 4), (6, 0), (6, 1), (6, 2), (6, 3), (6, 4), (7, 0), (7, 1), (7, 2), (7, 3), (7, 4), (8, 0), (8, 1), (8, 2), (8, 3), (8, 4)] := by decide +kernel
theorem hT_vals : (aT 9 5).map hT = vals45 := by
  rw [aT_vals]
  exact chkH_eq (by decide +kernel)
theorem hT_nd : ((aT 9 5).map hT).Nodup := by rw [hT_vals]; decide +kernel
theorem inj_of_nodup {α β : Type} {f : α → β} : ∀ {l : List α}, (l.map f).Nodup → ∀ a ∈ l, ∀ b ∈ l, f a = f b → a = b
  | [], _, _, h, _, _, _ => by cases h
  | x :: l, nd, a, ha, b, hb, e => by
    obtain ⟨h1, h2⟩ := List.nodup_cons.mp nd
    rcases List.mem_cons.mp ha with ea | ha'
    · rcases List.mem_cons.mp hb with eb | hb'
      · rw [ea, eb]
      · exact absurd (show f x ∈ l.map f by rw [← ea, e]; exact List.mem_map_of_mem hb') h1
    · rcases List.mem_cons.mp hb with eb | hb'
      · exact absurd (show f x ∈ l.map f by rw [← eb, ← e]; exact List.mem_map_of_mem ha') h1
      · exact inj_of_nodup h2 a ha' b hb' e
theorem hapG {w : World} {f : Thg → Int} (hf : ∀ t, (eT t).hash w = f t) {A : List Thg} (inj : ∀ a ∈ A, ∀ b ∈ A, f a = f b → a = b) (g : Thg → V) : ∀ {M : List Thg}, M.Nodup → (∀ t ∈ M, t ∈ A) → ((M.map fun t => (eT t, g t)).map fun kv : NestedKey × V => kv.1.hash w).Nodup
  | [], _, _ => List.nodup_nil
  | a :: l, nd, h => by
    obtain ⟨h1, h2⟩ := List.nodup_cons.mp nd
    rw [List.map_cons, List.map_cons]
    refine List.nodup_cons.mpr ⟨fun z => ?_, hapG hf inj g h2 fun t ht => h t (List.mem_cons_of_mem _ ht)⟩
    obtain ⟨kv, hkv, e⟩ := List.mem_map.mp z
    obtain ⟨b, hb, rfl⟩ := List.mem_map.mp hkv
    have e : (eT b).hash w = (eT a).hash w := e
    rw [hf, hf] at e
    have := inj b (h b (List.mem_cons_of_mem _ hb)) a (h a (List.mem_cons_self ..)) e
    rw [this] at hb; exact h1 hb
theorem hap_T {w : World} {M : List Thg} {g : Thg → V} (nd : M.Nodup) (h : ∀ t ∈ M, t.1 < 9 ∧ t.2 < 5) : HAp w (M.map fun t => (eT t, g t)) :=
  hapG (hT_eq w) (inj_of_nodup hT_nd) g nd fun t ht => mem_aT.mpr (h t ht)
theorem UM_pos {bk : Bk} {W : List Vl} (ok : bk.Ok) (okW : WbOk bk W) (h0 : W[0]? = some (0, [])) (h : ∃ rl ∈ bk.rs, rl.op = 0) : 1 ≤ (UM bk W).length := by
  obtain ⟨rl, hr, ho⟩ := h
  obtain ⟨i, hi⟩ := List.getElem?_of_mem hr
  have hv : vlOf W (0, rl.tgt) = (0, []) := by
    show W.getD 0 (0, []) = _
    rw [List.getD_eq_getElem?_getD, h0]; rfl
  have hW : 0 < W.length := (List.getElem?_eq_some_iff.mp h0).1
  have il := (List.getElem?_eq_some_iff.mp hi).1
  have hy : (true, i) ∈ waysT bk W (0, rl.tgt) := by
    unfold waysT waysOp
    refine List.mem_append_right _ (List.mem_map.mpr ⟨i, List.mem_filter.mpr ⟨List.mem_range.mpr il, ?_⟩, rfl⟩)
    unfold pR
    rw [hi, hv]
    show (decide (rl.op = 0) && decide (rl.tgt = rl.tgt)) = true
    rw [decide_eq_true ho, decide_eq_true rfl]; rfl
  have hm : Mk bk W (0, rl.tgt) := .mk hW (ok.ro rl hr).tgt hy fun n hn => by
    have : needsT bk W (0, rl.tgt) (true, i) = ([] : List Nat).zip (bk.rs.getD i r0).src := by
      show (vlOf W (0, rl.tgt)).2.zip _ = _
      rw [hv]
    rw [this, List.zip_nil_left] at hn
    cases hn
  exact List.length_pos_of_mem ((UM_mk ok okW).mpr hm)
def sp_law (P : Program) (w : World) (K : PySem.W.Frag) (CB CW : Addr) : Sp := fun vs H Q _ => ∃ a, vs = [a] ∧ ∃ (l : Addr) (ns : List Int), a = .ref l ∧ SqL K H l (ns.map V.int) ∧ ns.length ≤ 63 ∧ ∀ H', Q (.bl true) H'
abbrev n_law : List Str := ["_law_script", "_law_bag_here", "_law_turn", "_law_parts", "_law_values_here", "_law_usable_here", "_law_book_here", "_law_web", "_law_choice", "_law_less", "_law_odd"]
theorem sc_law : FnScope n_law ["_law_script"] (defScope s_law) := ⟨rfl, rfl, rfl, by decide +kernel, rfl, by decide +kernel, by decide +kernel⟩
theorem cl_law {P : Program} {w : World} {K : PySem.W.Frag} {mg : Str → Option Value} {base : Heap} {CB CW : Addr} {f : Addr} {fd : FuncData} (F : FunD K "law" "law" (defArgs s_law) (defBody s_law) (defScope s_law) [] [] f fd) (Z : Fx K mg CB CW) : FnOk P w K mg base CX0 10 f fd ["_law_script"] (sp_law P w K CB CW) := by
  refine okU F (N := n_law) (k := 9) sc_law (fun vs H Q E h => by obtain ⟨_, rfl, _⟩ := h; rfl) fun cdv A outer s H0 E0 hr => ⟨_, (pss_cons (ps_set (i := 1) sc_law.nd rfl (Or.inl rfl) (pe_cl (cl_law_bag (P := P) (w := w) (K := K) (base := base) Z) hr (by decide) rfl (pa_cons (pv 0) pa_nil))) (pss_cons (ps_for PassesOwn.never rfl (pi_range1 rfl Z.f_range (pa_cons pe_int pa_nil)) (pg_name (i := 2) sc_law.nd rfl (Or.inl rfl)) (pss_cons (ps_set (i := 3) sc_law.nd rfl (Or.inl rfl) (pe_cl (cl_law_book (P := P) (w := w) (K := K) (base := base) Z) hr (by decide) rfl (pa_cons (pv 1) (pa_cons (pe_op op_add pe_int (pe_cl (cl_law_pick (P := P) (w := w) (K := K) (base := base) Z) hr (by decide) rfl (pa_cons (pv 1) (pa_cons pe_int pa_nil)))) (pa_cons (pe_op op_add pe_int (pe_cl (cl_law_pick (P := P) (w := w) (K := K) (base := base) Z) hr (by decide) rfl (pa_cons (pv 1) (pa_cons pe_int pa_nil)))) (pa_cons (pe_ix (qixL (by exact ⟨rfl, rfl, rfl⟩ : At _ P w K)) (pe_lst (pa_cons pe_int (pa_cons pe_int (pa_cons pe_int pa_nil)))) (pe_cl (cl_law_pick (P := P) (w := w) (K := K) (base := base) Z) hr (by decide) rfl (pa_cons (pv 1) (pa_cons pe_int pa_nil))) (fun _ _ => rfl)) pa_nil)))))) (pss_cons (ps_set (i := 4) sc_law.nd rfl (Or.inl rfl) (pe_cl (cl_law_values (P := P) (w := w) (K := K) (base := base) Z) hr (by decide) rfl (pa_cons (pv 1) (pa_cons (pe_ix (qixT (by exact ⟨rfl, rfl, rfl⟩ : At _ P w K)) (pv 3) pe_int (fun _ _ => rfl)) (pa_cons (pe_op op_add pe_int (pe_cl (cl_law_pick (P := P) (w := w) (K := K) (base := base) Z) hr (by decide) rfl (pa_cons (pv 1) (pa_cons pe_int pa_nil)))) pa_nil))))) (pss_cons (ps_set (i := 5) sc_law.nd rfl (Or.inl rfl) (pe_cl (cl_law_usable (P := P) (w := w) (K := K) (base := base) Z) hr (by decide) rfl (pa_cons (pv 3) (pa_cons (pv 4) pa_nil)))) (pss_cons (ps_par (i := 6) (j := 7) rfl sc_law.nd rfl rfl (by decide) rfl rfl (pa_cons (pe_mk (ic_Book (P := P) (w := w) (K := K) (base := base) Z) Z.gB hr (by decide) rfl (pa_cons (pe_ix (qixT (by exact ⟨rfl, rfl, rfl⟩ : At _ P w K)) (pv 3) pe_int (fun _ _ => rfl)) (pa_cons (pe_ix (qixT (by exact ⟨rfl, rfl, rfl⟩ : At _ P w K)) (pv 3) pe_int (fun _ _ => rfl)) (pa_cons (pe_ix (qixT (by exact ⟨rfl, rfl, rfl⟩ : At _ P w K)) (pv 3) pe_int (fun _ _ => rfl)) (pa_cons (pe_ix (qixT (by exact ⟨rfl, rfl, rfl⟩ : At _ P w K)) (pv 3) pe_int (fun _ _ => rfl)) pa_nil))))) (pa_cons (pe_mk (ic_Web (P := P) (w := w) (K := K) (base := base) Z) Z.gW hr (by decide) rfl (pa_cons (pv 4) pa_nil)) pa_nil)) rfl) (pss_cons (ps_for PassesOwn.never rfl (qpiL (by exact ⟨rfl, rfl, rfl⟩ : At _ P w K) (pe_lst (pa_cons (pe_cl (cl_law_drawn_choice (P := P) (w := w) (K := K) (base := base) Z) hr (by decide) rfl (pa_cons (pv 1) (pa_cons (pv 3) (pa_cons (pv 4) (pa_cons (pv 5) pa_nil))))) (pa_cons (pe_cl (cl_own (P := P) (w := w) (K := K) (base := base) Z) hr (by decide) rfl (pa_cons (pv 6) (pa_cons (pv 7) pa_nil))) pa_nil)))) (pg_name (i := 8) sc_law.nd rfl (Or.inl rfl)) (pss_one (ps_if (pt_not (pt_val (pe_cl (cl_law_is_right (P := P) (w := w) (K := K) (base := base) Z) hr (by decide) rfl (pa_cons (pv 3) (pa_cons (pv 4) (pa_cons (pv 5) (pa_cons (pv 6) (pa_cons (pv 7) (pa_cons (pv 8) pa_nil))))))))) (pss_one (ps_ret pe_bl)) pss_nil))) (pss_cons (ps_set (i := 9) sc_law.nd rfl (Or.inl rfl) (pe_callTy (qdctN (by exact ⟨rfl, rfl, rfl⟩ : At _ P w K) hr.units) rfl Z.f_dict bt_dict (pa_cons (pv 8) pa_nil))) (pss_cons (ps_expr (qnpop (by exact ⟨rfl, rfl, rfl⟩ : At _ P w K) hr.units (pv 9) (pe_cl (cl_law_some (P := P) (w := w) (K := K) (base := base) Z) hr (by decide) rfl (pa_cons (pv 1) (pa_cons (pe_callB (qsorK (by exact ⟨rfl, rfl, rfl⟩ : At _ P w K) hr.units) rfl Z.f_sorted bt_sorted (pa_cons (pe_callTy (qlstN (by exact ⟨rfl, rfl, rfl⟩ : At _ P w K) rfl) rfl Z.f_list bt_list (pa_cons (pv 8) pa_nil)) pa_nil)) pa_nil))) ⟨rfl, rfl, rfl, rfl⟩)) (pss_cons (ps_set (i := 10) sc_law.nd rfl (Or.inl rfl) (pe_lst (pa_cons pe_non (pa_cons (qdnew (by exact ⟨rfl, rfl, rfl⟩ : At _ P w K)) (pa_cons (pv 9) (pa_cons (pe_callTy (qlstN (by exact ⟨rfl, rfl, rfl⟩ : At _ P w K) rfl) rfl Z.f_list bt_list (pa_cons (pv 8) pa_nil)) (pa_cons pe_int (pa_cons pe_str (pa_cons (pe_lst (pa_cons (pv 8) pa_nil)) (pa_cons (pe_cl0 (cl_law_nested (P := P) (w := w) (K := K) (base := base) Z) hr (by decide) rfl) (pa_cons (pe_tup (pa_cons (pv 8) pa_nil)) pa_nil))))))))))) (pss_one (ps_if (pt_cmpR op_isnot_bl (pe_cl (cl_is_best (P := P) (w := w) (K := K) (base := base) Z) hr (by decide) rfl (pa_cons (pv 6) (pa_cons (pv 7) (pa_cons (pe_ix (qixL (by exact ⟨rfl, rfl, rfl⟩ : At _ P w K)) (pv 10) (pe_cl (cl_law_pick (P := P) (w := w) (K := K) (base := base) Z) hr (by decide) rfl (pa_cons (pv 1) (pa_cons pe_int pa_nil))) (fun _ _ => rfl)) pa_nil)))) pe_bl (nomark _)) (pss_one (ps_ret pe_bl)) pss_nil))))))))))) (pss_one (ps_ret pe_bl)))), fun vs H Q E h => ?_⟩
  obtain ⟨v0, rfl, h⟩ := h
  obtain ⟨l, ns, rfl, hl, hn, q⟩ := h
  refine ⟨_, rfl, _, rfl, l, ns, rfl, hl, hn, fun bb gg H1 s1 B1 => ?_⟩
  refine ⟨3, rfl, by decide, by decide, ?_⟩
  refine for_it (n := 3) walk_r0 (fun i σ H2 => ∃ x2 x3 x4 x5 x6 x7 x8 x9 x10, σ = [some (.ref l), some (.ref bb), x2, x3, x4, x5, x6, x7, x8, x9, x10] ∧ Bag H2 bb gg) ⟨_, _, _, _, _, _, _, _, _, rfl, B1⟩ (fun _ _ _ _ _ => trivial) ?_ (fun σ H2 ⟨_, _, _, _, _, _, _, _, _, _, _⟩ => q H2)
  rintro i x σ H2 H3 hi ⟨x2, x3, x4, x5, x6, x7, x8, x9, x10, rfl, B3⟩ ⟨rfl, rfl⟩
  refine ⟨_, rfl, _, rfl, _, _, rfl, bb, gg, 4, rfl, B3, rfl, by decide, by decide, fun r1 H4 hr1 f4 B4 => ⟨_, _, rfl, rfl, ?_⟩⟩
  refine ⟨_, rfl, _, _, rfl, bb, gg, 4, rfl, B4, rfl, by decide, by decide, fun r2 H5 hr2 f5 B5 => ⟨_, _, rfl, rfl, ?_⟩⟩
  refine ⟨by show 3 ≤ sizeLine; decide, fun pl npl => ?_⟩
  obtain ⟨plb, plg⟩ := B5.notNone npl
  have sl : Same H5 (upd H5 pl (.lst [.int 2, .int 5, .int 1000])) := same_upd npl
  refine ⟨_, rfl, _, _, rfl, bb, gg, 3, rfl, B5.same sl, rfl, by decide, by decide, fun r3 H6 hr3 f6 B6 => ?_⟩
  have el6 : H6 pl = some (.lst [.int 2, .int 5, .int 1000]) := f6.at plb plg upd_same
  obtain ⟨most, hmost, m1, m2⟩ : ∃ m : Nat, [V.int 2, V.int 5, V.int 1000][r3]? = some (.int (m : Nat)) ∧ 1 ≤ m ∧ m ≤ 1000 := by
    match r3, hr3 with
    | 0, _ => exact ⟨2, rfl, by decide, by decide⟩
    | 1, _ => exact ⟨5, rfl, by decide, by decide⟩
    | 2, _ => exact ⟨1000, rfl, by decide, by decide⟩
  refine ⟨pl, _, _, _, rfl, rfl, .of el6, atI_nat hmost, ?_⟩
  refine ⟨_, _, _, _, rfl, bb, gg, 2 + r1, 2 + r2, most, rfl, B6, congrArg V.int (by omega), congrArg V.int (by omega), rfl, by omega, by omega, by omega, by omega, m1, m2, fun bk vp H7 okb ar0 rl0 f7 B7 np7 => ?_⟩
  obtain ⟨ap, xa, xr, xm, rfl, eP, na, nr, nm⟩ := id np7.parts
  refine ⟨_, rfl, _, rfl, _, _, _, _, rfl, rfl, .of eP, rfl, _, rfl, _, _, rfl, bb, gg, 9, rfl, B7, rfl, by decide, by decide, fun r4 H8 hr4 f8 B8 => ⟨_, _, rfl, rfl, ?_⟩⟩
  have k8 := f8.kpt B7
  refine ⟨_, _, _, rfl, bb, gg, bk.ar, 1 + r4, rfl, B8, na.keep k8, congrArg V.int (by omega), by omega, by omega, okb.a2, ar0, okb.a3, fun W vW H9 lW vs f9 B9 nW9 => ?_⟩
  have k79 := k8.trans (f9.kpt B8)
  have np9 := np7.keep k79
  have okW : WbOk bk W := ⟨by omega, fun i v hv => ⟨(vs.ok i v hv).1, (vs.ok i v hv).2⟩⟩
  refine ⟨_, rfl, _, rfl, _, _, rfl, bk, W, okb, okW, np9, nW9, fun pu H10 mk s10 ndm hm1 hm2 us0 => ?_⟩
  obtain ⟨lu1, lu2⟩ := law_UM okb okW ndm hm1 hm2
  have us : UsAt P w H10 pu (UM bk W) (UF bk W) := by
    rw [lu1] at us0
    obtain ⟨gu, du, lu⟩ := us0
    exact ⟨gu, du, fun t ht => by rw [← lu2 t ht]; exact lu t ht⟩
  have B10 := B9.same s10
  have np10 := np9.keep (.of s10)
  have nW10 := nW9.keep (.of s10)
  have eP10 := s10 _ _ (k79 _ _ eP)
  have na10 := (na.keep k79).keep (.of s10)
  have nr10 := (nr.keep k79).keep (.of s10)
  have nm10 := (nm.keep k79).keep (.of s10)
  refine ⟨_, rfl, _, _, _, _, rfl, rfl, .of eP10, rfl, _, rfl, _, _, _, _, rfl, rfl, .of eP10, rfl, _, rfl, _, _, _, _, rfl, rfl, .of eP10, rfl, _, rfl, _, _, _, _, rfl, rfl, .of eP10, rfl, fun xb dxb nxb ndxb neb => ?_⟩
  have sb : Same H10 (upd (upd H10 dxb (.own xb)) xb (.ins CB dxb [])) := smT (same_upd ndxb) (same_upd (by rw [upd_ne (Ne.symm neb)]; exact nxb))
  refine ⟨_, _, _, _, _, rfl, xb, dxb, bk, rfl, upd_same, okb, na10.keep (.of sb), rfl, nr10.keep (.of sb), nm10.keep (.of sb), fun H11 made11 e11 => ⟨rfl, ?_⟩⟩
  have s11 : Same H10 H11 := fun c o e => made11 c o (fun z => by rw [z, nxb] at e; cases e) (sb c o e)
  have hB11 : BkAt CB H11 (.ref xb) bk := ⟨xb, dxb, _, _, _, rfl, e11, na10.keep (.of s11), nr10.keep (.of s11), nm10.keep (.of s11)⟩
  refine ⟨_, rfl, fun xw dxw nxw ndxw new => ?_⟩
  have sw : Same H11 (upd (upd H11 dxw (.own xw)) xw (.ins CW dxw [])) := smT (same_upd ndxw) (same_upd (by rw [upd_ne (Ne.symm new)]; exact nxw))
  have nW11 := nW10.keep (.of s11)
  refine ⟨_, _, rfl, xw, dxw, bk, W, rfl, upd_same, okb, okW, nW11.keep (.of sw), fun H12 made12 e12 => ⟨rfl, ?_⟩⟩
  have s12 : Same H11 H12 := fun c o e => made12 c o (fun z => by rw [z, nxw] at e; cases e) (sw c o e)
  have hW12 : WbAt CW H12 (.ref xw) W := ⟨xw, dxw, _, rfl, e12, nW11.keep (.of s12)⟩
  have hB12 := hB11.same s12
  have s1012 := smT s11 s12
  have B12 := B10.same s1012
  have np12 := np10.keep (.of s1012)
  have nW12 := nW10.keep (.of s1012)
  have us12 := us.same s1012
  have hne : ∀ t ∈ UM bk W, UF bk W t ≠ [] := fun t ht => UF_ne okb okW ht
  refine ⟨_, _, rfl, ?_⟩
  refine ⟨_, rfl, _, rfl, _, rfl, _, rfl, _, _, _, _, rfl, bb, gg, bk, W, pu, okb, okW, rfl, B12, np12, nW12, rfl, us12, fun M ch rank g p1 H13 hv1 hc1 f13 B13 => ?_⟩
  have k13 := f13.kpt B12
  have hB13 := hB12.bg f13 B12
  have hW13 := hW12.bg f13 B12
  refine ⟨_, rfl, _, rfl, _, _, rfl, bk, W, okb, okW, hB13, hW13, fun H14 p2 ch2 g2 s14 hc2 hv2 => ⟨by show 2 ≤ sizeLine; decide, fun pL npL => ⟨pL, rfl, ⟨_, .of upd_same⟩, ?_⟩⟩⟩
  have sL : Same H14 (upd H14 pL (.lst [.ref p1, .ref p2])) := same_upd npL
  have eL15 : (upd H14 pL (.lst [V.ref p1, .ref p2])) pL = some (.lst [.ref p1, .ref p2]) := upd_same
  generalize upd H14 pL (.lst [V.ref p1, .ref p2]) = H15 at sL eL15 ⊢
  have s1315 := smT s14 sL
  have B15 := B13.same s1315
  have np15 := (np12.keep k13).keep (.of s1315)
  have nW15 := (nW12.keep k13).keep (.of s1315)
  have us15 := (us12.bg hne f13 B12).same s1315
  have hB15 := hB13.same s1315
  have hW15 := hW13.same s1315
  have hc115 := hc1.same s1315
  have hc215 := hc2.same sL
  refine for_it walk_list (fun k σ H16 => ∃ x8 x9 x10, σ = [some (.ref l), some (.ref bb), some (.int (i : Nat)), some (.ref ap), some vW, some (.ref pu), some (.ref xb), some (.ref xw), x8, x9, x10] ∧ Same H15 H16 ∧ (k = 2 → x8 = some (.ref p2))) ⟨_, _, _, rfl, sm0 _, fun z => nomatch z⟩ (fun k σ H16 _ ⟨_, _, _, _, s, _⟩ => .of (s _ _ eL15)) ?_ ?_
  · rintro k x σ H16 H17 hk ⟨x8, x9, x10, rfl, s16, _⟩ ⟨rfl, hx⟩
    have right : ∃ (M' : List Thg) (ch' : Thg → Wy) (rank' : Thg → Nat) (p' : Addr) (g' : Thg → V), x = .ref p' ∧ ChAt P w H15 p' M' ch' g' ∧ ChV bk W M' ch' rank' ∧ (k + 1 = 2 → p' = p2) := by
      match k, hk with
      | 0, _ => exact ⟨M, ch, rank, p1, g, (Option.some.inj hx).symm, hc115, hv1, fun z => nomatch z⟩
      | 1, _ => exact ⟨UM bk W, ch2, _, p2, g2, (Option.some.inj hx).symm, hc215, hv2, fun _ => rfl⟩
    obtain ⟨M', ch', rank', p', g', rfl, hc', hv', hp'⟩ := right
    refine ⟨_, rfl, _, rfl, _, rfl, _, rfl, _, rfl, _, rfl, _, _, _, _, _, _, rfl, bk, W, M', ch', rank', pu, p', g', okb, okW, np15.keep (.of s16), nW15.keep (.of s16), rfl, us15.same s16, hB15.same s16, hW15.same s16, rfl, hc'.same s16, hv', fun H18 s18 => ⟨_, rfl, iteF ?_⟩⟩
    exact ⟨_, _, _, rfl, smT s16 s18, fun z => by rw [hp' z]⟩
  rintro σ H16 ⟨x8, x9, x10, rfl, s16, e8⟩
  cases e8 rfl
  have hc16 := hc215.same s16
  have B16 := B15.same s16
  have hUM := UM_len okb okW
  have hpos := UM_pos okb okW vs.z rl0
  have hk2 := okb.k2
  have hWn := okW.n
  refine ⟨_, rfl, p2, _, rfl, hc16.d, hap_T UM_nd fun t ht => ⟨by have := UM_lt ht; omega, by have := UM_lt ht; omega⟩, fun pd H17 npd bd dd => ?_⟩
  have s17 := bd.same npd
  have hc17 := hc16.same s17
  have B17 := B16.same s17
  refine ⟨_, rfl, pd, rfl, ⟨_, dd⟩, _, rfl, _, rfl, p2, _, rfl, hc17.d, fun pl2 bs npl2 pbs => ?_⟩
  have nb2 := nkp pbs
  have sl2 : Same H17 (upd H17 pl2 (.lst (bs.map V.ref))) := same_upd npl2
  refine ⟨pl2, _, _, rfl, .of upd_same, (nb2.keep (.of sl2)).paired, srt_T (Nat.le_trans hUM (by decide)), fun ps ys nps pys => ?_⟩
  have ss : Same H17 (upd (upd H17 pl2 (.lst (bs.map V.ref))) ps (.lst ys)) := smT sl2 (same_upd nps)
  have nys := (NkA.of pys).keep (.of (same_upd (o := .lst ys) nps))
  have Bs := B17.same ss
  obtain ⟨psb, psg⟩ := (B17.same sl2).notNone nps
  have eps : (upd (upd H17 pl2 (.lst (bs.map V.ref))) ps (.lst ys)) ps = some (.lst ys) := upd_same
  generalize upd (upd H17 pl2 (.lst (bs.map V.ref))) ps (.lst ys) = H19 at ss nys Bs eps ⊢
  rw [ksort_T] at nys
  have lys : ys.length = (UM bk W).length := by rw [nys.length, List.length_map, (srtT_perm _).length_eq]
  refine ⟨_, _, rfl, bb, gg, ps, ys, rfl, Bs, rfl, eps, psb, psg, by omega, by omega, fun m z H20 hz f20 B20 => ?_⟩
  obtain ⟨kk, hkk, nz⟩ := nys.get' hz
  obtain ⟨t, ht, rfl⟩ := gmap' hkk
  have htU := (srtT_perm _).mem_iff.mp (List.mem_of_getElem? ht)
  have nz20 := nz.keep (f20.kpt Bs)
  obtain ⟨bz, rfl, _⟩ := nz20.th
  have dd20 := (dd.same ss).bg f20 Bs
  refine ⟨_, eT t, bz, g2 t, dd20, rfl, nz20, encT.dp t, by rw [valV_map_enc encT, memB_t htU]; rfl, fun H21 b21 d21 => ?_⟩
  have f1720 : Bg bb gg H17 H20 := (Bg.of ss).trans f20
  obtain ⟨pdb, pdg⟩ := B16.notNone npd
  have B21 := B20.but b21 pdb pdg
  have f1621 : Bg bb gg H16 H21 := bgB npd ((Bg.of s17).trans f1720) b21
  have hc21 := hc16.bg f1621 B16
  have hB21 := (hB15.same s16).bg f1621 B16
  have hW21 := (hW15.same s16).bg f1621 B16
  have ldrop : (dropK ((UM bk W).map fun t => (eT t, g2 t)) (eT t)).length ≠ (UM bk W).length := by
    intro z
    have h1 : (eT t, g2 t) ∈ (UM bk W).map fun t => (eT t, g2 t) := List.mem_map_of_mem htU
    have h2 : (dropK ((UM bk W).map fun t => (eT t, g2 t)) (eT t)).length = ((UM bk W).map fun t => (eT t, g2 t)).length := by rw [z, List.length_map]
    have h3 := List.length_filter_eq_length_iff.mp h2 _ h1
    simp at h3
  generalize dropK ((UM bk W).map fun t => (eT t, g2 t)) (eT t) = kvd at d21 ldrop
  intro pe H22 npe be de
  have s22 := be.same npe
  refine ⟨_, rfl, _, rfl, p2, _, rfl, (hc21.same s22).d, fun pl3 bs3 npl3 pbs3 => ?_⟩
  have s23 : Same H22 (upd H22 pl3 (.lst (bs3.map V.ref))) := same_upd npl3
  have el3 : (upd H22 pl3 (.lst (bs3.map V.ref))) pl3 = some (.lst (bs3.map V.ref)) := upd_same
  generalize upd H22 pl3 (.lst (bs3.map V.ref)) = H23 at s23 el3 ⊢
  refine ⟨_, rfl, by show 1 ≤ sizeLine; decide, fun pl4 npl4 => ?_⟩
  have s24 : Same H23 (upd H23 pl4 (.lst [.ref p2])) := same_upd npl4
  have el4 : (upd H23 pl4 (.lst [V.ref p2])) pl4 = some (.lst [.ref p2]) := upd_same
  generalize upd H23 pl4 (.lst [V.ref p2]) = H24 at s24 el4 ⊢
  refine ⟨rfl, fun an H25 xn s25 ean => ?_⟩
  refine ⟨_, rfl, by show 1 ≤ sizeLine; decide, fun pt npt => ?_⟩
  have s26 : Same H25 (upd H25 pt (.tup [.ref p2])) := same_upd npt
  have et : (upd H25 pt (.tup [V.ref p2])) pt = some (.tup [.ref p2]) := upd_same
  generalize upd H25 pt (.tup [V.ref p2]) = H26 at s26 et ⊢
  refine ⟨by show 9 ≤ sizeLine; decide, fun po npo => ?_⟩
  have s27 : Same H26 (upd H26 po (.lst [.non, .ref pe, .ref pd, .ref pl3, .int 0, .str "own", .ref pl4, .ref an, .ref pt])) := same_upd npo
  have eo : (upd H26 po (.lst [.non, .ref pe, .ref pd, .ref pl3, .int 0, .str "own", .ref pl4, .ref an, .ref pt])) po = some (.lst [.non, .ref pe, .ref pd, .ref pl3, .int 0, .str "own", .ref pl4, .ref an, .ref pt]) := upd_same
  have s2126 := smT s22 (smT s23 (smT s24 (smT s25 s26)))
  obtain ⟨pob, pog⟩ := (B21.same s2126).notNone npo
  obtain ⟨pl3b, pl3g⟩ := (B21.same s22).notNone npl3
  obtain ⟨pl4b, pl4g⟩ := (B21.same (smT s22 s23)).notNone npl4
  generalize upd H26 po (.lst [.non, .ref pe, .ref pd, .ref pl3, .int 0, .str "own", .ref pl4, .ref an, .ref pt]) = H27 at s27 eo ⊢
  have s2127 := smT s2126 s27
  have B27 := B21.same s2127
  have hB27 := hB21.same s2127
  have hW27 := hW21.same s2127
  refine ⟨_, rfl, _, rfl, _, rfl, _, rfl, _, _, rfl, bb, gg, 9, rfl, B27, rfl, by decide, by decide, fun r9 H30 hr9 f30 B30 => ?_⟩
  have k30 := f30.kpt B27
  have item : ∃ x, [V.non, .ref pe, .ref pd, .ref pl3, .int 0, .str "own", .ref pl4, .ref an, .ref pt][r9]? = some x ∧ NoCh P w K H30 x bk W := by
    match r9, hr9 with
    | 0, _ => exact ⟨_, rfl, .inl ⟨_, .base .non, by decide +kernel⟩⟩
    | 1, _ => exact ⟨_, rfl, .inr ⟨pe, [], rfl, (de.same (smT s23 (smT s24 (smT s25 (smT s26 s27))))).bg f30 B27, fun z => by rw [← z] at hpos; exact absurd hpos (by decide)⟩⟩
    | 2, _ => exact ⟨_, rfl, .inr ⟨pd, kvd, rfl, (d21.same s2127).bg f30 B27, ldrop⟩⟩
    | 3, _ => exact ⟨_, rfl, .inl ⟨_, .base (.lst (f30.at pl3b pl3g (smT s24 (smT s25 (smT s26 s27)) _ _ el3))), by decide +kernel⟩⟩
    | 4, _ => exact ⟨_, rfl, .inl ⟨_, .base (.int 0), by decide +kernel⟩⟩
    | 5, _ => exact ⟨_, rfl, .inl ⟨_, .base (.str "own"), by decide +kernel⟩⟩
    | 6, _ => exact ⟨_, rfl, .inl ⟨_, .base (.lst (f30.at pl4b pl4g (smT s25 (smT s26 s27) _ _ el4))), by decide +kernel⟩⟩
    | 7, _ => exact ⟨_, rfl, .inl ⟨_, .base (.tup (k30 _ _ (smT s26 s27 _ _ ean))), by decide +kernel⟩⟩
    | 8, _ => exact ⟨_, rfl, .inl ⟨_, .base (.tup (k30 _ _ (s27 _ _ et))), by decide +kernel⟩⟩
  obtain ⟨x, hx, hno⟩ := item
  refine ⟨po, _, _, _, rfl, rfl, .of (f30.at pob pog eo), atI_nat hx, _, _, _, rfl, bk, W, okb, okW, hB27.bg f30 B27, hW27.bg f30 B27, .inl ⟨hno, fun H31 s31 => ⟨_, _, rfl, rfl, _, rfl, iteND rfl ?_⟩⟩⟩
  exact ⟨_, _, _, _, _, _, _, _, _, rfl, B30.same s31⟩
end K19
set_option maxHeartbeats 0
namespace K19
open PySem PySem.Spec PyProof.Rows L2
section
variable {K : PySem.W.Frag} {h : Heap} {mg : Str → Option Value}
theorem df_of (X : K.In h) (G : h.Ns mainGlobals mg) (c : He.SaysD fa fn K) (i j : Nat) {x : Str} {st : Stmt} (hi : fn[i]? = some ⟨(x, none), x, x, defArgs st, defBody st, defScope st, [], []⟩) (hj : fa[j]? = some (.glo x)) : Df K mg x st := by
  obtain ⟨fd, F⟩ := c.def_ i hi
  exact ⟨_, fd, He.glo_ok X G (c.fact j hj), F⟩
theorem int_of (X : K.In h) (G : h.Ns mainGlobals mg) (c : He.SaysD fa fn K) (j : Nat) {x : Str} {n : Int} (hj : fa[j]? = some (.int x n)) : ∃ u, mg x = some u ∧ RelV (.int n) u := by
  obtain ⟨t, e⟩ := He.int_ok X G (c.fact j hj)
  exact ⟨_, e, t, rfl⟩
theorem ins_of (c : He.SaysD fa fn K) {j : Nat} (hj : fa[j]? = some (.cls "Web")) (m : insX K = true) : C8.InsC K (He.ga K "Web") := by
  obtain ⟨m1, m⟩ := He.ba m
  obtain ⟨m2, m⟩ := He.ba m
  obtain ⟨m3, m⟩ := He.ba m
  obtain ⟨m4, m5⟩ := He.ba m
  exact ⟨He.cls_ok (c.fact j hj), He.eqO_ok m1, He.eqO_ok m2, of_decide_eq_true m3, of_decide_eq_true m4, of_decide_eq_true m5⟩
theorem fx_of (X : K.In h) (G : h.Ns mainGlobals mg) (c : He.SaysD fa fn K) (m : insX K = true) : Fx K mg (He.ga K "Book") (He.ga K "Web") where
  d_is_integer := df_of X G c 0 0 rfl rfl
  d_is_within := df_of X G c 1 1 rfl rfl
  d_is_tuple_of := df_of X G c 2 2 rfl rfl
  d_are_within := df_of X G c 3 3 rfl rfl
  d_is_rule := df_of X G c 4 4 rfl rfl
  d_is_move := df_of X G c 5 5 rfl rfl
  d_is_long := df_of X G c 6 6 rfl rfl
  d_check_rules := df_of X G c 7 7 rfl rfl
  d_check_moves := df_of X G c 8 8 rfl rfl
  d_price_of := df_of X G c 9 9 rfl rfl
  d_is_value := df_of X G c 10 10 rfl rfl
  d_is_of := df_of X G c 11 11 rfl rfl
  d_fits := df_of X G c 12 12 rfl rfl
  d_check_web := df_of X G c 13 13 rfl rfl
  d_ways_of_op := df_of X G c 14 14 rfl rfl
  d_raw_ways := df_of X G c 15 15 rfl rfl
  d_needs_in_order := df_of X G c 16 16 rfl rfl
  d_raw_needs := df_of X G c 17 17 rfl rfl
  d_is_giving := df_of X G c 18 18 rfl rfl
  d_usable_ways := df_of X G c 19 19 rfl rfl
  d_is_usable := df_of X G c 20 20 rfl rfl
  d_is_pair := df_of X G c 21 21 rfl rfl
  d_source_of := df_of X G c 22 22 rfl rfl
  d_comes_back := df_of X G c 23 23 rfl rfl
  d_is_choice_of := df_of X G c 24 24 rfl rfl
  d_is_choice := df_of X G c 25 25 rfl rfl
  d_check_choice := df_of X G c 26 26 rfl rfl
  d_raw_cost := df_of X G c 27 27 rfl rfl
  d_all_needed := df_of X G c 28 28 rfl rfl
  d_beyond := df_of X G c 29 29 rfl rfl
  d_raw_extras := df_of X G c 30 30 rfl rfl
  d_extras := df_of X G c 31 31 rfl rfl
  d_raw_undercut := df_of X G c 32 32 rfl rfl
  d_undercut := df_of X G c 33 33 rfl rfl
  d_is_best := df_of X G c 34 34 rfl rfl
  d_total := df_of X G c 35 35 rfl rfl
  d_better := df_of X G c 36 36 rfl rfl
  d_raw_alone := df_of X G c 37 37 rfl rfl
  d_own := df_of X G c 38 38 rfl rfl
  d_law_bag := df_of X G c 39 39 rfl rfl
  d_law_pick := df_of X G c 40 40 rfl rfl
  d_law_some := df_of X G c 41 41 rfl rfl
  d_law_book := df_of X G c 42 42 rfl rfl
  d_law_values := df_of X G c 43 43 rfl rfl
  d_law_price := df_of X G c 44 44 rfl rfl
  d_law_needs := df_of X G c 45 45 rfl rfl
  d_law_usable := df_of X G c 46 46 rfl rfl
  d_law_needed := df_of X G c 47 47 rfl rfl
  d_law_cost := df_of X G c 48 48 rfl rfl
  d_law_drawn_choice := df_of X G c 49 49 rfl rfl
  d_law_extras := df_of X G c 50 50 rfl rfl
  d_law_nested := df_of X G c 51 51 rfl rfl
  d_law_is_right := df_of X G c 52 52 rfl rfl
  d_law := df_of X G c 53 53 rfl rfl
  f_isinstance := He.free_ok X G (c.fact 54 (f := .free "isinstance") rfl)
  f_int := He.free_ok X G (c.fact 55 (f := .free "int") rfl)
  f_bool := He.free_ok X G (c.fact 56 (f := .free "bool") rfl)
  f_tuple := He.free_ok X G (c.fact 57 (f := .free "tuple") rfl)
  f_len := He.free_ok X G (c.fact 58 (f := .free "len") rfl)
  f_all := He.free_ok X G (c.fact 59 (f := .free "all") rfl)
  f_any := He.free_ok X G (c.fact 60 (f := .free "any") rfl)
  f_enumerate := He.free_ok X G (c.fact 61 (f := .free "enumerate") rfl)
  f_range := He.free_ok X G (c.fact 62 (f := .free "range") rfl)
  f_list := He.free_ok X G (c.fact 63 (f := .free "list") rfl)
  f_zip := He.free_ok X G (c.fact 64 (f := .free "zip") rfl)
  f_sorted := He.free_ok X G (c.fact 65 (f := .free "sorted") rfl)
  f_set := He.free_ok X G (c.fact 66 (f := .free "set") rfl)
  f_dict := He.free_ok X G (c.fact 67 (f := .free "dict") rfl)
  f_sum := He.free_ok X G (c.fact 68 (f := .free "sum") rfl)
  f_min := He.free_ok X G (c.fact 69 (f := .free "min") rfl)
  f_abs := He.free_ok X G (c.fact 70 (f := .free "abs") rfl)
  f_str := He.free_ok X G (c.fact 71 (f := .free "str") rfl)
  i_MOST_OPS := int_of X G c 72 rfl
  i_MOST_KINDS := int_of X G c 73 rfl
  i_MOST_PARTS_books := int_of X G c 74 rfl
  i_MOST_RULES := int_of X G c 75 rfl
  i_MOST_MOVES := int_of X G c 76 rfl
  i_MOST_PRICE := int_of X G c 77 rfl
  i_MOST_OP := int_of X G c 78 rfl
  i_MOST_PARTS_webs := int_of X G c 79 rfl
  i_MOST_VALUES := int_of X G c 80 rfl
  gB := He.glo_ok X G (c.fact 81 (f := .glo "Book") rfl)
  clB := He.cls_ok (c.fact 82 (f := .cls "Book") rfl)
  mkB := by
    obtain ⟨fd, F⟩ := c.def_ 54 (d := d_Book_init) rfl
    exact ⟨_, fd, He.mkr_ok (c.fact 83 (f := .mkr "Book") rfl), F⟩
  nB_arities := He.noat_ok (c.fact 84 (f := .noat "Book" "arities") rfl)
  nB_kinds := He.noat_ok (c.fact 85 (f := .noat "Book" "kinds") rfl)
  nB_rules := He.noat_ok (c.fact 86 (f := .noat "Book" "rules") rfl)
  nB_moves := He.noat_ok (c.fact 87 (f := .noat "Book" "moves") rfl)
  gW := He.glo_ok X G (c.fact 88 (f := .glo "Web") rfl)
  clW := He.cls_ok (c.fact 89 (f := .cls "Web") rfl)
  mkW := by
    obtain ⟨fd, F⟩ := c.def_ 55 (d := d_Web_init) rfl
    exact ⟨_, fd, He.mkr_ok (c.fact 90 (f := .mkr "Web") rfl), F⟩
  nW_rows := He.noat_ok (c.fact 91 (f := .noat "Web" "rows") rfl)
  insW := ins_of c (j := 89) rfl m
end
end K19
open PySem PySem.W PySem.Calls PyProof.Rows
theorem PySem.Challenge.cw_lookdown_k19_whole_extras_and_undercut_w_holds : PySem.Challenge.rw_lookdown_k19_whole_extras_and_undercut_w.Holds := by
  w_on; o_law
  refine HandSHeadRun.head_any (r := OpenLaw.row PySem.Challenge.rw_lookdown_k19_whole_extras_and_undercut_w) (q := view (OpenLaw.row PySem.Challenge.rw_lookdown_k19_whole_extras_and_undercut_w).prog [80]) (H := K19.hk) (ob := K19.ob) (M := 4000) (loose := K19.names) (d := HandSHeadRun.topDef (OpenLaw.row PySem.Challenge.rw_lookdown_k19_whole_extras_and_undercut_w).prog 80) (kwd := []) K19.ob_eq
    (by kernel_rfl) (fun s => by kernel_rfl) K19.run (by kernel_rfl) (by kernel_rfl) (by kernel_rfl) (by rfl) (by first | assumption | decide +kernel) (by decide +kernel) ⟨rfl, rfl, rfl, rfl, rfl, by decide +kernel⟩ ?hw ?hc
  case hw => w_witness2
  case hc =>
    refine L2.walk_ofE (l := PySem.Challenge.rw_lookdown_k19_whole_extras_and_undercut_w) (n := 63) (k := 10) (x := "_law_script") (CX := L2.CX0) rfl (by decide) (by kernel_rfl) ⟨rfl, by decide, by decide⟩ ?F (fun _ _ _ _ z => z)
    intro w mg fa h Y G hmg0
    obtain ⟨K, KX, c⟩ := Y
    have hmg : mg ("law" : PySem.Str) = some (.ref fa) := by
      have e : (HandSHeadRun.topDef (OpenLaw.row PySem.Challenge.rw_lookdown_k19_whole_extras_and_undercut_w).prog 80).name = ("law" : PySem.Str) := by kernel_rfl
      rw [← e]
      exact hmg0
    obtain ⟨f, fd, e, F⟩ := (K19.fx_of KX G c.t.d c.more).d_law.ex
    cases hmg.symm.trans e
    have b := L2.FunD.bindsA (ps := ["_law_script"]) F fun _ _ _ _ _ _ us hl => match us, hl with | [_], _ => rfl
    refine ⟨K, fd, K19.sp_law (PySem.Challenge.rw_lookdown_k19_whole_extras_and_undercut_w).prog w K (He.ga K "Book") (He.ga K "Web"), KX, fun s v => b s [v] rfl, fun H a ns hl _ hS => ⟨_, rfl, a, ns, rfl, hS, hl, fun _ => rfl⟩, fun base KX' G' => ?_⟩
    exact K19.cl_law F (K19.fx_of KX' G' c.t.d c.more)
