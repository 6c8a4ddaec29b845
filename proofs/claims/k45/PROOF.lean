import PyProof.Rows.All
import Wide.All
import OpenK.AllK
import Wide.FinOn
import KE.KStateDown
import HandS.ForMost
import HandS.More
import HandS.WordsExc
import HandS.Defaults
import HandS.Property
import HandS.Head0
import HandS.Head1
import HandS.Head2
import HandS.HeadEnd
import HandS.HeadHook1
import HandS.HeadHook2
import HandS.Codes
import HandS.IsInst
import PySem.Challenge.RW_sumsplay_k45_whole_stops_and_order
import KE.KeyNested
import KE.KDictKeyed
import KE.KDictDisplayH
import HandS.Set
import HandS.SetFor
import HandS.Strs
import HandS.SortInts
import PyProof.Rows.SortShellAny
import HandS.Deep
import HandS.TupAny
set_option Elab.async false
section
set_option Elab.async false
set_option linter.all false
set_option maxRecDepth 100000
set_option maxHeartbeats 0
namespace K45
open PySem PySem.Spec PyProof.Rows L2
/-! ### the text by places -/
def top (i : Nat) : Stmt := PySem.Challenge.pw_sumsplay_k45_whole_stops_and_order.main.body.getD i (.Pass ⟨0, 0, 0, 0⟩)
abbrev s_is_integer : Stmt := top 9
abbrev s_reduced : Stmt := top 10
abbrev s_Dyadic_init : Stmt := inClass (top 11) 0
abbrev s_Dyadic_top : Stmt := inClass (top 11) 1
abbrev s_Dyadic_power : Stmt := inClass (top 11) 2
abbrev s_Dyadic_neg : Stmt := inClass (top 11) 4
abbrev s_Dyadic_less : Stmt := inClass (top 11) 6
abbrev s_simplest_between : Stmt := top 12
abbrev s_negated : Stmt := top 13
abbrev s_above : Stmt := top 14
abbrev s_greatest : Stmt := top 18
abbrev s_least : Stmt := top 19
abbrev s_Values_init : Stmt := inClass (top 20) 0
abbrev s_Values_forms : Stmt := inClass (top 20) 1
abbrev s_Values_yard : Stmt := inClass (top 20) 2
abbrev s_Values_number : Stmt := inClass (top 20) 3
abbrev s_Values_number_of : Stmt := inClass (top 20) 4
abbrev s_Values_left_stop : Stmt := inClass (top 20) 8
abbrev s_Values_right_stop : Stmt := inClass (top 20) 9
abbrev s_Values_is_small : Stmt := inClass (top 20) 10
abbrev s_Valuesstop : Stmt := inClass (top 20) 11
abbrev s_Valuesplayed : Stmt := inClass (top 20) 12
abbrev s_Valuesof_number : Stmt := inClass (top 20) 13
abbrev s_Valuesreckon : Stmt := inClass (top 20) 14
abbrev s_other_side : Stmt := top 22
abbrev s_Order_init : Stmt := inClass (top 23) 0
abbrev s_Order_yard : Stmt := inClass (top 23) 1
abbrev s_Order_at_least : Stmt := inClass (top 23) 2
abbrev s_Order_at_most : Stmt := inClass (top 23) 3
abbrev s_Orderreckon : Stmt := inClass (top 23) 10
abbrev s_Forms_init : Stmt := inClass (top 26) 0
abbrev s_Forms_yard : Stmt := inClass (top 26) 1
abbrev s_Forms_steps : Stmt := inClass (top 26) 2
abbrev s_Forms_taken : Stmt := inClass (top 26) 3
abbrev s_Forms_simplest : Stmt := inClass (top 26) 4
abbrev s_Formsas_good : Stmt := inClass (top 26) 6
abbrev s_Formsdrops : Stmt := inClass (top 26) 7
abbrev s_Formsbacks : Stmt := inClass (top 26) 8
abbrev s_Formswith : Stmt := inClass (top 26) 9
abbrev s_Sums_init : Stmt := inClass (top 28) 0
abbrev s_Sums_forms : Stmt := inClass (top 28) 1
abbrev s_Sums_yard : Stmt := inClass (top 28) 2
abbrev s_Sums_plus : Stmt := inClass (top 28) 3
abbrev s_Sumsadded : Stmt := inClass (top 28) 9
abbrev s_Yard_init : Stmt := inClass (top 30) 0
abbrev s_Yard_game : Stmt := inClass (top 30) 2
abbrev s_Yard_lefts : Stmt := inClass (top 30) 3
abbrev s_Yard_rights : Stmt := inClass (top 30) 4
abbrev s_Yard_options : Stmt := inClass (top 30) 5
abbrev s_Yard_height : Stmt := inClass (top 30) 6
abbrev s_Yardcheck : Stmt := inClass (top 30) 9
abbrev s__law_cell : Stmt := top 32
abbrev s__law_digits : Stmt := top 33
abbrev s__law_is_integer : Stmt := top 34
abbrev s__law_store : Stmt := top 35
abbrev s__law_lot : Stmt := top 36
abbrev s__law_keep : Stmt := top 37
abbrev s__law_over : Stmt := top 38
abbrev s__law_pool : Stmt := top 39
abbrev s__law_plain : Stmt := top 40
abbrev s__law_number : Stmt := top 41
abbrev s__law_less : Stmt := top 42
abbrev s__law_added : Stmt := top 43
abbrev s__law_pair : Stmt := top 44
abbrev s__law_seeds : Stmt := top 45
abbrev s__law_out : Stmt := top 46
abbrev s__law_told : Stmt := top 47
abbrev s__law_placed : Stmt := top 48
abbrev s__law_says : Stmt := top 49
abbrev s_law : Stmt := top 50
theorem sc_is_integer : FnScope ["thing"] ["thing"] (defScope s_is_integer) := ⟨rfl, rfl, rfl, by decide +kernel, rfl, by decide +kernel, by decide +kernel⟩
theorem sc_reduced : FnScope ["top", "power"] ["top", "power"] (defScope s_reduced) := ⟨rfl, rfl, rfl, by decide +kernel, rfl, by decide +kernel, by decide +kernel⟩
theorem sc_Dyadic_init : FnScope ["self", "top", "power", "plain"] ["self", "top", "power"] (defScope s_Dyadic_init) := ⟨rfl, rfl, rfl, by decide +kernel, rfl, by decide +kernel, by decide +kernel⟩
theorem sc_Dyadic_top : FnScope ["self"] ["self"] (defScope s_Dyadic_top) := ⟨rfl, rfl, rfl, by decide +kernel, rfl, by decide +kernel, by decide +kernel⟩
theorem sc_Dyadic_power : FnScope ["self"] ["self"] (defScope s_Dyadic_power) := ⟨rfl, rfl, rfl, by decide +kernel, rfl, by decide +kernel, by decide +kernel⟩
theorem sc_Dyadic_neg : FnScope ["self"] ["self"] (defScope s_Dyadic_neg) := ⟨rfl, rfl, rfl, by decide +kernel, rfl, by decide +kernel, by decide +kernel⟩
theorem sc_Dyadic_less : FnScope ["self", "other"] ["self", "other"] (defScope s_Dyadic_less) := ⟨rfl, rfl, rfl, by decide +kernel, rfl, by decide +kernel, by decide +kernel⟩
theorem sc_simplest_between : FnScope ["low", "high", "zero"] ["low", "high"] (defScope s_simplest_between) := ⟨rfl, rfl, rfl, by decide +kernel, rfl, by decide +kernel, by decide +kernel⟩
theorem sc_negated : FnScope ["number"] ["number"] (defScope s_negated) := ⟨rfl, rfl, rfl, by decide +kernel, rfl, by decide +kernel, by decide +kernel⟩
theorem sc_above : FnScope ["low", "high", "power", "found"] ["low", "high"] (defScope s_above) := ⟨rfl, rfl, rfl, by decide +kernel, rfl, by decide +kernel, by decide +kernel⟩
theorem sc_greatest : FnScope ["dyadics", "found", "dyadic"] ["dyadics"] (defScope s_greatest) := ⟨rfl, rfl, rfl, by decide +kernel, rfl, by decide +kernel, by decide +kernel⟩
theorem sc_least : FnScope ["dyadics", "found", "dyadic"] ["dyadics"] (defScope s_least) := ⟨rfl, rfl, rfl, by decide +kernel, rfl, by decide +kernel, by decide +kernel⟩
theorem sc_Values_init : FnScope ["self", "sums"] ["self", "sums"] (defScope s_Values_init) := ⟨rfl, rfl, rfl, by decide +kernel, rfl, by decide +kernel, by decide +kernel⟩
theorem sc_Values_forms : FnScope ["self"] ["self"] (defScope s_Values_forms) := ⟨rfl, rfl, rfl, by decide +kernel, rfl, by decide +kernel, by decide +kernel⟩
theorem sc_Values_yard : FnScope ["self"] ["self"] (defScope s_Values_yard) := ⟨rfl, rfl, rfl, by decide +kernel, rfl, by decide +kernel, by decide +kernel⟩
theorem sc_Values_number : FnScope ["self", "dyadic", "bound"] ["self", "dyadic"] (defScope s_Values_number) := ⟨rfl, rfl, rfl, by decide +kernel, rfl, by decide +kernel, by decide +kernel⟩
theorem sc_Values_number_of : FnScope ["self", "game", "form"] ["self", "game"] (defScope s_Values_number_of) := ⟨rfl, rfl, rfl, by decide +kernel, rfl, by decide +kernel, by decide +kernel⟩
theorem sc_Values_left_stop : FnScope ["self", "game"] ["self", "game"] (defScope s_Values_left_stop) := ⟨rfl, rfl, rfl, by decide +kernel, rfl, by decide +kernel, by decide +kernel⟩
theorem sc_Values_right_stop : FnScope ["self", "game"] ["self", "game"] (defScope s_Values_right_stop) := ⟨rfl, rfl, rfl, by decide +kernel, rfl, by decide +kernel, by decide +kernel⟩
theorem sc_Values_is_small : FnScope ["self", "game"] ["self", "game"] (defScope s_Values_is_small) := ⟨rfl, rfl, rfl, by decide +kernel, rfl, by decide +kernel, by decide +kernel⟩
theorem sc_Valuesstop : FnScope ["self", "game", "side"] ["self", "game", "side"] (defScope s_Valuesstop) := ⟨rfl, rfl, rfl, by decide +kernel, rfl, by decide +kernel, by decide +kernel⟩
theorem sc_Valuesplayed : FnScope ["self", "game", "side", "number"] ["self", "game", "side"] (defScope s_Valuesplayed) := ⟨rfl, rfl, rfl, by decide +kernel, rfl, by decide +kernel, by decide +kernel⟩
theorem sc_Valuesof_number : FnScope ["self", "top", "power", "lefts", "rights", "below", "above"] ["self", "top", "power"] (defScope s_Valuesof_number) := ⟨rfl, rfl, rfl, by decide +kernel, rfl, by decide +kernel, by decide +kernel⟩
theorem sc_Valuesreckon : FnScope ["self", "form", "ends", "side", "numbers", "low", "high"] ["self", "form"] (defScope s_Valuesreckon) := ⟨rfl, rfl, rfl, by decide +kernel, rfl, by decide +kernel, by decide +kernel⟩
theorem sc_other_side : FnScope ["side"] ["side"] (defScope s_other_side) := ⟨rfl, rfl, rfl, by decide +kernel, rfl, by decide +kernel, by decide +kernel⟩
theorem sc_Order_init : FnScope ["self", "yard"] ["self", "yard"] (defScope s_Order_init) := ⟨rfl, rfl, rfl, by decide +kernel, rfl, by decide +kernel, by decide +kernel⟩
theorem sc_Order_yard : FnScope ["self"] ["self"] (defScope s_Order_yard) := ⟨rfl, rfl, rfl, by decide +kernel, rfl, by decide +kernel, by decide +kernel⟩
theorem sc_Order_at_least : FnScope ["self", "one", "other"] ["self", "one", "other"] (defScope s_Order_at_least) := ⟨rfl, rfl, rfl, by decide +kernel, rfl, by decide +kernel, by decide +kernel⟩
theorem sc_Order_at_most : FnScope ["self", "one", "other"] ["self", "one", "other"] (defScope s_Order_at_most) := ⟨rfl, rfl, rfl, by decide +kernel, rfl, by decide +kernel, by decide +kernel⟩
theorem sc_Orderreckon : FnScope ["self", "one", "other", "right", "left"] ["self", "one", "other"] (defScope s_Orderreckon) := ⟨rfl, rfl, rfl, by decide +kernel, rfl, by decide +kernel, by decide +kernel⟩
theorem sc_Forms_init : FnScope ["self", "order"] ["self", "order"] (defScope s_Forms_init) := ⟨rfl, rfl, rfl, by decide +kernel, rfl, by decide +kernel, by decide +kernel⟩
theorem sc_Forms_yard : FnScope ["self"] ["self"] (defScope s_Forms_yard) := ⟨rfl, rfl, rfl, by decide +kernel, rfl, by decide +kernel, by decide +kernel⟩
theorem sc_Forms_steps : FnScope ["self", "game"] ["self", "game"] (defScope s_Forms_steps) := ⟨rfl, rfl, rfl, by decide +kernel, rfl, by decide +kernel, by decide +kernel⟩
theorem sc_Forms_taken : FnScope ["self", "game", "step", "side", "option", "options"] ["self", "game", "step"] (defScope s_Forms_taken) := ⟨rfl, rfl, rfl, by decide +kernel, rfl, by decide +kernel, by decide +kernel⟩
theorem sc_Forms_simplest : FnScope ["self", "game", "lefts", "rights", "form", "steps"] ["self", "game"] (defScope s_Forms_simplest) := ⟨rfl, rfl, rfl, by decide +kernel, rfl, by decide +kernel, by decide +kernel⟩
theorem sc_Formsas_good : FnScope ["self", "side", "one", "other"] ["self", "side", "one", "other"] (defScope s_Formsas_good) := ⟨rfl, rfl, rfl, by decide +kernel, rfl, by decide +kernel, by decide +kernel⟩
theorem sc_Formsdrops : FnScope ["self", "game", "found", "side", "options", "option"] ["self", "game"] (defScope s_Formsdrops) := ⟨rfl, rfl, rfl, by decide +kernel, rfl, by decide +kernel, by decide +kernel⟩
theorem sc_Formsbacks : FnScope ["self", "game", "found", "side", "other", "option", "answer"] ["self", "game"] (defScope s_Formsbacks) := ⟨rfl, rfl, rfl, by decide +kernel, rfl, by decide +kernel, by decide +kernel⟩
theorem sc_Formswith : FnScope ["self", "game", "side", "options"] ["self", "game", "side", "options"] (defScope s_Formswith) := ⟨rfl, rfl, rfl, by decide +kernel, rfl, by decide +kernel, by decide +kernel⟩
theorem sc_Sums_init : FnScope ["self", "forms"] ["self", "forms"] (defScope s_Sums_init) := ⟨rfl, rfl, rfl, by decide +kernel, rfl, by decide +kernel, by decide +kernel⟩
theorem sc_Sums_forms : FnScope ["self"] ["self"] (defScope s_Sums_forms) := ⟨rfl, rfl, rfl, by decide +kernel, rfl, by decide +kernel, by decide +kernel⟩
theorem sc_Sums_yard : FnScope ["self"] ["self"] (defScope s_Sums_yard) := ⟨rfl, rfl, rfl, by decide +kernel, rfl, by decide +kernel, by decide +kernel⟩
theorem sc_Sums_plus : FnScope ["self", "one", "other", "key"] ["self", "one", "other"] (defScope s_Sums_plus) := ⟨rfl, rfl, rfl, by decide +kernel, rfl, by decide +kernel, by decide +kernel⟩
theorem sc_Sumsadded : FnScope ["self", "one", "other", "found", "side", "ahead", "behind"] ["self", "one", "other"] (defScope s_Sumsadded) := ⟨rfl, rfl, rfl, by decide +kernel, rfl, by decide +kernel, by decide +kernel⟩
theorem sc_Yard_init : FnScope ["self"] ["self"] (defScope s_Yard_init) := ⟨rfl, rfl, rfl, by decide +kernel, rfl, by decide +kernel, by decide +kernel⟩
theorem sc_Yard_game : FnScope ["self", "lefts", "rights", "game", "form"] ["self", "lefts", "rights"] (defScope s_Yard_game) := ⟨rfl, rfl, rfl, by decide +kernel, rfl, by decide +kernel, by decide +kernel⟩
theorem sc_Yard_lefts : FnScope ["self", "game"] ["self", "game"] (defScope s_Yard_lefts) := ⟨rfl, rfl, rfl, by decide +kernel, rfl, by decide +kernel, by decide +kernel⟩
theorem sc_Yard_rights : FnScope ["self", "game"] ["self", "game"] (defScope s_Yard_rights) := ⟨rfl, rfl, rfl, by decide +kernel, rfl, by decide +kernel, by decide +kernel⟩
theorem sc_Yard_options : FnScope ["self", "game", "side"] ["self", "game", "side"] (defScope s_Yard_options) := ⟨rfl, rfl, rfl, by decide +kernel, rfl, by decide +kernel, by decide +kernel⟩
theorem sc_Yard_height : FnScope ["self", "game"] ["self", "game"] (defScope s_Yard_height) := ⟨rfl, rfl, rfl, by decide +kernel, rfl, by decide +kernel, by decide +kernel⟩
theorem sc_Yardcheck : FnScope ["self", "game"] ["self", "game"] (defScope s_Yardcheck) := ⟨rfl, rfl, rfl, by decide +kernel, rfl, by decide +kernel, by decide +kernel⟩
theorem sc__law_cell : FnScope ["_law_script", "_law_k", "_law_mixed", "_law_cell_here"] ["_law_script", "_law_k"] (defScope s__law_cell) := ⟨rfl, rfl, rfl, by decide +kernel, rfl, by decide +kernel, by decide +kernel⟩
theorem sc__law_digits : FnScope ["_law_cell_here", "_law_count", "_law_row", "_law_k", "_law_seed"] ["_law_cell_here", "_law_count"] (defScope s__law_digits) := ⟨rfl, rfl, rfl, by decide +kernel, rfl, by decide +kernel, by decide +kernel⟩
theorem sc__law_is_integer : FnScope ["_law_thing"] ["_law_thing"] (defScope s__law_is_integer) := ⟨rfl, rfl, rfl, by decide +kernel, rfl, by decide +kernel, by decide +kernel⟩
theorem sc__law_store : FnScope ["_law_store_here", "_law_word"] ([] : List Str) (defScope s__law_store) := ⟨rfl, rfl, rfl, by decide +kernel, rfl, by decide +kernel, by decide +kernel⟩
theorem sc__law_lot : FnScope ["_law_games", "_law_row"] ["_law_games"] (defScope s__law_lot) := ⟨rfl, rfl, rfl, by decide +kernel, rfl, by decide +kernel, by decide +kernel⟩
theorem sc__law_keep : FnScope ["_law_store_here", "_law_lefts", "_law_rights", "_law_form", "_law_ids", "_law_rows", "_law_heights"] ["_law_store_here", "_law_lefts", "_law_rights"] (defScope s__law_keep) := ⟨rfl, rfl, rfl, by decide +kernel, rfl, by decide +kernel, by decide +kernel⟩
theorem sc__law_over : FnScope ["_law_store_here", "_law_one", "_law_other", "_law_known", "_law_fine", "_law_right", "_law_left"] ["_law_store_here", "_law_one", "_law_other"] (defScope s__law_over) := ⟨rfl, rfl, rfl, by decide +kernel, rfl, by decide +kernel, by decide +kernel⟩
theorem sc__law_pool : FnScope ["_law_store_here", "_law_pool_here", "_law_script", "_law_first", "_law_count", "_law_k", "_law_digits_here", "_law_near", "_law_rows", "_law_side", "_law_drawn"] ["_law_store_here", "_law_pool_here", "_law_script", "_law_first", "_law_count"] (defScope s__law_pool) := ⟨rfl, rfl, rfl, by decide +kernel, rfl, by decide +kernel, by decide +kernel⟩
theorem sc__law_plain : FnScope ["_law_top", "_law_power", "_law_k"] ["_law_top", "_law_power"] (defScope s__law_plain) := ⟨rfl, rfl, rfl, by decide +kernel, rfl, by decide +kernel, by decide +kernel⟩
theorem sc__law_number : FnScope ["_law_store_here", "_law_top", "_law_power", "_law_plain_here", "_law_known", "_law_lefts", "_law_rights"] ["_law_store_here", "_law_top", "_law_power"] (defScope s__law_number) := ⟨rfl, rfl, rfl, by decide +kernel, rfl, by decide +kernel, by decide +kernel⟩
theorem sc__law_less : FnScope ["_law_one", "_law_other"] ["_law_one", "_law_other"] (defScope s__law_less) := ⟨rfl, rfl, rfl, by decide +kernel, rfl, by decide +kernel, by decide +kernel⟩
theorem sc__law_added : FnScope ["_law_one", "_law_other", "_law_power"] ["_law_one", "_law_other"] (defScope s__law_added) := ⟨rfl, rfl, rfl, by decide +kernel, rfl, by decide +kernel, by decide +kernel⟩
theorem sc__law_pair : FnScope ["_law_digits_here", "_law_whole", "_law_most", "_law_power", "_law_drawn", "_law_limit", "_law_top"] ["_law_digits_here", "_law_whole", "_law_most"] (defScope s__law_pair) := ⟨rfl, rfl, rfl, by decide +kernel, rfl, by decide +kernel, by decide +kernel⟩
theorem sc__law_seeds : FnScope ["_law_store_here", "_law_cell_here", "_law_digits_here", "_law_found", "_law_k", "_law_pair_here"] ["_law_store_here", "_law_cell_here"] (defScope s__law_seeds) := ⟨rfl, rfl, rfl, by decide +kernel, rfl, by decide +kernel, by decide +kernel⟩
theorem sc__law_out : FnScope ["_law_store_here", "_law_out_here", "_law_yard", "_law_game", "_law_lefts", "_law_rights"] ["_law_store_here", "_law_out_here", "_law_yard", "_law_game"] (defScope s__law_out) := ⟨rfl, rfl, rfl, by decide +kernel, rfl, by decide +kernel, by decide +kernel⟩
theorem sc__law_told : FnScope ["_law_values", "_law_number_here", "_law_found", "_law_told_here"] ["_law_values", "_law_number_here"] (defScope s__law_told) := ⟨rfl, rfl, rfl, by decide +kernel, rfl, by decide +kernel, by decide +kernel⟩
theorem sc__law_placed : FnScope ["_law_store_here", "_law_game", "_law_stops", "_law_pair_here", "_law_form", "_law_above", "_law_below"] ["_law_store_here", "_law_game", "_law_stops", "_law_pair_here"] (defScope s__law_placed) := ⟨rfl, rfl, rfl, by decide +kernel, rfl, by decide +kernel, by decide +kernel⟩
theorem sc__law_says : FnScope ["_law_told_here", "_law_due"] ["_law_told_here", "_law_due"] (defScope s__law_says) := ⟨rfl, rfl, rfl, by decide +kernel, rfl, by decide +kernel, by decide +kernel⟩
theorem sc_law : FnScope ["_law_script", "_law_store_here", "_law_seeds_here", "_law_games", "_law_digits_here", "_law_yard", "_law_sums", "_law_values", "_law_out_here", "_law_numbers", "_law_stops", "_law_near", "_law_k", "_law_high", "_law_low", "_law_half", "_law_pairs", "_law_pair_here", "_law_power", "_law_above", "_law_below", "_law_due", "_law_both", "_law_cross", "_law_moved"] ["_law_script"] (defScope s_law) := ⟨rfl, rfl, rfl, by decide +kernel, rfl, by decide +kernel, by decide +kernel⟩
/-! ### getters: found by the property object -/
def prA (K : PySem.W.Frag) (x f : Str) : Addr := match PySem.W.recIn K (He.ma K (He.ga K x) f) "property" with
  | some (.ref g :: _) => g
  | _ => 0
structure DefP where
  cls : Str
  f : Str
  qual : Str
  st : Stmt
def fnP (K : PySem.W.Frag) (a : Addr) : He.FnW := match K.lookup a with
  | some ⟨_, _, .func fd, _⟩ => some (fd.name, fd.qualname, fd.params, fd.body, fd.scope, fd.globals, fd.closure, fd.builtins)
  | _ => none
def DefP.val (d : DefP) : He.FnW := some (d.f, d.qual, defArgs d.st, .stmts (defBody d.st), defScope d.st, mainGlobals, [], builtinsNs)
def DefP.ok (K : PySem.W.Frag) (d : DefP) : Bool := PySem.W.keepIn K (.ref (prA K d.cls d.f)) && (match K.lookup (prA K d.cls d.f) with
  | some ⟨_, _, .func fd, _⟩ => PySem.W.codeIn K fd.code d.qual && (He.dflB K fd.defaults [] && He.kwdB K fd.kwdefaults [])
  | _ => false)
abbrev FnP (K : PySem.W.Frag) (x q : Str) (st : Stmt) (f : Addr) (fd : FuncData) : Prop := FunD K x q (defArgs st) (defBody st) (defScope st) [] [] f fd
theorem DefP.funD {K : PySem.W.Frag} {d : DefP} (e : fnP K (prA K d.cls d.f) = d.val) (c : d.ok K = true) : ∃ fd, FnP K d.f d.qual d.st (prA K d.cls d.f) fd := by
  obtain ⟨kp, c2⟩ := He.ba c
  unfold fnP at e
  cases q : K.lookup (prA K d.cls d.f) with
  | none =>
    rw [q] at c2
    cases c2
  | some o =>
    obtain ⟨oc, od, dt, osl⟩ := o
    rw [q] at c2 e
    cases dt with
    | func fd =>
      obtain ⟨n1, n2, n3, n4, n5, n6, n7, n8, n9, n10, n11, n12, n13, n14, n15⟩ := fd
      have e2 : (some (n1, n2, n3, n4, n5, n6, n7, n15) : He.FnW) = some (d.f, d.qual, defArgs d.st, .stmts (defBody d.st), defScope d.st, mainGlobals, [], builtinsNs) := e
      simp only [Option.some.injEq, Prod.mk.injEq] at e2
      obtain ⟨h1, h2, h3, h4, h5, h6, h7, h8⟩ := e2
      subst h1 h2 h3 h4 h5 h6 h7 h8
      have c3 : (PySem.W.codeIn K n13 d.qual && (He.dflB K n8 [] && He.kwdB K n9 [])) = true := c2
      obtain ⟨k1, k2⟩ := He.ba c3
      obtain ⟨k3, k4⟩ := He.ba k2
      exact ⟨_, ⟨oc, od, n8, n9, n10, n11, n12, n13, n14, osl, rfl, q, k1, He.dflB_ok k3, He.kwdB_ok k4⟩, kp⟩
    | _ => cases c2
def propB (K : PySem.W.Frag) (x f : Str) : Bool := He.eqO (PySem.W.findIn K (.ref (He.ga K x)) f) (some (some (.ref (He.ma K (He.ga K x) f)))) && (He.eqO (PySem.W.specialIn K (.ref (He.ma K (He.ga K x) f)) "__get__") (some (some (.builtin "property.__get__"))) &&
  (decide (PySem.W.takesIn K (.ref (He.ma K (He.ga K x) f)) = some true) && (match PySem.W.recIn K (He.ma K (He.ga K x) f) "property" with
    | some (.ref _ :: _) => true
    | _ => false)))
theorem propB_ok {K : PySem.W.Frag} {x f : Str} (h : propB K x f = true) : PropOf K (He.ga K x) f (He.ma K (He.ga K x) f) (prA K x f) := by
  obtain ⟨h1, h⟩ := He.ba h
  obtain ⟨h2, h⟩ := He.ba h
  obtain ⟨h3, h4⟩ := He.ba h
  refine ⟨He.eqO_ok h1, He.eqO_ok h2, of_decide_eq_true h3, ?_⟩
  unfold prA
  split at h4
  · rename_i g r e
    rw [e]
    exact ⟨r, rfl⟩
  · cases h4
def insB (K : PySem.W.Frag) (x : Str) : Bool := He.eqO (PySem.W.findIn K (.ref (He.ga K x)) "__class__") (some (some (.builtin "object.__class__"))) && (He.eqO (PySem.W.specialIn K (.builtin "object.__class__") "__get__") (some (some (.builtin "getset_descriptor.__get__"))) &&
  (decide (PySem.W.takesIn K (.builtin "object.__class__") = some true) && (decide (PySem.W.mroIn K (He.ga K x) (.type "object") = some true) && decide (PySem.W.kitOne K (.ref (He.ga K x)) (.ref (He.ga K x)) = some true))))
theorem insB_ok {K : PySem.W.Frag} {x : Str} (c : Cls K (He.ga K x)) (h : insB K x = true) : C8.InsC K (He.ga K x) := by
  obtain ⟨h1, h⟩ := He.ba h
  obtain ⟨h2, h⟩ := He.ba h
  obtain ⟨h3, h⟩ := He.ba h
  obtain ⟨h4, h5⟩ := He.ba h
  exact ⟨c, He.eqO_ok h1, He.eqO_ok h2, of_decide_eq_true h3, of_decide_eq_true h4, of_decide_eq_true h5⟩
/-! ### the Hook -/
abbrev AlP : Type := He.AlD × (List He.FnW × Bool)
def obsP (fa : List He.Fa) (fn : List He.DefD) (ps : List DefP) (ex : PySem.W.Frag → Bool) (K : PySem.W.Frag) : AlP := (He.obsD fa fn K, (ps.map fun d => fnP K (prA K d.cls d.f), ex K && ps.all fun d => d.ok K))
def valP (fn : List He.DefD) (ps : List DefP) : AlP := (He.valD fn, (ps.map DefP.val, true))
def SaysP (fa : List He.Fa) (fn : List He.DefD) (ps : List DefP) (ex : PySem.W.Frag → Bool) (K : PySem.W.Frag) : Prop := obsP fa fn ps ex K = valP fn ps
/-- over the objects at these addresses: all that stand behind the top -/
def hookL (as : List Addr) (fa : List He.Fa) (fn : List He.DefD) (ps : List DefP) (ex : PySem.W.Frag → Bool) : PySem.W.Hook where
  α := AlP
  obs := fun s => obsP fa fn ps ex (He.frG s.heap.get? as)
  val := fun _ => valP fn ps
  says := fun _ h => ∃ K : PySem.W.Frag, K.In h ∧ SaysP fa fn ps ex K
  of := fun _ _ e => ⟨_, He.frG_in, e⟩
  keeps := fun _ _ _ ⟨K, hK, c⟩ k => ⟨K, PySem.W.Frag.In.keeps hK k, c⟩
section
variable {fa : List He.Fa} {fn : List He.DefD} {ps : List DefP} {ex : PySem.W.Frag → Bool} {K : PySem.W.Frag}
theorem SaysP.d (c : SaysP fa fn ps ex K) : He.SaysD fa fn K := congrArg (fun z : AlP => z.1) c
theorem SaysP.more (c : SaysP fa fn ps ex K) : ex K = true := (He.ba (congrArg (fun z : AlP => z.2.2) c)).1
theorem SaysP.def_ (c : SaysP fa fn ps ex K) (i : Nat) {d : DefP} (h : ps[i]? = some d := by rfl) : ∃ fd, FnP K d.f d.qual d.st (prA K d.cls d.f) fd := by
  have c2 := (He.ba (show (ex K && ps.all fun d => d.ok K) = true from congrArg (fun z : AlP => z.2.2) c)).2
  have e : ps.map (fun d => fnP K (prA K d.cls d.f)) = ps.map DefP.val := congrArg (fun z : AlP => z.2.1) c
  have e2 : (ps.map fun d => fnP K (prA K d.cls d.f))[i]? = (ps.map DefP.val)[i]? := by rw [e]
  rw [List.getElem?_map, List.getElem?_map, h] at e2
  exact DefP.funD (Option.some.inj e2) (List.all_eq_true.mp c2 d (List.mem_of_getElem? h))
end
/-! ### what is told of this text -/
def d_is_integer : He.DefD := ⟨("is_integer", none), "is_integer", "is_integer", defArgs s_is_integer, defBody s_is_integer, defScope s_is_integer, [], []⟩
def d_reduced : He.DefD := ⟨("reduced", none), "reduced", "reduced", defArgs s_reduced, defBody s_reduced, defScope s_reduced, [], []⟩
def d_Dyadic_init : He.DefD := ⟨("Dyadic", some "__init__"), "__init__", "Dyadic.__init__", defArgs s_Dyadic_init, defBody s_Dyadic_init, defScope s_Dyadic_init, [.int 0], []⟩
def d_Dyadic_neg : He.DefD := ⟨("Dyadic", some "__neg__"), "__neg__", "Dyadic.__neg__", defArgs s_Dyadic_neg, defBody s_Dyadic_neg, defScope s_Dyadic_neg, [], []⟩
def d_Dyadic_less : He.DefD := ⟨("Dyadic", some "less"), "less", "Dyadic.less", defArgs s_Dyadic_less, defBody s_Dyadic_less, defScope s_Dyadic_less, [], []⟩
def d_simplest_between : He.DefD := ⟨("simplest_between", none), "simplest_between", "simplest_between", defArgs s_simplest_between, defBody s_simplest_between, defScope s_simplest_between, [], []⟩
def d_negated : He.DefD := ⟨("negated", none), "negated", "negated", defArgs s_negated, defBody s_negated, defScope s_negated, [], []⟩
def d_above : He.DefD := ⟨("above", none), "above", "above", defArgs s_above, defBody s_above, defScope s_above, [], []⟩
def d_greatest : He.DefD := ⟨("greatest", none), "greatest", "greatest", defArgs s_greatest, defBody s_greatest, defScope s_greatest, [], []⟩
def d_least : He.DefD := ⟨("least", none), "least", "least", defArgs s_least, defBody s_least, defScope s_least, [], []⟩
def d_Values_init : He.DefD := ⟨("Values", some "__init__"), "__init__", "Values.__init__", defArgs s_Values_init, defBody s_Values_init, defScope s_Values_init, [], []⟩
def d_Values_number : He.DefD := ⟨("Values", some "number"), "number", "Values.number", defArgs s_Values_number, defBody s_Values_number, defScope s_Values_number, [], []⟩
def d_Values_number_of : He.DefD := ⟨("Values", some "number_of"), "number_of", "Values.number_of", defArgs s_Values_number_of, defBody s_Values_number_of, defScope s_Values_number_of, [], []⟩
def d_Values_left_stop : He.DefD := ⟨("Values", some "left_stop"), "left_stop", "Values.left_stop", defArgs s_Values_left_stop, defBody s_Values_left_stop, defScope s_Values_left_stop, [], []⟩
def d_Values_right_stop : He.DefD := ⟨("Values", some "right_stop"), "right_stop", "Values.right_stop", defArgs s_Values_right_stop, defBody s_Values_right_stop, defScope s_Values_right_stop, [], []⟩
def d_Values_is_small : He.DefD := ⟨("Values", some "is_small"), "is_small", "Values.is_small", defArgs s_Values_is_small, defBody s_Values_is_small, defScope s_Values_is_small, [], []⟩
def d_Valuesstop : He.DefD := ⟨("Values", some "_stop"), "_stop", "Values._stop", defArgs s_Valuesstop, defBody s_Valuesstop, defScope s_Valuesstop, [], []⟩
def d_Valuesplayed : He.DefD := ⟨("Values", some "_played"), "_played", "Values._played", defArgs s_Valuesplayed, defBody s_Valuesplayed, defScope s_Valuesplayed, [], []⟩
def d_Valuesof_number : He.DefD := ⟨("Values", some "_of_number"), "_of_number", "Values._of_number", defArgs s_Valuesof_number, defBody s_Valuesof_number, defScope s_Valuesof_number, [], []⟩
def d_Valuesreckon : He.DefD := ⟨("Values", some "_reckon"), "_reckon", "Values._reckon", defArgs s_Valuesreckon, defBody s_Valuesreckon, defScope s_Valuesreckon, [], []⟩
def d_other_side : He.DefD := ⟨("other_side", none), "other_side", "other_side", defArgs s_other_side, defBody s_other_side, defScope s_other_side, [], []⟩
def d_Order_init : He.DefD := ⟨("Order", some "__init__"), "__init__", "Order.__init__", defArgs s_Order_init, defBody s_Order_init, defScope s_Order_init, [], []⟩
def d_Order_at_least : He.DefD := ⟨("Order", some "at_least"), "at_least", "Order.at_least", defArgs s_Order_at_least, defBody s_Order_at_least, defScope s_Order_at_least, [], []⟩
def d_Order_at_most : He.DefD := ⟨("Order", some "at_most"), "at_most", "Order.at_most", defArgs s_Order_at_most, defBody s_Order_at_most, defScope s_Order_at_most, [], []⟩
def d_Orderreckon : He.DefD := ⟨("Order", some "_reckon"), "_reckon", "Order._reckon", defArgs s_Orderreckon, defBody s_Orderreckon, defScope s_Orderreckon, [], []⟩
def d_Forms_init : He.DefD := ⟨("Forms", some "__init__"), "__init__", "Forms.__init__", defArgs s_Forms_init, defBody s_Forms_init, defScope s_Forms_init, [], []⟩
def d_Forms_steps : He.DefD := ⟨("Forms", some "steps"), "steps", "Forms.steps", defArgs s_Forms_steps, defBody s_Forms_steps, defScope s_Forms_steps, [], []⟩
def d_Forms_taken : He.DefD := ⟨("Forms", some "taken"), "taken", "Forms.taken", defArgs s_Forms_taken, defBody s_Forms_taken, defScope s_Forms_taken, [], []⟩
def d_Forms_simplest : He.DefD := ⟨("Forms", some "simplest"), "simplest", "Forms.simplest", defArgs s_Forms_simplest, defBody s_Forms_simplest, defScope s_Forms_simplest, [], []⟩
def d_Formsas_good : He.DefD := ⟨("Forms", some "_as_good"), "_as_good", "Forms._as_good", defArgs s_Formsas_good, defBody s_Formsas_good, defScope s_Formsas_good, [], []⟩
def d_Formsdrops : He.DefD := ⟨("Forms", some "_drops"), "_drops", "Forms._drops", defArgs s_Formsdrops, defBody s_Formsdrops, defScope s_Formsdrops, [], []⟩
def d_Formsbacks : He.DefD := ⟨("Forms", some "_backs"), "_backs", "Forms._backs", defArgs s_Formsbacks, defBody s_Formsbacks, defScope s_Formsbacks, [], []⟩
def d_Formswith : He.DefD := ⟨("Forms", some "_with"), "_with", "Forms._with", defArgs s_Formswith, defBody s_Formswith, defScope s_Formswith, [], []⟩
def d_Sums_init : He.DefD := ⟨("Sums", some "__init__"), "__init__", "Sums.__init__", defArgs s_Sums_init, defBody s_Sums_init, defScope s_Sums_init, [], []⟩
def d_Sums_plus : He.DefD := ⟨("Sums", some "plus"), "plus", "Sums.plus", defArgs s_Sums_plus, defBody s_Sums_plus, defScope s_Sums_plus, [], []⟩
def d_Sumsadded : He.DefD := ⟨("Sums", some "_added"), "_added", "Sums._added", defArgs s_Sumsadded, defBody s_Sumsadded, defScope s_Sumsadded, [], []⟩
def d_Yard_init : He.DefD := ⟨("Yard", some "__init__"), "__init__", "Yard.__init__", defArgs s_Yard_init, defBody s_Yard_init, defScope s_Yard_init, [], []⟩
def d_Yard_game : He.DefD := ⟨("Yard", some "game"), "game", "Yard.game", defArgs s_Yard_game, defBody s_Yard_game, defScope s_Yard_game, [], []⟩
def d_Yard_lefts : He.DefD := ⟨("Yard", some "lefts"), "lefts", "Yard.lefts", defArgs s_Yard_lefts, defBody s_Yard_lefts, defScope s_Yard_lefts, [], []⟩
def d_Yard_rights : He.DefD := ⟨("Yard", some "rights"), "rights", "Yard.rights", defArgs s_Yard_rights, defBody s_Yard_rights, defScope s_Yard_rights, [], []⟩
def d_Yard_options : He.DefD := ⟨("Yard", some "options"), "options", "Yard.options", defArgs s_Yard_options, defBody s_Yard_options, defScope s_Yard_options, [], []⟩
def d_Yard_height : He.DefD := ⟨("Yard", some "height"), "height", "Yard.height", defArgs s_Yard_height, defBody s_Yard_height, defScope s_Yard_height, [], []⟩
def d_Yardcheck : He.DefD := ⟨("Yard", some "_check"), "_check", "Yard._check", defArgs s_Yardcheck, defBody s_Yardcheck, defScope s_Yardcheck, [], []⟩
def d__law_cell : He.DefD := ⟨("_law_cell", none), "_law_cell", "_law_cell", defArgs s__law_cell, defBody s__law_cell, defScope s__law_cell, [], []⟩
def d__law_digits : He.DefD := ⟨("_law_digits", none), "_law_digits", "_law_digits", defArgs s__law_digits, defBody s__law_digits, defScope s__law_digits, [], []⟩
def d__law_is_integer : He.DefD := ⟨("_law_is_integer", none), "_law_is_integer", "_law_is_integer", defArgs s__law_is_integer, defBody s__law_is_integer, defScope s__law_is_integer, [], []⟩
def d__law_store : He.DefD := ⟨("_law_store", none), "_law_store", "_law_store", defArgs s__law_store, defBody s__law_store, defScope s__law_store, [], []⟩
def d__law_lot : He.DefD := ⟨("_law_lot", none), "_law_lot", "_law_lot", defArgs s__law_lot, defBody s__law_lot, defScope s__law_lot, [], []⟩
def d__law_keep : He.DefD := ⟨("_law_keep", none), "_law_keep", "_law_keep", defArgs s__law_keep, defBody s__law_keep, defScope s__law_keep, [], []⟩
def d__law_over : He.DefD := ⟨("_law_over", none), "_law_over", "_law_over", defArgs s__law_over, defBody s__law_over, defScope s__law_over, [], []⟩
def d__law_pool : He.DefD := ⟨("_law_pool", none), "_law_pool", "_law_pool", defArgs s__law_pool, defBody s__law_pool, defScope s__law_pool, [], []⟩
def d__law_plain : He.DefD := ⟨("_law_plain", none), "_law_plain", "_law_plain", defArgs s__law_plain, defBody s__law_plain, defScope s__law_plain, [], []⟩
def d__law_number : He.DefD := ⟨("_law_number", none), "_law_number", "_law_number", defArgs s__law_number, defBody s__law_number, defScope s__law_number, [], []⟩
def d__law_less : He.DefD := ⟨("_law_less", none), "_law_less", "_law_less", defArgs s__law_less, defBody s__law_less, defScope s__law_less, [], []⟩
def d__law_added : He.DefD := ⟨("_law_added", none), "_law_added", "_law_added", defArgs s__law_added, defBody s__law_added, defScope s__law_added, [], []⟩
def d__law_pair : He.DefD := ⟨("_law_pair", none), "_law_pair", "_law_pair", defArgs s__law_pair, defBody s__law_pair, defScope s__law_pair, [], []⟩
def d__law_seeds : He.DefD := ⟨("_law_seeds", none), "_law_seeds", "_law_seeds", defArgs s__law_seeds, defBody s__law_seeds, defScope s__law_seeds, [], []⟩
def d__law_out : He.DefD := ⟨("_law_out", none), "_law_out", "_law_out", defArgs s__law_out, defBody s__law_out, defScope s__law_out, [], []⟩
def d__law_told : He.DefD := ⟨("_law_told", none), "_law_told", "_law_told", defArgs s__law_told, defBody s__law_told, defScope s__law_told, [], []⟩
def d__law_placed : He.DefD := ⟨("_law_placed", none), "_law_placed", "_law_placed", defArgs s__law_placed, defBody s__law_placed, defScope s__law_placed, [], []⟩
def d__law_says : He.DefD := ⟨("_law_says", none), "_law_says", "_law_says", defArgs s__law_says, defBody s__law_says, defScope s__law_says, [], []⟩
def d_law : He.DefD := ⟨("law", none), "law", "law", defArgs s_law, defBody s_law, defScope s_law, [], []⟩
def fnL : List He.DefD := [d_is_integer, d_reduced, d_Dyadic_init, d_Dyadic_neg, d_Dyadic_less, d_simplest_between, d_negated, d_above, d_greatest, d_least, d_Values_init, d_Values_number, d_Values_number_of, d_Values_left_stop, d_Values_right_stop, d_Values_is_small, d_Valuesstop, d_Valuesplayed, d_Valuesof_number, d_Valuesreckon, d_other_side, d_Order_init, d_Order_at_least, d_Order_at_most, d_Orderreckon, d_Forms_init, d_Forms_steps, d_Forms_taken, d_Forms_simplest, d_Formsas_good, d_Formsdrops, d_Formsbacks, d_Formswith, d_Sums_init, d_Sums_plus, d_Sumsadded, d_Yard_init, d_Yard_game, d_Yard_lefts, d_Yard_rights, d_Yard_options, d_Yard_height, d_Yardcheck, d__law_cell, d__law_digits, d__law_is_integer, d__law_store, d__law_lot, d__law_keep, d__law_over, d__law_pool, d__law_plain, d__law_number, d__law_less, d__law_added, d__law_pair, d__law_seeds, d__law_out, d__law_told, d__law_placed, d__law_says, d_law]
def g_Dyadic_top : DefP := ⟨"Dyadic", "top", "Dyadic.top", s_Dyadic_top⟩
def g_Dyadic_power : DefP := ⟨"Dyadic", "power", "Dyadic.power", s_Dyadic_power⟩
def g_Values_forms : DefP := ⟨"Values", "forms", "Values.forms", s_Values_forms⟩
def g_Values_yard : DefP := ⟨"Values", "yard", "Values.yard", s_Values_yard⟩
def g_Order_yard : DefP := ⟨"Order", "yard", "Order.yard", s_Order_yard⟩
def g_Forms_yard : DefP := ⟨"Forms", "yard", "Forms.yard", s_Forms_yard⟩
def g_Sums_forms : DefP := ⟨"Sums", "forms", "Sums.forms", s_Sums_forms⟩
def g_Sums_yard : DefP := ⟨"Sums", "yard", "Sums.yard", s_Sums_yard⟩
def psL : List DefP := [g_Dyadic_top, g_Dyadic_power, g_Values_forms, g_Values_yard, g_Order_yard, g_Forms_yard, g_Sums_forms, g_Sums_yard]
def faL : List He.Fa := [.glo "is_integer", .glo "reduced", .glo "simplest_between", .glo "negated", .glo "above", .glo "greatest", .glo "least", .glo "other_side", .glo "_law_cell", .glo "_law_digits", .glo "_law_is_integer", .glo "_law_store", .glo "_law_lot", .glo "_law_keep", .glo "_law_over", .glo "_law_pool", .glo "_law_plain", .glo "_law_number", .glo "_law_less", .glo "_law_added", .glo "_law_pair", .glo "_law_seeds", .glo "_law_out", .glo "_law_told", .glo "_law_placed", .glo "_law_says", .glo "law", .glo "Dyadic", .cls "Dyadic", .mkr "Dyadic", .noat "Dyadic" "_top", .noat "Dyadic" "_power", .glo "Values", .cls "Values", .mkr "Values", .noat "Values" "sums", .noat "Values" "_numbers", .noat "Values" "_made", .noat "Values" "_stops", .glo "Order", .cls "Order", .mkr "Order", .noat "Order" "_yard", .noat "Order" "_at_least", .noat "Order" "_can_win", .glo "Forms", .cls "Forms", .mkr "Forms", .noat "Forms" "order", .noat "Forms" "_simplest", .glo "Sums", .cls "Sums", .mkr "Sums", .noat "Sums" "_forms", .noat "Sums" "_plus", .glo "Yard", .cls "Yard", .mkr "Yard", .noat "Yard" "_lefts", .noat "Yard" "_rights", .noat "Yard" "_heights", .noat "Yard" "_numbers", .noat "Yard" "_turned", .meth "Dyadic" "__neg__", .meth "Dyadic" "less", .meth "Values" "number", .meth "Values" "number_of", .meth "Values" "left_stop", .meth "Values" "right_stop", .meth "Values" "is_small", .meth "Values" "_stop", .meth "Values" "_played", .meth "Values" "_of_number", .meth "Values" "_reckon", .meth "Order" "at_least", .meth "Order" "at_most", .meth "Order" "_reckon", .meth "Forms" "steps", .meth "Forms" "taken", .meth "Forms" "simplest", .meth "Forms" "_as_good", .meth "Forms" "_drops", .meth "Forms" "_backs", .meth "Forms" "_with", .meth "Sums" "plus", .meth "Sums" "_added", .meth "Yard" "game", .meth "Yard" "lefts", .meth "Yard" "rights", .meth "Yard" "options", .meth "Yard" "height", .meth "Yard" "_check", .free "isinstance", .free "int", .free "bool", .free "max", .free "min", .free "len", .free "any", .free "tuple", .free "sorted", .free "set", .free "list", .free "range", .int "TOP_MOST" 1000000000000, .int "POWER_MOST_dyadic" 40, .int "NUMBER_MOST" 64, .int "POWER_MOST_values" 12, .glo "SIDES"]
def exB (K : PySem.W.Frag) : Bool := propB K "Dyadic" "top" && (propB K "Dyadic" "power" && (propB K "Values" "forms" && (propB K "Values" "yard" && (propB K "Order" "yard" && (propB K "Forms" "yard" && (propB K "Sums" "forms" && (propB K "Sums" "yard" && (insB K "Dyadic" && (He.tupB K "SIDES" [.str "left", .str "right"])))))))))
abbrev R : PySem.W.OpenRow := PySem.W.OpenLaw.row PySem.Challenge.rw_sumsplay_k45_whole_stops_and_order
def asL : List Addr := List.range 809
abbrev hk : PySem.W.Hook := hookL asL faL fnL psL exB
def ob (s : PySem.W.SharedT) : AlP := obsP faL fnL psL exB (He.frG (HandSHeadRun.getT s) asL)
theorem ob_eq (s : PySem.W.SharedT) : ob s = hk.obs s.abs := by
  have e : HandSHeadRun.getT s = s.abs.heap.get? := funext (HandSHeadRun.getT_eq s)
  show obsP faL fnL psL exB (He.frG (HandSHeadRun.getT s) asL) = _
  rw [e]
  rfl
def n1 : List PySem.Str := ["_wall", "PlayError", "BadValue", "Unknown", "NoMove", "TOP_MOST", "POWER_MOST_dyadic", "is_integer", "reduced", "Dyadic", "simplest_between", "negated", "above", "NUMBER_MOST", "POWER_MOST_values", "greatest", "least", "Values", "other_side", "Order", "SIDES", "Forms", "Sums", "Yard"]
def n2 : List PySem.Str := ["_law_cell", "_law_digits", "_law_is_integer", "_law_store", "_law_lot", "_law_keep", "_law_over", "_law_pool", "_law_plain", "_law_number", "_law_less", "_law_added", "_law_pair", "_law_seeds", "_law_out", "_law_told", "_law_placed", "_law_says"]
theorem run (w : World) : HandSHeadRun.RunEq R (PySem.W.view R.prog [50]) hk ob 12000 (n1 ++ n2) w := by
  intro os
  kernel_rfl
/-- the facts of a fragment and the module's names -/
structure Tx (K : PySem.W.Frag) (mg : Str → Option Value) : Prop where
  c : SaysP faL fnL psL exB K
  h : ∃ h : Heap, K.In h ∧ h.Ns mainGlobals mg
section
variable {K : PySem.W.Frag} {mg : Str → Option Value} (T : Tx K mg)
include T
theorem t_glo_is_integer : mg "is_integer" = some (.ref (He.ga K "is_integer")) := let ⟨_, X, G⟩ := T.h; He.glo_ok X G (T.c.d.fact 0 rfl)
theorem t_glo_reduced : mg "reduced" = some (.ref (He.ga K "reduced")) := let ⟨_, X, G⟩ := T.h; He.glo_ok X G (T.c.d.fact 1 rfl)
theorem t_glo_simplest_between : mg "simplest_between" = some (.ref (He.ga K "simplest_between")) := let ⟨_, X, G⟩ := T.h; He.glo_ok X G (T.c.d.fact 2 rfl)
theorem t_glo_negated : mg "negated" = some (.ref (He.ga K "negated")) := let ⟨_, X, G⟩ := T.h; He.glo_ok X G (T.c.d.fact 3 rfl)
theorem t_glo_above : mg "above" = some (.ref (He.ga K "above")) := let ⟨_, X, G⟩ := T.h; He.glo_ok X G (T.c.d.fact 4 rfl)
theorem t_glo_greatest : mg "greatest" = some (.ref (He.ga K "greatest")) := let ⟨_, X, G⟩ := T.h; He.glo_ok X G (T.c.d.fact 5 rfl)
theorem t_glo_least : mg "least" = some (.ref (He.ga K "least")) := let ⟨_, X, G⟩ := T.h; He.glo_ok X G (T.c.d.fact 6 rfl)
theorem t_glo_other_side : mg "other_side" = some (.ref (He.ga K "other_side")) := let ⟨_, X, G⟩ := T.h; He.glo_ok X G (T.c.d.fact 7 rfl)
theorem t_glo__law_cell : mg "_law_cell" = some (.ref (He.ga K "_law_cell")) := let ⟨_, X, G⟩ := T.h; He.glo_ok X G (T.c.d.fact 8 rfl)
theorem t_glo__law_digits : mg "_law_digits" = some (.ref (He.ga K "_law_digits")) := let ⟨_, X, G⟩ := T.h; He.glo_ok X G (T.c.d.fact 9 rfl)
theorem t_glo__law_is_integer : mg "_law_is_integer" = some (.ref (He.ga K "_law_is_integer")) := let ⟨_, X, G⟩ := T.h; He.glo_ok X G (T.c.d.fact 10 rfl)
theorem t_glo__law_store : mg "_law_store" = some (.ref (He.ga K "_law_store")) := let ⟨_, X, G⟩ := T.h; He.glo_ok X G (T.c.d.fact 11 rfl)
theorem t_glo__law_lot : mg "_law_lot" = some (.ref (He.ga K "_law_lot")) := let ⟨_, X, G⟩ := T.h; He.glo_ok X G (T.c.d.fact 12 rfl)
theorem t_glo__law_keep : mg "_law_keep" = some (.ref (He.ga K "_law_keep")) := let ⟨_, X, G⟩ := T.h; He.glo_ok X G (T.c.d.fact 13 rfl)
theorem t_glo__law_over : mg "_law_over" = some (.ref (He.ga K "_law_over")) := let ⟨_, X, G⟩ := T.h; He.glo_ok X G (T.c.d.fact 14 rfl)
theorem t_glo__law_pool : mg "_law_pool" = some (.ref (He.ga K "_law_pool")) := let ⟨_, X, G⟩ := T.h; He.glo_ok X G (T.c.d.fact 15 rfl)
theorem t_glo__law_plain : mg "_law_plain" = some (.ref (He.ga K "_law_plain")) := let ⟨_, X, G⟩ := T.h; He.glo_ok X G (T.c.d.fact 16 rfl)
theorem t_glo__law_number : mg "_law_number" = some (.ref (He.ga K "_law_number")) := let ⟨_, X, G⟩ := T.h; He.glo_ok X G (T.c.d.fact 17 rfl)
theorem t_glo__law_less : mg "_law_less" = some (.ref (He.ga K "_law_less")) := let ⟨_, X, G⟩ := T.h; He.glo_ok X G (T.c.d.fact 18 rfl)
theorem t_glo__law_added : mg "_law_added" = some (.ref (He.ga K "_law_added")) := let ⟨_, X, G⟩ := T.h; He.glo_ok X G (T.c.d.fact 19 rfl)
theorem t_glo__law_pair : mg "_law_pair" = some (.ref (He.ga K "_law_pair")) := let ⟨_, X, G⟩ := T.h; He.glo_ok X G (T.c.d.fact 20 rfl)
theorem t_glo__law_seeds : mg "_law_seeds" = some (.ref (He.ga K "_law_seeds")) := let ⟨_, X, G⟩ := T.h; He.glo_ok X G (T.c.d.fact 21 rfl)
theorem t_glo__law_out : mg "_law_out" = some (.ref (He.ga K "_law_out")) := let ⟨_, X, G⟩ := T.h; He.glo_ok X G (T.c.d.fact 22 rfl)
theorem t_glo__law_told : mg "_law_told" = some (.ref (He.ga K "_law_told")) := let ⟨_, X, G⟩ := T.h; He.glo_ok X G (T.c.d.fact 23 rfl)
theorem t_glo__law_placed : mg "_law_placed" = some (.ref (He.ga K "_law_placed")) := let ⟨_, X, G⟩ := T.h; He.glo_ok X G (T.c.d.fact 24 rfl)
theorem t_glo__law_says : mg "_law_says" = some (.ref (He.ga K "_law_says")) := let ⟨_, X, G⟩ := T.h; He.glo_ok X G (T.c.d.fact 25 rfl)
theorem t_glo_law : mg "law" = some (.ref (He.ga K "law")) := let ⟨_, X, G⟩ := T.h; He.glo_ok X G (T.c.d.fact 26 rfl)
theorem t_glo_Dyadic : mg "Dyadic" = some (.ref (He.ga K "Dyadic")) := let ⟨_, X, G⟩ := T.h; He.glo_ok X G (T.c.d.fact 27 rfl)
theorem t_cls_Dyadic : Cls K (He.ga K "Dyadic") := He.cls_ok (T.c.d.fact 28 rfl)
theorem t_mkr_Dyadic : Mk K (He.ga K "Dyadic") (He.ma K (He.ga K "Dyadic") "__init__") := He.mkr_ok (T.c.d.fact 29 rfl)
theorem t_no_Dyadic__top : NoAttr K (He.ga K "Dyadic") "_top" := He.noat_ok (T.c.d.fact 30 rfl)
theorem t_no_Dyadic__power : NoAttr K (He.ga K "Dyadic") "_power" := He.noat_ok (T.c.d.fact 31 rfl)
theorem t_glo_Values : mg "Values" = some (.ref (He.ga K "Values")) := let ⟨_, X, G⟩ := T.h; He.glo_ok X G (T.c.d.fact 32 rfl)
theorem t_cls_Values : Cls K (He.ga K "Values") := He.cls_ok (T.c.d.fact 33 rfl)
theorem t_mkr_Values : Mk K (He.ga K "Values") (He.ma K (He.ga K "Values") "__init__") := He.mkr_ok (T.c.d.fact 34 rfl)
theorem t_no_Values_sums : NoAttr K (He.ga K "Values") "sums" := He.noat_ok (T.c.d.fact 35 rfl)
theorem t_no_Values__numbers : NoAttr K (He.ga K "Values") "_numbers" := He.noat_ok (T.c.d.fact 36 rfl)
theorem t_no_Values__made : NoAttr K (He.ga K "Values") "_made" := He.noat_ok (T.c.d.fact 37 rfl)
theorem t_no_Values__stops : NoAttr K (He.ga K "Values") "_stops" := He.noat_ok (T.c.d.fact 38 rfl)
theorem t_glo_Order : mg "Order" = some (.ref (He.ga K "Order")) := let ⟨_, X, G⟩ := T.h; He.glo_ok X G (T.c.d.fact 39 rfl)
theorem t_cls_Order : Cls K (He.ga K "Order") := He.cls_ok (T.c.d.fact 40 rfl)
theorem t_mkr_Order : Mk K (He.ga K "Order") (He.ma K (He.ga K "Order") "__init__") := He.mkr_ok (T.c.d.fact 41 rfl)
theorem t_no_Order__yard : NoAttr K (He.ga K "Order") "_yard" := He.noat_ok (T.c.d.fact 42 rfl)
theorem t_no_Order__at_least : NoAttr K (He.ga K "Order") "_at_least" := He.noat_ok (T.c.d.fact 43 rfl)
theorem t_no_Order__can_win : NoAttr K (He.ga K "Order") "_can_win" := He.noat_ok (T.c.d.fact 44 rfl)
theorem t_glo_Forms : mg "Forms" = some (.ref (He.ga K "Forms")) := let ⟨_, X, G⟩ := T.h; He.glo_ok X G (T.c.d.fact 45 rfl)
theorem t_cls_Forms : Cls K (He.ga K "Forms") := He.cls_ok (T.c.d.fact 46 rfl)
theorem t_mkr_Forms : Mk K (He.ga K "Forms") (He.ma K (He.ga K "Forms") "__init__") := He.mkr_ok (T.c.d.fact 47 rfl)
theorem t_no_Forms_order : NoAttr K (He.ga K "Forms") "order" := He.noat_ok (T.c.d.fact 48 rfl)
theorem t_no_Forms__simplest : NoAttr K (He.ga K "Forms") "_simplest" := He.noat_ok (T.c.d.fact 49 rfl)
theorem t_glo_Sums : mg "Sums" = some (.ref (He.ga K "Sums")) := let ⟨_, X, G⟩ := T.h; He.glo_ok X G (T.c.d.fact 50 rfl)
theorem t_cls_Sums : Cls K (He.ga K "Sums") := He.cls_ok (T.c.d.fact 51 rfl)
theorem t_mkr_Sums : Mk K (He.ga K "Sums") (He.ma K (He.ga K "Sums") "__init__") := He.mkr_ok (T.c.d.fact 52 rfl)
theorem t_no_Sums__forms : NoAttr K (He.ga K "Sums") "_forms" := He.noat_ok (T.c.d.fact 53 rfl)
theorem t_no_Sums__plus : NoAttr K (He.ga K "Sums") "_plus" := He.noat_ok (T.c.d.fact 54 rfl)
theorem t_glo_Yard : mg "Yard" = some (.ref (He.ga K "Yard")) := let ⟨_, X, G⟩ := T.h; He.glo_ok X G (T.c.d.fact 55 rfl)
theorem t_cls_Yard : Cls K (He.ga K "Yard") := He.cls_ok (T.c.d.fact 56 rfl)
theorem t_mkr_Yard : Mk K (He.ga K "Yard") (He.ma K (He.ga K "Yard") "__init__") := He.mkr_ok (T.c.d.fact 57 rfl)
theorem t_no_Yard__lefts : NoAttr K (He.ga K "Yard") "_lefts" := He.noat_ok (T.c.d.fact 58 rfl)
theorem t_no_Yard__rights : NoAttr K (He.ga K "Yard") "_rights" := He.noat_ok (T.c.d.fact 59 rfl)
theorem t_no_Yard__heights : NoAttr K (He.ga K "Yard") "_heights" := He.noat_ok (T.c.d.fact 60 rfl)
theorem t_no_Yard__numbers : NoAttr K (He.ga K "Yard") "_numbers" := He.noat_ok (T.c.d.fact 61 rfl)
theorem t_no_Yard__turned : NoAttr K (He.ga K "Yard") "_turned" := He.noat_ok (T.c.d.fact 62 rfl)
theorem t_me_Dyadic_neg : Meth K (He.ga K "Dyadic") "__neg__" (He.ma K (He.ga K "Dyadic") "__neg__") := He.meth_ok (T.c.d.fact 63 rfl)
theorem t_me_Dyadic_less : Meth K (He.ga K "Dyadic") "less" (He.ma K (He.ga K "Dyadic") "less") := He.meth_ok (T.c.d.fact 64 rfl)
theorem t_me_Values_number : Meth K (He.ga K "Values") "number" (He.ma K (He.ga K "Values") "number") := He.meth_ok (T.c.d.fact 65 rfl)
theorem t_me_Values_number_of : Meth K (He.ga K "Values") "number_of" (He.ma K (He.ga K "Values") "number_of") := He.meth_ok (T.c.d.fact 66 rfl)
theorem t_me_Values_left_stop : Meth K (He.ga K "Values") "left_stop" (He.ma K (He.ga K "Values") "left_stop") := He.meth_ok (T.c.d.fact 67 rfl)
theorem t_me_Values_right_stop : Meth K (He.ga K "Values") "right_stop" (He.ma K (He.ga K "Values") "right_stop") := He.meth_ok (T.c.d.fact 68 rfl)
theorem t_me_Values_is_small : Meth K (He.ga K "Values") "is_small" (He.ma K (He.ga K "Values") "is_small") := He.meth_ok (T.c.d.fact 69 rfl)
theorem t_me_Values__stop : Meth K (He.ga K "Values") "_stop" (He.ma K (He.ga K "Values") "_stop") := He.meth_ok (T.c.d.fact 70 rfl)
theorem t_me_Values__played : Meth K (He.ga K "Values") "_played" (He.ma K (He.ga K "Values") "_played") := He.meth_ok (T.c.d.fact 71 rfl)
theorem t_me_Values__of_number : Meth K (He.ga K "Values") "_of_number" (He.ma K (He.ga K "Values") "_of_number") := He.meth_ok (T.c.d.fact 72 rfl)
theorem t_me_Values__reckon : Meth K (He.ga K "Values") "_reckon" (He.ma K (He.ga K "Values") "_reckon") := He.meth_ok (T.c.d.fact 73 rfl)
theorem t_me_Order_at_least : Meth K (He.ga K "Order") "at_least" (He.ma K (He.ga K "Order") "at_least") := He.meth_ok (T.c.d.fact 74 rfl)
theorem t_me_Order_at_most : Meth K (He.ga K "Order") "at_most" (He.ma K (He.ga K "Order") "at_most") := He.meth_ok (T.c.d.fact 75 rfl)
theorem t_me_Order__reckon : Meth K (He.ga K "Order") "_reckon" (He.ma K (He.ga K "Order") "_reckon") := He.meth_ok (T.c.d.fact 76 rfl)
theorem t_me_Forms_steps : Meth K (He.ga K "Forms") "steps" (He.ma K (He.ga K "Forms") "steps") := He.meth_ok (T.c.d.fact 77 rfl)
theorem t_me_Forms_taken : Meth K (He.ga K "Forms") "taken" (He.ma K (He.ga K "Forms") "taken") := He.meth_ok (T.c.d.fact 78 rfl)
theorem t_me_Forms_simplest : Meth K (He.ga K "Forms") "simplest" (He.ma K (He.ga K "Forms") "simplest") := He.meth_ok (T.c.d.fact 79 rfl)
theorem t_me_Forms__as_good : Meth K (He.ga K "Forms") "_as_good" (He.ma K (He.ga K "Forms") "_as_good") := He.meth_ok (T.c.d.fact 80 rfl)
theorem t_me_Forms__drops : Meth K (He.ga K "Forms") "_drops" (He.ma K (He.ga K "Forms") "_drops") := He.meth_ok (T.c.d.fact 81 rfl)
theorem t_me_Forms__backs : Meth K (He.ga K "Forms") "_backs" (He.ma K (He.ga K "Forms") "_backs") := He.meth_ok (T.c.d.fact 82 rfl)
theorem t_me_Forms__with : Meth K (He.ga K "Forms") "_with" (He.ma K (He.ga K "Forms") "_with") := He.meth_ok (T.c.d.fact 83 rfl)
theorem t_me_Sums_plus : Meth K (He.ga K "Sums") "plus" (He.ma K (He.ga K "Sums") "plus") := He.meth_ok (T.c.d.fact 84 rfl)
theorem t_me_Sums__added : Meth K (He.ga K "Sums") "_added" (He.ma K (He.ga K "Sums") "_added") := He.meth_ok (T.c.d.fact 85 rfl)
theorem t_me_Yard_game : Meth K (He.ga K "Yard") "game" (He.ma K (He.ga K "Yard") "game") := He.meth_ok (T.c.d.fact 86 rfl)
theorem t_me_Yard_lefts : Meth K (He.ga K "Yard") "lefts" (He.ma K (He.ga K "Yard") "lefts") := He.meth_ok (T.c.d.fact 87 rfl)
theorem t_me_Yard_rights : Meth K (He.ga K "Yard") "rights" (He.ma K (He.ga K "Yard") "rights") := He.meth_ok (T.c.d.fact 88 rfl)
theorem t_me_Yard_options : Meth K (He.ga K "Yard") "options" (He.ma K (He.ga K "Yard") "options") := He.meth_ok (T.c.d.fact 89 rfl)
theorem t_me_Yard_height : Meth K (He.ga K "Yard") "height" (He.ma K (He.ga K "Yard") "height") := He.meth_ok (T.c.d.fact 90 rfl)
theorem t_me_Yard__check : Meth K (He.ga K "Yard") "_check" (He.ma K (He.ga K "Yard") "_check") := He.meth_ok (T.c.d.fact 91 rfl)
theorem t_fr_isinstance : mg "isinstance" = none := let ⟨_, X, G⟩ := T.h; He.free_ok X G (T.c.d.fact 92 rfl)
theorem t_fr_int : mg "int" = none := let ⟨_, X, G⟩ := T.h; He.free_ok X G (T.c.d.fact 93 rfl)
theorem t_fr_bool : mg "bool" = none := let ⟨_, X, G⟩ := T.h; He.free_ok X G (T.c.d.fact 94 rfl)
theorem t_fr_max : mg "max" = none := let ⟨_, X, G⟩ := T.h; He.free_ok X G (T.c.d.fact 95 rfl)
theorem t_fr_min : mg "min" = none := let ⟨_, X, G⟩ := T.h; He.free_ok X G (T.c.d.fact 96 rfl)
theorem t_fr_len : mg "len" = none := let ⟨_, X, G⟩ := T.h; He.free_ok X G (T.c.d.fact 97 rfl)
theorem t_fr_any : mg "any" = none := let ⟨_, X, G⟩ := T.h; He.free_ok X G (T.c.d.fact 98 rfl)
theorem t_fr_tuple : mg "tuple" = none := let ⟨_, X, G⟩ := T.h; He.free_ok X G (T.c.d.fact 99 rfl)
theorem t_fr_sorted : mg "sorted" = none := let ⟨_, X, G⟩ := T.h; He.free_ok X G (T.c.d.fact 100 rfl)
theorem t_fr_set : mg "set" = none := let ⟨_, X, G⟩ := T.h; He.free_ok X G (T.c.d.fact 101 rfl)
theorem t_fr_list : mg "list" = none := let ⟨_, X, G⟩ := T.h; He.free_ok X G (T.c.d.fact 102 rfl)
theorem t_fr_range : mg "range" = none := let ⟨_, X, G⟩ := T.h; He.free_ok X G (T.c.d.fact 103 rfl)
theorem t_int_TOP_MOST : ∃ t, mg "TOP_MOST" = some (.int 1000000000000 t) := let ⟨_, X, G⟩ := T.h; He.int_ok X G (T.c.d.fact 104 rfl)
theorem t_int_POWER_MOST_dyadic : ∃ t, mg "POWER_MOST_dyadic" = some (.int 40 t) := let ⟨_, X, G⟩ := T.h; He.int_ok X G (T.c.d.fact 105 rfl)
theorem t_int_NUMBER_MOST : ∃ t, mg "NUMBER_MOST" = some (.int 64 t) := let ⟨_, X, G⟩ := T.h; He.int_ok X G (T.c.d.fact 106 rfl)
theorem t_int_POWER_MOST_values : ∃ t, mg "POWER_MOST_values" = some (.int 12 t) := let ⟨_, X, G⟩ := T.h; He.int_ok X G (T.c.d.fact 107 rfl)
theorem t_glo_SIDES : mg "SIDES" = some (.ref (He.ga K "SIDES")) := let ⟨_, X, G⟩ := T.h; He.glo_ok X G (T.c.d.fact 108 rfl)
theorem t_fn_is_integer : ∃ fd, FnP K "is_integer" "is_integer" s_is_integer (He.ga K "is_integer") fd := T.c.d.def_ 0 (d := d_is_integer) rfl
theorem t_fn_reduced : ∃ fd, FnP K "reduced" "reduced" s_reduced (He.ga K "reduced") fd := T.c.d.def_ 1 (d := d_reduced) rfl
theorem t_fn_Dyadic_init : ∃ fd, FunD K "__init__" "Dyadic.__init__" (defArgs s_Dyadic_init) (defBody s_Dyadic_init) (defScope s_Dyadic_init) [.int 0] [] (He.ma K (He.ga K "Dyadic") "__init__") fd := T.c.d.def_ 2 (d := d_Dyadic_init) rfl
theorem t_fn_Dyadic_neg : ∃ fd, FnP K "__neg__" "Dyadic.__neg__" s_Dyadic_neg (He.ma K (He.ga K "Dyadic") "__neg__") fd := T.c.d.def_ 3 (d := d_Dyadic_neg) rfl
theorem t_fn_Dyadic_less : ∃ fd, FnP K "less" "Dyadic.less" s_Dyadic_less (He.ma K (He.ga K "Dyadic") "less") fd := T.c.d.def_ 4 (d := d_Dyadic_less) rfl
theorem t_fn_simplest_between : ∃ fd, FnP K "simplest_between" "simplest_between" s_simplest_between (He.ga K "simplest_between") fd := T.c.d.def_ 5 (d := d_simplest_between) rfl
theorem t_fn_negated : ∃ fd, FnP K "negated" "negated" s_negated (He.ga K "negated") fd := T.c.d.def_ 6 (d := d_negated) rfl
theorem t_fn_above : ∃ fd, FnP K "above" "above" s_above (He.ga K "above") fd := T.c.d.def_ 7 (d := d_above) rfl
theorem t_fn_greatest : ∃ fd, FnP K "greatest" "greatest" s_greatest (He.ga K "greatest") fd := T.c.d.def_ 8 (d := d_greatest) rfl
theorem t_fn_least : ∃ fd, FnP K "least" "least" s_least (He.ga K "least") fd := T.c.d.def_ 9 (d := d_least) rfl
theorem t_fn_Values_init : ∃ fd, FnP K "__init__" "Values.__init__" s_Values_init (He.ma K (He.ga K "Values") "__init__") fd := T.c.d.def_ 10 (d := d_Values_init) rfl
theorem t_fn_Values_number : ∃ fd, FnP K "number" "Values.number" s_Values_number (He.ma K (He.ga K "Values") "number") fd := T.c.d.def_ 11 (d := d_Values_number) rfl
theorem t_fn_Values_number_of : ∃ fd, FnP K "number_of" "Values.number_of" s_Values_number_of (He.ma K (He.ga K "Values") "number_of") fd := T.c.d.def_ 12 (d := d_Values_number_of) rfl
theorem t_fn_Values_left_stop : ∃ fd, FnP K "left_stop" "Values.left_stop" s_Values_left_stop (He.ma K (He.ga K "Values") "left_stop") fd := T.c.d.def_ 13 (d := d_Values_left_stop) rfl
theorem t_fn_Values_right_stop : ∃ fd, FnP K "right_stop" "Values.right_stop" s_Values_right_stop (He.ma K (He.ga K "Values") "right_stop") fd := T.c.d.def_ 14 (d := d_Values_right_stop) rfl
theorem t_fn_Values_is_small : ∃ fd, FnP K "is_small" "Values.is_small" s_Values_is_small (He.ma K (He.ga K "Values") "is_small") fd := T.c.d.def_ 15 (d := d_Values_is_small) rfl
theorem t_fn_Valuesstop : ∃ fd, FnP K "_stop" "Values._stop" s_Valuesstop (He.ma K (He.ga K "Values") "_stop") fd := T.c.d.def_ 16 (d := d_Valuesstop) rfl
theorem t_fn_Valuesplayed : ∃ fd, FnP K "_played" "Values._played" s_Valuesplayed (He.ma K (He.ga K "Values") "_played") fd := T.c.d.def_ 17 (d := d_Valuesplayed) rfl
theorem t_fn_Valuesof_number : ∃ fd, FnP K "_of_number" "Values._of_number" s_Valuesof_number (He.ma K (He.ga K "Values") "_of_number") fd := T.c.d.def_ 18 (d := d_Valuesof_number) rfl
theorem t_fn_Valuesreckon : ∃ fd, FnP K "_reckon" "Values._reckon" s_Valuesreckon (He.ma K (He.ga K "Values") "_reckon") fd := T.c.d.def_ 19 (d := d_Valuesreckon) rfl
theorem t_fn_other_side : ∃ fd, FnP K "other_side" "other_side" s_other_side (He.ga K "other_side") fd := T.c.d.def_ 20 (d := d_other_side) rfl
theorem t_fn_Order_init : ∃ fd, FnP K "__init__" "Order.__init__" s_Order_init (He.ma K (He.ga K "Order") "__init__") fd := T.c.d.def_ 21 (d := d_Order_init) rfl
theorem t_fn_Order_at_least : ∃ fd, FnP K "at_least" "Order.at_least" s_Order_at_least (He.ma K (He.ga K "Order") "at_least") fd := T.c.d.def_ 22 (d := d_Order_at_least) rfl
theorem t_fn_Order_at_most : ∃ fd, FnP K "at_most" "Order.at_most" s_Order_at_most (He.ma K (He.ga K "Order") "at_most") fd := T.c.d.def_ 23 (d := d_Order_at_most) rfl
theorem t_fn_Orderreckon : ∃ fd, FnP K "_reckon" "Order._reckon" s_Orderreckon (He.ma K (He.ga K "Order") "_reckon") fd := T.c.d.def_ 24 (d := d_Orderreckon) rfl
theorem t_fn_Forms_init : ∃ fd, FnP K "__init__" "Forms.__init__" s_Forms_init (He.ma K (He.ga K "Forms") "__init__") fd := T.c.d.def_ 25 (d := d_Forms_init) rfl
theorem t_fn_Forms_steps : ∃ fd, FnP K "steps" "Forms.steps" s_Forms_steps (He.ma K (He.ga K "Forms") "steps") fd := T.c.d.def_ 26 (d := d_Forms_steps) rfl
theorem t_fn_Forms_taken : ∃ fd, FnP K "taken" "Forms.taken" s_Forms_taken (He.ma K (He.ga K "Forms") "taken") fd := T.c.d.def_ 27 (d := d_Forms_taken) rfl
theorem t_fn_Forms_simplest : ∃ fd, FnP K "simplest" "Forms.simplest" s_Forms_simplest (He.ma K (He.ga K "Forms") "simplest") fd := T.c.d.def_ 28 (d := d_Forms_simplest) rfl
theorem t_fn_Formsas_good : ∃ fd, FnP K "_as_good" "Forms._as_good" s_Formsas_good (He.ma K (He.ga K "Forms") "_as_good") fd := T.c.d.def_ 29 (d := d_Formsas_good) rfl
theorem t_fn_Formsdrops : ∃ fd, FnP K "_drops" "Forms._drops" s_Formsdrops (He.ma K (He.ga K "Forms") "_drops") fd := T.c.d.def_ 30 (d := d_Formsdrops) rfl
theorem t_fn_Formsbacks : ∃ fd, FnP K "_backs" "Forms._backs" s_Formsbacks (He.ma K (He.ga K "Forms") "_backs") fd := T.c.d.def_ 31 (d := d_Formsbacks) rfl
theorem t_fn_Formswith : ∃ fd, FnP K "_with" "Forms._with" s_Formswith (He.ma K (He.ga K "Forms") "_with") fd := T.c.d.def_ 32 (d := d_Formswith) rfl
theorem t_fn_Sums_init : ∃ fd, FnP K "__init__" "Sums.__init__" s_Sums_init (He.ma K (He.ga K "Sums") "__init__") fd := T.c.d.def_ 33 (d := d_Sums_init) rfl
theorem t_fn_Sums_plus : ∃ fd, FnP K "plus" "Sums.plus" s_Sums_plus (He.ma K (He.ga K "Sums") "plus") fd := T.c.d.def_ 34 (d := d_Sums_plus) rfl
theorem t_fn_Sumsadded : ∃ fd, FnP K "_added" "Sums._added" s_Sumsadded (He.ma K (He.ga K "Sums") "_added") fd := T.c.d.def_ 35 (d := d_Sumsadded) rfl
theorem t_fn_Yard_init : ∃ fd, FnP K "__init__" "Yard.__init__" s_Yard_init (He.ma K (He.ga K "Yard") "__init__") fd := T.c.d.def_ 36 (d := d_Yard_init) rfl
theorem t_fn_Yard_game : ∃ fd, FnP K "game" "Yard.game" s_Yard_game (He.ma K (He.ga K "Yard") "game") fd := T.c.d.def_ 37 (d := d_Yard_game) rfl
theorem t_fn_Yard_lefts : ∃ fd, FnP K "lefts" "Yard.lefts" s_Yard_lefts (He.ma K (He.ga K "Yard") "lefts") fd := T.c.d.def_ 38 (d := d_Yard_lefts) rfl
theorem t_fn_Yard_rights : ∃ fd, FnP K "rights" "Yard.rights" s_Yard_rights (He.ma K (He.ga K "Yard") "rights") fd := T.c.d.def_ 39 (d := d_Yard_rights) rfl
theorem t_fn_Yard_options : ∃ fd, FnP K "options" "Yard.options" s_Yard_options (He.ma K (He.ga K "Yard") "options") fd := T.c.d.def_ 40 (d := d_Yard_options) rfl
theorem t_fn_Yard_height : ∃ fd, FnP K "height" "Yard.height" s_Yard_height (He.ma K (He.ga K "Yard") "height") fd := T.c.d.def_ 41 (d := d_Yard_height) rfl
theorem t_fn_Yardcheck : ∃ fd, FnP K "_check" "Yard._check" s_Yardcheck (He.ma K (He.ga K "Yard") "_check") fd := T.c.d.def_ 42 (d := d_Yardcheck) rfl
theorem t_fn__law_cell : ∃ fd, FnP K "_law_cell" "_law_cell" s__law_cell (He.ga K "_law_cell") fd := T.c.d.def_ 43 (d := d__law_cell) rfl
theorem t_fn__law_digits : ∃ fd, FnP K "_law_digits" "_law_digits" s__law_digits (He.ga K "_law_digits") fd := T.c.d.def_ 44 (d := d__law_digits) rfl
theorem t_fn__law_is_integer : ∃ fd, FnP K "_law_is_integer" "_law_is_integer" s__law_is_integer (He.ga K "_law_is_integer") fd := T.c.d.def_ 45 (d := d__law_is_integer) rfl
theorem t_fn__law_store : ∃ fd, FnP K "_law_store" "_law_store" s__law_store (He.ga K "_law_store") fd := T.c.d.def_ 46 (d := d__law_store) rfl
theorem t_fn__law_lot : ∃ fd, FnP K "_law_lot" "_law_lot" s__law_lot (He.ga K "_law_lot") fd := T.c.d.def_ 47 (d := d__law_lot) rfl
theorem t_fn__law_keep : ∃ fd, FnP K "_law_keep" "_law_keep" s__law_keep (He.ga K "_law_keep") fd := T.c.d.def_ 48 (d := d__law_keep) rfl
theorem t_fn__law_over : ∃ fd, FnP K "_law_over" "_law_over" s__law_over (He.ga K "_law_over") fd := T.c.d.def_ 49 (d := d__law_over) rfl
theorem t_fn__law_pool : ∃ fd, FnP K "_law_pool" "_law_pool" s__law_pool (He.ga K "_law_pool") fd := T.c.d.def_ 50 (d := d__law_pool) rfl
theorem t_fn__law_plain : ∃ fd, FnP K "_law_plain" "_law_plain" s__law_plain (He.ga K "_law_plain") fd := T.c.d.def_ 51 (d := d__law_plain) rfl
theorem t_fn__law_number : ∃ fd, FnP K "_law_number" "_law_number" s__law_number (He.ga K "_law_number") fd := T.c.d.def_ 52 (d := d__law_number) rfl
theorem t_fn__law_less : ∃ fd, FnP K "_law_less" "_law_less" s__law_less (He.ga K "_law_less") fd := T.c.d.def_ 53 (d := d__law_less) rfl
theorem t_fn__law_added : ∃ fd, FnP K "_law_added" "_law_added" s__law_added (He.ga K "_law_added") fd := T.c.d.def_ 54 (d := d__law_added) rfl
theorem t_fn__law_pair : ∃ fd, FnP K "_law_pair" "_law_pair" s__law_pair (He.ga K "_law_pair") fd := T.c.d.def_ 55 (d := d__law_pair) rfl
theorem t_fn__law_seeds : ∃ fd, FnP K "_law_seeds" "_law_seeds" s__law_seeds (He.ga K "_law_seeds") fd := T.c.d.def_ 56 (d := d__law_seeds) rfl
theorem t_fn__law_out : ∃ fd, FnP K "_law_out" "_law_out" s__law_out (He.ga K "_law_out") fd := T.c.d.def_ 57 (d := d__law_out) rfl
theorem t_fn__law_told : ∃ fd, FnP K "_law_told" "_law_told" s__law_told (He.ga K "_law_told") fd := T.c.d.def_ 58 (d := d__law_told) rfl
theorem t_fn__law_placed : ∃ fd, FnP K "_law_placed" "_law_placed" s__law_placed (He.ga K "_law_placed") fd := T.c.d.def_ 59 (d := d__law_placed) rfl
theorem t_fn__law_says : ∃ fd, FnP K "_law_says" "_law_says" s__law_says (He.ga K "_law_says") fd := T.c.d.def_ 60 (d := d__law_says) rfl
theorem t_fn_law : ∃ fd, FnP K "law" "law" s_law (He.ga K "law") fd := T.c.d.def_ 61 (d := d_law) rfl
theorem t_gt_Dyadic_top : ∃ fd, FnP K "top" "Dyadic.top" s_Dyadic_top (prA K "Dyadic" "top") fd := T.c.def_ 0 (d := g_Dyadic_top) rfl
theorem t_gt_Dyadic_power : ∃ fd, FnP K "power" "Dyadic.power" s_Dyadic_power (prA K "Dyadic" "power") fd := T.c.def_ 1 (d := g_Dyadic_power) rfl
theorem t_gt_Values_forms : ∃ fd, FnP K "forms" "Values.forms" s_Values_forms (prA K "Values" "forms") fd := T.c.def_ 2 (d := g_Values_forms) rfl
theorem t_gt_Values_yard : ∃ fd, FnP K "yard" "Values.yard" s_Values_yard (prA K "Values" "yard") fd := T.c.def_ 3 (d := g_Values_yard) rfl
theorem t_gt_Order_yard : ∃ fd, FnP K "yard" "Order.yard" s_Order_yard (prA K "Order" "yard") fd := T.c.def_ 4 (d := g_Order_yard) rfl
theorem t_gt_Forms_yard : ∃ fd, FnP K "yard" "Forms.yard" s_Forms_yard (prA K "Forms" "yard") fd := T.c.def_ 5 (d := g_Forms_yard) rfl
theorem t_gt_Sums_forms : ∃ fd, FnP K "forms" "Sums.forms" s_Sums_forms (prA K "Sums" "forms") fd := T.c.def_ 6 (d := g_Sums_forms) rfl
theorem t_gt_Sums_yard : ∃ fd, FnP K "yard" "Sums.yard" s_Sums_yard (prA K "Sums" "yard") fd := T.c.def_ 7 (d := g_Sums_yard) rfl
theorem t_pr_Dyadic_top : PropOf K (He.ga K "Dyadic") "top" (He.ma K (He.ga K "Dyadic") "top") (prA K "Dyadic" "top") := propB_ok (He.ba T.c.more).1
theorem t_pr_Dyadic_power : PropOf K (He.ga K "Dyadic") "power" (He.ma K (He.ga K "Dyadic") "power") (prA K "Dyadic" "power") := propB_ok (He.ba (He.ba T.c.more).2).1
theorem t_pr_Values_forms : PropOf K (He.ga K "Values") "forms" (He.ma K (He.ga K "Values") "forms") (prA K "Values" "forms") := propB_ok (He.ba (He.ba (He.ba T.c.more).2).2).1
theorem t_pr_Values_yard : PropOf K (He.ga K "Values") "yard" (He.ma K (He.ga K "Values") "yard") (prA K "Values" "yard") := propB_ok (He.ba (He.ba (He.ba (He.ba T.c.more).2).2).2).1
theorem t_pr_Order_yard : PropOf K (He.ga K "Order") "yard" (He.ma K (He.ga K "Order") "yard") (prA K "Order" "yard") := propB_ok (He.ba (He.ba (He.ba (He.ba (He.ba T.c.more).2).2).2).2).1
theorem t_pr_Forms_yard : PropOf K (He.ga K "Forms") "yard" (He.ma K (He.ga K "Forms") "yard") (prA K "Forms" "yard") := propB_ok (He.ba (He.ba (He.ba (He.ba (He.ba (He.ba T.c.more).2).2).2).2).2).1
theorem t_pr_Sums_forms : PropOf K (He.ga K "Sums") "forms" (He.ma K (He.ga K "Sums") "forms") (prA K "Sums" "forms") := propB_ok (He.ba (He.ba (He.ba (He.ba (He.ba (He.ba (He.ba T.c.more).2).2).2).2).2).2).1
theorem t_pr_Sums_yard : PropOf K (He.ga K "Sums") "yard" (He.ma K (He.ga K "Sums") "yard") (prA K "Sums" "yard") := propB_ok (He.ba (He.ba (He.ba (He.ba (He.ba (He.ba (He.ba (He.ba T.c.more).2).2).2).2).2).2).2).1
theorem t_ins_Dyadic : C8.InsC K (He.ga K "Dyadic") := insB_ok (t_cls_Dyadic T) (He.ba (He.ba (He.ba (He.ba (He.ba (He.ba (He.ba (He.ba (He.ba T.c.more).2).2).2).2).2).2).2).2).1
theorem t_SIDES (H : Hp) : SqT K H (He.ga K "SIDES") [.str "left", .str "right"] := He.tupB_ok (x := "SIDES") (vs := [.str "left", .str "right"]) (He.ba (He.ba (He.ba (He.ba (He.ba (He.ba (He.ba (He.ba (He.ba T.c.more).2).2).2).2).2).2).2).2).2 H
end
end K45
end
section
set_option autoImplicit false
namespace SG
/-! games as trees, their order, their sums -/
inductive G : Type where
  | mk (l r : List G) : G
namespace G
def left : G → List G
  | .mk l _ => l
def right : G → List G
  | .mk _ r => r
end G
theorem sz_left {g x : G} (h : x ∈ g.left) : sizeOf x < sizeOf g := by
  cases g with
  | mk l r =>
    have := List.sizeOf_lt_of_mem (show x ∈ l from h)
    simp only [G.mk.sizeOf_spec]
    omega
theorem sz_right {g x : G} (h : x ∈ g.right) : sizeOf x < sizeOf g := by
  cases g with
  | mk l r =>
    have := List.sizeOf_lt_of_mem (show x ∈ r from h)
    simp only [G.mk.sizeOf_spec]
    omega
/-- one game is at most another one -/
def Le (x y : G) : Prop := (∀ l, ∀ _h : l ∈ x.left, ¬ Le y l) ∧ (∀ r, ∀ _h : r ∈ y.right, ¬ Le r x)
termination_by sizeOf x + sizeOf y
decreasing_by
  · have := sz_left _h; omega
  · have := sz_right _h; omega
theorem le_def (x y : G) : Le x y ↔ (∀ l ∈ x.left, ¬ Le y l) ∧ (∀ r ∈ y.right, ¬ Le r x) := by
  rw [Le]
theorem le_mk {x y : G} (h1 : ∀ l ∈ x.left, ¬ Le y l) (h2 : ∀ r ∈ y.right, ¬ Le r x) : Le x y := (le_def x y).mpr ⟨h1, h2⟩
theorem le_l {x y l : G} (h : Le x y) (hl : l ∈ x.left) : ¬ Le y l := ((le_def x y).mp h).1 l hl
theorem le_r {x y r : G} (h : Le x y) (hr : r ∈ y.right) : ¬ Le r x := ((le_def x y).mp h).2 r hr
/-- not at least: a left option or a right option shows it -/
theorem not_le {x y : G} : ¬ Le x y ↔ (∃ l ∈ x.left, Le y l) ∨ (∃ r ∈ y.right, Le r x) := by
  rw [le_def]
  constructor
  · intro h
    by_cases h1 : ∃ l ∈ x.left, Le y l
    · exact .inl h1
    · by_cases h2 : ∃ r ∈ y.right, Le r x
      · exact .inr h2
      · exact absurd ⟨fun l hl q => h1 ⟨l, hl, q⟩, fun r hr q => h2 ⟨r, hr, q⟩⟩ h
  · rintro (⟨l, hl, q⟩ | ⟨r, hr, q⟩) ⟨h1, h2⟩
    · exact h1 l hl q
    · exact h2 r hr q
theorem le_refl (x : G) : Le x x := by
  refine le_mk (fun l hl q => ?_) fun r hr q => ?_
  · exact le_l q hl (le_refl l)
  · exact le_r q hr (le_refl r)
termination_by sizeOf x
decreasing_by
  · exact sz_left hl
  · exact sz_right hr
theorem le_trans_aux (n : Nat) : ∀ x y z : G, sizeOf x + sizeOf y + sizeOf z ≤ n → Le x y → Le y z → Le x z := by
  induction n with
  | zero =>
    intro x y z h
    cases x
    simp only [G.mk.sizeOf_spec] at h
    omega
  | succ n ih =>
    intro x y z h h1 h2
    refine le_mk (fun l hl q => ?_) fun r hr q => ?_
    · have := sz_left hl
      exact le_l h1 hl (ih y z l (by omega) h2 q)
    · have := sz_right hr
      exact le_r h2 hr (ih r x y (by omega) q h1)
theorem le_trans {x y z : G} (h1 : Le x y) (h2 : Le y z) : Le x z := le_trans_aux _ x y z (Nat.le_refl _) h1 h2
/-- alike -/
def Al (x y : G) : Prop := Le x y ∧ Le y x
theorem al_refl (x : G) : Al x x := ⟨le_refl x, le_refl x⟩
theorem al_symm {x y : G} (h : Al x y) : Al y x := ⟨h.2, h.1⟩
theorem al_trans {x y z : G} (h : Al x y) (k : Al y z) : Al x z := ⟨le_trans h.1 k.1, le_trans k.2 h.2⟩
theorem left_nle {g l : G} (h : l ∈ g.left) : ¬ Le g l := le_l (le_refl g) h
theorem right_nle {g r : G} (h : r ∈ g.right) : ¬ Le r g := le_r (le_refl g) h
/-- options that are alike, game by game -/
theorem al_of {x y : G} (l1 : ∀ l ∈ x.left, ∃ m ∈ y.left, Le l m) (l2 : ∀ l ∈ y.left, ∃ m ∈ x.left, Le l m)
    (r1 : ∀ r ∈ x.right, ∃ m ∈ y.right, Le m r) (r2 : ∀ r ∈ y.right, ∃ m ∈ x.right, Le m r) : Al x y := by
  refine ⟨le_mk (fun l hl q => ?_) fun r hr q => ?_, le_mk (fun l hl q => ?_) fun r hr q => ?_⟩
  · obtain ⟨m, hm, e⟩ := l1 l hl
    exact left_nle hm (le_trans q e)
  · obtain ⟨m, hm, e⟩ := r2 r hr
    exact right_nle hm (le_trans e q)
  · obtain ⟨m, hm, e⟩ := l2 l hl
    exact left_nle hm (le_trans q e)
  · obtain ⟨m, hm, e⟩ := r1 r hr
    exact right_nle hm (le_trans e q)
/-! ### sums -/
def add (x y : G) : G := .mk (x.left.attach.map (fun o => add o.1 y) ++ y.left.attach.map (fun o => add x o.1))
  (x.right.attach.map (fun o => add o.1 y) ++ y.right.attach.map (fun o => add x o.1))
termination_by sizeOf x + sizeOf y
decreasing_by
  · have := sz_left o.2; omega
  · have := sz_left o.2; omega
  · have := sz_right o.2; omega
  · have := sz_right o.2; omega
theorem add_left (x y : G) : (add x y).left = x.left.map (fun o => add o y) ++ y.left.map (fun o => add x o) := by
  rw [add]
  show _ ++ _ = _
  rw [List.attach_map_val (f := fun o => add o y), List.attach_map_val (f := fun o => add x o)]
theorem add_right (x y : G) : (add x y).right = x.right.map (fun o => add o y) ++ y.right.map (fun o => add x o) := by
  rw [add]
  show _ ++ _ = _
  rw [List.attach_map_val (f := fun o => add o y), List.attach_map_val (f := fun o => add x o)]
theorem mem_add_left {x y z : G} : z ∈ (add x y).left ↔ (∃ l ∈ x.left, z = add l y) ∨ (∃ l ∈ y.left, z = add x l) := by
  rw [add_left, List.mem_append, List.mem_map, List.mem_map]
  constructor
  · rintro (⟨l, hl, e⟩ | ⟨l, hl, e⟩)
    · exact .inl ⟨l, hl, e.symm⟩
    · exact .inr ⟨l, hl, e.symm⟩
  · rintro (⟨l, hl, e⟩ | ⟨l, hl, e⟩)
    · exact .inl ⟨l, hl, e.symm⟩
    · exact .inr ⟨l, hl, e.symm⟩
theorem mem_add_right {x y z : G} : z ∈ (add x y).right ↔ (∃ l ∈ x.right, z = add l y) ∨ (∃ l ∈ y.right, z = add x l) := by
  rw [add_right, List.mem_append, List.mem_map, List.mem_map]
  constructor
  · rintro (⟨l, hl, e⟩ | ⟨l, hl, e⟩)
    · exact .inl ⟨l, hl, e.symm⟩
    · exact .inr ⟨l, hl, e.symm⟩
  · rintro (⟨l, hl, e⟩ | ⟨l, hl, e⟩)
    · exact .inl ⟨l, hl, e.symm⟩
    · exact .inr ⟨l, hl, e.symm⟩
theorem add_le_aux (n : Nat) : ∀ x y z w : G, sizeOf x + sizeOf y + sizeOf z + sizeOf w ≤ n → Le x y → Le z w → Le (add x z) (add y w) := by
  induction n with
  | zero =>
    intro x y z w h
    cases x
    simp only [G.mk.sizeOf_spec] at h
    omega
  | succ n ih =>
    intro x y z w h h1 h2
    refine le_mk (fun l hl => ?_) fun r hr => ?_
    · rcases mem_add_left.mp hl with ⟨a, ha, rfl⟩ | ⟨a, ha, rfl⟩
      · have sa := sz_left ha
        rcases not_le.mp (le_l h1 ha) with ⟨b, hb, e⟩ | ⟨b, hb, e⟩
        · have sb := sz_left hb
          have q := ih a b z w (by omega) e h2
          exact fun k => left_nle (mem_add_left.mpr (.inl ⟨b, hb, rfl⟩)) (le_trans k q)
        · have sb := sz_right hb
          have q := ih b y z w (by omega) e h2
          exact fun k => right_nle (mem_add_right.mpr (.inl ⟨b, hb, rfl⟩)) (le_trans q k)
      · have sa := sz_left ha
        rcases not_le.mp (le_l h2 ha) with ⟨b, hb, e⟩ | ⟨b, hb, e⟩
        · have sb := sz_left hb
          have q := ih x y a b (by omega) h1 e
          exact fun k => left_nle (mem_add_left.mpr (.inr ⟨b, hb, rfl⟩)) (le_trans k q)
        · have sb := sz_right hb
          have q := ih x y b w (by omega) h1 e
          exact fun k => right_nle (mem_add_right.mpr (.inr ⟨b, hb, rfl⟩)) (le_trans q k)
    · rcases mem_add_right.mp hr with ⟨a, ha, rfl⟩ | ⟨a, ha, rfl⟩
      · have sa := sz_right ha
        rcases not_le.mp (le_r h1 ha) with ⟨b, hb, e⟩ | ⟨b, hb, e⟩
        · have sb := sz_left hb
          have q := ih x b z w (by omega) e h2
          exact fun k => left_nle (mem_add_left.mpr (.inl ⟨b, hb, rfl⟩)) (le_trans k q)
        · have sb := sz_right hb
          have q := ih b a z w (by omega) e h2
          exact fun k => right_nle (mem_add_right.mpr (.inl ⟨b, hb, rfl⟩)) (le_trans q k)
      · have sa := sz_right ha
        rcases not_le.mp (le_r h2 ha) with ⟨b, hb, e⟩ | ⟨b, hb, e⟩
        · have sb := sz_left hb
          have q := ih x y z b (by omega) h1 e
          exact fun k => left_nle (mem_add_left.mpr (.inr ⟨b, hb, rfl⟩)) (le_trans k q)
        · have sb := sz_right hb
          have q := ih x y b a (by omega) h1 e
          exact fun k => right_nle (mem_add_right.mpr (.inr ⟨b, hb, rfl⟩)) (le_trans q k)
theorem add_le {x y z w : G} (h1 : Le x y) (h2 : Le z w) : Le (add x z) (add y w) := add_le_aux _ x y z w (Nat.le_refl _) h1 h2
theorem add_al {x y z w : G} (h1 : Al x y) (h2 : Al z w) : Al (add x z) (add y w) := ⟨add_le h1.1 h2.1, add_le h1.2 h2.2⟩
/-- x <| y and z <= w: x + z <| y + w -/
theorem add_nle {x y z w : G} (h1 : ¬ Le y x) (h2 : Le z w) : ¬ Le (add y w) (add x z) := by
  rcases not_le.mp h1 with ⟨b, hb, e⟩ | ⟨b, hb, e⟩
  · exact fun k => left_nle (mem_add_left.mpr (.inl ⟨b, hb, rfl⟩)) (le_trans k (add_le e h2))
  · exact fun k => right_nle (mem_add_right.mpr (.inl ⟨b, hb, rfl⟩)) (le_trans (add_le e h2) k)
theorem add_nle2 {x y z w : G} (h1 : Le x y) (h2 : ¬ Le w z) : ¬ Le (add y w) (add x z) := by
  rcases not_le.mp h2 with ⟨b, hb, e⟩ | ⟨b, hb, e⟩
  · exact fun k => left_nle (mem_add_left.mpr (.inr ⟨b, hb, rfl⟩)) (le_trans k (add_le h1 e))
  · exact fun k => right_nle (mem_add_right.mpr (.inr ⟨b, hb, rfl⟩)) (le_trans (add_le h1 e) k)
theorem add_comm_aux (n : Nat) : ∀ x y : G, sizeOf x + sizeOf y ≤ n → Al (add x y) (add y x) := by
  induction n with
  | zero =>
    intro x y h
    cases x
    simp only [G.mk.sizeOf_spec] at h
    omega
  | succ n ih =>
    intro x y h
    refine al_of (fun l hl => ?_) (fun l hl => ?_) (fun l hl => ?_) (fun l hl => ?_)
    · rcases mem_add_left.mp hl with ⟨a, ha, rfl⟩ | ⟨a, ha, rfl⟩
      · have := sz_left ha; exact ⟨_, mem_add_left.mpr (.inr ⟨a, ha, rfl⟩), (ih a y (by omega)).1⟩
      · have := sz_left ha; exact ⟨_, mem_add_left.mpr (.inl ⟨a, ha, rfl⟩), (ih x a (by omega)).1⟩
    · rcases mem_add_left.mp hl with ⟨a, ha, rfl⟩ | ⟨a, ha, rfl⟩
      · have := sz_left ha; exact ⟨_, mem_add_left.mpr (.inr ⟨a, ha, rfl⟩), (ih a x (by omega)).1⟩
      · have := sz_left ha; exact ⟨_, mem_add_left.mpr (.inl ⟨a, ha, rfl⟩), (ih y a (by omega)).1⟩
    · rcases mem_add_right.mp hl with ⟨a, ha, rfl⟩ | ⟨a, ha, rfl⟩
      · have := sz_right ha; exact ⟨_, mem_add_right.mpr (.inr ⟨a, ha, rfl⟩), (ih a y (by omega)).2⟩
      · have := sz_right ha; exact ⟨_, mem_add_right.mpr (.inl ⟨a, ha, rfl⟩), (ih x a (by omega)).2⟩
    · rcases mem_add_right.mp hl with ⟨a, ha, rfl⟩ | ⟨a, ha, rfl⟩
      · have := sz_right ha; exact ⟨_, mem_add_right.mpr (.inr ⟨a, ha, rfl⟩), (ih a x (by omega)).2⟩
      · have := sz_right ha; exact ⟨_, mem_add_right.mpr (.inl ⟨a, ha, rfl⟩), (ih y a (by omega)).2⟩
theorem add_comm (x y : G) : Al (add x y) (add y x) := add_comm_aux _ x y (Nat.le_refl _)
/-! ### heights -/
def maxl : List Nat → Nat
  | [] => 0
  | a :: r => max a (maxl r)
theorem maxl_ge {l : List Nat} {a : Nat} (h : a ∈ l) : a ≤ maxl l := by
  induction l with
  | nil => cases h
  | cons b r ih =>
    show a ≤ max b (maxl r)
    rcases List.mem_cons.mp h with rfl | h
    · omega
    · have := ih h; omega
theorem maxl_le {l : List Nat} {n : Nat} (h : ∀ a ∈ l, a ≤ n) : maxl l ≤ n := by
  induction l with
  | nil => exact Nat.zero_le _
  | cons b r ih =>
    have h1 := h b (List.mem_cons_self ..)
    have h2 := ih fun a ha => h a (List.mem_cons_of_mem _ ha)
    show max b (maxl r) ≤ n
    omega
def ht (g : G) : Nat := max (maxl (g.left.attach.map fun o => 1 + ht o.1)) (maxl (g.right.attach.map fun o => 1 + ht o.1))
termination_by sizeOf g
decreasing_by
  · exact sz_left o.2
  · exact sz_right o.2
theorem ht_eq (g : G) : ht g = max (maxl (g.left.map fun o => 1 + ht o)) (maxl (g.right.map fun o => 1 + ht o)) := by
  rw [ht, List.attach_map_val (f := fun o => 1 + ht o), List.attach_map_val (f := fun o => 1 + ht o)]
theorem ht_left {g x : G} (h : x ∈ g.left) : ht x < ht g := by
  have := maxl_ge (List.mem_map.mpr ⟨x, h, rfl⟩ : 1 + ht x ∈ g.left.map fun o => 1 + ht o)
  rw [ht_eq g]
  omega
theorem ht_right {g x : G} (h : x ∈ g.right) : ht x < ht g := by
  have := maxl_ge (List.mem_map.mpr ⟨x, h, rfl⟩ : 1 + ht x ∈ g.right.map fun o => 1 + ht o)
  rw [ht_eq g]
  omega
theorem ht_le {g : G} {n : Nat} (h1 : ∀ x ∈ g.left, ht x < n) (h2 : ∀ x ∈ g.right, ht x < n) : ht g ≤ n := by
  rw [ht_eq]
  have a : maxl (g.left.map fun o => 1 + ht o) ≤ n := maxl_le fun a ha => by
    obtain ⟨x, hx, rfl⟩ := List.mem_map.mp ha
    have := h1 x hx
    omega
  have b : maxl (g.right.map fun o => 1 + ht o) ≤ n := maxl_le fun a ha => by
    obtain ⟨x, hx, rfl⟩ := List.mem_map.mp ha
    have := h2 x hx
    omega
  omega
end SG
end
section
set_option autoImplicit false
namespace SG
/-! the forms of dyadics: form p t is the game of t / 2 ^ p -/
def formN : Nat → G
  | 0 => .mk [] []
  | n + 1 => .mk [formN n] []
def formM : Nat → G
  | 0 => .mk [] []
  | n + 1 => .mk [] [formM n]
def form : Nat → Int → G
  | 0, .ofNat n => formN n
  | 0, .negSucc n => formM (n + 1)
  | p + 1, t => if t % 2 = 0 then form p (t / 2) else .mk [form p ((t - 1) / 2)] [form p ((t + 1) / 2)]
theorem form0_pos {t : Int} (h : 0 < t) : form 0 t = .mk [form 0 (t - 1)] [] := by
  obtain ⟨n, rfl⟩ : ∃ n : Nat, t = ((n + 1 : Nat) : Int) := ⟨t.toNat - 1, by omega⟩
  have e : ((n + 1 : Nat) : Int) - 1 = ((n : Nat) : Int) := by omega
  rw [e]
  rfl
theorem form0_zero : form 0 0 = .mk [] [] := rfl
theorem form0_neg {t : Int} (h : t < 0) : form 0 t = .mk [] [form 0 (t + 1)] := by
  obtain ⟨n, rfl⟩ : ∃ n : Nat, t = Int.negSucc n := ⟨(-t - 1).toNat, by omega⟩
  cases n with
  | zero => rfl
  | succ n => rfl
theorem form_even (p : Nat) (a : Int) : form (p + 1) (2 * a) = form p a := by
  rw [form, if_pos (by omega), show 2 * a / 2 = a by omega]
theorem form_odd (p : Nat) (a : Int) : form (p + 1) (2 * a + 1) = .mk [form p a] [form p (a + 1)] := by
  rw [form, if_neg (by omega), show (2 * a + 1 - 1) / 2 = a by omega, show (2 * a + 1 + 1) / 2 = a + 1 by omega]
theorem parity (t : Int) : ∃ a, t = 2 * a ∨ t = 2 * a + 1 := ⟨t / 2, by omega⟩
theorem form_shift (p k : Nat) (a : Int) : form (p + k) (2 ^ k * a) = form p a := by
  induction k with
  | zero => simp
  | succ k ih =>
    have e : (2 : Int) ^ (k + 1) * a = 2 * (2 ^ k * a) := by rw [Int.pow_succ, Int.mul_assoc, Int.mul_comm (2 ^ k), Int.mul_assoc, Int.mul_comm a]
    rw [e]
    exact (form_even (p + k) _).trans ih
theorem form_shift' {p q : Nat} (h : p ≤ q) (a : Int) : form q (2 ^ (q - p) * a) = form p a := by
  have := form_shift p (q - p) a
  rw [show p + (q - p) = q by omega] at this
  exact this
/-- the options of a form are forms below and above it -/
theorem form_opts (p : Nat) : ∀ t : Int, (∀ l ∈ (form p t).left, ∃ c, c < t ∧ l = form p c) ∧ (∀ r ∈ (form p t).right, ∃ c, t < c ∧ r = form p c) := by
  induction p with
  | zero =>
    intro t
    rcases Int.lt_trichotomy t 0 with h | h | h
    · rw [form0_neg h]
      refine ⟨fun l hl => (by cases hl), fun r hr => ?_⟩
      exact ⟨t + 1, by omega, List.mem_singleton.mp hr⟩
    · rw [h]
      exact ⟨fun l hl => (by cases hl), fun l hl => (by cases hl)⟩
    · rw [form0_pos h]
      refine ⟨fun r hr => ?_, fun l hl => (by cases hl)⟩
      exact ⟨t - 1, by omega, List.mem_singleton.mp hr⟩
  | succ p ih =>
    intro t
    obtain ⟨a, rfl | rfl⟩ := parity t
    · rw [form_even]
      refine ⟨fun l hl => ?_, fun r hr => ?_⟩
      · obtain ⟨c, h, rfl⟩ := (ih a).1 l hl
        exact ⟨2 * c, by omega, (form_even p c).symm⟩
      · obtain ⟨c, h, rfl⟩ := (ih a).2 r hr
        exact ⟨2 * c, by omega, (form_even p c).symm⟩
    · rw [form_odd]
      refine ⟨fun l hl => ?_, fun r hr => ?_⟩
      · refine ⟨2 * a, by omega, ?_⟩
        rw [form_even]
        exact List.mem_singleton.mp hl
      · refine ⟨2 * (a + 1), by omega, ?_⟩
        rw [form_even]
        exact List.mem_singleton.mp hr
/-- from neighbours to all -/
theorem chain_le {f : Int → G} (h : ∀ t, Le (f t) (f (t + 1))) : ∀ (n : Nat) (t : Int), Le (f t) (f (t + n))
  | 0, t => by
    rw [show t + ((0 : Nat) : Int) = t by omega]
    exact le_refl _
  | n + 1, t => by
    have := le_trans (chain_le h n t) (h (t + n))
    rw [show t + ((n + 1 : Nat) : Int) = t + n + 1 by omega]
    exact this
theorem chain_le' {f : Int → G} (h : ∀ t, Le (f t) (f (t + 1))) {t s : Int} (hs : t ≤ s) : Le (f t) (f s) := by
  have := chain_le h (s - t).toNat t
  rw [show t + ((s - t).toNat : Int) = s by omega] at this
  exact this
theorem form_next0 (n : Nat) : (Le (form 0 n) (form 0 (n + 1)) ∧ ¬ Le (form 0 (n + 1)) (form 0 n)) ∧ (Le (form 0 (-(n : Int) - 1)) (form 0 (-(n : Int))) ∧ ¬ Le (form 0 (-(n : Int))) (form 0 (-(n : Int) - 1))) := by
  induction n with
  | zero =>
    have e1 := form0_pos (t := 1) (by omega)
    have e2 := form0_neg (t := -1) (by omega)
    refine ⟨⟨le_mk (fun l hl => (by cases hl)) (fun r hr => ?_), ?_⟩, ⟨le_mk (fun l hl => ?_) (fun r hr => (by cases hr)), ?_⟩⟩
    · rw [show ((0 : Nat) : Int) + 1 = 1 from rfl, e1] at hr
      cases hr
    · refine left_nle ?_
      rw [show ((0 : Nat) : Int) + 1 = 1 from rfl, e1]
      exact List.mem_cons_self ..
    · rw [show -((0 : Nat) : Int) - 1 = -1 from rfl, e2] at hl
      cases hl
    · refine right_nle ?_
      rw [show -((0 : Nat) : Int) - 1 = -1 from rfl, e2]
      exact List.mem_cons_self ..
  | succ n ih =>
    obtain ⟨⟨i1, i2⟩, i3, i4⟩ := ih
    have e1 := form0_pos (t := ((n + 1 : Nat) : Int) + 1) (by omega)
    have e2 := form0_pos (t := ((n + 1 : Nat) : Int)) (by omega)
    have e3 := form0_neg (t := -((n + 1 : Nat) : Int) - 1) (by omega)
    have e4 := form0_neg (t := -((n + 1 : Nat) : Int)) (by omega)
    rw [show ((n + 1 : Nat) : Int) + 1 - 1 = ((n + 1 : Nat) : Int) by omega] at e1
    rw [show ((n + 1 : Nat) : Int) - 1 = (n : Int) by omega] at e2
    rw [show -((n + 1 : Nat) : Int) - 1 + 1 = -((n + 1 : Nat) : Int) by omega] at e3
    rw [show -((n + 1 : Nat) : Int) + 1 = -(n : Int) by omega] at e4
    rw [show (n : Int) + 1 = ((n + 1 : Nat) : Int) by omega] at i1 i2
    rw [show -(n : Int) - 1 = -((n + 1 : Nat) : Int) by omega] at i3 i4
    have k1 : ¬ Le (form 0 (((n + 1 : Nat) : Int) + 1)) (form 0 ((n + 1 : Nat) : Int)) := left_nle (by rw [e1]; exact List.mem_cons_self ..)
    have k2 : ¬ Le (form 0 (-((n + 1 : Nat) : Int))) (form 0 (-((n + 1 : Nat) : Int) - 1)) := right_nle (by rw [e3]; exact List.mem_cons_self ..)
    refine ⟨⟨le_mk (fun l hl q => ?_) (fun r hr => ?_), k1⟩, ⟨le_mk (fun l hl => ?_) (fun r hr q => ?_), k2⟩⟩
    · rw [e2] at hl
      rw [List.mem_singleton.mp hl] at q
      exact k1 (le_trans q i1)
    · rw [e1] at hr
      cases hr
    · rw [e3] at hl
      cases hl
    · rw [e4] at hr
      rw [List.mem_singleton.mp hr] at q
      exact k2 (le_trans i3 q)
theorem form_next (p : Nat) : ∀ t : Int, Le (form p t) (form p (t + 1)) ∧ ¬ Le (form p (t + 1)) (form p t) := by
  induction p with
  | zero =>
    intro t
    by_cases h : 0 ≤ t
    · have := (form_next0 t.toNat).1
      rw [show ((t.toNat : Nat) : Int) = t by omega] at this
      exact this
    · have := (form_next0 (-(t + 1)).toNat).2
      rw [show -(((-(t + 1)).toNat : Nat) : Int) = t + 1 by omega, show t + 1 - 1 = t by omega] at this
      exact this
  | succ p ih =>
    intro t
    have le' : ∀ {a b : Int}, a ≤ b → Le (form p a) (form p b) := fun h => chain_le' (fun t => (ih t).1) h
    obtain ⟨a, rfl | rfl⟩ := parity t
    · rw [form_even, form_odd]
      have k : ¬ Le (.mk [form p a] [form p (a + 1)]) (form p a) := left_nle (List.mem_cons_self ..)
      refine ⟨le_mk (fun l hl q => ?_) (fun r hr q => ?_), k⟩
      · obtain ⟨c, h, rfl⟩ := (form_opts p a).1 l hl
        exact k (le_trans q (le' (by omega)))
      · rw [List.mem_singleton.mp hr] at q
        exact (ih a).2 q
    · rw [form_odd, show 2 * a + 1 + 1 = 2 * (a + 1) by omega, form_even]
      have k : ¬ Le (form p (a + 1)) (.mk [form p a] [form p (a + 1)]) := right_nle (List.mem_cons_self ..)
      refine ⟨le_mk (fun l hl q => ?_) (fun r hr q => ?_), k⟩
      · rw [List.mem_singleton.mp hl] at q
        exact (ih a).2 q
      · obtain ⟨c, h, rfl⟩ := (form_opts p (a + 1)).2 r hr
        exact k (le_trans (le' (by omega)) q)
theorem form_le {p : Nat} {t s : Int} : Le (form p t) (form p s) ↔ t ≤ s := by
  constructor
  · intro h
    by_cases q : t ≤ s
    · exact q
    · have h1 : Le (form p (s + 1)) (form p t) := chain_le' (fun t => (form_next p t).1) (by omega)
      exact absurd (le_trans h1 h) (form_next p s).2
  · exact fun h => chain_le' (fun t => (form_next p t).1) h
theorem form_inj {p : Nat} {t s : Int} (h : Al (form p t) (form p s)) : t = s := by
  have := form_le.mp h.1
  have := form_le.mp h.2
  omega
/-- an answer to an option of a form lies on the other side of it -/
theorem form_back (p : Nat) : ∀ t : Int, (∀ l ∈ (form p t).left, ∀ r ∈ l.right, ¬ Le r (form p t)) ∧ (∀ r ∈ (form p t).right, ∀ l ∈ r.left, ¬ Le (form p t) l) := by
  induction p with
  | zero =>
    intro t
    rcases Int.lt_trichotomy t 0 with h | h | h
    · rw [form0_neg h]
      refine ⟨fun l hl => (by cases hl), fun r hr l hl => ?_⟩
      rw [List.mem_singleton.mp hr] at hl
      by_cases q : t + 1 < 0
      · rw [form0_neg q] at hl
        cases hl
      · rw [show t + 1 = 0 by omega] at hl
        cases hl
    · rw [h]
      exact ⟨fun l hl => (by cases hl), fun l hl => (by cases hl)⟩
    · rw [form0_pos h]
      refine ⟨fun r hr l hl => ?_, fun l hl => (by cases hl)⟩
      rw [List.mem_singleton.mp hr] at hl
      by_cases q : 0 < t - 1
      · rw [form0_pos q] at hl
        cases hl
      · rw [show t - 1 = 0 by omega] at hl
        cases hl
  | succ p ih =>
    intro t
    obtain ⟨a, rfl | rfl⟩ := parity t
    · rw [form_even]
      exact ih a
    · refine ⟨fun l hl r hr q => ?_, fun r hr l hl q => ?_⟩
      · rw [form_odd] at hl
        rw [List.mem_singleton.mp hl] at hr
        obtain ⟨c, h, rfl⟩ := (form_opts p a).2 r hr
        rw [← form_even p c] at q
        have := form_le.mp q
        omega
      · rw [form_odd] at hr
        rw [List.mem_singleton.mp hr] at hl
        obtain ⟨c, h, rfl⟩ := (form_opts p (a + 1)).1 l hl
        rw [← form_even p c] at q
        have := form_le.mp q
        omega
/-! ### sums of forms -/
/-- where a form lies: if the sum has an option on a side, a summand has the neighbour as an option there -/
def Rich (p : Nat) (a b : Int) : Prop :=
  ((form p (a + b)).right ≠ [] → form p (a + 1) ∈ (form p a).right ∨ form p (b + 1) ∈ (form p b).right) ∧
  ((form p (a + b)).left ≠ [] → form p (a - 1) ∈ (form p a).left ∨ form p (b - 1) ∈ (form p b).left)
theorem rich0 (a b : Int) : Rich 0 a b := by
  constructor
  · intro h
    have hn : a + b < 0 := by
      rcases Int.lt_trichotomy (a + b) 0 with q | q | q
      · exact q
      · rw [q] at h
        exact absurd rfl h
      · rw [form0_pos q] at h
        exact absurd rfl h
    by_cases ha : a < 0
    · left
      rw [form0_neg ha]
      exact List.mem_cons_self ..
    · right
      rw [form0_neg (show b < 0 by omega)]
      exact List.mem_cons_self ..
  · intro h
    have hn : 0 < a + b := by
      rcases Int.lt_trichotomy (a + b) 0 with q | q | q
      · rw [form0_neg q] at h
        exact absurd rfl h
      · rw [q] at h
        exact absurd rfl h
      · exact q
    by_cases ha : 0 < a
    · left
      rw [form0_pos ha]
      exact List.mem_cons_self ..
    · right
      rw [form0_pos (show 0 < b by omega)]
      exact List.mem_cons_self ..
theorem rich_odd {p : Nat} {a : Int} (b : Int) (h : a % 2 = 1) : Rich (p + 1) a b := by
  obtain ⟨c, rfl⟩ : ∃ c, a = 2 * c + 1 := ⟨a / 2, by omega⟩
  constructor
  · intro _
    left
    rw [form_odd, show 2 * c + 1 + 1 = 2 * (c + 1) by omega, form_even]
    exact List.mem_cons_self ..
  · intro _
    left
    rw [form_odd, show 2 * c + 1 - 1 = 2 * c by omega, form_even]
    exact List.mem_cons_self ..
theorem rich_symm {p : Nat} {a b : Int} (h : Rich p b a) : Rich p a b := by
  refine ⟨fun q => ?_, fun q => ?_⟩
  · rw [Int.add_comm] at q
    exact (h.1 q).elim .inr .inl
  · rw [Int.add_comm] at q
    exact (h.2 q).elim .inr .inl
theorem add_form_core {p : Nat} {a b : Int} (R : Rich p a b)
    (i1 : ∀ c, form p c ∈ (form p a).left ∨ form p c ∈ (form p a).right → Al (add (form p c) (form p b)) (form p (c + b)))
    (i2 : ∀ c, form p c ∈ (form p b).left ∨ form p c ∈ (form p b).right → Al (add (form p a) (form p c)) (form p (a + c))) : Al (add (form p a) (form p b)) (form p (a + b)) := by
  refine ⟨le_mk (fun l hl q => ?_) (fun r hr q => ?_), le_mk (fun l hl q => ?_) (fun r hr q => ?_)⟩
  · rcases mem_add_left.mp hl with ⟨o, ho, rfl⟩ | ⟨o, ho, rfl⟩
    · obtain ⟨c, h, rfl⟩ := (form_opts p a).1 o ho
      have := form_le.mp (le_trans q (i1 c (.inl ho)).1)
      omega
    · obtain ⟨c, h, rfl⟩ := (form_opts p b).1 o ho
      have := form_le.mp (le_trans q (i2 c (.inl ho)).1)
      omega
  · obtain ⟨c, h, rfl⟩ := (form_opts p (a + b)).2 r hr
    rcases R.1 (List.ne_nil_of_mem hr) with m | m
    · have k := (i1 (a + 1) (.inr m)).1
      have k2 : Le (form p (a + 1 + b)) (form p c) := form_le.mpr (by omega)
      exact right_nle (mem_add_right.mpr (.inl ⟨_, m, rfl⟩)) (le_trans k (le_trans k2 q))
    · have k := (i2 (b + 1) (.inr m)).1
      have k2 : Le (form p (a + (b + 1))) (form p c) := form_le.mpr (by omega)
      exact right_nle (mem_add_right.mpr (.inr ⟨_, m, rfl⟩)) (le_trans k (le_trans k2 q))
  · obtain ⟨c, h, rfl⟩ := (form_opts p (a + b)).1 l hl
    rcases R.2 (List.ne_nil_of_mem hl) with m | m
    · have k := (i1 (a - 1) (.inl m)).2
      have k2 : Le (form p c) (form p (a - 1 + b)) := form_le.mpr (by omega)
      exact left_nle (mem_add_left.mpr (.inl ⟨_, m, rfl⟩)) (le_trans q (le_trans k2 k))
    · have k := (i2 (b - 1) (.inl m)).2
      have k2 : Le (form p c) (form p (a + (b - 1))) := form_le.mpr (by omega)
      exact left_nle (mem_add_left.mpr (.inr ⟨_, m, rfl⟩)) (le_trans q (le_trans k2 k))
  · rcases mem_add_right.mp hr with ⟨o, ho, rfl⟩ | ⟨o, ho, rfl⟩
    · obtain ⟨c, h, rfl⟩ := (form_opts p a).2 o ho
      have := form_le.mp (le_trans (i1 c (.inr ho)).2 q)
      omega
    · obtain ⟨c, h, rfl⟩ := (form_opts p b).2 o ho
      have := form_le.mp (le_trans (i2 c (.inr ho)).2 q)
      omega
theorem add_form_aux {p : Nat} (hR : ∀ a b, Rich p a b ∨ Al (add (form p a) (form p b)) (form p (a + b))) (n : Nat) :
    ∀ a b, sizeOf (form p a) + sizeOf (form p b) ≤ n → Al (add (form p a) (form p b)) (form p (a + b)) := by
  induction n with
  | zero =>
    intro a b h
    cases e : form p a with
    | mk l r =>
      rw [e] at h
      simp only [G.mk.sizeOf_spec] at h
      omega
  | succ n ih =>
    intro a b h
    rcases hR a b with R | d
    · refine add_form_core R (fun c hc => ih c b ?_) (fun c hc => ih a c ?_)
      · rcases hc with hc | hc
        · have := sz_left hc; omega
        · have := sz_right hc; omega
      · rcases hc with hc | hc
        · have := sz_left hc; omega
        · have := sz_right hc; omega
    · exact d
theorem add_form (p : Nat) : ∀ a b : Int, Al (add (form p a) (form p b)) (form p (a + b)) := by
  induction p with
  | zero => exact fun a b => add_form_aux (fun a b => .inl (rich0 a b)) _ a b (Nat.le_refl _)
  | succ p ih =>
    refine fun a b => add_form_aux (fun a b => ?_) _ a b (Nat.le_refl _)
    by_cases ha : a % 2 = 1
    · exact .inl (rich_odd b ha)
    · by_cases hb : b % 2 = 1
      · exact .inl (rich_symm (rich_odd a hb))
      · right
        obtain ⟨c, rfl⟩ : ∃ c, a = 2 * c := ⟨a / 2, by omega⟩
        obtain ⟨d, rfl⟩ : ∃ d, b = 2 * d := ⟨b / 2, by omega⟩
        rw [← Int.mul_add, form_even, form_even, form_even]
        exact ih c d
/-! ### the simplicity theorem -/
theorem simplicity {p : Nat} {g : G} (n : Nat) : ∀ t : Int, sizeOf (form p t) ≤ n → (∀ l ∈ g.left, ¬ Le (form p t) l) → (∀ r ∈ g.right, ¬ Le r (form p t)) → ∃ s, Al g (form p s) := by
  induction n with
  | zero =>
    intro t h
    cases e : form p t with
    | mk l r =>
      rw [e] at h
      simp only [G.mk.sizeOf_spec] at h
      omega
  | succ n ih =>
    intro t h hl hr
    by_cases c1 : ∃ x ∈ (form p t).right, (∀ l ∈ g.left, ¬ Le x l) ∧ (∀ r ∈ g.right, ¬ Le r x)
    · obtain ⟨x, hx, k1, k2⟩ := c1
      have := sz_right hx
      obtain ⟨c, _, rfl⟩ := (form_opts p t).2 x hx
      exact ih c (by omega) k1 k2
    · by_cases c2 : ∃ x ∈ (form p t).left, (∀ l ∈ g.left, ¬ Le x l) ∧ (∀ r ∈ g.right, ¬ Le r x)
      · obtain ⟨x, hx, k1, k2⟩ := c2
        have := sz_left hx
        obtain ⟨c, _, rfl⟩ := (form_opts p t).1 x hx
        exact ih c (by omega) k1 k2
      · refine ⟨t, le_mk hl (fun x hx q => ?_), le_mk (fun x hx q => ?_) hr⟩
        · obtain ⟨c, lt, rfl⟩ := (form_opts p t).2 x hx
          have up : Le (form p t) (form p c) := form_le.mpr (by omega)
          refine c1 ⟨_, hx, fun l hl' q' => hl l hl' (le_trans up q'), fun r hr' q' => ?_⟩
          exact right_nle hr' (le_trans q' q)
        · obtain ⟨c, lt, rfl⟩ := (form_opts p t).1 x hx
          have up : Le (form p c) (form p t) := form_le.mpr (by omega)
          refine c2 ⟨_, hx, fun l hl' q' => ?_, fun r hr' q' => hr r hr' (le_trans q' up)⟩
          exact left_nle hl' (le_trans q q')
/-- the simplest number between the options, told by its own options -/
theorem simplest_al {p : Nat} {g : G} {t : Int} (hl : ∀ l ∈ g.left, ¬ Le (form p t) l) (hr : ∀ r ∈ g.right, ¬ Le r (form p t))
    (kl : ∀ x ∈ (form p t).left, ∃ l ∈ g.left, Le x l) (kr : ∀ x ∈ (form p t).right, ∃ r ∈ g.right, Le r x) : Al g (form p t) := by
  refine ⟨le_mk hl (fun x hx q => ?_), le_mk (fun x hx q => ?_) hr⟩
  · obtain ⟨r, hr', e⟩ := kr x hx
    exact right_nle hr' (le_trans e q)
  · obtain ⟨l, hl', e⟩ := kl x hx
    exact left_nle hl' (le_trans q e)
/-! ### a game lies between the integers of its height -/
theorem le_ht (h : Nat) : ∀ g : G, ht g ≤ h → Le g (form 0 h) ∧ Le (form 0 (-(h : Int))) g := by
  induction h with
  | zero =>
    intro g hg
    refine ⟨le_mk (fun l hl => ?_) (fun r hr => (by cases hr)), le_mk (fun l hl => (by cases hl)) (fun r hr => ?_)⟩
    · have := ht_left hl; omega
    · have := ht_right hr; omega
  | succ h ih =>
    intro g hg
    refine ⟨le_mk (fun l hl q => ?_) (fun r hr => ?_), le_mk (fun l hl => ?_) (fun r hr q => ?_)⟩
    · have := ht_left hl
      have := form_le.mp (le_trans q (ih l (by omega)).1)
      omega
    · rw [form0_pos (by omega)] at hr
      cases hr
    · rw [form0_neg (by omega)] at hl
      cases hl
    · have := ht_right hr
      have := form_le.mp (le_trans (ih r (by omega)).2 q)
      omega
theorem le_htp (p : Nat) {h : Nat} {g : G} (hg : ht g ≤ h) : Le g (form p (2 ^ p * (h : Int))) ∧ Le (form p (-(2 ^ p * (h : Int)))) g := by
  have e1 := form_shift 0 p (h : Int)
  have e2 := form_shift 0 p (-(h : Int))
  rw [Nat.zero_add] at e1 e2
  rw [← Int.mul_neg, e1, e2]
  exact le_ht h g hg
end SG
end
section
set_option autoImplicit false
namespace SG
/-! numbers, how fine they are, stops -/
/-- no threshold of g against numbers lies within an interval of 2 ^ k -/
def Gran (p k : Nat) (g : G) : Prop := ∀ a b j : Int, 2 ^ k * j < a → a < 2 ^ k * (j + 1) → 2 ^ k * j < b → b < 2 ^ k * (j + 1) →
  (Le (form p a) g → Le (form p b) g) ∧ (Le g (form p a) → Le g (form p b))
theorem pow_pos2 (k : Nat) : (0 : Int) < 2 ^ k := Int.pow_pos (by decide)
/-- the middle of such an interval -/
theorem mid_opts {p k : Nat} (h : k + 1 ≤ p) (j : Int) : form p (2 ^ k * (2 * j + 1)) = .mk [form p (2 ^ (k + 1) * j)] [form p (2 ^ (k + 1) * (j + 1))] := by
  have e1 := form_shift' (p := p - k) (q := p) (by omega) (2 * j + 1)
  have e2 := form_shift' (p := p - (k + 1)) (q := p) (by omega) j
  have e3 := form_shift' (p := p - (k + 1)) (q := p) (by omega) (j + 1)
  rw [show p - (p - k) = k by omega] at e1
  rw [show p - (p - (k + 1)) = k + 1 by omega] at e2 e3
  rw [e1, e2, e3, show p - k = (p - (k + 1)) + 1 by omega, form_odd]
theorem pow_split (k : Nat) (j : Int) : 2 ^ (k + 1) * j = 2 * (2 ^ k * j) := by
  rw [Int.pow_succ, Int.mul_assoc, Int.mul_comm (2 ^ k), Int.mul_assoc, Int.mul_comm j]
/-- an interval lies in the twice as long one -/
theorem gran_wide {p k : Nat} {g : G} (h : Gran p (k + 1) g) : Gran p k g := by
  intro a b j h1 h2 h3 h4
  obtain ⟨i, rfl | rfl⟩ := parity j
  · have e : 2 ^ k * (2 * i) = 2 ^ (k + 1) * i := by rw [pow_split, Int.mul_left_comm]
    have e2 : 2 ^ k * (2 * i + 1) = 2 ^ (k + 1) * i + 2 ^ k := by rw [Int.mul_add, e, Int.mul_one]
    have e3 : (2 : Int) ^ (k + 1) * (i + 1) = 2 ^ (k + 1) * i + 2 * 2 ^ k := by rw [Int.mul_add, Int.mul_one, Int.pow_succ, Int.mul_comm (2 ^ k) 2]
    have := pow_pos2 k
    exact h a b i (by omega) (by omega) (by omega) (by omega)
  · have e : 2 ^ k * (2 * i) = 2 ^ (k + 1) * i := by rw [pow_split, Int.mul_left_comm]
    have e2 : 2 ^ k * (2 * i + 1) = 2 ^ (k + 1) * i + 2 ^ k := by rw [Int.mul_add, e, Int.mul_one]
    have e4 : 2 ^ k * (2 * i + 1 + 1) = 2 ^ (k + 1) * i + 2 * 2 ^ k := by rw [Int.mul_add, e2]; omega
    have e3 : (2 : Int) ^ (k + 1) * (i + 1) = 2 ^ (k + 1) * i + 2 * 2 ^ k := by rw [Int.mul_add, Int.mul_one, Int.pow_succ, Int.mul_comm (2 ^ k) 2]
    have := pow_pos2 k
    exact h a b i (by omega) (by omega) (by omega) (by omega)
section
variable {p k : Nat} {g : G} {j : Int}
/-- from any place of the interval to its middle -/
theorem to_mid (hk : k + 1 ≤ p) (hr : ∀ r ∈ g.right, Gran p (k + 1) r) {a : Int} (h1 : 2 ^ (k + 1) * j < a) (h2 : a < 2 ^ (k + 1) * (j + 1)) (h : Le (form p a) g) : Le (form p (2 ^ k * (2 * j + 1))) g := by
  have e2 : 2 ^ k * (2 * j + 1) = 2 ^ (k + 1) * j + 2 ^ k := by rw [Int.mul_add, pow_split, Int.mul_left_comm, Int.mul_one]
  have e3 : (2 : Int) ^ (k + 1) * (j + 1) = 2 ^ (k + 1) * j + 2 * 2 ^ k := by rw [Int.mul_add, Int.mul_one, Int.pow_succ, Int.mul_comm (2 ^ k) 2]
  have pp := pow_pos2 k
  refine le_mk (fun l hl q => ?_) (fun r hr' q => ?_)
  · rw [mid_opts hk] at hl
    rw [List.mem_singleton.mp hl] at q
    have := form_le.mp (le_trans h q)
    omega
  · exact le_r h hr' ((hr r hr' (2 ^ k * (2 * j + 1)) a j (by omega) (by omega) h1 h2).2 q)
theorem to_mid' (hk : k + 1 ≤ p) (hr : ∀ r ∈ g.left, Gran p (k + 1) r) {a : Int} (h1 : 2 ^ (k + 1) * j < a) (h2 : a < 2 ^ (k + 1) * (j + 1)) (h : Le g (form p a)) : Le g (form p (2 ^ k * (2 * j + 1))) := by
  have e2 : 2 ^ k * (2 * j + 1) = 2 ^ (k + 1) * j + 2 ^ k := by rw [Int.mul_add, pow_split, Int.mul_left_comm, Int.mul_one]
  have e3 : (2 : Int) ^ (k + 1) * (j + 1) = 2 ^ (k + 1) * j + 2 * 2 ^ k := by rw [Int.mul_add, Int.mul_one, Int.pow_succ, Int.mul_comm (2 ^ k) 2]
  have pp := pow_pos2 k
  refine le_mk (fun r hr' q => ?_) (fun l hl q => ?_)
  · exact le_l h hr' ((hr r hr' (2 ^ k * (2 * j + 1)) a j (by omega) (by omega) h1 h2).1 q)
  · rw [mid_opts hk] at hl
    rw [List.mem_singleton.mp hl] at q
    have := form_le.mp (le_trans q h)
    omega
/-- a game whose options are twice as coarse is not the middle -/
theorem not_mid (hk : k + 1 ≤ p) (hl : ∀ r ∈ g.left, Gran p (k + 2) r) (hr : ∀ r ∈ g.right, Gran p (k + 2) r) (h1 : Le g (form p (2 ^ k * (2 * j + 1)))) (h2 : Le (form p (2 ^ k * (2 * j + 1))) g) : False := by
  have e1 : 2 ^ k * (2 * j + 1) = 2 ^ (k + 1) * j + 2 ^ k := by rw [Int.mul_add, pow_split, Int.mul_left_comm, Int.mul_one]
  have e2 : (2 : Int) ^ (k + 1) * (j + 1) = 2 ^ (k + 1) * j + 2 * 2 ^ k := by rw [Int.mul_add, Int.mul_one, Int.pow_succ, Int.mul_comm (2 ^ k) 2]
  have pp := pow_pos2 k
  have em := mid_opts (p := p) hk j
  have bk := form_back p (2 ^ k * (2 * j + 1))
  have ml : form p (2 ^ (k + 1) * j) ∈ (form p (2 ^ k * (2 * j + 1))).left := by rw [em]; exact List.mem_cons_self ..
  have mr : form p (2 ^ (k + 1) * (j + 1)) ∈ (form p (2 ^ k * (2 * j + 1))).right := by rw [em]; exact List.mem_cons_self ..
  obtain ⟨l, hl1, hl2⟩ : ∃ l ∈ g.left, Le (form p (2 ^ (k + 1) * j)) l := by
    rcases not_le.mp (le_l h2 ml) with z | ⟨r, hr1, hr2⟩
    · exact z
    · exact absurd (le_trans hr2 h1) (bk.1 _ ml r hr1)
  obtain ⟨r, hr1, hr2⟩ : ∃ r ∈ g.right, Le r (form p (2 ^ (k + 1) * (j + 1))) := by
    rcases not_le.mp (le_r h1 mr) with ⟨l, hl1, hl2⟩ | z
    · exact absurd (le_trans h2 hl2) (bk.2 _ mr l hl1)
    · exact z
  obtain ⟨i, rfl | rfl⟩ := parity j
  · -- j even: the right end lies within the twice as long interval
    have f1 : 2 ^ (k + 1) * (2 * i) = 2 ^ (k + 2) * i := by rw [pow_split (k + 1), Int.mul_left_comm]
    have f2 : (2 : Int) ^ (k + 2) * (i + 1) = 2 ^ (k + 2) * i + 4 * 2 ^ k := by rw [Int.mul_add, Int.mul_one, Int.pow_succ, Int.pow_succ]; omega
    have := (hr r hr1 (2 ^ (k + 1) * (2 * i + 1)) (2 ^ k * (2 * (2 * i) + 1)) i (by omega) (by omega) (by omega) (by omega)).2 hr2
    exact right_nle hr1 (le_trans this h2)
  · have f1 : 2 ^ (k + 1) * (2 * i + 1) = 2 ^ (k + 2) * i + 2 * 2 ^ k := by rw [Int.mul_add, pow_split (k + 1), Int.mul_left_comm, Int.mul_one, Int.pow_succ, Int.mul_comm (2 ^ k) 2]
    have f2 : (2 : Int) ^ (k + 2) * (i + 1) = 2 ^ (k + 2) * i + 4 * 2 ^ k := by rw [Int.mul_add, Int.mul_one, Int.pow_succ, Int.pow_succ]; omega
    have := (hl l hl1 (2 ^ (k + 1) * (2 * i + 1)) (2 ^ k * (2 * (2 * i + 1) + 1)) i (by omega) (by omega) (by omega) (by omega)).1 hl2
    exact left_nle hl1 (le_trans h1 this)
end
theorem gran_zero (p : Nat) (g : G) : Gran p 0 g := by
  intro a b j h1 h2 h3 h4
  rw [Int.pow_zero, Int.one_mul] at *
  omega
theorem gran_of (p : Nat) (n : Nat) : ∀ g : G, sizeOf g ≤ n → ∀ k, ht g + k ≤ p → Gran p k g := by
  induction n with
  | zero =>
    intro g h
    cases g
    simp only [G.mk.sizeOf_spec] at h
    omega
  | succ n ih =>
    intro g h k hk
    cases k with
    | zero => exact gran_zero p g
    | succ k =>
      have wl : ∀ l ∈ g.left, Gran p (k + 2) l := fun l hl => ih l (by have := sz_left hl; omega) (k + 2) (by have := ht_left hl; omega)
      have wr : ∀ l ∈ g.right, Gran p (k + 2) l := fun l hl => ih l (by have := sz_right hl; omega) (k + 2) (by have := ht_right hl; omega)
      have nl : ∀ l ∈ g.left, Gran p (k + 1) l := fun l hl => gran_wide (wl l hl)
      have nr : ∀ l ∈ g.right, Gran p (k + 1) l := fun l hl => gran_wide (wr l hl)
      have hk' : k + 1 ≤ p := by omega
      intro a b j h1 h2 h3 h4
      constructor
      · intro q
        have qm := to_mid hk' nr h1 h2 q
        refine le_mk (fun l hl z => ?_) (fun r hr z => ?_)
        · obtain ⟨c, lt, rfl⟩ := (form_opts p b).1 l hl
          have := form_le.mp (le_trans q z)
          exact not_mid hk' wl wr (to_mid' hk' nl (by omega) (by omega) z) qm
        · exact le_r q hr ((nr r hr b a j h3 h4 h1 h2).2 z)
      · intro q
        have qm := to_mid' hk' nl h1 h2 q
        refine le_mk (fun l hl z => ?_) (fun r hr z => ?_)
        · exact le_l q hl ((nl l hl b a j h3 h4 h1 h2).1 z)
        · obtain ⟨c, lt, rfl⟩ := (form_opts p b).2 r hr
          have := form_le.mp (le_trans z q)
          exact not_mid hk' wl wr qm (to_mid hk' nr (by omega) (by omega) z)
theorem gran {p k : Nat} {g : G} (h : ht g + k ≤ p) : Gran p k g := gran_of p _ g (Nat.le_refl _) k h
/-- a number that a game of height h is has at most the power h -/
theorem num_div {p k : Nat} {g : G} (h : ht g + k ≤ p) {t : Int} (e : Al g (form p t)) : (2 ^ k : Int) ∣ t := by
  cases k with
  | zero => exact ⟨t, by rw [Int.pow_zero, Int.one_mul]⟩
  | succ k =>
    have wl : ∀ l ∈ g.left, Gran p (k + 2) l := fun l hl => gran (by have := ht_left hl; omega)
    have wr : ∀ l ∈ g.right, Gran p (k + 2) l := fun l hl => gran (by have := ht_right hl; omega)
    have nl : ∀ l ∈ g.left, Gran p (k + 1) l := fun l hl => gran_wide (wl l hl)
    have nr : ∀ l ∈ g.right, Gran p (k + 1) l := fun l hl => gran_wide (wr l hl)
    have hk' : k + 1 ≤ p := by omega
    have hd : (2 : Int) ^ (k + 1) * (t / 2 ^ (k + 1)) + t % 2 ^ (k + 1) = t := Int.mul_ediv_add_emod t _
    have hp := pow_pos2 (k + 1)
    have h0 := Int.emod_nonneg t (Int.ne_of_gt hp)
    have h1 := Int.emod_lt_of_pos t hp
    by_cases z : t % 2 ^ (k + 1) = 0
    · exact Int.dvd_of_emod_eq_zero z
    · have e3 : (2 : Int) ^ (k + 1) * (t / 2 ^ (k + 1) + 1) = 2 ^ (k + 1) * (t / 2 ^ (k + 1)) + 2 ^ (k + 1) := by rw [Int.mul_add, Int.mul_one]
      exact absurd (to_mid hk' nr (j := t / 2 ^ (k + 1)) (by omega) (by omega) e.2) fun q2 => not_mid hk' wl wr (to_mid' hk' nl (by omega) (by omega) e.1) q2
/-! ### stops -/
def maxI : List Int → Int
  | [] => 0
  | [a] => a
  | a :: b :: r => max a (maxI (b :: r))
def minI : List Int → Int
  | [] => 0
  | [a] => a
  | a :: b :: r => min a (minI (b :: r))
theorem maxI_mem : ∀ {l : List Int}, l ≠ [] → maxI l ∈ l
  | [], h => absurd rfl h
  | [a], _ => List.mem_cons_self ..
  | a :: b :: r, _ => by
    have := maxI_mem (l := b :: r) (List.cons_ne_nil _ _)
    show max a (maxI (b :: r)) ∈ _
    by_cases h : a ≤ maxI (b :: r)
    · rw [Int.max_eq_right h]
      exact List.mem_cons_of_mem _ this
    · rw [Int.max_eq_left (by omega)]
      exact List.mem_cons_self ..
theorem maxI_ge : ∀ {l : List Int} {a : Int}, a ∈ l → a ≤ maxI l
  | [], _, h => by cases h
  | [b], a, h => by rw [List.mem_singleton.mp h]; exact Int.le_refl _
  | b :: c :: r, a, h => by
    show a ≤ max b (maxI (c :: r))
    rcases List.mem_cons.mp h with rfl | h
    · omega
    · have := maxI_ge h; omega
theorem minI_mem : ∀ {l : List Int}, l ≠ [] → minI l ∈ l
  | [], h => absurd rfl h
  | [a], _ => List.mem_cons_self ..
  | a :: b :: r, _ => by
    have := minI_mem (l := b :: r) (List.cons_ne_nil _ _)
    show min a (minI (b :: r)) ∈ _
    by_cases h : a ≤ minI (b :: r)
    · rw [Int.min_eq_left h]
      exact List.mem_cons_self ..
    · rw [Int.min_eq_right (by omega)]
      exact List.mem_cons_of_mem _ this
theorem minI_le : ∀ {l : List Int} {a : Int}, a ∈ l → minI l ≤ a
  | [], _, h => by cases h
  | [b], a, h => by rw [List.mem_singleton.mp h]; exact Int.le_refl _
  | b :: c :: r, a, h => by
    show min b (minI (c :: r)) ≤ a
    rcases List.mem_cons.mp h with rfl | h
    · omega
    · have := minI_le h; omega
def Num (p : Nat) (g : G) : Prop := ∃ n : Int, Al g (form p n)
open Classical in
noncomputable def stop (p : Nat) (b : Bool) (g : G) : Int :=
  if h : Num p g then Classical.choose h
  else if b = true then maxI (g.left.attach.map fun o => stop p false o.1) else minI (g.right.attach.map fun o => stop p true o.1)
termination_by sizeOf g
decreasing_by
  · exact sz_left o.2
  · exact sz_right o.2
theorem stop_num {p : Nat} {g : G} {n : Int} (b : Bool) (h : Al g (form p n)) : stop p b g = n := by
  rw [stop, dif_pos ⟨n, h⟩]
  have := Classical.choose_spec (⟨n, h⟩ : Num p g)
  exact form_inj (al_trans (al_symm this) h)
theorem stop_left {p : Nat} {g : G} (h : ¬ Num p g) : stop p true g = maxI (g.left.map fun o => stop p false o) := by
  rw [stop, dif_neg h, if_pos rfl, List.attach_map_val (f := fun o => stop p false o)]
theorem stop_right {p : Nat} {g : G} (h : ¬ Num p g) : stop p false g = minI (g.right.map fun o => stop p true o) := by
  rw [stop, dif_neg h, if_neg (by decide), List.attach_map_val (f := fun o => stop p true o)]
theorem left_some {p : Nat} {g : G} (h : ¬ Num p g) : g.left ≠ [] := fun e => by
  refine h (simplicity (p := p) (g := g) _ (-(2 ^ p * ((ht g : Nat) : Int)) ) (Nat.le_refl _) (fun l hl => ?_) (fun r hr q => ?_))
  · rw [e] at hl
    cases hl
  · have := (le_htp p (Nat.le_refl (ht g))).2
    exact right_nle hr (le_trans q this)
theorem right_some {p : Nat} {g : G} (h : ¬ Num p g) : g.right ≠ [] := fun e => by
  refine h (simplicity (p := p) (g := g) _ (2 ^ p * ((ht g : Nat) : Int)) (Nat.le_refl _) (fun l hl q => ?_) (fun r hr => ?_))
  · have := (le_htp p (Nat.le_refl (ht g))).1
    exact left_nle hl (le_trans this q)
  · rw [e] at hr
    cases hr
/-- what the stops say about the order -/
structure Thm (p : Nat) (g : G) : Prop where
  i1 : ∀ a, a < stop p true g → ¬ Le g (form p a)
  i2 : ∀ a, stop p true g < a → Le g (form p a)
  i3 : ∀ a, stop p false g < a → ¬ Le (form p a) g
  i4 : ∀ a, a < stop p false g → Le (form p a) g
theorem thm_num {p : Nat} {g : G} {n : Int} (h : Al g (form p n)) : Thm p g := by
  have e1 := stop_num true h
  have e2 := stop_num false h
  refine ⟨fun a ha q => ?_, fun a ha => ?_, fun a ha q => ?_, fun a ha => ?_⟩
  · have := form_le.mp (le_trans h.2 q); omega
  · exact le_trans h.1 (form_le.mpr (by omega))
  · have := form_le.mp (le_trans q h.1); omega
  · exact le_trans (form_le.mpr (by omega)) h.2
theorem up_aux {p : Nat} {g : G} (hn : ¬ Num p g) {s : Int} (h : ∀ l ∈ g.left, ∀ a, s < a → ¬ Le (form p a) l) (n : Nat) : ∀ a, sizeOf (form p a) ≤ n → s < a → Le g (form p a) := by
  induction n with
  | zero =>
    intro a h
    cases e : form p a with
    | mk l r =>
      rw [e] at h
      simp only [G.mk.sizeOf_spec] at h
      omega
  | succ n ih =>
    intro a hs ha
    refine le_mk (fun l hl => h l hl a ha) (fun r hr q => ?_)
    have := sz_right hr
    obtain ⟨c, lt, rfl⟩ := (form_opts p a).2 r hr
    exact hn ⟨c, ih c (by omega) (by omega), q⟩
theorem dn_aux {p : Nat} {g : G} (hn : ¬ Num p g) {s : Int} (h : ∀ l ∈ g.right, ∀ a, a < s → ¬ Le l (form p a)) (n : Nat) : ∀ a, sizeOf (form p a) ≤ n → a < s → Le (form p a) g := by
  induction n with
  | zero =>
    intro a h
    cases e : form p a with
    | mk l r =>
      rw [e] at h
      simp only [G.mk.sizeOf_spec] at h
      omega
  | succ n ih =>
    intro a hs ha
    refine le_mk (fun r hr q => ?_) (fun l hl => h l hl a ha)
    have := sz_left hr
    obtain ⟨c, lt, rfl⟩ := (form_opts p a).1 r hr
    exact hn ⟨c, q, ih c (by omega) (by omega)⟩
theorem thm_of (p : Nat) (n : Nat) : ∀ g : G, sizeOf g ≤ n → Thm p g := by
  induction n with
  | zero =>
    intro g h
    cases g
    simp only [G.mk.sizeOf_spec] at h
    omega
  | succ n ih =>
    intro g hs
    by_cases h : Num p g
    · exact thm_num h.choose_spec
    · have el := stop_left h
      have er := stop_right h
      have ml : maxI (g.left.map fun o => stop p false o) ∈ _ := maxI_mem (by simpa using left_some h)
      have mr : minI (g.right.map fun o => stop p true o) ∈ _ := minI_mem (by simpa using right_some h)
      obtain ⟨l0, hl0, el0⟩ := List.mem_map.mp ml
      obtain ⟨r0, hr0, er0⟩ := List.mem_map.mp mr
      have gl : ∀ l ∈ g.left, stop p false l ≤ stop p true g := fun l hl => by
        rw [el]
        exact maxI_ge (List.mem_map.mpr ⟨l, hl, rfl⟩)
      have gr : ∀ r ∈ g.right, stop p false g ≤ stop p true r := fun l hl => by
        rw [er]
        exact minI_le (List.mem_map.mpr ⟨l, hl, rfl⟩)
      refine ⟨fun a ha q => ?_, fun a ha => ?_, fun a ha q => ?_, fun a ha => ?_⟩
      · have z := (ih l0 (by have := sz_left hl0; omega)).i4 a (by have : stop p false l0 = maxI _ := el0; omega)
        exact left_nle hl0 (le_trans q z)
      · exact up_aux h (s := stop p true g) (fun l hl b hb => (ih l (by have := sz_left hl; omega)).i3 b (by have := gl l hl; omega)) _ a (Nat.le_refl _) ha
      · have z := (ih r0 (by have := sz_right hr0; omega)).i2 a (by have : stop p true r0 = minI _ := er0; omega)
        exact right_nle hr0 (le_trans z q)
      · exact dn_aux h (s := stop p false g) (fun l hl b hb => (ih l (by have := sz_right hl; omega)).i1 b (by have := gr l hl; omega)) _ a (Nat.le_refl _) ha
theorem thm (p : Nat) (g : G) : Thm p g := thm_of p _ g (Nat.le_refl _)
theorem stop_div {p k : Nat} (n : Nat) : ∀ (g : G) (b : Bool), sizeOf g ≤ n → ht g + k ≤ p → (2 ^ k : Int) ∣ stop p b g := by
  induction n with
  | zero =>
    intro g b h
    cases g
    simp only [G.mk.sizeOf_spec] at h
    omega
  | succ n ih =>
    intro g b hs hk
    by_cases h : Num p g
    · rw [stop_num b h.choose_spec]
      exact num_div hk h.choose_spec
    · cases b with
      | true =>
        rw [stop_left h]
        have ml : maxI (g.left.map fun o => stop p false o) ∈ _ := maxI_mem (by simpa using left_some h)
        obtain ⟨l0, hl0, el0⟩ := List.mem_map.mp ml
        rw [← el0]
        exact ih l0 false (by have := sz_left hl0; omega) (by have := ht_left hl0; omega)
      | false =>
        rw [stop_right h]
        have ml : minI (g.right.map fun o => stop p true o) ∈ _ := minI_mem (by simpa using right_some h)
        obtain ⟨l0, hl0, el0⟩ := List.mem_map.mp ml
        rw [← el0]
        exact ih l0 true (by have := sz_right hl0; omega) (by have := ht_right hl0; omega)
theorem stop_dvd {p k : Nat} {g : G} (b : Bool) (h : ht g + k ≤ p) : (2 ^ k : Int) ∣ stop p b g := stop_div _ g b (Nat.le_refl _) h
theorem num_bound {p h : Nat} {g : G} (hg : ht g ≤ h) {t : Int} (e : Al g (form p t)) : t ≤ 2 ^ p * (h : Int) ∧ -(2 ^ p * (h : Int)) ≤ t := by
  obtain ⟨a, b⟩ := le_htp p hg
  exact ⟨form_le.mp (le_trans e.2 a), form_le.mp (le_trans b e.1)⟩
theorem stop_bound {p h : Nat} (n : Nat) : ∀ (g : G) (b : Bool), sizeOf g ≤ n → ht g ≤ h → stop p b g ≤ 2 ^ p * (h : Int) ∧ -(2 ^ p * (h : Int)) ≤ stop p b g := by
  induction n with
  | zero =>
    intro g b h
    cases g
    simp only [G.mk.sizeOf_spec] at h
    omega
  | succ n ih =>
    intro g b hs hk
    by_cases h : Num p g
    · rw [stop_num b h.choose_spec]
      exact num_bound hk h.choose_spec
    · cases b with
      | true =>
        rw [stop_left h]
        have ml : maxI (g.left.map fun o => stop p false o) ∈ _ := maxI_mem (by simpa using left_some h)
        obtain ⟨l0, hl0, el0⟩ := List.mem_map.mp ml
        rw [← el0]
        exact ih l0 false (by have := sz_left hl0; omega) (by have := ht_left hl0; omega)
      | false =>
        rw [stop_right h]
        have ml : minI (g.right.map fun o => stop p true o) ∈ _ := minI_mem (by simpa using right_some h)
        obtain ⟨l0, hl0, el0⟩ := List.mem_map.mp ml
        rw [← el0]
        exact ih l0 true (by have := sz_right hl0; omega) (by have := ht_right hl0; omega)
/-- alike games stop at the same places -/
theorem stop_al {p : Nat} {g f : G} (hg : ht g + 1 ≤ p) (hf : ht f + 1 ≤ p) (h : Al g f) (b : Bool) : stop p b g = stop p b f := by
  have key : ∀ {x y : G}, ht x + 1 ≤ p → ht y + 1 ≤ p → Al x y → ∀ b, ¬ stop p b x < stop p b y := fun {x y} hx hy e b lt => by
    obtain ⟨c, hc⟩ := stop_dvd (k := 1) b hx
    obtain ⟨d, hd⟩ := stop_dvd (k := 1) b hy
    rw [Int.pow_succ, Int.pow_zero, Int.one_mul] at hc hd
    cases b with
    | true => exact (thm p y).i1 (stop p true x + 1) (by omega) (le_trans e.2 ((thm p x).i2 _ (by omega)))
    | false => exact (thm p x).i3 (stop p false x + 1) (by omega) (le_trans ((thm p y).i4 _ (by omega)) e.2)
  have a := key hg hf h b
  have c := key hf hg (al_symm h) b
  omega
theorem stop_ge {p : Nat} {g : G} (hg : ht g + 1 ≤ p) : stop p false g ≤ stop p true g := by
  by_cases lt : stop p true g < stop p false g
  · obtain ⟨c, hc⟩ := stop_dvd (k := 1) true hg
    obtain ⟨d, hd⟩ := stop_dvd (k := 1) false hg
    rw [Int.pow_succ, Int.pow_zero, Int.one_mul] at hc hd
    have e : Al g (form p (stop p true g + 1)) := ⟨(thm p g).i2 _ (by omega), (thm p g).i4 _ (by omega)⟩
    have e1 := stop_num true e
    omega
  · omega
/-! ### stops of sums -/
section
variable {p : Nat} {g h s : G} (e : Al s (add g h)) (hg : ht g + 3 ≤ p) (hh : ht h + 3 ≤ p) (hs : ht s + 3 ≤ p)
include e hg hh hs
theorem div8 : ∃ a b c d i j : Int, stop p true g = 8 * a ∧ stop p false g = 8 * b ∧ stop p true h = 8 * c ∧ stop p false h = 8 * d ∧ stop p true s = 8 * i ∧ stop p false s = 8 * j := by
  obtain ⟨a, ha⟩ := stop_dvd (k := 3) true hg
  obtain ⟨b, hb⟩ := stop_dvd (k := 3) false hg
  obtain ⟨c, hc⟩ := stop_dvd (k := 3) true hh
  obtain ⟨d, hd⟩ := stop_dvd (k := 3) false hh
  obtain ⟨i, hi⟩ := stop_dvd (k := 3) true hs
  obtain ⟨j, hj⟩ := stop_dvd (k := 3) false hs
  exact ⟨a, b, c, d, i, j, ha, hb, hc, hd, hi, hj⟩
theorem sum_right : stop p false g + stop p false h ≤ stop p false s := by
  obtain ⟨a, b, c, d, i, j, e1, e2, e3, e4, e5, e6⟩ := div8 e hg hh hs
  by_cases q : stop p false s < stop p false g + stop p false h
  · have h1 := (thm p g).i4 (stop p false g - 1) (by omega)
    have h2 := (thm p h).i4 (stop p false h - 1) (by omega)
    have h3 := le_trans (add_form p _ _).2 (le_trans (add_le h1 h2) e.2)
    exact absurd h3 ((thm p s).i3 _ (by omega))
  · omega
theorem sum_left : stop p true s ≤ stop p true g + stop p true h := by
  obtain ⟨a, b, c, d, i, j, e1, e2, e3, e4, e5, e6⟩ := div8 e hg hh hs
  by_cases q : stop p true g + stop p true h < stop p true s
  · have h1 := (thm p g).i2 (stop p true g + 1) (by omega)
    have h2 := (thm p h).i2 (stop p true h + 1) (by omega)
    have h3 := le_trans e.1 (le_trans (add_le h1 h2) (add_form p _ _).1)
    exact absurd h3 ((thm p s).i1 _ (by omega))
  · omega
theorem sum_cross_left : stop p true g + stop p false h ≤ stop p true s := by
  obtain ⟨a, b, c, d, i, j, e1, e2, e3, e4, e5, e6⟩ := div8 e hg hh hs
  by_cases q : stop p true s < stop p true g + stop p false h
  · have h1 := (thm p g).i1 (stop p true g - 1) (by omega)
    have h2 := (thm p h).i4 (stop p false h - 1) (by omega)
    have h3 := add_nle h1 h2
    have h4 := (thm p s).i2 (stop p true g - 1 + (stop p false h - 1)) (by omega)
    exact absurd (le_trans e.2 (le_trans h4 (add_form p _ _).2)) h3
  · omega
theorem sum_cross_right : stop p false s ≤ stop p true g + stop p false h := by
  obtain ⟨a, b, c, d, i, j, e1, e2, e3, e4, e5, e6⟩ := div8 e hg hh hs
  by_cases q : stop p true g + stop p false h < stop p false s
  · have h1 := (thm p g).i2 (stop p true g + 1) (by omega)
    have h2 := (thm p h).i3 (stop p false h + 1) (by omega)
    have h3 := add_nle2 h1 h2
    have h4 := (thm p s).i4 (stop p true g + 1 + (stop p false h + 1)) (by omega)
    exact absurd (le_trans (add_form p _ _).1 (le_trans h4 e.1)) h3
  · omega
end
end SG
end
section
set_option autoImplicit false
namespace SG
/-! steps that make games simpler; numbers and their options; number moves are dominated; weights -/
theorem drop_al {l l' r r' : List G} (h1 : ∀ x ∈ l', x ∈ l) (h2 : ∀ x ∈ l, ∃ y ∈ l', Le x y) (k1 : ∀ x ∈ r', x ∈ r) (k2 : ∀ x ∈ r, ∃ y ∈ r', Le y x) : Al (.mk l r) (.mk l' r') := by
  refine al_of (fun x hx => h2 x hx) (fun x hx => ⟨x, h1 x hx, le_refl x⟩) (fun x hx => k2 x hx) (fun x hx => ⟨x, k1 x hx, le_refl x⟩)
theorem back_left {l l' r : List G} {o a : G} (ho : o ∈ l) (ha : a ∈ o.right) (hle : Le a (.mk l r)) (h1 : ∀ x ∈ l', x ∈ l ∨ x ∈ a.left) (h2 : ∀ x ∈ l, x = o ∨ x ∈ l') (h3 : ∀ x ∈ a.left, x ∈ l') : Al (.mk l r) (.mk l' r) := by
  refine ⟨le_mk (fun x hx q => ?_) (fun x hx q => right_nle (g := .mk l r) hx q), le_mk (fun x hx q => ?_) (fun x hx q => right_nle (g := .mk l' r) hx q)⟩
  · rcases h2 x hx with rfl | hx'
    · have k : Le a (.mk l' r) := le_mk (fun y hy z => left_nle (g := .mk l' r) (h3 y hy) z) (fun y hy z => le_r hle (show y ∈ (G.mk l r).right from hy) z)
      exact right_nle ha (le_trans k q)
    · exact left_nle (g := .mk l' r) hx' q
  · rcases h1 x hx with hx' | hx'
    · exact left_nle (g := .mk l r) hx' q
    · exact left_nle hx' (le_trans hle q)
theorem back_right {l r r' : List G} {o a : G} (ho : o ∈ r) (ha : a ∈ o.left) (hle : Le (.mk l r) a) (h1 : ∀ x ∈ r', x ∈ r ∨ x ∈ a.right) (h2 : ∀ x ∈ r, x = o ∨ x ∈ r') (h3 : ∀ x ∈ a.right, x ∈ r') : Al (.mk l r) (.mk l r') := by
  refine ⟨le_mk (fun x hx q => left_nle (g := .mk l r') hx q) (fun x hx q => ?_), le_mk (fun x hx q => left_nle (g := .mk l r) hx q) (fun x hx q => ?_)⟩
  · rcases h1 x hx with hx' | hx'
    · exact right_nle (g := .mk l r) hx' q
    · exact right_nle hx' (le_trans q hle)
  · rcases h2 x hx with rfl | hx'
    · have k : Le (.mk l r') a := le_mk (fun y hy z => le_l hle (show y ∈ (G.mk l r).left from hy) z) (fun y hy z => right_nle (g := .mk l r') (h3 y hy) z)
      exact left_nle ha (le_trans q k)
    · exact right_nle (g := .mk l r') hx' q
/-- no step at the game itself -/
structure Can (g : G) : Prop where
  dl : ∀ x ∈ g.left, ∀ y ∈ g.left, Le x y → Le y x
  dr : ∀ x ∈ g.right, ∀ y ∈ g.right, Le x y → Le y x
  bl : ∀ x ∈ g.left, ∀ a ∈ x.right, ¬ Le a g
  br : ∀ x ∈ g.right, ∀ a ∈ x.left, ¬ Le g a
theorem can_left {p : Nat} {g : G} {n : Int} (c : Can g) (e : Al g (form p n)) {x : G} (hx : x ∈ g.left) : ∃ t, Al x (form p t) ∧ form p t ∈ (form p n).left := by
  have h1 : ¬ Le (form p n) x := fun q => left_nle hx (le_trans e.1 q)
  rcases not_le.mp h1 with ⟨y, hy, q⟩ | ⟨a, ha, q⟩
  · obtain ⟨t, lt, rfl⟩ := (form_opts p n).1 y hy
    refine ⟨t, ⟨?_, ?_⟩, hy⟩
    · exact q
    · have h2 : ¬ Le g (form p t) := fun z => left_nle hy (le_trans e.2 z)
      rcases not_le.mp h2 with ⟨z, hz, k⟩ | ⟨b, hb, k⟩
      · exact le_trans k (c.dl x hx z hz (le_trans q k))
      · exact absurd (le_trans k e.1) ((form_back p n).1 _ hy b hb)
  · exact absurd (le_trans q e.2) (c.bl x hx a ha)
theorem can_right {p : Nat} {g : G} {n : Int} (c : Can g) (e : Al g (form p n)) {x : G} (hx : x ∈ g.right) : ∃ t, Al x (form p t) ∧ form p t ∈ (form p n).right := by
  have h1 : ¬ Le x (form p n) := fun q => right_nle hx (le_trans q e.2)
  rcases not_le.mp h1 with ⟨a, ha, q⟩ | ⟨y, hy, q⟩
  · exact absurd (le_trans e.1 q) (c.br x hx a ha)
  · obtain ⟨t, lt, rfl⟩ := (form_opts p n).2 y hy
    refine ⟨t, ⟨?_, ?_⟩, hy⟩
    · have h2 : ¬ Le (form p t) g := fun z => right_nle hy (le_trans z e.1)
      rcases not_le.mp h2 with ⟨b, hb, k⟩ | ⟨z, hz, k⟩
      · exact absurd (le_trans e.2 k) ((form_back p n).2 _ hy b hb)
      · exact le_trans (c.dr z hz x hx (le_trans k q)) k
    · exact q
theorem num_left {p : Nat} {g x : G} {n t : Int} (e : Al g (form p n)) (hx : x ∈ g.left) (k : Al x (form p t)) : t < n := by
  by_cases q : t < n
  · exact q
  · exact absurd (le_trans e.1 (le_trans (form_le.mpr (by omega : n ≤ t)) k.2)) (left_nle hx)
theorem num_right {p : Nat} {g x : G} {n t : Int} (e : Al g (form p n)) (hx : x ∈ g.right) (k : Al x (form p t)) : n < t := by
  by_cases q : n < t
  · exact q
  · exact absurd (le_trans k.1 (le_trans (form_le.mpr (by omega : t ≤ n)) e.2)) (right_nle hx)
/-- a move in a number is worse than the best move in a game that is none -/
theorem worse_left {p : Nat} {c t : Int} {v : G} (h : c + 2 < t) (hn : ¬ Num p v) : ∃ x ∈ v.left, Le (add (form p c) v) (add (form p t) x) ∧ ¬ Le (add (form p t) x) (add (form p c) v) := by
  have el := stop_left hn
  have ml : maxI (v.left.map fun o => stop p false o) ∈ _ := maxI_mem (by simpa using left_some hn)
  obtain ⟨x, hx, ex⟩ := List.mem_map.mp ml
  have ex' : stop p false x = maxI (v.left.map fun o => stop p false o) := ex
  have h1 := (thm p v).i2 (stop p true v + 1) (by omega)
  have h2 := (thm p x).i4 (stop p true v - 1) (by omega)
  have k1 := le_trans (add_le (le_refl (form p c)) h1) (add_form p _ _).1
  have k2 := le_trans (add_form p _ _).2 (add_le (le_refl (form p t)) h2)
  refine ⟨x, hx, le_trans k1 (le_trans (form_le.mpr (by omega)) k2), fun q => ?_⟩
  have := form_le.mp (le_trans k2 (le_trans q k1))
  omega
theorem worse_right {p : Nat} {c t : Int} {v : G} (h : t + 2 < c) (hn : ¬ Num p v) : ∃ x ∈ v.right, Le (add (form p t) x) (add (form p c) v) ∧ ¬ Le (add (form p c) v) (add (form p t) x) := by
  have el := stop_right hn
  have ml : minI (v.right.map fun o => stop p true o) ∈ _ := minI_mem (by simpa using right_some hn)
  obtain ⟨x, hx, ex⟩ := List.mem_map.mp ml
  have ex' : stop p true x = minI (v.right.map fun o => stop p true o) := ex
  have h1 := (thm p v).i4 (stop p false v - 1) (by omega)
  have h2 := (thm p x).i2 (stop p false v + 1) (by omega)
  have k1 := le_trans (add_form p _ _).2 (add_le (le_refl (form p c)) h1)
  have k2 := le_trans (add_le (le_refl (form p t)) h2) (add_form p _ _).1
  refine ⟨x, hx, le_trans k2 (le_trans (form_le.mpr (by omega)) k1), fun q => ?_⟩
  have := form_le.mp (le_trans k1 (le_trans q k2))
  omega
/-! ### weights -/
def lamL (g : G) : Nat := (g.left.attach.map fun o => 1 + maxl (o.1.right.attach.map fun a => lamL a.1)).sum
termination_by sizeOf g
decreasing_by
  have := sz_left o.2
  have := sz_right a.2
  omega
def lamR (g : G) : Nat := (g.right.attach.map fun o => 1 + maxl (o.1.left.attach.map fun a => lamR a.1)).sum
termination_by sizeOf g
decreasing_by
  have := sz_right o.2
  have := sz_left a.2
  omega
/-- the weight of a left option, of a right one -/
def wL (o : G) : Nat := 1 + maxl (o.right.map lamL)
def wR (o : G) : Nat := 1 + maxl (o.left.map lamR)
theorem lamL_eq (g : G) : lamL g = (g.left.map wL).sum := by
  rw [lamL]
  have e : ∀ o : {x // x ∈ g.left}, (1 + maxl (o.1.right.attach.map fun a => lamL a.1)) = wL o.1 := fun o => by
    unfold wL
    rw [List.attach_map_val (f := lamL)]
  rw [show (fun o : {x // x ∈ g.left} => 1 + maxl (o.1.right.attach.map fun a => lamL a.1)) = fun o => wL o.1 from funext e, List.attach_map_val (f := wL)]
theorem lamR_eq (g : G) : lamR g = (g.right.map wR).sum := by
  rw [lamR]
  have e : ∀ o : {x // x ∈ g.right}, (1 + maxl (o.1.left.attach.map fun a => lamR a.1)) = wR o.1 := fun o => by
    unfold wR
    rw [List.attach_map_val (f := lamR)]
  rw [show (fun o : {x // x ∈ g.right} => 1 + maxl (o.1.left.attach.map fun a => lamR a.1)) = fun o => wR o.1 from funext e, List.attach_map_val (f := wR)]
theorem wL_ge {o a : G} (h : a ∈ o.right) : 1 + lamL a ≤ wL o := by
  have := maxl_ge (List.mem_map.mpr ⟨a, h, rfl⟩ : lamL a ∈ o.right.map lamL)
  unfold wL
  omega
theorem wR_ge {o a : G} (h : a ∈ o.left) : 1 + lamR a ≤ wR o := by
  have := maxl_ge (List.mem_map.mpr ⟨a, h, rfl⟩ : lamR a ∈ o.left.map lamR)
  unfold wR
  omega
/-- the greatest of these at a game and its followers -/
def kap (g : G) : Nat := max (max (lamL g) (lamR g)) (max (maxl (g.left.attach.map fun o => kap o.1)) (maxl (g.right.attach.map fun o => kap o.1)))
termination_by sizeOf g
decreasing_by
  · exact sz_left o.2
  · exact sz_right o.2
theorem kap_eq (g : G) : kap g = max (max (lamL g) (lamR g)) (max (maxl (g.left.map kap)) (maxl (g.right.map kap))) := by
  rw [kap, List.attach_map_val (f := kap), List.attach_map_val (f := kap)]
theorem kap_l (g : G) : lamL g ≤ kap g ∧ lamR g ≤ kap g := by
  rw [kap_eq]
  omega
theorem kap_left {g x : G} (h : x ∈ g.left) : kap x ≤ kap g := by
  have := maxl_ge (List.mem_map.mpr ⟨x, h, rfl⟩ : kap x ∈ g.left.map kap)
  rw [kap_eq g]
  omega
theorem kap_right {g x : G} (h : x ∈ g.right) : kap x ≤ kap g := by
  have := maxl_ge (List.mem_map.mpr ⟨x, h, rfl⟩ : kap x ∈ g.right.map kap)
  rw [kap_eq g]
  omega
theorem kap_le {g : G} {n : Nat} (h1 : lamL g ≤ n) (h2 : lamR g ≤ n) (h3 : ∀ x ∈ g.left, kap x ≤ n) (h4 : ∀ x ∈ g.right, kap x ≤ n) : kap g ≤ n := by
  have a : maxl (g.left.map kap) ≤ n := maxl_le fun a ha => by
    obtain ⟨x, hx, rfl⟩ := List.mem_map.mp ha
    exact h3 x hx
  have b : maxl (g.right.map kap) ≤ n := maxl_le fun a ha => by
    obtain ⟨x, hx, rfl⟩ := List.mem_map.mp ha
    exact h4 x hx
  rw [kap_eq]
  omega
theorem wL_le {o : G} {n : Nat} (h : ∀ a ∈ o.right, kap a ≤ n) : wL o ≤ 1 + n := by
  have a : maxl (o.right.map lamL) ≤ n := maxl_le fun a ha => by
    obtain ⟨x, hx, rfl⟩ := List.mem_map.mp ha
    exact Nat.le_trans (kap_l x).1 (h x hx)
  unfold wL
  omega
theorem wR_le {o : G} {n : Nat} (h : ∀ a ∈ o.left, kap a ≤ n) : wR o ≤ 1 + n := by
  have a : maxl (o.left.map lamR) ≤ n := maxl_le fun a ha => by
    obtain ⟨x, hx, rfl⟩ := List.mem_map.mp ha
    exact Nat.le_trans (kap_l x).2 (h x hx)
  unfold wR
  omega
end SG
end
section
set_option autoImplicit false
namespace SG
/-! dyadics in their plain form, scaled by 2 ^ 64 -/
structure Dy where
  t : Int
  p : Nat
def redu : Int → Nat → Dy
  | t, 0 => ⟨t, 0⟩
  | t, p + 1 => if t % 2 = 0 then redu (t / 2) p else ⟨t, p + 1⟩
def Plain (d : Dy) : Prop := d.p = 0 ∨ d.t % 2 = 1
def sc (d : Dy) : Int := 2 ^ (64 - d.p) * d.t
theorem redu_plain (p : Nat) : ∀ t : Int, Plain (redu t p) := by
  induction p with
  | zero => exact fun t => .inl rfl
  | succ p ih =>
    intro t
    unfold redu
    split
    · exact ih _
    · exact .inr (by show t % 2 = 1; omega)
theorem redu_p (p : Nat) : ∀ t : Int, (redu t p).p ≤ p := by
  induction p with
  | zero => exact fun t => Nat.le_refl 0
  | succ p ih =>
    intro t
    unfold redu
    split
    · exact Nat.le_succ_of_le (ih _)
    · exact Nat.le_refl _
theorem redu_b (p : Nat) : ∀ (t B : Int), -B ≤ t → t ≤ B → -B ≤ (redu t p).t ∧ (redu t p).t ≤ B := by
  induction p with
  | zero => exact fun t B h1 h2 => ⟨h1, h2⟩
  | succ p ih =>
    intro t B h1 h2
    unfold redu
    split
    · exact ih _ B (by omega) (by omega)
    · exact ⟨h1, h2⟩
theorem redu_sc (p : Nat) : ∀ t : Int, p ≤ 64 → sc (redu t p) = 2 ^ (64 - p) * t := by
  induction p with
  | zero => exact fun t _ => rfl
  | succ p ih =>
    intro t h
    unfold redu
    split
    · rename_i e
      rw [ih _ (by omega), show 64 - p = (64 - (p + 1)) + 1 by omega, Int.pow_succ, Int.mul_assoc, show (2 : Int) * (t / 2) = t by omega]
    · rfl
theorem redu_of_plain {d : Dy} (h : Plain d) : redu d.t d.p = d := by
  obtain ⟨t, p⟩ := d
  cases p with
  | zero => rfl
  | succ p =>
    rcases h with h | h
    · cases h
    · unfold redu
      rw [if_neg (by show ¬ t % 2 = 0; have : t % 2 = 1 := h; omega)]
theorem pp2 (k : Nat) : (0 : Int) < 2 ^ k := Int.pow_pos (by decide)
theorem sc_mul {d e : Dy} (hd : d.p ≤ 64) : sc d * (2 ^ d.p * 2 ^ e.p) = 2 ^ 64 * (d.t * 2 ^ e.p) := by
  unfold sc
  have h : (2 : Int) ^ (64 - d.p) * 2 ^ d.p = 2 ^ 64 := by rw [← Int.pow_add, show 64 - d.p + d.p = 64 by omega]
  rw [Int.mul_assoc, Int.mul_comm d.t, Int.mul_assoc (2 ^ d.p), ← Int.mul_assoc, h, Int.mul_comm (2 ^ e.p)]
theorem less_iff {d e : Dy} (hd : d.p ≤ 64) (he : e.p ≤ 64) : d.t * 2 ^ e.p < e.t * 2 ^ d.p ↔ sc d < sc e := by
  have h1 := sc_mul (e := e) hd
  have h2 := sc_mul (e := d) he
  rw [Int.mul_comm (2 ^ e.p)] at h2
  have p1 : (0 : Int) < 2 ^ d.p * 2 ^ e.p := Int.mul_pos (pp2 _) (pp2 _)
  have p2 : (0 : Int) < 2 ^ 64 := pp2 64
  constructor
  · intro h
    have h3 := Int.mul_lt_mul_of_pos_left h p2
    rw [← h1, ← h2] at h3
    exact Int.lt_of_mul_lt_mul_right h3 (Int.le_of_lt p1)
  · intro h
    have h3 := Int.mul_lt_mul_of_pos_right h p1
    rw [h1, h2] at h3
    exact Int.lt_of_mul_lt_mul_left h3 (Int.le_of_lt p2)
theorem form_sc {d : Dy} (h : d.p ≤ 64) : form 64 (sc d) = form d.p d.t := form_shift' h d.t
theorem sc_inj {d e : Dy} (hd : Plain d) (he : Plain e) (h1 : d.p ≤ 64) (h2 : e.p ≤ 64) (h : sc d = sc e) : d = e := by
  have key : ∀ {d e : Dy}, Plain e → d.p ≤ 64 → e.p ≤ 64 → sc d = sc e → ¬ d.p < e.p := fun {d e} he h1 h2 h lt => by
    rcases he with he | he
    · omega
    · unfold sc at h
      rw [show 64 - d.p = (64 - e.p) + (e.p - d.p) by omega, Int.pow_add, Int.mul_assoc] at h
      have h3 := Int.eq_of_mul_eq_mul_left (Int.ne_of_gt (pp2 _)) h
      rw [show e.p - d.p = (e.p - d.p - 1) + 1 by omega, Int.pow_succ, Int.mul_comm (2 ^ (e.p - d.p - 1)) 2, Int.mul_assoc] at h3
      omega
  have ep : d.p = e.p := by
    have a := key he h1 h2 h
    have b := key hd h2 h1 h.symm
    omega
  obtain ⟨t, p⟩ := d
  obtain ⟨t', p'⟩ := e
  simp only at ep
  subst ep
  unfold sc at h
  have e : t = t' := Int.eq_of_mul_eq_mul_left (Int.ne_of_gt (pp2 _)) h
  rw [e]
/-! ### the options of forms, as numbers -/
def lopt : Nat → Int → Option Int
  | 0, t => if 0 < t then some (t - 1) else none
  | p + 1, t => if t % 2 = 0 then (lopt p (t / 2)).map (2 * ·) else some (t - 1)
def ropt : Nat → Int → Option Int
  | 0, t => if t < 0 then some (t + 1) else none
  | p + 1, t => if t % 2 = 0 then (ropt p (t / 2)).map (2 * ·) else some (t + 1)
theorem form_lr (p : Nat) : ∀ t : Int, (form p t).left = (lopt p t).toList.map (form p) ∧ (form p t).right = (ropt p t).toList.map (form p) := by
  induction p with
  | zero =>
    intro t
    unfold lopt ropt
    rcases Int.lt_trichotomy t 0 with h | h | h
    · rw [form0_neg h, if_neg (by omega), if_pos h]
      exact ⟨rfl, rfl⟩
    · rw [h]
      exact ⟨rfl, rfl⟩
    · rw [form0_pos h, if_pos h, if_neg (by omega)]
      exact ⟨rfl, rfl⟩
  | succ p ih =>
    intro t
    unfold lopt ropt
    obtain ⟨a, rfl | rfl⟩ := parity t
    · rw [form_even, if_pos (by omega), if_pos (by omega), show 2 * a / 2 = a by omega]
      obtain ⟨i1, i2⟩ := ih a
      rw [i1, i2]
      constructor
      · cases lopt p a with
        | none => rfl
        | some c => simp [form_even]
      · cases ropt p a with
        | none => rfl
        | some c => simp [form_even]
    · rw [form_odd, if_neg (by omega), if_neg (by omega)]
      constructor
      · show [form p a] = [form (p + 1) (2 * a + 1 - 1)]
        rw [show 2 * a + 1 - 1 = 2 * a by omega, form_even]
      · show [form p (a + 1)] = [form (p + 1) (2 * a + 1 + 1)]
        rw [show 2 * a + 1 + 1 = 2 * (a + 1) by omega, form_even]
theorem lopt_neg (p : Nat) : ∀ t : Int, lopt p (-t) = (ropt p t).map (- ·) ∧ ropt p (-t) = (lopt p t).map (- ·) := by
  induction p with
  | zero =>
    intro t
    refine ⟨?_, ?_⟩
    · rw [lopt, ropt]
      by_cases h : t < 0
      · rw [if_pos h, if_pos (by omega)]
        exact congrArg some (by show -t - 1 = -(t + 1); omega)
      · rw [if_neg h, if_neg (by omega)]
        rfl
    · rw [lopt, ropt]
      by_cases h : 0 < t
      · rw [if_pos h, if_pos (by omega)]
        exact congrArg some (by show -t + 1 = -(t - 1); omega)
      · rw [if_neg h, if_neg (by omega)]
        rfl
  | succ p ih =>
    intro t
    obtain ⟨i1, i2⟩ := ih (t / 2)
    refine ⟨?_, ?_⟩
    · rw [lopt, ropt]
      by_cases h : t % 2 = 0
      · rw [if_pos h, if_pos (by omega), show -t / 2 = -(t / 2) by omega, i1]
        cases ropt p (t / 2) with
        | none => rfl
        | some c => exact congrArg some (by show 2 * -c = -(2 * c); omega)
      · rw [if_neg h, if_neg (by omega)]
        exact congrArg some (by show -t - 1 = -(t + 1); omega)
    · rw [lopt, ropt]
      by_cases h : t % 2 = 0
      · rw [if_pos h, if_pos (by omega), show -t / 2 = -(t / 2) by omega, i2]
        cases lopt p (t / 2) with
        | none => rfl
        | some c => exact congrArg some (by show 2 * -c = -(2 * c); omega)
      · rw [if_neg h, if_neg (by omega)]
        exact congrArg some (by show -t + 1 = -(t - 1); omega)
theorem lopt_even (p : Nat) (a : Int) : lopt (p + 1) (2 * a) = (lopt p a).map (2 * ·) ∧ ropt (p + 1) (2 * a) = (ropt p a).map (2 * ·) := by
  have e : 2 * a / 2 = a := by omega
  constructor
  · rw [lopt, if_pos (by omega), e]
  · rw [ropt, if_pos (by omega), e]
theorem lopt_shift (p k : Nat) (a : Int) : lopt (p + k) (2 ^ k * a) = (lopt p a).map (2 ^ k * ·) ∧ ropt (p + k) (2 ^ k * a) = (ropt p a).map (2 ^ k * ·) := by
  induction k with
  | zero =>
    rw [Int.pow_zero, Int.one_mul]
    constructor
    · show lopt p a = _
      cases lopt p a with
      | none => rfl
      | some c => exact congrArg some (by show c = 1 * c; omega)
    · show ropt p a = _
      cases ropt p a with
      | none => rfl
      | some c => exact congrArg some (by show c = 1 * c; omega)
  | succ k ih =>
    rw [pow_split]
    obtain ⟨i1, i2⟩ := ih
    show lopt (p + k + 1) _ = _ ∧ ropt (p + k + 1) _ = _
    rw [(lopt_even _ _).1, (lopt_even _ _).2, i1, i2]
    constructor
    · cases lopt p a with
      | none => rfl
      | some c => exact congrArg some (pow_split k c).symm
    · cases ropt p a with
      | none => rfl
      | some c => exact congrArg some (pow_split k c).symm
/-! ### the simplest number between two bounds -/
structure Sb (lo hi : Option Int) (x : Int) : Prop where
  fl : ∀ a, lo = some a → a < x
  fh : ∀ a, hi = some a → x < a
  ol : ∀ c, lopt 64 x = some c → ∃ a, lo = some a ∧ c ≤ a
  oh : ∀ c, ropt 64 x = some c → ∃ a, hi = some a ∧ a ≤ c
theorem Sb.neg {lo hi : Option Int} {x : Int} (s : Sb (hi.map (- ·)) (lo.map (- ·)) x) : Sb lo hi (-x) := by
  obtain ⟨n1, n2⟩ := lopt_neg 64 x
  refine ⟨fun a ha => ?_, fun a ha => ?_, fun c hc => ?_, fun c hc => ?_⟩
  · have := s.fh (-a) (by rw [ha]; rfl)
    omega
  · have := s.fl (-a) (by rw [ha]; rfl)
    omega
  · rw [n1] at hc
    obtain ⟨d, hd, rfl⟩ := Option.map_eq_some_iff.mp hc
    obtain ⟨a, ha, hle⟩ := s.oh d hd
    obtain ⟨b, hb, rfl⟩ := Option.map_eq_some_iff.mp ha
    exact ⟨b, hb, by omega⟩
  · rw [n2] at hc
    obtain ⟨d, hd, rfl⟩ := Option.map_eq_some_iff.mp hc
    obtain ⟨a, ha, hle⟩ := s.ol d hd
    obtain ⟨b, hb, rfl⟩ := Option.map_eq_some_iff.mp ha
    exact ⟨b, hb, by omega⟩
theorem Sb.zero {lo hi : Option Int} (h1 : ∀ a, lo = some a → a < 0) (h2 : ∀ a, hi = some a → 0 < a) : Sb lo hi 0 := by
  have e : lopt 64 0 = none ∧ ropt 64 0 = none := by
    have := lopt_shift 0 64 0
    rw [Int.mul_zero] at this
    exact ⟨this.1, this.2⟩
  exact ⟨h1, h2, fun c hc => (by rw [e.1] at hc; cases hc), fun c hc => (by rw [e.2] at hc; cases hc)⟩
/-- the number that is tried at the power q: the least multiple of 2 ^ (64 - q) above L -/
def fnd (L : Int) (q : Nat) : Int := 2 ^ (64 - q) * (L / 2 ^ (64 - q) + 1)
theorem fnd_gt (L : Int) (q : Nat) : L < fnd L q := by
  unfold fnd
  have hp := pp2 (64 - q)
  have h1 := Int.mul_ediv_add_emod L (2 ^ (64 - q))
  have h2 := Int.emod_lt_of_pos L hp
  rw [Int.mul_add, Int.mul_one]
  omega
theorem fnd_le (L : Int) (q : Nat) : fnd L q ≤ L + 2 ^ (64 - q) := by
  unfold fnd
  have hp := pp2 (64 - q)
  have h1 := Int.mul_ediv_add_emod L (2 ^ (64 - q))
  have h2 := Int.emod_nonneg L (Int.ne_of_gt hp)
  rw [Int.mul_add, Int.mul_one]
  omega
theorem Sb.first {L : Int} {hi : Option Int} (h0 : 0 ≤ L) (h : ∀ a, hi = some a → fnd L 0 < a) : Sb (some L) hi (fnd L 0) := by
  have hp := pp2 64
  have hn : 0 ≤ L / 2 ^ 64 := Int.ediv_nonneg h0 (Int.le_of_lt hp)
  have e := lopt_shift 0 64 (L / 2 ^ 64 + 1)
  rw [Nat.zero_add] at e
  refine ⟨fun a ha => ?_, h, fun c hc => ?_, fun c hc => ?_⟩
  · rw [← Option.some.inj ha]
    exact fnd_gt L 0
  · have e1 : lopt 64 (fnd L 0) = (lopt 0 (L / 2 ^ 64 + 1)).map (2 ^ 64 * ·) := e.1
    rw [e1, lopt, if_pos (by omega)] at hc
    have e2 := Option.some.inj hc
    refine ⟨L, rfl, ?_⟩
    rw [← e2]
    have h1 := Int.mul_ediv_add_emod L (2 ^ 64)
    have h2 := Int.emod_nonneg L (Int.ne_of_gt hp)
    show 2 ^ 64 * (L / 2 ^ 64 + 1 - 1) ≤ L
    rw [show L / 2 ^ 64 + 1 - 1 = L / 2 ^ 64 by omega]
    omega
  · have e1 : ropt 64 (fnd L 0) = (ropt 0 (L / 2 ^ 64 + 1)).map (2 ^ 64 * ·) := e.2
    rw [e1, ropt, if_neg (by omega)] at hc
    cases hc
/-- at a later power: the one before did not fit -/
theorem Sb.later {L h : Int} {q : Nat} (hq : q + 1 ≤ 64) (h1 : fnd L (q + 1) < h) (h2 : h ≤ fnd L q) : (L / 2 ^ (64 - (q + 1)) + 1) % 2 = 1 ∧ Sb (some L) (some h) (fnd L (q + 1)) := by
  have ek : 64 - q = (64 - (q + 1)) + 1 := by omega
  generalize ej : 64 - (q + 1) = j at ek
  have hp := pp2 j
  have e1 : fnd L (q + 1) = 2 ^ j * (L / 2 ^ j + 1) := by unfold fnd; rw [ej]
  have e2 : fnd L q = 2 ^ (j + 1) * (L / 2 ^ (j + 1) + 1) := by unfold fnd; rw [ek]
  have e3 : L / 2 ^ (j + 1) = L / 2 ^ j / 2 := by rw [Int.pow_succ, Int.ediv_ediv_of_nonneg (Int.le_of_lt hp)]
  rw [e1] at h1
  rw [e2, e3, pow_split] at h2
  have f1 := Int.mul_ediv_add_emod L (2 ^ j)
  have f2 := Int.emod_nonneg L (Int.ne_of_gt hp)
  have f3 := Int.emod_lt_of_pos L hp
  generalize L / 2 ^ j = m at *
  have even : m % 2 = 0 := by
    by_cases z : m % 2 = 0
    · exact z
    · have e4 : 2 * (2 ^ j * (m / 2 + 1)) = 2 ^ j * (m + 1) := by
        rw [Int.mul_left_comm, show 2 * (m / 2 + 1) = m + 1 by omega]
      omega
  refine ⟨by omega, ?_⟩
  rw [e1]
  have e5 := lopt_shift (64 - j) j (m + 1)
  rw [show 64 - j + j = 64 by omega] at e5
  have ep : 64 - j = (63 - j) + 1 := by omega
  refine ⟨fun a ha => ?_, fun a ha => ?_, fun c hc => ?_, fun c hc => ?_⟩
  · rw [← Option.some.inj ha, Int.mul_add, Int.mul_one]
    omega
  · rw [← Option.some.inj ha]
    exact h1
  · rw [e5.1, ep, lopt, if_neg (by omega)] at hc
    refine ⟨L, rfl, ?_⟩
    rw [← Option.some.inj hc]
    show 2 ^ j * (m + 1 - 1) ≤ L
    rw [show m + 1 - 1 = m by omega]
    omega
  · rw [e5.2, ep, ropt, if_neg (by omega)] at hc
    refine ⟨h, rfl, ?_⟩
    rw [← Option.some.inj hc]
    show h ≤ 2 ^ j * (m + 1 + 1)
    have e6 : 2 * (2 ^ j * (m / 2 + 1)) = 2 ^ j * (m + 1 + 1) := by
      rw [Int.mul_left_comm, show 2 * (m / 2 + 1) = m + 1 + 1 by omega]
    omega
/-- a game with such options is this number -/
theorem Sb.al {g : G} {x : Int} {lo hi : Option Int} (s : Sb lo hi x) (h1 : ∀ l ∈ g.left, ∃ a b, lo = some a ∧ b ≤ a ∧ Al l (form 64 b)) (h2 : ∀ a, lo = some a → ∃ l ∈ g.left, Al l (form 64 a))
    (k1 : ∀ r ∈ g.right, ∃ a b, hi = some a ∧ a ≤ b ∧ Al r (form 64 b)) (k2 : ∀ a, hi = some a → ∃ r ∈ g.right, Al r (form 64 a)) : Al g (form 64 x) := by
  obtain ⟨fl, fr⟩ := form_lr 64 x
  refine simplest_al (fun l hl q => ?_) (fun r hr q => ?_) (fun y hy => ?_) (fun y hy => ?_)
  · obtain ⟨a, b, e1, e2, e3⟩ := h1 l hl
    have := s.fl a e1
    have := form_le.mp (le_trans q e3.1)
    omega
  · obtain ⟨a, b, e1, e2, e3⟩ := k1 r hr
    have := s.fh a e1
    have := form_le.mp (le_trans e3.2 q)
    omega
  · rw [fl] at hy
    obtain ⟨c, hc, rfl⟩ := List.mem_map.mp hy
    obtain ⟨a, ha, hle⟩ := s.ol c (by simpa using hc)
    obtain ⟨l, hl, e⟩ := h2 a ha
    exact ⟨l, hl, le_trans (form_le.mpr hle) e.2⟩
  · rw [fr] at hy
    obtain ⟨c, hc, rfl⟩ := List.mem_map.mp hy
    obtain ⟨a, ha, hle⟩ := s.oh c (by simpa using hc)
    obtain ⟨r, hr, e⟩ := k2 a ha
    exact ⟨r, hr, le_trans e.1 (form_le.mpr hle)⟩
end SG
end
section
set_option autoImplicit false
namespace SG
/-! sums by their options; the yard as a list of nodes -/
def IsSum (s x y : G) : Prop :=
  (∀ l, ∀ _h : l ∈ s.left, (∃ a, ∃ _h2 : a ∈ x.left, IsSum l a y) ∨ (∃ b, ∃ _h2 : b ∈ y.left, IsSum l x b)) ∧
  (∀ a, ∀ _h : a ∈ x.left, ∃ l, ∃ _h2 : l ∈ s.left, IsSum l a y) ∧ (∀ b, ∀ _h : b ∈ y.left, ∃ l, ∃ _h2 : l ∈ s.left, IsSum l x b) ∧
  (∀ l, ∀ _h : l ∈ s.right, (∃ a, ∃ _h2 : a ∈ x.right, IsSum l a y) ∨ (∃ b, ∃ _h2 : b ∈ y.right, IsSum l x b)) ∧
  (∀ a, ∀ _h : a ∈ x.right, ∃ l, ∃ _h2 : l ∈ s.right, IsSum l a y) ∧ (∀ b, ∀ _h : b ∈ y.right, ∃ l, ∃ _h2 : l ∈ s.right, IsSum l x b)
termination_by sizeOf s + sizeOf x + sizeOf y
decreasing_by
  · have := sz_left _h; have := sz_left _h2; omega
  · have := sz_left _h; have := sz_left _h2; omega
  · have := sz_left _h; have := sz_left _h2; omega
  · have := sz_left _h; have := sz_left _h2; omega
  · have := sz_right _h; have := sz_right _h2; omega
  · have := sz_right _h; have := sz_right _h2; omega
  · have := sz_right _h; have := sz_right _h2; omega
  · have := sz_right _h; have := sz_right _h2; omega
structure SumL (s x y : G) : Prop where
  l : ∀ l ∈ s.left, (∃ a ∈ x.left, IsSum l a y) ∨ (∃ b ∈ y.left, IsSum l x b)
  lx : ∀ a ∈ x.left, ∃ l ∈ s.left, IsSum l a y
  ly : ∀ b ∈ y.left, ∃ l ∈ s.left, IsSum l x b
  r : ∀ l ∈ s.right, (∃ a ∈ x.right, IsSum l a y) ∨ (∃ b ∈ y.right, IsSum l x b)
  rx : ∀ a ∈ x.right, ∃ l ∈ s.right, IsSum l a y
  ry : ∀ b ∈ y.right, ∃ l ∈ s.right, IsSum l x b
theorem isSum_iff {s x y : G} : IsSum s x y ↔ SumL s x y := by
  rw [IsSum]
  constructor
  · rintro ⟨h1, h2, h3, h4, h5, h6⟩
    refine ⟨fun l h => ?_, fun a h => ?_, fun a h => ?_, fun l h => ?_, fun a h => ?_, fun a h => ?_⟩
    · rcases h1 l h with ⟨a, h, q⟩ | ⟨a, h, q⟩
      · exact .inl ⟨a, h, q⟩
      · exact .inr ⟨a, h, q⟩
    · obtain ⟨l, h, q⟩ := h2 a h; exact ⟨l, h, q⟩
    · obtain ⟨l, h, q⟩ := h3 a h; exact ⟨l, h, q⟩
    · rcases h4 l h with ⟨a, h, q⟩ | ⟨a, h, q⟩
      · exact .inl ⟨a, h, q⟩
      · exact .inr ⟨a, h, q⟩
    · obtain ⟨l, h, q⟩ := h5 a h; exact ⟨l, h, q⟩
    · obtain ⟨l, h, q⟩ := h6 a h; exact ⟨l, h, q⟩
  · rintro ⟨h1, h2, h3, h4, h5, h6⟩
    refine ⟨fun l h => ?_, fun a h => ?_, fun a h => ?_, fun l h => ?_, fun a h => ?_, fun a h => ?_⟩
    · rcases h1 l h with ⟨a, h, q⟩ | ⟨a, h, q⟩
      · exact .inl ⟨a, h, q⟩
      · exact .inr ⟨a, h, q⟩
    · obtain ⟨l, h, q⟩ := h2 a h; exact ⟨l, h, q⟩
    · obtain ⟨l, h, q⟩ := h3 a h; exact ⟨l, h, q⟩
    · rcases h4 l h with ⟨a, h, q⟩ | ⟨a, h, q⟩
      · exact .inl ⟨a, h, q⟩
      · exact .inr ⟨a, h, q⟩
    · obtain ⟨l, h, q⟩ := h5 a h; exact ⟨l, h, q⟩
    · obtain ⟨l, h, q⟩ := h6 a h; exact ⟨l, h, q⟩
theorem isSum_al_aux (n : Nat) : ∀ s x y : G, sizeOf s + sizeOf x + sizeOf y ≤ n → IsSum s x y → Al s (add x y) := by
  induction n with
  | zero =>
    intro s x y h
    cases s
    simp only [G.mk.sizeOf_spec] at h
    omega
  | succ n ih =>
    intro s x y h q
    obtain ⟨h1, h2, h3, h4, h5, h6⟩ := isSum_iff.mp q
    refine al_of (fun l hl => ?_) (fun l hl => ?_) (fun l hl => ?_) (fun l hl => ?_)
    · have := sz_left hl
      rcases h1 l hl with ⟨a, ha, k⟩ | ⟨a, ha, k⟩
      · have := sz_left ha
        exact ⟨_, mem_add_left.mpr (.inl ⟨a, ha, rfl⟩), (ih l a y (by omega) k).1⟩
      · have := sz_left ha
        exact ⟨_, mem_add_left.mpr (.inr ⟨a, ha, rfl⟩), (ih l x a (by omega) k).1⟩
    · rcases mem_add_left.mp hl with ⟨a, ha, rfl⟩ | ⟨a, ha, rfl⟩
      · have := sz_left ha
        obtain ⟨l, hl, k⟩ := h2 a ha
        have := sz_left hl
        exact ⟨l, hl, (ih l a y (by omega) k).2⟩
      · have := sz_left ha
        obtain ⟨l, hl, k⟩ := h3 a ha
        have := sz_left hl
        exact ⟨l, hl, (ih l x a (by omega) k).2⟩
    · have := sz_right hl
      rcases h4 l hl with ⟨a, ha, k⟩ | ⟨a, ha, k⟩
      · have := sz_right ha
        exact ⟨_, mem_add_right.mpr (.inl ⟨a, ha, rfl⟩), (ih l a y (by omega) k).2⟩
      · have := sz_right ha
        exact ⟨_, mem_add_right.mpr (.inr ⟨a, ha, rfl⟩), (ih l x a (by omega) k).2⟩
    · rcases mem_add_right.mp hl with ⟨a, ha, rfl⟩ | ⟨a, ha, rfl⟩
      · have := sz_right ha
        obtain ⟨l, hl, k⟩ := h5 a ha
        have := sz_right hl
        exact ⟨l, hl, (ih l a y (by omega) k).1⟩
      · have := sz_right ha
        obtain ⟨l, hl, k⟩ := h6 a ha
        have := sz_right hl
        exact ⟨l, hl, (ih l x a (by omega) k).1⟩
theorem isSum_al {s x y : G} (h : IsSum s x y) : Al s (add x y) := isSum_al_aux _ s x y (Nat.le_refl _) h
theorem isSum_ht_aux (n : Nat) : ∀ s x y : G, sizeOf s ≤ n → IsSum s x y → ht s ≤ ht x + ht y := by
  induction n with
  | zero =>
    intro s x y h
    cases s
    simp only [G.mk.sizeOf_spec] at h
    omega
  | succ n ih =>
    intro s x y h q
    obtain ⟨h1, h2, h3, h4, h5, h6⟩ := isSum_iff.mp q
    by_cases e : ht s = 0
    · omega
    refine ht_le (fun l hl => ?_) (fun l hl => ?_)
    · have := sz_left hl
      rcases h1 l hl with ⟨a, ha, k⟩ | ⟨a, ha, k⟩
      · have := ih l a y (by omega) k; have := ht_left ha; omega
      · have := ih l x a (by omega) k; have := ht_left ha; omega
    · have := sz_right hl
      rcases h4 l hl with ⟨a, ha, k⟩ | ⟨a, ha, k⟩
      · have := ih l a y (by omega) k; have := ht_right ha; omega
      · have := ih l x a (by omega) k; have := ht_right ha; omega
theorem isSum_ht {s x y : G} (h : IsSum s x y) : ht s ≤ ht x + ht y := isSum_ht_aux _ s x y (Nat.le_refl _) h
theorem isSum_symm_aux (n : Nat) : ∀ s x y : G, sizeOf s ≤ n → IsSum s x y → IsSum s y x := by
  induction n with
  | zero =>
    intro s x y h
    cases s
    simp only [G.mk.sizeOf_spec] at h
    omega
  | succ n ih =>
    intro s x y h q
    obtain ⟨h1, h2, h3, h4, h5, h6⟩ := isSum_iff.mp q
    refine isSum_iff.mpr ⟨fun l hl => ?_, fun a ha => ?_, fun a ha => ?_, fun l hl => ?_, fun a ha => ?_, fun a ha => ?_⟩
    · have := sz_left hl
      rcases h1 l hl with ⟨a, ha, k⟩ | ⟨a, ha, k⟩
      · exact .inr ⟨a, ha, ih l a y (by omega) k⟩
      · exact .inl ⟨a, ha, ih l x a (by omega) k⟩
    · obtain ⟨l, hl, k⟩ := h3 a ha
      have := sz_left hl
      exact ⟨l, hl, ih l x a (by omega) k⟩
    · obtain ⟨l, hl, k⟩ := h2 a ha
      have := sz_left hl
      exact ⟨l, hl, ih l a y (by omega) k⟩
    · have := sz_right hl
      rcases h4 l hl with ⟨a, ha, k⟩ | ⟨a, ha, k⟩
      · exact .inr ⟨a, ha, ih l a y (by omega) k⟩
      · exact .inl ⟨a, ha, ih l x a (by omega) k⟩
    · obtain ⟨l, hl, k⟩ := h6 a ha
      have := sz_right hl
      exact ⟨l, hl, ih l x a (by omega) k⟩
    · obtain ⟨l, hl, k⟩ := h5 a ha
      have := sz_right hl
      exact ⟨l, hl, ih l a y (by omega) k⟩
theorem isSum_symm {s x y : G} (h : IsSum s x y) : IsSum s y x := isSum_symm_aux _ s x y (Nat.le_refl _) h
abbrev zero : G := .mk [] []
theorem isSum_zero : ∀ x : G, IsSum x x zero := fun x => by
  refine isSum_iff.mpr ⟨fun l hl => .inl ⟨l, hl, isSum_zero l⟩, fun a ha => ⟨a, ha, isSum_zero a⟩, fun a ha => (by cases ha), fun l hl => .inl ⟨l, hl, isSum_zero l⟩, fun a ha => ⟨a, ha, isSum_zero a⟩, fun a ha => (by cases ha)⟩
termination_by x => sizeOf x
decreasing_by
  · exact sz_left hl
  · exact sz_left ha
  · exact sz_right hl
  · exact sz_right ha
/-- the summands replaced by games with like options -/
theorem isSum_comp_aux (n : Nat) : ∀ s x y u v : G, sizeOf s + sizeOf x + sizeOf y ≤ n → IsSum s x y → IsSum x u zero → IsSum y v zero → IsSum s u v := by
  induction n with
  | zero =>
    intro s x y u v h
    cases s
    simp only [G.mk.sizeOf_spec] at h
    omega
  | succ n ih =>
    intro s x y u v h q p1 p2
    obtain ⟨h1, h2, h3, h4, h5, h6⟩ := isSum_iff.mp q
    obtain ⟨a1, a2, _, a4, a5, _⟩ := isSum_iff.mp p1
    obtain ⟨b1, b2, _, b4, b5, _⟩ := isSum_iff.mp p2
    refine isSum_iff.mpr ⟨fun l hl => ?_, fun a ha => ?_, fun a ha => ?_, fun l hl => ?_, fun a ha => ?_, fun a ha => ?_⟩
    · have := sz_left hl
      rcases h1 l hl with ⟨a, ha, k⟩ | ⟨a, ha, k⟩
      · have := sz_left ha
        rcases a1 a ha with ⟨c, hc, k2⟩ | ⟨c, hc, _⟩
        · exact .inl ⟨c, hc, ih l a y c v (by omega) k k2 p2⟩
        · cases hc
      · have := sz_left ha
        rcases b1 a ha with ⟨c, hc, k2⟩ | ⟨c, hc, _⟩
        · exact .inr ⟨c, hc, ih l x a u c (by omega) k p1 k2⟩
        · cases hc
    · obtain ⟨c, hc, k⟩ := a2 a ha
      obtain ⟨l, hl, k2⟩ := h2 c hc
      have := sz_left hl
      have := sz_left hc
      exact ⟨l, hl, ih l c y a v (by omega) k2 k p2⟩
    · obtain ⟨c, hc, k⟩ := b2 a ha
      obtain ⟨l, hl, k2⟩ := h3 c hc
      have := sz_left hl
      have := sz_left hc
      exact ⟨l, hl, ih l x c u a (by omega) k2 p1 k⟩
    · have := sz_right hl
      rcases h4 l hl with ⟨a, ha, k⟩ | ⟨a, ha, k⟩
      · have := sz_right ha
        rcases a4 a ha with ⟨c, hc, k2⟩ | ⟨c, hc, _⟩
        · exact .inl ⟨c, hc, ih l a y c v (by omega) k k2 p2⟩
        · cases hc
      · have := sz_right ha
        rcases b4 a ha with ⟨c, hc, k2⟩ | ⟨c, hc, _⟩
        · exact .inr ⟨c, hc, ih l x a u c (by omega) k p1 k2⟩
        · cases hc
    · obtain ⟨c, hc, k⟩ := a5 a ha
      obtain ⟨l, hl, k2⟩ := h5 c hc
      have := sz_right hl
      have := sz_right hc
      exact ⟨l, hl, ih l c y a v (by omega) k2 k p2⟩
    · obtain ⟨c, hc, k⟩ := b5 a ha
      obtain ⟨l, hl, k2⟩ := h6 c hc
      have := sz_right hl
      have := sz_right hc
      exact ⟨l, hl, ih l x c u a (by omega) k2 p1 k⟩
theorem isSum_comp {s x y u v : G} (h : IsSum s x y) (hx : IsSum x u zero) (hy : IsSum y v zero) : IsSum s u v := isSum_comp_aux _ s x y u v (Nat.le_refl _) h hx hy
/-! ### the yard -/
structure Nd where
  l : List Nat
  r : List Nat
  g : G
def gv (ns : List Nd) (i : Nat) : G := ((ns[i]?).map Nd.g).getD zero
def lf (ns : List Nd) (i : Nat) : List Nat := ((ns[i]?).map Nd.l).getD []
def rt (ns : List Nd) (i : Nat) : List Nat := ((ns[i]?).map Nd.r).getD []
structure WfY (ns : List Nd) : Prop where
  z : ns[0]? = some ⟨[], [], zero⟩
  so : ∀ (i : Nat) (nd : Nd), ns[i]? = some nd → nd.l.Pairwise (· < ·) ∧ nd.r.Pairwise (· < ·) ∧ (∀ o ∈ nd.l, o < i) ∧ (∀ o ∈ nd.r, o < i) ∧ nd.g = .mk (nd.l.map (gv ns)) (nd.r.map (gv ns))
  uq : ∀ (i j : Nat) (nd nd' : Nd), ns[i]? = some nd → ns[j]? = some nd' → nd.l = nd'.l → nd.r = nd'.r → i = j
theorem gv_at {ns : List Nd} {i : Nat} {nd : Nd} (h : ns[i]? = some nd) : gv ns i = nd.g ∧ lf ns i = nd.l ∧ rt ns i = nd.r := by
  unfold gv lf rt
  rw [h]
  exact ⟨rfl, rfl, rfl⟩
theorem gv_app {ns more : List Nd} {i : Nat} (h : i < ns.length) : gv (ns ++ more) i = gv ns i ∧ lf (ns ++ more) i = lf ns i ∧ rt (ns ++ more) i = rt ns i := by
  unfold gv lf rt
  rw [List.getElem?_append_left h]
  exact ⟨rfl, rfl, rfl⟩
section
variable {ns : List Nd} (w : WfY ns)
include w
theorem WfY.at {i : Nat} (h : i < ns.length) : (lf ns i).Pairwise (· < ·) ∧ (rt ns i).Pairwise (· < ·) ∧ (∀ o ∈ lf ns i, o < i) ∧ (∀ o ∈ rt ns i, o < i) ∧ gv ns i = .mk ((lf ns i).map (gv ns)) ((rt ns i).map (gv ns)) := by
  have e : ns[i]? = some ns[i] := List.getElem?_eq_getElem h
  obtain ⟨e1, e2, e3⟩ := gv_at e
  rw [e1, e2, e3]
  exact w.so i _ e
theorem WfY.left {i : Nat} (h : i < ns.length) : (gv ns i).left = (lf ns i).map (gv ns) := by rw [(w.at h).2.2.2.2]; rfl
theorem WfY.right {i : Nat} (h : i < ns.length) : (gv ns i).right = (rt ns i).map (gv ns) := by rw [(w.at h).2.2.2.2]; rfl
theorem WfY.lo {i o : Nat} (h : i < ns.length) (ho : o ∈ lf ns i) : o < i ∧ o < ns.length := by
  have := (w.at h).2.2.1 o ho
  omega
theorem WfY.ro {i o : Nat} (h : i < ns.length) (ho : o ∈ rt ns i) : o < i ∧ o < ns.length := by
  have := (w.at h).2.2.2.1 o ho
  omega
theorem WfY.hl {i o : Nat} (h : i < ns.length) (ho : o ∈ lf ns i) : ht (gv ns o) < ht (gv ns i) := ht_left (by rw [w.left h]; exact List.mem_map.mpr ⟨o, ho, rfl⟩)
theorem WfY.hr {i o : Nat} (h : i < ns.length) (ho : o ∈ rt ns i) : ht (gv ns o) < ht (gv ns i) := ht_right (by rw [w.right h]; exact List.mem_map.mpr ⟨o, ho, rfl⟩)
theorem WfY.pos : 0 < ns.length := (List.getElem?_eq_some_iff.mp w.z).1
theorem WfY.g0 : gv ns 0 = zero := (gv_at w.z).1
omit w in
theorem sorted_ext : ∀ {l m : List Nat}, l.Pairwise (· < ·) → m.Pairwise (· < ·) → (∀ x, x ∈ l ↔ x ∈ m) → l = m := by
  intro l
  induction l with
  | nil =>
    intro m _ _ h
    cases m with
    | nil => rfl
    | cons b m => exact absurd ((h b).mpr (List.mem_cons_self ..)) (List.not_mem_nil)
  | cons a l ih =>
    intro m h1 h2 h
    cases m with
    | nil => exact absurd ((h a).mp (List.mem_cons_self ..)) (List.not_mem_nil)
    | cons b m =>
      obtain ⟨p1, p2⟩ := List.pairwise_cons.mp h1
      obtain ⟨q1, q2⟩ := List.pairwise_cons.mp h2
      have e : a = b := by
        rcases List.mem_cons.mp ((h a).mp (List.mem_cons_self ..)) with e | e
        · exact e
        · rcases List.mem_cons.mp ((h b).mpr (List.mem_cons_self ..)) with e' | e'
          · exact e'.symm
          · have := p1 b e'
            have := q1 a e
            omega
      subst e
      rw [ih p2 q2 fun x => ⟨fun hx => ?_, fun hx => ?_⟩]
      · rcases List.mem_cons.mp ((h x).mp (List.mem_cons_of_mem _ hx)) with e | e
        · have := p1 x hx
          omega
        · exact e
      · rcases List.mem_cons.mp ((h x).mpr (List.mem_cons_of_mem _ hx)) with e | e
        · have := q1 x hx
          omega
        · exact e
/-- a sum of two games stands once in the yard -/
theorem sum_uniq_aux (n : Nat) : ∀ (i j : Nat) (x y : G), i ≤ n → i < ns.length → j < ns.length → IsSum (gv ns i) x y → IsSum (gv ns j) x y → i = j := by
  induction n with
  | zero =>
    intro i j x y hi h1 h2 k1 k2
    have e : i = 0 := by omega
    subst e
    obtain ⟨a1, a2, a3, a4, a5, a6⟩ := isSum_iff.mp k1
    obtain ⟨b1, b2, b3, b4, b5, b6⟩ := isSum_iff.mp k2
    rw [w.g0] at a1 a2 a3 a4 a5 a6
    have el : lf ns j = [] := by
      cases e : lf ns j with
      | nil => rfl
      | cons o r =>
        have m : gv ns o ∈ (gv ns j).left := by rw [w.left h2, e]; exact List.mem_cons_self ..
        rcases b1 _ m with ⟨a, ha, _⟩ | ⟨a, ha, _⟩
        · obtain ⟨l, hl, _⟩ := a2 a ha
          cases hl
        · obtain ⟨l, hl, _⟩ := a3 a ha
          cases hl
    have er : rt ns j = [] := by
      cases e : rt ns j with
      | nil => rfl
      | cons o r =>
        have m : gv ns o ∈ (gv ns j).right := by rw [w.right h2, e]; exact List.mem_cons_self ..
        rcases b4 _ m with ⟨a, ha, _⟩ | ⟨a, ha, _⟩
        · obtain ⟨l, hl, _⟩ := a5 a ha
          cases hl
        · obtain ⟨l, hl, _⟩ := a6 a ha
          cases hl
    have e : ns[j]? = some ns[j] := List.getElem?_eq_getElem h2
    obtain ⟨_, e2, e3⟩ := gv_at e
    exact w.uq 0 j _ _ w.z e (by rw [← e2, el]) (by rw [← e3, er])
  | succ n ih =>
    intro i j x y hi h1 h2 k1 k2
    obtain ⟨a1, a2, a3, a4, a5, a6⟩ := isSum_iff.mp k1
    obtain ⟨b1, b2, b3, b4, b5, b6⟩ := isSum_iff.mp k2
    rw [w.left h1] at a1 a2 a3
    rw [w.right h1] at a4 a5 a6
    rw [w.left h2] at b1 b2 b3
    rw [w.right h2] at b4 b5 b6
    have el : lf ns i = lf ns j := by
      refine sorted_ext (w.at h1).1 (w.at h2).1 fun o => ⟨fun ho => ?_, fun ho => ?_⟩
      · obtain ⟨o1, o2⟩ := w.lo h1 ho
        rcases a1 _ (List.mem_map.mpr ⟨o, ho, rfl⟩) with ⟨a, ha, k⟩ | ⟨a, ha, k⟩
        · obtain ⟨l, hl, k3⟩ := b2 a ha
          obtain ⟨p, hp, rfl⟩ := List.mem_map.mp hl
          rw [ih o p _ _ (by omega) o2 (w.lo h2 hp).2 k k3]
          exact hp
        · obtain ⟨l, hl, k3⟩ := b3 a ha
          obtain ⟨p, hp, rfl⟩ := List.mem_map.mp hl
          rw [ih o p _ _ (by omega) o2 (w.lo h2 hp).2 k k3]
          exact hp
      · obtain ⟨o1, o2⟩ := w.lo h2 ho
        rcases b1 _ (List.mem_map.mpr ⟨o, ho, rfl⟩) with ⟨a, ha, k⟩ | ⟨a, ha, k⟩
        · obtain ⟨l, hl, k3⟩ := a2 a ha
          obtain ⟨p, hp, rfl⟩ := List.mem_map.mp hl
          have := w.lo h1 hp
          rw [← ih p o _ _ (by omega) (by omega) o2 k3 k]
          exact hp
        · obtain ⟨l, hl, k3⟩ := a3 a ha
          obtain ⟨p, hp, rfl⟩ := List.mem_map.mp hl
          have := w.lo h1 hp
          rw [← ih p o _ _ (by omega) (by omega) o2 k3 k]
          exact hp
    have er : rt ns i = rt ns j := by
      refine sorted_ext (w.at h1).2.1 (w.at h2).2.1 fun o => ⟨fun ho => ?_, fun ho => ?_⟩
      · obtain ⟨o1, o2⟩ := w.ro h1 ho
        rcases a4 _ (List.mem_map.mpr ⟨o, ho, rfl⟩) with ⟨a, ha, k⟩ | ⟨a, ha, k⟩
        · obtain ⟨l, hl, k3⟩ := b5 a ha
          obtain ⟨p, hp, rfl⟩ := List.mem_map.mp hl
          rw [ih o p _ _ (by omega) o2 (w.ro h2 hp).2 k k3]
          exact hp
        · obtain ⟨l, hl, k3⟩ := b6 a ha
          obtain ⟨p, hp, rfl⟩ := List.mem_map.mp hl
          rw [ih o p _ _ (by omega) o2 (w.ro h2 hp).2 k k3]
          exact hp
      · obtain ⟨o1, o2⟩ := w.ro h2 ho
        rcases b4 _ (List.mem_map.mpr ⟨o, ho, rfl⟩) with ⟨a, ha, k⟩ | ⟨a, ha, k⟩
        · obtain ⟨l, hl, k3⟩ := a5 a ha
          obtain ⟨p, hp, rfl⟩ := List.mem_map.mp hl
          have := w.ro h1 hp
          rw [← ih p o _ _ (by omega) (by omega) o2 k3 k]
          exact hp
        · obtain ⟨l, hl, k3⟩ := a6 a ha
          obtain ⟨p, hp, rfl⟩ := List.mem_map.mp hl
          have := w.ro h1 hp
          rw [← ih p o _ _ (by omega) (by omega) o2 k3 k]
          exact hp
    have e1 : ns[i]? = some ns[i] := List.getElem?_eq_getElem h1
    have e2 : ns[j]? = some ns[j] := List.getElem?_eq_getElem h2
    obtain ⟨_, f2, f3⟩ := gv_at e1
    obtain ⟨_, g2, g3⟩ := gv_at e2
    exact w.uq i j _ _ e1 e2 (by rw [← f2, ← g2, el]) (by rw [← f3, ← g3, er])
theorem sum_uniq {i j : Nat} {x y : G} (h1 : i < ns.length) (h2 : j < ns.length) (k1 : IsSum (gv ns i) x y) (k2 : IsSum (gv ns j) x y) : i = j := sum_uniq_aux w i i j x y (Nat.le_refl _) h1 h2 k1 k2
/-- a new node -/
theorem WfY.app {l r : List Nat} (hl : l.Pairwise (· < ·)) (hr : r.Pairwise (· < ·)) (bl : ∀ o ∈ l, o < ns.length) (br : ∀ o ∈ r, o < ns.length) (hn : ∀ (i : Nat) (nd : Nd), ns[i]? = some nd → ¬ (nd.l = l ∧ nd.r = r)) :
    WfY (ns ++ [⟨l, r, .mk (l.map (gv ns)) (r.map (gv ns))⟩]) := by
  have em : ∀ {m : List Nat}, (∀ o ∈ m, o < ns.length) → ∀ more, m.map (gv ns) = m.map (gv (ns ++ more)) := fun {m} hm more => List.map_congr_left fun o ho => (gv_app (hm o ho)).1.symm
  have cases' : ∀ {i : Nat} {nd : Nd}, (ns ++ [⟨l, r, .mk (l.map (gv ns)) (r.map (gv ns))⟩])[i]? = some nd → (i < ns.length ∧ ns[i]? = some nd) ∨ (i = ns.length ∧ nd = ⟨l, r, .mk (l.map (gv ns)) (r.map (gv ns))⟩) := fun {i nd} h => by
    by_cases hi : i < ns.length
    · rw [List.getElem?_append_left hi] at h
      exact .inl ⟨hi, h⟩
    · rw [List.getElem?_append_right (by omega)] at h
      have : i - ns.length = 0 := by
        by_cases z : i - ns.length = 0
        · exact z
        · rw [List.getElem?_eq_none (by simp; omega)] at h
          cases h
      rw [this] at h
      exact .inr ⟨by omega, (Option.some.inj h).symm⟩
  refine ⟨?_, fun i nd h => ?_, fun i j nd nd' h h' e e' => ?_⟩
  · rw [List.getElem?_append_left w.pos]
    exact w.z
  · rcases cases' h with ⟨hi, h⟩ | ⟨hi, rfl⟩
    · obtain ⟨s1, s2, s3, s4, s5⟩ := w.so i nd h
      refine ⟨s1, s2, s3, s4, ?_⟩
      rw [s5, em (fun o ho => by have := s3 o ho; omega), em (fun o ho => by have := s4 o ho; omega)]
    · rw [hi]
      exact ⟨hl, hr, bl, br, by rw [← em bl, ← em br]⟩
  · rcases cases' h with ⟨hi, h⟩ | ⟨hi, rfl⟩
    · rcases cases' h' with ⟨hj, h'⟩ | ⟨hj, rfl⟩
      · exact w.uq i j nd nd' h h' e e'
      · exact absurd ⟨e, e'⟩ (hn i nd h)
    · rcases cases' h' with ⟨hj, h'⟩ | ⟨hj, rfl⟩
      · exact absurd ⟨e.symm, e'.symm⟩ (hn j nd' h')
      · rw [hi, hj]
end
end SG
end
section
set_option autoImplicit false
namespace SG
/-! the potential of a list of options -/
section
variable {α : Type}
theorem sum_sub (f : α → Nat) : ∀ {L M : List α}, L.Nodup → (∀ x ∈ L, x ∈ M) → (L.map f).sum ≤ (M.map f).sum := by
  intro L
  induction L with
  | nil => intro M _ _; exact Nat.zero_le _
  | cons a L ih =>
    intro M hn hs
    obtain ⟨n1, n2⟩ := List.nodup_cons.mp hn
    obtain ⟨s, t, rfl⟩ := List.append_of_mem (hs a (List.mem_cons_self ..))
    have k := ih (M := s ++ t) n2 fun x hx => by
      have m := hs x (List.mem_cons_of_mem _ hx)
      rcases List.mem_append.mp m with m | m
      · exact List.mem_append_left _ m
      · rcases List.mem_cons.mp m with rfl | m
        · exact absurd hx n1
        · exact List.mem_append_right _ m
    simp only [List.map_cons, List.sum_cons, List.map_append, List.sum_append] at k ⊢
    omega
theorem sum_le_len {f : α → Nat} {n : Nat} : ∀ {L : List α}, (∀ x ∈ L, f x ≤ n) → (L.map f).sum ≤ n * L.length
  | [], _ => by simp
  | a :: L, h => by
    have h1 := h a (List.mem_cons_self ..)
    have h2 := sum_le_len (f := f) (n := n) (L := L) fun x hx => h x (List.mem_cons_of_mem _ hx)
    simp only [List.map_cons, List.sum_cons, List.length_cons, Nat.mul_add, Nat.mul_one]
    omega
theorem sum_add {f g : α → Nat} : ∀ L : List α, (L.map fun x => f x + g x).sum = (L.map f).sum + (L.map g).sum
  | [] => rfl
  | a :: L => by
    have := sum_add (f := f) (g := g) L
    simp only [List.map_cons, List.sum_cons]
    omega
theorem sum_mono {f g : α → Nat} : ∀ {L : List α}, (∀ x ∈ L, f x ≤ g x) → (L.map f).sum ≤ (L.map g).sum
  | [], _ => Nat.le_refl _
  | a :: L, h => by
    have h1 := h a (List.mem_cons_self ..)
    have h2 := sum_mono (f := f) (g := g) (L := L) fun x hx => h x (List.mem_cons_of_mem _ hx)
    simp only [List.map_cons, List.sum_cons]
    omega
theorem len_sub {L M : List α} (h : L.Nodup) (k : ∀ x ∈ L, x ∈ M) : L.length ≤ M.length := by
  have q := sum_sub (fun _ => 1) h k
  have e : ∀ L : List α, (L.map fun _ => 1).sum = L.length := fun L => by
    induction L with
    | nil => rfl
    | cons a L ih => simp only [List.map_cons, List.sum_cons, List.length_cons]; omega
  rw [e, e] at q
  exact q
theorem nodup_map {β : Type} {f : α → β} : ∀ {L : List α}, L.Nodup → (∀ x ∈ L, ∀ y ∈ L, f x = f y → x = y) → (L.map f).Nodup
  | [], _, _ => List.nodup_nil
  | a :: L, h, k => by
    obtain ⟨n1, n2⟩ := List.nodup_cons.mp h
    refine List.nodup_cons.mpr ⟨fun m => ?_, nodup_map n2 fun x hx y hy => k x (List.mem_cons_of_mem _ hx) y (List.mem_cons_of_mem _ hy)⟩
    obtain ⟨b, hb, e⟩ := List.mem_map.mp m
    have := k b (List.mem_cons_of_mem _ hb) a (List.mem_cons_self ..) e
    exact n1 (this ▸ hb)
/-- as many as classes, if the class tells the member -/
theorem classes {L : List α} {n : Nat} (h : L.Nodup) (c : α → Nat) (hc : ∀ x ∈ L, c x < n) (hi : ∀ x ∈ L, ∀ y ∈ L, c x = c y → x = y) : L.length ≤ n := by
  have q := len_sub (nodup_map h hi) (M := List.range n) fun x hx => by
    obtain ⟨a, ha, rfl⟩ := List.mem_map.mp hx
    exact List.mem_range.mpr (hc a ha)
  rwa [List.length_map, List.length_range] at q
def Dom (le : α → α → Prop) (L : List α) (o : α) : Prop := ∃ y ∈ L, le o y ∧ ¬ le y o
open Classical in
noncomputable def psi (le : α → α → Prop) (w : α → Nat) (L : List α) : Nat := (L.map fun o => if Dom le L o then 1 else w o).sum
variable {le : α → α → Prop} {w : α → Nat}
open Classical in
theorem psi_drop (tr : ∀ x y z, le x y → le y z → le x z) (w1 : ∀ x, 1 ≤ w x) {L L' : List α} {o y : α} (hn : L'.Nodup) (ho : o ∈ L) (hno : o ∉ L') (hy : y ∈ L') (hle : le o y) (h1 : ∀ x ∈ L', x ∈ L) (h2 : ∀ x ∈ L, x = o ∨ x ∈ L') :
    psi le w L' + 1 ≤ psi le w L := by
  have same : ∀ x, Dom le L' x ↔ Dom le L x := fun x => by
    constructor
    · rintro ⟨z, hz, a, b⟩
      exact ⟨z, h1 z hz, a, b⟩
    · rintro ⟨z, hz, a, b⟩
      rcases h2 z hz with rfl | hz
      · exact ⟨y, hy, tr _ _ _ a hle, fun q => b (tr _ _ _ hle q)⟩
      · exact ⟨z, hz, a, b⟩
  have k := sum_sub (fun o => if Dom le L o then 1 else w o) (L := o :: L') (M := L) (List.nodup_cons.mpr ⟨hno, hn⟩) fun x hx => by
    rcases List.mem_cons.mp hx with rfl | hx
    · exact ho
    · exact h1 x hx
  have e : psi le w L' = (L'.map fun o => if Dom le L o then 1 else w o).sum := by
    unfold psi
    congr 1
    refine List.map_congr_left fun x _ => ?_
    by_cases h : Dom le L x
    · rw [if_pos h, if_pos ((same x).mpr h)]
    · rw [if_neg h, if_neg fun q => h ((same x).mp q)]
  rw [List.map_cons, List.sum_cons] at k
  have o1 : 1 ≤ (if Dom le L o then 1 else w o) := by
    split
    · omega
    · exact w1 o
  unfold psi at e ⊢
  omega
open Classical in
theorem psi_le {L : List α} (w1 : ∀ x, 1 ≤ w x) : psi le w L ≤ (L.map w).sum := sum_mono fun x _ => by
  split
  · exact w1 x
  · exact Nat.le_refl _
open Classical in
theorem psi_nodom {L : List α} (h : ∀ x ∈ L, ¬ Dom le L x) : psi le w L = (L.map w).sum := by
  unfold psi
  congr 1
  exact List.map_congr_left fun x hx => if_neg (h x hx)
theorem psi_back (w1 : ∀ x, 1 ≤ w x) {L L' A : List α} {o : α} (hn : L'.Nodup) (ho : o ∈ L) (nd : ∀ x ∈ L, ¬ Dom le L x) (h1 : ∀ x ∈ L', (x ∈ L ∧ x ≠ o) ∨ x ∈ A) (hA : (A.map w).sum + 1 ≤ w o) :
    psi le w L' + 1 ≤ psi le w L := by
  have k0 := psi_le (le := le) (L := L') w1
  rw [psi_nodom nd]
  obtain ⟨s, t, rfl⟩ := List.append_of_mem ho
  have k1 := sum_sub w (L := L') (M := (s ++ t) ++ A) hn fun x hx => by
    rcases h1 x hx with ⟨m, ne⟩ | m
    · refine List.mem_append_left _ ?_
      rcases List.mem_append.mp m with m | m
      · exact List.mem_append_left _ m
      · rcases List.mem_cons.mp m with e | m
        · exact absurd e ne
        · exact List.mem_append_right _ m
    · exact List.mem_append_right _ m
  simp only [List.map_append, List.sum_append, List.map_cons, List.sum_cons] at k1 ⊢
  omega
open Classical in
/-- classes whose members can be told apart: of each at most one is not worse than another one -/
theorem psi_class {L : List α} {n W : Nat} (hn : L.Nodup) (an : ∀ x ∈ L, ∀ y ∈ L, le x y → le y x → x = y) (c : α → Nat)
    (hc : ∀ x ∈ L, ¬ Dom le L x → c x < n ∧ w x ≤ W) (cmp : ∀ x ∈ L, ∀ y ∈ L, ¬ Dom le L x → ¬ Dom le L y → c x = c y → le x y ∨ le y x) : psi le w L ≤ n * W + L.length := by
  have h1 : psi le w L ≤ (L.map fun x => (if Dom le L x then 0 else W) + 1).sum := sum_mono fun x hx => by
    split
    · omega
    · next h => have := (hc x hx h).2; omega
  rw [sum_add] at h1
  have h2 : (L.map fun _ => 1).sum ≤ 1 * L.length := sum_le_len fun _ _ => Nat.le_refl _
  have h3 : (L.map fun x => if Dom le L x then 0 else W).sum = ((L.filter fun x => ¬ Dom le L x).map fun _ => W).sum := by
    have g : ∀ M : List α, (M.map fun x => if Dom le L x then 0 else W).sum = ((M.filter fun x => ¬ Dom le L x).map fun _ => W).sum := fun M => by
      induction M with
      | nil => rfl
      | cons a M ih =>
        by_cases h : Dom le L a
        · rw [List.map_cons, List.sum_cons, if_pos h, List.filter_cons_of_neg (by simpa using h), ih, Nat.zero_add]
        · rw [List.map_cons, List.sum_cons, if_neg h, List.filter_cons_of_pos (by simpa using h), List.map_cons, List.sum_cons, ih]
    exact g L
  have h4 : ((L.filter fun x => ¬ Dom le L x).map fun _ => W).sum ≤ W * (L.filter fun x => ¬ Dom le L x).length := sum_le_len fun _ _ => Nat.le_refl _
  have mem : ∀ x ∈ L.filter fun x => ¬ Dom le L x, x ∈ L ∧ ¬ Dom le L x := fun x hx => by
    have := List.mem_filter.mp hx
    exact ⟨this.1, by simpa using this.2⟩
  have h5 : (L.filter fun x => ¬ Dom le L x).length ≤ n := classes (hn.filter _) c (fun x hx => (hc x (mem x hx).1 (mem x hx).2).1) fun x hx y hy e => by
    obtain ⟨x1, x2⟩ := mem x hx
    obtain ⟨y1, y2⟩ := mem y hy
    rcases cmp x x1 y y1 x2 y2 e with q | q
    · by_cases q2 : le y x
      · exact an x x1 y y1 q q2
      · exact absurd ⟨y, y1, q, q2⟩ x2
    · by_cases q2 : le x y
      · exact an x x1 y y1 q2 q
      · exact absurd ⟨x, x1, q, q2⟩ y2
  have h6 : W * (L.filter fun x => ¬ Dom le L x).length ≤ W * n := Nat.mul_le_mul_left _ h5
  rw [Nat.mul_comm n W]
  omega
end
end SG
end
section
set_option autoImplicit false
namespace SG
/-! sides; canonical games; bounds by labels -/
def opt (s : Bool) (g : G) : List G := if s then g.left else g.right
def leS (s : Bool) (x y : G) : Prop := if s then Le x y else Le y x
def wS (s : Bool) (g : G) : Nat := if s then wL g else wR g
def lamS (s : Bool) (g : G) : Nat := if s then lamL g else lamR g
theorem leS_trans (s : Bool) {x y z : G} (h : leS s x y) (k : leS s y z) : leS s x z := by
  cases s
  · exact le_trans k h
  · exact le_trans h k
theorem leS_al {s : Bool} {x y : G} : leS s x y ∧ leS s y x ↔ Al x y := by
  cases s
  · exact ⟨fun h => ⟨h.2, h.1⟩, fun h => ⟨h.2, h.1⟩⟩
  · exact Iff.rfl
theorem leS_of {s : Bool} {x y : G} (h : Al x y) : leS s x y := (leS_al.mpr h).1
theorem wS_one (s : Bool) (g : G) : 1 ≤ wS s g := by
  cases s
  · show 1 ≤ wR g; unfold wR; omega
  · show 1 ≤ wL g; unfold wL; omega
theorem lamS_eq (s : Bool) (g : G) : lamS s g = ((opt s g).map (wS s)).sum := by
  cases s
  · exact lamR_eq g
  · exact lamL_eq g
theorem wS_ge {s : Bool} {o a : G} (h : a ∈ opt (!s) o) : lamS s a + 1 ≤ wS s o := by
  cases s
  · have := wR_ge (show a ∈ o.left from h); show lamR a + 1 ≤ wR o; omega
  · have := wL_ge (show a ∈ o.right from h); show lamL a + 1 ≤ wL o; omega
theorem wS_le {s : Bool} {o : G} {n : Nat} (h : ∀ a ∈ opt (!s) o, kap a ≤ n) : wS s o ≤ 1 + n := by
  cases s
  · exact wR_le h
  · exact wL_le h
theorem kap_opt {s : Bool} {g x : G} (h : x ∈ opt s g) : kap x ≤ kap g := by
  cases s
  · exact kap_right h
  · exact kap_left h
theorem ht_opt {s : Bool} {g x : G} (h : x ∈ opt s g) : ht x < ht g := by
  cases s
  · exact ht_right h
  · exact ht_left h
theorem kap_le' {g : G} {n : Nat} (h1 : ∀ s, lamS s g ≤ n) (h2 : ∀ s, ∀ x ∈ opt s g, kap x ≤ n) : kap g ≤ n :=
  kap_le (h1 true) (h1 false) (h2 true) (h2 false)
/-- canonical all through, options that can be told apart -/
structure CanA (g : G) : Prop where
  c : Can g
  dis : ∀ s, (opt s g).Pairwise fun x y => ¬ Al x y
def CanH (g : G) : Prop := CanA g ∧ (∀ x, ∀ _h : x ∈ g.left, CanH x) ∧ (∀ x, ∀ _h : x ∈ g.right, CanH x)
termination_by sizeOf g
decreasing_by
  · exact sz_left _h
  · exact sz_right _h
theorem canH_iff {g : G} : CanH g ↔ CanA g ∧ ∀ s, ∀ x ∈ opt s g, CanH x := by
  rw [CanH]
  constructor
  · rintro ⟨h1, h2, h3⟩
    refine ⟨h1, fun s x hx => ?_⟩
    cases s
    · exact h3 x hx
    · exact h2 x hx
  · rintro ⟨h1, h2⟩
    exact ⟨h1, fun x hx => h2 true x hx, fun x hx => h2 false x hx⟩
/-- the options of a canonical number are numbers, at most one a side -/
theorem can_num {s : Bool} {g : G} (c : CanA g) (e : Num 64 g) : (∀ x ∈ opt s g, Num 64 x) ∧ (opt s g).length ≤ 1 := by
  obtain ⟨n, e⟩ := e
  have h1 : ∀ x ∈ opt s g, Num 64 x := fun x hx => by
    cases s
    · obtain ⟨t, ht, _⟩ := can_right c.c e hx
      exact ⟨t, ht⟩
    · obtain ⟨t, ht, _⟩ := can_left c.c e hx
      exact ⟨t, ht⟩
  refine ⟨h1, ?_⟩
  have d := c.dis s
  cases el : opt s g with
  | nil => simp
  | cons a r =>
    cases r with
    | nil => simp
    | cons b r =>
      rw [el] at d
      have nab := (List.pairwise_cons.mp d).1 b (List.mem_cons_self ..)
      have ma : a ∈ opt s g := by rw [el]; exact List.mem_cons_self ..
      have mb : b ∈ opt s g := by rw [el]; exact List.mem_cons_of_mem _ (List.mem_cons_self ..)
      obtain ⟨i, hi⟩ := h1 a ma
      obtain ⟨j, hj⟩ := h1 b mb
      refine absurd ?_ nab
      have cmp : Le a b ∨ Le b a := by
        rcases Int.le_total i j with q | q
        · exact .inl (le_trans hi.1 (le_trans (form_le.mpr q) hj.2))
        · exact .inr (le_trans hj.1 (le_trans (form_le.mpr q) hi.2))
      cases s
      · rcases cmp with q | q
        · exact ⟨q, c.c.dr a ma b mb q⟩
        · exact ⟨c.c.dr b mb a ma q, q⟩
      · rcases cmp with q | q
        · exact ⟨q, c.c.dl a ma b mb q⟩
        · exact ⟨c.c.dl b mb a ma q, q⟩
theorem lam_num (n : Nat) : ∀ g : G, ht g ≤ n → CanH g → Num 64 g → ∀ s, 2 * lamS s g ≤ n + 1 := by
  induction n using Nat.strongRecOn with
  | _ n ih =>
    intro g hg c e s
    obtain ⟨c1, c2⟩ := canH_iff.mp c
    obtain ⟨q1, q2⟩ := can_num (s := s) c1 e
    rw [lamS_eq]
    cases el : opt s g with
    | nil => simp
    | cons x r =>
      rw [el] at q2
      have er : r = [] := by
        cases r with
        | nil => rfl
        | cons b r => simp at q2
      subst er
      have mx : x ∈ opt s g := by rw [el]; exact List.mem_cons_self ..
      have hx := ht_opt mx
      obtain ⟨d1, d2⟩ := canH_iff.mp (c2 s x mx)
      obtain ⟨r1, _⟩ := can_num (s := !s) d1 (q1 x mx)
      have w : 2 * wS s x ≤ n + 1 := by
        have k : wS s x ≤ 1 + (n - 1) / 2 := by
          have lm : ∀ a ∈ opt (!s) x, lamS s a ≤ (n - 1) / 2 := fun a ha => by
            have h2 := ht_opt ha
            have := ih (n - 2) (by omega) a (by omega) (d2 _ a ha) (r1 a ha) s
            omega
          cases s
          · have z : maxl (x.left.map lamR) ≤ (n - 1) / 2 := maxl_le fun a ha => by
              obtain ⟨y, hy, rfl⟩ := List.mem_map.mp ha
              exact lm y hy
            show wR x ≤ _
            unfold wR
            omega
          · have z : maxl (x.right.map lamL) ≤ (n - 1) / 2 := maxl_le fun a ha => by
              obtain ⟨y, hy, rfl⟩ := List.mem_map.mp ha
              exact lm y hy
            show wL x ≤ _
            unfold wL
            omega
        omega
      simpa using w
theorem kap_num (n : Nat) : ∀ g : G, ht g ≤ n → n ≤ 16 → CanH g → Num 64 g → kap g ≤ 8 := by
  induction n using Nat.strongRecOn with
  | _ n ih =>
    intro g hg hn c e
    obtain ⟨c1, c2⟩ := canH_iff.mp c
    refine kap_le' (fun s => ?_) fun s x hx => ?_
    · have := lam_num n g hg c e s
      omega
    · have h2 := ht_opt hx
      exact ih (ht x) (by omega) x (Nat.le_refl _) (by omega) (c2 s x hx) ((can_num (s := s) c1 e).1 x hx)
/-! ### labels -/
def Mb (n : Nat) : Nat := [8, 17, 26, 62, 116, 323, 710].getD n 710
def Wb (n : Nat) : Nat := 1 + Mb (n - 1)
def Tb (n : Nat) : Nat := 2 * (Mb n + Wb (n - 1)) + 1
theorem six {Q : Nat → Prop} (h : ∀ n : Fin 7, Q n.1) {n : Nat} (hn : n ≤ 6) : Q n := h ⟨n, by omega⟩
theorem Mb_mono {m n : Nat} (h : m ≤ n) (hn : n ≤ 6) : Mb m ≤ Mb n :=
  (show ∀ a b : Fin 7, a.1 ≤ b.1 → Mb a.1 ≤ Mb b.1 by decide) ⟨m, by omega⟩ ⟨n, by omega⟩ h
theorem Wb_mono {m n : Nat} (h : m ≤ n) (hn : n ≤ 6) : Wb m ≤ Wb n := by
  unfold Wb
  have := Mb_mono (m := m - 1) (n := n - 1) (by omega) (by omega)
  omega
theorem Mb_ge {n : Nat} (hn : n ≤ 6) : 8 ≤ Mb n := Mb_mono (Nat.zero_le n) hn
theorem Wb_ge {n : Nat} (hn : n ≤ 6) : 9 ≤ Wb n := by
  unfold Wb
  have := Mb_ge (n := n - 1) (by omega)
  omega
theorem Mb_eq {n : Nat} (h1 : 1 ≤ n) (hn : n ≤ 6) : n * Wb (n - 1) + 8 = Mb n :=
  (show ∀ a : Fin 7, 1 ≤ a.1 → a.1 * Wb (a.1 - 1) + 8 = Mb a.1 by decide) ⟨n, by omega⟩ h1
/-- what is known of a canonical game by the label of its sum -/
def LK (m : Nat) (g : G) : Prop := kap g ≤ Mb m ∧ ∀ s, ∀ x ∈ opt s g, kap x ≤ Mb (m - 1)
theorem LK.num {m : Nat} {g : G} (hm : m ≤ 6) (h : kap g ≤ 8) : LK m g :=
  ⟨Nat.le_trans h (Mb_ge hm), fun _ _ hx => Nat.le_trans (kap_opt hx) (Nat.le_trans h (Mb_ge (by omega)))⟩
theorem LK.w {m : Nat} {g : G} (h : LK m g) (s : Bool) : wS s g ≤ Wb m := wS_le fun a ha => h.2 _ a ha
theorem kap_w {g : G} (h : kap g ≤ 8) (s : Bool) : wS s g ≤ 9 := wS_le fun a ha => Nat.le_trans (kap_opt ha) h
structure Fam (us : List (Nat × G)) (m : Nat) : Prop where
  lv : ∀ k u, (k, u) ∈ us → k ≤ m
  num : ∀ u, (0, u) ∈ us → ∃ t, u = form 64 t ∧ t % 4 = 0
  one : ∀ k u u', 0 < k → (k, u) ∈ us → (k, u') ∈ us → u = u'
  cl : ∀ k u, (k, u) ∈ us → ∀ s, ∀ x ∈ opt s u, ∃ j, (j, x) ∈ us ∧ (j = 0 ∨ j < k)
  few : ∀ k u, (k, u) ∈ us → ∀ s, (opt s u).length ≤ 4
theorem worse {s : Bool} {c t : Int} {v : G} (h : form 64 c ∈ opt s (form 64 t)) (hc : c % 4 = 0) (ht : t % 4 = 0) (hn : ¬ Num 64 v) :
    ∃ x ∈ opt s v, leS s (add (form 64 c) v) (add (form 64 t) x) ∧ ¬ leS s (add (form 64 t) x) (add (form 64 c) v) := by
  cases s
  · have : t < c := by
      obtain ⟨d, hd, e⟩ := (form_opts 64 t).2 _ h
      rw [form_inj (p := 64) (t := c) (s := d) (by rw [e]; exact al_refl _)]
      exact hd
    exact worse_right (by omega) hn
  · have : c < t := by
      obtain ⟨d, hd, e⟩ := (form_opts 64 t).1 _ h
      rw [form_inj (p := 64) (t := c) (s := d) (by rw [e]; exact al_refl _)]
      exact hd
    exact worse_left (by omega) hn
theorem add_leS {s : Bool} {x y z w : G} (h1 : leS s x y) (h2 : leS s z w) : leS s (add x z) (add y w) := by
  cases s
  · exact add_le h1 h2
  · exact add_le h1 h2
theorem form_cmp (s : Bool) (a b : Int) : leS s (form 64 a) (form 64 b) ∨ leS s (form 64 b) (form 64 a) := by
  cases s
  · rcases Int.le_total a b with q | q
    · exact .inr (form_le.mpr q)
    · exact .inl (form_le.mpr q)
  · rcases Int.le_total a b with q | q
    · exact .inl (form_le.mpr q)
    · exact .inr (form_le.mpr q)
section
variable {us vs : List (Nat × G)} (U : Fam us 4) (V : Fam vs 2) {k j : Nat} {u v : G} (hu : (k, u) ∈ us) (hv : (j, v) ∈ vs) {s : Bool} {g : Nat → G} {L : List Nat} (hn : L.Nodup)
  (an : ∀ x ∈ L, ∀ y ∈ L, Al (g x) (g y) → x = y)
  (cov : ∀ x ∈ L, (Num 64 (g x) → kap (g x) ≤ 8) ∧ ((∃ a k', a ∈ opt s u ∧ (k', a) ∈ us ∧ (k' = 0 ∨ k' < k) ∧ Al (g x) (add a v) ∧ LK (k' + j) (g x)) ∨
    (∃ b j', b ∈ opt s v ∧ (j', b) ∈ vs ∧ (j' = 0 ∨ j' < j) ∧ Al (g x) (add u b) ∧ LK (k + j') (g x))))
  (all1 : ∀ a ∈ opt s u, ∃ x ∈ L, Al (g x) (add a v)) (all2 : ∀ b ∈ opt s v, ∃ x ∈ L, Al (g x) (add u b))
include U V hu hv hn an cov all1 all2
theorem start_len : L.length ≤ 8 := by
  have hx : ∀ x : Nat, ∃ z, x ∈ L → z ∈ ((opt s u).map fun a => add a v) ++ ((opt s v).map fun b => add u b) ∧ Al (g x) z := fun x => by
    by_cases m : x ∈ L
    · rcases (cov x m).2 with ⟨a, _, h1, _, _, h2, _⟩ | ⟨b, _, h1, _, _, h2, _⟩
      · exact ⟨_, fun _ => ⟨List.mem_append_left _ (List.mem_map.mpr ⟨a, h1, rfl⟩), h2⟩⟩
      · exact ⟨_, fun _ => ⟨List.mem_append_right _ (List.mem_map.mpr ⟨b, h1, rfl⟩), h2⟩⟩
    · exact ⟨zero, fun q => absurd q m⟩
  have q := len_sub (nodup_map (f := fun x => (hx x).choose) hn fun x mx y my e => an x mx y my (al_trans ((hx x).choose_spec mx).2 (by
    have e' : (hx x).choose = (hx y).choose := e
    rw [e']
    exact al_symm ((hx y).choose_spec my).2))) (M := ((opt s u).map fun a => add a v) ++ ((opt s v).map fun b => add u b)) fun z hz => by
    obtain ⟨x, mx, rfl⟩ := List.mem_map.mp hz
    exact ((hx x).choose_spec mx).1
  rw [List.length_map, List.length_append, List.length_map, List.length_map] at q
  have := U.few k u hu s
  have := V.few j v hv s
  omega
/-- an option that is not worse than another one: its class, its weight -/
theorem start_nd {x : Nat} (hx : x ∈ L) (nd : ¬ Dom (fun x y => leS s (g x) (g y)) L x) : kap (g x) ≤ Mb (k + j - 1) ∧ wS s (g x) ≤ Wb (k + j - 1) ∧
    ((k = 0 → (∃ a, a ∈ opt s u ∧ Al (g x) (add a v)) → Num 64 v) ∧ (j = 0 → (∃ b, b ∈ opt s v ∧ Al (g x) (add u b)) → Num 64 u)) := by
  have k4 := U.lv k u hu
  have j2 := V.lv j v hv
  have n1 : k = 0 → (∃ a, a ∈ opt s u ∧ Al (g x) (add a v)) → Num 64 v := fun e ⟨a, ha, h⟩ => by
    by_cases nv : Num 64 v
    · exact nv
    · subst e
      obtain ⟨t, rfl, t4⟩ := U.num u hu
      obtain ⟨i, hi, q⟩ := U.cl 0 _ hu s a ha
      have i0 : i = 0 := by omega
      subst i0
      obtain ⟨c, rfl, c4⟩ := U.num a hi
      obtain ⟨b, hb, w1, w2⟩ := worse ha c4 t4 nv
      obtain ⟨y, hy, ey⟩ := all2 b hb
      exact absurd ⟨y, hy, leS_trans s (leS_of h) (leS_trans s w1 (leS_of (al_symm ey))), fun z => w2 (leS_trans s (leS_of (al_symm ey)) (leS_trans s z (leS_of h)))⟩ nd
  have n2 : j = 0 → (∃ b, b ∈ opt s v ∧ Al (g x) (add u b)) → Num 64 u := fun e ⟨b, hb, h⟩ => by
    by_cases nu : Num 64 u
    · exact nu
    · subst e
      obtain ⟨t, rfl, t4⟩ := V.num v hv
      obtain ⟨i, hi, q⟩ := V.cl 0 _ hv s b hb
      have i0 : i = 0 := by omega
      subst i0
      obtain ⟨c, rfl, c4⟩ := V.num b hi
      obtain ⟨a, ha, w1, w2⟩ := worse hb c4 t4 nu
      obtain ⟨y, hy, ey⟩ := all1 a ha
      have h' := al_trans h (add_comm u _)
      have ey' := al_trans ey (add_comm a _)
      exact absurd ⟨y, hy, leS_trans s (leS_of h') (leS_trans s w1 (leS_of (al_symm ey'))), fun z => w2 (leS_trans s (leS_of (al_symm ey')) (leS_trans s z (leS_of h')))⟩ nd
  have fin : kap (g x) ≤ 8 → kap (g x) ≤ Mb (k + j - 1) ∧ wS s (g x) ≤ Wb (k + j - 1) := fun q => ⟨Nat.le_trans q (Mb_ge (by omega)), Nat.le_trans (kap_w q s) (Wb_ge (by omega))⟩
  have num2 : ∀ {a b : G}, Num 64 a → Num 64 b → Al (g x) (add a b) → Num 64 (g x) := fun {a b} ⟨m, hm⟩ ⟨n, hn⟩ h => ⟨m + n, al_trans h (al_trans (add_al hm hn) (add_form 64 m n))⟩
  obtain ⟨z1, z2⟩ := cov x hx
  have both : kap (g x) ≤ Mb (k + j - 1) ∧ wS s (g x) ≤ Wb (k + j - 1) := by
    rcases z2 with ⟨a, k', ha, ma, lt, e, lk⟩ | ⟨b, j', hb, mb, lt, e, lk⟩
    · by_cases k0 : k = 0
      · have nv := n1 k0 ⟨a, ha, e⟩
        have k'0 : k' = 0 := by omega
        subst k'0
        obtain ⟨t, rfl, _⟩ := U.num a ma
        exact fin (z1 (num2 ⟨t, al_refl _⟩ nv e))
      · exact ⟨Nat.le_trans lk.1 (Mb_mono (by omega) (by omega)), Nat.le_trans (lk.w s) (Wb_mono (by omega) (by omega))⟩
    · by_cases j0 : j = 0
      · have nu := n2 j0 ⟨b, hb, e⟩
        have j'0 : j' = 0 := by omega
        subst j'0
        obtain ⟨t, rfl, _⟩ := V.num b mb
        exact fin (z1 (num2 nu ⟨t, al_refl _⟩ e))
      · exact ⟨Nat.le_trans lk.1 (Mb_mono (by omega) (by omega)), Nat.le_trans (lk.w s) (Wb_mono (by omega) (by omega))⟩
  exact ⟨both.1, both.2, n1, n2⟩
theorem start_psi : psi (fun x y => leS s (g x) (g y)) (fun x => wS s (g x)) L ≤ Mb (k + j) + Wb (k + j - 1) ∧ (¬ Num 64 (add u v) → psi (fun x y => leS s (g x) (g y)) (fun x => wS s (g x)) L ≤ Mb (k + j)) := by
  have len := start_len U V hu hv hn an cov all1 all2
  have k4 := U.lv k u hu
  have j2 := V.lv j v hv
  let C : Nat → Nat → Prop := fun x c => (∃ a k', a ∈ opt s u ∧ (k', a) ∈ us ∧ (k' = 0 ∨ k' < k) ∧ Al (g x) (add a v) ∧ ((k = 0 ∧ c = k + j) ∨ (0 < k ∧ c = k'))) ∨
    (∃ b j', b ∈ opt s v ∧ (j', b) ∈ vs ∧ (j' = 0 ∨ j' < j) ∧ Al (g x) (add u b) ∧ ((j = 0 ∧ c = k + j) ∨ (0 < j ∧ c = k + j')))
  have hC : ∀ x : Nat, ∃ c, x ∈ L → C x c := fun x => by
    by_cases m : x ∈ L
    · rcases (cov x m).2 with ⟨a, k', h1, h2, h3, h4, _⟩ | ⟨b, j', h1, h2, h3, h4, _⟩
      · by_cases k0 : k = 0
        · exact ⟨k + j, fun _ => .inl ⟨a, k', h1, h2, h3, h4, .inl ⟨k0, rfl⟩⟩⟩
        · exact ⟨k', fun _ => .inl ⟨a, k', h1, h2, h3, h4, .inr ⟨by omega, rfl⟩⟩⟩
      · by_cases j0 : j = 0
        · exact ⟨k + j, fun _ => .inr ⟨b, j', h1, h2, h3, h4, .inl ⟨j0, rfl⟩⟩⟩
        · exact ⟨k + j', fun _ => .inr ⟨b, j', h1, h2, h3, h4, .inr ⟨by omega, rfl⟩⟩⟩
    · exact ⟨0, fun q => absurd q m⟩
  have anl : ∀ x ∈ L, ∀ y ∈ L, leS s (g x) (g y) → leS s (g y) (g x) → x = y := fun x hx y hy h1 h2 => an x hx y hy (leS_al.mp ⟨h1, h2⟩)
  have numU : ∀ {a : G}, (0, a) ∈ us → ∃ t, a = form 64 t := fun h => let ⟨t, e, _⟩ := U.num _ h; ⟨t, e⟩
  have numV : ∀ {a : G}, (0, a) ∈ vs → ∃ t, a = form 64 t := fun h => let ⟨t, e, _⟩ := V.num _ h; ⟨t, e⟩
  have cmp : ∀ x ∈ L, ∀ y ∈ L, ¬ Dom (fun x y => leS s (g x) (g y)) L x → ¬ Dom (fun x y => leS s (g x) (g y)) L y → (hC x).choose = (hC y).choose → leS s (g x) (g y) ∨ leS s (g y) (g x) := by
    intro x hx y hy _ _ e
    have cx := (hC x).choose_spec hx
    have cy := (hC y).choose_spec hy
    rw [← e] at cy
    generalize (hC x).choose = c at cx cy
    have via : ∀ {p q : G}, Al (g x) p → Al (g y) q → leS s p q ∨ leS s q p → leS s (g x) (g y) ∨ leS s (g y) (g x) := fun ep eq h => by
      rcases h with h | h
      · exact .inl (leS_trans s (leS_of ep) (leS_trans s h (leS_of (al_symm eq))))
      · exact .inr (leS_trans s (leS_of eq) (leS_trans s h (leS_of (al_symm ep))))
    rcases cx with ⟨a, k', a1, a2, a3, a4, a5⟩ | ⟨b, j', b1, b2, b3, b4, b5⟩
    · rcases cy with ⟨a', k'', d1, d2, d3, d4, d5⟩ | ⟨b', j'', d1, d2, d3, d4, d5⟩
      · refine via a4 d4 ?_
        by_cases z : k' = 0 ∧ k'' = 0
        · obtain ⟨rfl, rfl⟩ := z
          obtain ⟨t, rfl⟩ := numU a2
          obtain ⟨t', rfl⟩ := numU d2
          rcases form_cmp s t t' with q | q
          · exact .inl (add_leS q (leS_of (al_refl v)))
          · exact .inr (add_leS q (leS_of (al_refl v)))
        · have ek : k' = k'' := by omega
          subst ek
          rw [U.one k' a a' (by omega) a2 d2]
          exact .inl (leS_of (al_refl _))
      · have z : k = 0 ∧ j = 0 ∧ k' = 0 ∧ j'' = 0 := by omega
        obtain ⟨rfl, rfl, rfl, rfl⟩ := z
        obtain ⟨t, rfl⟩ := numU a2
        obtain ⟨t', rfl⟩ := numV d2
        obtain ⟨w, rfl⟩ := numU hu
        obtain ⟨w', rfl⟩ := numV hv
        exact via (al_trans a4 (add_form 64 t w')) (al_trans d4 (add_form 64 w t')) (form_cmp s _ _)
    · rcases cy with ⟨a', k'', d1, d2, d3, d4, d5⟩ | ⟨b', j'', d1, d2, d3, d4, d5⟩
      · have z : k = 0 ∧ j = 0 ∧ k'' = 0 ∧ j' = 0 := by omega
        obtain ⟨rfl, rfl, rfl, rfl⟩ := z
        obtain ⟨t, rfl⟩ := numV b2
        obtain ⟨t', rfl⟩ := numU d2
        obtain ⟨w, rfl⟩ := numU hu
        obtain ⟨w', rfl⟩ := numV hv
        exact via (al_trans b4 (add_form 64 w t)) (al_trans d4 (add_form 64 t' w')) (form_cmp s _ _)
      · refine via b4 d4 ?_
        by_cases z : j' = 0 ∧ j'' = 0
        · obtain ⟨rfl, rfl⟩ := z
          obtain ⟨t, rfl⟩ := numV b2
          obtain ⟨t', rfl⟩ := numV d2
          rcases form_cmp s t t' with q | q
          · exact .inl (add_leS (leS_of (al_refl u)) q)
          · exact .inr (add_leS (leS_of (al_refl u)) q)
        · have ek : j' = j'' := by omega
          subst ek
          rw [V.one j' b b' (by omega) b2 d2]
          exact .inl (leS_of (al_refl _))
  have numX : ∀ x ∈ L, ¬ Dom (fun x y => leS s (g x) (g y)) L x → (hC x).choose < k + j ∨ ((hC x).choose = k + j ∧ Num 64 (add u v)) := fun x hx nd => by
    obtain ⟨_, _, n1, n2⟩ := start_nd U V hu hv hn an cov all1 all2 hx nd
    have cx := (hC x).choose_spec hx
    generalize (hC x).choose = c at cx
    rcases cx with ⟨a, k', a1, a2, a3, a4, a5⟩ | ⟨b, j', b1, b2, b3, b4, b5⟩
    · rcases a5 with ⟨e1, e2⟩ | ⟨e1, e2⟩
      · subst e1
        obtain ⟨w, rfl⟩ := numU hu
        obtain ⟨n, hn⟩ := n1 rfl ⟨a, a1, a4⟩
        exact .inr ⟨e2, w + n, al_trans (add_al (al_refl _) hn) (add_form 64 w n)⟩
      · exact .inl (by omega)
    · rcases b5 with ⟨e1, e2⟩ | ⟨e1, e2⟩
      · subst e1
        obtain ⟨w, rfl⟩ := numV hv
        obtain ⟨n, hn⟩ := n2 rfl ⟨b, b1, b4⟩
        exact .inr ⟨e2, n + w, al_trans (add_al hn (al_refl _)) (add_form 64 n w)⟩
      · exact .inl (by omega)
  refine ⟨?_, fun nn => ?_⟩
  · have q := psi_class (le := fun x y => leS s (g x) (g y)) (w := fun x => wS s (g x)) (n := k + j + 1) (W := Wb (k + j - 1)) hn anl (fun x => (hC x).choose) (fun x hx nd => ⟨by
      rcases numX x hx nd with h | h
      · show (hC x).choose < _; omega
      · show (hC x).choose < _; omega, (start_nd U V hu hv hn an cov all1 all2 hx nd).2.1⟩) cmp
    by_cases z : k + j = 0
    · rw [z] at q ⊢
      have : Mb 0 = 8 := rfl
      rw [this]
      simp only [Nat.zero_add, Nat.one_mul, Nat.zero_sub] at q ⊢
      omega
    · have := Mb_eq (n := k + j) (by omega) (by omega)
      rw [Nat.add_mul, Nat.one_mul] at q
      omega
  · have q := psi_class (le := fun x y => leS s (g x) (g y)) (w := fun x => wS s (g x)) (n := k + j) (W := Wb (k + j - 1)) hn anl (fun x => (hC x).choose) (fun x hx nd => ⟨by
      rcases numX x hx nd with h | h
      · exact h
      · exact absurd h.2 nn, (start_nd U V hu hv hn an cov all1 all2 hx nd).2.1⟩) cmp
    by_cases z : k + j = 0
    · have k0 : k = 0 := by omega
      have j0 : j = 0 := by omega
      subst k0 j0
      obtain ⟨w, rfl⟩ := numU hu
      obtain ⟨w', rfl⟩ := numV hv
      exact absurd ⟨w + w', add_form 64 w w'⟩ nn
    · have := Mb_eq (n := k + j) (by omega) (by omega)
      omega
end
end SG
end
section
set_option autoImplicit false
namespace SG
/-! the books kept: what the program's memos hold, as plain lists -/
abbrev Pu : Type := (Nat × G) × (Nat × G)
def pu (us vs : List (Nat × G)) : List Pu := us.flatMap fun a => vs.map fun b => (a, b)
theorem mem_pu {us vs : List (Nat × G)} {p : Pu} : p ∈ pu us vs ↔ p.1 ∈ us ∧ p.2 ∈ vs := by
  unfold pu
  rw [List.mem_flatMap]
  constructor
  · rintro ⟨a, ha, h⟩
    obtain ⟨b, hb, rfl⟩ := List.mem_map.mp h
    exact ⟨ha, hb⟩
  · rintro ⟨h1, h2⟩
    exact ⟨p.1, h1, List.mem_map.mpr ⟨p.2, h2, rfl⟩⟩
def cost (p : Pu) : Nat := Tb (p.1.1 + p.2.1)
structure Un where
  us : List (Nat × G)
  vs : List (Nat × G)
abbrev Un.all (U : Un) : List Pu := pu U.us U.vs
structure UnOk (U : Un) : Prop where
  u : Fam U.us 4
  v : Fam U.vs 2
  len : U.all.length ≤ 225
  cost : (U.all.map cost).sum ≤ 18000
  hu : ∀ a ∈ U.us, ht a.2 ≤ 9
  hv : ∀ a ∈ U.vs, ht a.2 ≤ 7
def IsP (ns : List Nd) (i : Nat) (p : Pu) : Prop := IsSum (gv ns i) p.1.2 p.2.2
structure Gs where
  ns : List Nd
  al : List ((Nat × Nat) × Bool)
  si : List (Nat × Nat)
  pl : List ((Nat × Nat) × Nat)
  nu : List (Nat × Option (Nat × Dy))
  md : List (Dy × Nat)
  st : List ((Nat × Bool) × (Nat × Dy))
  slack : Nat
  pend : List Pu
  cr : List Pu
abbrev Gs.N (S : Gs) : Nat := S.ns.length
abbrev Gs.g (S : Gs) (i : Nat) : G := gv S.ns i
def InC (S : Gs) (c : Nat) : Prop := ∃ i, (i, c) ∈ S.si
def OKp (S : Gs) (p : Pu) : Prop := p ∈ S.pend ∨ ∃ i f, (i, f) ∈ S.si ∧ i < S.N ∧ IsP S.ns i p
def OKr (S : Gs) (p : Pu) : Prop := p ∈ S.cr ∨ ∃ i, i < S.N ∧ IsP S.ns i p
def optI (s : Bool) (ns : List Nd) (i : Nat) : List Nat := if s then lf ns i else rt ns i
structure SiOk (U : Un) (S : Gs) (i f : Nat) : Prop where
  li : i < S.N
  lf : f < S.N
  can : CanH (S.g f)
  al : Al (S.g f) (S.g i)
  ht : ht (S.g f) ≤ ht (S.g i)
  cl : ∀ s, ∀ o ∈ optI s S.ns f, InC S o
  lab : ∃ p ∈ U.all, Al (S.g f) (add p.1.2 p.2.2)
  lk : ∀ p ∈ U.all, IsP S.ns i p → LK (p.1.1 + p.2.1) (S.g f)
structure PlOk (U : Un) (S : Gs) (i j s : Nat) : Prop where
  li : i < S.N
  lj : j < S.N
  ls : s < S.N
  le : i ≤ j
  sum : IsSum (S.g s) (S.g i) (S.g j)
  lab : ∃ p ∈ U.all, (IsSum (S.g i) p.1.2 zero ∧ IsSum (S.g j) zero p.2.2) ∨ (IsSum (S.g j) p.1.2 zero ∧ IsSum (S.g i) zero p.2.2)
structure Wf (U : Un) (S : Gs) : Prop where
  wy : WfY S.ns
  al : ∀ i j b, ((i, j), b) ∈ S.al → i < S.N ∧ j < S.N ∧ (b = true ↔ Le (S.g j) (S.g i)) ∧ (InC S i ∨ InC S j)
  alk : (S.al.map (·.1)).Nodup
  si : ∀ i f, (i, f) ∈ S.si → SiOk U S i f
  sik : (S.si.map (·.1)).Nodup
  pl : ∀ i j s, ((i, j), s) ∈ S.pl → PlOk U S i j s
  plk : (S.pl.map (·.1)).Nodup
  nu : ∀ f o, (f, o) ∈ S.nu → f < S.N ∧ (o = none → ¬ Num 64 (S.g f)) ∧ ∀ z, o = some z → Al (S.g f) (form 64 (sc z.2))
  nuk : (S.nu.map (·.1)).Nodup
  md : ∀ v i, (v, i) ∈ S.md → i < S.N ∧ Plain v ∧ v.p ≤ 64 ∧ IsSum (S.g i) (form 64 (sc v)) zero
  mdk : (S.md.map (·.1)).Nodup
  st : ∀ i s z, ((i, s), z) ∈ S.st → i < S.N ∧ sc z.2 = stop 64 s (S.g i)
  stk : (S.st.map (·.1)).Nodup
  bud : S.N + S.slack + S.cr.length + (S.pend.map cost).sum ≤ 19000
theorem is_left {ns : List Nd} (w : WfY ns) {i : Nat} (h : i < ns.length) (s : Bool) : opt s (gv ns i) = (optI s ns i).map (gv ns) := by
  cases s
  · exact w.right h
  · exact w.left h
theorem optI_lt {ns : List Nd} (w : WfY ns) {i o : Nat} {s : Bool} (h : i < ns.length) (ho : o ∈ optI s ns i) : o < i ∧ o < ns.length := by
  cases s
  · exact w.ro h ho
  · exact w.lo h ho
theorem optI_ht {ns : List Nd} (w : WfY ns) {i o : Nat} {s : Bool} (h : i < ns.length) (ho : o ∈ optI s ns i) : ht (gv ns o) < ht (gv ns i) :=
  ht_opt (s := s) (by rw [is_left w h s]; exact List.mem_map.mpr ⟨o, ho, rfl⟩)
theorem optI_sorted {ns : List Nd} (w : WfY ns) {i : Nat} {s : Bool} (h : i < ns.length) : (optI s ns i).Pairwise (· < ·) := by
  cases s
  · exact (w.at h).2.1
  · exact (w.at h).1
theorem optI_app {ns more : List Nd} {i : Nat} {s : Bool} (h : i < ns.length) : optI s (ns ++ more) i = optI s ns i := by
  cases s
  · exact (gv_app h).2.2
  · exact (gv_app h).2.1
theorem rise_nodup {l : List Nat} (h : l.Pairwise (· < ·)) : l.Nodup := List.Pairwise.imp (fun h => by omega) h
theorem optI_same {ns : List Nd} (w : WfY ns) {i j : Nat} (hi : i < ns.length) (hj : j < ns.length) (h : ∀ s, optI s ns i = optI s ns j) : i = j := by
  have e1 : ns[i]? = some ns[i] := List.getElem?_eq_getElem hi
  have e2 : ns[j]? = some ns[j] := List.getElem?_eq_getElem hj
  obtain ⟨_, f2, f3⟩ := gv_at e1
  obtain ⟨_, g2, g3⟩ := gv_at e2
  exact w.uq i j _ _ e1 e2 (by rw [← f2, ← g2]; exact h true) (by rw [← f3, ← g3]; exact h false)
section
variable {U : Un} {S : Gs} (w : Wf U S)
include w
theorem Wf.inC {c : Nat} (h : InC S c) : c < S.N ∧ CanH (S.g c) ∧ (∀ s, ∀ o ∈ optI s S.ns c, InC S o) ∧ ∃ p ∈ U.all, Al (S.g c) (add p.1.2 p.2.2) := by
  obtain ⟨i, h⟩ := h
  have q := w.si i c h
  exact ⟨q.lf, q.can, q.cl, q.lab⟩
/-- canonical games that are alike are the same -/
theorem c_uniq_aux (n : Nat) : ∀ i j : Nat, i + j ≤ n → InC S i → InC S j → Al (S.g i) (S.g j) → i = j := by
  induction n with
  | zero => intro i j h _ _ _; omega
  | succ n ih =>
    intro i j h hi hj e
    obtain ⟨li, ci, oi, _⟩ := w.inC hi
    obtain ⟨lj, cj, oj, _⟩ := w.inC hj
    have ki := (canH_iff.mp ci).1.c
    have kj := (canH_iff.mp cj).1.c
    refine optI_same w.wy li lj fun s => sorted_ext (optI_sorted w.wy li) (optI_sorted w.wy lj) fun o => ?_
    have half : ∀ a b : Nat, a < S.N → b < S.N → Can (S.g a) → Can (S.g b) → Al (S.g a) (S.g b) → (∀ o ∈ optI s S.ns a, ∀ x ∈ optI s S.ns b, Al (S.g o) (S.g x) → o = x) → ∀ o ∈ optI s S.ns a, o ∈ optI s S.ns b := by
      intro a b la lb ka kb e un o ho
      have mo : gv S.ns o ∈ opt s (gv S.ns a) := by rw [is_left w.wy la s]; exact List.mem_map.mpr ⟨o, ho, rfl⟩
      have pick : ∀ z ∈ opt s (gv S.ns b), ∃ x ∈ optI s S.ns b, z = gv S.ns x := fun z hz => by
        rw [is_left w.wy lb s] at hz
        obtain ⟨x, hx, rfl⟩ := List.mem_map.mp hz
        exact ⟨x, hx, rfl⟩
      have better : ∀ {p q : G}, Can p → Can q → Al p q → ∀ x ∈ opt s p, ∃ y ∈ opt s q, leS s x y := by
        intro p q kp kq e x hx
        cases s
        · have n1 : ¬ Le x q := fun z => right_nle (g := p) hx (le_trans z e.2)
          rcases not_le.mp n1 with ⟨y, hy, k⟩ | ⟨y, hy, k⟩
          · exact absurd (le_trans e.1 k) (kp.br x hx y hy)
          · exact ⟨y, hy, k⟩
        · have n1 : ¬ Le q x := fun z => left_nle (g := p) hx (le_trans e.1 z)
          rcases not_le.mp n1 with ⟨y, hy, k⟩ | ⟨y, hy, k⟩
          · exact ⟨y, hy, k⟩
          · exact absurd (le_trans k e.2) (kp.bl x hx y hy)
      have ds : ∀ {p : G}, Can p → ∀ x ∈ opt s p, ∀ y ∈ opt s p, leS s x y → leS s y x := by
        intro p kp x hx y hy k
        cases s
        · exact kp.dr y hy x hx k
        · exact kp.dl x hx y hy k
      obtain ⟨y, hy, k1⟩ := better ka kb e _ mo
      obtain ⟨z, hz, k2⟩ := better kb ka (al_symm e) y hy
      have k3 := ds ka _ mo z hz (leS_trans s k1 k2)
      have k4 : leS s y (gv S.ns o) := leS_trans s k2 k3
      obtain ⟨x, hx, rfl⟩ := pick y hy
      rw [un o ho x hx (leS_al.mp ⟨k1, k4⟩)]
      exact hx
    constructor
    · exact fun ho => half i j li lj ki kj e (fun o ho x hx q => ih o x (by
        have := optI_lt w.wy li ho
        have := optI_lt w.wy lj hx
        omega) (oi s o ho) (oj s x hx) q) o ho
    · exact fun ho => half j i lj li kj ki (al_symm e) (fun o ho x hx q => ih o x (by
        have := optI_lt w.wy lj ho
        have := optI_lt w.wy li hx
        omega) (oj s o ho) (oi s x hx) q) o ho
theorem c_uniq {i j : Nat} (hi : InC S i) (hj : InC S j) (e : Al (S.g i) (S.g j)) : i = j := c_uniq_aux w _ i j (Nat.le_refl _) hi hj e
/-- the place of a canonical game's pair -/
theorem c_code : ∃ code : Nat → Nat, (∀ c, InC S c → code c < U.all.length) ∧ ∀ c d, InC S c → InC S d → code c = code d → c = d := by
  have h : ∀ c : Nat, ∃ k : Nat, InC S c → ∃ p, U.all[k]? = some p ∧ Al (S.g c) (add p.1.2 p.2.2) := fun c => by
    by_cases m : InC S c
    · obtain ⟨p, hp, e⟩ := (w.inC m).2.2.2
      obtain ⟨k, hk, q⟩ := List.mem_iff_getElem.mp hp
      exact ⟨k, fun _ => ⟨p, by rw [List.getElem?_eq_getElem hk, q], e⟩⟩
    · exact ⟨0, fun q => absurd q m⟩
  refine ⟨fun c => (h c).choose, fun c m => ?_, fun c d mc md e => ?_⟩
  · obtain ⟨p, hp, _⟩ := (h c).choose_spec m
    exact (List.getElem?_eq_some_iff.mp hp).1
  · obtain ⟨p, hp, e1⟩ := (h c).choose_spec mc
    obtain ⟨q, hq, e2⟩ := (h d).choose_spec md
    have e' : (h c).choose = (h d).choose := e
    rw [e'] at hp
    rw [hp] at hq
    cases Option.some.inj hq
    exact c_uniq w mc md (al_trans e1 (al_symm e2))
theorem Wf.n : S.N ≤ 19000 := by have := w.bud; omega
/-- the memo of the order stays small, with room for one more -/
theorem al_small (ok : UnOk U) : S.al.length ≤ 8550000 := by
  obtain ⟨code, k1, k2⟩ := c_code w
  have hn := w.n
  have hl := ok.len
  open Classical in
  have q := classes (n := 450 * S.N) w.alk (fun e => if InC S e.1 then code e.1 * S.N + e.2 else (225 + code e.2) * S.N + e.1) (fun e he => by
      obtain ⟨⟨⟨i, j⟩, b⟩, m, rfl⟩ := List.mem_map.mp he
      obtain ⟨a1, a2, _, a3⟩ := w.al i j b m
      show (if InC S i then code i * S.N + j else (225 + code j) * S.N + i) < _
      split
      · next h =>
        have := k1 i h
        have : (code i + 1) * S.N ≤ 450 * S.N := Nat.mul_le_mul_right _ (by omega)
        rw [Nat.add_mul, Nat.one_mul] at this
        omega
      · next h =>
        have hj : InC S j := a3.resolve_left h
        have := k1 j hj
        have : (225 + code j + 1) * S.N ≤ 450 * S.N := Nat.mul_le_mul_right _ (by omega)
        rw [Nat.add_mul, Nat.one_mul] at this
        omega) fun e he e' he' h => by
      obtain ⟨⟨⟨i, j⟩, b⟩, m, rfl⟩ := List.mem_map.mp he
      obtain ⟨⟨⟨i', j'⟩, b'⟩, m', rfl⟩ := List.mem_map.mp he'
      obtain ⟨a1, a2, _, a3⟩ := w.al i j b m
      obtain ⟨d1, d2, _, d3⟩ := w.al i' j' b' m'
      have uniq : ∀ {a b x y : Nat}, x < S.N → y < S.N → a * S.N + x = b * S.N + y → a = b ∧ x = y := fun {a b x y} hx hy e => by
        have e1 : (a * S.N + x) / S.N = a := by rw [Nat.mul_comm, Nat.mul_add_div (by omega), Nat.div_eq_of_lt hx, Nat.add_zero]
        have e2 : (b * S.N + y) / S.N = b := by rw [Nat.mul_comm, Nat.mul_add_div (by omega), Nat.div_eq_of_lt hy, Nat.add_zero]
        have e3 : a = b := by rw [← e1, e, e2]
        subst e3
        exact ⟨rfl, by omega⟩
      have h : (if InC S i then code i * S.N + j else (225 + code j) * S.N + i) = (if InC S i' then code i' * S.N + j' else (225 + code j') * S.N + i') := h
      show (i, j) = (i', j')
      by_cases c1 : InC S i
      · by_cases c2 : InC S i'
        · rw [if_pos c1, if_pos c2] at h
          obtain ⟨e1, e2⟩ := uniq a2 d2 h
          rw [k2 i i' c1 c2 e1, e2]
        · rw [if_pos c1, if_neg c2] at h
          obtain ⟨e1, _⟩ := uniq a2 d1 h
          have := k1 i c1
          omega
      · by_cases c2 : InC S i'
        · rw [if_neg c1, if_pos c2] at h
          obtain ⟨e1, _⟩ := uniq a1 d2 h
          have := k1 i' c2
          omega
        · rw [if_neg c1, if_neg c2] at h
          obtain ⟨e1, e2⟩ := uniq a1 d1 h
          rw [k2 j j' (a3.resolve_left c1) (d3.resolve_left c2) (by omega), e2]
  rw [List.length_map] at q
  omega
theorem si_small : S.si.length ≤ S.N := by
  have q := classes (n := S.N) w.sik (fun e => e) (fun e he => by
    obtain ⟨⟨i, f⟩, m, rfl⟩ := List.mem_map.mp he
    exact (w.si i f m).li) fun _ _ _ _ h => h
  rwa [List.length_map] at q
theorem nu_small : S.nu.length ≤ S.N := by
  have q := classes (n := S.N) w.nuk (fun e => e) (fun e he => by
    obtain ⟨⟨i, f⟩, m, rfl⟩ := List.mem_map.mp he
    exact (w.nu i f m).1) fun _ _ _ _ h => h
  rwa [List.length_map] at q
theorem st_small : S.st.length ≤ 2 * S.N := by
  have q := classes (n := 2 * S.N) w.stk (fun e => 2 * e.1 + e.2.toNat) (fun e he => by
    obtain ⟨⟨⟨i, s⟩, z⟩, m, rfl⟩ := List.mem_map.mp he
    have := (w.st i s z m).1
    cases s
    · show 2 * i + 0 < _; omega
    · show 2 * i + 1 < _; omega) fun e _ e' _ h => by
    obtain ⟨i, s⟩ := e
    obtain ⟨i', s'⟩ := e'
    have h : 2 * i + s.toNat = 2 * i' + s'.toNat := h
    cases s <;> cases s' <;> simp only [Bool.toNat_false, Bool.toNat_true] at h
    · rw [show i = i' by omega]
    · omega
    · omega
    · rw [show i = i' by omega]
  rwa [List.length_map] at q
theorem md_small : S.md.length ≤ S.N := by
  have h : ∀ v : Dy, ∃ k : Nat, v ∈ S.md.map (·.1) → (v, k) ∈ S.md := fun v => by
    by_cases m : v ∈ S.md.map (·.1)
    · obtain ⟨⟨v, k⟩, m', rfl⟩ := List.mem_map.mp m
      exact ⟨k, fun _ => m'⟩
    · exact ⟨0, fun q => absurd q m⟩
  have q := classes (n := S.N) w.mdk (fun v => (h v).choose) (fun v hv => (w.md _ _ ((h v).choose_spec hv)).1) fun v hv v' hv' e => by
    obtain ⟨_, a1, a2, a3⟩ := w.md _ _ ((h v).choose_spec hv)
    obtain ⟨_, b1, b2, b3⟩ := w.md _ _ ((h v').choose_spec hv')
    have e' : (h v).choose = (h v').choose := e
    rw [e'] at a3
    have z : ∀ {x : G}, Al (add x zero) x := fun {x} => al_symm (isSum_al (isSum_zero x))
    have k := al_trans (al_trans (al_symm (isSum_al a3)) (isSum_al b3)) z
    exact sc_inj a1 b1 a2 b2 (form_inj (p := 64) (al_trans (al_symm z) k))
  rwa [List.length_map] at q
theorem pl_small : S.pl.length ≤ U.all.length := by
  have h : ∀ e : Nat × Nat, ∃ k : Nat, e ∈ S.pl.map (·.1) → ∃ p s, U.all[k]? = some p ∧ (e, s) ∈ S.pl ∧ ((IsSum (S.g e.1) p.1.2 zero ∧ IsSum (S.g e.2) zero p.2.2) ∨ (IsSum (S.g e.2) p.1.2 zero ∧ IsSum (S.g e.1) zero p.2.2)) := fun e => by
    by_cases m : e ∈ S.pl.map (·.1)
    · obtain ⟨⟨e, s⟩, m', rfl⟩ := List.mem_map.mp m
      obtain ⟨p, hp, q⟩ := (w.pl e.1 e.2 s m').lab
      obtain ⟨k, hk, e1⟩ := List.mem_iff_getElem.mp hp
      exact ⟨k, fun _ => ⟨p, s, by rw [List.getElem?_eq_getElem hk, e1], m', q⟩⟩
    · exact ⟨0, fun q => absurd q m⟩
  have q := classes (n := U.all.length) w.plk (fun e => (h e).choose) (fun e he => by
    obtain ⟨p, s, hp, _⟩ := (h e).choose_spec he
    exact (List.getElem?_eq_some_iff.mp hp).1) fun e he e' he' x => by
    obtain ⟨p, s, hp, m, c⟩ := (h e).choose_spec he
    obtain ⟨p', s', hp', m', c'⟩ := (h e').choose_spec he'
    have x' : (h e).choose = (h e').choose := x
    rw [x', hp'] at hp
    cases Option.some.inj hp
    obtain ⟨l1, l2, _, l3, _⟩ := w.pl _ _ _ m
    obtain ⟨l1', l2', _, l3', _⟩ := w.pl _ _ _ m'
    obtain ⟨i, j⟩ := e
    obtain ⟨i', j'⟩ := e'
    rcases c with ⟨c1, c2⟩ | ⟨c1, c2⟩
    · rcases c' with ⟨d1, d2⟩ | ⟨d1, d2⟩
      · rw [show i = i' from sum_uniq w.wy l1 l1' c1 d1, show j = j' from sum_uniq w.wy l2 l2' c2 d2]
      · have e1 : i = j' := sum_uniq w.wy l1 l2' c1 d1
        have e2 : j = i' := sum_uniq w.wy l2 l1' c2 d2
        have l3 : i ≤ j := l3
        have l3' : i' ≤ j' := l3'
        rw [show i' = i by omega, show j' = j by omega]
    · rcases c' with ⟨d1, d2⟩ | ⟨d1, d2⟩
      · have e1 : j = i' := sum_uniq w.wy l2 l1' c1 d1
        have e2 : i = j' := sum_uniq w.wy l1 l2' c2 d2
        have l3 : i ≤ j := l3
        have l3' : i' ≤ j' := l3'
        rw [show i' = i by omega, show j' = j by omega]
      · rw [show j = j' from sum_uniq w.wy l2 l2' c1 d1, show i = i' from sum_uniq w.wy l1 l1' c2 d2]
  rwa [List.length_map] at q
end
end SG
end
section
set_option autoImplicit false
namespace SG
/-! one book's next entry -/
structure Ext (S S' : Gs) : Prop where
  ns : ∃ more, S'.ns = S.ns ++ more
  si : ∀ e ∈ S.si, e ∈ S'.si
  op : ∀ p, OKp S p → OKp S' p
  or : ∀ p, OKr S p → OKr S' p
theorem Ext.refl (S : Gs) : Ext S S := ⟨⟨[], (List.append_nil _).symm⟩, fun _ h => h, fun _ h => h, fun _ h => h⟩
theorem Ext.trans {S T V : Gs} (a : Ext S T) (b : Ext T V) : Ext S V := by
  obtain ⟨m, e⟩ := a.ns
  obtain ⟨m', e'⟩ := b.ns
  exact ⟨⟨m ++ m', by rw [e', e, List.append_assoc]⟩, fun x h => b.si x (a.si x h), fun p h => b.op p (a.op p h), fun p h => b.or p (a.or p h)⟩
/-- what is kept of the games and of the canonical ones -/
structure Ex0 (S S' : Gs) : Prop where
  ns : ∃ more, S'.ns = S.ns ++ more
  si : ∀ e ∈ S.si, e ∈ S'.si
theorem Ext.ex0 {S S' : Gs} (a : Ext S S') : Ex0 S S' := ⟨a.ns, a.si⟩
theorem Ex0.trans {S T V : Gs} (a : Ex0 S T) (b : Ex0 T V) : Ex0 S V := by
  obtain ⟨m, e⟩ := a.ns
  obtain ⟨m', e'⟩ := b.ns
  exact ⟨⟨m ++ m', by rw [e', e, List.append_assoc]⟩, fun x h => b.si x (a.si x h)⟩
section
variable {S S' : Gs} (x : Ex0 S S')
include x
theorem Ex0.n : S.N ≤ S'.N := by
  obtain ⟨m, e⟩ := x.ns
  show S.ns.length ≤ S'.ns.length
  rw [e, List.length_append]
  omega
theorem Ex0.lt {i : Nat} (h : i < S.N) : i < S'.N := Nat.lt_of_lt_of_le h x.n
theorem Ex0.g {i : Nat} (h : i < S.N) : S'.g i = S.g i := by
  obtain ⟨m, e⟩ := x.ns
  show gv S'.ns i = gv S.ns i
  rw [e]
  exact (gv_app h).1
theorem Ex0.o {i : Nat} (h : i < S.N) (s : Bool) : optI s S'.ns i = optI s S.ns i := by
  obtain ⟨m, e⟩ := x.ns
  rw [e]
  exact optI_app h
theorem Ex0.c {i : Nat} (h : InC S i) : InC S' i := let ⟨j, h⟩ := h; ⟨j, x.si _ h⟩
theorem Ex0.isP {i : Nat} {p : Pu} (h : i < S.N) : IsP S'.ns i p ↔ IsP S.ns i p := by
  unfold IsP
  rw [show gv S'.ns i = gv S.ns i from x.g h]
theorem SiOk.ext {U : Un} {i f : Nat} (h : SiOk U S i f) : SiOk U S' i f := by
  have e1 := x.g h.li
  have e2 := x.g h.lf
  exact ⟨x.lt h.li, x.lt h.lf, by rw [e2]; exact h.can, by rw [e1, e2]; exact h.al, by rw [e1, e2]; exact h.ht, fun s o ho => x.c (h.cl s o (by rwa [x.o h.lf] at ho)), by rw [e2]; exact h.lab, fun p hp q => by rw [e2]; exact h.lk p hp ((x.isP h.li).mp q)⟩
theorem PlOk.ext {U : Un} {i j s : Nat} (h : PlOk U S i j s) : PlOk U S' i j s := by
  have e1 := x.g h.li
  have e2 := x.g h.lj
  have e3 := x.g h.ls
  exact ⟨x.lt h.li, x.lt h.lj, x.lt h.ls, h.le, by rw [e1, e2, e3]; exact h.sum, by rw [e1, e2]; exact h.lab⟩
end
theorem nodup_snoc {α : Type} {l : List α} {a : α} (h : l.Nodup) (n : a ∉ l) : (l ++ [a]).Nodup := by
  rw [List.nodup_append]
  exact ⟨h, by simp, fun x hx y hy e => n (by rw [List.mem_singleton.mp hy] at e; exact e ▸ hx)⟩
/-- all but the books' own next entry -/
theorem wf_of {U : Un} {S S' : Gs} (w : Wf U S) (x : Ex0 S S') (wy : WfY S'.ns)
    (al : ∀ e ∈ S'.al, e ∈ S.al ∨ (e.1.1 < S'.N ∧ e.1.2 < S'.N ∧ (e.2 = true ↔ Le (S'.g e.1.2) (S'.g e.1.1)) ∧ (InC S' e.1.1 ∨ InC S' e.1.2))) (alk : (S'.al.map (·.1)).Nodup)
    (si : ∀ e ∈ S'.si, e ∈ S.si ∨ SiOk U S' e.1 e.2) (sik : (S'.si.map (·.1)).Nodup)
    (pl : ∀ e ∈ S'.pl, e ∈ S.pl ∨ PlOk U S' e.1.1 e.1.2 e.2) (plk : (S'.pl.map (·.1)).Nodup)
    (nu : ∀ e ∈ S'.nu, e ∈ S.nu ∨ (e.1 < S'.N ∧ (e.2 = none → ¬ Num 64 (S'.g e.1)) ∧ ∀ z, e.2 = some z → Al (S'.g e.1) (form 64 (sc z.2)))) (nuk : (S'.nu.map (·.1)).Nodup)
    (md : ∀ e ∈ S'.md, e ∈ S.md ∨ (e.2 < S'.N ∧ Plain e.1 ∧ e.1.p ≤ 64 ∧ IsSum (S'.g e.2) (form 64 (sc e.1)) zero)) (mdk : (S'.md.map (·.1)).Nodup)
    (st : ∀ e ∈ S'.st, e ∈ S.st ∨ (e.1.1 < S'.N ∧ sc e.2.2 = stop 64 e.1.2 (S'.g e.1.1))) (stk : (S'.st.map (·.1)).Nodup)
    (bud : S'.N + S'.slack + S'.cr.length + (S'.pend.map cost).sum ≤ 19000) : Wf U S' := by
  refine ⟨wy, fun i j b h => ?_, alk, fun i f h => ?_, sik, fun i j s h => ?_, plk, fun f o h => ?_, nuk, fun v i h => ?_, mdk, fun i s z h => ?_, stk, bud⟩
  · rcases al _ h with h | h
    · obtain ⟨h1, h2, h3, h4⟩ := w.al i j b h
      rw [x.g h1, x.g h2]
      exact ⟨x.lt h1, x.lt h2, h3, h4.imp x.c x.c⟩
    · exact h
  · rcases si _ h with h | h
    · exact (w.si i f h).ext x
    · exact h
  · rcases pl _ h with h | h
    · exact (w.pl i j s h).ext x
    · exact h
  · rcases nu _ h with h | h
    · obtain ⟨h1, h2⟩ := w.nu f o h
      rw [x.g h1]
      exact ⟨x.lt h1, h2⟩
    · exact h
  · rcases md _ h with h | h
    · obtain ⟨h1, h2, h3, h4⟩ := w.md v i h
      rw [x.g h1]
      exact ⟨x.lt h1, h2, h3, h4⟩
    · exact h
  · rcases st _ h with h | h
    · obtain ⟨h1, h2⟩ := w.st i s z h
      rw [x.g h1]
      exact ⟨x.lt h1, h2⟩
    · exact h
theorem snoc_cases {α : Type} {l : List α} {a e : α} (h : e ∈ l ++ [a]) : e ∈ l ∨ e = a := by
  rcases List.mem_append.mp h with h | h
  · exact .inl h
  · exact .inr (List.mem_singleton.mp h)
theorem keys_snoc {α β : Type} {l : List (α × β)} {k : α} {v : β} (h : (l.map (·.1)).Nodup) (n : k ∉ l.map (·.1)) : ((l ++ [(k, v)]).map (·.1)).Nodup := by
  rw [List.map_append]
  exact nodup_snoc h n
abbrev Gs.push (S : Gs) (l r : List Nat) : Gs := { S with ns := S.ns ++ [⟨l, r, .mk (l.map (gv S.ns)) (r.map (gv S.ns))⟩], slack := S.slack - 1 }
abbrev Gs.putAl (S : Gs) (i j : Nat) (b : Bool) : Gs := { S with al := S.al ++ [((i, j), b)] }
abbrev Gs.putSi (S : Gs) (i f : Nat) : Gs := { S with si := S.si ++ [(i, f)] }
abbrev Gs.putPl (S : Gs) (i j s : Nat) : Gs := { S with pl := S.pl ++ [((i, j), s)] }
abbrev Gs.putNu (S : Gs) (f : Nat) (o : Option (Nat × Dy)) : Gs := { S with nu := S.nu ++ [(f, o)] }
abbrev Gs.putMd (S : Gs) (v : Dy) (i : Nat) : Gs := { S with md := S.md ++ [(v, i)] }
abbrev Gs.putSt (S : Gs) (i : Nat) (s : Bool) (z : Nat × Dy) : Gs := { S with st := S.st ++ [((i, s), z)] }
abbrev Gs.withSlack (S : Gs) (n : Nat) : Gs := { S with slack := n }
section
variable {U : Un} {S : Gs} (w : Wf U S)
include w
theorem wf_push {l r : List Nat} (h1 : 1 ≤ S.slack) (hl : l.Pairwise (· < ·)) (hr : r.Pairwise (· < ·)) (bl : ∀ o ∈ l, o < S.N) (br : ∀ o ∈ r, o < S.N) (hn : ∀ i, i < S.N → ¬ (lf S.ns i = l ∧ rt S.ns i = r)) :
    Wf U (S.push l r) ∧ Ext S (S.push l r) := by
  have x : Ex0 S (S.push l r) := ⟨⟨_, rfl⟩, fun _ h => h⟩
  have len : (S.push l r).N = S.N + 1 := by
    show (S.ns ++ [_]).length = _
    rw [List.length_append]
    rfl
  refine ⟨wf_of w x (w.wy.app hl hr bl br fun i nd e q => ?_) (fun _ h => .inl h) w.alk (fun _ h => .inl h) w.sik (fun _ h => .inl h) w.plk (fun _ h => .inl h) w.nuk (fun _ h => .inl h) w.mdk (fun _ h => .inl h) w.stk ?_, ⟨⟨_, rfl⟩, fun _ h => h, fun p h => ?_, fun p h => ?_⟩⟩
  · obtain ⟨_, e2, e3⟩ := gv_at e
    exact hn i (List.getElem?_eq_some_iff.mp e).1 ⟨by rw [e2]; exact q.1, by rw [e3]; exact q.2⟩
  · have := w.bud
    rw [len]
    show S.N + 1 + (S.slack - 1) + S.cr.length + (S.pend.map cost).sum ≤ 19000
    omega
  · rcases h with h | ⟨i, f, h, hi, q⟩
    · exact .inl h
    · exact .inr ⟨i, f, h, x.lt hi, (x.isP hi).mpr q⟩
  · rcases h with h | ⟨i, h, q⟩
    · exact .inl h
    · exact .inr ⟨i, x.lt h, (x.isP h).mpr q⟩
theorem wf_al {i j : Nat} {b : Bool} (hi : i < S.N) (hj : j < S.N) (hb : b = true ↔ Le (S.g j) (S.g i)) (hc : InC S i ∨ InC S j) (hn : (i, j) ∉ S.al.map (·.1)) : Wf U (S.putAl i j b) ∧ Ext S (S.putAl i j b) :=
  have x : Ex0 S (S.putAl i j b) := ⟨⟨[], (List.append_nil _).symm⟩, fun _ h => h⟩
  ⟨wf_of w x w.wy (fun e h => (snoc_cases h).imp id fun q => by subst q; exact ⟨hi, hj, hb, hc⟩) (keys_snoc w.alk hn) (fun _ h => .inl h) w.sik (fun _ h => .inl h) w.plk (fun _ h => .inl h) w.nuk (fun _ h => .inl h) w.mdk (fun _ h => .inl h) w.stk w.bud,
    ⟨⟨[], (List.append_nil _).symm⟩, fun _ h => h, fun _ h => h, fun _ h => h⟩⟩
theorem wf_si {i f : Nat} (h : SiOk U (S.putSi i f) i f) (hn : i ∉ S.si.map (·.1)) : Wf U (S.putSi i f) ∧ Ext S (S.putSi i f) :=
  have x : Ex0 S (S.putSi i f) := ⟨⟨[], (List.append_nil _).symm⟩, fun _ h => List.mem_append_left _ h⟩
  ⟨wf_of w x w.wy (fun e h => .inl h) w.alk (fun e h' => (snoc_cases h').imp id fun q => by subst q; exact h) (keys_snoc w.sik hn) (fun _ h => .inl h) w.plk (fun _ h => .inl h) w.nuk (fun _ h => .inl h) w.mdk (fun _ h => .inl h) w.stk w.bud,
    ⟨⟨[], (List.append_nil _).symm⟩, fun _ h => List.mem_append_left _ h, fun p q => q.imp id fun ⟨i, f, a, b, c⟩ => ⟨i, f, List.mem_append_left _ a, b, c⟩, fun _ h => h⟩⟩
theorem wf_pl {i j s : Nat} (h : PlOk U S i j s) (hn : (i, j) ∉ S.pl.map (·.1)) : Wf U (S.putPl i j s) ∧ Ext S (S.putPl i j s) :=
  have x : Ex0 S (S.putPl i j s) := ⟨⟨[], (List.append_nil _).symm⟩, fun _ h => h⟩
  ⟨wf_of w x w.wy (fun e h => .inl h) w.alk (fun _ h => .inl h) w.sik (fun e h' => (snoc_cases h').imp id fun q => by subst q; exact h.ext x) (keys_snoc w.plk hn) (fun _ h => .inl h) w.nuk (fun _ h => .inl h) w.mdk (fun _ h => .inl h) w.stk w.bud,
    ⟨⟨[], (List.append_nil _).symm⟩, fun _ h => h, fun _ h => h, fun _ h => h⟩⟩
theorem wf_nu {f : Nat} {o : Option (Nat × Dy)} (h1 : f < S.N) (h2 : o = none → ¬ Num 64 (S.g f)) (h3 : ∀ z, o = some z → Al (S.g f) (form 64 (sc z.2))) (hn : f ∉ S.nu.map (·.1)) : Wf U (S.putNu f o) ∧ Ext S (S.putNu f o) :=
  have x : Ex0 S (S.putNu f o) := ⟨⟨[], (List.append_nil _).symm⟩, fun _ h => h⟩
  ⟨wf_of w x w.wy (fun e h => .inl h) w.alk (fun _ h => .inl h) w.sik (fun _ h => .inl h) w.plk (fun e h' => (snoc_cases h').imp id fun q => by subst q; exact ⟨h1, h2, h3⟩) (keys_snoc w.nuk hn) (fun _ h => .inl h) w.mdk (fun _ h => .inl h) w.stk w.bud,
    ⟨⟨[], (List.append_nil _).symm⟩, fun _ h => h, fun _ h => h, fun _ h => h⟩⟩
theorem wf_md {v : Dy} {i : Nat} (h1 : i < S.N) (h2 : Plain v) (h3 : v.p ≤ 64) (h4 : IsSum (S.g i) (form 64 (sc v)) zero) (hn : v ∉ S.md.map (·.1)) : Wf U (S.putMd v i) ∧ Ext S (S.putMd v i) :=
  have x : Ex0 S (S.putMd v i) := ⟨⟨[], (List.append_nil _).symm⟩, fun _ h => h⟩
  ⟨wf_of w x w.wy (fun e h => .inl h) w.alk (fun _ h => .inl h) w.sik (fun _ h => .inl h) w.plk (fun _ h => .inl h) w.nuk (fun e h' => (snoc_cases h').imp id fun q => by subst q; exact ⟨h1, h2, h3, h4⟩) (keys_snoc w.mdk hn) (fun _ h => .inl h) w.stk w.bud,
    ⟨⟨[], (List.append_nil _).symm⟩, fun _ h => h, fun _ h => h, fun _ h => h⟩⟩
theorem wf_st {i : Nat} {s : Bool} {z : Nat × Dy} (h1 : i < S.N) (h2 : sc z.2 = stop 64 s (S.g i)) (hn : (i, s) ∉ S.st.map (·.1)) : Wf U (S.putSt i s z) ∧ Ext S (S.putSt i s z) :=
  have x : Ex0 S (S.putSt i s z) := ⟨⟨[], (List.append_nil _).symm⟩, fun _ h => h⟩
  ⟨wf_of w x w.wy (fun e h => .inl h) w.alk (fun _ h => .inl h) w.sik (fun _ h => .inl h) w.plk (fun _ h => .inl h) w.nuk (fun _ h => .inl h) w.mdk (fun e h' => (snoc_cases h').imp id fun q => by subst q; exact ⟨h1, h2⟩) (keys_snoc w.stk hn) w.bud,
    ⟨⟨[], (List.append_nil _).symm⟩, fun _ h => h, fun _ h => h, fun _ h => h⟩⟩
theorem wf_slack {n : Nat} (h : n ≤ S.slack) : Wf U (S.withSlack n) ∧ Ext S (S.withSlack n) :=
  have x : Ex0 S (S.withSlack n) := ⟨⟨[], (List.append_nil _).symm⟩, fun _ h => h⟩
  ⟨wf_of w x w.wy (fun e h => .inl h) w.alk (fun _ h => .inl h) w.sik (fun _ h => .inl h) w.plk (fun _ h => .inl h) w.nuk (fun _ h => .inl h) w.mdk (fun _ h => .inl h) w.stk (by
    have := w.bud
    show S.N + n + S.cr.length + (S.pend.map cost).sum ≤ 19000
    omega), ⟨⟨[], (List.append_nil _).symm⟩, fun _ h => h, fun _ h => h, fun _ h => h⟩⟩
end
theorem split_mem {α : Type} {l : List α} {a : α} (h : a ∈ l) : ∃ m : List α, (∀ x, x ∈ l → x ≠ a → x ∈ m) ∧ (∀ f : α → Nat, (m.map f).sum + f a = (l.map f).sum) ∧ m.length + 1 = l.length := by
  obtain ⟨s, t, rfl⟩ := List.append_of_mem h
  refine ⟨s ++ t, fun x hx ne => ?_, fun f => ?_, ?_⟩
  · rcases List.mem_append.mp hx with hx | hx
    · exact List.mem_append_left _ hx
    · rcases List.mem_cons.mp hx with e | hx
      · exact absurd e ne
      · exact List.mem_append_right _ hx
  · simp only [List.map_append, List.sum_append, List.map_cons, List.sum_cons]
    omega
  · simp only [List.length_append, List.length_cons]
    omega
/-- a pair's credit is taken: for its simplest form -/
theorem wf_open {U : Un} {S : Gs} (w : Wf U S) {p : Pu} (h : p ∈ S.pend) : ∃ m, Wf U { S with pend := m, slack := S.slack + cost p } ∧ Ex0 S { S with pend := m, slack := S.slack + cost p } ∧
    (∀ q, q ≠ p → OKp S q → OKp { S with pend := m, slack := S.slack + cost p } q) ∧ (∀ q, OKr S q → OKr { S with pend := m, slack := S.slack + cost p } q) := by
  obtain ⟨m, h1, h2, _⟩ := split_mem h
  have x : Ex0 S { S with pend := m, slack := S.slack + cost p } := ⟨⟨[], (List.append_nil _).symm⟩, fun _ h => h⟩
  refine ⟨m, wf_of w x w.wy (fun e h => .inl h) w.alk (fun _ h => .inl h) w.sik (fun _ h => .inl h) w.plk (fun _ h => .inl h) w.nuk (fun _ h => .inl h) w.mdk (fun _ h => .inl h) w.stk ?_, x, fun q ne k => ?_, fun q k => k⟩
  · have := w.bud
    have := h2 cost
    show S.N + (S.slack + cost p) + S.cr.length + (m.map cost).sum ≤ 19000
    omega
  · rcases k with k | k
    · exact .inl (h1 q k ne)
    · exact .inr k
/-- a pair's credit is taken: for the game itself -/
theorem wf_credit {U : Un} {S : Gs} (w : Wf U S) {p : Pu} (h : p ∈ S.cr) : ∃ m, Wf U { S with cr := m, slack := S.slack + 1 } ∧ Ex0 S { S with cr := m, slack := S.slack + 1 } ∧
    (∀ q, q ≠ p → OKr S q → OKr { S with cr := m, slack := S.slack + 1 } q) ∧ (∀ q, OKp S q → OKp { S with cr := m, slack := S.slack + 1 } q) := by
  obtain ⟨m, h1, _, h3⟩ := split_mem h
  have x : Ex0 S { S with cr := m, slack := S.slack + 1 } := ⟨⟨[], (List.append_nil _).symm⟩, fun _ h => h⟩
  refine ⟨m, wf_of w x w.wy (fun e h => .inl h) w.alk (fun _ h => .inl h) w.sik (fun _ h => .inl h) w.plk (fun _ h => .inl h) w.nuk (fun _ h => .inl h) w.mdk (fun _ h => .inl h) w.stk ?_, x, fun q ne k => ?_, fun q k => k⟩
  · have := w.bud
    show S.N + (S.slack + 1) + m.length + (S.pend.map cost).sum ≤ 19000
    omega
  · rcases k with k | k
    · exact .inl (h1 q k ne)
    · exact .inr k
/-- heights of sums -/
theorem isSum_ht_ge_aux (n : Nat) : ∀ s x y : G, sizeOf x + sizeOf y ≤ n → IsSum s x y → ht x + ht y ≤ ht s := by
  induction n with
  | zero =>
    intro s x y h
    cases x
    simp only [G.mk.sizeOf_spec] at h
    omega
  | succ n ih =>
    intro s x y h q
    obtain ⟨h1, h2, h3, h4, h5, h6⟩ := isSum_iff.mp q
    have top : ∀ g : G, ht g = 0 ∨ ∃ b, ∃ o ∈ opt b g, ht g ≤ ht o + 1 := fun g => by
      by_cases z : ht g = 0
      · exact .inl z
      · by_cases a : ∃ b, ∃ o ∈ opt b g, ht g ≤ ht o + 1
        · exact .inr a
        · have : ht g ≤ ht g - 1 := ht_le (fun o ho => by
            by_cases k : ht g ≤ ht o + 1
            · exact absurd ⟨true, o, ho, k⟩ a
            · omega) fun o ho => by
            by_cases k : ht g ≤ ht o + 1
            · exact absurd ⟨false, o, ho, k⟩ a
            · omega
          omega
    rcases top x with hx | ⟨b, o, ho, hx⟩
    · rcases top y with hy | ⟨b, o, ho, hy⟩
      · omega
      · cases b
        · obtain ⟨l, hl, k⟩ := h6 o ho
          have := ih l x o (by have := sz_right (show o ∈ y.right from ho); omega) k
          have := ht_right hl
          omega
        · obtain ⟨l, hl, k⟩ := h3 o ho
          have := ih l x o (by have := sz_left (show o ∈ y.left from ho); omega) k
          have := ht_left hl
          omega
    · cases b
      · obtain ⟨l, hl, k⟩ := h5 o ho
        have := ih l o y (by have := sz_right (show o ∈ x.right from ho); omega) k
        have := ht_right hl
        omega
      · obtain ⟨l, hl, k⟩ := h2 o ho
        have := ih l o y (by have := sz_left (show o ∈ x.left from ho); omega) k
        have := ht_left hl
        omega
theorem isSum_ht_eq {s x y : G} (h : IsSum s x y) : ht s = ht x + ht y := Nat.le_antisymm (isSum_ht h) (isSum_ht_ge_aux _ s x y (Nat.le_refl _) h)
end SG
end
section
set_option Elab.async false
set_option linter.all false
set_option maxRecDepth 100000
set_option maxHeartbeats 4000000
namespace K45
open PySem PySem.Spec PyProof.Rows L2
/-! ### dicts whose keys are pairs of tuples of ints -/
abbrev FKey : Type := List Int × List Int
def nk (k : FKey) : NestedKey := .tup [.tup (k.1.map .num), .tup (k.2.map .num)]
theorem nums_inj : ∀ {a b : List Int}, a.map NestedKey.num = b.map NestedKey.num → a = b
  | [], [], _ => rfl
  | [], _ :: _, h => by simp at h
  | _ :: _, [], h => by simp at h
  | x :: a, y :: b, h => by
    rw [List.map_cons, List.map_cons] at h
    injection h with h1 h2
    injection h1 with h1
    rw [h1, nums_inj h2]
theorem nk_inj {a b : FKey} (h : nk a = nk b) : a = b := by
  obtain ⟨a1, a2⟩ := a
  obtain ⟨b1, b2⟩ := b
  unfold nk at h
  injection h with h
  injection h with h1 h2
  injection h2 with h2 _
  injection h1 with h1
  injection h2 with h2
  rw [show a1 = b1 from nums_inj h1, show a2 = b2 from nums_inj h2]
/-- the tuple of two tuples that is such a key -/
def KeyAt (H : Hp) (b : Addr) (k : FKey) : Prop := ∃ t1 t2 : Addr, H b = some (.tup [.ref t1, .ref t2]) ∧ H t1 = some (.tup (k.1.map V.int)) ∧ H t2 = some (.tup (k.2.map V.int))
theorem KeyAt.mono {H H' : Hp} {b : Addr} {k : FKey} (h : KeyAt H b k) (ht : ∀ c xs, H c = some (.tup xs) → H' c = some (.tup xs)) : KeyAt H' b k :=
  let ⟨t1, t2, e1, e2, e3⟩ := h
  ⟨t1, t2, ht _ _ e1, ht _ _ e2, ht _ _ e3⟩
theorem nested_ints {h : Heap} : ∀ {ns : List Int} {us : List Value}, Vals (ns.map V.int) us → NestedAll h (ns.map .num) us
  | [], _, r => by
    rw [List.map_nil] at r
    cases r
    exact .nil
  | n :: ns, _, r => by
    rw [List.map_cons] at r
    cases r with
    | cons a b =>
      obtain ⟨t, rfl⟩ := a
      exact .cons (.int n t) (nested_ints b)
theorem tup_is {P : Program} {w : World} {H : Hp} {h : Heap} {t : Addr} {ns : List Int} (ok : HOk P w H h) (e : H t = some (.tup (ns.map V.int))) : NestedIs h (.tup (ns.map .num)) (.ref t) := by
  obtain ⟨_, its, r, o, h1, h2, n, h3⟩ := (show ObjOk P w H h t (.tup (ns.map V.int)) from ok t _ e)
  exact .tup h1 h2 h3 (by simpa using nested_ints r)
theorem nums_depth : ∀ ns : List Int, NestedKey.depthAll (ns.map .num) = 0
  | [] => rfl
  | n :: ns => by
    show max 0 (NestedKey.depthAll (ns.map .num)) = 0
    rw [nums_depth ns]
    rfl
theorem key_is {P : Program} {w : World} {H : Hp} {h : Heap} {b : Addr} {k : FKey} (ok : HOk P w H h) (e : KeyAt H b k) : (nestedKind P w).is h (nk k) b := by
  obtain ⟨t1, t2, e0, e1, e2⟩ := e
  obtain ⟨_, its, r, o, h1, h2, n, h3⟩ := (show ObjOk P w H h b (.tup [.ref t1, .ref t2]) from ok b _ e0)
  refine ⟨.tup h1 h2 h3 ?_, ?_⟩
  · obtain ⟨u, v, rfl, r1, r2⟩ := vals2 r
    cases r1
    cases r2
    exact .cons (tup_is ok e1) (.cons (tup_is ok e2) .nil)
  · show NestedKey.depth (nk k) ≤ 8
    unfold nk
    show max (NestedKey.depthAll (k.1.map .num) + 1) (max (NestedKey.depthAll (k.2.map .num) + 1) 0) + 1 ≤ 8
    rw [nums_depth, nums_depth]
    decide
/-- the object: a dict of these entries -/
def nestObj (P : Program) (w : World) (a : Addr) (xs : List (NestedKey × Addr × Value)) : HO := .ext fun h => (a == sysModules) = false ∧ xs.length ≤ sizeLine ∧
  ∃ o es ep, h.get? a = some o ∧ o.ExactDict ∧ o.data = .dict es ep ∧ es.toList = xs.map (entryOfKey (nestedKind P w)) ∧ (xs.map (·.1)).Nodup
def NRel (H : Hp) : List (FKey × V) → List (NestedKey × Addr × Value) → Prop := Paired fun p q => q.1 = nk p.1 ∧ KeyAt H q.2.1 p.1 ∧ RelV p.2 q.2.2
/-- at a stands a dict with these keys and values -/
def NDict (P : Program) (w : World) (H : Hp) (a : Addr) (kvs : List (FKey × V)) : Prop := ∃ xs, H a = some (nestObj P w a xs) ∧ NRel H kvs xs
theorem NDict.mono {P : Program} {w : World} {H H' : Hp} {a : Addr} {kvs : List (FKey × V)} (h : NDict P w H a kvs) (ha : ∀ o, H a = some o → H' a = some o) (ht : ∀ c xs, H c = some (.tup xs) → H' c = some (.tup xs)) : NDict P w H' a kvs :=
  let ⟨xs, e, r⟩ := h
  ⟨xs, ha _ e, Paired.mapP r fun _ _ z => ⟨z.1, z.2.1.mono ht, z.2.2⟩⟩
theorem NRel.val {H : Hp} {kvs : List (FKey × V)} {xs : List (NestedKey × Addr × Value)} (r : NRel H kvs xs) (k : FKey) : RelO (valV kvs k) ((atKey xs (nk k)).map (·.2)) := by
  induction r with
  | nil => exact True.intro
  | @cons p q ps qs h t ih =>
    obtain ⟨h1, _, h2⟩ := h
    by_cases e : p.1 = k
    · have e' : q.1 = nk k := by rw [h1, e]
      have b : atKey (q :: qs) (nk k) = some q.2 := by simp [atKey, List.find?_cons, e']
      rw [valV_pos e, b]
      exact h2
    · have e' : ¬ q.1 = nk k := fun z => e (nk_inj (h1.symm.trans z))
      have b : atKey (q :: qs) (nk k) = atKey qs (nk k) := by simp [atKey, List.find?_cons, e']
      rw [valV_neg e, b]
      exact ih
theorem NRel.new {H : Hp} {kvs : List (FKey × V)} {xs : List (NestedKey × Addr × Value)} (r : NRel H kvs xs) {k : FKey} {b : Addr} {y : V} {u : Value} (hb : KeyAt H b k) (ry : RelV y u) (hn : valV kvs k = none) :
    NRel H (kvs ++ [(k, y)]) (storedH xs (nk k) b u) := by
  have q : (atKey xs (nk k)).isSome = false := by
    have z := (r.val k).isSome_eq
    rw [Option.isSome_map, hn] at z
    exact z.symm
  unfold storedH
  rw [q]
  exact Paired.snoc r ⟨rfl, hb, ry⟩
section
variable {X : Cx} {pins : List (Addr × Obj)} {σ : L2.St} {H : Hp} {s : Shared} {a b : Addr} {kvs : List (FKey × V)} {k : FKey} {A : Around} {E : Value → Shared → Prop}
theorem nd_of (I : Inv X pins σ H s) (d : NDict X.prog X.w H a kvs) : (a == sysModules) = false ∧ kvs.length ≤ sizeLine ∧ ∃ xs, H a = some (nestObj X.prog X.w a xs) ∧ NRel H kvs xs ∧ s.heap.DictOfH (nestedKind X.prog X.w) a xs := by
  obtain ⟨xs, e, r⟩ := d
  obtain ⟨⟨q1, q2, o, es, ep, g1, g2, g3, g4, g5⟩, _⟩ := (show ObjOk X.prog X.w H s.heap a (nestObj X.prog X.w a xs) from I.hok a _ e)
  refine ⟨q1, by rw [Paired.length r]; exact q2, xs, e, r, o, es, ep, g1, g2, g3, g4, fun x hx => ?_, g5⟩
  have all : ∀ {l : List (FKey × V)} {m : List (NestedKey × Addr × Value)}, NRel H l m → ∀ x ∈ m, (nestedKind X.prog X.w).is s.heap x.1 x.2.1 := by
    intro l m q
    induction q with
    | nil => intro x hx; cases hx
    | @cons p q ps qs hq t ih =>
      intro x hx
      rcases List.mem_cons.mp hx with rfl | hx
      · rw [hq.1]
        exact key_is I.hok hq.2.1
      · exact ih x hx
  exact all r x hx
theorem nroom (hu : A.units + 64 < cLine) : (nestedKind X.prog X.w).room A.in1 := by
  show A.units + 1 + 8 < cLine
  omega
def rNNotIn (P : Program) (w : World) : R2 := fun x y H Q => ∃ (b a : Addr) (kvs : List (FKey × V)) (k : FKey), x = .ref b ∧ y = .ref a ∧ NDict P w H a kvs ∧ KeyAt H b k ∧ Q (.bl (!(valV kvs k).isSome)) H
theorem or_nnotin (hu : X.A.units + 64 < cLine) : OpR X (compareOp .NotIn) (rNNotIn X.prog X.w) := by
  intro pins s σ H x y v u Q I rx ry h
  obtain ⟨b, a, kvs, k, rfl, rfl, d, hb, q⟩ := h
  cases rx
  cases ry
  obtain ⟨hm, _, xs, _, r, dd⟩ := nd_of I d
  refine wpAny_notIn_heap (nroom hu) (key_is I.hok hb) hm dd ?_
  have z := (r.val k).isSome_eq
  rw [Option.isSome_map] at z
  rw [← z]
  exact ⟨.bl (!(valV kvs k).isSome), H, I.tok _, rfl, q⟩
def rIxN (P : Program) (w : World) : R2 := fun x y H Q => ∃ (a b : Addr) (kvs : List (FKey × V)) (k : FKey) (v : V), x = .ref a ∧ y = .ref b ∧ NDict P w H a kvs ∧ KeyAt H b k ∧ valV kvs k = some v ∧ Q v H
theorem pe_nget {o i : Expr} {td ty : TE} {pos : Pos} (hu : X.A.units + 64 < cLine) (ho : PE X o td) (hi : PE X i ty) (hs : NoSl i) : PE X (.Subscript o i pos) (tOp (rIxN X.prog X.w) td ty) := by
  refine ⟨fun pins s σ H Q I h => ?_⟩
  refine subD_of PySem.F.slot_dict_getitem.lookup hs (thn (ho.run pins s σ H _ I h) fun u s1 ⟨x, H1, I1, rx, q1⟩ => thn (hi.run pins s1 σ H1 _ I1 q1) fun iv s2 ⟨y, H2, I2, ry, a, b, kvs, k, v, ex, ey, d, hb, l, q2⟩ => ?_)
  subst ex ey
  cases rx
  cases ry
  obtain ⟨hm, _, xs, _, r, dd⟩ := nd_of I2 d
  refine ⟨dd.typeIs, ?_⟩
  obtain ⟨w', hw, rw'⟩ := RelO.some_of (v := v) (o := (atKey xs (nk k)).map (·.2)) (by rw [← l]; exact r.val k)
  obtain ⟨p, hp, hp2⟩ := Option.map_eq_some_iff.mp hw
  refine wpAny_getItem_heap (nroom hu) (key_is I2.hok hb) dd hp ?_
  rw [hp2]
  exact ⟨v, H2, I2.tok _, rw', q2⟩
/-- a store at a new key -/
def sNPut (P : Program) (w : World) : TSet := fun o i v H Q => ∃ (a b : Addr) (kvs : List (FKey × V)) (k : FKey), o = .ref a ∧ i = .ref b ∧ NDict P w H a kvs ∧ KeyAt H b k ∧ valV kvs k = none ∧ kvs.length < sizeLine ∧
  ∀ H', NDict P w H' a (kvs ++ [(k, v)]) → (∀ c, c ≠ a → H' c = H c) → Q H'
theorem set_nput (hu : X.A.units + 64 < cLine) : PSet X (sNPut X.prog X.w) := by
  intro pins s σ H o i v ov iv u Q I ro ri rv h
  obtain ⟨a, b, kvs, k, rfl, rfl, d, hb, hn, hl, q⟩ := h
  cases ro
  cases ri
  obtain ⟨hm, _, xs, e, r, dd⟩ := nd_of I d
  have hz : xs.length ≤ sizeLine := by rw [← Paired.length r]; omega
  refine wpAny_setItem_heap (hsz := hz) (nroom hu) (key_is I.hok hb) dd fun h' dd' hs => ?_
  obtain ⟨q0, es, ep, g1, g2, g3, g4, _, g5⟩ := dd'
  have r' := r.new hb rv hn
  have hlen : (storedH xs (nk k) b u).length ≤ sizeLine := by
    rw [← Paired.length r', List.length_append, List.length_singleton]
    exact hl
  have ht : ∀ c ys, H c = some (.tup ys) → upd H a (nestObj X.prog X.w a (storedH xs (nk k) b u)) c = some (.tup ys) := fun c ys ec => by
    rw [upd_ne (ne_of ec e (by intro z; cases z))]
    exact ec
  refine ⟨upd H a (nestObj X.prog X.w a (storedH xs (nk k) b u)), d_write I (by rw [e]; exact True.intro) hs ⟨q0, g1⟩ ⟨⟨hm, hlen, q0, es, ep, g1, g2, g3, g4, g5⟩, ⟨q0, g1⟩, ?_⟩, q _ ⟨_, upd_same, Paired.mapP r' fun _ _ z => ⟨z.1, z.2.1.mono ht, z.2.2⟩⟩ fun c hc => upd_ne hc⟩
  rintro h1 h2 ⟨m1, m2, o', es', ep', f1, f2⟩ kk
  exact ⟨m1, m2, o', es', ep', kk _ f1, f2⟩
end
end K45
end
section
set_option Elab.async false
set_option linter.all false
set_option maxRecDepth 100000
set_option maxHeartbeats 4000000
namespace K45
open PySem PySem.Spec PyProof.Rows L2
/-! ### a display of one such pair -/
theorem nest_new {P : Program} {w : World} {H : Hp} (h : Heap) (hb : sysModules < h.objs.size) : ObjOk P w H (h.push { cls := .type "dict", data := .dict #[] }) h.objs.size (nestObj P w h.objs.size []) := by
  refine ⟨⟨beq_eq_false_iff_ne.mpr (Ne.symm (Nat.ne_of_lt hb)), Nat.zero_le _, _, #[], 0, Heap.get?_push_size _ rfl, ⟨rfl, rfl, rfl⟩, rfl, rfl, List.nodup_nil⟩, ⟨_, Heap.get?_push_size _ rfl⟩, ?_⟩
  rintro h1 h2 ⟨m1, m2, o', es', ep', f1, f2⟩ kk
  exact ⟨m1, m2, o', es', ep', kk _ f1, f2⟩
def tNDisp (P : Program) (w : World) (tk tv : TE) : TE := fun σ H Q => ∀ p, H p = none → tPairs [(tk, tv)] σ (upd H p (nestObj P w p [])) fun ps H2 => H2 p = some (nestObj P w p []) ∧
  ∃ (b : Addr) (k : FKey) (y : V), ps = [(.ref b, y)] ∧ KeyAt H2 b k ∧ ∀ H3, NDict P w H3 p [(k, y)] → (∀ c, c ≠ p → H3 c = H2 c) → Q (.ref p) H3
theorem pe_ndisp {X : Cx} {pos : Pos} {ke ve : Expr} {tk tv : TE} (hu : X.A.units + 64 < cLine) (hk : PE X ke tk) (hv : PE X ve tv) : PE X (.Dict [some ke] [ve] pos) (tNDisp X.prog X.w tk tv) := by
  refine ⟨fun pins s σ H Q I q => ?_⟩
  have hn := I.hok.fresh (Nat.le_refl s.heap.objs.size)
  have I1 := I.laid (a := s.heap.objs.size) (o := nestObj X.prog X.w s.heap.objs.size []) (h' := s.heap.push { cls := .type "dict", data := .dict #[] }) (t' := s.toks) (fun _ _ q => Heap.get?_push_of_some _ q) (Nat.le_refl _) (nest_new s.heap I.big)
  have e1 : PPs X pos [some ke] [ve] [(tk, tv)] := pps_cons hk hv pps_nil
  have ed := dictDisplay_pairs (pairTrees [some ke] [ve] X.env pos) (by intro e; cases e) (by show 1 < 17; decide)
  rw [arm_eval_Dict, show (evalEachOpt [some ke] X.env).zip ((evalEach [ve] X.env).map fun v => do let x ← v; standAt pos; pure x) = (pairTrees [some ke] [ve] X.env pos).map fun p => (some p.1, p.2) from rfl, ed]
  refine wpAny_bind (wpAny_standAt (wpAny_bind (wpAny_subDictH (knd := nestedKind X.prog X.w) (by show X.A.units + 8 < cLine; omega) (by show 1 ≤ 15; decide) ?_)))
  refine thn (e1.run pins _ σ _ _ I1 (q _ hn)) fun ws s2 ⟨ps, H2, I2, rel, e, b, k, y, ep, hb, fin⟩ => ?_
  subst ep
  obtain ⟨u, eu⟩ : ∃ u, ws = [(.ref b, u)] ∧ RelV y u := by
    cases rel with
    | @cons p q ps qs r rr =>
      cases rr
      obtain ⟨q1, q2⟩ := q
      obtain ⟨r1, r2⟩ := r
      cases (show q1 = Value.ref b from r1)
      exact ⟨q2, rfl, r2⟩
  obtain ⟨rfl, ry⟩ := eu
  obtain ⟨hm, _, xs, ex, rx, dd⟩ := nd_of I2 (kvs := []) ⟨[], e, .nil⟩
  cases rx
  refine ⟨[(nk k, b, u)], ⟨rfl, rfl, key_is I2.hok hb, trivial⟩, dd, fun h' tk' dd' hs => ?_⟩
  have r' : NRel H2 [(k, y)] [(nk k, b, u)] := .cons ⟨rfl, hb, ry⟩ .nil
  have e9 : storedAllH [] [(nk k, b, u)] = [(nk k, b, u)] := rfl
  rw [e9] at dd'
  obtain ⟨q0, es, ep, g1, g2, g3, g4, _, g5⟩ := dd'
  have ht : ∀ c ys, H2 c = some (.tup ys) → upd H2 s.heap.objs.size (nestObj X.prog X.w s.heap.objs.size [(nk k, b, u)]) c = some (.tup ys) := fun c ys ec => by
    rw [upd_ne (ne_of ec e (by intro z; cases z))]
    exact ec
  refine wpAny_pure ⟨.ref s.heap.objs.size, upd H2 s.heap.objs.size (nestObj X.prog X.w s.heap.objs.size [(nk k, b, u)]), d_write I2 (by rw [e]; exact True.intro) hs ⟨q0, g1⟩ ⟨⟨hm, by show 1 ≤ sizeLine; decide, q0, es, ep, g1, g2, g3, g4, g5⟩, ⟨q0, g1⟩, ?_⟩, rfl, fin _ ⟨_, upd_same, Paired.mapP r' fun _ _ z => ⟨z.1, z.2.1.mono ht, z.2.2⟩⟩ fun c hc => upd_ne hc⟩
  rintro h1 h2 ⟨m1, m2, o', es', ep', f1, f2⟩ kk
  exact ⟨m1, m2, o', es', ep', kk _ f1, f2⟩
end K45
end
section
set_option Elab.async false
set_option linter.all false
set_option maxRecDepth 100000
set_option maxHeartbeats 4000000
namespace K45
open PySem PySem.Spec PyProof.Rows L2
/-! ### set(xs) of a list of ints, sorted of such a set: of any size below the model's line -/
abbrev newSet (w : World) : Obj := { cls := .type "set", dict := none, data := .set #[] 0 (.fresh 0 0 (!w.params.followText "set-order")) }
section
variable {P : Program} {w : World} {A : Around} {E : Value → Shared → Prop} {s : Shared}
/-- what set.__init__ leaves behind -/
abbrev Filled (w : World) (s : Shared) (ns : List Int) (s2 : Shared) : Prop := ∃ h' tk c, s2 = { s with heap := h', toks := tk } ∧ SetR w h' s.heap.objs.size (fun j => decide (j ∈ ns)) c ∧ c ≤ ns.length ∧ ∀ b o, s.heap.get? b = some o → h'.get? b = some o
theorem fill_set {l : Addr} {its : Array Value} (ns : List Int) (hh : A.handled = none) (hl : s.heap.IsList l its) (hit : IntsAre its.toList ns) (hb : ns.length + 1 < scanBound) {t0 : Nat} {R : Result → Shared → Prop}
    (hR : ∀ s2, Filled w s ns s2 → R (.ok (.ret .none)) s2) :
    wpAny (model P w) A.in1 (Builtin.«set.__init__» ⟨[.ref s.heap.objs.size, .ref l], []⟩) (fun fin s' => match fin with
      | .done f => R (.ok f) s'
      | .again c' => c'.quiet = true ∧ codeAny (model P w) A c' R s') (fun e s' => R (.error e) s') { s with heap := s.heap.push (newSet w), toks := t0 } := by
  have hn : its.size = ns.length := by
    have q := IntsAre.length hit
    rwa [Array.length_toList] at q
  obtain ⟨ol, hol, hcl, nl, hdl⟩ := hl
  obtain ⟨oc, od, odt, osl⟩ := ol
  simp only at hcl hdl
  subst hcl
  subst hdl
  have hS : (s.heap.push (newSet w)).get? s.heap.objs.size = some (newSet w) := Heap.get?_push_size _ rfl
  have hL : (s.heap.push (newSet w)).get? l = some ⟨.type "list", od, .seq its nl, osl⟩ := Heap.get?_push_of_some _ hol
  have q1 := F.sub_list_set
  have q2 := F.sub_list_frozenset
  have q3 : (Value.type "list" == Value.type "dict") = false := by decide
  have hl1 : (s.heap.push (newSet w)).IsList l its := ⟨_, hL, rfl, nl, rfl⟩
  unfold Builtin.«set.__init__» noKeywords Builtin.Frozenset.updateFrom
  generalize eP : pyIter = PI
  wp_walk
  subst eP
  refine wpAny_pyIter_list hl1 (wpAny_bind (wpAny_runValue ?_))
  have below : l < s.heap.objs.size := Heap.lt_size hol
  have hh3 : A.in1.in1.handled = none := by simp [hh]
  have nI : l ≠ (s.heap.push (newSet w)).objs.size := by
    rw [Heap.size_push]
    exact Nat.ne_of_lt (Nat.lt_succ_of_lt below)
  have nf : s.heap.objs.size ∉ [(s.heap.push (newSet w)).objs.size, l] := by
    rw [Heap.size_push]
    intro z
    rcases List.mem_cons.mp z with z | z
    · exact absurd z (Nat.ne_of_lt (Nat.lt_succ_self _))
    · exact absurd (List.mem_singleton.mp z) (Nat.ne_of_gt below)
  have hval : ∀ (i : Nat) (v : Value), its[i]? = some v → ∃ k t, ns[i]? = some k ∧ v = .int k t := fun i v hv => by
    have hi : i < ns.length := by
      rw [← hn]
      exact (Array.getElem?_eq_some_iff.mp hv).1
    obtain ⟨t, e⟩ := PyProof.Rows.IntsAre.int_at hit i v (by rw [Array.getElem?_toList]; exact hv)
    refine ⟨ns[i], t, List.getElem?_eq_getElem hi, ?_⟩
    rw [e, List.getD_eq_getElem?_getD, List.getElem?_eq_getElem hi]
    rfl
  refine set_update_ints ((Walks.list hh3 _ l nI its).toS) s.heap.objs.size nf ns hn hb hval its.size 0 _ (Nat.sub_zero _) (Nat.zero_le _) ⟨⟨_, Heap.get?_push_size _ rfl, rfl, rfl⟩, hl1.push _⟩ ?kS ?kR
  case kS =>
    have g := Heap.get?_push_of_some { cls := .type "list_iterator", data := .fields #[.ref l, .int 0 0] } hS
    exact ⟨0, Nat.le_refl 0, setR_new_at (w := w) g⟩
  rintro ⟨h', g', d', tk', os'⟩ c' hm hc' hS'
  cases (show g' = s.gens from hm.gens)
  cases (show d' = s.drawn from hm.drawn)
  cases (show os' = s.os from hm.os)
  show wpAny _ _ _ _ _ _
  refine wpAny_pure ?_
  show wpAny _ _ (ret Value.none) _ _ _
  rw [hn] at hc'
  refine wpAny_pure (hR _ ⟨h', tk', c', rfl, hS', hc', fun b o e => ?_⟩)
  have lt := Heap.lt_size e
  refine hm.heap b o (fun z => ?_) (Heap.get?_push_of_some _ (Heap.get?_push_of_some _ e))
  rcases List.mem_cons.mp z with z | z
  · exact absurd z (Nat.ne_of_lt lt)
  · have z := List.mem_singleton.mp z
    rw [Heap.size_push] at z
    exact absurd z (Nat.ne_of_lt (Nat.lt_succ_of_lt lt))
theorem set_of_list {l : Addr} {its : Array Value} (ns : List Int) {Q : Value → Shared → Prop} (hh : A.handled = none) (hl : s.heap.IsList l its) (hit : IntsAre its.toList ns) (hb : ns.length + 1 < scanBound)
    (hQ : ∀ s2, Filled w s ns s2 → Q (.ref s.heap.objs.size) s2) : wpAny (model P w) A (call (.type "set") [.ref l]) Q E s := by
  obtain ⟨c, tl, hmro⟩ := F.called_set.mro
  have m1 := F.called_set.made
  have m2 := F.called_set.sub
  have m3 := F.called_set.notType
  have m4 := F.called_set.canCreate
  have m5 := F.typeCall_set_1 (.ref l)
  refine wpAny_call (codeAny_of_tree ?_)
  show wpAny _ _ (callAny (.type "set") _) _ _ _
  refine wpAny_pure ⟨Code.quiet_builtin _ (by decide +kernel), codeAny_builtin F.entry_type_call ?_⟩
  rw [Around.under_plain (weight_type_call_type "set" [.ref l] []) rfl]
  repeat (any_goals (first | assumption | wp_step))
  refine codeAny_mono (code_set_led1 (.ref l) (E := E) (Q₁ := fun obj z => obj = .ref s.heap.objs.size ∧ z = { s with heap := s.heap.push (newSet w) }) ⟨rfl, rfl⟩) fun r z hr => ?_
  cases r with
  | error e => exact hr
  | ok fl =>
    cases fl with
    | ret obj =>
      obtain ⟨rfl, rfl⟩ := hr
      have hT : Shared.TypeIs { s with heap := s.heap.push (newSet w) } (.ref s.heap.objs.size) "set" := ⟨_, Heap.get?_push_size _ rfl, rfl⟩
      have n1 := F.called_set.init.lookup
      have n2 := F.called_set.init.bind (.ref s.heap.objs.size)
      repeat (any_goals (first | assumption | wp_step))
      refine codeAny_mono (codeAny_call_builtin (R := wants (fun r z => r = .none ∧ Filled w s ns z) E) F.called_set.init.plain F.entry_set_init (check_set_init_1 hT (fill_set (A := A.in1) (R := wants (fun r z => r = Value.none ∧ Filled w s ns z) E) ns (by simp [hh]) hl hit hb fun z hz => ⟨rfl, hz⟩))) fun r2 z2 hr2 => ?_
      cases r2 with
      | error e => exact hr2
      | ok fl2 =>
        cases fl2 with
        | ret r =>
          obtain ⟨rfl, hz⟩ := hr2
          obtain ⟨h', tk, c', rfl, a1, a2, a3⟩ := id hz
          repeat (any_goals (first | assumption | wp_step))
          exact hQ _ hz
        | _ => exact hr2.elim
    | _ => exact hr.elim
theorem nodup_rise : ∀ l : List Int, l.Pairwise (· ≤ ·) → l.Nodup → l.Pairwise (· < ·)
  | [], _, _ => .nil
  | x :: l, h, d => by
    obtain ⟨h1, h2⟩ := List.pairwise_cons.mp h
    obtain ⟨d1, d2⟩ := List.nodup_cons.mp d
    refine .cons (fun y hy => ?_) (nodup_rise l h2 d2)
    have a := h1 y hy
    have b : x ≠ y := fun z => d1 (by rw [z]; exact hy)
    omega
/-- sorted(set), however many members -/
theorem sorted_setA {a : Addr} {S : Int → Bool} {n : Nat} {Q : Value → Shared → Prop} (R : SetR w s.heap a S n) (hh : A.handled = none)
    (hQ : ∀ z p (out : Array Value) (c : Nat) (ns : List Int), (∀ b o, s.heap.get? b = some o → z.heap.get? b = some o) → z.gens = s.gens → z.os = s.os → s.heap.objs.size ≤ p → z.heap.get? p = some (seqObj "list" out c) →
      IntsAre out.toList ns → ns.Pairwise (· < ·) → (∀ k, k ∈ ns ↔ S k = true) → ns.length = n → Q (.ref p) z) : wpAny (model P w) A (call (.builtin "sorted") [.ref a]) Q E s := by
  obtain ⟨o, es, ep, t, ho, hex, hd, g, nd, hm, hb, hf, hn, hr, hl⟩ := R
  refine Calls.call_function_entry kind_sorted plain_sorted entry_sorted (args_sorted1 _) ?_
  unfold Builtin.«sorted»
  refine wpAny_bind (m := checkCount "sorted" 1 1 _) (wpAny_pure (wpAny_bind (collect_set (A := A.in1) hh ⟨o, ho, hex.1, hd⟩ hf hb hr hl fun z vs k1 hz g1 o1 pm => ?_)))
  have len : vs.length = n := by
    rw [pm.length_eq, List.length_map, Array.length_toList]
    exact hn
  have small : vs.length ≤ sizeLine := by
    rw [len, ← hn]
    exact Nat.le_of_lt (Nat.lt_of_lt_of_le hb (by decide))
  have aint : IntsAre vs (vs.map Builtin.Re.reRawOf) := ints_of vs fun v hv => by
    obtain ⟨e, he, q⟩ := List.mem_map.mp (pm.mem_iff.mp hv)
    obtain ⟨k, tk, h1, _⟩ := g e he
    exact ⟨k, tk, q.symm.trans h1⟩
  have pk : (vs.map Builtin.Re.reRawOf).Perm (es.toList.map keyOf) := by
    have q := pm.map Builtin.Re.reRawOf
    rwa [List.map_map] at q
  refine wpAny_bind (wpAny_newList ?_ small)
  have hoL : (z.heap.push (seqObj "list" vs.toArray 0)).get? z.heap.objs.size = some (seqObj "list" vs.toArray 0) := Heap.get?_push_size _ rfl
  refine wpAny_bind (wpAny_holding (wpAny_call_entry slot_list_sort ⟨_, hoL, rfl⟩ entry_list_sort (list_sort_treeAny hoL aint small fun out ns' a1 a2 a3 => ⟨_, rfl, ?_⟩) (args_list_sort _)))
  obtain ⟨c, hc⟩ := sortedHeap_at (vs := vs) (out := out) hoL
  have pn : ns'.Perm (es.toList.map keyOf) := a2.trans pk
  refine wpAny_pure ⟨_, rfl, hQ _ z.heap.objs.size out c ns' (fun b u e => ?_) g1 o1 hz hc a1 (nodup_rise ns' a3 (pn.nodup_iff.mpr nd)) (fun k => by rw [pn.mem_iff, ← hm k]) (by rw [pn.length_eq, List.length_map, Array.length_toList]; exact hn)⟩
  have q := k1 b u e
  have lt := Heap.lt_size q
  have q2 := Heap.get?_push_of_some (seqObj "list" vs.toArray 0) q
  rw [← sortedHeap_old (vs := vs) (out := out) (Nat.ne_of_lt lt) (by rw [Heap.size_push]; exact Nat.lt_succ_of_lt lt)] at q2
  exact q2
end
section
variable {X : Cx}
def rSetI (K : PySem.W.Frag) (w : World) : List V → Hp → VK → Prop := fun vs H Q => ∃ (a : Addr) (ns : List Int), vs = [V.ref a] ∧ SqL K H a (ns.map V.int) ∧ ns.length + 1 < 4096 ∧
  ∀ (p : Addr) (c : Nat), H p = none → c ≤ ns.length → Q (.ref p) (upd H p (SetO w p (fun j => decide (j ∈ ns)) c))
theorem cr_setI (hc : X.calm = true) : CallR X (.type "set") (rSetI X.K X.w) := by
  intro pins s σ H vs us Q I r h
  obtain ⟨a, ns, rfl, hs, hb, q⟩ := h
  obtain ⟨its, rv, pl, _⟩ := I.list hs
  rw [Vals.ref1 r]
  refine set_of_list ns (I.ok.hd hc) pl.isList (ints_of_vals rv) hb fun s2 hz => ?_
  obtain ⟨h', tk, c, rfl, R, hcn, k⟩ := hz
  exact ⟨.ref s.heap.objs.size, upd H s.heap.objs.size (SetO X.w s.heap.objs.size (fun j => decide (j ∈ ns)) c), I.laid (t' := tk) k (Nat.le_refl _) (setO_new R), rfl, q _ c (I.hok.fresh (Nat.le_refl _)) hcn⟩
def rSortedSetA (w : World) : List V → Hp → VK → Prop := fun vs H Q => ∃ (a : Addr) (S : Int → Bool) (n : Nat), vs = [V.ref a] ∧ H a = some (SetO w a S n) ∧ n ≤ sizeLine ∧
  ∀ (ns : List Int) (p : Addr), ns.Pairwise (· < ·) → (∀ k : Int, k ∈ ns ↔ S k = true) → H p = none → Q (.ref p) (upd H p (.lst (ns.map V.int)))
theorem cr_sortedSetA (hc : X.calm = true) : CallR X (.builtin "sorted") (rSortedSetA X.w) := by
  intro pins s σ H vs us Q I r h
  obtain ⟨a, S, n, rfl, ha, hn, q⟩ := h
  rw [Vals.ref1 r]
  refine sorted_setA (setO_get I ha) (I.ok.hd hc) fun z p out c ns k g o hp hg hi hs hm hl => ?_
  have len : (ns.map V.int).length ≤ sizeLine := by
    rw [List.length_map, hl]
    exact hn
  have fr : H p = none := I.hok.fresh hp
  obtain ⟨zh, zg, zd, zt, zo⟩ := z
  cases (show zo = s.os from o)
  exact ⟨.ref p, upd H p (.lst (ns.map V.int)), I.call (ch := []) (Un.laid k hp fr) (I.hok.laid k hp ⟨len, out.toList, c, vals_of_ints hi, hg⟩) (by rw [show zg = s.gens from g]; exact I.bare) (fun _ z => nomatch z), rfl, q ns p hs hm fr⟩
end
end K45
end
section
set_option Elab.async false
set_option linter.all false
set_option maxRecDepth 100000
set_option maxHeartbeats 4000000
namespace K45
open PySem PySem.Spec PyProof.Rows L2
/-! ### a def by its body, nothing raised -/
section
variable {P : Program} {w : World} {K : PySem.W.Frag} {mg : Str → Option Value} {base : Heap} {x q : Str} {st : Stmt} {f : Addr} {fd : FuncData} {N ps : List Str} {k : Nat} {sp : Sp}
/-- what a body's proof shows -/
abbrev Body (P : Program) (w : World) (K : PySem.W.Frag) (mg : Str → Option Value) (base : Heap) (N : List Str) (q : Str) (st : Stmt) (f : Addr) (k : Nat) (sp : Sp) : Prop :=
  ∀ (cdv : Value) (A : Around) (outer : List Env) (s : Shared) (H : Hp) (vs : List V) (Q : VK) (E : XK), Room k (A.deeper (envOfC q (defScope st) s.heap.objs.size f cdv)) → sp vs H Q E →
    ∃ t, PSs (cxOf C8.CX0 P w K mg base N q (defScope st) f cdv A outer s H E).nox (defBody st) t ∧ t { nx := fun _ H' => Q .non H', rt := Q } (start N vs) H
theorem fn_by {dvs : List V} (F : FunD K x q (defArgs st) (defBody st) (defScope st) dvs [] f fd) (S : FnScope N ps (defScope st)) (len : ∀ vs H Q E, sp vs H Q E → vs.length = ps.length) (hb : Body P w K mg base N q st f k sp) : FnOk P w K mg base C8.CX0 (k + 1) f fd ps sp := by
  refine F.ok S len fun cdv A outer s H vs Q E hr h => ?_
  obtain ⟨t, h1, h2⟩ := hb cdv A outer s H vs Q E hr h
  exact ⟨t, h1.nox, h2⟩
/-- a def of the module -/
theorem cal_by (hm : mg x = some (.ref f)) (hF : ∃ fd, FnP K x q st f fd) (S : FnScope N ps (defScope st)) (len : ∀ vs H Q E, sp vs H Q E → vs.length = ps.length)
    (h : ∀ (kV doc pm : Value) (an : Option Addr) (cdv ct : Value) (us : List Value), us.length = ps.length → bindArgs (PySem.W.fnOf x q (defArgs st) (defBody st) (defScope st) .none kV doc pm an cdv ct) ⟨us, []⟩ = pure (ps.zip us))
    (hb : Body P w K mg base N q st f k sp) : C8.Cal P w K mg base (k + 1) x sp [] := by
  obtain ⟨fd, F⟩ := hF
  exact ⟨f, fd, ps, [], fn_by F S len hb, hm, F.kp, F.bindsN h, .nil⟩
/-- a method -/
theorem met_by {C : Addr} (c : Cls K C) (m : Meth K C x f) (hF : ∃ fd, FnP K x q st f fd) (S : FnScope N ps (defScope st)) (len : ∀ vs H Q E, sp vs H Q E → vs.length = ps.length)
    (h : ∀ (kV doc pm : Value) (an : Option Addr) (cdv ct : Value) (us : List Value), us.length = ps.length → bindArgs (PySem.W.fnOf x q (defArgs st) (defBody st) (defScope st) .none kV doc pm an cdv ct) ⟨us, []⟩ = pure (ps.zip us))
    (hb : Body P w K mg base N q st f k sp) : C8.Met P w K mg base (k + 1) C x sp [] := by
  obtain ⟨fd, F⟩ := hF
  exact ⟨f, fd, ps, [], c, m, fn_by F S len hb, F.bindsN h, .nil⟩
/-- a class by its __init__ -/
theorem mak_by {C : Addr} {y : Str} (M : Mk K C f) (hm : mg y = some (.ref C)) (hF : ∃ fd, FnP K x q st f fd) (S : FnScope N ps (defScope st)) (len : ∀ vs H Q E, sp vs H Q E → vs.length = ps.length)
    (h : ∀ (kV doc pm : Value) (an : Option Addr) (cdv ct : Value) (us : List Value), us.length = ps.length → bindArgs (PySem.W.fnOf x q (defArgs st) (defBody st) (defScope st) .none kV doc pm an cdv ct) ⟨us, []⟩ = pure (ps.zip us))
    (hb : Body P w K mg base N q st f k sp) : C8.Mak P w K mg base (k + 1) y C sp [] := by
  obtain ⟨fd, F⟩ := hF
  exact ⟨f, fd, ps, [], M, fn_by F S len hb, hm, F.bindsN h, .nil⟩
/-- a property of a class by its getter -/
structure Prp (P : Program) (w : World) (K : PySem.W.Frag) (mg : Str → Option Value) (base : Heap) (k : Nat) (C : Addr) (f : Str) (sp : Sp) : Prop where
  ex : ∃ (p g : Addr) (fd : FuncData), Cls K C ∧ PropOf K C f p g ∧ FnOk P w K mg base C8.CX0 k g fd ["self"] sp ∧ Binds K fd ["self"] []
theorem prp_by {C p : Addr} (c : Cls K C) (m : PropOf K C x p f) (hF : ∃ fd, FnP K x q st f fd) (S : FnScope N ["self"] (defScope st)) (len : ∀ vs H Q E, sp vs H Q E → vs.length = 1)
    (h : ∀ (kV doc pm : Value) (an : Option Addr) (cdv ct : Value) (us : List Value), us.length = 1 → bindArgs (PySem.W.fnOf x q (defArgs st) (defBody st) (defScope st) .none kV doc pm an cdv ct) ⟨us, []⟩ = pure ((["self"] : List Str).zip us))
    (hb : Body P w K mg base N q st f k sp) : Prp P w K mg base (k + 1) C x sp := by
  obtain ⟨fd, F⟩ := hF
  exact ⟨p, f, fd, c, m, fn_by F S len hb, F.bindsN h⟩
end
theorem pe_pr {X : Cx} {k j : Nat} {C : Addr} {f : Str} {sp : Sp} {e : Expr} {pos : Pos} {ta : TE} (c : Prp X.prog X.w X.K X.mg X.base k C f sp) (hr : Room j X.A) (hk : k + 1 ≤ j) (he : PE X e ta) (hab : attributeBase e f X.env (eval e X.env) = eval e X.env := by rfl) :
    PE X (.Attribute e f pos) (tProp C sp [] C8.E0 ta) := by
  obtain ⟨p, g, fd, hc, hp, F, b⟩ := c.ex
  exact pe_prop he hc hp F (hr.mono hk) b .nil C8.pass0 hab
/-- the minus of one's own class -/
def rNegO (C : Addr) (sp : Sp) : V → Hp → VK → Prop := fun x H Q => ∃ a dx fs, x = .ref a ∧ H a = some (.ins C dx fs) ∧ sp [.ref a] H Q C8.E0
theorem un_own {X : Cx} {C : Addr} {k j : Nat} {sp : Sp} (c : C8.Met X.prog X.w X.K X.mg X.base k C "__neg__" sp []) (hr : Room j X.A) (hk : k ≤ j) : UnR X (unaryOp .USub) (rNegO C sp) := by
  intro pins s σ H x v Q I rx h
  obtain ⟨a, dx, fs, rfl, ha, q⟩ := h
  cases rx
  obtain ⟨f, fd, ps, ds, _, m, F, b, d⟩ := c.ex
  obtain ⟨m0, hF⟩ := I.fr
  obtain ⟨mA, O, _⟩ := ins_get I.hok ha
  obtain ⟨od, J, _⟩ := O.look
  have r : Vals [V.ref a] [Value.ref a] := .cons rfl .nil
  exact PySem.W.ksp_neg hF I.ok.mod.kin J m.at_ m.fn (run_fn F (hr.mono hk) b d C8.pass0 I r q)
/-- a module's int -/
theorem pe_gi {X : Cx} {x : Str} {i : Int} {pos : Pos} (hg : Gl X x) (h : ∃ t, X.mg x = some (.int i t)) (hd : (x == ("__debug__" : Str)) = false := by decide) : PE X (.Name x pos) (tC (.int i)) := by
  obtain ⟨t, e⟩ := h
  exact pe_glob hg e ⟨t, rfl⟩ hd
theorem C8.Cal.mono {P : Program} {w : World} {K : PySem.W.Frag} {mg : Str → Option Value} {base : Heap} {j k : Nat} {x : Str} {sp : Sp} {dvs : List V} (c : C8.Cal P w K mg base j x sp dvs) (h : j ≤ k) : C8.Cal P w K mg base k x sp dvs := by
  obtain ⟨f, fd, ps, ds, F, r⟩ := c.ex
  exact ⟨f, fd, ps, ds, F.mono h, r⟩
end K45
end
section
set_option Elab.async false
set_option linter.all false
set_option maxRecDepth 100000
set_option maxHeartbeats 4000000
namespace K45
open PySem PySem.Spec PyProof.Rows L2
open SG (Dy redu Plain sc)
/-! ### dyadic.py -/
abbrev cD (K : PySem.W.Frag) : Addr := He.ga K "Dyadic"
def dyF (v : Dy) : List (Str × V) := [("_top", V.int v.t), ("_power", V.int (v.p : Int))]
theorem dyF_put (v : Dy) : putF "_power" (V.int (v.p : Int)) (putF "_top" (V.int v.t) []) = dyF v := rfl
theorem dyF_top (v : Dy) : (dyF v).lookup ("_top" : Str) = some (V.int v.t) := rfl
theorem dyF_power (v : Dy) : (dyF v).lookup ("_power" : Str) = some (V.int (v.p : Int)) := rfl
structure DyOk (v : Dy) : Prop where
  pl : Plain v
  lo : -(10 ^ 12) ≤ v.t
  hi : v.t ≤ 10 ^ 12
  p : v.p ≤ 40
/-- at d stands this dyadic -/
def DyAt (K : PySem.W.Frag) (H : Hp) (d : Addr) (v : Dy) : Prop := ∃ dx, H d = some (.ins (cD K) dx (dyF v)) ∧ DyOk v
theorem DyAt.mono {K : PySem.W.Frag} {H H' : Hp} {d : Addr} {v : Dy} (h : DyAt K H d v) (k : ∀ o, H d = some o → H' d = some o) : DyAt K H' d v :=
  let ⟨dx, e, r⟩ := h
  ⟨dx, k _ e, r⟩
def spIsInt : Sp := fun vs H Q _ => ∃ i : Int, vs = [.int i] ∧ Q (.bl true) H
def spRedu : Sp := fun vs H Q _ => ∃ (t : Int) (p : Nat), vs = [.int t, .int (p : Int)] ∧ ∀ a, H a = none → Q (.ref a) (upd H a (.tup [.int (redu t p).t, .int ((redu t p).p : Int)]))
def spDyInit (K : PySem.W.Frag) : Sp := fun vs H Q _ => ∃ (a dx : Addr) (t : Int) (p : Nat), vs = [.ref a, .int t, .int (p : Int)] ∧ H a = some (.ins (cD K) dx []) ∧ -(10 ^ 12) ≤ t ∧ t ≤ 10 ^ 12 ∧ p ≤ 40 ∧
  ∀ H', DyAt K H' a (redu t p) → (∀ c o, H c = some o → c ≠ a → H' c = some o) → Q .non H'
section
variable {P : Program} {w : World} {K : PySem.W.Frag} {mg : Str → Option Value} {base : Heap} (T : Tx K mg)
include T
theorem k_is_integer : C8.Cal P w K mg base 1 "is_integer" spIsInt [] := by
  refine cal_by (t_glo_is_integer T) (t_fn_is_integer T) sc_is_integer (fun vs H Q E h => ?_) (fun _ _ _ _ _ _ us hl => match us, hl with | [_], _ => rfl) (fun cdv A outer s H vs Q E hr h => ?_)
  · obtain ⟨i, rfl, _⟩ := h
    rfl
  · obtain ⟨i, rfl, k⟩ := h
    refine ⟨_, pss_one (ps_ret (pe_and (pe_callB call_isi (by rfl) (t_fr_isinstance T) (by decide +kernel) (pa_cons (pv 0) (pa_cons (pe_bltn (v := .ty "int") (by rfl) (t_fr_int T) (by decide +kernel) rfl) pa_nil)))
      (pe_one (pe_not (pe_callB call_isi (by rfl) (t_fr_isinstance T) (by decide +kernel) (pa_cons (pv 0) (pa_cons (pe_bltn (v := .ty "bool") (by rfl) (t_fr_bool T) (by decide +kernel) rfl) pa_nil))))))), ?_⟩
    refine ⟨.int i, rfl, _, _, .type "int", .type "int", true, rfl, .ty "int", .base (.int i), kit_ty (by decide +kernel), true, rfl, ?_⟩
    refine iteT ⟨.int i, rfl, _, _, .type "int", .type "bool", false, rfl, .ty "bool", .base (.int i), kit_ty (by decide +kernel), false, rfl, ?_⟩
    exact k
theorem k_reduced : C8.Cal P w K mg base 1 "reduced" spRedu [] := by
  refine cal_by (t_glo_reduced T) (t_fn_reduced T) sc_reduced (fun vs H Q E h => ?_) (fun _ _ _ _ _ _ us hl => match us, hl with | [_, _], _ => rfl) (fun cdv A outer s H vs Q E hr h => ?_)
  · obtain ⟨t, p, rfl, _⟩ := h
    rfl
  · obtain ⟨t, p, rfl, k⟩ := h
    refine ⟨_, pss_cons (ps_while PassesOwn.never (PW.pt (pw_and (pt_cmpR op_gt (pv 1) pe_int (nomark _)) (pw_and1 (pt_cmpR op_eq (pe_op op_mod (pv 0) pe_int) pe_int (nomark _)))))
        (pss_cons (ps_set (i := 0) sc_reduced.nd rfl (.inl rfl) (pe_op op_fdiv (pv 0) pe_int)) (pss_one (ps_set (i := 1) sc_reduced.nd rfl (.inl rfl) (pe_op op_sub (pv 1) pe_int)))))
      (pss_one (ps_ret (pe_tup (pa_cons (pv 0) (pa_cons (pv 1) pa_nil))))), ?_⟩
    refine ⟨fun m σ' H' => ∃ t', σ' = [some (.int t'), some (.int (m : Int))] ∧ H' = H ∧ redu t' m = redu t p, ⟨p, t, rfl, rfl, rfl⟩, ?_⟩
    rintro m σ' H' ⟨t', rfl, rfl, e⟩
    refine ⟨_, rfl, _, _, rfl, rfl, _, rfl, ?_⟩
    have done : redu t' m = ⟨t', m⟩ → ∀ a, H' a = none → Q (.ref a) (upd H' a (.tup [.int t', .int (m : Int)])) := fun e1 a ha => by
      have := k a ha
      rw [← e, e1] at this
      exact this
    cases m with
    | zero =>
      refine iteF ⟨_, rfl, _, rfl, by show 2 ≤ sizeLine; decide, done rfl⟩
    | succ m =>
      rw [decide_eq_true (show ((m + 1 : Nat) : Int) > 0 by omega)]
      refine iteT ⟨_, rfl, _, _, rfl, rfl, by show (0 : Int) < 2; decide, rfl, _, rfl, ?_⟩
      by_cases ev : t' % 2 = 0
      · rw [decide_eq_true (show V.int (t' % 2) = V.int 0 by rw [ev])]
        refine iteT ⟨fun σ2 H2 => σ2 = [some (.int (t' / 2)), some (.int (m : Int))] ∧ H2 = H', ?_, ?_⟩
        · rintro σ2 H2 ⟨rfl, rfl⟩
          refine ⟨m, Nat.lt_succ_self m, t' / 2, rfl, rfl, ?_⟩
          rw [← e, redu, if_pos ev]
        · refine ⟨_, rfl, _, _, rfl, rfl, ⟨by decide, by decide⟩, _, rfl, _, _, rfl, rfl, ?_, rfl⟩
          show [some (V.int (t' / 2)), some (V.int (((m + 1 : Nat) : Int) - 1))] = _
          rw [show ((m + 1 : Nat) : Int) - 1 = (m : Int) by omega]
      · rw [decide_eq_false (show ¬ V.int (t' % 2) = V.int 0 from fun z => ev (by injection z))]
        exact iteF ⟨_, rfl, _, rfl, by show 2 ≤ sizeLine; decide, done (by rw [redu, if_neg ev])⟩
/-- Dyadic(t, p), and Dyadic(t) -/
theorem body_Dyadic_init {f : Addr} : Body P w K mg base ["self", "top", "power", "plain"] "Dyadic.__init__" s_Dyadic_init f 1 (spDyInit K) := by
  intro cdv A outer s H vs Q E hr h
  obtain ⟨a, dx, t, p, rfl, ha, lo, hi, hp, k⟩ := h
  refine ⟨_, pss_cons (ps_if (PW.pt (pw_or (pt_not (pt_val (C8.pe_c (k_is_integer T) hr (by decide) (by rfl) (pa_cons (pv 1) pa_nil))))
      (pw_or1 (pt_not (pt_chain op_le op_le (pe_un un_neg (pe_gi (by rfl) (t_int_TOP_MOST T))) (pv 1) (pe_gi (by rfl) (t_int_TOP_MOST T))))))) (pss_one ps_never) pss_nil)
    (pss_cons (ps_if (PW.pt (pw_or (pt_not (pt_val (C8.pe_c (k_is_integer T) hr (by decide) (by rfl) (pa_cons (pv 2) pa_nil))))
      (pw_or1 (pt_not (pt_chain op_le op_le pe_int (pv 2) (pe_gi (by rfl) (t_int_POWER_MOST_dyadic T))))))) (pss_one ps_never) pss_nil)
    (pss_cons (ps_set (i := 3) sc_Dyadic_init.nd rfl (.inl rfl) (C8.pe_c (k_reduced T) hr (by decide) (by rfl) (pa_cons (pv 1) (pa_cons (pv 2) pa_nil))))
    (pss_cons (ps_fld (pv 0) (pe_ix ix_tup (pv 3) pe_int (fun _ _ => rfl)) rfl)
    (pss_one (ps_fld (pv 0) (pe_ix ix_tup (pv 3) pe_int (fun _ _ => rfl)) rfl))))), ?_⟩
  refine ⟨.int t, rfl, t, rfl, true, rfl, iteF ?_⟩
  refine ⟨10 ^ 12, rfl, .int t, rfl, _, _, rfl, rfl, true, ?_, ?_⟩
  · exact congrArg V.bl (decide_eq_true lo)
  refine iteT ⟨_, _, rfl, rfl, true, congrArg V.bl (decide_eq_true hi), iteF ?_⟩
  refine ⟨.int (p : Int), rfl, p, rfl, true, rfl, iteF ?_⟩
  refine ⟨.int (p : Int), rfl, _, _, rfl, rfl, true, congrArg V.bl (decide_eq_true (by omega)), ?_⟩
  refine iteT ⟨_, _, rfl, rfl, true, congrArg V.bl (decide_eq_true (by omega)), iteF ?_⟩
  refine ⟨.int t, rfl, .int (p : Int), rfl, t, p, rfl, fun b hb => ?_⟩
  have nab : a ≠ b := ne_of_none ha hb
  have e1 : (upd H b (.tup [.int (redu t p).t, .int ((redu t p).p : Int)])) b = some (.tup [.int (redu t p).t, .int ((redu t p).p : Int)]) := upd_same
  refine ⟨.ref b, rfl, b, _, 0, .int (redu t p).t, rfl, rfl, SqT.of e1, rfl, ?_⟩
  refine ⟨_, rfl, a, _, dx, [], rfl, (upd_ne nab).trans ha, t_cls_Dyadic T, t_no_Dyadic__top T, by show 0 < 1000; decide, ?_⟩
  have e2 : (upd (upd H b (.tup [.int (redu t p).t, .int ((redu t p).p : Int)])) a (.ins (cD K) dx (putF "_top" (.int (redu t p).t) []))) b = some (.tup [.int (redu t p).t, .int ((redu t p).p : Int)]) := (upd_ne nab.symm).trans e1
  refine ⟨.ref b, rfl, b, _, 1, .int ((redu t p).p : Int), rfl, rfl, SqT.of e2, rfl, ?_⟩
  refine ⟨_, rfl, a, _, dx, _, rfl, upd_same, t_cls_Dyadic T, t_no_Dyadic__power T, by show 1 < 1000; decide, ?_⟩
  obtain ⟨b1, b2⟩ := SG.redu_b p t (10 ^ 12) lo hi
  refine k _ ⟨dx, upd_same, ⟨SG.redu_plain p t, b1, b2, Nat.le_trans (SG.redu_p p t) hp⟩⟩ fun c o hc hca => ?_
  rw [upd_ne hca, upd_ne hca, upd_ne (ne_of_none hc hb)]
  exact hc
theorem len_init (vs : List V) (H : Hp) (Q : VK) (E : XK) (h : spDyInit K vs H Q E) : vs.length = 3 := by
  obtain ⟨a, dx, t, p, rfl, _⟩ := h
  rfl
theorem mk_Dyadic2 : C8.Mak P w K mg base 2 "Dyadic" (cD K) (spDyInit K) [] := by
  obtain ⟨fd, F⟩ := t_fn_Dyadic_init T
  have F' := fn_by (P := P) (w := w) (mg := mg) (base := base) F sc_Dyadic_init (len_init T) (body_Dyadic_init T)
  obtain ⟨ds, hd, hb⟩ := F.binds1 (ps := ["self", "top", "power"]) 3 1 (by decide) rfl fun T kV doc pm an cdv ct us its hl hi => match us, its, hl, hi with | [_, _, _], [_], _, _ => ⟨_, rfl, rfl⟩
  exact ⟨_, fd, _, ds, t_mkr_Dyadic T, F', t_glo_Dyadic T, hb, hd⟩
theorem mk_Dyadic1 : C8.Mak P w K mg base 2 "Dyadic" (cD K) (spDyInit K) [.int 0] := by
  obtain ⟨fd, F⟩ := t_fn_Dyadic_init T
  have F' := fn_by (P := P) (w := w) (mg := mg) (base := base) F sc_Dyadic_init (len_init T) (body_Dyadic_init T)
  obtain ⟨ds, hd, hb⟩ := F.binds1 (ps := ["self", "top", "power"]) 2 0 (by decide) rfl fun T kV doc pm an cdv ct us its hl hi => match us, its, hl, hi with | [_, _], [_], _, _ => ⟨_, rfl, rfl⟩
  exact ⟨_, fd, _, ds, t_mkr_Dyadic T, F', t_glo_Dyadic T, hb, hd⟩
end
end K45
end
section
set_option Elab.async false
set_option linter.all false
set_option maxRecDepth 100000
set_option maxHeartbeats 4000000
namespace K45
open PySem PySem.Spec PyProof.Rows L2
open SG (Dy redu Plain sc)
def spTop (K : PySem.W.Frag) : Sp := fun vs H Q _ => ∃ (d : Addr) (v : Dy), vs = [.ref d] ∧ DyAt K H d v ∧ Q (.int v.t) H
def spPower (K : PySem.W.Frag) : Sp := fun vs H Q _ => ∃ (d : Addr) (v : Dy), vs = [.ref d] ∧ DyAt K H d v ∧ Q (.int (v.p : Int)) H
def negD (v : Dy) : Dy := ⟨-v.t, v.p⟩
theorem negD_plain {v : Dy} (h : Plain v) : Plain (negD v) := by
  rcases h with h | h
  · exact .inl h
  · exact .inr (by show -v.t % 2 = 1; omega)
theorem negD_sc (v : Dy) : sc (negD v) = -sc v := by
  show 2 ^ (64 - v.p) * -v.t = -(2 ^ (64 - v.p) * v.t)
  rw [Int.mul_neg]
theorem negD_ok {v : Dy} (h : DyOk v) : DyOk (negD v) := ⟨negD_plain h.pl, by show -(10 ^ 12) ≤ -v.t; have := h.hi; omega, by show -v.t ≤ 10 ^ 12; have := h.lo; omega, h.p⟩
def spNeg (K : PySem.W.Frag) : Sp := fun vs H Q _ => ∃ (d : Addr) (v : Dy), vs = [.ref d] ∧ DyAt K H d v ∧ ∀ H' e, DyAt K H' e (negD v) → Same H H' → Q (.ref e) H'
def spLess (K : PySem.W.Frag) : Sp := fun vs H Q _ => ∃ (d e : Addr) (v u : Dy), vs = [.ref d, .ref e] ∧ DyAt K H d v ∧ DyAt K H e u ∧ Q (.bl (decide (sc v < sc u))) H
/-- a dyadic or None -/
def ODy (K : PySem.W.Frag) (H : Hp) (x : V) (o : Option Dy) : Prop := (x = .non ∧ o = none) ∨ ∃ d v, x = .ref d ∧ o = some v ∧ DyAt K H d v
theorem ODy.mono {K : PySem.W.Frag} {H H' : Hp} {x : V} {o : Option Dy} (h : ODy K H x o) (k : Same H H') : ODy K H' x o := by
  rcases h with h | ⟨d, v, h1, h2, h3⟩
  · exact .inl h
  · exact .inr ⟨d, v, h1, h2, h3.mono fun o e => k _ _ e⟩
def spNegated (K : PySem.W.Frag) : Sp := fun vs H Q _ => ∃ (x : V) (o : Option Dy), vs = [x] ∧ ODy K H x o ∧ ∀ H' y, ODy K H' y (o.map negD) → Same H H' → Q y H'
section
variable {P : Program} {w : World} {K : PySem.W.Frag} {mg : Str → Option Value} {base : Heap} (T : Tx K mg)
include T
theorem p_top : Prp P w K mg base 1 (cD K) "top" (spTop K) := by
  refine prp_by (t_cls_Dyadic T) (t_pr_Dyadic_top T) (t_gt_Dyadic_top T) sc_Dyadic_top (fun vs H Q E h => ?_) (fun _ _ _ _ _ _ us hl => match us, hl with | [_], _ => rfl) (fun cdv A outer s H vs Q E hr h => ?_)
  · obtain ⟨d, v, rfl, _⟩ := h
    rfl
  · obtain ⟨d, v, rfl, ⟨dx, e, _⟩, k⟩ := h
    exact ⟨_, pss_one (ps_ret (pe_fld (pv 0) rfl)), _, rfl, d, _, dx, _, _, rfl, e, t_cls_Dyadic T, t_no_Dyadic__top T, dyF_top v, k⟩
theorem p_power : Prp P w K mg base 1 (cD K) "power" (spPower K) := by
  refine prp_by (t_cls_Dyadic T) (t_pr_Dyadic_power T) (t_gt_Dyadic_power T) sc_Dyadic_power (fun vs H Q E h => ?_) (fun _ _ _ _ _ _ us hl => match us, hl with | [_], _ => rfl) (fun cdv A outer s H vs Q E hr h => ?_)
  · obtain ⟨d, v, rfl, _⟩ := h
    rfl
  · obtain ⟨d, v, rfl, ⟨dx, e, _⟩, k⟩ := h
    exact ⟨_, pss_one (ps_ret (pe_fld (pv 0) rfl)), _, rfl, d, _, dx, _, _, rfl, e, t_cls_Dyadic T, t_no_Dyadic__power T, dyF_power v, k⟩
theorem m_neg : C8.Met P w K mg base 4 (cD K) "__neg__" (spNeg K) [] := by
  refine met_by (t_cls_Dyadic T) (t_me_Dyadic_neg T) (t_fn_Dyadic_neg T) sc_Dyadic_neg (fun vs H Q E h => ?_) (fun _ _ _ _ _ _ us hl => match us, hl with | [_], _ => rfl) (fun cdv A outer s H vs Q E hr h => ?_)
  · obtain ⟨d, v, rfl, _⟩ := h
    rfl
  · obtain ⟨d, v, rfl, ⟨dx, e, ok⟩, k⟩ := h
    refine ⟨_, pss_one (ps_ret (C8.pe_mk (mk_Dyadic2 T) hr (by decide) (by rfl) (pa_cons (pe_un un_neg (pe_fld (pv 0) rfl)) (pa_cons (pe_fld (pv 0) rfl) pa_nil)))), ?_⟩
    refine ⟨_, rfl, d, _, dx, _, _, rfl, e, t_cls_Dyadic T, t_no_Dyadic__top T, dyF_top v, _, rfl, _, rfl, d, _, dx, _, _, rfl, e, t_cls_Dyadic T, t_no_Dyadic__power T, dyF_power v, ?_⟩
    intro x dx' nx ndx nex
    refine ⟨x, dx', -v.t, v.p, rfl, upd_same, by have := ok.hi; omega, by have := ok.lo; omega, ok.p, fun H' h1 h2 => ⟨rfl, k H' x ?_ fun b o hb => ?_⟩⟩
    · rwa [show redu (-v.t) v.p = negD v from SG.redu_of_plain (d := negD v) (negD_plain ok.pl)] at h1
    · have nb : b ≠ x := ne_of_none hb nx
      exact h2 b o (by rw [upd_ne nb, upd_ne (ne_of_none hb ndx)]; exact hb) nb
theorem m_less : C8.Met P w K mg base 3 (cD K) "less" (spLess K) [] := by
  refine met_by (t_cls_Dyadic T) (t_me_Dyadic_less T) (t_fn_Dyadic_less T) sc_Dyadic_less (fun vs H Q E h => ?_) (fun _ _ _ _ _ _ us hl => match us, hl with | [_, _], _ => rfl) (fun cdv A outer s H vs Q E hr h => ?_)
  · obtain ⟨d, e, v, u, rfl, _⟩ := h
    rfl
  · obtain ⟨d, e, v, u, rfl, hd, he, k⟩ := h
    obtain ⟨dx, e1, o1⟩ := id hd
    obtain ⟨ex, e2, o2⟩ := id he
    refine ⟨_, pss_one (ps_ret (pe_cmpR op_lt (pe_op op_shl (pe_fld (pv 0) rfl) (pe_pr (p_power T) hr (by decide) (pv 1))) (pe_op op_shl (pe_pr (p_top T) hr (by decide) (pv 1)) (pe_fld (pv 0) rfl)) (nomark _))), ?_⟩
    have small : ∀ {z : Dy}, DyOk z → z.t.natAbs < 2 ^ 64 := fun {z} o => by have := o.lo; have := o.hi; omega
    have room : ∀ {z : Dy}, DyOk z → (0 : Int) ≤ z.p ∧ (z.p : Int) ≤ 1000000 := fun {z} o => by have := o.p; omega
    refine ⟨_, rfl, d, _, dx, _, _, rfl, e1, t_cls_Dyadic T, t_no_Dyadic__top T, dyF_top v, _, rfl, e, ex, _, rfl, e2, e, u, rfl, he, _, _, rfl, rfl, ⟨(room o2).1, (room o2).2, small o1⟩, ?_⟩
    refine ⟨_, rfl, e, ex, _, rfl, e2, e, u, rfl, he, _, rfl, d, _, dx, _, _, rfl, e1, t_cls_Dyadic T, t_no_Dyadic__power T, dyF_power v, _, _, rfl, rfl, ⟨(room o1).1, (room o1).2, small o2⟩, ?_⟩
    refine ⟨_, _, rfl, rfl, ?_⟩
    have q := SG.less_iff (d := v) (e := u) (by have := o1.p; omega) (by have := o2.p; omega)
    rw [← decide_eq_decide.mpr q] at k
    exact k
theorem k_negated : C8.Cal P w K mg base 5 "negated" (spNegated K) [] := by
  refine cal_by (t_glo_negated T) (t_fn_negated T) sc_negated (fun vs H Q E h => ?_) (fun _ _ _ _ _ _ us hl => match us, hl with | [_], _ => rfl) (fun cdv A outer s H vs Q E hr h => ?_)
  · obtain ⟨x, o, rfl, _⟩ := h
    rfl
  · obtain ⟨x, o, rfl, ho, k⟩ := h
    refine ⟨_, pss_cons (ps_if (pt_cmpR op_isN (pv 0) pe_non (nomark _)) (pss_one (ps_ret pe_non)) pss_nil) (pss_one (ps_ret (pe_un (un_own (m_neg T) hr (by decide)) (pv 0)))), ?_⟩
    refine ⟨_, rfl, rfl, _, rfl, ?_⟩
    rcases ho with ⟨rfl, rfl⟩ | ⟨d, v, rfl, rfl, hd⟩
    · exact iteT (k H .non (.inl ⟨rfl, rfl⟩) (Same.refl H))
    · obtain ⟨dx, e1, o1⟩ := id hd
      exact iteF ⟨_, rfl, d, dx, _, rfl, e1, d, v, rfl, hd, fun H' e he hs => k H' _ (.inr ⟨e, _, rfl, rfl, he⟩) hs⟩
end
end K45
end
section
set_option Elab.async false
set_option linter.all false
set_option maxRecDepth 100000
set_option maxHeartbeats 4000000
namespace K45
open PySem PySem.Spec PyProof.Rows L2
open SG (Dy redu Plain sc fnd Sb)
/-! ### the simplest number between two -/
/-- a bound that the search may be given -/
structure Sm (v : Dy) : Prop where
  p : v.p ≤ 20
  lo : -(2 ^ 64 * 32) ≤ sc v
  hi : sc v ≤ 2 ^ 64 * 32
theorem Sm.neg {v : Dy} (h : Sm v) : Sm (negD v) := ⟨h.p, by rw [negD_sc]; have := h.hi; omega, by rw [negD_sc]; have := h.lo; omega⟩
theorem Sm.dvd {v : Dy} (h : Sm v) : ∃ c, sc v = 2 ^ 44 * c := by
  refine ⟨2 ^ (20 - v.p) * v.t, ?_⟩
  have := h.p
  show 2 ^ (64 - v.p) * v.t = _
  rw [← Int.mul_assoc, ← Int.pow_add, show 44 + (20 - v.p) = 64 - v.p by omega]
/-- the number tried at the power q -/
def tryT (v : Dy) (q : Nat) : Int := v.t * 2 ^ q / 2 ^ v.p + 1
theorem tryT_eq {v : Dy} {q : Nat} (hv : v.p ≤ 64) (hq : q ≤ 64) : v.t * 2 ^ q / 2 ^ v.p = sc v / 2 ^ (64 - q) := by
  have h1 : (2 : Int) ^ (64 - q) * (v.t * 2 ^ q) = 2 ^ 64 * v.t := by
    rw [Int.mul_left_comm, ← Int.pow_add, show 64 - q + q = 64 by omega, Int.mul_comm]
  have h2 : (2 : Int) ^ v.p * sc v = 2 ^ 64 * v.t := by
    show 2 ^ v.p * (2 ^ (64 - v.p) * v.t) = _
    rw [← Int.mul_assoc, ← Int.pow_add, show v.p + (64 - v.p) = 64 by omega]
  rw [← Int.mul_ediv_mul_of_pos (v.t * 2 ^ q) (2 ^ v.p) (SG.pp2 (64 - q)), ← Int.mul_ediv_mul_of_pos (sc v) (2 ^ (64 - q)) (SG.pp2 v.p), h1, h2, Int.mul_comm (2 ^ (64 - q))]
theorem try_sc {v : Dy} {q : Nat} (hv : v.p ≤ 64) (hq : q ≤ 64) : sc (redu (tryT v q) q) = fnd (sc v) q := by
  rw [SG.redu_sc q _ hq]
  unfold tryT fnd
  rw [tryT_eq hv hq]
theorem try_b {v : Dy} {q : Nat} (h : Sm v) (h0 : 0 ≤ sc v) (hq : q ≤ 21) : 0 ≤ tryT v q ∧ tryT v q ≤ 10 ^ 12 := by
  have e := tryT_eq (v := v) (q := q) (by have := h.p; omega) (by omega)
  unfold tryT
  rw [e]
  have hp := SG.pp2 (64 - q)
  have h1 : 0 ≤ sc v / 2 ^ (64 - q) := Int.ediv_nonneg h0 (Int.le_of_lt hp)
  have h2 : sc v / 2 ^ (64 - q) ≤ 2 ^ 21 * 32 := by
    refine Int.ediv_le_of_le_mul hp ?_
    have h3 : (2 : Int) ^ 43 ≤ 2 ^ (64 - q) := by
      rw [show 64 - q = 43 + (21 - q) by omega, Int.pow_add]
      have := SG.pp2 (21 - q)
      have h5 : (1 : Int) ≤ 2 ^ (21 - q) := by omega
      calc (2 : Int) ^ 43 = 2 ^ 43 * 1 := by rw [Int.mul_one]
        _ ≤ 2 ^ 43 * 2 ^ (21 - q) := Int.mul_le_mul_of_nonneg_left h5 (by decide)
    have h4 : (2 : Int) ^ 21 * 32 * 2 ^ 43 ≤ 2 ^ 21 * 32 * 2 ^ (64 - q) := Int.mul_le_mul_of_nonneg_left h3 (by decide)
    have := h.hi
    omega
  omega
theorem fnd_last {v u : Dy} (hv : Sm v) (hu : Sm u) (h : sc v < sc u) : fnd (sc v) 21 < sc u := by
  obtain ⟨a, ha⟩ := hv.dvd
  obtain ⟨b, hb⟩ := hu.dvd
  have h1 := SG.fnd_le (sc v) 21
  rw [show 64 - 21 = 43 from rfl] at h1
  omega
def spAbove (K : PySem.W.Frag) : Sp := fun vs H Q _ => ∃ (d : Addr) (v : Dy) (y : V) (o : Option Dy), vs = [.ref d, y] ∧ DyAt K H d v ∧ ODy K H y o ∧ Sm v ∧ 0 ≤ sc v ∧ (∀ u, o = some u → Sm u ∧ sc v < sc u) ∧
  ∀ H' e z, DyAt K H' e z → Sb (some (sc v)) (o.map sc) (sc z) → Same H H' → Q (.ref e) H'
section
variable {P : Program} {w : World} {K : PySem.W.Frag} {mg : Str → Option Value} {base : Heap} (T : Tx K mg)
include T
theorem k_above : C8.Cal P w K mg base 4 "above" (spAbove K) [] := by
  refine cal_by (t_glo_above T) (t_fn_above T) sc_above (fun vs H Q E h => ?_) (fun _ _ _ _ _ _ us hl => match us, hl with | [_, _], _ => rfl) (fun cdv A outer s H vs Q E hr h => ?_)
  · obtain ⟨d, v, y, o, rfl, _⟩ := h
    rfl
  · obtain ⟨d, v, y, o, rfl, hd, ho, sm, h0, hu, k⟩ := h
    have pv64 : v.p ≤ 64 := by have := sm.p; omega
    refine ⟨_, pss_cons (ps_set (i := 2) sc_above.nd rfl (.inl rfl) pe_int)
      (pss_cons (ps_set (i := 3) sc_above.nd rfl (.inl rfl) (C8.pe_mk (mk_Dyadic1 T) hr (by decide) (by rfl) (pa_cons (pe_op op_add (pe_op op_shr (pe_pr (p_top T) hr (by decide) (pv 0)) (pe_pr (p_power T) hr (by decide) (pv 0))) pe_int) pa_nil)))
      (pss_cons (ps_while PassesOwn.never (PW.pt (pw_and (pt_cmpR op_notN (pv 1) pe_non (nomark _)) (pw_and1 (pt_not (pt_val (C8.pe_mt (m_less T) hr (by decide) (pv 3) (pa_cons (pv 1) pa_nil)))))))
        (pss_cons (ps_set (i := 2) sc_above.nd rfl (.inl rfl) (pe_op op_add (pv 2) pe_int))
        (pss_one (ps_set (i := 3) sc_above.nd rfl (.inl rfl) (C8.pe_mk (mk_Dyadic2 T) hr (by decide) (by rfl) (pa_cons (pe_op op_add (pe_op op_shr (pe_op op_shl (pe_pr (p_top T) hr (by decide) (pv 0)) (pv 2)) (pe_pr (p_power T) hr (by decide) (pv 0))) pe_int) (pa_cons (pv 2) pa_nil)))))))
      (pss_one (ps_ret (pv 3))))), ?_⟩
    obtain ⟨dx, e1, o1⟩ := id hd
    refine ⟨.ref d, rfl, d, dx, _, rfl, e1, d, v, rfl, hd, .ref d, rfl, d, dx, _, rfl, e1, d, v, rfl, hd, _, _, rfl, rfl, by omega, _, _, rfl, rfl, ?_⟩
    intro x xx nx nxx nex
    obtain ⟨b1, b2⟩ := try_b (q := 0) sm h0 (by omega)
    have et : v.t / 2 ^ ((v.p : Int)).toNat + 1 = tryT v 0 := by
      unfold tryT
      rw [Int.toNat_natCast, Int.pow_zero, Int.mul_one]
    refine ⟨x, xx, tryT v 0, 0, by rw [← et]; rfl, upd_same, by omega, b2, by omega, fun H1 hx kx => ⟨rfl, ?_⟩⟩
    have s1 : Same H H1 := fun b o hb => by
      have nb : b ≠ x := ne_of_none hb nx
      exact kx b o (by rw [upd_ne nb, upd_ne (ne_of_none hb nxx)]; exact hb) nb
    refine ⟨fun m σ' H' => ∃ (q : Nat) (e : Addr), σ' = [some (.ref d), some y, some (.int (q : Int)), some (.ref e)] ∧ m = 21 - q ∧ q ≤ 21 ∧ Same H H' ∧ DyAt K H' e (redu (tryT v q) q) ∧ (∀ j, q = j + 1 → ∃ u, o = some u ∧ sc u ≤ fnd (sc v) j), ⟨21, 0, x, rfl, rfl, by omega, s1, hx, fun j z => by omega⟩, ?_⟩
    rintro m σ' H' ⟨q, e, rfl, rfl, hq, s2, he, prev⟩
    obtain ⟨ex, e2, _⟩ := id he
    have esc := try_sc (v := v) (q := q) pv64 (by omega)
    refine ⟨_, rfl, rfl, _, rfl, ?_⟩
    rcases ho with ⟨rfl, rfl⟩ | ⟨f, u, rfl, rfl, hf⟩
    · -- no upper bound: at once
      refine iteF ⟨_, rfl, k H' e _ he ?_ s2⟩
      rw [esc]
      cases q with
      | zero => exact SG.Sb.first h0 fun a z => nomatch z
      | succ j =>
        obtain ⟨u, z, _⟩ := prev j rfl
        cases z
    · have hf' : DyAt K H' f u := hf.mono fun o z => s2 _ _ z
      obtain ⟨smu, lt⟩ := hu u rfl
      refine iteT ⟨_, rfl, e, ex, _, rfl, e2, rfl, _, rfl, e, f, _, u, rfl, he, hf', _, rfl, ?_⟩
      rw [esc]
      by_cases c : fnd (sc v) q < sc u
      · rw [decide_eq_true c]
        refine iteF ⟨_, rfl, k H' e _ he ?_ s2⟩
        rw [esc]
        cases q with
        | zero => exact SG.Sb.first h0 fun a z => by rw [← Option.some.inj z]; exact c
        | succ j =>
          obtain ⟨u', z, le⟩ := prev j rfl
          cases z
          exact (SG.Sb.later (by omega) c le).2
      · rw [decide_eq_false c]
        have q21 : q ≠ 21 := fun z => c (by rw [z]; exact fnd_last sm smu lt)
        refine iteT ⟨fun σ2 H2 => ∃ e', σ2 = [some (.ref d), some (.ref f), some (.int ((q + 1 : Nat) : Int)), some (.ref e')] ∧ Same H H2 ∧ DyAt K H2 e' (redu (tryT v (q + 1)) (q + 1)), ?_, ?_⟩
        · rintro σ2 H2 ⟨e', rfl, s3, he'⟩
          refine ⟨21 - (q + 1), by omega, q + 1, e', rfl, rfl, by omega, s3, he', fun j z => ⟨u, rfl, ?_⟩⟩
          rw [show j = q by omega]
          omega
        · have hd' : DyAt K H' d v := hd.mono fun o z => s2 _ _ z
          obtain ⟨dx', e1', _⟩ := id hd'
          refine ⟨_, rfl, _, _, rfl, rfl, .ref d, rfl, d, dx', _, rfl, e1', d, v, rfl, hd', _, rfl, _, _, rfl, rfl, ?_, .ref d, rfl, d, dx', _, rfl, e1', d, v, rfl, hd', _, _, rfl, rfl, by omega, _, _, rfl, rfl, _, rfl, ?_⟩
          · refine ⟨by omega, by omega, ?_⟩
            have := o1.lo; have := o1.hi; omega
          intro z zx nz nzx nez
          obtain ⟨c1, c2⟩ := try_b (q := q + 1) sm h0 (by omega)
          have et' : v.t * 2 ^ (((q : Int) + 1)).toNat / 2 ^ ((v.p : Int)).toNat + 1 = tryT v (q + 1) := by
            unfold tryT
            rw [Int.toNat_natCast, show ((q : Int) + 1).toNat = q + 1 by omega]
          refine ⟨z, zx, tryT v (q + 1), q + 1, by rw [← et']; rfl, upd_same, by omega, c2, by omega, fun H2 hz kz => ⟨rfl, z, ?_, ?_, hz⟩⟩
          · rfl
          · intro b o hb
            have hb' := s2 b o hb
            have nb : b ≠ z := ne_of_none hb' nz
            exact kz b o (by rw [upd_ne nb, upd_ne (ne_of_none hb' nzx)]; exact hb') nb
theorem sb_test (v : Dy) (z : Dy) (h : sc z = 0) : decide (sc v < sc z) = decide (sc v < 0) := by rw [h]
end
/-- what is promised of simplest_between -/
def spSB (K : PySem.W.Frag) : Sp := fun vs H Q _ => ∃ (x y : V) (lo hi : Option Dy), vs = [x, y] ∧ ODy K H x lo ∧ ODy K H y hi ∧ (∀ l, lo = some l → Sm l) ∧ (∀ h, hi = some h → Sm h) ∧ (∀ l h, lo = some l → hi = some h → sc l < sc h) ∧
  ∀ H' e z, DyAt K H' e z → Sb (lo.map sc) (hi.map sc) (sc z) → Same H H' → Q (.ref e) H'
theorem map_neg (o : Option Dy) : (o.map negD).map sc = (o.map sc).map (- ·) := by
  cases o with
  | none => rfl
  | some v => exact congrArg some (negD_sc v)
section
variable {P : Program} {w : World} {K : PySem.W.Frag} {mg : Str → Option Value} {base : Heap} (T : Tx K mg)
include T
theorem k_simplest_between : C8.Cal P w K mg base 6 "simplest_between" (spSB K) [] := by
  refine cal_by (t_glo_simplest_between T) (t_fn_simplest_between T) sc_simplest_between (fun vs H Q E h => ?_) (fun _ _ _ _ _ _ us hl => match us, hl with | [_, _], _ => rfl) (fun cdv A outer s H vs Q E hr h => ?_)
  · obtain ⟨x, y, lo, hi, rfl, _⟩ := h
    rfl
  · obtain ⟨x, y, lo, hi, rfl, hlo, hhi, sl, sh, lt, k⟩ := h
    refine ⟨_, pss_cons (ps_if (PW.pt (pw_and (pt_cmpR op_notN (pv 0) pe_non (nomark _)) (pw_and (pt_cmpR op_notN (pv 1) pe_non (nomark _)) (pw_and1 (pt_not (pt_val (C8.pe_mt (m_less T) hr (by decide) (pv 0) (pa_cons (pv 1) pa_nil)))))))) (pss_one ps_never) pss_nil)
      (pss_cons (ps_set (i := 2) sc_simplest_between.nd rfl (.inl rfl) (C8.pe_mk (mk_Dyadic1 T) hr (by decide) (by rfl) (pa_cons pe_int pa_nil)))
      (pss_cons (ps_if (PW.pt (pw_and (PW.pt (pw_or (pt_cmpR op_isN (pv 0) pe_non (nomark _)) (pw_or1 (pt_val (C8.pe_mt (m_less T) hr (by decide) (pv 0) (pa_cons (pv 2) pa_nil))))))
          (pw_and1 (PW.pt (pw_or (pt_cmpR op_isN (pv 1) pe_non (nomark _)) (pw_or1 (pt_val (C8.pe_mt (m_less T) hr (by decide) (pv 2) (pa_cons (pv 1) pa_nil))))))))) (pss_one (ps_ret (pv 2))) pss_nil)
      (pss_cons (ps_if (PW.pt (pw_or (pt_cmpR op_isN (pv 0) pe_non (nomark _)) (pw_or1 (pt_val (C8.pe_mt (m_less T) hr (by decide) (pv 0) (pa_cons (pv 2) pa_nil))))))
        (pss_one (ps_ret (pe_un (un_own (m_neg T) hr (by decide)) (C8.pe_c (k_above T) hr (by decide) (by rfl) (pa_cons (pe_un (un_own (m_neg T) hr (by decide)) (pv 1)) (pa_cons (C8.pe_c (k_negated T) hr (by decide) (by rfl) (pa_cons (pv 0) pa_nil)) pa_nil)))))) pss_nil)
      (pss_one (ps_ret (C8.pe_c (k_above T) hr (by decide) (by rfl) (pa_cons (pv 0) (pa_cons (pv 1) pa_nil)))))))), ?_⟩
    -- zero
    have zr : ∀ R : L2.St → Hp → Prop, (∀ z H1, DyAt K H1 z ⟨0, 0⟩ → Same H H1 → R [some x, some y, some (.ref z)] H1) → ∀ z zz, H z = none → H zz = none → zz ≠ z → spDyInit K [.ref z, .int 0, .int 0] (upd (upd H zz (.own z)) z (.ins (cD K) zz [])) (fun v H2 => v = .non ∧ R [some x, some y, some (.ref z)] H2) C8.E0 := fun R hR z zz nz nzz nez =>
      ⟨z, zz, 0, 0, rfl, upd_same, by decide, by decide, by decide, fun H1 hz kz => ⟨rfl, hR z H1 hz fun b o hb => by
        have nb : b ≠ z := ne_of_none hb nz
        exact kz b o (by rw [upd_ne nb, upd_ne (ne_of_none hb nzz)]; exact hb) nb⟩⟩
    have z0 : sc ⟨0, 0⟩ = 0 := rfl
    rcases hlo with ⟨rfl, rfl⟩ | ⟨d, l, rfl, rfl, hl⟩
    · refine ⟨_, rfl, rfl, _, rfl, iteF (iteF (zr _ fun z H1 hz s1 => ?_))⟩
      refine ⟨_, rfl, rfl, _, rfl, iteT (iteT ⟨_, rfl, rfl, _, rfl, ?_⟩)⟩
      rcases hhi with ⟨rfl, rfl⟩ | ⟨e, h, rfl, rfl, hh⟩
      · exact iteT (iteT ⟨_, rfl, k H1 z _ hz (Sb.zero (fun a q => nomatch q) fun a q => nomatch q) s1⟩)
      · have hh' : DyAt K H1 e h := hh.mono fun o q => s1 _ _ q
        obtain ⟨zx, ez, _⟩ := id hz
        refine iteF ⟨_, rfl, z, zx, _, rfl, ez, rfl, _, rfl, z, e, _, h, rfl, hz, hh', _, rfl, ?_⟩
        rw [z0]
        by_cases c : 0 < sc h
        · rw [decide_eq_true c]
          exact iteT ⟨_, rfl, k H1 z _ hz (Sb.zero (fun a q => nomatch q) fun a q => by rw [← Option.some.inj q]; exact c) s1⟩
        · rw [decide_eq_false c]
          refine iteF ⟨_, rfl, rfl, _, rfl, iteT (iteT ?_)⟩
          obtain ⟨hx, eh, _⟩ := id hh'
          refine ⟨_, rfl, e, hx, _, rfl, eh, e, h, rfl, hh', fun H2 e2 he2 s2 => ?_⟩
          refine ⟨_, rfl, .non, none, rfl, .inl ⟨rfl, rfl⟩, fun H3 y3 hy3 s3 => ?_⟩
          refine ⟨e2, negD h, y3, none, rfl, he2.mono fun o q => s3 _ _ q, hy3, (sh h rfl).neg, by rw [negD_sc]; omega, fun u q => (nomatch q), fun H4 e4 z4 h4 sb s4 => ?_⟩
          obtain ⟨zz, ezz, _⟩ := id h4
          refine ⟨e4, zz, _, rfl, ezz, e4, z4, rfl, h4, fun H5 e5 h5 s5 => ?_⟩
          refine k H5 e5 _ h5 ?_ (((s1.trans s2).trans s3).trans (s4.trans s5))
          rw [negD_sc] at sb ⊢
          exact SG.Sb.neg (lo := none) (hi := some (sc h)) sb
    · rcases hhi with ⟨rfl, rfl⟩ | ⟨e, h, rfl, rfl, hh⟩
      · refine ⟨_, rfl, rfl, _, rfl, iteT ⟨_, rfl, rfl, _, rfl, iteF (iteF (zr _ fun z H1 hz s1 => ?_))⟩⟩
        have hl' : DyAt K H1 d l := hl.mono fun o q => s1 _ _ q
        obtain ⟨lx, el, _⟩ := id hl'
        refine ⟨_, rfl, rfl, _, rfl, iteF ⟨_, rfl, d, lx, _, rfl, el, rfl, _, rfl, d, z, l, _, rfl, hl', hz, _, rfl, ?_⟩⟩
        rw [z0]
        by_cases c : sc l < 0
        · rw [decide_eq_true c]
          exact iteT ⟨_, rfl, rfl, _, rfl, iteT (iteT ⟨_, rfl, k H1 z _ hz (Sb.zero (fun a q => by rw [← Option.some.inj q]; exact c) fun a q => nomatch q) s1⟩)⟩
        · rw [decide_eq_false c]
          refine iteF ⟨_, rfl, rfl, _, rfl, iteF ⟨_, rfl, d, lx, _, rfl, el, rfl, _, rfl, d, z, l, _, rfl, hl', hz, _, rfl, ?_⟩⟩
          rw [z0, decide_eq_false c]
          refine iteF ⟨_, rfl, _, rfl, d, l, .non, none, rfl, hl', .inl ⟨rfl, rfl⟩, sl l rfl, by omega, fun u q => (nomatch q), fun H2 e2 z2 h2 sb s2 => ?_⟩
          exact k H2 e2 z2 h2 sb (s1.trans s2)
      · obtain ⟨lx0, el0, _⟩ := id hl
        have lh := lt l h rfl rfl
        refine ⟨_, rfl, rfl, _, rfl, iteT ⟨_, rfl, rfl, _, rfl, iteT ⟨_, rfl, d, lx0, _, rfl, el0, rfl, _, rfl, d, e, l, h, rfl, hl, hh, _, rfl, ?_⟩⟩⟩
        rw [decide_eq_true lh]
        refine iteF (zr _ fun z H1 hz s1 => ?_)
        have hl' : DyAt K H1 d l := hl.mono fun o q => s1 _ _ q
        have hh' : DyAt K H1 e h := hh.mono fun o q => s1 _ _ q
        obtain ⟨lx, el, _⟩ := id hl'
        obtain ⟨hx, eh, _⟩ := id hh'
        obtain ⟨zx, ez, _⟩ := id hz
        refine ⟨_, rfl, rfl, _, rfl, iteF ⟨_, rfl, d, lx, _, rfl, el, rfl, _, rfl, d, z, l, _, rfl, hl', hz, _, rfl, ?_⟩⟩
        rw [z0]
        by_cases c : sc l < 0
        · rw [decide_eq_true c]
          refine iteT ⟨_, rfl, rfl, _, rfl, iteF ⟨_, rfl, z, zx, _, rfl, ez, rfl, _, rfl, z, e, _, h, rfl, hz, hh', _, rfl, ?_⟩⟩
          rw [z0]
          by_cases c2 : 0 < sc h
          · rw [decide_eq_true c2]
            exact iteT ⟨_, rfl, k H1 z _ hz (Sb.zero (fun a q => by rw [← Option.some.inj q]; exact c) fun a q => by rw [← Option.some.inj q]; exact c2) s1⟩
          · rw [decide_eq_false c2]
            refine iteF ⟨_, rfl, rfl, _, rfl, iteF ⟨_, rfl, d, lx, _, rfl, el, rfl, _, rfl, d, z, l, _, rfl, hl', hz, _, rfl, ?_⟩⟩
            rw [z0, decide_eq_true c]
            refine iteT ⟨_, rfl, e, hx, _, rfl, eh, e, h, rfl, hh', fun H2 e2 he2 s2 => ?_⟩
            refine ⟨_, rfl, .ref d, some l, rfl, .inr ⟨d, l, rfl, rfl, hl'.mono fun o q => s2 _ _ q⟩, fun H3 y3 hy3 s3 => ?_⟩
            refine ⟨e2, negD h, y3, some (negD l), rfl, he2.mono fun o q => s3 _ _ q, hy3, (sh h rfl).neg, by rw [negD_sc]; omega, fun u q => ?_, fun H4 e4 z4 h4 sb s4 => ?_⟩
            · rw [← Option.some.inj q]
              exact ⟨(sl l rfl).neg, by rw [negD_sc, negD_sc]; omega⟩
            obtain ⟨zz, ezz, _⟩ := id h4
            refine ⟨e4, zz, _, rfl, ezz, e4, z4, rfl, h4, fun H5 e5 h5 s5 => ?_⟩
            refine k H5 e5 _ h5 ?_ (((s1.trans s2).trans s3).trans (s4.trans s5))
            have e9 : (some (negD l)).map sc = (some (sc l)).map (- ·) := congrArg some (negD_sc l)
            rw [e9] at sb
            rw [negD_sc] at sb ⊢
            exact SG.Sb.neg (lo := some (sc l)) (hi := some (sc h)) sb
        · rw [decide_eq_false c]
          refine iteF ⟨_, rfl, rfl, _, rfl, iteF ⟨_, rfl, d, lx, _, rfl, el, rfl, _, rfl, d, z, l, _, rfl, hl', hz, _, rfl, ?_⟩⟩
          rw [z0, decide_eq_false c]
          refine iteF ⟨_, rfl, _, rfl, d, l, .ref e, some h, rfl, hl', .inr ⟨e, h, rfl, rfl, hh'⟩, sl l rfl, by omega, fun u q => ?_, fun H2 e2 z2 h2 sb s2 => ?_⟩
          · rw [← Option.some.inj q]
            exact ⟨sh h rfl, lh⟩
          exact k H2 e2 z2 h2 sb (s1.trans s2)
end
end K45
end
section
set_option Elab.async false
set_option linter.all false
set_option maxRecDepth 100000
set_option maxHeartbeats 4000000
namespace K45
open PySem PySem.Spec PyProof.Rows L2
open SG (Dy redu Plain sc)
/-! ### greatest, least -/
abbrev refsD (ps : List (Addr × Dy)) : List V := ps.map fun p => V.ref p.1
def spGreatest (K : PySem.W.Frag) : Sp := fun vs H Q _ => ∃ (a : Addr) (ps : List (Addr × Dy)), vs = [.ref a] ∧ SqL K H a (refsD ps) ∧ ps ≠ [] ∧ (∀ p ∈ ps, DyAt K H p.1 p.2) ∧ ∀ p ∈ ps, (∀ q ∈ ps, sc q.2 ≤ sc p.2) → Q (.ref p.1) H
def spLeast (K : PySem.W.Frag) : Sp := fun vs H Q _ => ∃ (a : Addr) (ps : List (Addr × Dy)), vs = [.ref a] ∧ SqL K H a (refsD ps) ∧ ps ≠ [] ∧ (∀ p ∈ ps, DyAt K H p.1 p.2) ∧ ∀ p ∈ ps, (∀ q ∈ ps, sc p.2 ≤ sc q.2) → Q (.ref p.1) H
theorem refs_get {ps : List (Addr × Dy)} {i : Nat} {x : V} (h : (refsD ps)[i]? = some x) : ∃ p, ps[i]? = some p ∧ x = .ref p.1 := by
  rw [List.getElem?_map] at h
  cases e : ps[i]? with
  | none => rw [e] at h; cases h
  | some p => rw [e] at h; exact ⟨p, rfl, (Option.some.inj h).symm⟩
section
variable {P : Program} {w : World} {K : PySem.W.Frag} {mg : Str → Option Value} {base : Heap} (T : Tx K mg)
include T
theorem k_greatest : C8.Cal P w K mg base 4 "greatest" (spGreatest K) [] := by
  refine cal_by (t_glo_greatest T) (t_fn_greatest T) sc_greatest (fun vs H Q E h => ?_) (fun _ _ _ _ _ _ us hl => match us, hl with | [_], _ => rfl) (fun cdv A outer s H vs Q E hr h => ?_)
  · obtain ⟨a, ps, rfl, _⟩ := h
    rfl
  · obtain ⟨a, ps, rfl, hq, hne, hd, k⟩ := h
    refine ⟨_, pss_cons (ps_set (i := 1) sc_greatest.nd rfl (.inl rfl) (pe_ix ix_list (pv 0) pe_int (fun _ _ => rfl)))
      (pss_cons (ps_for PassesOwn.never rfl (pi_list (pv 0)) (pg_name (i := 2) sc_greatest.nd rfl (.inl rfl))
        (pss_one (ps_if (pt_val (C8.pe_mt (m_less T) hr (by decide) (pv 1) (pa_cons (pv 2) pa_nil))) (pss_one (ps_set (i := 1) sc_greatest.nd rfl (.inl rfl) (pv 2))) pss_nil)))
      (pss_one (ps_ret (pv 1)))), ?_⟩
    obtain ⟨p0, r, rfl⟩ : ∃ p0 r, ps = p0 :: r := by
      cases ps with
      | nil => exact absurd rfl hne
      | cons p r => exact ⟨p, r, rfl⟩
    refine ⟨_, rfl, a, _, 0, .ref p0.1, rfl, rfl, hq, atI_nat (j := 0) rfl, ?_⟩
    refine ⟨_, rfl, a, rfl, ⟨_, hq⟩, for_list (K := K) (a := a) (xs := refsD (p0 :: r)) (fun i σ H2 => ∃ p ∈ p0 :: r, ∃ y, σ = [some (.ref a), some (.ref p.1), y] ∧ H2 = H ∧ ∀ j q, j < i → (p0 :: r)[j]? = some q → sc q.2 ≤ sc p.2)
      ⟨p0, List.mem_cons_self .., none, rfl, rfl, fun j q hj => by omega⟩ (fun i σ H2 _ ⟨_, _, _, _, e, _⟩ => by rw [e]; exact hq) ?_ ?_⟩
    · rintro i x σ H2 hi ⟨p, hp, y, rfl, rfl, best⟩
      obtain ⟨q, hq2, rfl⟩ := refs_get hi
      have mq := List.mem_of_getElem? hq2
      obtain ⟨px, ep, _⟩ := id (hd p hp)
      refine ⟨_, rfl, p.1, px, _, rfl, ep, rfl, _, rfl, p.1, q.1, p.2, q.2, rfl, hd p hp, hd q mq, _, rfl, ?_⟩
      by_cases c : sc p.2 < sc q.2
      · rw [decide_eq_true c]
        refine iteT ⟨_, rfl, q, mq, _, rfl, rfl, fun j z hj hz => ?_⟩
        by_cases e : j = i
        · rw [e, hq2] at hz
          rw [Option.some.inj hz]
          exact Int.le_refl _
        · have := best j z (by omega) hz
          omega
      · rw [decide_eq_false c]
        refine iteF ⟨p, hp, _, rfl, rfl, fun j z hj hz => ?_⟩
        by_cases e : j = i
        · rw [e, hq2] at hz
          rw [← Option.some.inj hz]
          omega
        · exact best j z (by omega) hz
    · rintro σ H2 ⟨p, hp, y, rfl, rfl, best⟩
      refine ⟨_, rfl, k p hp fun q hq2 => ?_⟩
      obtain ⟨j, hj, e⟩ := List.mem_iff_getElem.mp hq2
      exact best j q (by rw [List.length_map]; exact hj) (by rw [List.getElem?_eq_getElem hj, e])
theorem k_least : C8.Cal P w K mg base 4 "least" (spLeast K) [] := by
  refine cal_by (t_glo_least T) (t_fn_least T) sc_least (fun vs H Q E h => ?_) (fun _ _ _ _ _ _ us hl => match us, hl with | [_], _ => rfl) (fun cdv A outer s H vs Q E hr h => ?_)
  · obtain ⟨a, ps, rfl, _⟩ := h
    rfl
  · obtain ⟨a, ps, rfl, hq, hne, hd, k⟩ := h
    refine ⟨_, pss_cons (ps_set (i := 1) sc_least.nd rfl (.inl rfl) (pe_ix ix_list (pv 0) pe_int (fun _ _ => rfl)))
      (pss_cons (ps_for PassesOwn.never rfl (pi_list (pv 0)) (pg_name (i := 2) sc_least.nd rfl (.inl rfl))
        (pss_one (ps_if (pt_val (C8.pe_mt (m_less T) hr (by decide) (pv 2) (pa_cons (pv 1) pa_nil))) (pss_one (ps_set (i := 1) sc_least.nd rfl (.inl rfl) (pv 2))) pss_nil)))
      (pss_one (ps_ret (pv 1)))), ?_⟩
    obtain ⟨p0, r, rfl⟩ : ∃ p0 r, ps = p0 :: r := by
      cases ps with
      | nil => exact absurd rfl hne
      | cons p r => exact ⟨p, r, rfl⟩
    refine ⟨_, rfl, a, _, 0, .ref p0.1, rfl, rfl, hq, atI_nat (j := 0) rfl, ?_⟩
    refine ⟨_, rfl, a, rfl, ⟨_, hq⟩, for_list (K := K) (a := a) (xs := refsD (p0 :: r)) (fun i σ H2 => ∃ p ∈ p0 :: r, ∃ y, σ = [some (.ref a), some (.ref p.1), y] ∧ H2 = H ∧ ∀ j q, j < i → (p0 :: r)[j]? = some q → sc p.2 ≤ sc q.2)
      ⟨p0, List.mem_cons_self .., none, rfl, rfl, fun j q hj => by omega⟩ (fun i σ H2 _ ⟨_, _, _, _, e, _⟩ => by rw [e]; exact hq) ?_ ?_⟩
    · rintro i x σ H2 hi ⟨p, hp, y, rfl, rfl, best⟩
      obtain ⟨q, hq2, rfl⟩ := refs_get hi
      have mq := List.mem_of_getElem? hq2
      obtain ⟨px, ep, _⟩ := id (hd q mq)
      refine ⟨_, rfl, q.1, px, _, rfl, ep, rfl, _, rfl, q.1, p.1, q.2, p.2, rfl, hd q mq, hd p hp, _, rfl, ?_⟩
      by_cases c : sc q.2 < sc p.2
      · rw [decide_eq_true c]
        refine iteT ⟨_, rfl, q, mq, _, rfl, rfl, fun j z hj hz => ?_⟩
        by_cases e : j = i
        · rw [e, hq2] at hz
          rw [Option.some.inj hz]
          exact Int.le_refl _
        · have := best j z (by omega) hz
          omega
      · rw [decide_eq_false c]
        refine iteF ⟨p, hp, _, rfl, rfl, fun j z hj hz => ?_⟩
        by_cases e : j = i
        · rw [e, hq2] at hz
          rw [← Option.some.inj hz]
          omega
        · exact best j z (by omega) hz
    · rintro σ H2 ⟨p, hp, y, rfl, rfl, best⟩
      refine ⟨_, rfl, k p hp fun q hq2 => ?_⟩
      obtain ⟨j, hj, e⟩ := List.mem_iff_getElem.mp hq2
      exact best j q (by rw [List.length_map]; exact hj) (by rw [List.getElem?_eq_getElem hj, e])
end
end K45
end
section
set_option Elab.async false
set_option linter.all false
set_option maxRecDepth 100000
set_option maxHeartbeats 4000000
namespace K45
open PySem PySem.Spec PyProof.Rows L2
open SG (Dy redu Plain sc Gs Un Wf Ext gv lf rt optI Nd)
/-! ### where the books stand -/
abbrev nV (i : Nat) : V := .int (i : Int)
abbrev kN (i : Nat) : Key := Sum.inl (i : Int)
def sdS (s : Bool) : Str := if s then "left" else "right"
theorem sdS_inj {s t : Bool} (h : sdS s = sdS t) : s = t := by
  cases s <;> cases t <;> first | rfl | (exact absurd h (by decide))
structure Ad where
  (yd yx L R HH NM TN od ox AL CW fm fx SI sm sx PL vl vx NU MD ST : Addr)
def Ad.mut (A : Ad) : List Addr := [A.L, A.R, A.HH, A.NM, A.AL, A.SI, A.PL, A.NU, A.MD, A.ST]
def nuV : Option (Nat × Dy) → V
  | none => .non
  | some z => .ref z.1
def alE (e : (Nat × Nat) × Bool) : List Key × V := ([kN e.1.1, kN e.1.2], .bl e.2)
def siE (e : Nat × Nat) : Key × V := (kN e.1, nV e.2)
def plE (e : (Nat × Nat) × Nat) : List Key × V := ([kN e.1.1, kN e.1.2], nV e.2)
def nuE (e : Nat × Option (Nat × Dy)) : Key × V := (kN e.1, nuV e.2)
def mdE (e : Dy × Nat) : List Key × V := ([Sum.inl e.1.t, kN e.1.p], nV e.2)
def stE (e : (Nat × Bool) × (Nat × Dy)) : List Key × V := ([kN e.1.1, Sum.inr (sdS e.1.2)], .ref e.2.1)
theorem kN_inj {i j : Nat} (h : kN i = kN j) : i = j := by
  injection h with h
  omega
section
variable {α β κ : Type} [DecidableEq κ] {f : α × β → κ × V} {kf : α → κ} {vf : β → V}
theorem val_some (hf : ∀ e, f e = (kf e.1, vf e.2)) (inj : ∀ a b, kf a = kf b → a = b) {a : α} {v : V} : ∀ {l : List (α × β)}, valV (l.map f) (kf a) = some v → ∃ b, (a, b) ∈ l ∧ v = vf b
  | [], h => by cases h
  | e :: l, h => by
    by_cases q : (f e).1 = kf a
    · rw [List.map_cons, valV_pos q] at h
      rw [hf] at q h
      refine ⟨e.2, ?_, (Option.some.inj h).symm⟩
      rw [← inj e.1 a q]
      exact List.mem_cons_self ..
    · rw [List.map_cons, valV_neg q] at h
      obtain ⟨b, hb, e⟩ := val_some hf inj h
      exact ⟨b, List.mem_cons_of_mem _ hb, e⟩
theorem val_none (hf : ∀ e, f e = (kf e.1, vf e.2)) {a : α} : ∀ {l : List (α × β)}, valV (l.map f) (kf a) = none → a ∉ l.map (·.1)
  | [], _ => by simp
  | e :: l, h => by
    by_cases q : (f e).1 = kf a
    · rw [List.map_cons, valV_pos q] at h
      cases h
    · rw [List.map_cons, valV_neg q] at h
      rw [hf] at q
      intro m
      rcases List.mem_cons.mp m with m | m
      · exact q (by rw [m])
      · exact val_none hf h m
end
theorem alK_inj : ∀ a b : Nat × Nat, ([kN a.1, kN a.2] : List Key) = [kN b.1, kN b.2] → a = b := fun a b h => by
  injection h with h1 h2
  injection h2 with h2 _
  obtain ⟨a1, a2⟩ := a
  obtain ⟨b1, b2⟩ := b
  rw [show a1 = b1 from kN_inj h1, show a2 = b2 from kN_inj h2]
theorem mdK_inj : ∀ a b : Dy, ([Sum.inl a.t, kN a.p] : List Key) = [Sum.inl b.t, kN b.p] → a = b := fun a b h => by
  injection h with h1 h2
  injection h2 with h2 _
  injection h1 with h1
  obtain ⟨a1, a2⟩ := a
  obtain ⟨b1, b2⟩ := b
  rw [show a1 = b1 from h1, show a2 = b2 from kN_inj h2]
theorem stK_inj : ∀ a b : Nat × Bool, ([kN a.1, Sum.inr (sdS a.2)] : List Key) = [kN b.1, Sum.inr (sdS b.2)] → a = b := fun a b h => by
  injection h with h1 h2
  injection h2 with h2 _
  injection h2 with h2
  obtain ⟨a1, a2⟩ := a
  obtain ⟨b1, b2⟩ := b
  rw [show a1 = b1 from kN_inj h1, show a2 = b2 from sdS_inj h2]
/-- the instances -/
structure Lay (K : PySem.W.Frag) (A : Ad) (H : Hp) : Prop where
  yd : H A.yd = some (.ins (He.ga K "Yard") A.yx [("_lefts", .ref A.L), ("_rights", .ref A.R), ("_heights", .ref A.HH), ("_numbers", .ref A.NM), ("_turned", .ref A.TN)])
  od : H A.od = some (.ins (He.ga K "Order") A.ox [("_yard", .ref A.yd), ("_at_least", .ref A.AL), ("_can_win", .ref A.CW)])
  fm : H A.fm = some (.ins (He.ga K "Forms") A.fx [("order", .ref A.od), ("_simplest", .ref A.SI)])
  sm : H A.sm = some (.ins (He.ga K "Sums") A.sx [("_forms", .ref A.fm), ("_plus", .ref A.PL)])
  vl : H A.vl = some (.ins (He.ga K "Values") A.vx [("sums", .ref A.sm), ("_numbers", .ref A.NU), ("_made", .ref A.MD), ("_stops", .ref A.ST)])
theorem Lay.of {K : PySem.W.Frag} {A : Ad} {H H' : Hp} (h : Lay K A H) (k : ∀ a C dx fs, H a = some (.ins C dx fs) → H' a = some (.ins C dx fs)) : Lay K A H' :=
  ⟨k _ _ _ _ h.yd, k _ _ _ _ h.od, k _ _ _ _ h.fm, k _ _ _ _ h.sm, k _ _ _ _ h.vl⟩
/-- a list of tuples: the options of a side, game by game -/
def Rows (H : Hp) (a : Addr) (ns : List Nd) (s : Bool) : Prop := ∃ ts : List Addr, H a = some (.lst (ts.map V.ref)) ∧ ts.length = ns.length ∧ ∀ (i : Nat) (t : Addr), ts[i]? = some t → H t = some (.tup ((optI s ns i).map nV))
theorem Rows.of {H H' : Hp} {a : Addr} {ns : List Nd} {s : Bool} (h : Rows H a ns s) (ha : ∀ o, H a = some o → H' a = some o) (kt : ∀ c xs, H c = some (.tup xs) → H' c = some (.tup xs)) : Rows H' a ns s :=
  let ⟨ts, e, l, r⟩ := h
  ⟨ts, ha _ e, l, fun i t q => kt _ _ (r i t q)⟩
def keyI (ns : List Nd) (i : Nat) : FKey := ((lf ns i).map fun o : Nat => (o : Int), (rt ns i).map fun o : Nat => (o : Int))
def nmK (ns : List Nd) : List (FKey × V) := (List.range ns.length).map fun i => (keyI ns i, nV i)
def hhL (ns : List Nd) : List V := (List.range ns.length).map fun i => nV (SG.ht (gv ns i))
structure Dist (A : Ad) : Prop where
  lr : A.L ≠ A.R
  lh : A.L ≠ A.HH
  rh : A.R ≠ A.HH
  ap : A.AL ≠ A.PL
  am : A.AL ≠ A.MD
  as : A.AL ≠ A.ST
  pm : A.PL ≠ A.MD
  ps : A.PL ≠ A.ST
  ms : A.MD ≠ A.ST
  sn : A.SI ≠ A.NU
/-- the yard's four books -/
structure Yb (P : Program) (w : World) (A : Ad) (ns : List Nd) (H : Hp) : Prop where
  L : Rows H A.L ns true
  R : Rows H A.R ns false
  HH : H A.HH = some (.lst (hhL ns))
  NM : NDict P w H A.NM (nmK ns)
structure Bk (K : PySem.W.Frag) (A : Ad) (S : Gs) (H : Hp) : Prop where
  al : H A.AL = some (.dT (S.al.map alE))
  si : H A.SI = some (.dK (S.si.map siE))
  pl : H A.PL = some (.dT (S.pl.map plE))
  nu : H A.NU = some (.dK (S.nu.map nuE))
  md : H A.MD = some (.dT (S.md.map mdE))
  st : H A.ST = some (.dT (S.st.map stE))
  dn : ∀ f z, (f, some z) ∈ S.nu → DyAt K H z.1 z.2
  ds : ∀ k z, (k, z) ∈ S.st → DyAt K H z.1 z.2
structure At (P : Program) (w : World) (K : PySem.W.Frag) (A : Ad) (U : Un) (S : Gs) (H : Hp) : Prop where
  lay : Lay K A H
  yb : Yb P w A S.ns H
  bk : Bk K A S H
  di : Dist A
  wf : Wf U S
/-- all but the books stay -/
def Keep (A : Ad) (H H' : Hp) : Prop := ∀ b o, H b = some o → b ∉ A.mut → H' b = some o
theorem Keep.refl (A : Ad) (H : Hp) : Keep A H H := fun _ _ h _ => h
theorem Keep.trans {A : Ad} {H H' H'' : Hp} (a : Keep A H H') (b : Keep A H' H'') : Keep A H H'' := fun c o h n => b c o (a c o h n) n
theorem Keep.same {A : Ad} {H H' : Hp} (h : Same H H') : Keep A H H' := fun b o e _ => h b o e
theorem Keep.of_ne {A : Ad} {H H' : Hp} {x : Addr} (hx : x ∈ A.mut) (h : ∀ b o, b ≠ x → H b = some o → H' b = some o) : Keep A H H' := fun b o e n => h b o (fun q => n (q ▸ hx)) e
theorem same_upd {H : Hp} {p : Addr} {o : HO} (h : H p = none) : Same H (upd H p o) := fun b q e => by
  rw [upd_ne (ne_of_none e h)]
  exact e
section
variable {P : Program} {w : World} {K : PySem.W.Frag} {A : Ad} {U : Un} {S S' : Gs} {H H' : Hp}
theorem Yb.of {ns : List Nd} (h : Yb P w A ns H) (kl : ∀ xs, H A.L = some (.lst xs) → H' A.L = some (.lst xs)) (kr : ∀ xs, H A.R = some (.lst xs) → H' A.R = some (.lst xs)) (kh : ∀ xs, H A.HH = some (.lst xs) → H' A.HH = some (.lst xs))
    (kn : ∀ o, H A.NM = some o → H' A.NM = some o) (kt : ∀ c xs, H c = some (.tup xs) → H' c = some (.tup xs)) : Yb P w A ns H' := by
  obtain ⟨⟨ts, e1, l1, r1⟩, ⟨us, e2, l2, r2⟩, e3, e4⟩ := h
  exact ⟨⟨ts, kl _ e1, l1, fun i t q => kt _ _ (r1 i t q)⟩, ⟨us, kr _ e2, l2, fun i t q => kt _ _ (r2 i t q)⟩, kh _ e3, e4.mono kn kt⟩
/-- the yard's books stand at places of other kinds than the other ones -/
theorem Yb.dict {ns : List Nd} (h : Yb P w A ns H) {x : Addr} (hx : (∃ kvs, H x = some (.dT kvs)) ∨ ∃ kvs, H x = some (.dK kvs)) (k : ∀ b o, b ≠ x → H b = some o → H' b = some o) : Yb P w A ns H' := by
  have ne : ∀ {b o}, H b = some o → (∀ kvs, o ≠ .dT kvs) → (∀ kvs, o ≠ .dK kvs) → H' b = some o := fun {b o} e n1 n2 => k b o (fun q => by
    subst q
    rcases hx with ⟨kvs, f⟩ | ⟨kvs, f⟩
    · rw [e] at f; exact n1 kvs (Option.some.inj f)
    · rw [e] at f; exact n2 kvs (Option.some.inj f)) e
  obtain ⟨xs, ex, _⟩ := id h.NM
  refine h.of (fun xs e => ne e (fun _ z => by cases z) fun _ z => by cases z) (fun xs e => ne e (fun _ z => by cases z) fun _ z => by cases z) (fun xs e => ne e (fun _ z => by cases z) fun _ z => by cases z) (fun o e => ?_) (fun c xs e => ne e (fun _ z => by cases z) fun _ z => by cases z)
  have q := ne ex (fun _ z => by cases z) fun _ z => by cases z
  rw [ex] at e
  rw [← e]
  exact q
theorem Lay.dict (h : Lay K A H) {x : Addr} (hx : ∀ C dx fs, H x ≠ some (.ins C dx fs)) (k : ∀ b o, b ≠ x → H b = some o → H' b = some o) : Lay K A H' :=
  h.of fun a C dx fs e => k a _ (fun q => hx C dx fs (q ▸ e)) e
theorem At.same (h : At P w K A U S H) (k : Same H H') : At P w K A U S H' :=
  ⟨h.lay.of fun a C dx fs e => k _ _ e, h.yb.of (fun _ e => k _ _ e) (fun _ e => k _ _ e) (fun _ e => k _ _ e) (fun _ e => k _ _ e) fun _ _ e => k _ _ e,
    ⟨k _ _ h.bk.al, k _ _ h.bk.si, k _ _ h.bk.pl, k _ _ h.bk.nu, k _ _ h.bk.md, k _ _ h.bk.st, fun f z m => (h.bk.dn f z m).mono fun _ e => k _ _ e, fun f z m => (h.bk.ds f z m).mono fun _ e => k _ _ e⟩, h.di, h.wf⟩
/-- the books alone tell the state: slack and credits don't stand in memory -/
theorem At.ghost (h : At P w K A U S H) (hw : Wf U S') (e1 : S'.ns = S.ns) (e2 : S'.al = S.al) (e3 : S'.si = S.si) (e4 : S'.pl = S.pl) (e5 : S'.nu = S.nu) (e6 : S'.md = S.md) (e7 : S'.st = S.st) : At P w K A U S' H :=
  ⟨h.lay, by rw [e1]; exact h.yb, ⟨by rw [e2]; exact h.bk.al, by rw [e3]; exact h.bk.si, by rw [e4]; exact h.bk.pl, by rw [e5]; exact h.bk.nu, by rw [e6]; exact h.bk.md, by rw [e7]; exact h.bk.st, by rw [e5]; exact h.bk.dn, by rw [e7]; exact h.bk.ds⟩, h.di, hw⟩
theorem dy_at {x : Addr} {d : Addr} {v : Dy} (h : DyAt K H d v) (hx : ∀ C dx fs, H x ≠ some (.ins C dx fs)) (k : ∀ b o, b ≠ x → H b = some o → H' b = some o) : DyAt K H' d v := by
  obtain ⟨dx, e, r⟩ := h
  exact ⟨dx, k _ _ (fun q => hx _ _ _ (q ▸ e)) e, r⟩
theorem At.al' (h : At P w K A U S H) {i j : Nat} {b : Bool} (hw : Wf U (S.putAl i j b)) (e : H' A.AL = some (.dT ((S.putAl i j b).al.map alE))) (k : ∀ c o, c ≠ A.AL → H c = some o → H' c = some o) : At P w K A U (S.putAl i j b) H' := by
  have n : ∀ C dx fs, H A.AL ≠ some (.ins C dx fs) := fun C dx fs z => by rw [h.bk.al] at z; cases z
  exact ⟨h.lay.dict n k, h.yb.dict (.inl ⟨_, h.bk.al⟩) k,
    ⟨e, k _ _ (ne_of h.bk.si h.bk.al (by intro z; cases z)) h.bk.si, k _ _ h.di.ap.symm h.bk.pl, k _ _ (ne_of h.bk.nu h.bk.al (by intro z; cases z)) h.bk.nu, k _ _ h.di.am.symm h.bk.md, k _ _ h.di.as.symm h.bk.st,
      fun f z m => dy_at (h.bk.dn f z m) n k, fun f z m => dy_at (h.bk.ds f z m) n k⟩, h.di, hw⟩
theorem At.si' (h : At P w K A U S H) {i f : Nat} (hw : Wf U (S.putSi i f)) (e : H' A.SI = some (.dK ((S.putSi i f).si.map siE))) (k : ∀ c o, c ≠ A.SI → H c = some o → H' c = some o) : At P w K A U (S.putSi i f) H' := by
  have n : ∀ C dx fs, H A.SI ≠ some (.ins C dx fs) := fun C dx fs z => by rw [h.bk.si] at z; cases z
  exact ⟨h.lay.dict n k, h.yb.dict (.inr ⟨_, h.bk.si⟩) k,
    ⟨k _ _ (ne_of h.bk.al h.bk.si (by intro z; cases z)) h.bk.al, e, k _ _ (ne_of h.bk.pl h.bk.si (by intro z; cases z)) h.bk.pl, k _ _ h.di.sn.symm h.bk.nu, k _ _ (ne_of h.bk.md h.bk.si (by intro z; cases z)) h.bk.md, k _ _ (ne_of h.bk.st h.bk.si (by intro z; cases z)) h.bk.st,
      fun f z m => dy_at (h.bk.dn f z m) n k, fun f z m => dy_at (h.bk.ds f z m) n k⟩, h.di, hw⟩
theorem At.pl' (h : At P w K A U S H) {i j s : Nat} (hw : Wf U (S.putPl i j s)) (e : H' A.PL = some (.dT ((S.putPl i j s).pl.map plE))) (k : ∀ c o, c ≠ A.PL → H c = some o → H' c = some o) : At P w K A U (S.putPl i j s) H' := by
  have n : ∀ C dx fs, H A.PL ≠ some (.ins C dx fs) := fun C dx fs z => by rw [h.bk.pl] at z; cases z
  exact ⟨h.lay.dict n k, h.yb.dict (.inl ⟨_, h.bk.pl⟩) k,
    ⟨k _ _ h.di.ap h.bk.al, k _ _ (ne_of h.bk.si h.bk.pl (by intro z; cases z)) h.bk.si, e, k _ _ (ne_of h.bk.nu h.bk.pl (by intro z; cases z)) h.bk.nu, k _ _ h.di.pm.symm h.bk.md, k _ _ h.di.ps.symm h.bk.st,
      fun f z m => dy_at (h.bk.dn f z m) n k, fun f z m => dy_at (h.bk.ds f z m) n k⟩, h.di, hw⟩
theorem At.nu' (h : At P w K A U S H) {f : Nat} {o : Option (Nat × Dy)} (hw : Wf U (S.putNu f o)) (ho : ∀ z, o = some z → DyAt K H z.1 z.2) (e : H' A.NU = some (.dK ((S.putNu f o).nu.map nuE))) (k : ∀ c o, c ≠ A.NU → H c = some o → H' c = some o) : At P w K A U (S.putNu f o) H' := by
  have n : ∀ C dx fs, H A.NU ≠ some (.ins C dx fs) := fun C dx fs z => by rw [h.bk.nu] at z; cases z
  exact ⟨h.lay.dict n k, h.yb.dict (.inr ⟨_, h.bk.nu⟩) k,
    ⟨k _ _ (ne_of h.bk.al h.bk.nu (by intro z; cases z)) h.bk.al, k _ _ h.di.sn h.bk.si, k _ _ (ne_of h.bk.pl h.bk.nu (by intro z; cases z)) h.bk.pl, e, k _ _ (ne_of h.bk.md h.bk.nu (by intro z; cases z)) h.bk.md, k _ _ (ne_of h.bk.st h.bk.nu (by intro z; cases z)) h.bk.st,
      fun f' z m => by
        rcases SG.snoc_cases m with m | m
        · exact dy_at (h.bk.dn f' z m) n k
        · injection m with _ m
          exact dy_at (ho z m.symm) n k, fun f z m => dy_at (h.bk.ds f z m) n k⟩, h.di, hw⟩
theorem At.md' (h : At P w K A U S H) {v : Dy} {i : Nat} (hw : Wf U (S.putMd v i)) (e : H' A.MD = some (.dT ((S.putMd v i).md.map mdE))) (k : ∀ c o, c ≠ A.MD → H c = some o → H' c = some o) : At P w K A U (S.putMd v i) H' := by
  have n : ∀ C dx fs, H A.MD ≠ some (.ins C dx fs) := fun C dx fs z => by rw [h.bk.md] at z; cases z
  exact ⟨h.lay.dict n k, h.yb.dict (.inl ⟨_, h.bk.md⟩) k,
    ⟨k _ _ h.di.am h.bk.al, k _ _ (ne_of h.bk.si h.bk.md (by intro z; cases z)) h.bk.si, k _ _ h.di.pm h.bk.pl, k _ _ (ne_of h.bk.nu h.bk.md (by intro z; cases z)) h.bk.nu, e, k _ _ h.di.ms.symm h.bk.st,
      fun f z m => dy_at (h.bk.dn f z m) n k, fun f z m => dy_at (h.bk.ds f z m) n k⟩, h.di, hw⟩
theorem At.st' (h : At P w K A U S H) {i : Nat} {s : Bool} {z : Nat × Dy} (hw : Wf U (S.putSt i s z)) (hz : DyAt K H z.1 z.2) (e : H' A.ST = some (.dT ((S.putSt i s z).st.map stE))) (k : ∀ c o, c ≠ A.ST → H c = some o → H' c = some o) : At P w K A U (S.putSt i s z) H' := by
  have n : ∀ C dx fs, H A.ST ≠ some (.ins C dx fs) := fun C dx fs z => by rw [h.bk.st] at z; cases z
  exact ⟨h.lay.dict n k, h.yb.dict (.inl ⟨_, h.bk.st⟩) k,
    ⟨k _ _ h.di.as h.bk.al, k _ _ (ne_of h.bk.si h.bk.st (by intro z; cases z)) h.bk.si, k _ _ h.di.ps h.bk.pl, k _ _ (ne_of h.bk.nu h.bk.st (by intro z; cases z)) h.bk.nu, k _ _ h.di.ms h.bk.md, e,
      fun f z m => dy_at (h.bk.dn f z m) n k, fun f' z' m => by
        rcases SG.snoc_cases m with m | m
        · exact dy_at (h.bk.ds f' z' m) n k
        · injection m with _ m
          subst m
          exact dy_at hz n k⟩, h.di, hw⟩
end
end K45
end
section
set_option Elab.async false
set_option linter.all false
set_option maxRecDepth 100000
set_option maxHeartbeats 4000000
namespace K45
open PySem PySem.Spec PyProof.Rows L2
open SG (Dy redu Plain sc Gs Un Wf Ext gv lf rt optI Nd)
/-! ### yard.py -/
abbrev cY (K : PySem.W.Frag) : Addr := He.ga K "Yard"
section
variable (P : Program) (w : World) (K : PySem.W.Frag)
def spCheck : Sp := fun vs H Q _ => ∃ (A : Ad) (U : Un) (S : Gs) (i : Nat), vs = [.ref A.yd, nV i] ∧ At P w K A U S H ∧ i < S.N ∧ Q .non H
def spHeight : Sp := fun vs H Q _ => ∃ (A : Ad) (U : Un) (S : Gs) (i : Nat), vs = [.ref A.yd, nV i] ∧ At P w K A U S H ∧ i < S.N ∧ Q (nV (SG.ht (S.g i))) H
def spSide (s : Bool) : Sp := fun vs H Q _ => ∃ (A : Ad) (U : Un) (S : Gs) (i : Nat), vs = [.ref A.yd, nV i] ∧ At P w K A U S H ∧ i < S.N ∧ ∀ p, H p = none → Q (.ref p) (upd H p (.lst ((optI s S.ns i).map nV)))
def spOptions : Sp := fun vs H Q _ => ∃ (A : Ad) (U : Un) (S : Gs) (i : Nat) (s : Bool), vs = [.ref A.yd, nV i, .str (sdS s)] ∧ At P w K A U S H ∧ i < S.N ∧ ∀ p, H p = none → Q (.ref p) (upd H p (.lst ((optI s S.ns i).map nV)))
end
theorem Rows.get {H : Hp} {a : Addr} {ns : List Nd} {s : Bool} {i : Nat} (h : Rows H a ns s) (hi : i < ns.length) : ∃ (ts : List V) (t : Addr), H a = some (.lst ts) ∧ ts[i]? = some (.ref t) ∧ H t = some (.tup ((optI s ns i).map nV)) := by
  obtain ⟨ts, e, l, r⟩ := h
  have e1 : ts[i]? = some ts[i] := List.getElem?_eq_getElem (by omega)
  exact ⟨_, ts[i], e, by rw [List.getElem?_map, e1]; rfl, r _ _ e1⟩
theorem Rows.len {H : Hp} {a : Addr} {ns : List Nd} {s : Bool} (h : Rows H a ns s) : ∃ ts : List V, H a = some (.lst ts) ∧ ts.length = ns.length := by
  obtain ⟨ts, e, l, r⟩ := h
  exact ⟨_, e, by rw [List.length_map]; exact l⟩
theorem str_eq_left (s : Bool) : decide ((V.str (sdS s)) = V.str "left") = s := by
  cases s
  · exact decide_eq_false (fun z => absurd (V.str.inj z) (by decide))
  · exact decide_eq_true rfl
section
variable {P : Program} {w : World} {K : PySem.W.Frag} {mg : Str → Option Value} {base : Heap} (T : Tx K mg)
include T
theorem m_check : C8.Met P w K mg base 1 (cY K) "_check" (spCheck P w K) [] := by
  refine met_by (t_cls_Yard T) (t_me_Yard__check T) (t_fn_Yardcheck T) sc_Yardcheck (fun vs H Q E h => ?_) (fun _ _ _ _ _ _ us hl => match us, hl with | [_, _], _ => rfl) (fun cdv A0 outer s H vs Q E hr h => ?_)
  · obtain ⟨A, U, S, i, rfl, _⟩ := h
    rfl
  · obtain ⟨A, U, S, i, rfl, h, hi, k⟩ := h
    refine ⟨_, pss_one (ps_if (pt_not (pt_chain op_le op_lt pe_int (pv 1) (pe_callB call_len_seq (by rfl) (t_fr_len T) PySem.boot_len (pa_cons (pe_fld (pv 0) rfl) pa_nil)))) (pss_one ps_never) pss_nil), ?_⟩
    obtain ⟨ts, e, l⟩ := h.yb.L.len
    refine ⟨_, rfl, _, _, rfl, rfl, true, congrArg V.bl (decide_eq_true (by omega)), iteT ?_⟩
    refine ⟨_, rfl, A.yd, _, A.yx, _, _, rfl, h.lay.yd, t_cls_Yard T, t_no_Yard__lefts T, rfl, A.L, ts, rfl, .inl (SqL.of e), ?_⟩
    exact ⟨_, _, rfl, rfl, true, congrArg V.bl (decide_eq_true (by rw [l]; exact Int.ofNat_lt.mpr hi)), iteF k⟩
theorem m_height : C8.Met P w K mg base 2 (cY K) "height" (spHeight P w K) [] := by
  refine met_by (t_cls_Yard T) (t_me_Yard_height T) (t_fn_Yard_height T) sc_Yard_height (fun vs H Q E h => ?_) (fun _ _ _ _ _ _ us hl => match us, hl with | [_, _], _ => rfl) (fun cdv A0 outer s H vs Q E hr h => ?_)
  · obtain ⟨A, U, S, i, rfl, _⟩ := h
    rfl
  · obtain ⟨A, U, S, i, rfl, h, hi, k⟩ := h
    refine ⟨_, pss_cons (ps_expr (C8.pe_mt (m_check T) hr (by decide) (pv 0) (pa_cons (pv 1) pa_nil))) (pss_one (ps_ret (pe_ix ix_list (pe_fld (pv 0) rfl) (pv 1) (fun _ _ => rfl)))), ?_⟩
    refine ⟨_, rfl, A.yd, A.yx, _, rfl, h.lay.yd, rfl, _, rfl, A, U, S, i, rfl, h, hi, ?_⟩
    refine ⟨_, rfl, A.yd, _, A.yx, _, _, rfl, h.lay.yd, t_cls_Yard T, t_no_Yard__heights T, rfl, _, rfl, A.HH, hhL S.ns, i, nV (SG.ht (S.g i)), rfl, rfl, SqL.of h.yb.HH, atI_nat ?_, k⟩
    unfold hhL
    rw [List.getElem?_map, List.getElem?_range hi]
    rfl
theorem m_lefts : C8.Met P w K mg base 2 (cY K) "lefts" (spSide P w K true) [] := by
  refine met_by (t_cls_Yard T) (t_me_Yard_lefts T) (t_fn_Yard_lefts T) sc_Yard_lefts (fun vs H Q E h => ?_) (fun _ _ _ _ _ _ us hl => match us, hl with | [_, _], _ => rfl) (fun cdv A0 outer s H vs Q E hr h => ?_)
  · obtain ⟨A, U, S, i, rfl, _⟩ := h
    rfl
  · obtain ⟨A, U, S, i, rfl, h, hi, k⟩ := h
    refine ⟨_, pss_cons (ps_expr (C8.pe_mt (m_check T) hr (by decide) (pv 0) (pa_cons (pv 1) pa_nil))) (pss_one (ps_ret (pe_callTy call_list_of (by rfl) (t_fr_list T) (by decide +kernel) (pa_cons (pe_ix ix_list (pe_fld (pv 0) rfl) (pv 1) (fun _ _ => rfl)) pa_nil)))), ?_⟩
    obtain ⟨ts, t, e1, e2, e3⟩ := h.yb.L.get hi
    refine ⟨_, rfl, A.yd, A.yx, _, rfl, h.lay.yd, rfl, _, rfl, A, U, S, i, rfl, h, hi, ?_⟩
    exact ⟨_, rfl, A.yd, _, A.yx, _, _, rfl, h.lay.yd, t_cls_Yard T, t_no_Yard__lefts T, rfl, _, rfl, A.L, ts, i, .ref t, rfl, rfl, SqL.of e1, atI_nat e2, t, _, rfl, .inr (SqT.of e3), k⟩
theorem m_rights : C8.Met P w K mg base 2 (cY K) "rights" (spSide P w K false) [] := by
  refine met_by (t_cls_Yard T) (t_me_Yard_rights T) (t_fn_Yard_rights T) sc_Yard_rights (fun vs H Q E h => ?_) (fun _ _ _ _ _ _ us hl => match us, hl with | [_, _], _ => rfl) (fun cdv A0 outer s H vs Q E hr h => ?_)
  · obtain ⟨A, U, S, i, rfl, _⟩ := h
    rfl
  · obtain ⟨A, U, S, i, rfl, h, hi, k⟩ := h
    refine ⟨_, pss_cons (ps_expr (C8.pe_mt (m_check T) hr (by decide) (pv 0) (pa_cons (pv 1) pa_nil))) (pss_one (ps_ret (pe_callTy call_list_of (by rfl) (t_fr_list T) (by decide +kernel) (pa_cons (pe_ix ix_list (pe_fld (pv 0) rfl) (pv 1) (fun _ _ => rfl)) pa_nil)))), ?_⟩
    obtain ⟨ts, t, e1, e2, e3⟩ := h.yb.R.get hi
    refine ⟨_, rfl, A.yd, A.yx, _, rfl, h.lay.yd, rfl, _, rfl, A, U, S, i, rfl, h, hi, ?_⟩
    exact ⟨_, rfl, A.yd, _, A.yx, _, _, rfl, h.lay.yd, t_cls_Yard T, t_no_Yard__rights T, rfl, _, rfl, A.R, ts, i, .ref t, rfl, rfl, SqL.of e1, atI_nat e2, t, _, rfl, .inr (SqT.of e3), k⟩
theorem m_options : C8.Met P w K mg base 3 (cY K) "options" (spOptions P w K) [] := by
  refine met_by (t_cls_Yard T) (t_me_Yard_options T) (t_fn_Yard_options T) sc_Yard_options (fun vs H Q E h => ?_) (fun _ _ _ _ _ _ us hl => match us, hl with | [_, _, _], _ => rfl) (fun cdv A0 outer s H vs Q E hr h => ?_)
  · obtain ⟨A, U, S, i, s, rfl, _⟩ := h
    rfl
  · obtain ⟨A, U, S, i, s, rfl, h, hi, k⟩ := h
    refine ⟨_, pss_cons (ps_if (pt_cmpR op_eq (pv 2) pe_str (nomark _)) (pss_one (ps_ret (C8.pe_mt (m_lefts T) hr (by decide) (pv 0) (pa_cons (pv 1) pa_nil)))) pss_nil)
      (pss_one (ps_ret (C8.pe_mt (m_rights T) hr (by decide) (pv 0) (pa_cons (pv 1) pa_nil)))), ?_⟩
    refine ⟨_, rfl, rfl, _, rfl, ?_⟩
    rw [str_eq_left]
    cases s
    · exact iteF ⟨_, rfl, A.yd, A.yx, _, rfl, h.lay.yd, rfl, _, rfl, A, U, S, i, rfl, h, hi, k⟩
    · exact iteT ⟨_, rfl, A.yd, A.yx, _, rfl, h.lay.yd, rfl, _, rfl, A, U, S, i, rfl, h, hi, k⟩
end
end K45
end
section
set_option Elab.async false
set_option linter.all false
set_option maxRecDepth 100000
set_option maxHeartbeats 4000000
namespace K45
open PySem PySem.Spec PyProof.Rows L2
open SG (Dy redu Plain sc Gs Un Wf Ext gv lf rt optI Nd)
/-! ### Yard.game -/
theorem Same.trans' {H H' H'' : Hp} (a : Same H H') (b : Same H' H'') : Same H H'' := fun c o e => b c o (a c o e)
def rCatU (K : PySem.W.Frag) : R2 := fun x y H Q => ∃ a b xs ys, x = V.ref a ∧ y = V.ref b ∧ H a = some (.tup xs) ∧ H b = some (.tup ys) ∧ xs.length + ys.length ≤ sizeLine ∧ ∀ p H', H' p = some (.tup (xs ++ ys)) → Same H H' → Q (.ref p) H'
theorem op_catU {X : Cx} : OpR X (binaryOp .Add) (rCatU X.K) := by
  intro pins s σ H x y v u Q I rx ry h
  obtain ⟨a, b, xs, ys, rfl, rfl, ha, hb, hz, q⟩ := h
  refine op_catA pins s σ H _ _ v u Q I rx ry ⟨a, b, xs, ys, rfl, rfl, SqT.of ha, SqT.of hb, hz, fun e => ?_, fun _ e => ?_, fun _ _ p hp => q p _ upd_same (same_upd hp)⟩
  · subst e
    exact q b H hb fun _ _ z => z
  · subst e
    exact q a H (by rw [List.append_nil]; exact ha) fun _ _ z => z
theorem pe_fldK {X : Cx} {e : Expr} {f : Str} {pos : Pos} {ta : TE} (K' : PySem.W.Frag) (hK : X.K = K') (he : PE X e ta) (hb : attributeBase e f X.env (eval e X.env) = eval e X.env) : PE X (.Attribute e f pos) (tFld K' ta f) := hK ▸ pe_fld he hb
theorem ix_listK {X : Cx} (K' : PySem.W.Frag) (hK : X.K = K') : IxR X (rIxL K') := hK ▸ ix_list
theorem ix_tupK {X : Cx} (K' : PySem.W.Frag) (hK : X.K = K') : IxR X (rIxT K') := hK ▸ ix_tup
theorem cr_setIK {X : Cx} (K' : PySem.W.Frag) (w' : World) (hK : X.K = K') (hw : X.w = w') (hc : X.calm = true) : CallR X (.type "set") (rSetI K' w') := hK ▸ hw ▸ cr_setI hc
theorem cr_sortedSetAK {X : Cx} (w' : World) (hw : X.w = w') (hc : X.calm = true) : CallR X (.builtin "sorted") (rSortedSetA w') := hw ▸ cr_sortedSetA hc
/-- a sorted list of numbers -/
theorem nat_list {xs : List Nat} {ns : List Int} (hs : ns.Pairwise (· < ·)) (hm : ∀ k : Int, k ∈ ns ↔ k ∈ xs.map fun x : Nat => (x : Int)) : ∃ l : List Nat, ns = l.map (fun x : Nat => (x : Int)) ∧ l.Pairwise (· < ·) ∧ ∀ k, k ∈ l ↔ k ∈ xs := by
  have pos : ∀ k ∈ ns, ((k.toNat : Nat) : Int) = k := fun k hk => by
    obtain ⟨x, _, rfl⟩ := List.mem_map.mp ((hm k).mp hk)
    rfl
  have e : ns = (ns.map Int.toNat).map (fun x : Nat => (x : Int)) := by
    rw [List.map_map]
    conv => lhs; rw [← List.map_id ns]
    exact List.map_congr_left fun k hk => (pos k hk).symm
  refine ⟨ns.map Int.toNat, e, ?_, fun k => ?_⟩
  · rw [e] at hs
    rw [List.pairwise_map] at hs
    exact hs.imp fun h => by omega
  · constructor
    · intro h
      obtain ⟨z, hz, rfl⟩ := List.mem_map.mp h
      have q := (hm z).mp hz
      rw [← pos z hz] at q
      obtain ⟨x, hx, ex⟩ := List.mem_map.mp q
      have : x = z.toNat := by omega
      rw [← this]
      exact hx
    · intro h
      have q := (hm k).mpr (List.mem_map.mpr ⟨k, h, rfl⟩)
      exact List.mem_map.mpr ⟨_, q, by simp⟩
theorem nm_val {l r : List Nat} (ns : List Nd) : ∀ L : List Nat,
    (∀ v, valV (L.map fun i => (keyI ns i, nV i)) ((l.map fun o : Nat => (o : Int)), (r.map fun o : Nat => (o : Int))) = some v → ∃ i ∈ L, v = nV i ∧ lf ns i = l ∧ rt ns i = r) ∧
    (valV (L.map fun i => (keyI ns i, nV i)) ((l.map fun o : Nat => (o : Int)), (r.map fun o : Nat => (o : Int))) = none → ∀ i ∈ L, ¬ (lf ns i = l ∧ rt ns i = r))
  | [] => ⟨fun v h => (by cases h), fun _ i hi => (by cases hi)⟩
  | i :: L => by
    obtain ⟨h1, h2⟩ := nm_val (l := l) (r := r) ns L
    have inj : ∀ {a b : List Nat}, (a.map fun o : Nat => (o : Int)) = (b.map fun o : Nat => (o : Int)) → a = b := fun {a b} h => by
      have := congrArg (List.map Int.toNat) h
      simpa [List.map_map, Function.comp_def] using this
    by_cases q : keyI ns i = ((l.map fun o : Nat => (o : Int)), (r.map fun o : Nat => (o : Int)))
    · rw [List.map_cons]
      refine ⟨fun v h => ?_, fun h => ?_⟩
      · rw [valV_pos q] at h
        refine ⟨i, List.mem_cons_self .., (Option.some.inj h).symm, ?_, ?_⟩
        · exact inj (congrArg Prod.fst q)
        · exact inj (congrArg Prod.snd q)
      · rw [valV_pos q] at h
        cases h
    · rw [List.map_cons]
      refine ⟨fun v h => ?_, fun h j hj z => ?_⟩
      · rw [valV_neg q] at h
        obtain ⟨j, hj, e⟩ := h1 v h
        exact ⟨j, List.mem_cons_of_mem _ hj, e⟩
      · rw [valV_neg q] at h
        rcases List.mem_cons.mp hj with rfl | hj
        · exact q (by unfold keyI; rw [z.1, z.2])
        · exact h2 h j hj z
theorem nmK_push {U : Un} {S : Gs} (wf : Wf U S) (l r : List Nat) : nmK (S.push l r).ns = nmK S.ns ++ [(((l.map fun o : Nat => (o : Int)), (r.map fun o : Nat => (o : Int))), nV S.N)] := by
  unfold nmK
  rw [show (S.push l r).ns.length = S.ns.length + 1 by show (S.ns ++ [_]).length = _; rw [List.length_append]; rfl, List.range_succ, List.map_append]
  congr 1
  · refine List.map_congr_left fun i hi => ?_
    have := SG.gv_app (more := [⟨l, r, .mk (l.map (gv S.ns)) (r.map (gv S.ns))⟩]) (List.mem_range.mp hi)
    unfold keyI
    show ((_, _), _) = _
    rw [this.2.1, this.2.2]
  · have q := SG.gv_at (ns := (S.push l r).ns) (i := S.ns.length) (nd := ⟨l, r, .mk (l.map (gv S.ns)) (r.map (gv S.ns))⟩) (by
      show (S.ns ++ [_])[S.ns.length]? = _
      rw [List.getElem?_append_right (Nat.le_refl _), Nat.sub_self]
      rfl)
    show [(keyI (S.push l r).ns S.ns.length, nV S.ns.length)] = _
    unfold keyI
    rw [q.2.1, q.2.2]
theorem hhL_push {U : Un} {S : Gs} (wf : Wf U S) (l r : List Nat) : hhL (S.push l r).ns = hhL S.ns ++ [nV (SG.ht (.mk (l.map (gv S.ns)) (r.map (gv S.ns))))] := by
  unfold hhL
  rw [show (S.push l r).ns.length = S.ns.length + 1 by show (S.ns ++ [_]).length = _; rw [List.length_append]; rfl, List.range_succ, List.map_append]
  congr 1
  · refine List.map_congr_left fun i hi => ?_
    rw [(SG.gv_app (more := [⟨l, r, .mk (l.map (gv S.ns)) (r.map (gv S.ns))⟩]) (List.mem_range.mp hi)).1]
  · have q := SG.gv_at (ns := (S.push l r).ns) (i := S.ns.length) (nd := ⟨l, r, .mk (l.map (gv S.ns)) (r.map (gv S.ns))⟩) (by
      show (S.ns ++ [_])[S.ns.length]? = _
      rw [List.getElem?_append_right (Nat.le_refl _), Nat.sub_self]
      rfl)
    show [nV (SG.ht (gv (S.push l r).ns S.ns.length))] = _
    rw [q.1]
theorem rows_push {S : Gs} {H H' : Hp} {a t : Addr} {s : Bool} {l r : List Nat} {ts : List Addr} (e : H' a = some (.lst (ts.map V.ref ++ [.ref t]))) (len : ts.length = S.ns.length) (old : ∀ (i : Nat) (t : Addr), ts[i]? = some t → H t = some (.tup ((optI s S.ns i).map nV)))
    (k : ∀ c xs, H c = some (.tup xs) → H' c = some (.tup xs)) (et : H' t = some (.tup ((if s then l else r).map nV))) : Rows H' a (S.push l r).ns s := by
  refine ⟨ts ++ [t], by rw [List.map_append]; exact e, by show _ = (S.ns ++ [_]).length; rw [List.length_append, List.length_append, len]; rfl, fun i t' h => ?_⟩
  by_cases hi : i < ts.length
  · rw [List.getElem?_append_left hi] at h
    rw [show optI s (S.push l r).ns i = optI s S.ns i from SG.optI_app (by omega)]
    exact k _ _ (old i t' h)
  · rw [List.getElem?_append_right (by omega)] at h
    have z : i - ts.length = 0 := by
      by_cases z : i - ts.length = 0
      · exact z
      · rw [List.getElem?_eq_none (by simp; omega)] at h
        cases h
    rw [z] at h
    cases h
    have ei : i = S.ns.length := by omega
    subst ei
    have q := SG.gv_at (ns := (S.push l r).ns) (i := S.ns.length) (nd := ⟨l, r, .mk (l.map (gv S.ns)) (r.map (gv S.ns))⟩) (by
      show (S.ns ++ [_])[S.ns.length]? = _
      rw [List.getElem?_append_right (Nat.le_refl _), Nat.sub_self]
      rfl)
    have : optI s (S.push l r).ns S.ns.length = if s then l else r := by
      unfold optI
      rw [q.2.1, q.2.2]
    rw [this]
    exact et
/-- the greatest of 0 and the heights and one more -/
theorem top_ht {ns : List Nd} {l r : List Nat} {m : Int} (h1 : m ∈ (0 : Int) :: (l ++ r).map fun o => (1 + (SG.ht (gv ns o) : Int))) (h2 : ∀ y ∈ (0 : Int) :: (l ++ r).map fun o => (1 + (SG.ht (gv ns o) : Int)), y ≤ m) :
    m = (SG.ht (.mk (l.map (gv ns)) (r.map (gv ns))) : Int) := by
  have a1 : ∀ o, o ∈ l ++ r → SG.ht (gv ns o) < SG.ht (.mk (l.map (gv ns)) (r.map (gv ns))) := fun o ho => by
    rcases List.mem_append.mp ho with ho | ho
    · exact SG.ht_left (g := .mk (l.map (gv ns)) (r.map (gv ns))) (List.mem_map.mpr ⟨o, ho, rfl⟩)
    · exact SG.ht_right (g := .mk (l.map (gv ns)) (r.map (gv ns))) (List.mem_map.mpr ⟨o, ho, rfl⟩)
  have a2 : ∀ o, o ∈ l ++ r → 1 + (SG.ht (gv ns o) : Int) ≤ m := fun o ho => h2 _ (List.mem_cons_of_mem _ (List.mem_map.mpr ⟨o, ho, rfl⟩))
  have a3 := h2 0 (List.mem_cons_self ..)
  have a4 : SG.ht (.mk (l.map (gv ns)) (r.map (gv ns))) ≤ m.toNat := SG.ht_le (fun x hx => by
    obtain ⟨o, ho, rfl⟩ := List.mem_map.mp hx
    have := a2 o (List.mem_append_left _ ho)
    omega) fun x hx => by
    obtain ⟨o, ho, rfl⟩ := List.mem_map.mp hx
    have := a2 o (List.mem_append_right _ ho)
    omega
  rcases List.mem_cons.mp h1 with rfl | h1
  · have : SG.ht (.mk (l.map (gv ns)) (r.map (gv ns))) ≤ 0 := a4
    omega
  · obtain ⟨o, ho, rfl⟩ := List.mem_map.mp h1
    have := a1 o ho
    omega
def spGame (P : Program) (w : World) (K : PySem.W.Frag) : Sp := fun vs H Q _ => ∃ (A : Ad) (U : Un) (S : Gs) (la ra : Addr) (xs ys : List Nat), vs = [.ref A.yd, .ref la, .ref ra] ∧ At P w K A U S H ∧ H la = some (.lst (xs.map nV)) ∧ H ra = some (.lst (ys.map nV)) ∧
  xs.length ≤ 2000 ∧ ys.length ≤ 2000 ∧ (∀ x ∈ xs, x < S.N) ∧ (∀ x ∈ ys, x < S.N) ∧ ∀ l r : List Nat, l.Pairwise (· < ·) → (∀ k, k ∈ l ↔ k ∈ xs) → r.Pairwise (· < ·) → (∀ k, k ∈ r ↔ k ∈ ys) →
    (∀ i H', i < S.N → lf S.ns i = l → rt S.ns i = r → At P w K A U S H' → Keep A H H' → Q (nV i) H') ∧
    ((∀ i, i < S.N → ¬ (lf S.ns i = l ∧ rt S.ns i = r)) → 1 ≤ S.slack ∧ ∀ H', At P w K A U (S.push l r) H' → Keep A H H' → Q (nV S.N) H')
end K45
end
section
set_option Elab.async false
set_option linter.all false
set_option maxRecDepth 100000
set_option maxHeartbeats 4000000
namespace K45
open PySem PySem.Spec PyProof.Rows L2
open SG (Dy redu Plain sc Gs Un Wf Ext gv lf rt optI Nd)
section
variable {P : Program} {w : World} {K : PySem.W.Frag} {mg : Str → Option Value} {base : Heap} (T : Tx K mg)
include T
theorem m_game : C8.Met P w K mg base 2 (cY K) "game" (spGame P w K) [] := by
  refine met_by (t_cls_Yard T) (t_me_Yard_game T) (t_fn_Yard_game T) sc_Yard_game (fun vs H Q E h => ?_) (fun _ _ _ _ _ _ us hl => match us, hl with | [_, _, _], _ => rfl) (fun cdv A0 outer s H vs Q E hr h => ?_)
  · obtain ⟨A, U, S, la, ra, xs, ys, rfl, _⟩ := h
    rfl
  · obtain ⟨A, U, S, la, ra, xs, ys, rfl, h, hla, hra, lx, ly, bx, by_, k⟩ := h
    refine ⟨_, pss_cons (ps_for PassesOwn.never rfl (pi_list (pe_op op_cat (pv 1) (pv 2))) (pg_name (i := 3) sc_Yard_game.nd rfl (.inl rfl)) (pss_one (ps_expr (C8.pe_mt (m_check T) hr (by decide) (pv 0) (pa_cons (pv 3) pa_nil)))))
      (pss_cons (ps_set (i := 4) sc_Yard_game.nd rfl (.inl rfl) (pe_tup (pa_cons (pe_callTy call_tuple_of (by rfl) (t_fr_tuple T) (by decide +kernel) (pa_cons (pe_callB (cr_sortedSetAK w rfl rfl) (by rfl) (t_fr_sorted T) (by decide +kernel) (pa_cons (pe_callTy (cr_setIK K w rfl rfl rfl) (by rfl) (t_fr_set T) (by decide +kernel) (pa_cons (pv 1) pa_nil)) pa_nil)) pa_nil))
        (pa_cons (pe_callTy call_tuple_of (by rfl) (t_fr_tuple T) (by decide +kernel) (pa_cons (pe_callB (cr_sortedSetAK w rfl rfl) (by rfl) (t_fr_sorted T) (by decide +kernel) (pa_cons (pe_callTy (cr_setIK K w rfl rfl rfl) (by rfl) (t_fr_set T) (by decide +kernel) (pa_cons (pv 2) pa_nil)) pa_nil)) pa_nil)) pa_nil))))
      (pss_cons (ps_if (pt_cmpR (or_nnotin hr.units) (pv 4) (pe_fld (pv 0) rfl) (by rfl))
        (pss_cons (ps_asg (pe_callB call_len_seq (by rfl) (t_fr_len T) PySem.boot_len (pa_cons (pe_fld (pv 0) rfl) pa_nil)) (pg_sub (pe_fld (pv 0) rfl) (pv 4) (set_nput hr.units)))
        (pss_cons (ps_expr (pe_bm PySem.F.plainAttrs_list PySem.F.slot_list_append PySem.F.type_list_append mt_append (pe_fld (pv 0) rfl) (pa_cons (pe_ix ix_tup (pv 4) pe_int (fun _ _ => rfl)) pa_nil)))
        (pss_cons (ps_expr (pe_bm PySem.F.plainAttrs_list PySem.F.slot_list_append PySem.F.type_list_append mt_append (pe_fld (pv 0) rfl) (pa_cons (pe_ix ix_tup (pv 4) pe_int (fun _ _ => rfl)) pa_nil)))
        (pss_one (ps_expr (pe_bm PySem.F.plainAttrs_list PySem.F.slot_list_append PySem.F.type_list_append mt_append (pe_fld (pv 0) rfl) (pa_cons
          (pe_callB (cr_max rfl) (by rfl) (t_fr_max T) (by decide +kernel) (pa_cons (pe_op op_cat (pe_lst (pa_cons pe_int pa_nil))
            (pe_lc (own := [("game", 3)]) (g := gName 3) (tt := tYes) rfl sc_Yard_game.nd (pi_tup (pe_op op_catU (pe_ix ix_tup (pv 4) pe_int (fun _ _ => rfl)) (pe_ix ix_tup (pv 4) pe_int (fun _ _ => rfl))))
              (blkOk_by (N := ["self", "lefts", "rights", "game", "form"]) (sc := defScope s_Yard_game) (by decide +kernel)) (fun _ _ _ _ _ => pg_name (i := 3) sc_Yard_game.nd rfl (Or.inl rfl)) (fun _ _ _ _ _ => pts_nil)
              (fun _ _ _ _ _ => pe_op op_add pe_int (pe_ix (ix_listK K rfl) (pe_fldK K rfl (pv 0) rfl) (pv 3) (fun _ _ => rfl))))) pa_nil)) pa_nil)))))))
        pss_nil)
      (pss_one (ps_ret (pe_nget hr.units (pe_fld (pv 0) rfl) (pv 4) (fun _ _ => rfl))))))
    , ?_⟩
    have small : ∀ n : Nat, n ≤ 20000 → n ≤ sizeLine := fun n hn => by rw [sizeLine_eq]; omega
    refine ⟨_, rfl, _, rfl, la, ra, _, _, rfl, rfl, hla, hra, small _ (by rw [List.length_map, List.length_map]; omega), fun p hp => ?_⟩
    refine ⟨p, rfl, ⟨_, SqL.of upd_same⟩, for_list (K := K) (a := p) (xs := xs.map nV ++ ys.map nV) (fun i σ H2 => ∃ y, σ = [some (.ref A.yd), some (.ref la), some (.ref ra), y, none] ∧ H2 = upd H p (.lst (xs.map nV ++ ys.map nV)))
      ⟨none, rfl, rfl⟩ (fun i σ H2 _ ⟨_, _, e⟩ => by rw [e]; exact SqL.of upd_same) ?_ ?_⟩
    · rintro i x σ H2 hi ⟨y, rfl, rfl⟩
      rw [← List.map_append] at hi
      obtain ⟨o, ho, rfl⟩ : ∃ o, o ∈ xs ++ ys ∧ x = nV o := by
        have := List.mem_of_getElem? hi
        obtain ⟨o, ho, rfl⟩ := List.mem_map.mp this
        exact ⟨o, ho, rfl⟩
      have lo : o < S.N := by
        rcases List.mem_append.mp ho with ho | ho
        · exact bx o ho
        · exact by_ o ho
      have h' := h.same (same_upd (o := .lst (xs.map nV ++ ys.map nV)) hp)
      exact ⟨_, rfl, A.yd, A.yx, _, rfl, h'.lay.yd, rfl, _, rfl, A, U, S, o, rfl, h', lo, _, rfl, rfl⟩
    · rintro σ H2 ⟨y, rfl, e2⟩
      have s0 : Same H H2 := by rw [e2]; exact same_upd hp
      clear e2
      have i1 : (xs.map nV) = ((xs.map fun x : Nat => (x : Int)).map V.int) := by rw [List.map_map]; rfl
      have i2 : (ys.map nV) = ((ys.map fun x : Nat => (x : Int)).map V.int) := by rw [List.map_map]; rfl
      refine ⟨_, rfl, la, xs.map (fun x : Nat => (x : Int)), rfl, SqL.of (by rw [← i1]; exact s0 _ _ hla), by rw [List.length_map]; omega, fun p1 c1 hp1 hc1 => ?_⟩
      refine ⟨p1, _, c1, rfl, upd_same, small _ (by rw [List.length_map] at hc1; omega), fun ns1 q1 so1 me1 hq1 => ?_⟩
      refine ⟨q1, _, rfl, .inl ⟨SqL.of upd_same, fun t1 ht1 => ?_⟩⟩
      obtain ⟨l, rfl, sl, ml⟩ := nat_list (xs := xs) so1 (fun k => by rw [me1 k]; exact decide_eq_true_iff)
      have s1 := Same.trans' s0 (Same.trans' (same_upd (o := SetO w p1 (fun j => decide (j ∈ xs.map fun x : Nat => (x : Int))) c1) hp1) (Same.trans' (same_upd (o := .lst ((l.map fun x : Nat => (x : Int)).map V.int)) hq1) (same_upd (o := .tup ((l.map fun x : Nat => (x : Int)).map V.int)) ht1)))
      have et1 : (upd (upd (upd H2 p1 (SetO w p1 (fun j => decide (j ∈ xs.map fun x : Nat => (x : Int))) c1)) q1 (.lst ((l.map fun x : Nat => (x : Int)).map V.int))) t1 (.tup ((l.map fun x : Nat => (x : Int)).map V.int))) t1 = some (.tup (l.map nV)) := by
        rw [upd_same, List.map_map]
        rfl
      generalize upd (upd (upd H2 p1 (SetO w p1 (fun j => decide (j ∈ xs.map fun x : Nat => (x : Int))) c1)) q1 (.lst ((l.map fun x : Nat => (x : Int)).map V.int))) t1 (.tup ((l.map fun x : Nat => (x : Int)).map V.int)) = H3 at s1 et1
      refine ⟨_, rfl, ra, ys.map (fun x : Nat => (x : Int)), rfl, SqL.of (by rw [← i2]; exact s1 _ _ hra), by rw [List.length_map]; omega, fun p2 c2 hp2 hc2 => ?_⟩
      refine ⟨p2, _, c2, rfl, upd_same, small _ (by rw [List.length_map] at hc2; omega), fun ns2 q2 so2 me2 hq2 => ?_⟩
      refine ⟨q2, _, rfl, .inl ⟨SqL.of upd_same, fun t2 ht2 => ?_⟩⟩
      obtain ⟨r, rfl, sr, mr⟩ := nat_list (xs := ys) so2 (fun k => by rw [me2 k]; exact decide_eq_true_iff)
      have s2' := Same.trans' (same_upd (o := SetO w p2 (fun j => decide (j ∈ ys.map fun x : Nat => (x : Int))) c2) hp2) (Same.trans' (same_upd (o := .lst ((r.map fun x : Nat => (x : Int)).map V.int)) hq2) (same_upd (o := .tup ((r.map fun x : Nat => (x : Int)).map V.int)) ht2))
      have et2 : (upd (upd (upd H3 p2 (SetO w p2 (fun j => decide (j ∈ ys.map fun x : Nat => (x : Int))) c2)) q2 (.lst ((r.map fun x : Nat => (x : Int)).map V.int))) t2 (.tup ((r.map fun x : Nat => (x : Int)).map V.int))) t2 = some (.tup (r.map nV)) := by
        rw [upd_same, List.map_map]
        rfl
      generalize upd (upd (upd H3 p2 (SetO w p2 (fun j => decide (j ∈ ys.map fun x : Nat => (x : Int))) c2)) q2 (.lst ((r.map fun x : Nat => (x : Int)).map V.int))) t2 (.tup ((r.map fun x : Nat => (x : Int)).map V.int)) = H4 at s2' et2
      refine ⟨by show 2 ≤ sizeLine; decide, fun b hb => ?_⟩
      have s3 := same_upd (H := H4) (o := .tup [.ref t1, .ref t2]) hb
      have eb : upd H4 b (.tup [.ref t1, .ref t2]) b = some (.tup [.ref t1, .ref t2]) := upd_same
      have e1 := s3 _ _ (s2' _ _ et1)
      have e2 := s3 _ _ et2
      have sA : Same H (upd H4 b (.tup [.ref t1, .ref t2])) := Same.trans' s1 (Same.trans' s2' s3)
      generalize upd H4 b (.tup [.ref t1, .ref t2]) = H5 at s3 eb e1 e2 sA
      have h5 := h.same sA
      have key : KeyAt H5 b ((l.map fun o : Nat => (o : Int)), (r.map fun o : Nat => (o : Int))) := ⟨t1, t2, eb, by rw [List.map_map]; exact e1, by rw [List.map_map]; exact e2⟩
      obtain ⟨k1, k2⟩ := k l r sl ml sr mr
      have keep5 : Keep A H H5 := Keep.same sA
      refine ⟨_, rfl, _, rfl, A.yd, _, A.yx, _, _, rfl, h5.lay.yd, t_cls_Yard T, t_no_Yard__numbers T, rfl, b, A.NM, nmK S.ns, _, rfl, rfl, h5.yb.NM, key, _, rfl, ?_⟩
      obtain ⟨v1, v2⟩ := nm_val (l := l) (r := r) S.ns (List.range S.ns.length)
      cases ev : valV (nmK S.ns) ((l.map fun o : Nat => (o : Int)), (r.map fun o : Nat => (o : Int))) with
      | some v =>
        obtain ⟨i, hi, rfl, g1, g2⟩ := v1 v ev
        refine iteF ⟨_, rfl, A.yd, _, A.yx, _, _, rfl, h5.lay.yd, t_cls_Yard T, t_no_Yard__numbers T, rfl, _, rfl, A.NM, b, nmK S.ns, _, _, rfl, rfl, h5.yb.NM, key, ev, ?_⟩
        exact k1 i H5 (List.mem_range.mp hi) g1 g2 h5 keep5
      | none =>
        have fresh := v2 ev
        obtain ⟨sl1, kk⟩ := k2 fun i hi => fresh i (List.mem_range.mpr hi)
        have bl : ∀ o ∈ l, o < S.N := fun o ho => bx o ((ml o).mp ho)
        have br : ∀ o ∈ r, o < S.N := fun o ho => by_ o ((mr o).mp ho)
        obtain ⟨wf', ext⟩ := SG.wf_push h.wf sl1 sl sr bl br fun i hi => fresh i (List.mem_range.mpr hi)
        have nn : S.ns.length ≤ 19000 := h.wf.n
        obtain ⟨⟨ts, eL, lL, oL⟩, ⟨us, eR, lR, oR⟩, eH, eN⟩ := id h5.yb
        obtain ⟨nx, exN, _⟩ := id eN
        refine iteT ?_
        -- the number
        refine ⟨_, rfl, A.yd, _, A.yx, _, _, rfl, h5.lay.yd, t_cls_Yard T, t_no_Yard__lefts T, rfl, A.L, _, rfl, .inl (SqL.of eL), ?_⟩
        refine ⟨_, rfl, A.yd, _, A.yx, _, _, rfl, h5.lay.yd, t_cls_Yard T, t_no_Yard__numbers T, rfl, _, rfl, A.NM, b, nmK S.ns, _, rfl, rfl, eN, key, ev, ?_, fun H6 d6 o6 => ?_⟩
        · unfold nmK
          rw [List.length_map, List.length_range, sizeLine_eq]
          have : S.ns.length ≤ 19000 := nn
          omega
        have vN : (V.int ((ts.map V.ref).length : Int)) = nV S.N := by rw [List.length_map, lL]
        rw [vN] at d6
        have ne6 : ∀ {c o}, H5 c = some o → (∀ φ, o ≠ .ext φ) → H6 c = some o := fun {c o} e n => by
          rw [o6 c (fun q => n _ (Option.some.inj ((q ▸ e).symm.trans exN)))]
          exact e
        have yd6 := ne6 h5.lay.yd (fun _ z => by cases z)
        have eb6 := ne6 eb (fun _ z => by cases z)
        have e16 := ne6 e1 (fun _ z => by cases z)
        have e26 := ne6 e2 (fun _ z => by cases z)
        -- the lefts
        refine ⟨_, rfl, A.yd, _, A.yx, _, _, rfl, yd6, t_cls_Yard T, t_no_Yard__lefts T, rfl, .inl ⟨rfl, _, SqL.of (ne6 eL (fun _ z => by cases z))⟩, ?_⟩
        have eL6 := ne6 eL (fun _ z => by cases z)
        have eR6 := ne6 eR (fun _ z => by cases z)
        have eH6 := ne6 eH (fun _ z => by cases z)
        refine ⟨_, rfl, b, _, 0, .ref t1, rfl, rfl, SqT.of eb6, rfl, A.L, _, _, rfl, rfl, eL6, ?_, ?_⟩
        · rw [List.length_map, lL, sizeLine_eq]
          omega
        have eL7 : upd H6 A.L (.lst (ts.map V.ref ++ [.ref t1])) A.L = some (.lst (ts.map V.ref ++ [.ref t1])) := upd_same
        have o7 : ∀ c o, c ≠ A.L → H6 c = some o → upd H6 A.L (.lst (ts.map V.ref ++ [.ref t1])) c = some o := fun c o n e => (upd_ne n).trans e
        have yd7 := o7 _ _ (ne_of yd6 eL6 (by intro z; cases z)) yd6
        have eb7 := o7 _ _ (ne_of eb6 eL6 (by intro z; cases z)) eb6
        have e17 := o7 _ _ (ne_of e16 eL6 (by intro z; cases z)) e16
        have e27 := o7 _ _ (ne_of e26 eL6 (by intro z; cases z)) e26
        have eR7 := o7 _ _ h.di.lr.symm eR6
        have eH7 := o7 _ _ h.di.lh.symm eH6
        generalize upd H6 A.L (.lst (ts.map V.ref ++ [.ref t1])) = H7 at eL7 o7 yd7 eb7 e17 e27 eR7 eH7 ⊢
        -- the rights
        refine ⟨_, rfl, A.yd, _, A.yx, _, _, rfl, yd7, t_cls_Yard T, t_no_Yard__rights T, rfl, .inl ⟨rfl, _, SqL.of eR7⟩, ?_⟩
        refine ⟨_, rfl, b, _, 1, .ref t2, rfl, rfl, SqT.of eb7, rfl, A.R, _, _, rfl, rfl, eR7, ?_, ?_⟩
        · rw [List.length_map, lR, sizeLine_eq]
          omega
        have eR8 : upd H7 A.R (.lst (us.map V.ref ++ [.ref t2])) A.R = some (.lst (us.map V.ref ++ [.ref t2])) := upd_same
        have o8 : ∀ c o, c ≠ A.R → H7 c = some o → upd H7 A.R (.lst (us.map V.ref ++ [.ref t2])) c = some o := fun c o n e => (upd_ne n).trans e
        have yd8 := o8 _ _ (ne_of yd7 eR7 (by intro z; cases z)) yd7
        have eb8 := o8 _ _ (ne_of eb7 eR7 (by intro z; cases z)) eb7
        have e18 := o8 _ _ (ne_of e17 eR7 (by intro z; cases z)) e17
        have e28 := o8 _ _ (ne_of e27 eR7 (by intro z; cases z)) e27
        have eL8 := o8 _ _ h.di.lr eL7
        have eH8 := o8 _ _ h.di.rh.symm eH7
        generalize upd H7 A.R (.lst (us.map V.ref ++ [.ref t2])) = H8 at eR8 o8 yd8 eb8 e18 e28 eL8 eH8 ⊢
        -- the heights
        refine ⟨_, rfl, A.yd, _, A.yx, _, _, rfl, yd8, t_cls_Yard T, t_no_Yard__heights T, rfl, .inl ⟨rfl, _, SqL.of eH8⟩, ?_⟩
        refine ⟨by show 1 ≤ sizeLine; decide, fun z hz => ?_⟩
        have s9 := same_upd (H := H8) (o := .lst [V.int 0]) hz
        have ez9 : upd H8 z (.lst [V.int 0]) z = some (.lst [V.int 0]) := upd_same
        have eb9 := s9 _ _ eb8
        have ll : l.length ≤ 2000 := Nat.le_trans (SG.len_sub (SG.rise_nodup sl) fun x hx => (ml x).mp hx) lx
        have lr' : r.length ≤ 2000 := Nat.le_trans (SG.len_sub (SG.rise_nodup sr) fun x hx => (mr x).mp hx) ly
        refine ⟨_, rfl, b, _, 0, .ref t1, rfl, rfl, SqT.of eb9, rfl, _, rfl, b, _, 1, .ref t2, rfl, rfl, SqT.of eb9, rfl, t1, t2, l.map nV, r.map nV, rfl, rfl, s9 _ _ e18, s9 _ _ e28, small _ (by rw [List.length_map, List.length_map]; omega), fun pp Hc ep sc' => ?_⟩
        have sA8 : Same H8 Hc := Same.trans' s9 sc'
        refine ⟨pp, rfl, ⟨_, SqT.of ep⟩, fun D hD => lc_tup (K := K) (a := pp) (xs := l.map nV ++ r.map nV) (fun i H2 => H2 D = some (.lst (((l ++ r).take i).map fun o => V.int (1 + (SG.ht (gv S.ns o) : Int)))) ∧ ∀ c o, c ≠ D → Hc c = some o → H2 c = some o)
          ⟨upd_same, fun c o n e => (upd_ne n).trans e⟩ (fun i H2 _ q => SqT.of (q.2 _ _ (ne_of_none ep hD) ep)) ?_ ?_⟩
        · rintro i x H2 hi ⟨q1, q2⟩
          rw [← List.map_append] at hi
          obtain ⟨o, ho, rfl⟩ : ∃ o, (l ++ r)[i]? = some o ∧ x = nV o := by
            rw [List.getElem?_map] at hi
            cases e : (l ++ r)[i]? with
            | none => rw [e] at hi; cases hi
            | some o => rw [e] at hi; exact ⟨o, rfl, (Option.some.inj hi).symm⟩
          have lo : o < S.ns.length := by
            rcases List.mem_append.mp (List.mem_of_getElem? ho) with m | m
            · exact bl o m
            · exact br o m
          have ydc := q2 _ _ (ne_of_none (sA8 _ _ yd8) hD) (sA8 _ _ yd8)
          have ehc := q2 _ _ (ne_of_none (sA8 _ _ eH8) hD) (sA8 _ _ eH8)
          refine ⟨rfl, ?_⟩
          refine ⟨_, rfl, A.yd, _, A.yx, _, _, rfl, ydc, t_cls_Yard T, t_no_Yard__heights T, rfl, _, rfl, A.HH, hhL S.ns, o, nV (SG.ht (gv S.ns o)), rfl, rfl, SqL.of ehc, atI_nat ?_, _, _, rfl, rfl, _, q1, ?_, ?_, fun c o' n e => (upd_ne n).trans (q2 c o' n e)⟩
          · unfold hhL
            rw [List.getElem?_map, List.getElem?_range lo]
            rfl
          · rw [List.length_map, List.length_take, List.length_append, sizeLine_eq]
            omega
          · rw [upd_same, List.take_add_one, ho, List.map_append]
            rfl
        · rintro H2 ⟨q1, q2⟩
          have eD : H2 D = some (.lst ((l ++ r).map fun o => V.int (1 + (SG.ht (gv S.ns o) : Int)))) := by
            rw [q1, List.take_of_length_le (by rw [List.length_append, List.length_append, List.length_map, List.length_map]; exact Nat.le_refl _)]
          refine ⟨z, D, _, _, rfl, rfl, q2 _ _ (ne_of_none (sc' _ _ ez9) hD) (sc' _ _ ez9), eD, small _ (by rw [List.length_map, List.length_append]; show 1 + _ ≤ 20000; omega), fun c hc => ?_⟩
          have sB8 : Same H8 H2 := fun a o e => q2 a o (ne_of_none (sA8 _ _ e) hD) (sA8 _ _ e)
          have sC8 : Same H8 (upd H2 c (.lst ([V.int 0] ++ (l ++ r).map fun o => V.int (1 + (SG.ht (gv S.ns o) : Int))))) := Same.trans' sB8 (same_upd hc)
          refine ⟨c, (0 : Int) :: (l ++ r).map (fun o => (1 + (SG.ht (gv S.ns o) : Int))), rfl, SqL.of ?_, Nat.zero_lt_succ _, fun m hm hle => ?_⟩
          · rw [upd_same, List.map_cons, List.map_map]
            rfl
          have em := top_ht hm hle
          subst em
          refine ⟨A.HH, _, _, rfl, rfl, sC8 _ _ eH8, ?_, ?_⟩
          · unfold hhL
            rw [List.length_map, List.length_range, sizeLine_eq]
            omega
          generalize upd H2 c (.lst ([V.int 0] ++ (l ++ r).map fun o => V.int (1 + (SG.ht (gv S.ns o) : Int)))) = H9 at sC8
          have eH10 : upd H9 A.HH (.lst (hhL S.ns ++ [V.int (SG.ht (.mk (l.map (gv S.ns)) (r.map (gv S.ns))) : Int)])) A.HH = some (.lst (hhL S.ns ++ [V.int (SG.ht (.mk (l.map (gv S.ns)) (r.map (gv S.ns))) : Int)])) := upd_same
          have o10 : ∀ c o, c ≠ A.HH → H9 c = some o → upd H9 A.HH (.lst (hhL S.ns ++ [V.int (SG.ht (.mk (l.map (gv S.ns)) (r.map (gv S.ns))) : Int)])) c = some o := fun c o n e => (upd_ne n).trans e
          generalize upd H9 A.HH (.lst (hhL S.ns ++ [V.int (SG.ht (.mk (l.map (gv S.ns)) (r.map (gv S.ns))) : Int)])) = H10 at eH10 o10 ⊢
          have all : ∀ c o, H5 c = some o → c ≠ A.NM → c ≠ A.L → c ≠ A.R → c ≠ A.HH → H10 c = some o := fun c o e n1 n2 n3 n4 => o10 _ _ n4 (sC8 _ _ (o8 _ _ n3 (o7 _ _ n2 ((o6 c n1).trans e))))
          have allk : ∀ c o, H5 c = some o → (∀ φ, o ≠ .ext φ) → (∀ xs, o ≠ .lst xs) → H10 c = some o := fun c o e n1 n2 => all c o e (fun q => n1 _ (Option.some.inj ((q ▸ e).symm.trans exN))) (fun q => n2 _ (Option.some.inj ((q ▸ e).symm.trans eL))) (fun q => n2 _ (Option.some.inj ((q ▸ e).symm.trans eR))) (fun q => n2 _ (Option.some.inj ((q ▸ e).symm.trans eH)))
          have tupk : ∀ c xs, H5 c = some (.tup xs) → H10 c = some (.tup xs) := fun c xs e => allk c _ e (fun _ z => by cases z) (fun _ z => by cases z)
          obtain ⟨nx6, exN6, rel6⟩ := id d6
          have exN7 := o7 _ _ (ne_of exN6 eL6 (by intro z; cases z)) exN6
          have exN8 := o8 _ _ (ne_of exN7 eR7 (by intro z; cases z)) exN7
          have exN10 := o10 _ _ (ne_of (sC8 _ _ exN8) (sC8 _ _ eH8) (by intro z; cases z)) (sC8 _ _ exN8)
          have tup6 : ∀ c xs, H6 c = some (.tup xs) → H10 c = some (.tup xs) := fun c xs e => by
            have q7 := o7 _ _ (ne_of e eL6 (by intro z; cases z)) e
            have q8 := sC8 _ _ (o8 _ _ (ne_of q7 eR7 (by intro z; cases z)) q7)
            exact o10 _ _ (ne_of q8 (sC8 _ _ eH8) (by intro z; cases z)) q8
          have eN10 : NDict P w H10 A.NM (nmK S.ns ++ [(((l.map fun o : Nat => (o : Int)), (r.map fun o : Nat => (o : Int))), nV S.N)]) := d6.mono (fun o e => by rw [exN6] at e; rw [← e]; exact exN10) tup6
          have at10 : At P w K A U (S.push l r) H10 := by
            refine ⟨h5.lay.of fun a C dx fs e => allk _ _ e (fun _ z => by cases z) (fun _ z => by cases z), ⟨rows_push (H := H5) (o10 _ _ h.di.lh (sC8 _ _ eL8)) lL oL tupk (tupk _ _ e1), rows_push (H := H5) (o10 _ _ h.di.rh (sC8 _ _ eR8)) lR oR tupk (tupk _ _ e2), by rw [hhL_push h.wf]; exact eH10, by rw [nmK_push h.wf]; exact eN10⟩,
              ⟨allk _ _ h5.bk.al (fun _ z => by cases z) (fun _ z => by cases z), allk _ _ h5.bk.si (fun _ z => by cases z) (fun _ z => by cases z), allk _ _ h5.bk.pl (fun _ z => by cases z) (fun _ z => by cases z), allk _ _ h5.bk.nu (fun _ z => by cases z) (fun _ z => by cases z), allk _ _ h5.bk.md (fun _ z => by cases z) (fun _ z => by cases z), allk _ _ h5.bk.st (fun _ z => by cases z) (fun _ z => by cases z), fun f z m => ?_, fun f z m => ?_⟩, h.di, wf'⟩
            · obtain ⟨dx, e, ok⟩ := h5.bk.dn f z m
              exact ⟨dx, allk _ _ e (fun _ z => by cases z) (fun _ z => by cases z), ok⟩
            · obtain ⟨dx, e, ok⟩ := h5.bk.ds f z m
              exact ⟨dx, allk _ _ e (fun _ z => by cases z) (fun _ z => by cases z), ok⟩
          have keep : Keep A H H10 := fun c o e n => all c o (sA _ _ e) (fun q => n (by rw [q]; simp [Ad.mut])) (fun q => n (by rw [q]; simp [Ad.mut])) (fun q => n (by rw [q]; simp [Ad.mut])) (fun q => n (by rw [q]; simp [Ad.mut]))
          have key10 : KeyAt H10 b ((l.map fun o : Nat => (o : Int)), (r.map fun o : Nat => (o : Int))) := key.mono tupk
          exact ⟨_, rfl, A.yd, _, A.yx, _, _, rfl, at10.lay.yd, t_cls_Yard T, t_no_Yard__numbers T, rfl, _, rfl, A.NM, b, _, _, nV S.N, rfl, rfl, eN10, key10, by rw [valV_snoc _ _ _ _ ev, if_pos rfl], kk H10 at10 keep⟩
end
end K45
end
section
set_option Elab.async false
set_option linter.all false
set_option maxRecDepth 100000
set_option maxHeartbeats 4000000
namespace K45
open PySem PySem.Spec PyProof.Rows L2
open SG (Dy redu Plain sc Gs Un UnOk Wf Ext gv lf rt optI Nd InC Le)
/-! ### order.py -/
noncomputable def leB (x y : SG.G) : Bool := @decide (Le x y) (Classical.propDecidable _)
theorem leB_iff {x y : SG.G} : leB x y = true ↔ Le x y := by unfold leB; exact @decide_eq_true_iff _ (Classical.propDecidable _)
theorem At.fresh {P : Program} {w : World} {K : PySem.W.Frag} {A : Ad} {U : Un} {S : Gs} {H : Hp} (h : At P w K A U S H) {c : Addr} (hc : H c = none) : c ∉ A.mut := fun m => by
  have : H c ≠ none := by
    simp only [Ad.mut, List.mem_cons, List.not_mem_nil, or_false] at m
    obtain ⟨nx, exn, _⟩ := h.yb.NM
    rcases m with rfl | rfl | rfl | rfl | rfl | rfl | rfl | rfl | rfl | rfl
    · obtain ⟨ts, e, _⟩ := h.yb.L; rw [e]; simp
    · obtain ⟨ts, e, _⟩ := h.yb.R; rw [e]; simp
    · rw [h.yb.HH]; simp
    · rw [exn]; simp
    · rw [h.bk.al]; simp
    · rw [h.bk.si]; simp
    · rw [h.bk.pl]; simp
    · rw [h.bk.nu]; simp
    · rw [h.bk.md]; simp
    · rw [h.bk.st]; simp
  exact this hc
theorem At.new {P : Program} {w : World} {K : PySem.W.Frag} {A : Ad} {U : Un} {S : Gs} {H : Hp} (h : At P w K A U S H) {c : Addr} (hc : H c = none) (o : HO) : At P w K A U S (upd H c o) ∧ Keep A H (upd H c o) := ⟨h.same (same_upd hc), Keep.same (same_upd hc)⟩
theorem nV_get {l : List Nat} {i : Nat} {x : V} (h : (l.map nV)[i]? = some x) : ∃ o, l[i]? = some o ∧ x = nV o := by
  rw [List.getElem?_map] at h
  cases e : l[i]? with
  | none => rw [e] at h; cases h
  | some o => rw [e] at h; exact ⟨o, rfl, (Option.some.inj h).symm⟩
theorem leB_true {x y : SG.G} (h : Le x y) : leB x y = true := leB_iff.mpr h
theorem leB_false {x y : SG.G} (h : ¬ Le x y) : leB x y = false := by
  cases e : leB x y
  · rfl
  · exact absurd (leB_iff.mp e) h
theorem putK_id {κ : Type} [DecidableEq κ] {kvs : List (κ × V)} {k : κ} {v : V} (h : ∀ e ∈ kvs, e.1 = k → e.2 = v) (there : (valV kvs k).isSome = true) : putK kvs k v = kvs := by
  unfold putK
  rw [valV_any k kvs, there, if_pos rfl]
  conv => rhs; rw [← List.map_id kvs]
  refine List.map_congr_left fun e he => ?_
  by_cases q : e.1 = k
  · rw [if_pos q, ← h e he q]
    rfl
  · rw [if_neg q]
    rfl
abbrev withAl (S : Gs) (al : List ((Nat × Nat) × Bool)) : Gs := { S with al := al }
section
variable (P : Program) (w : World) (K : PySem.W.Frag)
def spPr (get val : Ad → Addr) : Sp := fun vs H Q _ => ∃ (A : Ad) (U : Un) (S : Gs), vs = [.ref (get A)] ∧ At P w K A U S H ∧ Q (.ref (val A)) H
/-- the first game at least the second one -/
def spAl (n : Nat) : Sp := fun vs H Q _ => ∃ (A : Ad) (U : Un) (S : Gs) (i j : Nat), vs = [.ref A.od, nV i, nV j] ∧ At P w K A U S H ∧ UnOk U ∧ i < S.N ∧ j < S.N ∧ (InC S i ∨ InC S j) ∧ SG.ht (S.g i) + SG.ht (S.g j) < n ∧
  ∀ al H', At P w K A U (withAl S al) H' → Keep A H H' → Q (.bl (leB (S.g j) (S.g i))) H'
end
section
variable {P : Program} {w : World} {K : PySem.W.Frag} {mg : Str → Option Value} {base : Heap} (T : Tx K mg)
include T
theorem p_Order_yard : Prp P w K mg base 1 (He.ga K "Order") "yard" (spPr P w K Ad.od Ad.yd) := by
  refine prp_by (t_cls_Order T) (t_pr_Order_yard T) (t_gt_Order_yard T) sc_Order_yard (fun vs H Q E h => ?_) (fun _ _ _ _ _ _ us hl => match us, hl with | [_], _ => rfl) (fun cdv A outer s H vs Q E hr h => ?_)
  · obtain ⟨A, U, S, rfl, _⟩ := h
    rfl
  · obtain ⟨A, U, S, rfl, h, k⟩ := h
    exact ⟨_, pss_one (ps_ret (pe_fld (pv 0) rfl)), _, rfl, A.od, _, A.ox, _, _, rfl, h.lay.od, t_cls_Order T, t_no_Order__yard T, rfl, k⟩
theorem m_reckon (n : Nat) (ih : C8.Met P w K mg base (2 * n + 4) (He.ga K "Order") "at_least" (spAl P w K n) []) : C8.Met P w K mg base (2 * n + 5) (He.ga K "Order") "_reckon" (spAl P w K (n + 1)) [] := by
  refine met_by (t_cls_Order T) (t_me_Order__reckon T) (t_fn_Orderreckon T) sc_Orderreckon (fun vs H Q E h => ?_) (fun _ _ _ _ _ _ us hl => match us, hl with | [_, _, _], _ => rfl) (fun cdv A0 outer s H vs Q E hr h => ?_)
  · obtain ⟨A, U, S, i, j, rfl, _⟩ := h
    rfl
  · obtain ⟨A, U, S, i, j, rfl, h, ok, hi, hj, hc, hh, k⟩ := h
    have wy := h.wf.wy
    refine ⟨_, pss_cons (ps_for PassesOwn.never rfl (pi_list (C8.pe_mt (m_rights T) hr (by omega) (pe_pr (p_Order_yard T) hr (by omega) (pv 0)) (pa_cons (pv 1) pa_nil))) (pg_name (i := 3) sc_Orderreckon.nd rfl (.inl rfl))
        (pss_one (ps_if (pt_val (C8.pe_mt ih hr (by omega) (pv 0) (pa_cons (pv 2) (pa_cons (pv 3) pa_nil)))) (pss_one (ps_ret pe_bl)) pss_nil)))
      (pss_cons (ps_for PassesOwn.never rfl (pi_list (C8.pe_mt (m_lefts T) hr (by omega) (pe_pr (p_Order_yard T) hr (by omega) (pv 0)) (pa_cons (pv 2) pa_nil))) (pg_name (i := 4) sc_Orderreckon.nd rfl (.inl rfl))
        (pss_one (ps_if (pt_val (C8.pe_mt ih hr (by omega) (pv 0) (pa_cons (pv 4) (pa_cons (pv 1) pa_nil)))) (pss_one (ps_ret pe_bl)) pss_nil)))
      (pss_one (ps_ret pe_bl))), ?_⟩
    refine ⟨_, rfl, A.od, A.ox, _, rfl, h.lay.od, A, U, S, rfl, h, A.yd, A.yx, _, rfl, h.lay.yd, rfl, _, rfl, A, U, S, i, rfl, h, hi, fun p hp => ?_⟩
    obtain ⟨h0, k0⟩ := h.new hp (.lst ((optI false S.ns i).map nV))
    have n0 := h.fresh hp
    have e0 : (upd H p (.lst ((optI false S.ns i).map nV))) p = some (.lst ((optI false S.ns i).map nV)) := upd_same
    have io : ∀ o ∈ optI false S.ns i, o < S.N ∧ SG.ht (S.g o) < SG.ht (S.g i) := fun o ho => ⟨(SG.optI_lt wy hi ho).2, SG.optI_ht wy hi ho⟩
    have jo : ∀ o ∈ optI true S.ns j, o < S.N ∧ SG.ht (S.g o) < SG.ht (S.g j) := fun o ho => ⟨(SG.optI_lt wy hj ho).2, SG.optI_ht wy hj ho⟩
    refine ⟨p, rfl, ⟨_, SqL.of e0⟩, for_list (K := K) (a := p) (xs := (optI false S.ns i).map nV) (fun m σ H2 => ∃ al y, σ = [some (.ref A.od), some (nV i), some (nV j), y, none] ∧ At P w K A U (withAl S al) H2 ∧ Keep A (upd H p (.lst ((optI false S.ns i).map nV))) H2 ∧ ∀ m' r, m' < m → (optI false S.ns i)[m']? = some r → ¬ Le (S.g r) (S.g j))
      ⟨S.al, none, rfl, h0, Keep.refl _ _, fun m' r hm => (by omega)⟩ (fun m σ H2 _ ⟨_, _, _, _, q, _⟩ => SqL.of (q _ _ e0 n0)) ?_ ?_⟩
    · rintro m x σ H2 hm ⟨al, y, rfl, h2, q2, b2⟩
      obtain ⟨o, ho, rfl⟩ := nV_get hm
      have mo := List.mem_of_getElem? ho
      refine ⟨_, rfl, A.od, A.ox, _, rfl, h2.lay.od, rfl, _, rfl, _, rfl, A, U, withAl S al, j, o, rfl, h2, ok, hj, (io o mo).1, ?_, ?_, fun al' H3 h3 q3 => ?_⟩
      · exact hc.symm.imp id fun c => (h.wf.inC c).2.2.1 false o mo
      · have := (io o mo).2
        show SG.ht (S.g j) + SG.ht (S.g o) < n
        omega
      · refine ⟨_, rfl, ?_⟩
        by_cases c : Le (S.g o) (S.g j)
        · rw [show leB ((withAl S al).g o) ((withAl S al).g j) = true from leB_true c]
          refine iteT ?_
          have := k al' H3 h3 (k0.trans (q2.trans q3))
          rwa [leB_false (fun z => SG.le_r z (show S.g o ∈ (S.g i).right by rw [wy.right hi]; exact List.mem_map.mpr ⟨o, mo, rfl⟩) c)] at this
        · rw [show leB ((withAl S al).g o) ((withAl S al).g j) = false from leB_false c]
          refine iteF ⟨al', _, rfl, h3, q2.trans q3, fun m' r hm' hr' => ?_⟩
          by_cases e : m' = m
          · rw [e, ho] at hr'
            rwa [← Option.some.inj hr']
          · exact b2 m' r (by omega) hr'
    · rintro σ H2 ⟨al, y, rfl, h2, q2, b2⟩
      rw [List.length_map] at b2
      refine ⟨_, rfl, A.od, A.ox, _, rfl, h2.lay.od, A, U, withAl S al, rfl, h2, A.yd, A.yx, _, rfl, h2.lay.yd, rfl, _, rfl, A, U, withAl S al, j, rfl, h2, hj, fun p2 hp2 => ?_⟩
      obtain ⟨h3, k3⟩ := h2.new hp2 (.lst ((optI true S.ns j).map nV))
      have n3 := h2.fresh hp2
      have e3 : (upd H2 p2 (.lst ((optI true S.ns j).map nV))) p2 = some (.lst ((optI true S.ns j).map nV)) := upd_same
      refine ⟨p2, rfl, ⟨_, SqL.of e3⟩, for_list (K := K) (a := p2) (xs := (optI true S.ns j).map nV) (fun m σ H4 => ∃ al y', σ = [some (.ref A.od), some (nV i), some (nV j), y, y'] ∧ At P w K A U (withAl S al) H4 ∧ Keep A (upd H2 p2 (.lst ((optI true S.ns j).map nV))) H4 ∧ ∀ m' r, m' < m → (optI true S.ns j)[m']? = some r → ¬ Le (S.g i) (S.g r))
        ⟨al, none, rfl, h3, Keep.refl _ _, fun m' r hm => (by omega)⟩ (fun m σ H2 _ ⟨_, _, _, _, q, _⟩ => SqL.of (q _ _ e3 n3)) ?_ ?_⟩
      · rintro m x σ H4 hm ⟨al4, y', rfl, h4, q4, b4⟩
        obtain ⟨o, ho, rfl⟩ := nV_get hm
        have mo := List.mem_of_getElem? ho
        refine ⟨_, rfl, A.od, A.ox, _, rfl, h4.lay.od, rfl, _, rfl, _, rfl, A, U, withAl S al4, o, i, rfl, h4, ok, (jo o mo).1, hi, ?_, ?_, fun al' H5 h5 q5 => ?_⟩
        · exact hc.symm.imp (fun c => (h.wf.inC c).2.2.1 true o mo) id
        · have := (jo o mo).2
          show SG.ht (S.g o) + SG.ht (S.g i) < n
          omega
        · refine ⟨_, rfl, ?_⟩
          by_cases c : Le (S.g i) (S.g o)
          · rw [show leB ((withAl S al4).g i) ((withAl S al4).g o) = true from leB_true c]
            refine iteT ?_
            have := k al' H5 h5 (k0.trans (q2.trans (k3.trans (q4.trans q5))))
            rwa [leB_false (fun z => SG.le_l z (show S.g o ∈ (S.g j).left by rw [wy.left hj]; exact List.mem_map.mpr ⟨o, mo, rfl⟩) c)] at this
          · rw [show leB ((withAl S al4).g i) ((withAl S al4).g o) = false from leB_false c]
            refine iteF ⟨al', _, rfl, h5, q4.trans q5, fun m' r hm' hr' => ?_⟩
            by_cases e : m' = m
            · rw [e, ho] at hr'
              rwa [← Option.some.inj hr']
            · exact b4 m' r (by omega) hr'
      · rintro σ H4 ⟨al4, y', rfl, h4, q4, b4⟩
        rw [List.length_map] at b4
        have := k al4 H4 h4 (k0.trans (q2.trans (k3.trans q4)))
        rwa [leB_true (SG.le_mk (fun x hx z => by
          rw [wy.left hj] at hx
          obtain ⟨o, ho, rfl⟩ := List.mem_map.mp hx
          obtain ⟨m, hm, e⟩ := List.mem_iff_getElem.mp ho
          exact b4 m o hm (by rw [← e]; exact List.getElem?_eq_getElem hm) z) fun x hx z => by
          rw [wy.right hi] at hx
          obtain ⟨o, ho, rfl⟩ := List.mem_map.mp hx
          obtain ⟨m, hm, e⟩ := List.mem_iff_getElem.mp ho
          exact b2 m o hm (by rw [← e]; exact List.getElem?_eq_getElem hm) z)] at this
theorem m_at_least_step (n : Nat) (ih : C8.Met P w K mg base (2 * n + 5) (He.ga K "Order") "_reckon" (spAl P w K (n + 1)) []) : C8.Met P w K mg base (2 * (n + 1) + 4) (He.ga K "Order") "at_least" (spAl P w K (n + 1)) [] := by
  refine met_by (t_cls_Order T) (t_me_Order_at_least T) (t_fn_Order_at_least T) sc_Order_at_least (fun vs H Q E h => ?_) (fun _ _ _ _ _ _ us hl => match us, hl with | [_, _, _], _ => rfl) (fun cdv A0 outer s H vs Q E hr h => ?_)
  · obtain ⟨A, U, S, i, j, rfl, _⟩ := h
    rfl
  · obtain ⟨A, U, S, i, j, rfl, h, ok, hi, hj, hc, hh, k⟩ := h
    have hu := hu_of hr
    refine ⟨_, pss_cons (ps_expr (C8.pe_mt (m_height T) hr (by omega) (pe_pr (p_Order_yard T) hr (by omega) (pv 0)) (pa_cons (pv 1) pa_nil)))
      (pss_cons (ps_expr (C8.pe_mt (m_height T) hr (by omega) (pe_pr (p_Order_yard T) hr (by omega) (pv 0)) (pa_cons (pv 2) pa_nil)))
      (pss_cons (ps_if (pt_cmp (pc_dnotin hu (pe_tup (pa_cons (pv 1) (pa_cons (pv 2) pa_nil))) (pe_fld (pv 0) rfl)))
        (pss_one (ps_dput hu (pe_fld (pv 0) rfl) (pe_tup (pa_cons (pv 1) (pa_cons (pv 2) pa_nil))) (C8.pe_mt ih hr (by omega) (pv 0) (pa_cons (pv 1) (pa_cons (pv 2) pa_nil))) rfl)) pss_nil)
      (pss_one (ps_ret (pe_dget hu (pe_fld (pv 0) rfl) (pe_tup (pa_cons (pv 1) (pa_cons (pv 2) pa_nil))) (fun _ _ => rfl)))))), ?_⟩
    refine ⟨_, rfl, A.od, A.ox, _, rfl, h.lay.od, A, U, S, rfl, h, A.yd, A.yx, _, rfl, h.lay.yd, rfl, _, rfl, A, U, S, i, rfl, h, hi, ?_⟩
    refine ⟨_, rfl, A.od, A.ox, _, rfl, h.lay.od, A, U, S, rfl, h, A.yd, A.yx, _, rfl, h.lay.yd, rfl, _, rfl, A, U, S, j, rfl, h, hj, ?_⟩
    refine ⟨_, rfl, _, rfl, by show 2 ≤ sizeLine; decide, fun t ht => ?_⟩
    obtain ⟨h1, k1⟩ := h.new ht (.tup [nV i, nV j])
    have et : (upd H t (.tup [nV i, nV j])) t = some (.tup (([kN i, kN j] : List Key).map kV)) := upd_same
    refine ⟨_, rfl, A.od, _, A.ox, _, _, rfl, h1.lay.od, t_cls_Order T, t_no_Order__at_least T, rfl, A.AL, _, rfl, DGet.t h1.bk.al et, _, rfl, ?_⟩
    cases ev : valV (S.al.map alE) [kN i, kN j] with
    | some v =>
      obtain ⟨b, hb, rfl⟩ := val_some (f := alE) (kf := fun e => [kN e.1, kN e.2]) (vf := V.bl) (a := (i, j)) (fun _ => rfl) alK_inj ev
      refine iteF ?_
      refine ⟨_, rfl, A.od, _, A.ox, _, _, rfl, h1.lay.od, t_cls_Order T, t_no_Order__at_least T, rfl, _, rfl, _, rfl, by show 2 ≤ sizeLine; decide, fun t2 ht2 => ?_⟩
      obtain ⟨h2, k2⟩ := h1.new ht2 (.tup [nV i, nV j])
      have et2 : (upd (upd H t (.tup [nV i, nV j])) t2 (.tup [nV i, nV j])) t2 = some (.tup (([kN i, kN j] : List Key).map kV)) := upd_same
      refine ⟨A.AL, .bl b, rfl, ?_, ?_⟩
      · rw [← ev]
        exact DGet.t h2.bk.al et2
      · have := k S.al _ h2 (k1.trans k2)
        have q := (h.wf.al i j b hb).2.2.1
        have e : b = leB (S.g j) (S.g i) := by
          cases b
          · exact (leB_false fun z => absurd (q.mpr z) (by decide)).symm
          · exact (leB_true (q.mp rfl)).symm
        rw [e]
        exact this
    | none =>
      refine iteT ?_
      refine ⟨_, rfl, A.od, A.ox, _, rfl, h1.lay.od, rfl, _, rfl, _, rfl, A, U, S, i, j, rfl, h1, ok, hi, hj, hc, hh, fun al' H2 h2 k2 => ?_⟩
      refine ⟨_, rfl, A.od, _, A.ox, _, _, rfl, h2.lay.od, t_cls_Order T, t_no_Order__at_least T, rfl, _, rfl, _, rfl, by show 2 ≤ sizeLine; decide, fun t2 ht2 => ?_⟩
      obtain ⟨h3, k3⟩ := h2.new ht2 (.tup [nV i, nV j])
      have et2 : (upd H2 t2 (.tup [nV i, nV j])) t2 = some (.tup (([kN i, kN j] : List Key).map kV)) := upd_same
      have small := SG.al_small h3.wf ok
      refine ⟨A.AL, _, rfl, DPut.t h3.bk.al et2 (by rw [List.length_map, sizeLine_eq]; omega), ?_⟩
      -- the book behind the store
      have main : ∃ al3, At P w K A U (withAl S al3) (upd (upd H2 t2 (.tup [nV i, nV j])) A.AL (.dT (putK ((withAl S al').al.map alE) [kN i, kN j] (.bl (leB (S.g j) (S.g i)))))) ∧ Keep A (upd H2 t2 (.tup [nV i, nV j])) (upd (upd H2 t2 (.tup [nV i, nV j])) A.AL (.dT (putK ((withAl S al').al.map alE) [kN i, kN j] (.bl (leB (S.g j) (S.g i)))))) ∧
          valV (al3.map alE) [kN i, kN j] = some (.bl (leB (S.g j) (S.g i))) := by
        have keep := Keep.of_ne (A := A) (x := A.AL) (by simp [Ad.mut]) fun b o n e => (upd_ne (o := .dT (putK ((withAl S al').al.map alE) [kN i, kN j] (.bl (leB (S.g j) (S.g i))))) n).trans (show (upd H2 t2 (.tup [nV i, nV j])) b = some o from e)
        cases ev2 : valV (al'.map alE) [kN i, kN j] with
        | some v =>
          have val : ∀ e ∈ al'.map alE, e.1 = [kN i, kN j] → e.2 = .bl (leB (S.g j) (S.g i)) := fun e he q => by
            obtain ⟨⟨⟨i', j'⟩, b⟩, m, rfl⟩ := List.mem_map.mp he
            have := alK_inj (i', j') (i, j) q
            injection this with e1 e2
            subst e1 e2
            have q := (h3.wf.al i' j' b m).2.2.1
            show V.bl b = _
            congr 1
            cases b
            · exact (leB_false fun z => absurd (q.mpr z) (by decide)).symm
            · exact (leB_true (q.mp rfl)).symm
          have same := putK_id val (by rw [ev2]; rfl)
          obtain ⟨b, hb, rfl⟩ := val_some (f := alE) (kf := fun e => [kN e.1, kN e.2]) (vf := V.bl) (a := (i, j)) (fun _ => rfl) alK_inj ev2
          refine ⟨al', h3.same fun b o e => ?_, keep, ?_⟩
          · by_cases q : b = A.AL
            · rw [q] at e ⊢
              rw [h3.bk.al] at e
              rw [← e]
              show upd _ _ _ _ = _
              rw [upd_same]
              exact congrArg (fun z => some (HO.dT z)) same
            · exact (upd_ne q).trans e
          · rw [ev2]
            exact congrArg some (val (alE ((i, j), b)) (List.mem_map.mpr ⟨_, hb, rfl⟩) rfl)
        | none =>
          have hn : (i, j) ∉ (withAl S al').al.map (·.1) := val_none (f := alE) (kf := fun e => [kN e.1, kN e.2]) (vf := V.bl) (fun _ => rfl) ev2
          obtain ⟨w4, _⟩ := SG.wf_al h3.wf (b := leB (S.g j) (S.g i)) hi hj leB_iff hc hn
          have ep := putK_new (V.bl (leB (S.g j) (S.g i))) ev2
          refine ⟨al' ++ [((i, j), leB (S.g j) (S.g i))], h3.al' w4 ?_ (fun c o n e => (upd_ne n).trans e), keep, ?_⟩
          · rw [upd_same]
            show some (HO.dT (putK (al'.map alE) [kN i, kN j] (.bl (leB (S.g j) (S.g i))))) = some (HO.dT ((al' ++ [((i, j), leB (S.g j) (S.g i))]).map alE))
            rw [ep, List.map_append]
            rfl
          · rw [List.map_append]
            show valV (al'.map alE ++ [([kN i, kN j], V.bl (leB (S.g j) (S.g i)))]) [kN i, kN j] = _
            rw [valV_snoc _ _ _ _ ev2, if_pos rfl]
      obtain ⟨al3, h4, k4, ev3⟩ := main
      generalize upd (upd H2 t2 (.tup [nV i, nV j])) A.AL (.dT (putK ((withAl S al').al.map alE) [kN i, kN j] (.bl (leB (S.g j) (S.g i))))) = H4 at h4 k4
      refine ⟨_, rfl, A.od, _, A.ox, _, _, rfl, h4.lay.od, t_cls_Order T, t_no_Order__at_least T, rfl, _, rfl, _, rfl, by show 2 ≤ sizeLine; decide, fun t3 ht3 => ?_⟩
      obtain ⟨h5, k5⟩ := h4.new ht3 (.tup [nV i, nV j])
      have et3 : (upd H4 t3 (.tup [nV i, nV j])) t3 = some (.tup (([kN i, kN j] : List Key).map kV)) := upd_same
      refine ⟨A.AL, .bl (leB (S.g j) (S.g i)), rfl, ?_, k al3 _ h5 (k1.trans (k2.trans (k3.trans (k4.trans k5))))⟩
      rw [← ev3]
      exact DGet.t h5.bk.al et3
theorem m_at_least : ∀ n : Nat, C8.Met P w K mg base (2 * n + 4) (He.ga K "Order") "at_least" (spAl P w K n) []
  | 0 => by
    refine met_by (k := 3) (t_cls_Order T) (t_me_Order_at_least T) (t_fn_Order_at_least T) sc_Order_at_least (fun vs H Q E h => ?_) (fun _ _ _ _ _ _ us hl => match us, hl with | [_, _, _], _ => rfl) (fun cdv A0 outer s H vs Q E hr h => ?_)
    · obtain ⟨A, U, S, i, j, rfl, _⟩ := h
      rfl
    · obtain ⟨A, U, S, i, j, rfl, h, ok, hi, hj, hc, hh, k⟩ := h
      exact absurd hh (Nat.not_lt_zero _)
  | n + 1 => m_at_least_step T n (m_reckon T n (m_at_least n))
/-- one step: at_most -/
def spAm (P : Program) (w : World) (K : PySem.W.Frag) (n : Nat) : Sp := fun vs H Q _ => ∃ (A : Ad) (U : Un) (S : Gs) (i j : Nat), vs = [.ref A.od, nV i, nV j] ∧ At P w K A U S H ∧ UnOk U ∧ i < S.N ∧ j < S.N ∧ (InC S i ∨ InC S j) ∧ SG.ht (S.g i) + SG.ht (S.g j) < n ∧
  ∀ al H', At P w K A U (withAl S al) H' → Keep A H H' → Q (.bl (leB (S.g i) (S.g j))) H'
theorem m_at_most (n : Nat) : C8.Met P w K mg base (2 * n + 5) (He.ga K "Order") "at_most" (spAm P w K n) [] := by
  refine met_by (t_cls_Order T) (t_me_Order_at_most T) (t_fn_Order_at_most T) sc_Order_at_most (fun vs H Q E h => ?_) (fun _ _ _ _ _ _ us hl => match us, hl with | [_, _, _], _ => rfl) (fun cdv A0 outer s H vs Q E hr h => ?_)
  · obtain ⟨A, U, S, i, j, rfl, _⟩ := h
    rfl
  · obtain ⟨A, U, S, i, j, rfl, h, ok, hi, hj, hc, hh, k⟩ := h
    exact ⟨_, pss_one (ps_ret (C8.pe_mt (m_at_least T n) hr (by omega) (pv 0) (pa_cons (pv 2) (pa_cons (pv 1) pa_nil)))), _, rfl, A.od, A.ox, _, rfl, h.lay.od, rfl, _, rfl, _, rfl, A, U, S, j, i, rfl, h, ok, hj, hi, hc.symm, by omega, k⟩
end
end K45
end
section
set_option Elab.async false
set_option linter.all false
set_option maxRecDepth 100000
set_option maxHeartbeats 4000000
namespace K45
open PySem PySem.Spec PyProof.Rows L2
open SG (Dy redu Plain sc Gs Un UnOk Wf Ext gv lf rt optI Nd InC Le leS)
/-! ### forms.py: steps -/
/-- a list of one's own, changed -/
theorem At.lst' {P : Program} {w : World} {K : PySem.W.Frag} {A : Ad} {U : Un} {S : Gs} {H : Hp} (h : At P w K A U S H) {D : Addr} {xs : List V} (hD : H D = some (.lst xs)) (n : D ∉ A.mut) (ys : List V) : At P w K A U S (upd H D (.lst ys)) := by
  have k : ∀ b o, H b = some o → (∀ xs, o ≠ .lst xs) → upd H D (.lst ys) b = some o := fun b o e ne => (upd_ne fun q => ne xs (Option.some.inj ((q ▸ e).symm.trans hD))).trans e
  have m : ∀ b, b ∈ A.mut → ∀ o, H b = some o → upd H D (.lst ys) b = some o := fun b hb o e => (upd_ne fun q => n (by rw [← q]; exact hb)).trans e
  refine ⟨h.lay.of fun a C dx fs e => k _ _ e (fun _ z => by cases z), h.yb.of (fun _ e => m _ (by simp [Ad.mut]) _ e) (fun _ e => m _ (by simp [Ad.mut]) _ e) (fun _ e => m _ (by simp [Ad.mut]) _ e) (fun _ e => m _ (by simp [Ad.mut]) _ e) (fun _ _ e => k _ _ e (fun _ z => by cases z)),
    ⟨m _ (by simp [Ad.mut]) _ h.bk.al, m _ (by simp [Ad.mut]) _ h.bk.si, m _ (by simp [Ad.mut]) _ h.bk.pl, m _ (by simp [Ad.mut]) _ h.bk.nu, m _ (by simp [Ad.mut]) _ h.bk.md, m _ (by simp [Ad.mut]) _ h.bk.st, fun f z q => ?_, fun f z q => ?_⟩, h.di, h.wf⟩
  · obtain ⟨dx, e, ok⟩ := h.bk.dn f z q
    exact ⟨dx, k _ _ e (fun _ z => by cases z), ok⟩
  · obtain ⟨dx, e, ok⟩ := h.bk.ds f z q
    exact ⟨dx, k _ _ e (fun _ z => by cases z), ok⟩
theorem nV_ne (z o : Nat) : (!decide (nV z = nV o)) = decide (z ≠ o) := by
  by_cases c : z = o
  · rw [decide_eq_true (show nV z = nV o by rw [c]), decide_eq_false (fun q => q c)]
    rfl
  · rw [decide_eq_false (fun q : nV z = nV o => c (by have := V.int.inj q; omega)), decide_eq_true c]
    rfl
theorem keep_lst {A : Ad} {H0 H : Hp} {D : Addr} {o : HO} (h : Keep A H0 H) (hD : H0 D = none) : Keep A H0 (upd H D o) := fun b q e n => (upd_ne (ne_of_none e hD)).trans (h b q e n)
/-- x at least as good as y for a side -/
noncomputable def asB (S : Gs) (s : Bool) (x y : Nat) : Bool := if s then leB (S.g y) (S.g x) else leB (S.g x) (S.g y)
theorem asB_iff {S : Gs} {s : Bool} {x y : Nat} : asB S s x y = true ↔ leS s (S.g y) (S.g x) := by
  cases s
  · exact leB_iff
  · exact leB_iff
inductive Stp
  | drop (s : Bool) (o : Nat)
  | back (s : Bool) (o a : Nat)
def Stp.v : Stp → List V
  | .drop s o => [.str "drop", .str (sdS s), nV o]
  | .back s o a => [.str "back", .str (sdS s), nV o, nV a]
def StL (H : Hp) (p : Addr) (sts : List Stp) : Prop := ∃ ts : List Addr, H p = some (.lst (ts.map V.ref)) ∧ Paired (fun t st => H t = some (.tup (Stp.v st))) ts sts
theorem At.nmut {P : Program} {w : World} {K : PySem.W.Frag} {A : Ad} {U : Un} {S : Gs} {H : Hp} (h : At P w K A U S H) {c : Addr} {o : HO} (e : H c = some o) (n1 : ∀ x, o ≠ .lst x) (n2 : ∀ x, o ≠ .dK x) (n3 : ∀ x, o ≠ .dT x) (n4 : ∀ x, o ≠ .ext x) : c ∉ A.mut := fun m => by
  simp only [Ad.mut, List.mem_cons, List.not_mem_nil, or_false] at m
  obtain ⟨nx, exn, _⟩ := h.yb.NM
  rcases m with rfl | rfl | rfl | rfl | rfl | rfl | rfl | rfl | rfl | rfl
  · obtain ⟨ts, q, _⟩ := h.yb.L; exact n1 _ (Option.some.inj (e.symm.trans q))
  · obtain ⟨ts, q, _⟩ := h.yb.R; exact n1 _ (Option.some.inj (e.symm.trans q))
  · exact n1 _ (Option.some.inj (e.symm.trans h.yb.HH))
  · exact n4 _ (Option.some.inj (e.symm.trans exn))
  · exact n3 _ (Option.some.inj (e.symm.trans h.bk.al))
  · exact n2 _ (Option.some.inj (e.symm.trans h.bk.si))
  · exact n3 _ (Option.some.inj (e.symm.trans h.bk.pl))
  · exact n2 _ (Option.some.inj (e.symm.trans h.bk.nu))
  · exact n3 _ (Option.some.inj (e.symm.trans h.bk.md))
  · exact n3 _ (Option.some.inj (e.symm.trans h.bk.st))
theorem StL.of {H H' : Hp} {p : Addr} {sts : List Stp} (h : StL H p sts) (hp : ∀ o, H p = some o → H' p = some o) (ht : ∀ c xs, H c = some (.tup xs) → H' c = some (.tup xs)) : StL H' p sts :=
  let ⟨ts, e, r⟩ := h
  ⟨ts, hp _ e, Paired.mapP r fun _ _ z => ht _ _ z⟩
theorem At.tupK {P : Program} {w : World} {K : PySem.W.Frag} {A : Ad} {U : Un} {S : Gs} {H H' : Hp} (h : At P w K A U S H) (k : Keep A H H') : ∀ c xs, H c = some (.tup xs) → H' c = some (.tup xs) := fun c xs e =>
  k _ _ e (h.nmut e (fun _ z => by cases z) (fun _ z => by cases z) (fun _ z => by cases z) (fun _ z => by cases z))
theorem StL.snoc {H : Hp} {p t : Addr} {sts : List Stp} {st : Stp} {ts : List Addr} (e : H p = some (.lst (ts.map V.ref ++ [.ref t]))) (r : Paired (fun t st => H t = some (.tup (Stp.v st))) ts sts) (et : H t = some (.tup st.v)) : StL H p (sts ++ [st]) :=
  ⟨ts ++ [t], by rw [List.map_append]; exact e, Paired.snoc r et⟩
theorem paired_len {α β : Type} {R : α → β → Prop} {l : List α} {m : List β} (h : Paired R l m) : l.length = m.length := Paired.length h
noncomputable def dropsS (S : Gs) (F : Nat) (s : Bool) : List Stp := ((optI s S.ns F).filter fun o => (optI s S.ns F).any fun x => decide (x ≠ o) && asB S s x o).map (.drop s)
noncomputable def backsS (S : Gs) (F : Nat) (s : Bool) : List Stp := (optI s S.ns F).flatMap fun o => ((optI (!s) S.ns o).filter fun a => asB S (!s) a F).map (.back s o)
noncomputable def dropsOf (S : Gs) (F : Nat) : List Stp := dropsS S F true ++ dropsS S F false
noncomputable def backsOf (S : Gs) (F : Nat) : List Stp := backsS S F true ++ backsS S F false
def spOther : Sp := fun vs H Q _ => ∃ s : Bool, vs = [.str (sdS s)] ∧ Q (.str (sdS (!s))) H
section
variable (P : Program) (w : World) (K : PySem.W.Frag)
def spAs : Sp := fun vs H Q _ => ∃ (A : Ad) (U : Un) (S : Gs) (s : Bool) (i j : Nat), vs = [.ref A.fm, .str (sdS s), nV i, nV j] ∧ At P w K A U S H ∧ UnOk U ∧ i < S.N ∧ j < S.N ∧ (InC S i ∨ InC S j) ∧ SG.ht (S.g i) ≤ 16 ∧ SG.ht (S.g j) ≤ 16 ∧
  ∀ al H', At P w K A U (withAl S al) H' → Keep A H H' → Q (.bl (asB S s i j)) H'
/-- a form whose steps are asked: its options are canonical -/
structure FormOk (S : Gs) (F : Nat) : Prop where
  lt : F < S.N
  c : ∀ s, ∀ o ∈ optI s S.ns F, InC S o
  ht : SG.ht (S.g F) ≤ 16
def spDrops : Sp := fun vs H Q _ => ∃ (A : Ad) (U : Un) (S : Gs) (F : Nat), vs = [.ref A.fm, nV F] ∧ At P w K A U S H ∧ UnOk U ∧ FormOk S F ∧
  ∀ al H' p, At P w K A U (withAl S al) H' → Keep A H H' → H p = none → p ∉ A.mut → StL H' p (dropsOf S F) → Q (.ref p) H'
def spBacks : Sp := fun vs H Q _ => ∃ (A : Ad) (U : Un) (S : Gs) (F : Nat), vs = [.ref A.fm, nV F] ∧ At P w K A U S H ∧ UnOk U ∧ FormOk S F ∧
  ∀ al H' p, At P w K A U (withAl S al) H' → Keep A H H' → H p = none → p ∉ A.mut → StL H' p (backsOf S F) → Q (.ref p) H'
end
theorem sc_drops : FnScope ["self", "game", "found", "side", "options", "option", "other"] ["self", "game"] (defScope s_Formsdrops) := ⟨rfl, rfl, rfl, by decide +kernel, rfl, by decide +kernel, by decide +kernel⟩
theorem FormOk.o {U : Un} {S : Gs} {F o : Nat} {s : Bool} (f : FormOk S F) (wf : Wf U S) (ho : o ∈ optI s S.ns F) : o < S.N ∧ SG.ht (S.g o) ≤ 15 := by
  have h1 := SG.optI_ht wf.wy f.lt ho
  have h2 : SG.ht (gv S.ns F) ≤ 16 := f.ht
  exact ⟨(SG.optI_lt wf.wy f.lt ho).2, by show SG.ht (gv S.ns o) ≤ 15; omega⟩
theorem opt_len {U : Un} {S : Gs} (wf : Wf U S) (ok : UnOk U) {F : Nat} (f : FormOk S F) (s : Bool) : (optI s S.ns F).length ≤ 225 := by
  obtain ⟨code, k1, k2⟩ := SG.c_code wf
  have q := SG.classes (n := U.all.length) (SG.rise_nodup (SG.optI_sorted wf.wy f.lt (s := s))) code (fun x hx => k1 x (f.c s x hx)) fun x hx y hy e => k2 x y (f.c s x hx) (f.c s y hy) e
  have := ok.len
  omega
section
variable {P : Program} {w : World} {K : PySem.W.Frag} {mg : Str → Option Value} {base : Heap} (T : Tx K mg)
include T
theorem k_other_side : C8.Cal P w K mg base 1 "other_side" spOther [] := by
  refine cal_by (t_glo_other_side T) (t_fn_other_side T) sc_other_side (fun vs H Q E h => ?_) (fun _ _ _ _ _ _ us hl => match us, hl with | [_], _ => rfl) (fun cdv A outer s H vs Q E hr h => ?_)
  · obtain ⟨s, rfl, _⟩ := h
    rfl
  · obtain ⟨s, rfl, k⟩ := h
    refine ⟨_, pss_cons (ps_if (pt_cmpR op_eq (pv 0) pe_str (nomark _)) (pss_one (ps_ret pe_str)) pss_nil) (pss_one (ps_ret pe_str)), ?_⟩
    refine ⟨_, rfl, rfl, _, rfl, ?_⟩
    rw [str_eq_left]
    cases s
    · exact iteF k
    · exact iteT k
theorem p_Forms_yard : Prp P w K mg base 3 (He.ga K "Forms") "yard" (spPr P w K Ad.fm Ad.yd) := by
  refine prp_by (t_cls_Forms T) (t_pr_Forms_yard T) (t_gt_Forms_yard T) sc_Forms_yard (fun vs H Q E h => ?_) (fun _ _ _ _ _ _ us hl => match us, hl with | [_], _ => rfl) (fun cdv A outer s H vs Q E hr h => ?_)
  · obtain ⟨A, U, S, rfl, _⟩ := h
    rfl
  · obtain ⟨A, U, S, rfl, h, k⟩ := h
    exact ⟨_, pss_one (ps_ret (pe_pr (p_Order_yard T) hr (by decide) (pe_fld (pv 0) rfl))), _, rfl, A.fm, _, A.fx, _, _, rfl, h.lay.fm, t_cls_Forms T, t_no_Forms_order T, rfl, A.od, A.ox, _, rfl, h.lay.od, A, U, S, rfl, h, k⟩
theorem m_as_good : C8.Met P w K mg base 86 (He.ga K "Forms") "_as_good" (spAs P w K) [] := by
  refine met_by (t_cls_Forms T) (t_me_Forms__as_good T) (t_fn_Formsas_good T) sc_Formsas_good (fun vs H Q E h => ?_) (fun _ _ _ _ _ _ us hl => match us, hl with | [_, _, _, _], _ => rfl) (fun cdv A0 outer s H vs Q E hr h => ?_)
  · obtain ⟨A, U, S, s, i, j, rfl, _⟩ := h
    rfl
  · obtain ⟨A, U, S, s, i, j, rfl, h, ok, hi, hj, hc, b1, b2, k⟩ := h
    refine ⟨_, pss_cons (ps_if (pt_cmpR op_eq (pv 1) pe_str (nomark _)) (pss_one (ps_ret (C8.pe_mt (m_at_least T 40) hr (by decide) (pe_fld (pv 0) rfl) (pa_cons (pv 2) (pa_cons (pv 3) pa_nil))))) pss_nil)
      (pss_one (ps_ret (C8.pe_mt (m_at_most T 40) hr (by decide) (pe_fld (pv 0) rfl) (pa_cons (pv 2) (pa_cons (pv 3) pa_nil))))), ?_⟩
    refine ⟨_, rfl, rfl, _, rfl, ?_⟩
    rw [str_eq_left]
    cases s
    · exact iteF ⟨_, rfl, A.fm, _, A.fx, _, _, rfl, h.lay.fm, t_cls_Forms T, t_no_Forms_order T, rfl, A.od, A.ox, _, rfl, h.lay.od, rfl, _, rfl, _, rfl, A, U, S, i, j, rfl, h, ok, hi, hj, hc, by omega, k⟩
    · exact iteT ⟨_, rfl, A.fm, _, A.fx, _, _, rfl, h.lay.fm, t_cls_Forms T, t_no_Forms_order T, rfl, A.od, A.ox, _, rfl, h.lay.od, rfl, _, rfl, _, rfl, A, U, S, i, j, rfl, h, ok, hi, hj, hc, by omega, k⟩
theorem m_drops : C8.Met P w K mg base 87 (He.ga K "Forms") "_drops" (spDrops P w K) [] := by
  refine met_by (t_cls_Forms T) (t_me_Forms__drops T) (t_fn_Formsdrops T) sc_drops (fun vs H Q E h => ?_) (fun _ _ _ _ _ _ us hl => match us, hl with | [_, _], _ => rfl) (fun cdv A0 outer s H vs Q E hr h => ?_)
  · obtain ⟨A, U, S, F, rfl, _⟩ := h
    rfl
  · obtain ⟨A, U, S, F, rfl, h, ok, f, k⟩ := h
    refine ⟨_, pss_cons (ps_set (i := 2) sc_drops.nd rfl (.inl rfl) (pe_lst pa_nil))
      (pss_cons (ps_for PassesOwn.never rfl (pi_tup (pe_glob (v := .ref (He.ga K "SIDES")) (by rfl) (t_glo_SIDES T) rfl)) (pg_name (i := 3) sc_drops.nd rfl (.inr rfl))
        (pss_cons (ps_set (i := 4) sc_drops.nd rfl (.inl rfl) (C8.pe_mt (m_options T) hr (by decide) (pe_pr (p_Forms_yard T) hr (by decide) (pv 0)) (pa_cons (pv 1) (pa_cons (pv 3) pa_nil))))
        (pss_one (ps_for PassesOwn.never rfl (pi_list (pv 4)) (pg_name (i := 5) sc_drops.nd rfl (.inr rfl))
          (pss_one (ps_if (pt_val (pe_callB (cr_any rfl) (by rfl) (t_fr_any T) (by decide +kernel) (pa_cons
              (pe_lc (own := [("other", 6)]) (g := gName 6) (tt := tYes) rfl sc_drops.nd (pi_list (pv 4))
                (blkOk_by (N := ["self", "game", "found", "side", "options", "option", "other"]) (sc := defScope s_Formsdrops) (by decide +kernel)) (fun _ _ _ _ _ => pg_name (i := 6) sc_drops.nd rfl (Or.inl rfl)) (fun _ _ _ _ _ => pts_nil)
                (fun _ _ _ _ _ => pe_and (pe_cmpR op_ne (pv 6) (pv 5) (nomark _)) (pe_one (C8.pe_mt (m_as_good (P := P) (w := w) (base := base) T) hr (show 86 ≤ 86 by decide) (pv 0) (pa_cons (pv 3) (pa_cons (pv 6) (pa_cons (pv 5) pa_nil)))))))
              pa_nil)))
            (pss_one (ps_expr (pe_bm PySem.F.plainAttrs_list PySem.F.slot_list_append PySem.F.type_list_append mt_append (pv 2) (pa_cons (pe_tup (pa_cons pe_str (pa_cons (pv 3) (pa_cons (pv 5) pa_nil)))) pa_nil))))
            pss_nil))))))
      (pss_one (ps_ret (pv 2)))), ?_⟩
    refine ⟨by show 0 ≤ sizeLine; decide, fun p0 hp0 => ?_⟩
    obtain ⟨h0, k0⟩ := h.new hp0 (.lst [])
    have np0 := h.fresh hp0
    have ol := opt_len h.wf ok f
    refine ⟨He.ga K "SIDES", rfl, ⟨_, t_SIDES T _⟩, for_tup (K := K) (a := He.ga K "SIDES") (xs := [.str "left", .str "right"]) (fun m σ H2 => ∃ al y3 y4 y5, σ = [some (.ref A.fm), some (nV F), some (.ref p0), y3, y4, y5, none] ∧ At P w K A U (withAl S al) H2 ∧ Keep A H H2 ∧ StL H2 p0 (([true, false].take m).flatMap (dropsS S F)))
      ⟨S.al, none, none, none, rfl, h0, k0, [], upd_same, .nil⟩ (fun m σ H2 _ _ => t_SIDES T H2) ?_ ?_⟩
    · rintro m x σ H2 hm ⟨al, y3, y4, y5, rfl, h2, k2, l2⟩
      obtain ⟨s, hs, rfl⟩ : ∃ s, [true, false][m]? = some s ∧ x = .str (sdS s) := by
        match m, hm with
        | 0, hm => exact ⟨true, rfl, (Option.some.inj hm).symm⟩
        | 1, hm => exact ⟨false, rfl, (Option.some.inj hm).symm⟩
      have step : ([true, false].take (m + 1)).flatMap (dropsS S F) = ([true, false].take m).flatMap (dropsS S F) ++ dropsS S F s := by
        rw [List.take_add_one, hs, List.flatMap_append]
        simp
      have hl2 : (([true, false].take m).flatMap (dropsS S F)).length ≤ 225 := by
        have dl : (dropsS S F true).length ≤ 225 := by
          unfold dropsS
          rw [List.length_map]
          exact Nat.le_trans (List.length_filter_le _ _) (ol true)
        match m, hm with
        | 0, hm => exact Nat.zero_le _
        | 1, hm => simpa using dl
      generalize ([true, false].take m).flatMap (dropsS S F) = acc at l2 step hl2
      refine ⟨_, rfl, A.fm, A.fx, _, rfl, h2.lay.fm, A, U, withAl S al, rfl, h2, A.yd, A.yx, _, rfl, h2.lay.yd, rfl, _, rfl, _, rfl, A, U, withAl S al, F, s, rfl, h2, f.lt, fun p1 hp1 => ?_⟩
      obtain ⟨h3, k3⟩ := h2.new hp1 (.lst ((optI s S.ns F).map nV))
      have np1 := h2.fresh hp1
      have e1 : (upd H2 p1 (.lst ((optI s S.ns F).map nV))) p1 = some (.lst ((optI s S.ns F).map nV)) := upd_same
      have l3 := l2.of (H' := upd H2 p1 (.lst ((optI s S.ns F).map nV))) (fun o e => (upd_ne (ne_of_none e hp1)).trans e) (fun c xs e => (upd_ne (ne_of_none e hp1)).trans e)
      have p01 : p1 ≠ p0 := fun q => by
        obtain ⟨ts, e, _⟩ := l2
        rw [q, e] at hp1
        cases hp1
      refine ⟨_, rfl, p1, rfl, ⟨_, SqL.of e1⟩, for_list (K := K) (a := p1) (xs := (optI s S.ns F).map nV) (fun m' σ H4 => ∃ al y5, σ = [some (.ref A.fm), some (nV F), some (.ref p0), some (.str (sdS s)), some (.ref p1), y5, none] ∧ At P w K A U (withAl S al) H4 ∧ Keep A H H4 ∧ H4 p1 = some (.lst ((optI s S.ns F).map nV)) ∧
          StL H4 p0 (acc ++ (((optI s S.ns F).take m').filter fun o => (optI s S.ns F).any fun x => decide (x ≠ o) && asB S s x o).map (.drop s)))
        ⟨al, y5, rfl, h3, k2.trans k3, e1, by simpa using l3⟩ (fun _ _ _ _ ⟨_, _, _, _, _, q, _⟩ => SqL.of q) ?_ ?_⟩
      · rintro m' x σ H4 hm' ⟨al4, y5, rfl, h4, k4, e4, l4⟩
        obtain ⟨o, ho, rfl⟩ := nV_get hm'
        have mo := List.mem_of_getElem? ho
        obtain ⟨lo, hto⟩ := f.o h.wf mo
        refine ⟨_, rfl, p1, rfl, ⟨_, SqL.of e4⟩, fun D hD => ?_⟩
        have nD := h4.fresh hD
        obtain ⟨h5, k5⟩ := h4.new hD (.lst [])
        refine lc_list (K := K) (a := p1) (xs := (optI s S.ns F).map nV) (fun i H5 => ∃ al, At P w K A U (withAl S al) H5 ∧ Keep A H4 H5 ∧ H5 D = some (.lst ((((optI s S.ns F).take i).map fun x => decide (x ≠ o) && asB S s x o).map V.bl)))
          ⟨al4, h5, k5, upd_same⟩ (fun _ _ _ ⟨_, _, q, _⟩ => SqL.of (q _ _ e4 np1)) ?_ ?_
        · rintro i x H6 hi ⟨al6, h6, k6, e6⟩
          obtain ⟨z, hz, rfl⟩ := nV_get hi
          have mz := List.mem_of_getElem? hz
          obtain ⟨lz, htz⟩ := f.o h.wf mz
          have fin : ∀ b al7 H7, b = (decide (z ≠ o) && asB S s z o) → At P w K A U (withAl S al7) H7 → Keep A H6 H7 → ∃ acc, H7 D = some (.lst acc) ∧ acc.length < sizeLine ∧ ∃ al, At P w K A U (withAl S al) (upd H7 D (.lst (acc ++ [.bl b]))) ∧ Keep A H4 (upd H7 D (.lst (acc ++ [.bl b]))) ∧
              (upd H7 D (.lst (acc ++ [.bl b]))) D = some (.lst ((((optI s S.ns F).take (i + 1)).map fun x => decide (x ≠ o) && asB S s x o).map V.bl)) := by
            rintro b al7 H7 rfl h7 k7
            have e7 := k7 _ _ e6 nD
            refine ⟨_, e7, ?_, al7, h7.lst' e7 nD _, keep_lst (k6.trans k7) hD, ?_⟩
            · rw [List.length_map, List.length_map, List.length_take, sizeLine_eq]
              have := ol s
              omega
            · rw [upd_same, List.take_add_one, hz, List.map_append, List.map_append]
              rfl
          refine ⟨rfl, _, rfl, _, rfl, rfl, _, rfl, ?_⟩
          rw [nV_ne]
          by_cases c : z = o
          · rw [decide_eq_false (fun q => q c)]
            refine iteF ?_
            exact fin false al6 H6 (by rw [decide_eq_false (fun q => q c)]; rfl) h6 (Keep.refl _ _)
          · rw [decide_eq_true c]
            refine iteT ?_
            refine ⟨_, rfl, A.fm, A.fx, _, rfl, h6.lay.fm, rfl, _, rfl, _, rfl, _, rfl, A, U, withAl S al6, s, z, o, rfl, h6, ok, lz, lo, .inl (f.c s z mz), Nat.le_trans htz (by decide), Nat.le_trans hto (by decide), fun al7 H7 h7 k7 => ?_⟩
            exact fin _ al7 H7 (by rw [decide_eq_true c]; rfl) h7 k7
        · rintro H6 ⟨al6, h6, k6, e6⟩
          rw [List.length_map, List.take_of_length_le (Nat.le_refl _)] at e6
          have hbs : D ≠ p1 := fun q => by rw [q, e4] at hD; cases hD
          refine ⟨D, _, rfl, SqL.of e6, _, rfl, ?_⟩
          rw [show List.any _ id = (optI s S.ns F).any fun x => decide (x ≠ o) && asB S s x o by rw [List.any_map]; rfl]
          have e16 := k6 _ _ e4 np1
          have l6 := l4.of (fun o' e => k6 _ _ e np0) (h4.tupK k6)
          have next : ∀ b, ((optI s S.ns F).any fun x => decide (x ≠ o) && asB S s x o) = b → (((optI s S.ns F).take (m' + 1)).filter fun o => (optI s S.ns F).any fun x => decide (x ≠ o) && asB S s x o) = ((optI s S.ns F).take m').filter (fun o => (optI s S.ns F).any fun x => decide (x ≠ o) && asB S s x o) ++ (if b then [o] else []) := fun b eb => by
            rw [List.take_add_one, ho, List.filter_append]
            congr 1
            show List.filter _ [o] = _
            rw [List.filter_cons, eb]
            rfl
          cases eb : (optI s S.ns F).any fun x => decide (x ≠ o) && asB S s x o with
          | false =>
            refine iteF ⟨al6, _, rfl, h6, k4.trans k6, e16, ?_⟩
            rw [next false eb]
            simpa using l6
          | true =>
            obtain ⟨ts, e6p, r6⟩ := l6
            refine iteT ⟨_, rfl, .inl ⟨rfl, _, SqL.of e6p⟩, _, rfl, _, rfl, by show 3 ≤ sizeLine; decide, fun t ht => ?_⟩
            obtain ⟨h7, k7⟩ := h6.new ht (.tup (Stp.v (.drop s o)))
            have e7p := k7 _ _ e6p np0
            have nt := h6.fresh ht
            have et : (upd H6 t (.tup (Stp.v (.drop s o)))) t = some (.tup (Stp.v (.drop s o))) := upd_same
            have lts : ts.length ≤ 1000 := by
              rw [Paired.length r6, List.length_append, List.length_map]
              have := List.length_filter_le (fun o => (optI s S.ns F).any fun x => decide (x ≠ o) && asB S s x o) ((optI s S.ns F).take m')
              have := List.length_take_le m' (optI s S.ns F)
              have := List.length_take_le' m' (optI s S.ns F)
              have := ol s
              omega
            refine ⟨p0, _, _, rfl, rfl, e7p, by rw [List.length_map, sizeLine_eq]; omega, al6, _, rfl, h7.lst' e7p np0 _, keep_lst (k4.trans (k6.trans k7)) hp0, ?_, ?_⟩
            · exact (upd_ne p01).trans (k7 _ _ e16 np1)
            · rw [next true eb, List.map_append, ← List.append_assoc]
              have pt : p0 ≠ t := fun q => by rw [← q, e6p] at ht; cases ht
              have tk : ∀ c xs, H6 c = some (.tup xs) → upd (upd H6 t (.tup (Stp.v (.drop s o)))) p0 (.lst (ts.map V.ref ++ [.ref t])) c = some (.tup xs) := fun c xs e =>
                (upd_ne (ne_of e e6p (by intro z; cases z))).trans ((upd_ne (ne_of_none e ht)).trans e)
              exact StL.snoc (st := .drop s o) upd_same (Paired.mapP r6 fun _ _ z => tk _ _ z) ((upd_ne pt.symm).trans et)
      · rintro σ H4 ⟨al4, y5, rfl, h4, k4, e4, l4⟩
        rw [List.length_map, List.take_of_length_le (Nat.le_refl _)] at l4
        refine ⟨al4, _, _, _, rfl, h4, k4, ?_⟩
        rw [step]
        exact l4
    · rintro σ H2 ⟨al, y3, y4, y5, rfl, h2, k2, l2⟩
      have e : ([true, false].take [V.str (Str.ofString "left"), V.str (Str.ofString "right")].length).flatMap (dropsS S F) = dropsOf S F := by
        show dropsS S F true ++ (dropsS S F false ++ []) = _
        rw [List.append_nil]
        rfl
      rw [show ([true, false].take [V.str (Str.ofString "left"), V.str (Str.ofString "right")].length).flatMap (dropsS S F) = dropsOf S F from e] at l2
      exact ⟨_, rfl, k al H2 p0 h2 k2 hp0 np0 l2⟩
end
end K45
end
section
set_option Elab.async false
set_option linter.all false
set_option maxRecDepth 100000
set_option maxHeartbeats 4000000
namespace K45
open PySem PySem.Spec PyProof.Rows L2
open SG (Dy redu Plain sc Gs Un UnOk Wf Ext gv lf rt optI Nd InC Le leS)
theorem StL.push {P : Program} {w : World} {K : PySem.W.Frag} {A : Ad} {U : Un} {S : Gs} {H : Hp} (h : At P w K A U S H) {p t : Addr} {sts : List Stp} (l : StL H p sts) (n : p ∉ A.mut) (ht : H t = none) (st : Stp) :
    ∃ ts : List Addr, H p = some (.lst (ts.map V.ref)) ∧ ts.length = sts.length ∧ (upd H t (.tup st.v)) p = some (.lst (ts.map V.ref)) ∧ At P w K A U S (upd (upd H t (.tup st.v)) p (.lst (ts.map V.ref ++ [.ref t]))) ∧ StL (upd (upd H t (.tup st.v)) p (.lst (ts.map V.ref ++ [.ref t]))) p (sts ++ [st]) ∧
      ∀ b o, H b = some o → b ≠ p → upd (upd H t (.tup st.v)) p (.lst (ts.map V.ref ++ [.ref t])) b = some o := by
  obtain ⟨ts, e, r⟩ := l
  obtain ⟨h7, k7⟩ := h.new ht (.tup st.v)
  have e7 := k7 _ _ e n
  have et : (upd H t (.tup st.v)) t = some (.tup st.v) := upd_same
  have pt : p ≠ t := fun q => by rw [← q, e] at ht; cases ht
  have tk : ∀ c xs, H c = some (.tup xs) → upd (upd H t (.tup st.v)) p (.lst (ts.map V.ref ++ [.ref t])) c = some (.tup xs) := fun c xs e2 =>
    (upd_ne (ne_of e2 e (by intro z; cases z))).trans ((upd_ne (ne_of_none e2 ht)).trans e2)
  exact ⟨ts, e, Paired.length r, e7, h7.lst' e7 n _, StL.snoc upd_same (Paired.mapP r fun _ _ z => tk _ _ z) ((upd_ne pt.symm).trans et), fun b o e2 ne => (upd_ne ne).trans ((upd_ne (ne_of_none e2 ht)).trans e2)⟩
theorem flat_len {α β : Type} {f : α → List β} {n : Nat} : ∀ {l : List α}, (∀ x ∈ l, (f x).length ≤ n) → (l.flatMap f).length ≤ n * l.length
  | [], _ => by simp
  | a :: l, h => by
    have h1 := h a (List.mem_cons_self ..)
    have h2 := flat_len (f := f) (n := n) (l := l) fun x hx => h x (List.mem_cons_of_mem _ hx)
    rw [List.flatMap_cons, List.length_append, List.length_cons, Nat.mul_add, Nat.mul_one]
    omega
theorem FormOk.opt {U : Un} {S : Gs} {F o : Nat} {s : Bool} (f : FormOk S F) (wf : Wf U S) (ho : o ∈ optI s S.ns F) : FormOk S o :=
  ⟨(f.o wf ho).1, (wf.inC (f.c s o ho)).2.2.1, by have := (f.o wf ho).2; omega⟩
theorem backs_len {U : Un} {S : Gs} (wf : Wf U S) (ok : UnOk U) {F : Nat} (f : FormOk S F) (s : Bool) : (backsS S F s).length ≤ 50625 := by
  have h1 := opt_len wf ok f s
  have h2 := flat_len (f := fun o => ((optI (!s) S.ns o).filter fun a => asB S (!s) a F).map (Stp.back s o)) (n := 225) (l := optI s S.ns F) fun o ho => by
    rw [List.length_map]
    exact Nat.le_trans (List.length_filter_le _ _) (opt_len wf ok (f.opt wf ho) _)
  have : 225 * (optI s S.ns F).length ≤ 225 * 225 := Nat.mul_le_mul_left _ h1
  unfold backsS
  omega
theorem take_flat {α β : Type} {f : α → List β} {l : List α} {m : Nat} {x : α} (h : l[m]? = some x) : (l.take (m + 1)).flatMap f = (l.take m).flatMap f ++ f x := by
  rw [List.take_add_one, h, List.flatMap_append]
  simp
theorem flat_take_len {α β : Type} {f : α → List β} (l : List α) (m : Nat) : ((l.take m).flatMap f).length ≤ (l.flatMap f).length := by
  conv => rhs; rw [← List.take_append_drop m l, List.flatMap_append, List.length_append]
  omega
theorem sc_backs : FnScope ["self", "game", "found", "side", "other", "option", "answer"] ["self", "game"] (defScope s_Formsbacks) := ⟨rfl, rfl, rfl, by decide +kernel, rfl, by decide +kernel, by decide +kernel⟩
section
variable {P : Program} {w : World} {K : PySem.W.Frag} {mg : Str → Option Value} {base : Heap} (T : Tx K mg)
include T
theorem m_backs : C8.Met P w K mg base 87 (He.ga K "Forms") "_backs" (spBacks P w K) [] := by
  refine met_by (t_cls_Forms T) (t_me_Forms__backs T) (t_fn_Formsbacks T) sc_backs (fun vs H Q E h => ?_) (fun _ _ _ _ _ _ us hl => match us, hl with | [_, _], _ => rfl) (fun cdv A0 outer s H vs Q E hr h => ?_)
  · obtain ⟨A, U, S, F, rfl, _⟩ := h
    rfl
  · obtain ⟨A, U, S, F, rfl, h, ok, f, k⟩ := h
    refine ⟨_, pss_cons (ps_set (i := 2) sc_backs.nd rfl (.inl rfl) (pe_lst pa_nil))
      (pss_cons (ps_for PassesOwn.never rfl (pi_tup (pe_glob (v := .ref (He.ga K "SIDES")) (by rfl) (t_glo_SIDES T) rfl)) (pg_name (i := 3) sc_backs.nd rfl (.inl rfl))
        (pss_cons (ps_set (i := 4) sc_backs.nd rfl (.inl rfl) (C8.pe_c (k_other_side T) hr (by decide) (by rfl) (pa_cons (pv 3) pa_nil)))
        (pss_one (ps_for PassesOwn.never rfl (pi_list (C8.pe_mt (m_options T) hr (by decide) (pe_pr (p_Forms_yard T) hr (by decide) (pv 0)) (pa_cons (pv 1) (pa_cons (pv 3) pa_nil)))) (pg_name (i := 5) sc_backs.nd rfl (.inl rfl))
          (pss_one (ps_for PassesOwn.never rfl (pi_list (C8.pe_mt (m_options T) hr (by decide) (pe_pr (p_Forms_yard T) hr (by decide) (pv 0)) (pa_cons (pv 5) (pa_cons (pv 4) pa_nil)))) (pg_name (i := 6) sc_backs.nd rfl (.inl rfl))
            (pss_one (ps_if (pt_val (C8.pe_mt (m_as_good T) hr (by decide) (pv 0) (pa_cons (pv 4) (pa_cons (pv 6) (pa_cons (pv 1) pa_nil)))))
              (pss_one (ps_expr (pe_bm PySem.F.plainAttrs_list PySem.F.slot_list_append PySem.F.type_list_append mt_append (pv 2) (pa_cons (pe_tup (pa_cons pe_str (pa_cons (pv 3) (pa_cons (pv 5) (pa_cons (pv 6) pa_nil))))) pa_nil))))
              pss_nil))))))))
      (pss_one (ps_ret (pv 2)))), ?_⟩
    refine ⟨by show 0 ≤ sizeLine; decide, fun p0 hp0 => ?_⟩
    obtain ⟨h0, k0⟩ := h.new hp0 (.lst [])
    have np0 := h.fresh hp0
    refine ⟨He.ga K "SIDES", rfl, ⟨_, t_SIDES T _⟩, for_tup (K := K) (a := He.ga K "SIDES") (xs := [.str "left", .str "right"]) (fun m σ H2 => ∃ al y3 y4 y5 y6, σ = [some (.ref A.fm), some (nV F), some (.ref p0), y3, y4, y5, y6] ∧ At P w K A U (withAl S al) H2 ∧ Keep A H H2 ∧ StL H2 p0 (([true, false].take m).flatMap (backsS S F)))
      ⟨S.al, none, none, none, none, rfl, h0, k0, [], upd_same, .nil⟩ (fun m σ H2 _ _ => t_SIDES T H2) ?_ ?_⟩
    · rintro m x σ H2 hm ⟨al, y3, y4, y5, y6, rfl, h2, k2, l2⟩
      obtain ⟨s, hs, rfl⟩ : ∃ s, [true, false][m]? = some s ∧ x = .str (sdS s) := by
        match m, hm with
        | 0, hm => exact ⟨true, rfl, (Option.some.inj hm).symm⟩
        | 1, hm => exact ⟨false, rfl, (Option.some.inj hm).symm⟩
      have step := take_flat (f := backsS S F) hs
      have hl2 : (([true, false].take m).flatMap (backsS S F)).length ≤ 110000 := by
        have q := flat_take_len (f := backsS S F) [true, false] m
        have b1 := backs_len h.wf ok f true
        have b2 := backs_len h.wf ok f false
        simp only [List.flatMap_cons, List.flatMap_nil, List.append_nil, List.length_append] at q
        omega
      generalize ([true, false].take m).flatMap (backsS S F) = acc at l2 step hl2
      refine ⟨_, rfl, s, rfl, ?_⟩
      refine ⟨_, rfl, A.fm, A.fx, _, rfl, h2.lay.fm, A, U, withAl S al, rfl, h2, A.yd, A.yx, _, rfl, h2.lay.yd, rfl, _, rfl, _, rfl, A, U, withAl S al, F, s, rfl, h2, f.lt, fun p1 hp1 => ?_⟩
      obtain ⟨h3, k3⟩ := h2.new hp1 (.lst ((optI s S.ns F).map nV))
      have np1 := h2.fresh hp1
      have e1 : (upd H2 p1 (.lst ((optI s S.ns F).map nV))) p1 = some (.lst ((optI s S.ns F).map nV)) := upd_same
      have l3 := l2.of (H' := upd H2 p1 (.lst ((optI s S.ns F).map nV))) (fun o e => (upd_ne (ne_of_none e hp1)).trans e) (fun c xs e => (upd_ne (ne_of_none e hp1)).trans e)
      have p01 : p1 ≠ p0 := fun q => by
        obtain ⟨ts, e, _⟩ := l2
        rw [q, e] at hp1
        cases hp1
      refine ⟨p1, rfl, ⟨_, SqL.of e1⟩, for_list (K := K) (a := p1) (xs := (optI s S.ns F).map nV) (fun m' σ H4 => ∃ al y5 y6, σ = [some (.ref A.fm), some (nV F), some (.ref p0), some (.str (sdS s)), some (.str (sdS (!s))), y5, y6] ∧ At P w K A U (withAl S al) H4 ∧ Keep A H H4 ∧ H4 p1 = some (.lst ((optI s S.ns F).map nV)) ∧
          StL H4 p0 (acc ++ ((optI s S.ns F).take m').flatMap fun o => ((optI (!s) S.ns o).filter fun a => asB S (!s) a F).map (Stp.back s o)))
        ⟨al, y5, y6, rfl, h3, k2.trans k3, e1, by simpa using l3⟩ (fun _ _ _ _ ⟨_, _, _, _, _, _, q, _⟩ => SqL.of q) ?_ ?_⟩
      · rintro m' x σ H4 hm' ⟨al4, y5, y6, rfl, h4, k4, e4, l4⟩
        obtain ⟨o, ho, rfl⟩ := nV_get hm'
        have mo := List.mem_of_getElem? ho
        have fo := f.opt h.wf mo
        have step' := take_flat (f := fun o => ((optI (!s) S.ns o).filter fun a => asB S (!s) a F).map (Stp.back s o)) ho
        have hl4 : (((optI s S.ns F).take m').flatMap fun o => ((optI (!s) S.ns o).filter fun a => asB S (!s) a F).map (Stp.back s o)).length ≤ 50625 := Nat.le_trans (flat_take_len _ _) (backs_len h.wf ok f s)
        generalize (((optI s S.ns F).take m').flatMap fun o => ((optI (!s) S.ns o).filter fun a => asB S (!s) a F).map (Stp.back s o)) = acc4 at l4 step' hl4
        refine ⟨_, rfl, A.fm, A.fx, _, rfl, h4.lay.fm, A, U, withAl S al4, rfl, h4, A.yd, A.yx, _, rfl, h4.lay.yd, rfl, _, rfl, _, rfl, A, U, withAl S al4, o, !s, rfl, h4, fo.lt, fun p2 hp2 => ?_⟩
        obtain ⟨h5, k5⟩ := h4.new hp2 (.lst ((optI (!s) S.ns o).map nV))
        have np2 := h4.fresh hp2
        have e2 : (upd H4 p2 (.lst ((optI (!s) S.ns o).map nV))) p2 = some (.lst ((optI (!s) S.ns o).map nV)) := upd_same
        have l5 := l4.of (H' := upd H4 p2 (.lst ((optI (!s) S.ns o).map nV))) (fun o e => (upd_ne (ne_of_none e hp2)).trans e) (fun c xs e => (upd_ne (ne_of_none e hp2)).trans e)
        have p02 : p2 ≠ p0 := fun q => by
          obtain ⟨ts, e, _⟩ := l4
          rw [q, e] at hp2
          cases hp2
        have p12 : p1 ≠ p2 := fun q => by rw [← q, e4] at hp2; cases hp2
        refine ⟨p2, rfl, ⟨_, SqL.of e2⟩, for_list (K := K) (a := p2) (xs := (optI (!s) S.ns o).map nV) (fun m'' σ H6 => ∃ al y6, σ = [some (.ref A.fm), some (nV F), some (.ref p0), some (.str (sdS s)), some (.str (sdS (!s))), some (nV o), y6] ∧ At P w K A U (withAl S al) H6 ∧ Keep A H H6 ∧ H6 p1 = some (.lst ((optI s S.ns F).map nV)) ∧ H6 p2 = some (.lst ((optI (!s) S.ns o).map nV)) ∧
            StL H6 p0 ((acc ++ acc4) ++ (((optI (!s) S.ns o).take m'').filter fun a => asB S (!s) a F).map (Stp.back s o)))
          ⟨al4, y6, rfl, h5, k4.trans k5, k5 _ _ e4 np1, e2, by simpa using l5⟩ (fun _ _ _ _ ⟨_, _, _, _, _, _, q, _⟩ => SqL.of q) ?_ ?_⟩
        · rintro m'' x σ H6 hm'' ⟨al6, y6, rfl, h6, k6, e61, e62, l6⟩
          obtain ⟨a, ha, rfl⟩ := nV_get hm''
          have ma := List.mem_of_getElem? ha
          obtain ⟨la, hta⟩ := fo.o h.wf ma
          refine ⟨_, rfl, A.fm, A.fx, _, rfl, h6.lay.fm, rfl, _, rfl, _, rfl, _, rfl, A, U, withAl S al6, !s, a, F, rfl, h6, ok, la, f.lt, .inl (fo.c _ a ma), Nat.le_trans hta (by decide), f.ht, fun al7 H7 h7 k7 => ?_⟩
          have e71 := k7 _ _ e61 np1
          have e72 := k7 _ _ e62 np2
          have l7 := l6.of (fun o' e => k7 _ _ e np0) (h6.tupK k7)
          have next : ∀ b, asB S (!s) a F = b → (((optI (!s) S.ns o).take (m'' + 1)).filter fun a => asB S (!s) a F) = (((optI (!s) S.ns o).take m'').filter fun a => asB S (!s) a F) ++ (if b then [a] else []) := fun b eb => by
            rw [List.take_add_one, ha, List.filter_append]
            congr 1
            show List.filter _ [a] = _
            rw [List.filter_cons, eb]
            rfl
          refine ⟨_, rfl, ?_⟩
          cases eb : asB S (!s) a F with
          | false =>
            rw [show asB (withAl S al6) (!s) a F = false from eb]
            refine iteF ⟨al7, _, rfl, h7, k6.trans k7, e71, e72, ?_⟩
            rw [next false eb]
            simpa using l7
          | true =>
            rw [show asB (withAl S al6) (!s) a F = true from eb]
            obtain ⟨ts0, e7p, r7⟩ := id l7
            refine iteT ⟨_, rfl, .inl ⟨rfl, _, SqL.of e7p⟩, _, rfl, _, rfl, _, rfl, by show 4 ≤ sizeLine; decide, fun t ht => ?_⟩
            obtain ⟨ts, e7, len, e8, h9, l9, k9⟩ := StL.push h7 l7 np0 ht (.back s o a)
            have lts : ts.length ≤ 400000 := by
              rw [len, List.length_append, List.length_append, List.length_map]
              have := List.length_filter_le (fun a => asB S (!s) a F) ((optI (!s) S.ns o).take m'')
              have := List.length_take_le' m'' (optI (!s) S.ns o)
              have := opt_len h.wf ok fo (!s)
              omega
            refine ⟨p0, _, _, rfl, rfl, e8, by rw [List.length_map, sizeLine_eq]; omega, al7, _, rfl, h9, fun b o' e n => k9 _ _ ((k6.trans k7) b o' e n) (ne_of_none e hp0), k9 _ _ e71 p01, k9 _ _ e72 p02, ?_⟩
            rw [next true eb, List.map_append, ← List.append_assoc]
            exact l9
        · rintro σ H6 ⟨al6, y6, rfl, h6, k6, e61, e62, l6⟩
          rw [List.length_map, List.take_of_length_le (Nat.le_refl _), List.append_assoc] at l6
          exact ⟨al6, _, _, rfl, h6, k6, e61, by rw [step']; exact l6⟩
      · rintro σ H4 ⟨al4, y5, y6, rfl, h4, k4, e4, l4⟩
        rw [List.length_map, List.take_of_length_le (Nat.le_refl _)] at l4
        refine ⟨al4, _, _, _, _, rfl, h4, k4, ?_⟩
        rw [step]
        exact l4
    · rintro σ H2 ⟨al, y3, y4, y5, y6, rfl, h2, k2, l2⟩
      have e : ([true, false].take [V.str (Str.ofString "left"), V.str (Str.ofString "right")].length).flatMap (backsS S F) = backsOf S F := by
        show backsS S F true ++ (backsS S F false ++ []) = _
        rw [List.append_nil]
        rfl
      rw [show ([true, false].take [V.str (Str.ofString "left"), V.str (Str.ofString "right")].length).flatMap (backsS S F) = backsOf S F from e] at l2
      exact ⟨_, rfl, k al H2 p0 h2 k2 hp0 np0 l2⟩
end
end K45
end
section
set_option Elab.async false
set_option linter.all false
set_option maxRecDepth 100000
set_option maxHeartbeats 4000000
namespace K45
open PySem PySem.Spec PyProof.Rows L2
open SG (Dy redu Plain sc Gs Un UnOk Wf Ext gv lf rt optI Nd InC Le leS)
noncomputable def stepsOf (S : Gs) (F : Nat) : List Stp := dropsOf S F ++ backsOf S F
/-- what follows a game's making, by the options' lists -/
def GameK (P : Program) (w : World) (K : PySem.W.Frag) (A : Ad) (U : Un) (S : Gs) (H : Hp) (Q : VK) (xs ys : List Nat) : Prop := ∀ l r : List Nat, l.Pairwise (· < ·) → (∀ k, k ∈ l ↔ k ∈ xs) → r.Pairwise (· < ·) → (∀ k, k ∈ r ↔ k ∈ ys) →
    (∀ i H', i < S.N → lf S.ns i = l → rt S.ns i = r → At P w K A U S H' → Keep A H H' → Q (nV i) H') ∧
    ((∀ i, i < S.N → ¬ (lf S.ns i = l ∧ rt S.ns i = r)) → 1 ≤ S.slack ∧ ∀ H', At P w K A U (S.push l r) H' → Keep A H H' → Q (nV S.N) H')
theorem GameK.keep {P : Program} {w : World} {K : PySem.W.Frag} {A : Ad} {U : Un} {S : Gs} {H H1 : Hp} {Q : VK} {xs ys : List Nat} (g : GameK P w K A U S H Q xs ys) (k : Keep A H H1) : GameK P w K A U S H1 Q xs ys := fun l r a b c d =>
  ⟨fun i H' e1 e2 e3 e4 e5 => (g l r a b c d).1 i H' e1 e2 e3 e4 (k.trans e5), fun n => ⟨((g l r a b c d).2 n).1, fun H' e4 e5 => ((g l r a b c d).2 n).2 H' e4 (k.trans e5)⟩⟩
def sideL (S : Gs) (F : Nat) (s : Bool) (xs : List Nat) : List Nat := if s then xs else optI true S.ns F
def sideR (S : Gs) (F : Nat) (s : Bool) (xs : List Nat) : List Nat := if s then optI false S.ns F else xs
/-- the options of the step's side behind it -/
def Stp.news (S : Gs) (F : Nat) : Stp → List Nat
  | .drop s o => (optI s S.ns F).filter fun x => decide (x ≠ o)
  | .back s o a => (optI s S.ns F).filter (fun x => decide (x ≠ o)) ++ optI s S.ns a
def Stp.tag : Stp → Str
  | .drop _ _ => "drop"
  | .back _ _ _ => "back"
theorem units65 {k : Nat} {A : Around} (r : Room k A) : A.units + 65 < cLine := by have := r.un; omega
def Stp.side : Stp → Bool
  | .drop s _ => s
  | .back s _ _ => s
section
variable (P : Program) (w : World) (K : PySem.W.Frag)
def spSteps : Sp := fun vs H Q _ => ∃ (A : Ad) (U : Un) (S : Gs) (F : Nat), vs = [.ref A.fm, nV F] ∧ At P w K A U S H ∧ UnOk U ∧ FormOk S F ∧
  ∀ al H' p, At P w K A U (withAl S al) H' → Keep A H H' → H p = none → p ∉ A.mut → StL H' p (stepsOf S F) → Q (.ref p) H'
def spWith : Sp := fun vs H Q _ => ∃ (A : Ad) (U : Un) (S : Gs) (F : Nat) (s : Bool) (p : Addr) (xs : List Nat), vs = [.ref A.fm, nV F, .str (sdS s), .ref p] ∧ At P w K A U S H ∧ F < S.N ∧ H p = some (.lst (xs.map nV)) ∧ xs.length ≤ 2000 ∧ (∀ x ∈ xs, x < S.N) ∧
  (∀ s, (optI s S.ns F).length ≤ 2000) ∧ GameK P w K A U S H Q (sideL S F s xs) (sideR S F s xs)
def spTaken : Sp := fun vs H Q _ => ∃ (A : Ad) (U : Un) (S : Gs) (F : Nat) (st : Stp) (t : Addr), vs = [.ref A.fm, nV F, .ref t] ∧ At P w K A U S H ∧ UnOk U ∧ FormOk S F ∧ H t = some (.tup st.v) ∧ st ∈ stepsOf S F ∧
  ∀ al H', At P w K A U (withAl S al) H' → Keep A H H' → GameK P w K A U (withAl S al) H' Q (sideL S F st.side (st.news S F)) (sideR S F st.side (st.news S F))
end
theorem paired_app {α β : Type} {R : α → β → Prop} : ∀ {a : List α} {b : List β} {c : List α} {d : List β}, Paired R a b → Paired R c d → Paired R (a ++ c) (b ++ d)
  | _, _, _, _, .nil, h => h
  | _, _, _, _, .cons h t, g => .cons h (paired_app t g)
theorem StL.small {H : Hp} {p : Addr} {sts : List Stp} {n : Nat} (h : StL H p sts) (hn : sts.length ≤ n) : ∃ ts : List Addr, H p = some (.lst (ts.map V.ref)) ∧ Paired (fun t st => H t = some (.tup (Stp.v st))) ts sts ∧ (ts.map V.ref).length ≤ n := by
  obtain ⟨ts, e, r⟩ := h
  exact ⟨ts, e, r, by rw [List.length_map, Paired.length r]; exact hn⟩
theorem drops_len {U : Un} {S : Gs} (wf : Wf U S) (ok : UnOk U) {F : Nat} (f : FormOk S F) : (dropsOf S F).length ≤ 450 := by
  have d : ∀ s, (dropsS S F s).length ≤ 225 := fun s => by
    unfold dropsS
    rw [List.length_map]
    exact Nat.le_trans (List.length_filter_le _ _) (opt_len wf ok f s)
  have := d true
  have := d false
  unfold dropsOf
  rw [List.length_append]
  omega
theorem backsO_len {U : Un} {S : Gs} (wf : Wf U S) (ok : UnOk U) {F : Nat} (f : FormOk S F) : (backsOf S F).length ≤ 101250 := by
  have := backs_len wf ok f true
  have := backs_len wf ok f false
  unfold backsOf
  rw [List.length_append]
  omega
/-- a step of the list -/
theorem step_mem {S : Gs} {F : Nat} {st : Stp} (h : st ∈ stepsOf S F) : match st with
    | .drop s o => o ∈ optI s S.ns F ∧ ∃ x ∈ optI s S.ns F, x ≠ o ∧ leS s (S.g o) (S.g x)
    | .back s o a => o ∈ optI s S.ns F ∧ a ∈ optI (!s) S.ns o ∧ leS (!s) (S.g F) (S.g a) := by
  have hd : ∀ s, st ∈ dropsS S F s → ∃ o, st = .drop s o ∧ o ∈ optI s S.ns F ∧ ∃ x ∈ optI s S.ns F, x ≠ o ∧ leS s (S.g o) (S.g x) := fun s m => by
    obtain ⟨o, ho, rfl⟩ := List.mem_map.mp m
    obtain ⟨h1, h2⟩ := List.mem_filter.mp ho
    obtain ⟨x, hx, q⟩ := List.any_eq_true.mp h2
    rw [Bool.and_eq_true] at q
    exact ⟨o, rfl, h1, x, hx, of_decide_eq_true q.1, asB_iff.mp q.2⟩
  have hb : ∀ s, st ∈ backsS S F s → ∃ o a, st = .back s o a ∧ o ∈ optI s S.ns F ∧ a ∈ optI (!s) S.ns o ∧ leS (!s) (S.g F) (S.g a) := fun s m => by
    obtain ⟨o, ho, m⟩ := List.mem_flatMap.mp m
    obtain ⟨a, ha, rfl⟩ := List.mem_map.mp m
    obtain ⟨h1, h2⟩ := List.mem_filter.mp ha
    exact ⟨o, a, rfl, ho, h1, asB_iff.mp h2⟩
  unfold stepsOf dropsOf backsOf at h
  rcases List.mem_append.mp h with h | h
  · rcases List.mem_append.mp h with h | h
    · obtain ⟨o, rfl, q⟩ := hd _ h; exact q
    · obtain ⟨o, rfl, q⟩ := hd _ h; exact q
  · rcases List.mem_append.mp h with h | h
    · obtain ⟨o, a, rfl, q⟩ := hb _ h; exact q
    · obtain ⟨o, a, rfl, q⟩ := hb _ h; exact q
theorem mem_drop {S : Gs} {F o x : Nat} {s : Bool} (h1 : o ∈ optI s S.ns F) (h2 : x ∈ optI s S.ns F) (h3 : x ≠ o) (h4 : leS s (S.g o) (S.g x)) : .drop s o ∈ dropsOf S F := by
  have m : Stp.drop s o ∈ dropsS S F s := List.mem_map.mpr ⟨o, List.mem_filter.mpr ⟨h1, List.any_eq_true.mpr ⟨x, h2, by rw [Bool.and_eq_true]; exact ⟨decide_eq_true h3, asB_iff.mpr h4⟩⟩⟩, rfl⟩
  unfold dropsOf
  cases s
  · exact List.mem_append_right _ m
  · exact List.mem_append_left _ m
theorem mem_back {S : Gs} {F o a : Nat} {s : Bool} (h1 : o ∈ optI s S.ns F) (h2 : a ∈ optI (!s) S.ns o) (h4 : leS (!s) (S.g F) (S.g a)) : .back s o a ∈ backsOf S F := by
  have m : Stp.back s o a ∈ backsS S F s := List.mem_flatMap.mpr ⟨o, h1, List.mem_map.mpr ⟨a, List.mem_filter.mpr ⟨h2, asB_iff.mpr h4⟩, rfl⟩⟩
  unfold backsOf
  cases s
  · exact List.mem_append_right _ m
  · exact List.mem_append_left _ m
def Stp.d : Stp → PyData
  | .drop s o => .tuple [.str "drop", .str (sdS s), .int (o : Int)]
  | .back s o a => .tuple [.str "back", .str (sdS s), .int (o : Int), .int (a : Int)]
theorem stp_lay (st : Stp) : st.d.canLay0 = true := by
  cases st with
  | drop s o => cases s <;> simp [Stp.d, PyData.canLay0, PyData.canLayAll0] <;> exact ⟨by decide +kernel, by decide +kernel⟩
  | back s o a => cases s <;> simp [Stp.d, PyData.canLay0, PyData.canLayAll0] <;> exact ⟨by decide +kernel, by decide +kernel⟩
theorem stp_depth (st : Stp) : st.d.depth = 1 := by cases st <;> simp [Stp.d, PyData.depth, PyData.depthAll]
theorem stps_lay : ∀ l : List Stp, PyData.canLayAll0 (l.map Stp.d) = true
  | [] => rfl
  | a :: l => by
    rw [List.map_cons]
    simp only [PyData.canLayAll0, stp_lay a, stps_lay l, Bool.and_self]
theorem stps_depth : ∀ l : List Stp, PyData.depthAll (l.map Stp.d) ≤ 1
  | [] => by simp [PyData.depthAll]
  | a :: l => by
    rw [List.map_cons]
    simp only [PyData.depthAll, stp_depth a]
    have := stps_depth l
    omega
theorem stp_shaped (st : Stp) : SeqAt.shaped st.d = true := by
  unfold SeqAt.shaped
  rw [stp_lay, stp_depth]
  rfl
theorem stps_shaped (l : List Stp) : SeqAt.shaped (.list (l.map Stp.d)) = true := by
  have h1 := stps_depth l
  have h2 : PyData.depth (.list (l.map Stp.d)) ≤ 64 := by
    simp only [PyData.depth]
    omega
  exact Bool.and_eq_true_iff.mpr ⟨by simp only [PyData.canLay0]; exact stps_lay l, decide_eq_true h2⟩
theorem stp_dp {K : PySem.W.Frag} {H : Hp} {t : Addr} {st : Stp} (e : H t = some (.tup st.v)) : Dp K H (.ref t) st.d := by
  cases st with
  | drop s o => exact .tup (SqT.of e) (.cons (.str _) (.cons (.str _) (.cons (.int _) .nil)))
  | back s o a => exact .tup (SqT.of e) (.cons (.str _) (.cons (.str _) (.cons (.int _) (.cons (.int _) .nil))))
theorem stps_dp {K : PySem.W.Frag} {H : Hp} : ∀ {ts : List Addr} {sts : List Stp}, Paired (fun t st => H t = some (.tup (Stp.v st))) ts sts → DpAll K H (ts.map V.ref) (sts.map Stp.d)
  | _, _, .nil => .nil
  | _, _, .cons h t => .cons (stp_dp h) (stps_dp t)
theorem sc_taken : FnScope ["self", "game", "step", "side", "option", "options", "other"] ["self", "game", "step"] (defScope s_Forms_taken) := ⟨rfl, rfl, rfl, by decide +kernel, rfl, by decide +kernel, by decide +kernel⟩
section
variable {P : Program} {w : World} {K : PySem.W.Frag} {mg : Str → Option Value} {base : Heap} (T : Tx K mg)
include T
theorem m_steps : C8.Met P w K mg base 88 (He.ga K "Forms") "steps" (spSteps P w K) [] := by
  refine met_by (t_cls_Forms T) (t_me_Forms_steps T) (t_fn_Forms_steps T) sc_Forms_steps (fun vs H Q E h => ?_) (fun _ _ _ _ _ _ us hl => match us, hl with | [_, _], _ => rfl) (fun cdv A0 outer s H vs Q E hr h => ?_)
  · obtain ⟨A, U, S, F, rfl, _⟩ := h
    rfl
  · obtain ⟨A, U, S, F, rfl, h, ok, f, k⟩ := h
    refine ⟨_, pss_one (ps_ret (pe_op op_cat (C8.pe_mt (m_drops T) hr (by decide) (pv 0) (pa_cons (pv 1) pa_nil)) (C8.pe_mt (m_backs T) hr (by decide) (pv 0) (pa_cons (pv 1) pa_nil)))), ?_⟩
    refine ⟨_, rfl, A.fm, A.fx, _, rfl, h.lay.fm, rfl, _, rfl, A, U, S, F, rfl, h, ok, f, fun al1 H1 p1 h1 k1 n1 m1 l1 => ?_⟩
    refine ⟨_, rfl, A.fm, A.fx, _, rfl, h1.lay.fm, rfl, _, rfl, A, U, withAl S al1, F, rfl, h1, ok, ⟨f.lt, f.c, f.ht⟩, fun al2 H2 p2 h2 k2 n2 m2 l2 => ?_⟩
    have l1' := l1.of (fun o e => k2 _ _ e m1) (h1.tupK k2)
    obtain ⟨ts1, e1, r1, s1⟩ := l1'.small (drops_len h.wf ok f)
    obtain ⟨ts2, e2, r2, s2⟩ := l2.small (backsO_len h.wf ok f)
    refine ⟨p1, p2, _, _, rfl, rfl, e1, e2, by rw [sizeLine_eq]; omega, fun p hp => ?_⟩
    obtain ⟨h3, k3⟩ := h2.new hp (.lst (ts1.map V.ref ++ ts2.map V.ref))
    refine k al2 _ p h3 (k1.trans (k2.trans k3)) ?_ (h2.fresh hp) ⟨ts1 ++ ts2, by rw [upd_same, List.map_append], ?_⟩
    · cases e : H p with
      | none => rfl
      | some o =>
        by_cases m : p ∈ A.mut
        · exact absurd m (h2.fresh hp)
        · have := (k1.trans k2) _ _ e m
          rw [hp] at this
          cases this
    · exact paired_app (Paired.mapP r1 fun _ _ z => (upd_ne (ne_of_none z hp)).trans z) (Paired.mapP r2 fun _ _ z => (upd_ne (ne_of_none z hp)).trans z)
theorem m_with : C8.Met P w K mg base 5 (He.ga K "Forms") "_with" (spWith P w K) [] := by
  refine met_by (t_cls_Forms T) (t_me_Forms__with T) (t_fn_Formswith T) sc_Formswith (fun vs H Q E h => ?_) (fun _ _ _ _ _ _ us hl => match us, hl with | [_, _, _, _], _ => rfl) (fun cdv A0 outer s H vs Q E hr h => ?_)
  · obtain ⟨A, U, S, F, s, p, xs, rfl, _⟩ := h
    rfl
  · obtain ⟨A, U, S, F, s, p, xs, rfl, h, hF, hp, lx, bx, lo, k⟩ := h
    refine ⟨_, pss_cons (ps_if (pt_cmpR op_eq (pv 2) pe_str (nomark _)) (pss_one (ps_ret (C8.pe_mt (m_game T) hr (by decide) (pe_pr (p_Forms_yard T) hr (by decide) (pv 0)) (pa_cons (pv 3) (pa_cons (C8.pe_mt (m_rights T) hr (by decide) (pe_pr (p_Forms_yard T) hr (by decide) (pv 0)) (pa_cons (pv 1) pa_nil)) pa_nil))))) pss_nil)
      (pss_one (ps_ret (C8.pe_mt (m_game T) hr (by decide) (pe_pr (p_Forms_yard T) hr (by decide) (pv 0)) (pa_cons (C8.pe_mt (m_lefts T) hr (by decide) (pe_pr (p_Forms_yard T) hr (by decide) (pv 0)) (pa_cons (pv 1) pa_nil)) (pa_cons (pv 3) pa_nil))))), ?_⟩
    have bo : ∀ s, ∀ x ∈ optI s S.ns F, x < S.N := fun s x hx => (SG.optI_lt h.wf.wy hF hx).2
    refine ⟨_, rfl, rfl, _, rfl, ?_⟩
    rw [str_eq_left]
    cases s
    · refine iteF ⟨_, rfl, A.fm, A.fx, _, rfl, h.lay.fm, A, U, S, rfl, h, A.yd, A.yx, _, rfl, h.lay.yd, rfl, ?_⟩
      refine ⟨_, rfl, A.fm, A.fx, _, rfl, h.lay.fm, A, U, S, rfl, h, A.yd, A.yx, _, rfl, h.lay.yd, rfl, _, rfl, A, U, S, F, rfl, h, hF, fun q hq => ?_⟩
      obtain ⟨h2, k2⟩ := h.new hq (.lst ((optI true S.ns F).map nV))
      exact ⟨_, rfl, A, U, S, q, p, optI true S.ns F, xs, rfl, h2, upd_same, (upd_ne (ne_of_none hp hq)).trans hp, lo true, lx, bo true, bx, k.keep k2⟩
    · refine iteT ⟨_, rfl, A.fm, A.fx, _, rfl, h.lay.fm, A, U, S, rfl, h, A.yd, A.yx, _, rfl, h.lay.yd, rfl, _, rfl, ?_⟩
      refine ⟨_, rfl, A.fm, A.fx, _, rfl, h.lay.fm, A, U, S, rfl, h, A.yd, A.yx, _, rfl, h.lay.yd, rfl, _, rfl, A, U, S, F, rfl, h, hF, fun q hq => ?_⟩
      obtain ⟨h2, k2⟩ := h.new hq (.lst ((optI false S.ns F).map nV))
      exact ⟨A, U, S, p, q, xs, optI false S.ns F, rfl, h2, (upd_ne (ne_of_none hp hq)).trans hp, upd_same, lx, lo false, bx, bo false, k.keep k2⟩
theorem m_taken : C8.Met P w K mg base 89 (He.ga K "Forms") "taken" (spTaken P w K) [] := by
  refine met_by (t_cls_Forms T) (t_me_Forms_taken T) (t_fn_Forms_taken T) sc_taken (fun vs H Q E h => ?_) (fun _ _ _ _ _ _ us hl => match us, hl with | [_, _, _], _ => rfl) (fun cdv A0 outer s H vs Q E hr h => ?_)
  · obtain ⟨A, U, S, F, st, t, rfl, _⟩ := h
    rfl
  · obtain ⟨A, U, S, F, st, t, rfl, h, ok, f, et, mst, k⟩ := h
    have hu := hr.units
    refine ⟨_, pss_cons (ps_if (pt_cmpR (op_notInD (units65 hr)) (pv 2) (C8.pe_mt (m_steps T) hr (by decide) (pv 0) (pa_cons (pv 1) pa_nil)) (by rfl)) (pss_one ps_never) pss_nil)
      (pss_cons (ps_asg (pe_slice sl_tup (pv 2) (po_some pe_int) (po_some pe_int)) (pg_tup rfl (pgs_cons (pg_name (i := 3) sc_taken.nd rfl (.inl rfl)) (pgs_cons (pg_name (i := 4) sc_taken.nd rfl (.inr rfl)) pgs_nil))))
      (pss_cons (ps_setLc (i := 5) (own := [("other", 6)]) (g := gName 6) rfl sc_taken.nd rfl rfl (sw_true rfl rfl rfl (by decide +kernel)) (pi_list (C8.pe_mt (m_options T) hr (by decide) (pe_pr (p_Forms_yard T) hr (by decide) (pv 0)) (pa_cons (pv 1) (pa_cons (pv 3) pa_nil))))
          (blkOk_by (N := ["self", "game", "step", "side", "option", "options", "other"]) (sc := defScope s_Forms_taken) (by decide +kernel)) (fun _ _ _ _ _ => pg_name (i := 6) sc_taken.nd rfl (Or.inl rfl)) (fun _ _ _ _ _ => pts_one (pt_cmpR op_ne (pv 6) (pv 4) (nomark _))) (fun _ _ _ _ _ => pv 6))
      (pss_cons (ps_if (pt_cmpR op_eq (pe_ix ix_tup (pv 2) pe_int (fun _ _ => rfl)) pe_str (nomark _))
        (pss_one (ps_set (i := 5) sc_taken.nd rfl (.inl rfl) (pe_op op_cat (pv 5) (C8.pe_mt (m_options T) hr (by decide) (pe_pr (p_Forms_yard T) hr (by decide) (pv 0)) (pa_cons (pe_ix ix_tup (pv 2) pe_int (fun _ _ => rfl)) (pa_cons (pv 3) pa_nil)))))) pss_nil)
      (pss_one (ps_ret (C8.pe_mt (m_with T) hr (by decide) (pv 0) (pa_cons (pv 1) (pa_cons (pv 3) (pa_cons (pv 5) pa_nil))))))))), ?_⟩
    refine ⟨_, rfl, _, rfl, A.fm, A.fx, _, rfl, h.lay.fm, rfl, _, rfl, A, U, S, F, rfl, h, ok, f, fun al1 H1 p1 h1 k1 n1 m1 l1 => ?_⟩
    have et1 := h.tupK k1 _ _ et
    obtain ⟨ts1, e1, r1⟩ := l1
    refine ⟨st.d, (stepsOf S F).map Stp.d, stp_dp et1, .lst (SqL.of e1) (stps_dp r1), stp_shaped st, stps_shaped _, _, rfl, ?_⟩
    rw [show (((stepsOf S F).map Stp.d).any fun z => PyData.eqv z st.d) = true from List.any_eq_true.mpr ⟨st.d, List.mem_map.mpr ⟨st, mst, rfl⟩, SeqAt.eqv_refl _ (stp_lay st)⟩]
    refine iteF ?_
    have sv : ∃ (o : Nat) (rest : List V), st.v = .str st.tag :: .str (sdS st.side) :: nV o :: rest ∧ (rest = [] ∨ ∃ a, rest = [nV a]) ∧ cutV st.v (some 1) (some 3) = [.str (sdS st.side), nV o] ∧ o ∈ optI st.side S.ns F ∧
        (∀ xs, (∀ s o', st = .drop s o' → xs = []) → (∀ s o' a, st = .back s o' a → xs = optI s S.ns a) → st.news S F = (optI st.side S.ns F).filter (fun x => decide (x ≠ o)) ++ xs) := by
      have q := step_mem mst
      cases st with
      | drop s o => exact ⟨o, [], rfl, .inl rfl, rfl, q.1, fun xs h1 _ => by rw [h1 s o rfl, List.append_nil]; rfl⟩
      | back s o a => exact ⟨o, [nV a], rfl, .inr ⟨a, rfl⟩, rfl, q.1, fun xs _ h1 => by rw [h1 s o a rfl]; rfl⟩
    obtain ⟨o, rest, ev, hrest, ecut, mo, enew⟩ := sv
    refine ⟨_, rfl, 1, rfl, 3, rfl, t, st.v, rfl, SqT.of et1, ?_, fun p hp => ?_⟩
    · rcases hrest with rfl | ⟨a, rfl⟩
      · rw [ev]
        show ¬ (HT.sIx 3 0 (some 1) = 0 ∧ HT.sIx 3 3 (some 3) = 3)
        decide
      · rw [ev]
        show ¬ (HT.sIx 4 0 (some 1) = 0 ∧ HT.sIx 4 4 (some 3) = 4)
        decide
    obtain ⟨h2, k2⟩ := h1.new hp (.tup (cutV st.v (some 1) (some 3)))
    have ep : (upd H1 p (.tup (cutV st.v (some 1) (some 3)))) p = some (.tup [.str (sdS st.side), nV o]) := by rw [upd_same, ecut]
    have et2 := h1.tupK k2 _ _ et1
    generalize upd H1 p (.tup (cutV st.v (some 1) (some 3))) = H2 at h2 k2 ep et2
    refine ⟨p, _, rfl, SqT.of ep, rfl, _, _, rfl, _, _, rfl, rfl, ?_⟩
    refine ⟨_, rfl, A.fm, A.fx, _, rfl, h2.lay.fm, A, U, withAl S al1, rfl, h2, A.yd, A.yx, _, rfl, h2.lay.yd, rfl, _, rfl, _, rfl, A, U, withAl S al1, F, st.side, rfl, h2, f.lt, fun p3 hp3 => ?_⟩
    obtain ⟨h3, k3⟩ := h2.new hp3 (.lst ((optI st.side S.ns F).map nV))
    have np3 := h2.fresh hp3
    have e3 : (upd H2 p3 (.lst ((optI st.side S.ns F).map nV))) p3 = some (.lst ((optI st.side S.ns F).map nV)) := upd_same
    have et3 := h2.tupK k3 _ _ et2
    have ol := opt_len h.wf ok f st.side
    generalize upd H2 p3 (.lst ((optI st.side S.ns F).map nV)) = H3 at h3 k3 e3 et3
    refine ⟨p3, rfl, ⟨_, SqL.of e3⟩, fun D hD => lc_list (K := K) (a := p3) (xs := (optI st.side S.ns F).map nV) (fun i H5 => At P w K A U (withAl S al1) H5 ∧ Keep A H3 H5 ∧ H5 D = some (.lst ((((optI st.side S.ns F).take i).filter fun x => decide (x ≠ o)).map nV)))
      ⟨(h3.new hD _).1, (h3.new hD _).2, upd_same⟩ (fun _ _ _ ⟨_, q, _⟩ => SqL.of (q _ _ e3 np3)) ?_ ?_⟩
    · rintro i x H5 hi ⟨h5, k5, e5⟩
      obtain ⟨z, hz, rfl⟩ := nV_get hi
      refine ⟨rfl, _, rfl, _, rfl, rfl, _, rfl, ?_⟩
      have nD := h3.fresh hD
      rw [nV_ne]
      have next : ∀ b, decide (z ≠ o) = b → (((optI st.side S.ns F).take (i + 1)).filter fun x => decide (x ≠ o)) = (((optI st.side S.ns F).take i).filter fun x => decide (x ≠ o)) ++ (if b then [z] else []) := fun b eb => by
        rw [List.take_add_one, hz, List.filter_append]
        congr 1
        show List.filter _ [z] = _
        rw [List.filter_cons, eb]
        rfl
      cases eb : decide (z ≠ o) with
      | false =>
        refine iteF ⟨h5, k5, ?_⟩
        rw [next false eb]
        simpa using e5
      | true =>
        refine iteT ⟨_, rfl, _, e5, ?_, h5.lst' e5 nD _, keep_lst k5 hD, ?_⟩
        · rw [List.length_map, sizeLine_eq]
          have := List.length_filter_le (fun x => decide (x ≠ o)) ((optI st.side S.ns F).take i)
          have := List.length_take_le' i (optI st.side S.ns F)
          omega
        · rw [upd_same, next true eb, List.map_append]
          rfl
    · rintro H5 ⟨h5, k5, e5⟩
      rw [List.length_map, List.take_of_length_le (Nat.le_refl _)] at e5
      have nD := h3.fresh hD
      have et5 := h3.tupK k5 _ _ et3
      have e0 : st.v[0]? = some (.str st.tag) := by rw [ev]; rfl
      refine ⟨_, rfl, t, st.v, 0, _, rfl, rfl, SqT.of et5, atI_nat (j := 0) e0, rfl, _, rfl, ?_⟩
      have bx : ∀ x ∈ (optI st.side S.ns F).filter (fun x => decide (x ≠ o)), x < S.N := fun x hx => (f.o h.wf (List.mem_filter.mp hx).1).1
      have lx : ((optI st.side S.ns F).filter (fun x => decide (x ≠ o))).length ≤ 225 := Nat.le_trans (List.length_filter_le _ _) ol
      have lo : ∀ s, (optI s S.ns F).length ≤ 2000 := fun s => Nat.le_trans (opt_len h.wf ok f s) (by decide)
      cases st with
      | drop s o' =>
        rw [decide_eq_false (show ¬ V.str (Stp.tag (.drop s o')) = V.str "back" from fun z => absurd (V.str.inj z) (show ¬ (("drop" : Str) = ("back" : Str)) by decide))]
        refine iteF ⟨_, rfl, A.fm, A.fx, _, rfl, h5.lay.fm, rfl, _, rfl, _, rfl, _, rfl, A, U, withAl S al1, F, s, D, _, rfl, h5, f.lt, e5, Nat.le_trans lx (by decide), bx, lo, ?_⟩
        have := k al1 H5 h5 (k1.trans (k2.trans (k3.trans k5)))
        rw [enew [] (fun _ _ _ => rfl) (fun _ _ _ z => by cases z), List.append_nil] at this
        exact this
      | back s o' a =>
        have ma := step_mem mst
        have fa := (f.opt h.wf ma.1).opt h.wf ma.2.1
        rw [decide_eq_true (show V.str (Stp.tag (.back s o' a)) = V.str "back" from rfl)]
        refine iteT ⟨_, rfl, ?_⟩
        refine ⟨_, rfl, A.fm, A.fx, _, rfl, h5.lay.fm, A, U, withAl S al1, rfl, h5, A.yd, A.yx, _, rfl, h5.lay.yd, rfl, ?_⟩
        refine ⟨_, rfl, t, _, 3, nV a, rfl, rfl, SqT.of et5, atI_nat (j := 3) rfl, _, rfl, A, U, withAl S al1, a, s, rfl, h5, fa.lt, fun p6 hp6 => ?_⟩
        obtain ⟨h6, k6⟩ := h5.new hp6 (.lst ((optI s S.ns a).map nV))
        have e6 : (upd H5 p6 (.lst ((optI s S.ns a).map nV))) p6 = some (.lst ((optI s S.ns a).map nV)) := upd_same
        have e6D := k6 _ _ e5 nD
        have la := opt_len h.wf ok fa s
        refine ⟨D, p6, _, _, rfl, rfl, e6D, e6, by rw [List.length_map, List.length_map, sizeLine_eq]; have lx' : ((optI s S.ns F).filter (fun x => decide (x ≠ o))).length ≤ 225 := lx; omega, fun p7 hp7 => ?_⟩
        obtain ⟨h7, k7⟩ := h6.new hp7 (.lst (((optI s S.ns F).filter (fun x => decide (x ≠ o))).map nV ++ (optI s S.ns a).map nV))
        refine ⟨_, rfl, A.fm, A.fx, _, rfl, h7.lay.fm, rfl, _, rfl, _, rfl, _, rfl, A, U, withAl S al1, F, s, p7, (optI s S.ns F).filter (fun x => decide (x ≠ o)) ++ optI s S.ns a, rfl, h7, f.lt, by rw [upd_same, List.map_append]; rfl, ?_, fun x hx => ?_, lo, ?_⟩
        · rw [List.length_append]
          have lx' : ((optI s S.ns F).filter (fun x => decide (x ≠ o))).length ≤ 225 := lx
          omega
        · rcases List.mem_append.mp hx with hx | hx
          · exact bx x hx
          · exact (fa.o h.wf hx).1
        · have := k al1 _ h7 (k1.trans (k2.trans (k3.trans (k5.trans (k6.trans k7)))))
          rw [enew (optI s S.ns a) (fun _ _ z => by cases z) (fun s2 o2 a2 z => by cases z; rfl)] at this
          exact this
end
end K45
end
section
set_option Elab.async false
set_option linter.all false
set_option maxRecDepth 100000
set_option maxHeartbeats 4000000
namespace K45
open SG (Gs Un UnOk Wf Ext Ex0 gv lf rt optI InC Le Al leS opt wS lamS kap Mb Wb Tb LK CanH CanA Can psi Dom Num IsP IsSum Pu OKp SiOk)
/-! ### the way to a simplest form, in plain terms -/
abbrev leI (S : Gs) (s : Bool) (x y : Nat) : Prop := leS s (S.g x) (S.g y)
abbrev wI (S : Gs) (s : Bool) (x : Nat) : Nat := wS s (S.g x)
noncomputable abbrev psiI (S : Gs) (s : Bool) (F : Nat) : Nat := psi (leI S s) (wI S s) (optI s S.ns F)
structure Frm (U : Un) (S : Gs) (i n F : Nat) : Prop where
  lt : F < S.N
  c : ∀ s, ∀ o ∈ optI s S.ns F, InC S o
  al : Al (S.g F) (S.g i)
  ht : SG.ht (S.g F) ≤ SG.ht (S.g i)
  ko : ∀ s, ∀ x ∈ optI s S.ns F, ¬ Dom (leI S s) (optI s S.ns F) x → kap (S.g x) ≤ Mb (n - 1)
  pn : ¬ Num 64 (S.g i) → ∀ s, psiI S s F ≤ Mb n
section
variable {U : Un} {S : Gs} (w : Wf U S)
include w
theorem optG {i : Nat} (h : i < S.N) (s : Bool) : opt s (S.g i) = (optI s S.ns i).map S.g := SG.is_left w.wy h s
theorem mem_optG {i : Nat} (h : i < S.N) {s : Bool} {x : SG.G} : x ∈ opt s (S.g i) ↔ ∃ o ∈ optI s S.ns i, x = S.g o := by
  rw [optG w h]
  constructor
  · intro m
    obtain ⟨o, ho, rfl⟩ := List.mem_map.mp m
    exact ⟨o, ho, rfl⟩
  · rintro ⟨o, ho, rfl⟩
    exact List.mem_map.mpr ⟨o, ho, rfl⟩
theorem mkG {i : Nat} (h : i < S.N) : S.g i = .mk ((optI true S.ns i).map S.g) ((optI false S.ns i).map S.g) := (w.wy.at h).2.2.2.2
theorem w_sum {a : Nat} (h : a < S.N) (s : Bool) : ((optI s S.ns a).map (wI S s)).sum = lamS s (S.g a) := by
  rw [SG.lamS_eq, optG w h, List.map_map]
  rfl
theorem al_drop {F F' o x : Nat} {s : Bool} (hF : F < S.N) (hF' : F' < S.N) (same : optI (!s) S.ns F' = optI (!s) S.ns F) (mem : ∀ z, z ∈ optI s S.ns F' ↔ z ∈ optI s S.ns F ∧ z ≠ o) (hx : x ∈ optI s S.ns F) (ne : x ≠ o) (le : leS s (S.g o) (S.g x)) :
    Al (S.g F) (S.g F') := by
  rw [mkG w hF, mkG w hF']
  have up : ∀ y ∈ (optI s S.ns F').map S.g, y ∈ (optI s S.ns F).map S.g := fun y hy => by
    obtain ⟨z, hz, rfl⟩ := List.mem_map.mp hy
    exact List.mem_map.mpr ⟨z, ((mem z).mp hz).1, rfl⟩
  have dn : ∀ y ∈ (optI s S.ns F).map S.g, ∃ z ∈ (optI s S.ns F').map S.g, leS s y z := fun y hy => by
    obtain ⟨z, hz, rfl⟩ := List.mem_map.mp hy
    by_cases e : z = o
    · subst e
      exact ⟨_, List.mem_map.mpr ⟨x, (mem x).mpr ⟨hx, ne⟩, rfl⟩, le⟩
    · exact ⟨_, List.mem_map.mpr ⟨z, (mem z).mpr ⟨hz, e⟩, rfl⟩, SG.leS_of (SG.al_refl _)⟩
  cases s
  · have same : optI true S.ns F' = optI true S.ns F := same
    rw [same]
    exact SG.drop_al (fun _ h => h) (fun y h => ⟨y, h, SG.le_refl y⟩) up dn
  · have same : optI false S.ns F' = optI false S.ns F := same
    rw [same]
    exact SG.drop_al up dn (fun _ h => h) (fun y h => ⟨y, h, SG.le_refl y⟩)
theorem al_back {F F' o a : Nat} {s : Bool} (hF : F < S.N) (hF' : F' < S.N) (same : optI (!s) S.ns F' = optI (!s) S.ns F) (mem : ∀ z, z ∈ optI s S.ns F' ↔ (z ∈ optI s S.ns F ∧ z ≠ o) ∨ z ∈ optI s S.ns a) (ho : o ∈ optI s S.ns F) (ha : a ∈ optI (!s) S.ns o) (lo : o < S.N) (la : a < S.N)
    (le : leS (!s) (S.g F) (S.g a)) : Al (S.g F) (S.g F') := by
  rw [mkG w hF, mkG w hF']
  have mo : S.g o ∈ (optI s S.ns F).map S.g := List.mem_map.mpr ⟨o, ho, rfl⟩
  have ma : S.g a ∈ opt (!s) (S.g o) := (mem_optG w lo).mpr ⟨a, ha, rfl⟩
  have h1 : ∀ y ∈ (optI s S.ns F').map S.g, y ∈ (optI s S.ns F).map S.g ∨ y ∈ opt s (S.g a) := fun y hy => by
    obtain ⟨z, hz, rfl⟩ := List.mem_map.mp hy
    rcases (mem z).mp hz with h | h
    · exact .inl (List.mem_map.mpr ⟨z, h.1, rfl⟩)
    · exact .inr ((mem_optG w la).mpr ⟨z, h, rfl⟩)
  have h2 : ∀ y ∈ (optI s S.ns F).map S.g, y = S.g o ∨ y ∈ (optI s S.ns F').map S.g := fun y hy => by
    obtain ⟨z, hz, rfl⟩ := List.mem_map.mp hy
    by_cases e : z = o
    · exact .inl (by rw [e])
    · exact .inr (List.mem_map.mpr ⟨z, (mem z).mpr (.inl ⟨hz, e⟩), rfl⟩)
  have h3 : ∀ y ∈ opt s (S.g a), y ∈ (optI s S.ns F').map S.g := fun y hy => by
    obtain ⟨z, hz, rfl⟩ := (mem_optG w la).mp hy
    exact List.mem_map.mpr ⟨z, (mem z).mpr (.inr hz), rfl⟩
  rw [mkG w hF] at le
  cases s
  · have same : optI true S.ns F' = optI true S.ns F := same
    rw [same]
    exact SG.back_right mo ma le h1 h2 h3
  · have same : optI false S.ns F' = optI false S.ns F := same
    rw [same]
    exact SG.back_left mo ma le h1 h2 h3
end
theorem mem_news {S : Gs} {F z : Nat} {st : Stp} : z ∈ st.news S F ↔ match st with
    | .drop s o => z ∈ optI s S.ns F ∧ z ≠ o
    | .back s o a => (z ∈ optI s S.ns F ∧ z ≠ o) ∨ z ∈ optI s S.ns a := by
  cases st with
  | drop s o =>
    show z ∈ (optI s S.ns F).filter _ ↔ _
    rw [List.mem_filter, decide_eq_true_iff]
  | back s o a =>
    show z ∈ (optI s S.ns F).filter _ ++ _ ↔ _
    rw [List.mem_append, List.mem_filter, decide_eq_true_iff]
theorem no_dom {S : Gs} {F : Nat} (h : dropsOf S F = []) (s : Bool) : ∀ x ∈ optI s S.ns F, ¬ Dom (leI S s) (optI s S.ns F) x := fun x hx ⟨y, hy, a, b⟩ => by
  have m := mem_drop (S := S) (F := F) (o := x) (x := y) (s := s) hx hy (fun e => b (by rw [e]; exact SG.leS_of (SG.al_refl _))) a
  rw [h] at m
  cases m
/-- one step -/
theorem frm_step {U : Un} {S : Gs} (w : Wf U S) {i n F F' : Nat} {st : Stp} (f : Frm U S i n F) (hst : st ∈ stepsOf S F) (hb : dropsOf S F = [] ∨ st ∈ dropsOf S F) (lt : F' < S.N) (side : ∀ z, z ∈ optI st.side S.ns F' ↔ z ∈ st.news S F) (other : optI (!st.side) S.ns F' = optI (!st.side) S.ns F) :
    Frm U S i n F' ∧ psiI S true F' + psiI S false F' + 1 ≤ psiI S true F + psiI S false F := by
  have wy := w.wy
  have nd : ∀ s x, x < S.N → (optI s S.ns x).Nodup := fun s x hx => SG.rise_nodup (SG.optI_sorted wy hx)
  have hof : ∀ {s o}, o ∈ optI s S.ns F → o < S.N ∧ SG.ht (S.g o) < SG.ht (S.g F) := fun {s o} ho => ⟨(SG.optI_lt wy f.lt ho).2, SG.optI_ht wy f.lt ho⟩
  have tr : ∀ s x y z, leI S s x y → leI S s y z → leI S s x z := fun s x y z a b => SG.leS_trans s a b
  have w1 : ∀ s x, 1 ≤ wI S s x := fun s x => SG.wS_one s _
  -- what is to be shown of the step's side
  have key : ∀ s, s = st.side → (∀ x ∈ optI s S.ns F', InC S x) ∧ (∀ x ∈ optI s S.ns F', SG.ht (S.g x) < SG.ht (S.g F)) ∧ Al (S.g F) (S.g F') ∧ psiI S s F' + 1 ≤ psiI S s F ∧ (∀ x ∈ optI s S.ns F', ¬ Dom (leI S s) (optI s S.ns F') x → kap (S.g x) ≤ Mb (n - 1)) := by
    rintro s rfl
    have q := step_mem hst
    cases st with
    | drop s o =>
      obtain ⟨ho, x, hx, ne, le⟩ := q
      have mem : ∀ z, z ∈ optI s S.ns F' ↔ z ∈ optI s S.ns F ∧ z ≠ o := fun z => (side z).trans mem_news
      have h1 : ∀ z ∈ optI s S.ns F', z ∈ optI s S.ns F := fun z hz => ((mem z).mp hz).1
      have h2 : ∀ z ∈ optI s S.ns F, z = o ∨ z ∈ optI s S.ns F' := fun z hz => by
        by_cases e : z = o
        · exact .inl e
        · exact .inr ((mem z).mpr ⟨hz, e⟩)
      have mx : x ∈ optI s S.ns F' := (mem x).mpr ⟨hx, ne⟩
      refine ⟨fun z hz => f.c s z (h1 z hz), fun z hz => (hof (h1 z hz)).2, al_drop w f.lt lt other mem hx ne le, SG.psi_drop (tr s) (w1 s) (nd s F' lt) ho (fun m => ((mem o).mp m).2 rfl) mx le h1 h2, fun z hz n => f.ko s z (h1 z hz) fun ⟨y, hy, a, b⟩ => n ?_⟩
      rcases h2 y hy with rfl | hy
      · exact ⟨x, mx, SG.leS_trans s a le, fun r => b (SG.leS_trans s le r)⟩
      · exact ⟨y, hy, a, b⟩
    | back s o a =>
      obtain ⟨ho, ha, le⟩ := q
      have mem : ∀ z, z ∈ optI s S.ns F' ↔ (z ∈ optI s S.ns F ∧ z ≠ o) ∨ z ∈ optI s S.ns a := fun z => (side z).trans mem_news
      have none : dropsOf S F = [] := by
        rcases hb with h | h
        · exact h
        · unfold dropsOf at h
          rcases List.mem_append.mp h with h | h
          · obtain ⟨_, _, e⟩ := List.mem_map.mp h; cases e
          · obtain ⟨_, _, e⟩ := List.mem_map.mp h; cases e
      obtain ⟨lo, hto⟩ := hof ho
      obtain ⟨_, la⟩ := SG.optI_lt wy lo ha
      have hta := SG.optI_ht wy lo ha
      have co := f.c s o ho
      have ca := (w.inC co).2.2.1 _ a ha
      have ndom := no_dom none s
      have kall : ∀ z ∈ optI s S.ns F, kap (S.g z) ≤ Mb (n - 1) := fun z hz => f.ko s z hz (ndom z hz)
      have mao : S.g a ∈ opt (!s) (S.g o) := (mem_optG w lo).mpr ⟨a, ha, rfl⟩
      refine ⟨fun z hz => ?_, fun z hz => ?_, al_back w f.lt lt other mem ho ha lo la le, SG.psi_back (w1 s) (nd s F' lt) ho ndom (A := optI s S.ns a) (fun z hz => (mem z).mp hz) ?_, fun z hz _ => ?_⟩
      · rcases (mem z).mp hz with h | h
        · exact f.c s z h.1
        · exact (w.inC ca).2.2.1 _ z h
      · rcases (mem z).mp hz with h | h
        · exact (hof h.1).2
        · have := SG.optI_ht wy la h
          show SG.ht (gv S.ns z) < SG.ht (S.g F)
          have hto : SG.ht (gv S.ns o) < SG.ht (S.g F) := hto
          omega
      · rw [w_sum w la s]
        exact SG.wS_ge mao
      · rcases (mem z).mp hz with h | h
        · exact kall z h.1
        · have k1 := SG.kap_opt (s := s) ((mem_optG w la).mpr ⟨z, h, rfl⟩)
          have k2 := SG.kap_opt mao
          have := kall o ho
          omega
  obtain ⟨k1, k2, k3, k4, k5⟩ := key st.side rfl
  have both : ∀ {Q : Bool → Prop}, Q st.side → Q (!st.side) → ∀ s, Q s := fun {Q} a b s => by
    by_cases e : s = st.side
    · rw [e]; exact a
    · have : s = !st.side := by cases s <;> cases h : st.side <;> simp_all
      rw [this]; exact b
  have po : psiI S (!st.side) F' = psiI S (!st.side) F := by unfold psiI; rw [other]
  have hts : ∀ s, ∀ x ∈ optI s S.ns F', SG.ht (S.g x) < SG.ht (S.g F) := both k2 fun x hx => by rw [other] at hx; exact (hof hx).2
  refine ⟨⟨lt, both k1 fun x hx => by rw [other] at hx; exact f.c _ x hx, SG.al_trans (SG.al_symm k3) f.al, ?_, both k5 fun x hx nd => ?_, fun nn s => ?_⟩, ?_⟩
  · refine Nat.le_trans ?_ f.ht
    rw [mkG w lt]
    refine SG.ht_le (fun x hx => ?_) fun x hx => ?_
    · obtain ⟨z, hz, rfl⟩ := List.mem_map.mp hx
      exact hts true z hz
    · obtain ⟨z, hz, rfl⟩ := List.mem_map.mp hx
      exact hts false z hz
  · rw [other] at hx nd
    exact f.ko _ x hx nd
  · exact both (Q := fun s => psiI S s F' ≤ Mb n) (by have := f.pn nn st.side; omega) (by rw [po]; exact f.pn nn _) s
  · cases h : st.side
    · rw [h] at k4 po
      have po : psiI S true F' = psiI S true F := po
      omega
    · rw [h] at k4 po
      have po : psiI S false F' = psiI S false F := po
      omega
/-- no step is left -/
theorem frm_end {U : Un} {S : Gs} (w : Wf U S) {i n F : Nat} (f : Frm U S i n F) (hn : n ≤ 6) (hi : SG.ht (S.g i) ≤ 16) (h : stepsOf S F = []) : CanH (S.g F) ∧ LK n (S.g F) := by
  have d0 : dropsOf S F = [] := (List.append_eq_nil_iff.mp h).1
  have b0 : backsOf S F = [] := (List.append_eq_nil_iff.mp h).2
  have ds : ∀ s, ∀ x ∈ opt s (S.g F), ∀ y ∈ opt s (S.g F), leS s x y → leS s y x := fun s x hx y hy le => by
    obtain ⟨a, ha, rfl⟩ := (mem_optG w f.lt).mp hx
    obtain ⟨b, hb, rfl⟩ := (mem_optG w f.lt).mp hy
    by_cases e : b = a
    · rw [e]; exact SG.leS_of (SG.al_refl _)
    · have m := mem_drop ha hb e le
      rw [d0] at m
      cases m
  have bs : ∀ s, ∀ x ∈ opt s (S.g F), ∀ y ∈ opt (!s) x, ¬ leS (!s) (S.g F) y := fun s x hx y hy le => by
    obtain ⟨o, ho, rfl⟩ := (mem_optG w f.lt).mp hx
    have lo := (SG.optI_lt w.wy f.lt ho).2
    obtain ⟨a, ha, rfl⟩ := (mem_optG w lo).mp hy
    have m := mem_back ho ha le
    rw [b0] at m
    cases m
  have can : CanH (S.g F) := by
    refine SG.canH_iff.mpr ⟨⟨⟨fun x hx y hy => ds true x hx y hy, fun x hx y hy le => ds false y hy x hx le, fun x hx a ha => bs true x hx a ha, fun x hx a ha => bs false x hx a ha⟩, fun s => ?_⟩, fun s x hx => ?_⟩
    · rw [optG w f.lt, List.pairwise_map]
      refine List.Pairwise.imp_of_mem (fun {a b} ha hb lt al => ?_) (SG.optI_sorted w.wy f.lt)
      have := SG.c_uniq w (f.c s a ha) (f.c s b hb) al
      omega
    · obtain ⟨o, ho, rfl⟩ := (mem_optG w f.lt).mp hx
      exact (w.inC (f.c s o ho)).2.1
  refine ⟨can, ?_⟩
  by_cases num : Num 64 (S.g F)
  · exact LK.num hn (SG.kap_num _ _ (Nat.le_refl _) (Nat.le_trans f.ht hi) can num)
  · have nn : ¬ Num 64 (S.g i) := fun ⟨t, ht⟩ => num ⟨t, SG.al_trans f.al ht⟩
    have k1 : ∀ s, ∀ x ∈ opt s (S.g F), kap x ≤ Mb (n - 1) := fun s x hx => by
      obtain ⟨o, ho, rfl⟩ := (mem_optG w f.lt).mp hx
      exact f.ko s o ho (no_dom d0 s o ho)
    refine ⟨SG.kap_le' (fun s => ?_) (fun s x hx => Nat.le_trans (k1 s x hx) (SG.Mb_mono (by omega) hn)), k1⟩
    have := f.pn nn s
    unfold psiI at this
    rw [SG.psi_nodom (no_dom d0 s), w_sum w f.lt] at this
    exact this
end K45
end
section
set_option Elab.async false
set_option linter.all false
set_option maxRecDepth 100000
set_option maxHeartbeats 4000000
namespace SG
open Classical in
theorem psi_congr {α : Type} {le le' : α → α → Prop} {w w' : α → Nat} {L : List α} (h : ∀ x ∈ L, ∀ y ∈ L, le x y ↔ le' x y) (hw : ∀ x ∈ L, w x = w' x) : psi le w L = psi le' w' L := by
  unfold psi
  congr 1
  refine List.map_congr_left fun o ho => ?_
  have dom : Dom le L o ↔ Dom le' L o := by
    constructor
    · rintro ⟨y, hy, a, b⟩
      exact ⟨y, hy, (h o ho y hy).mp a, fun q => b ((h y hy o ho).mpr q)⟩
    · rintro ⟨y, hy, a, b⟩
      exact ⟨y, hy, (h o ho y hy).mpr a, fun q => b ((h y hy o ho).mp q)⟩
  by_cases d : Dom le L o
  · rw [if_pos d, if_pos (dom.mp d)]
  · rw [if_neg d, if_neg fun q => d (dom.mpr q), hw o ho]
end SG
namespace K45
open SG (Gs Un UnOk Wf Ext Ex0 gv lf rt optI InC Le Al leS opt wS lamS kap Mb Wb Tb LK CanH CanA Can psi Dom Num IsP IsSum Pu OKp SiOk)
/-- canonical games with canonical options that are alike are the same -/
theorem c_uniq2 {U : Un} {S : Gs} (w : Wf U S) {i j : Nat} (li : i < S.N) (lj : j < S.N) (ci : CanH (S.g i)) (cj : CanH (S.g j)) (oi : ∀ s, ∀ o ∈ optI s S.ns i, InC S o) (oj : ∀ s, ∀ o ∈ optI s S.ns j, InC S o) (e : Al (S.g i) (S.g j)) : i = j := by
  have better : ∀ {s : Bool} {p q : SG.G}, Can p → Al p q → ∀ x ∈ opt s p, ∃ y ∈ opt s q, leS s x y := by
    intro s p q kp e x hx
    cases s
    · have n1 : ¬ Le x q := fun z => SG.right_nle (g := p) hx (SG.le_trans z e.2)
      rcases SG.not_le.mp n1 with ⟨y, hy, k⟩ | ⟨y, hy, k⟩
      · exact absurd (SG.le_trans e.1 k) (kp.br x hx y hy)
      · exact ⟨y, hy, k⟩
    · have n1 : ¬ Le q x := fun z => SG.left_nle (g := p) hx (SG.le_trans e.1 z)
      rcases SG.not_le.mp n1 with ⟨y, hy, k⟩ | ⟨y, hy, k⟩
      · exact ⟨y, hy, k⟩
      · exact absurd (SG.le_trans k e.2) (kp.bl x hx y hy)
  have ds : ∀ {s : Bool} {p : SG.G}, Can p → ∀ x ∈ opt s p, ∀ y ∈ opt s p, leS s x y → leS s y x := by
    intro s p kp x hx y hy k
    cases s
    · exact kp.dr y hy x hx k
    · exact kp.dl x hx y hy k
  have half : ∀ s, ∀ a b : Nat, a < S.N → b < S.N → Can (S.g a) → Can (S.g b) → (∀ o ∈ optI s S.ns a, InC S o) → (∀ o ∈ optI s S.ns b, InC S o) → Al (S.g a) (S.g b) → ∀ o ∈ optI s S.ns a, o ∈ optI s S.ns b := by
    intro s a b la lb ka kb oa ob e o ho
    have mo : S.g o ∈ opt s (S.g a) := (mem_optG w la).mpr ⟨o, ho, rfl⟩
    obtain ⟨y, hy, k1⟩ := better ka e _ mo
    obtain ⟨z, hz, k2⟩ := better kb (SG.al_symm e) y hy
    have k3 := ds ka _ mo z hz (SG.leS_trans s k1 k2)
    have k4 := SG.leS_trans s k2 k3
    obtain ⟨x, hx, rfl⟩ := (mem_optG w lb).mp hy
    rw [SG.c_uniq w (oa o ho) (ob x hx) (SG.leS_al.mp ⟨k1, k4⟩)]
    exact hx
  have ki := (SG.canH_iff.mp ci).1.c
  have kj := (SG.canH_iff.mp cj).1.c
  exact SG.optI_same w.wy li lj fun s => SG.sorted_ext (SG.optI_sorted w.wy li) (SG.optI_sorted w.wy lj) fun o => ⟨half s i j li lj ki kj (oi s) (oj s) e o, half s j i lj li kj ki (oj s) (oi s) (SG.al_symm e) o⟩
abbrev htp (p : Pu) : Nat := SG.ht p.1.2 + SG.ht p.2.2
theorem htp_eq {S : Gs} {i : Nat} {p : Pu} (h : IsP S.ns i p) : SG.ht (S.g i) = htp p := SG.isSum_ht_eq h
theorem un_ht {U : Un} (ok : UnOk U) {p : Pu} (h : p ∈ U.all) : htp p ≤ 16 ∧ p.1.1 + p.2.1 ≤ 6 := by
  obtain ⟨h1, h2⟩ := SG.mem_pu.mp h
  have a := ok.hu _ h1
  have b := ok.hv _ h2
  have c := ok.u.lv p.1.1 p.1.2 h1
  have d := ok.v.lv p.2.1 p.2.2 h2
  exact ⟨by unfold htp; omega, by omega⟩
/-- a labelled game's options are labelled -/
theorem lab_opt {U : Un} {S : Gs} (w : Wf U S) (ok : UnOk U) {i o : Nat} {p : Pu} {s : Bool} (hi : i < S.N) (hp : p ∈ U.all) (h : IsP S.ns i p) (ho : o ∈ optI s S.ns i) :
    ∃ q ∈ U.all, IsP S.ns o q ∧ ((q.2 = p.2 ∧ q.1.2 ∈ opt s p.1.2 ∧ (q.1.1 = 0 ∨ q.1.1 < p.1.1)) ∨ (q.1 = p.1 ∧ q.2.2 ∈ opt s p.2.2 ∧ (q.2.1 = 0 ∨ q.2.1 < p.2.1))) := by
  obtain ⟨h1, h2⟩ := SG.mem_pu.mp hp
  have mo : S.g o ∈ opt s (S.g i) := (mem_optG w hi).mpr ⟨o, ho, rfl⟩
  have q := SG.isSum_iff.mp (show IsSum (S.g i) p.1.2 p.2.2 from h)
  have c : (∃ a ∈ opt s p.1.2, IsSum (S.g o) a p.2.2) ∨ (∃ b ∈ opt s p.2.2, IsSum (S.g o) p.1.2 b) := by
    cases s
    · exact q.r _ mo
    · exact q.l _ mo
  rcases c with ⟨a, ha, c⟩ | ⟨b, hb, c⟩
  · obtain ⟨k', hk, lt⟩ := ok.u.cl p.1.1 p.1.2 h1 s a ha
    exact ⟨((k', a), p.2), SG.mem_pu.mpr ⟨hk, h2⟩, c, .inl ⟨rfl, ha, lt⟩⟩
  · obtain ⟨k', hk, lt⟩ := ok.v.cl p.2.1 p.2.2 h2 s b hb
    exact ⟨(p.1, (k', b)), SG.mem_pu.mpr ⟨h1, hk⟩, c, .inr ⟨rfl, hb, lt⟩⟩
/-- the form that the simplest options make -/
theorem frm_start {U : Un} {S : Gs} (w : Wf U S) (ok : UnOk U) {i F : Nat} {p : Pu} (hi : i < S.N) (hp : p ∈ U.all) (h : IsP S.ns i p) (lt : F < S.N)
    (of : ∀ s, ∀ x ∈ optI s S.ns F, ∃ o ∈ optI s S.ns i, (o, x) ∈ S.si) (all : ∀ s, ∀ o ∈ optI s S.ns i, ∃ x ∈ optI s S.ns F, (o, x) ∈ S.si) :
    Frm U S i (p.1.1 + p.2.1) F ∧ psiI S true F + psiI S false F ≤ 2 * (Mb (p.1.1 + p.2.1) + Wb (p.1.1 + p.2.1 - 1)) := by
  obtain ⟨h1, h2⟩ := SG.mem_pu.mp hp
  have hti := htp_eq h
  obtain ⟨b1, b2⟩ := un_ht ok hp
  have q := SG.isSum_iff.mp (show IsSum (S.g i) p.1.2 p.2.2 from h)
  have alo : ∀ s, ∀ x ∈ optI s S.ns F, ∃ o ∈ optI s S.ns i, Al (S.g x) (S.g o) ∧ SG.ht (S.g x) ≤ SG.ht (S.g o) ∧ SiOk U S o x := fun s x hx => by
    obtain ⟨o, ho, m⟩ := of s x hx
    have k := w.si o x m
    exact ⟨o, ho, k.al, k.ht, k⟩
  have inc : ∀ s, ∀ x ∈ optI s S.ns F, InC S x := fun s x hx => let ⟨o, _, m⟩ := of s x hx; ⟨o, m⟩
  have bo : ∀ s, ∀ o ∈ optI s S.ns i, SG.ht (S.g o) < SG.ht (S.g i) := fun s o ho => SG.optI_ht w.wy hi ho
  have cov : ∀ s, ∀ x ∈ optI s S.ns F, (Num 64 (S.g x) → kap (S.g x) ≤ 8) ∧ ((∃ a k', a ∈ opt s p.1.2 ∧ (k', a) ∈ U.us ∧ (k' = 0 ∨ k' < p.1.1) ∧ Al (S.g x) (SG.add a p.2.2) ∧ LK (k' + p.2.1) (S.g x)) ∨
      (∃ b j', b ∈ opt s p.2.2 ∧ (j', b) ∈ U.vs ∧ (j' = 0 ∨ j' < p.2.1) ∧ Al (S.g x) (SG.add p.1.2 b) ∧ LK (p.1.1 + j') (S.g x))) := fun s x hx => by
    obtain ⟨o, ho, e1, e2, k⟩ := alo s x hx
    refine ⟨fun num => SG.kap_num _ _ (Nat.le_refl _) ?_ k.can num, ?_⟩
    · have := bo s o ho
      omega
    · obtain ⟨r, hr, hr2, c⟩ := lab_opt w ok hi hp h ho
      have lk := k.lk r hr hr2
      have as := SG.al_trans e1 (SG.isSum_al hr2)
      obtain ⟨m1, m2⟩ := SG.mem_pu.mp hr
      rcases c with ⟨c1, c2, c3⟩ | ⟨c1, c2, c3⟩
      · rw [c1] at lk as
        exact .inl ⟨r.1.2, r.1.1, c2, m1, c3, as, lk⟩
      · rw [c1] at lk as
        exact .inr ⟨r.2.2, r.2.1, c2, m2, c3, as, lk⟩
  have find : ∀ s z, z ∈ opt s (S.g i) → ∃ x ∈ optI s S.ns F, Al (S.g x) z := fun s z hz => by
    obtain ⟨o, ho, rfl⟩ := (mem_optG w hi).mp hz
    obtain ⟨x, hx, m⟩ := all s o ho
    exact ⟨x, hx, (w.si o x m).al⟩
  have all1 : ∀ s, ∀ a ∈ opt s p.1.2, ∃ x ∈ optI s S.ns F, Al (S.g x) (SG.add a p.2.2) := fun s a ha => by
    have : ∃ l ∈ opt s (S.g i), IsSum l a p.2.2 := by
      cases s
      · exact q.rx a ha
      · exact q.lx a ha
    obtain ⟨l, hl, c⟩ := this
    obtain ⟨x, hx, e⟩ := find s l hl
    exact ⟨x, hx, SG.al_trans e (SG.isSum_al c)⟩
  have all2 : ∀ s, ∀ b ∈ opt s p.2.2, ∃ x ∈ optI s S.ns F, Al (S.g x) (SG.add p.1.2 b) := fun s a ha => by
    have : ∃ l ∈ opt s (S.g i), IsSum l p.1.2 a := by
      cases s
      · exact q.ry a ha
      · exact q.ly a ha
    obtain ⟨l, hl, c⟩ := this
    obtain ⟨x, hx, e⟩ := find s l hl
    exact ⟨x, hx, SG.al_trans e (SG.isSum_al c)⟩
  have nd : ∀ s, (optI s S.ns F).Nodup := fun s => SG.rise_nodup (SG.optI_sorted w.wy lt)
  have an : ∀ s, ∀ x ∈ optI s S.ns F, ∀ y ∈ optI s S.ns F, Al (S.g x) (S.g y) → x = y := fun s x hx y hy e => SG.c_uniq w (inc s x hx) (inc s y hy) e
  have st := fun s => SG.start_psi ok.u ok.v h1 h2 (nd s) (an s) (cov s) (all1 s) (all2 s)
  have sn := fun s x hx n => SG.start_nd ok.u ok.v h1 h2 (nd s) (an s) (cov s) (all1 s) (all2 s) (x := x) hx n
  have al : Al (S.g F) (S.g i) := by
    refine SG.al_of (fun x hx => ?_) (fun x hx => ?_) (fun x hx => ?_) fun x hx => ?_
    · obtain ⟨y, hy, rfl⟩ := (mem_optG w lt (s := true)).mp hx
      obtain ⟨o, ho, e, _⟩ := alo true y hy
      exact ⟨S.g o, (mem_optG w hi (s := true)).mpr ⟨o, ho, rfl⟩, e.1⟩
    · obtain ⟨y, hy, e⟩ := find true x hx
      exact ⟨S.g y, (mem_optG w lt (s := true)).mpr ⟨y, hy, rfl⟩, e.2⟩
    · obtain ⟨y, hy, rfl⟩ := (mem_optG w lt (s := false)).mp hx
      obtain ⟨o, ho, e, _⟩ := alo false y hy
      exact ⟨S.g o, (mem_optG w hi (s := false)).mpr ⟨o, ho, rfl⟩, e.2⟩
    · obtain ⟨y, hy, e⟩ := find false x hx
      exact ⟨S.g y, (mem_optG w lt (s := false)).mpr ⟨y, hy, rfl⟩, e.1⟩
  refine ⟨⟨lt, inc, al, ?_, fun s x hx n => (sn s x hx n).1, fun nn s => (st s).2 fun ⟨t, ht⟩ => nn ⟨t, SG.al_trans (SG.isSum_al h) ht⟩⟩, ?_⟩
  · rw [mkG w lt]
    refine SG.ht_le (fun x hx => ?_) fun x hx => ?_
    · obtain ⟨y, hy, rfl⟩ := List.mem_map.mp hx
      obtain ⟨o, ho, _, e, _⟩ := alo true y hy
      have := bo true o ho
      omega
    · obtain ⟨y, hy, rfl⟩ := List.mem_map.mp hx
      obtain ⟨o, ho, _, e, _⟩ := alo false y hy
      have := bo false o ho
      omega
  · have a := (st true).1
    have b := (st false).1
    have a : psiI S true F ≤ Mb (p.1.1 + p.2.1) + Wb (p.1.1 + p.2.1 - 1) := a
    have b : psiI S false F ≤ Mb (p.1.1 + p.2.1) + Wb (p.1.1 + p.2.1 - 1) := b
    omega
theorem psiI_ext {U : Un} {S S' : Gs} (w : Wf U S) (x : Ex0 S S') {F : Nat} (lt : F < S.N) (s : Bool) : psiI S' s F = psiI S s F := by
  have lo : ∀ {o}, o ∈ optI s S.ns F → o < S.N := fun ho => (SG.optI_lt w.wy lt ho).2
  unfold psiI
  rw [x.o lt s]
  refine SG.psi_congr (fun a ha b hb => ?_) fun a ha => ?_
  · unfold leI
    rw [x.g (lo ha), x.g (lo hb)]
  · unfold wI
    rw [x.g (lo ha)]
theorem Frm.ext {U : Un} {S S' : Gs} (w : Wf U S) (x : Ex0 S S') {i n F : Nat} (hi : i < S.N) (f : Frm U S i n F) : Frm U S' i n F := by
  have lo : ∀ {s o}, o ∈ optI s S.ns F → o < S.N := fun ho => (SG.optI_lt w.wy f.lt ho).2
  refine ⟨x.lt f.lt, fun s o ho => x.c (f.c s o (by rwa [x.o f.lt s] at ho)), by rw [x.g f.lt, x.g hi]; exact f.al, by rw [x.g f.lt, x.g hi]; exact f.ht, fun s z hz n => ?_, fun nn s => ?_⟩
  · rw [x.o f.lt s] at hz
    rw [x.g (lo hz)]
    refine f.ko s z hz fun ⟨y, hy, a, b⟩ => n ⟨y, by rw [x.o f.lt s]; exact hy, ?_, ?_⟩
    · unfold leI
      rw [x.g (lo hz), x.g (lo hy)]
      exact a
    · unfold leI
      rw [x.g (lo hz), x.g (lo hy)]
      exact b
  · rw [psiI_ext w x f.lt]
    exact f.pn (by rwa [x.g hi] at nn) s
end K45
end
section
set_option Elab.async false
set_option linter.all false
set_option maxRecDepth 100000
set_option maxHeartbeats 4000000
namespace K45
open SG (Gs Un UnOk Wf Ext Ex0 gv lf rt optI InC Le Al leS opt wS lamS kap Mb Wb Tb LK CanH CanA Can psi Dom Num IsP IsSum Pu OKp OKr SiOk)
def Lab (U : Un) (S : Gs) (i : Nat) : Prop := ∃ p ∈ U.all, IsP S.ns i p
theorem LK.mono {m n : Nat} {g : SG.G} (h : LK m g) (le : m ≤ n) (hn : n ≤ 6) : LK n g :=
  ⟨Nat.le_trans h.1 (SG.Mb_mono le hn), fun s x hx => Nat.le_trans (h.2 s x hx) (SG.Mb_mono (by omega) (by omega))⟩
/-- a label of the lowest level -/
theorem lab_min {U : Un} {S : Gs} {i : Nat} (h : Lab U S i) : ∃ p ∈ U.all, IsP S.ns i p ∧ ∀ q ∈ U.all, IsP S.ns i q → p.1.1 + p.2.1 ≤ q.1.1 + q.2.1 := by
  have go : ∀ n : Nat, (∃ p ∈ U.all, IsP S.ns i p ∧ p.1.1 + p.2.1 ≤ n) → ∃ p ∈ U.all, IsP S.ns i p ∧ ∀ q ∈ U.all, IsP S.ns i q → p.1.1 + p.2.1 ≤ q.1.1 + q.2.1 := by
    intro n
    induction n with
    | zero =>
      rintro ⟨p, h1, h2, h3⟩
      exact ⟨p, h1, h2, fun q _ _ => by omega⟩
    | succ n ih =>
      rintro ⟨p, h1, h2, h3⟩
      by_cases c : ∃ q ∈ U.all, IsP S.ns i q ∧ q.1.1 + q.2.1 ≤ n
      · exact ih c
      · refine ⟨p, h1, h2, fun q hq hq2 => ?_⟩
        by_cases d : q.1.1 + q.2.1 ≤ n
        · exact absurd ⟨q, hq, hq2, d⟩ c
        · omega
  obtain ⟨p, h1, h2⟩ := h
  exact go _ ⟨p, h1, h2, Nat.le_refl _⟩
theorem lab_len {U : Un} {S : Gs} (w : Wf U S) (ok : UnOk U) {i : Nat} (hi : i < S.N) (h : Lab U S i) (s : Bool) : (optI s S.ns i).length ≤ 225 := by
  obtain ⟨p, hp, hp2⟩ := h
  have hq : ∀ o : Nat, ∃ q : Pu, o ∈ optI s S.ns i → q ∈ U.all ∧ IsP S.ns o q := fun o => by
    by_cases m : o ∈ optI s S.ns i
    · obtain ⟨q, h1, h2, _⟩ := lab_opt w ok hi hp hp2 m
      exact ⟨q, fun _ => ⟨h1, h2⟩⟩
    · exact ⟨p, fun z => absurd z m⟩
  have k := SG.len_sub (SG.nodup_map (f := fun o => (hq o).choose) (SG.rise_nodup (SG.optI_sorted w.wy hi (s := s))) fun x hx y hy e => by
    have a := ((hq x).choose_spec hx).2
    have b := ((hq y).choose_spec hy).2
    have e' : (hq x).choose = (hq y).choose := e
    rw [e'] at a
    exact SG.sum_uniq w.wy (SG.optI_lt w.wy hi hx).2 (SG.optI_lt w.wy hi hy).2 a b) (M := U.all) fun q hq' => by
    obtain ⟨o, ho, rfl⟩ := List.mem_map.mp hq'
    exact ((hq o).choose_spec ho).1
  rw [List.length_map] at k
  have := ok.len
  omega
/-- the work on a game is begun -/
structure Opn (U : Un) (S S1 : Gs) (i : Nat) : Prop where
  wf : Wf U S1
  ns : S1.ns = S.ns
  al : S1.al = S.al
  si : S1.si = S.si
  pl : S1.pl = S.pl
  nu : S1.nu = S.nu
  md : S1.md = S.md
  st : S1.st = S.st
  op : ∀ q, ¬ IsP S.ns i q → OKp S q → OKp S1 q
  or : ∀ q, OKr S q → OKr S1 q
  sl : S.slack ≤ S1.slack
theorem Opn.ex {U : Un} {S S1 : Gs} {i : Nat} (o : Opn U S S1 i) : Ex0 S S1 := ⟨⟨[], by rw [o.ns, List.append_nil]⟩, fun e h => by rw [o.si]; exact h⟩
theorem si_close {U : Un} {S S1 S' : Gs} {i F : Nat} (w : Wf U S') (o : Opn U S S1 i) (x : Ext S1 S') (hi : i < S.N) (k : SiOk U (S'.putSi i F) i F) (hn : i ∉ S'.si.map (·.1)) (hs : S.slack ≤ S'.slack) :
    Wf U ((S'.putSi i F).withSlack S.slack) ∧ Ext S ((S'.putSi i F).withSlack S.slack) := by
  obtain ⟨w1, x1⟩ := SG.wf_si w k hn
  obtain ⟨w2, x2⟩ := SG.wf_slack w1 (n := S.slack) hs
  have x3 := x.trans (x1.trans x2)
  have x4 := o.ex.trans x3.ex0
  refine ⟨w2, x4.ns, x4.si, fun q h => ?_, fun q h => x3.or q (o.or q h)⟩
  by_cases c : IsP S.ns i q
  · exact .inr ⟨i, F, List.mem_append_right _ (List.mem_singleton.mpr rfl), x4.lt hi, (x4.isP hi).mpr c⟩
  · exact x3.op q (o.op q c h)
theorem si_close' {U : Un} {S S1 S' : Gs} {i F : Nat} (w : Wf U S') (o : Opn U S S1 i) (x : Ext S1 S') (hi : i < S.N) (k : (i, F) ∈ S'.si) (hs : S.slack ≤ S'.slack) :
    Wf U (S'.withSlack S.slack) ∧ Ext S (S'.withSlack S.slack) := by
  obtain ⟨w2, x2⟩ := SG.wf_slack w (n := S.slack) hs
  have x3 := x.trans x2
  have x4 := o.ex.trans x3.ex0
  refine ⟨w2, x4.ns, x4.si, fun q h => ?_, fun q h => x3.or q (o.or q h)⟩
  by_cases c : IsP S.ns i q
  · exact .inr ⟨i, F, k, x4.lt hi, (x4.isP hi).mpr c⟩
  · exact x3.op q (o.op q c h)
/-- what the loop over the steps keeps -/
def Jn (U : Un) (S S' : Gs) (i n F : Nat) : Prop := S.slack ≤ S'.slack ∧ ((Lab U S' i ∧ Frm U S' i n F ∧ psiI S' true F + psiI S' false F + S.slack ≤ S'.slack) ∨ (F = i ∧ InC S' i ∧ ¬ Lab U S' i))
theorem Jn.fo {U : Un} {S S' : Gs} {i n F : Nat} (w : Wf U S') (hi : i < S'.N) (hti : SG.ht (S'.g i) ≤ 16) (j : Jn U S S' i n F) : FormOk S' F := by
  rcases j.2 with ⟨_, f, _⟩ | ⟨rfl, c, _⟩
  · exact ⟨f.lt, f.c, Nat.le_trans f.ht hti⟩
  · obtain ⟨a, _, b, _⟩ := w.inC c
    exact ⟨a, b, hti⟩
theorem inC_steps {U : Un} {S : Gs} (w : Wf U S) {i : Nat} (c : InC S i) : stepsOf S i = [] := by
  obtain ⟨li, can, cl, _⟩ := w.inC c
  have k := (SG.canH_iff.mp can).1
  cases e : stepsOf S i with
  | nil => rfl
  | cons st r =>
    have m : st ∈ stepsOf S i := by rw [e]; exact List.mem_cons_self ..
    have q := step_mem m
    cases st with
    | drop s o =>
      obtain ⟨ho, x, hx, ne, le⟩ := q
      have m1 := (mem_optG w li).mpr ⟨o, ho, rfl⟩
      have m2 := (mem_optG w li).mpr ⟨x, hx, rfl⟩
      have al : Al (S.g o) (S.g x) := by
        cases s
        · exact ⟨k.c.dr _ m2 _ m1 le, le⟩
        · exact ⟨le, k.c.dl _ m1 _ m2 le⟩
      exact absurd (SG.c_uniq w (cl s o ho) (cl s x hx) al).symm ne
    | back s o a =>
      obtain ⟨ho, ha, le⟩ := q
      have m1 := (mem_optG w li).mpr ⟨o, ho, rfl⟩
      have m2 := (mem_optG w (SG.optI_lt w.wy li ho).2).mpr ⟨a, ha, rfl⟩
      cases s
      · exact absurd le (k.c.br _ m1 _ m2)
      · exact absurd le (k.c.bl _ m1 _ m2)
theorem steps_ext {U : Un} {S S' : Gs} (w : Wf U S) (x : Ex0 S S') {F : Nat} (f : FormOk S F) {st : Stp} : st ∈ stepsOf S' F ↔ st ∈ stepsOf S F := by
  have lo : ∀ {s o}, o ∈ optI s S.ns F → o < S.N := fun ho => (f.o w ho).1
  have ls : ∀ {s} {a b : Nat}, a < S.N → b < S.N → (leS s (S'.g a) (S'.g b) ↔ leS s (S.g a) (S.g b)) := fun ha hb => by rw [x.g ha, x.g hb]
  constructor
  · intro h
    have q := step_mem h
    cases st with
    | drop s o =>
      obtain ⟨ho, y, hy, ne, le⟩ := q
      rw [x.o f.lt s] at ho hy
      exact List.mem_append_left _ (mem_drop ho hy ne ((ls (lo ho) (lo hy)).mp le))
    | back s o a =>
      obtain ⟨ho, ha, le⟩ := q
      rw [x.o f.lt s] at ho
      rw [x.o (lo ho) (!s)] at ha
      exact List.mem_append_right _ (mem_back ho ha ((ls f.lt ((f.opt w ho).o w ha).1).mp le))
  · intro h
    have q := step_mem h
    cases st with
    | drop s o =>
      obtain ⟨ho, y, hy, ne, le⟩ := q
      exact List.mem_append_left _ (mem_drop (by rw [x.o f.lt s]; exact ho) (by rw [x.o f.lt s]; exact hy) ne ((ls (lo ho) (lo hy)).mpr le))
    | back s o a =>
      obtain ⟨ho, ha, le⟩ := q
      exact List.mem_append_right _ (mem_back (by rw [x.o f.lt s]; exact ho) (by rw [x.o (lo ho) (!s)]; exact ha) ((ls f.lt ((f.opt w ho).o w ha).1).mpr le))
theorem drops_iff {S : Gs} {F : Nat} {st : Stp} : st ∈ dropsOf S F ↔ st ∈ stepsOf S F ∧ ∃ s o, st = .drop s o := by
  constructor
  · intro h
    refine ⟨List.mem_append_left _ h, ?_⟩
    unfold dropsOf at h
    rcases List.mem_append.mp h with h | h
    · obtain ⟨o, _, rfl⟩ := List.mem_map.mp h; exact ⟨_, o, rfl⟩
    · obtain ⟨o, _, rfl⟩ := List.mem_map.mp h; exact ⟨_, o, rfl⟩
  · rintro ⟨h, s, o, rfl⟩
    obtain ⟨ho, y, hy, ne, le⟩ := step_mem h
    exact mem_drop ho hy ne le
theorem Jn.step {U : Un} {S S' S5 : Gs} {i n F F' : Nat} {st : Stp} {rest : List Stp} (w5 : Wf U S5) (x : Ex0 S' S5) (w' : Wf U S') (hi : i < S'.N) (hti : SG.ht (S'.g i) ≤ 16) (j : Jn U S S' i n F) (e : stepsOf S' F = st :: rest) (lt : F' < S5.N) (sl : S'.slack ≤ S5.slack + 1)
    (hl : ∀ z, z ∈ optI true S5.ns F' ↔ z ∈ sideL S' F st.side (st.news S' F)) (hr : ∀ z, z ∈ optI false S5.ns F' ↔ z ∈ sideR S' F st.side (st.news S' F)) :
    Jn U S S5 i n F' ∧ psiI S5 true F' + psiI S5 false F' < psiI S' true F + psiI S' false F := by
  have fo := j.fo w' hi hti
  have m : st ∈ stepsOf S' F := by rw [e]; exact List.mem_cons_self ..
  rcases j.2 with ⟨lab, f, ps⟩ | ⟨rfl, c, _⟩
  · have hb : dropsOf S' F = [] ∨ st ∈ dropsOf S' F := by
      cases ed : dropsOf S' F with
      | nil => exact .inl rfl
      | cons d r =>
        unfold stepsOf at e
        rw [ed, List.cons_append] at e
        injection e with e _
        exact .inr (by rw [e]; exact List.mem_cons_self ..)
    have m5 := (steps_ext w' x fo).mpr m
    have hb5 : dropsOf S5 F = [] ∨ st ∈ dropsOf S5 F := by
      rcases hb with h | h
      · refine .inl ?_
        cases ed : dropsOf S5 F with
        | nil => rfl
        | cons d r =>
          have q := drops_iff.mp (show d ∈ dropsOf S5 F by rw [ed]; exact List.mem_cons_self ..)
          have := drops_iff.mpr ⟨(steps_ext w' x fo).mp q.1, q.2⟩
          rw [h] at this
          cases this
      · have q := drops_iff.mp h
        exact .inr (drops_iff.mpr ⟨m5, q.2⟩)
    have f5 := f.ext w' x hi
    have lo : ∀ {s o}, o ∈ optI s S'.ns F → o < S'.N := fun ho => (fo.o w' ho).1
    have news : ∀ z, z ∈ st.news S5 F ↔ z ∈ st.news S' F := fun z => by
      rw [mem_news, mem_news]
      have q := step_mem m
      cases st with
      | drop s o => show (z ∈ optI s S5.ns F ∧ z ≠ o) ↔ _; rw [x.o f.lt s]
      | back s o a =>
        obtain ⟨ho, ha, _⟩ := q
        show ((z ∈ optI s S5.ns F ∧ z ≠ o) ∨ z ∈ optI s S5.ns a) ↔ _
        rw [x.o f.lt s, x.o ((fo.opt w' ho).o w' ha).1 s]
    have sorted : ∀ s, (optI s S5.ns F').Pairwise (· < ·) := fun s => SG.optI_sorted w5.wy lt
    have side : ∀ z, z ∈ optI st.side S5.ns F' ↔ z ∈ st.news S5 F := fun z => by
      rw [news z]
      cases h : st.side
      · rw [hr z]; unfold sideR; rw [h]; rfl
      · rw [hl z]; unfold sideL; rw [h]; rfl
    have other : optI (!st.side) S5.ns F' = optI (!st.side) S5.ns F := by
      refine SG.sorted_ext (sorted _) (SG.optI_sorted w5.wy f5.lt) fun z => ?_
      rw [x.o f.lt]
      cases h : st.side
      · show z ∈ optI true S5.ns F' ↔ _
        rw [hl z]; unfold sideL; rw [h]; rfl
      · show z ∈ optI false S5.ns F' ↔ _
        rw [hr z]; unfold sideR; rw [h]; rfl
    obtain ⟨g1, g2⟩ := frm_step w5 f5 m5 hb5 lt side other
    rw [psiI_ext w' x f.lt, psiI_ext w' x f.lt] at g2
    obtain ⟨p, hp, hp2⟩ := lab
    exact ⟨⟨by omega, .inl ⟨⟨p, hp, (x.isP hi).mpr hp2⟩, g1, by omega⟩⟩, by omega⟩
  · rw [inC_steps w' c] at e
    cases e
/-- no step left: the entry of the book -/
theorem Jn.fin {U : Un} {S S' : Gs} {i n F : Nat} (w : Wf U S') (ok : UnOk U) (hi : i < S'.N) (hti : SG.ht (S'.g i) ≤ 16) (j : Jn U S S' i n F) (hn : n ≤ 6) (hmin : ∀ q ∈ U.all, IsP S'.ns i q → n ≤ q.1.1 + q.2.1) (e : stepsOf S' F = []) : SiOk U (S'.putSi i F) i F ∧ ∀ f', (i, f') ∈ S'.si → f' = F := by
  have x : Ex0 S' (S'.putSi i F) := ⟨⟨[], (List.append_nil _).symm⟩, fun _ h => List.mem_append_left _ h⟩
  have main : CanH (S'.g F) ∧ Al (S'.g F) (S'.g i) ∧ SG.ht (S'.g F) ≤ SG.ht (S'.g i) ∧ F < S'.N ∧ (∀ s, ∀ o ∈ optI s S'.ns F, InC S' o) ∧ (∃ p ∈ U.all, Al (S'.g F) (SG.add p.1.2 p.2.2)) ∧ (∀ p ∈ U.all, IsP S'.ns i p → LK (p.1.1 + p.2.1) (S'.g F)) := by
    rcases j.2 with ⟨⟨p, hp, hp2⟩, f, _⟩ | ⟨rfl, c, nl⟩
    · obtain ⟨c1, c2⟩ := frm_end w f hn hti e
      exact ⟨c1, f.al, f.ht, f.lt, f.c, ⟨p, hp, SG.al_trans f.al (SG.isSum_al hp2)⟩, fun p hp hp2 => LK.mono c2 (hmin p hp hp2) (un_ht ok hp).2⟩
    · obtain ⟨a, b, d, l⟩ := w.inC c
      exact ⟨b, SG.al_refl _, Nat.le_refl _, a, d, l, fun p hp hp2 => absurd ⟨p, hp, hp2⟩ nl⟩
  obtain ⟨m1, m2, m3, m4, m5, m6, m7⟩ := main
  refine ⟨⟨hi, m4, m1, m2, m3, fun s o ho => x.c (m5 s o ho), m6, m7⟩, fun f' hf => ?_⟩
  have k := w.si i f' hf
  exact c_uniq2 w k.lf m4 k.can m1 k.cl m5 (SG.al_trans k.al (SG.al_symm m2))
end K45
end
section
set_option Elab.async false
set_option linter.all false
set_option maxRecDepth 100000
set_option maxHeartbeats 4000000
namespace K45
section
open SG (Gs Un UnOk Wf Ext Ex0 gv lf rt optI InC Le Al leS opt wS lamS kap Mb Wb Tb LK CanH CanA Can psi Dom Num IsP IsSum Pu OKp OKr SiOk)
theorem open_i {U : Un} {S : Gs} (w : Wf U S) (ok : UnOk U) {i : Nat} (hi : i < S.N) (hni : i ∉ S.si.map (·.1)) (hl : Lab U S i ∨ InC S i) (hop : ∀ p ∈ U.all, htp p ≤ SG.ht (S.g i) → OKp S p) :
    ∃ S1 n, Opn U S S1 i ∧ n ≤ 6 ∧ (∀ q ∈ U.all, IsP S.ns i q → n ≤ q.1.1 + q.2.1) ∧ ((∃ p ∈ U.all, IsP S.ns i p ∧ n = p.1.1 + p.2.1 ∧ S1.slack = S.slack + Tb n) ∨ (InC S i ∧ ¬ Lab U S i ∧ S1 = S)) := by
  by_cases lab : Lab U S i
  · obtain ⟨p, hp, h1, h2⟩ := lab_min lab
    have : p ∈ S.pend := by
      rcases hop p hp (by rw [htp_eq h1]; exact Nat.le_refl _) with h | ⟨i', f, m, li, q⟩
      · exact h
      · have := SG.sum_uniq w.wy li hi q h1
        exact absurd (List.mem_map.mpr ⟨(i', f), m, this⟩) hni
    obtain ⟨m, w1, x1, o1, o2⟩ := SG.wf_open w this
    exact ⟨_, p.1.1 + p.2.1, ⟨w1, rfl, rfl, rfl, rfl, rfl, rfl, rfl, fun q nq h => o1 q (fun e => nq (by rw [e]; exact h1)) h, o2, Nat.le_add_right _ _⟩, (un_ht ok hp).2, h2, .inl ⟨p, hp, h1, rfl, rfl⟩⟩
  · exact ⟨S, 0, ⟨w, rfl, rfl, rfl, rfl, rfl, rfl, rfl, fun _ _ h => h, fun _ h => h, Nat.le_refl _⟩, by decide, fun q hq h => absurd ⟨q, hq, h⟩ lab, .inr ⟨hl.resolve_left lab, lab, rfl⟩⟩
abbrev Pr (S : Gs) (L fs : List Nat) : Prop := PySem.Paired (fun o f => (o, f) ∈ S.si) L fs
theorem Pr.fwd {S : Gs} : ∀ {L fs : List Nat}, Pr S L fs → ∀ o ∈ L, ∃ f ∈ fs, (o, f) ∈ S.si
  | _, _, .nil, o, ho => by cases ho
  | _, _, .cons h t, o, ho => by
    rcases List.mem_cons.mp ho with rfl | ho
    · exact ⟨_, List.mem_cons_self .., h⟩
    · obtain ⟨f, hf, q⟩ := Pr.fwd t o ho
      exact ⟨f, List.mem_cons_of_mem _ hf, q⟩
theorem Pr.bwd {S : Gs} : ∀ {L fs : List Nat}, Pr S L fs → ∀ f ∈ fs, ∃ o ∈ L, (o, f) ∈ S.si
  | _, _, .nil, o, ho => by cases ho
  | _, _, .cons h t, o, ho => by
    rcases List.mem_cons.mp ho with rfl | ho
    · exact ⟨_, List.mem_cons_self .., h⟩
    · obtain ⟨f, hf, q⟩ := Pr.bwd t o ho
      exact ⟨f, List.mem_cons_of_mem _ hf, q⟩
theorem Pr.ext {S S' : Gs} {L fs : List Nat} (x : Ex0 S S') (h : Pr S L fs) : Pr S' L fs := L2.Paired.mapP h fun _ _ z => x.si _ z
theorem form_lab {U : Un} {S S1 S3 S4 : Gs} (ok : UnOk U) {i F n : Nat} {fs1 fs2 : List Nat} (o : Opn U S S1 i) (x3 : Ex0 S1 S3) (x4 : Ex0 S3 S4) (w4 : Wf U S4) (hi : i < S.N) {p : Pu} (hp : p ∈ U.all) (h : IsP S.ns i p) (hn : n = p.1.1 + p.2.1) (sl1 : S1.slack = S.slack + Tb n) (sl3 : S3.slack = S1.slack) (sl4 : S3.slack ≤ S4.slack + 1)
    (p1 : Pr S3 (optI true S.ns i) fs1) (p2 : Pr S3 (optI false S.ns i) fs2) (lt : F < S4.N) (hl : ∀ z, z ∈ optI true S4.ns F ↔ z ∈ fs1) (hr : ∀ z, z ∈ optI false S4.ns F ↔ z ∈ fs2) : Jn U S S4 i n F := by
  have x := o.ex.trans (x3.trans x4)
  have h4 := (x.isP hi).mpr h
  have q1 := p1.ext x4
  have q2 := p2.ext x4
  obtain ⟨f, ps⟩ := frm_start w4 ok (x.lt hi) hp h4 lt (fun s z hz => by
    rw [x.o hi s]
    cases s
    · exact q2.bwd z ((hr z).mp hz)
    · exact q1.bwd z ((hl z).mp hz)) (fun s z hz => by
    rw [x.o hi s] at hz
    cases s
    · obtain ⟨f, hf, q⟩ := q2.fwd z hz
      exact ⟨f, (hr f).mpr hf, q⟩
    · obtain ⟨f, hf, q⟩ := q1.fwd z hz
      exact ⟨f, (hl f).mpr hf, q⟩)
  rw [← hn] at f ps
  have : Tb n = 2 * (Mb n + Wb (n - 1)) + 1 := rfl
  exact ⟨by omega, .inl ⟨⟨p, hp, h4⟩, f, by omega⟩⟩
theorem form_c {U : Un} {S S3 : Gs} {i : Nat} {fs1 fs2 l r : List Nat} (w : Wf U S) (w3 : Wf U S3) (x : Ex0 S S3) (hi : i < S.N) (c : InC S i) (p1 : Pr S3 (optI true S.ns i) fs1) (p2 : Pr S3 (optI false S.ns i) fs2) (sl : l.Pairwise (· < ·)) (ml : ∀ z, z ∈ l ↔ z ∈ fs1) (sr : r.Pairwise (· < ·)) (mr : ∀ z, z ∈ r ↔ z ∈ fs2) :
    lf S3.ns i = l ∧ rt S3.ns i = r := by
  have eq : ∀ s o f, o ∈ optI s S.ns i → (o, f) ∈ S3.si → f = o := fun s o f ho m => by
    have k := w3.si o f m
    exact SG.c_uniq w3 ⟨o, m⟩ (x.c ((w.inC c).2.2.1 s o ho)) k.al
  have half : ∀ s fs l', Pr S3 (optI s S.ns i) fs → l'.Pairwise (· < ·) → (∀ z, z ∈ l' ↔ z ∈ fs) → optI s S3.ns i = l' := fun s fs l' p sl ml => by
    refine SG.sorted_ext (SG.optI_sorted w3.wy (x.lt hi)) sl fun z => ?_
    rw [x.o hi s, ml z]
    constructor
    · intro hz
      obtain ⟨f, hf, q⟩ := p.fwd z hz
      rw [eq s z f hz q] at hf
      exact hf
    · intro hz
      obtain ⟨o, ho, q⟩ := p.bwd z hz
      rw [eq s o z ho q]
      exact ho
  exact ⟨half true fs1 l p1 sl ml, half false fs2 r p2 sr mr⟩
theorem push_opt (S : Gs) (l r : List Nat) : S.N < (S.push l r).N ∧ optI true (S.push l r).ns S.N = l ∧ optI false (S.push l r).ns S.N = r := by
  have q := SG.gv_at (ns := (S.push l r).ns) (i := S.ns.length) (nd := ⟨l, r, .mk (l.map (gv S.ns)) (r.map (gv S.ns))⟩) (by
    show (S.ns ++ [_])[S.ns.length]? = _
    rw [List.getElem?_append_right (Nat.le_refl _), Nat.sub_self]
    rfl)
  refine ⟨?_, q.2.1, q.2.2⟩
  show S.ns.length < (S.ns ++ [_]).length
  rw [List.length_append]
  exact Nat.lt_succ_self _
end
open PySem PySem.Spec PyProof.Rows L2
open SG (Gs Un UnOk Wf Ext Ex0 gv lf rt optI InC OKp IsP)
open Classical in
theorem _root_.SG.psi_pos {α : Type} {le : α → α → Prop} {w : α → Nat} (w1 : ∀ x, 1 ≤ w x) {L : List α} {o : α} (h : o ∈ L) : 1 ≤ SG.psi le w L := by
  obtain ⟨s, t, rfl⟩ := List.append_of_mem h
  unfold SG.psi
  rw [List.map_append, List.sum_append, List.map_cons, List.sum_cons]
  have : 1 ≤ (if SG.Dom le (s ++ o :: t) o then 1 else w o) := by
    split
    · exact Nat.le_refl _
    · exact w1 o
  omega
theorem step_side {S : Gs} {F : Nat} {st : Stp} (h : st ∈ stepsOf S F) : ∃ o, o ∈ optI st.side S.ns F := by
  have q := step_mem h
  cases st with
  | drop s o => exact ⟨o, q.1⟩
  | back s o a => exact ⟨o, q.1⟩
theorem news_lt {U : Un} {S : Gs} (w : Wf U S) {F : Nat} {st : Stp} (f : FormOk S F) (h : st ∈ stepsOf S F) : (∀ z ∈ sideL S F st.side (st.news S F), z < S.N) ∧ (∀ z ∈ sideR S F st.side (st.news S F), z < S.N) := by
  have n : ∀ z ∈ st.news S F, z < S.N := fun z hz => by
    have m := mem_news.mp hz
    have q := step_mem h
    cases st with
    | drop s o => exact (f.o w m.1).1
    | back s o a =>
      rcases m with m | m
      · exact (f.o w m.1).1
      · exact (((f.opt w q.1).opt w q.2.1).o w m).1
  have o : ∀ s, ∀ z ∈ optI s S.ns F, z < S.N := fun s z hz => (f.o w hz).1
  unfold sideL sideR
  cases st.side
  · exact ⟨o true, n⟩
  · exact ⟨n, o false⟩
theorem Jn.al {U : Un} {S S' : Gs} {i n F : Nat} (w : Wf U S') (hi : i < S'.N) (j : Jn U S S' i n F) (al : List ((Nat × Nat) × Bool)) : Jn U S (withAl S' al) i n F := by
  refine ⟨j.1, ?_⟩
  rcases j.2 with ⟨l, f, q⟩ | ⟨a, b, c⟩
  · exact .inl ⟨l, f.ext w (show Ex0 S' (withAl S' al) from ⟨⟨[], (List.append_nil _).symm⟩, fun _ h => h⟩) hi, q⟩
  · exact .inr ⟨a, b, c⟩
def spGameK (P : Program) (w : World) (K : PySem.W.Frag) : Sp := fun vs H Q _ => ∃ (A : Ad) (U : Un) (S : Gs) (la ra : Addr) (xs ys : List Nat), vs = [.ref A.yd, .ref la, .ref ra] ∧ At P w K A U S H ∧ H la = some (.lst (xs.map nV)) ∧ H ra = some (.lst (ys.map nV)) ∧
  xs.length ≤ 2000 ∧ ys.length ≤ 2000 ∧ (∀ x ∈ xs, x < S.N) ∧ (∀ x ∈ ys, x < S.N) ∧ GameK P w K A U S H Q xs ys
theorem ext_al (S : Gs) (al : List ((Nat × Nat) × Bool)) : Ext S (withAl S al) := ⟨⟨[], (List.append_nil _).symm⟩, fun _ h => h, fun _ h => h, fun _ h => h⟩
theorem game_rest {P : Program} {w : World} {K : PySem.W.Frag} {A : Ad} {U : Un} {S : Gs} {H : Hp} {Q : VK} {xs ys : List Nat} (h : At P w K A U S H) (bx : ∀ x ∈ xs, x < S.N) (by_ : ∀ x ∈ ys, x < S.N)
    (hn : ∀ l r : List Nat, l.Pairwise (· < ·) → (∀ k, k ∈ l ↔ k ∈ xs) → r.Pairwise (· < ·) → (∀ k, k ∈ r ↔ k ∈ ys) → (∀ i, i < S.N → ¬ (lf S.ns i = l ∧ rt S.ns i = r)) → 1 ≤ S.slack)
    (rest : ∀ (S7 : Gs) (H7 : Hp) (F : Nat), At P w K A U S7 H7 → Keep A H H7 → Ext S S7 → F < S7.N → S.slack ≤ S7.slack + 1 → (∀ z, z ∈ optI true S7.ns F ↔ z ∈ xs) → (∀ z, z ∈ optI false S7.ns F ↔ z ∈ ys) → (S7 = S ∨ ¬ ∃ i, i < S.N ∧ (∀ z, z ∈ optI true S.ns i ↔ z ∈ xs) ∧ (∀ z, z ∈ optI false S.ns i ↔ z ∈ ys)) → Q (nV F) H7) : GameK P w K A U S H Q xs ys := by
  intro l r sl ml sr mr
  refine ⟨fun i H' hi e1 e2 h' k' => rest S H' i h' k' (Ext.refl S) hi (Nat.le_succ _) (fun z => ?_) (fun z => ?_) (.inl rfl), fun nn => ?_⟩
  · show z ∈ lf S.ns i ↔ _
    rw [e1]; exact ml z
  · show z ∈ rt S.ns i ↔ _
    rw [e2]; exact mr z
  · have s1 := hn l r sl ml sr mr nn
    refine ⟨s1, fun H' h' k' => ?_⟩
    obtain ⟨_, x⟩ := SG.wf_push h.wf s1 sl sr (fun o ho => bx o ((ml o).mp ho)) (fun o ho => by_ o ((mr o).mp ho)) nn
    obtain ⟨q1, q2, q3⟩ := push_opt S l r
    refine rest _ H' S.N h' k' x q1 ?_ (fun z => by rw [q2]; exact ml z) (fun z => by rw [q3]; exact mr z) (.inr ?_)
    rotate_left
    · rintro ⟨i, hi, e1, e2⟩
      exact nn i hi ⟨SG.sorted_ext (SG.optI_sorted h.wf.wy hi (s := true)) sl fun z => (e1 z).trans (ml z).symm, SG.sorted_ext (SG.optI_sorted h.wf.wy hi (s := false)) sr fun z => (e2 z).trans (mr z).symm⟩
    show S.slack ≤ S.slack - 1 + 1
    omega
def spSimp (P : Program) (w : World) (K : PySem.W.Frag) (n : Nat) : Sp := fun vs H Q _ => ∃ (A : Ad) (U : Un) (S : Gs) (i : Nat), vs = [.ref A.fm, nV i] ∧ At P w K A U S H ∧ UnOk U ∧ i < S.N ∧ SG.ht (S.g i) < n ∧ SG.ht (S.g i) ≤ 16 ∧ (Lab U S i ∨ InC S i) ∧
  (∀ p ∈ U.all, htp p ≤ SG.ht (S.g i) → OKp S p) ∧ ∀ S' H' f, At P w K A U S' H' → Keep A H H' → Ext S S' → S'.slack = S.slack → (i, f) ∈ S'.si → Q (nV f) H'
theorem sc_simp : FnScope ["self", "game", "lefts", "rights", "form", "steps", "option"] ["self", "game"] (defScope s_Forms_simplest) := ⟨rfl, rfl, rfl, by decide +kernel, rfl, by decide +kernel, by decide +kernel⟩
section
variable {P : Program} {w : World} {K : PySem.W.Frag} {mg : Str → Option Value} {base : Heap} (T : Tx K mg)
include T
theorem m_gameK : C8.Met P w K mg base 2 (cY K) "game" (spGameK P w K) [] := m_game T
theorem m_simplest_step (n : Nat) (ih : C8.Met P w K mg base (90 + n) (He.ga K "Forms") "simplest" (spSimp P w K n) []) : C8.Met P w K mg base (90 + (n + 1)) (He.ga K "Forms") "simplest" (spSimp P w K (n + 1)) [] := by
  refine met_by (k := 90 + n) (t_cls_Forms T) (t_me_Forms_simplest T) (t_fn_Forms_simplest T) sc_simp (fun vs H Q E h => ?_) (fun _ _ _ _ _ _ us hl => match us, hl with | [_, _], _ => rfl) (fun cdv A0 outer s H vs Q E hr h => ?_)
  · obtain ⟨A, U, S, i, rfl, _⟩ := h
    rfl
  · obtain ⟨A, U, S, i, rfl, h, ok, hi, hn, h16, hlc, hop, k⟩ := h
    have hu := hu_of hr
    have wy := h.wf.wy
    refine ⟨_, pss_cons (ps_if (pt_cmp (pc_dnotin hu (pv 1) (pe_fld (pv 0) rfl)))
        (pss_cons (ps_setLc (i := 2) (own := [("option", 6)]) (g := gName 6) (tt := tYes) rfl sc_simp.nd rfl rfl (sw_true rfl rfl rfl (by decide +kernel)) (pi_list (C8.pe_mt (m_lefts T) hr (by omega) (pe_pr (p_Forms_yard T) hr (by omega) (pv 0)) (pa_cons (pv 1) pa_nil)))
          (blkOk_by (N := ["self", "game", "lefts", "rights", "form", "steps", "option"]) (sc := defScope s_Forms_simplest) (by decide +kernel)) (fun _ _ _ _ _ => pg_name (i := 6) sc_simp.nd rfl (Or.inl rfl)) (fun _ _ _ _ _ => pts_nil) (fun _ _ _ _ _ => C8.pe_mt ih hr (Nat.le_refl _) (pv 0) (pa_cons (pv 6) pa_nil)))
        (pss_cons (ps_setLc (i := 3) (own := [("option", 6)]) (g := gName 6) (tt := tYes) rfl sc_simp.nd rfl rfl (sw_true rfl rfl rfl (by decide +kernel)) (pi_list (C8.pe_mt (m_rights T) hr (by omega) (pe_pr (p_Forms_yard T) hr (by omega) (pv 0)) (pa_cons (pv 1) pa_nil)))
          (blkOk_by (N := ["self", "game", "lefts", "rights", "form", "steps", "option"]) (sc := defScope s_Forms_simplest) (by decide +kernel)) (fun _ _ _ _ _ => pg_name (i := 6) sc_simp.nd rfl (Or.inl rfl)) (fun _ _ _ _ _ => pts_nil) (fun _ _ _ _ _ => C8.pe_mt ih hr (Nat.le_refl _) (pv 0) (pa_cons (pv 6) pa_nil)))
        (pss_cons (ps_set (i := 4) sc_simp.nd rfl (.inl rfl) (C8.pe_mt (m_gameK T) hr (by omega) (pe_pr (p_Forms_yard T) hr (by omega) (pv 0)) (pa_cons (pv 2) (pa_cons (pv 3) pa_nil))))
        (pss_cons (ps_set (i := 5) sc_simp.nd rfl (.inl rfl) (C8.pe_mt (m_steps T) hr (by omega) (pv 0) (pa_cons (pv 4) pa_nil)))
        (pss_cons (ps_while PassesOwn.never (pt_truth (pv 5) (by intro _; rfl))
          (pss_cons (ps_set (i := 4) sc_simp.nd rfl (.inl rfl) (C8.pe_mt (m_taken T) hr (by omega) (pv 0) (pa_cons (pv 4) (pa_cons (pe_ix ix_list (pv 5) pe_int (fun _ _ => rfl)) pa_nil))))
          (pss_one (ps_set (i := 5) sc_simp.nd rfl (.inl rfl) (C8.pe_mt (m_steps T) hr (by omega) (pv 0) (pa_cons (pv 4) pa_nil))))))
        (pss_one (ps_dput hu (pe_fld (pv 0) rfl) (pv 1) (pv 4) rfl))))))) pss_nil)
      (pss_one (ps_ret (pe_dget hu (pe_fld (pv 0) rfl) (pv 1) (fun _ _ => rfl)))), ?_⟩
    refine ⟨_, rfl, _, rfl, A.fm, _, A.fx, _, _, rfl, h.lay.fm, t_cls_Forms T, t_no_Forms__simplest T, rfl, A.SI, _, rfl, DGet.k (k := kN i) h.bk.si, _, rfl, ?_⟩
    -- what stands behind the if
    have last : ∀ (S' : Gs) (H' : Hp) (f : Nat) (σ : L2.St), At P w K A U S' H' → Keep A H H' → Ext S S' → S'.slack = S.slack → (i, f) ∈ S'.si → valV (S'.si.map siE) (kN i) = some (nV f) → True := fun _ _ _ _ _ _ _ _ _ _ => trivial
    cases ev : valV (S.si.map siE) (kN i) with
    | some v =>
      obtain ⟨f, hf, rfl⟩ := val_some (f := siE) (kf := kN) (vf := nV) (a := i) (fun _ => rfl) (fun a b => kN_inj) ev
      refine iteF ⟨_, rfl, A.fm, _, A.fx, _, _, rfl, h.lay.fm, t_cls_Forms T, t_no_Forms__simplest T, rfl, _, rfl, A.SI, nV f, rfl, ?_, k S H f h (Keep.refl _ _) (Ext.refl S) rfl hf⟩
      rw [← ev]
      exact DGet.k (k := kN i) h.bk.si
    | none =>
      have hni : i ∉ S.si.map (·.1) := val_none (f := siE) (kf := kN) (vf := nV) (fun _ => rfl) ev
      obtain ⟨S1, lv, o1, lv6, lmin, kind⟩ := open_i h.wf ok hi hni hlc hop
      have h1 : At P w K A U S1 H := h.ghost o1.wf o1.ns o1.al o1.si o1.pl o1.nu o1.md o1.st
      have x01 := o1.ex
      have ol : ∀ s, (optI s S.ns i).length ≤ 225 := fun s => by
        rcases hlc with l | c
        · exact lab_len h.wf ok hi l s
        · obtain ⟨a, _, b, _⟩ := h.wf.inC c
          exact opt_len h.wf ok (F := i) ⟨a, b, h16⟩ s
      have call : ∀ s o S2, o ∈ optI s S.ns i → Ext S1 S2 → o < S2.N ∧ SG.ht (S2.g o) < n ∧ SG.ht (S2.g o) ≤ 16 ∧ (Lab U S2 o ∨ InC S2 o) ∧ ∀ p ∈ U.all, htp p ≤ SG.ht (S2.g o) → OKp S2 p := fun s o S2 ho x2 => by
        have lo := (SG.optI_lt wy hi ho).2
        have hto : SG.ht (S.g o) < SG.ht (S.g i) := SG.optI_ht wy hi ho
        have x := x01.trans x2.ex0
        rw [x.g lo]
        refine ⟨x.lt lo, by omega, by omega, ?_, fun p hp hh => x2.op p (o1.op p (fun q => ?_) (hop p hp (by omega)))⟩
        · rcases hlc with ⟨p, hp, hp2⟩ | c
          · obtain ⟨q, hq, hq2, _⟩ := lab_opt h.wf ok hi hp hp2 ho
            exact .inl ⟨q, hq, (x.isP lo).mpr hq2⟩
          · exact .inr (x.c ((h.wf.inC c).2.2.1 s o ho))
        · have := htp_eq q
          omega
      refine iteT ?_
      -- the lefts
      refine ⟨_, rfl, A.fm, A.fx, _, rfl, h1.lay.fm, A, U, S1, rfl, h1, A.yd, A.yx, _, rfl, h1.lay.yd, rfl, _, rfl, A, U, S1, i, rfl, h1, x01.lt hi, fun p1 hp1 => ?_⟩
      rw [x01.o hi true]
      obtain ⟨h2, k2⟩ := h1.new hp1 (.lst ((optI true S.ns i).map nV))
      have np1 := h1.fresh hp1
      have e1 : (upd H p1 (.lst ((optI true S.ns i).map nV))) p1 = some (.lst ((optI true S.ns i).map nV)) := upd_same
      generalize upd H p1 (.lst ((optI true S.ns i).map nV)) = H2 at h2 k2 e1
      refine ⟨p1, rfl, ⟨_, SqL.of e1⟩, fun D1 hD1 => lc_list (K := K) (a := p1) (xs := (optI true S.ns i).map nV) (fun m H3 => ∃ S3 fs, At P w K A U S3 H3 ∧ Keep A H2 H3 ∧ Ext S1 S3 ∧ S3.slack = S1.slack ∧ H3 D1 = some (.lst (fs.map nV)) ∧ Pr S3 ((optI true S.ns i).take m) fs)
        ⟨S1, [], (h2.new hD1 _).1, (h2.new hD1 _).2, Ext.refl S1, rfl, upd_same, .nil⟩ (fun _ _ _ ⟨_, _, _, q, _⟩ => SqL.of (q _ _ e1 np1)) ?_ ?_⟩
      · rintro m x H3 hm ⟨S3, fs, h3, k3, x3, sl3, e3, r3⟩
        obtain ⟨o, ho, rfl⟩ := nV_get hm
        have mo := List.mem_of_getElem? ho
        have nD := h2.fresh hD1
        obtain ⟨c1, c2, c3, c4, c5⟩ := call true o S3 mo x3
        refine ⟨rfl, _, rfl, A.fm, A.fx, _, rfl, h3.lay.fm, rfl, _, rfl, A, U, S3, o, rfl, h3, ok, c1, c2, c3, c4, c5, fun S4 H4 f h4 k4 x4 sl4 mf => ?_⟩
        have e4 := k4 _ _ e3 nD
        have lfs : fs.length ≤ 225 := by
          rw [← Paired.length r3]
          exact Nat.le_trans (List.length_take_le' ..) (ol true)
        refine ⟨_, e4, by rw [List.length_map, sizeLine_eq]; omega, S4, fs ++ [f], h4.lst' e4 nD _, keep_lst (k3.trans k4) hD1, x3.trans x4, sl4.trans sl3, ?_, ?_⟩
        · rw [upd_same, List.map_append]
          rfl
        · rw [List.take_add_one, ho]
          exact Paired.snoc (r3.ext x4.ex0) mf
      rintro H3 ⟨S3, fs1, h3, k3, x3, sl3, e3, r3⟩
      rw [List.length_map, List.take_of_length_le (Nat.le_refl _)] at r3
      have nD1 := h2.fresh hD1
      have kA : Keep A H H3 := k2.trans k3
      have x03 := x01.trans x3.ex0
      -- the rights
      refine ⟨_, rfl, A.fm, A.fx, _, rfl, h3.lay.fm, A, U, S3, rfl, h3, A.yd, A.yx, _, rfl, h3.lay.yd, rfl, _, rfl, A, U, S3, i, rfl, h3, x03.lt hi, fun p2 hp2 => ?_⟩
      rw [x03.o hi false]
      obtain ⟨h5, k5⟩ := h3.new hp2 (.lst ((optI false S.ns i).map nV))
      have np2 := h3.fresh hp2
      have e5 : (upd H3 p2 (.lst ((optI false S.ns i).map nV))) p2 = some (.lst ((optI false S.ns i).map nV)) := upd_same
      have e5D := k5 _ _ e3 nD1
      generalize upd H3 p2 (.lst ((optI false S.ns i).map nV)) = H5 at h5 k5 e5 e5D
      refine ⟨p2, rfl, ⟨_, SqL.of e5⟩, fun D2 hD2 => lc_list (K := K) (a := p2) (xs := (optI false S.ns i).map nV) (fun m H6 => ∃ S6 fs, At P w K A U S6 H6 ∧ Keep A H5 H6 ∧ Ext S3 S6 ∧ S6.slack = S3.slack ∧ H6 D2 = some (.lst (fs.map nV)) ∧ Pr S6 ((optI false S.ns i).take m) fs)
        ⟨S3, [], (h5.new hD2 _).1, (h5.new hD2 _).2, Ext.refl S3, rfl, upd_same, .nil⟩ (fun _ _ _ ⟨_, _, _, q, _⟩ => SqL.of (q _ _ e5 np2)) ?_ ?_⟩
      · rintro m x H6 hm ⟨S6, fs, h6, k6, x6, sl6, e6, r6⟩
        obtain ⟨o, ho, rfl⟩ := nV_get hm
        have mo := List.mem_of_getElem? ho
        have nD := h5.fresh hD2
        obtain ⟨c1, c2, c3, c4, c5⟩ := call false o S6 mo (x3.trans x6)
        refine ⟨rfl, _, rfl, A.fm, A.fx, _, rfl, h6.lay.fm, rfl, _, rfl, A, U, S6, o, rfl, h6, ok, c1, c2, c3, c4, c5, fun S4 H4 f h4 k4 x4 sl4 mf => ?_⟩
        have e4 := k4 _ _ e6 nD
        have lfs : fs.length ≤ 225 := by
          rw [← Paired.length r6]
          exact Nat.le_trans (List.length_take_le' ..) (ol false)
        refine ⟨_, e4, by rw [List.length_map, sizeLine_eq]; omega, S4, fs ++ [f], h4.lst' e4 nD _, keep_lst (k6.trans k4) hD2, x6.trans x4, sl4.trans sl6, ?_, ?_⟩
        · rw [upd_same, List.map_append]
          rfl
        · rw [List.take_add_one, ho]
          exact Paired.snoc (r6.ext x4.ex0) mf
      rintro H6 ⟨S6, fs2, h6, k6, x6, sl6, e6, r6⟩
      rw [List.length_map, List.take_of_length_le (Nat.le_refl _)] at r6
      have r3' := r3.ext x6.ex0
      have e6D := k6 _ _ e5D nD1
      have x16 := x3.trans x6
      have x06 := x01.trans x16.ex0
      have sl16 : S6.slack = S1.slack := sl6.trans sl3
      have kB : Keep A H H6 := kA.trans (k5.trans k6)
      have lf1 : fs1.length ≤ 225 := by rw [← Paired.length r3]; exact ol true
      have lf2 : fs2.length ≤ 225 := by rw [← Paired.length r6]; exact ol false
      have b1 : ∀ f ∈ fs1, f < S6.N := fun f hf => by
        obtain ⟨o, _, q⟩ := r3'.bwd f hf
        exact (h6.wf.si o f q).lf
      have b2 : ∀ f ∈ fs2, f < S6.N := fun f hf => by
        obtain ⟨o, _, q⟩ := r6.bwd f hf
        exact (h6.wf.si o f q).lf
      have kinds : (∀ l r : List Nat, l.Pairwise (· < ·) → (∀ k, k ∈ l ↔ k ∈ fs1) → r.Pairwise (· < ·) → (∀ k, k ∈ r ↔ k ∈ fs2) → (∀ i, i < S6.N → ¬ (lf S6.ns i = l ∧ rt S6.ns i = r)) → 1 ≤ S6.slack) := fun l r sl ml sr mr nn => by
        rcases kind with ⟨p, hp, hp2, e, sl1⟩ | ⟨c, nl, e⟩
        · have : SG.Tb lv = 2 * (SG.Mb lv + SG.Wb (lv - 1)) + 1 := rfl
          omega
        · exact absurd (form_c h.wf h6.wf x06 hi c r3' r6 sl ml sr mr) (nn i (x06.lt hi))
      refine ⟨_, rfl, A.fm, A.fx, _, rfl, h6.lay.fm, A, U, S6, rfl, h6, A.yd, A.yx, _, rfl, h6.lay.yd, rfl, _, rfl, _, rfl, A, U, S6, D1, D2, fs1, fs2, rfl, h6, e6D, e6, by omega, by omega, b1, b2, game_rest h6 b1 b2 kinds (fun S7 H7 F h7 k7 x7 lt7 sl7 ml7 mr7 or7 => ?_)⟩
      have j7 : Jn U S S7 i lv F := by
        rcases kind with ⟨p, hp, hp2, e, sl1⟩ | ⟨c, nl, e⟩
        · exact form_lab ok o1 x16.ex0 x7.ex0 h7.wf hi hp hp2 e sl1 sl16 sl7 r3' r6 lt7 ml7 mr7
        · have x07 := x06.trans x7.ex0
          have e2 := form_c h.wf h7.wf x07 hi c (r3'.ext x7.ex0) (r6.ext x7.ex0) (SG.optI_sorted h7.wf.wy lt7 (s := true)) ml7 (SG.optI_sorted h7.wf.wy lt7 (s := false)) mr7
          have eF : i = F := SG.optI_same h7.wf.wy (x07.lt hi) lt7 fun s => by
            cases s
            · exact e2.2
            · exact e2.1
          have e6' := form_c h.wf h6.wf x06 hi c r3' r6 (SG.optI_sorted h7.wf.wy lt7 (s := true)) ml7 (SG.optI_sorted h7.wf.wy lt7 (s := false)) mr7
          have e7 : S7 = S6 := or7.resolve_right fun q => q ⟨i, x06.lt hi, fun z => by show z ∈ lf S6.ns i ↔ _; rw [e6'.1]; exact ml7 z, fun z => by show z ∈ rt S6.ns i ↔ _; rw [e6'.2]; exact mr7 z⟩
          have lo : S1.slack = S.slack := by rw [e]
          exact ⟨by rw [e7]; omega, .inr ⟨eF.symm, x07.c c, fun ⟨p, hp, hp2⟩ => nl ⟨p, hp, (x07.isP hi).mp hp2⟩⟩⟩
      have x17 := x16.trans x7
      have nD2 := h5.fresh hD2
      have tti : ∀ {S9 : Gs}, Ext S1 S9 → i < S9.N ∧ SG.ht (S9.g i) ≤ 16 ∧ ∀ q ∈ U.all, IsP S9.ns i q → lv ≤ q.1.1 + q.2.1 := fun {S9} x9 => by
        have x09 := x01.trans x9.ex0
        exact ⟨x09.lt hi, by rw [x09.g hi]; exact h16, fun q hq hq2 => lmin q hq ((x09.isP hi).mp hq2)⟩
      have fo7 := j7.fo h7.wf (tti x17).1 (tti x17).2.1
      refine ⟨_, rfl, A.fm, A.fx, _, rfl, h7.lay.fm, rfl, _, rfl, A, U, S7, F, rfl, h7, ok, fo7, fun al8 H8 ps h8 k8 n8 m8 l8 => ?_⟩
      -- the loop
      refine ⟨fun m σ H9 => ∃ S9 F ps, σ = [some (.ref A.fm), some (nV i), some (.ref D1), some (.ref D2), some (nV F), some (.ref ps), none] ∧ At P w K A U S9 H9 ∧ Keep A H H9 ∧ ps ∉ A.mut ∧ StL H9 ps (stepsOf S9 F) ∧ Ext S1 S9 ∧ Jn U S S9 i lv F ∧ m = psiI S9 true F + psiI S9 false F,
        ⟨_, withAl S7 al8, F, ps, rfl, h8, kB.trans (k7.trans k8), m8, l8, x17.trans (ext_al S7 al8), j7.al h7.wf (tti x17).1 al8, rfl⟩, ?_⟩
      rintro m σ H9 ⟨S9, F9, ps9, rfl, h9, k9, m9, l9, x9, j9, rfl⟩
      obtain ⟨t1, t2, t3⟩ := tti x9
      have fo9 := j9.fo h9.wf t1 t2
      obtain ⟨ts, e9, r9⟩ := l9
      refine ⟨_, rfl, _, .inl ⟨_, SqL.of e9, rfl⟩, ?_⟩
      cases est : stepsOf S9 F9 with
      | nil =>
        rw [est] at r9
        cases r9
        refine iteF ?_
        obtain ⟨k1, k2⟩ := j9.fin h9.wf ok t1 t2 lv6 t3 est
        have n19 := h9.wf.n
        have small := SG.si_small h9.wf
        refine ⟨_, rfl, _, rfl, A.fm, _, A.fx, _, _, rfl, h9.lay.fm, t_cls_Forms T, t_no_Forms__simplest T, rfl, _, rfl, A.SI, _, rfl, DPut.k (k := kN i) h9.bk.si (by rw [List.length_map, sizeLine_eq]; omega), ?_⟩
        have main : ∃ S10, At P w K A U S10 (upd H9 A.SI (.dK (putK (S9.si.map siE) (kN i) (nV F9)))) ∧ Keep A H9 (upd H9 A.SI (.dK (putK (S9.si.map siE) (kN i) (nV F9)))) ∧ Ext S S10 ∧ S10.slack = S.slack ∧ (i, F9) ∈ S10.si ∧ valV (S10.si.map siE) (kN i) = some (nV F9) := by
          have keep := Keep.of_ne (A := A) (x := A.SI) (by simp [Ad.mut]) fun b o n e => (upd_ne (o := .dK (putK (S9.si.map siE) (kN i) (nV F9))) n).trans (show H9 b = some o from e)
          cases ev2 : valV (S9.si.map siE) (kN i) with
          | some v =>
            obtain ⟨f', hf', rfl⟩ := val_some (f := siE) (kf := kN) (vf := nV) (a := i) (fun _ => rfl) (fun a b => kN_inj) ev2
            have ef := k2 f' hf'
            subst ef
            have val : ∀ e ∈ S9.si.map siE, e.1 = kN i → e.2 = nV f' := fun e he q => by
              obtain ⟨⟨a, b⟩, m, rfl⟩ := List.mem_map.mp he
              have := kN_inj (show kN a = kN i from q)
              subst this
              show nV b = nV f'
              rw [k2 b m]
            have same := putK_id val (by rw [ev2]; rfl)
            obtain ⟨w10, x10⟩ := si_close' h9.wf o1 x9 hi hf' j9.1
            refine ⟨S9.withSlack S.slack, At.ghost (S := S9) (h9.same fun b o e => ?_) w10 rfl rfl rfl rfl rfl rfl rfl, keep, x10, rfl, hf', ev2⟩
            by_cases q : b = A.SI
            · rw [q] at e ⊢
              rw [h9.bk.si] at e
              rw [← e, upd_same, same]
            · exact (upd_ne q).trans e
          | none =>
            have hn9 : i ∉ S9.si.map (·.1) := val_none (f := siE) (kf := kN) (vf := nV) (fun _ => rfl) ev2
            obtain ⟨w10, x10⟩ := si_close h9.wf o1 x9 hi k1 hn9 j9.1
            obtain ⟨w11, _⟩ := SG.wf_si h9.wf k1 hn9
            have ep := putK_new (nV F9) ev2
            have ei : ((S9.putSi i F9).si.map siE) = S9.si.map siE ++ [(kN i, nV F9)] := by
              show (S9.si ++ [(i, F9)]).map siE = _
              rw [List.map_append]
              rfl
            refine ⟨(S9.putSi i F9).withSlack S.slack, At.ghost (S := S9.putSi i F9) (h9.si' w11 ?_ (fun c o n e => (upd_ne n).trans e)) w10 rfl rfl rfl rfl rfl rfl rfl, keep, x10, rfl, List.mem_append_right _ (List.mem_singleton.mpr rfl), ?_⟩
            · rw [upd_same, ei, ep]
            · show valV ((S9.putSi i F9).si.map siE) (kN i) = _
              rw [ei, valV_snoc _ _ _ _ ev2, if_pos rfl]
        obtain ⟨S10, h10, k10, x10, sl10, m10, ev10⟩ := main
        generalize upd H9 A.SI (.dK (putK (S9.si.map siE) (kN i) (nV F9))) = H10 at h10 k10
        refine ⟨_, rfl, A.fm, _, A.fx, _, _, rfl, h10.lay.fm, t_cls_Forms T, t_no_Forms__simplest T, rfl, _, rfl, A.SI, nV F9, rfl, ?_, k S10 H10 F9 h10 (k9.trans k10) x10 sl10 m10⟩
        rw [← ev10]
        exact DGet.k (k := kN i) h10.bk.si
      | cons st rst =>
        have mst : st ∈ stepsOf S9 F9 := by rw [est]; exact List.mem_cons_self ..
        rw [est] at r9
        cases r9 with
        | @cons t _ ts' _ et9 rr =>
        refine iteT ⟨_, fun σ' H' q => q, ?_⟩
        obtain ⟨n1, n2⟩ := news_lt h9.wf fo9 mst
        refine ⟨_, rfl, A.fm, A.fx, _, rfl, h9.lay.fm, rfl, _, rfl, _, rfl, ps9, _, 0, .ref t, rfl, rfl, SqL.of e9, atI_nat (j := 0) rfl, A, U, S9, F9, st, t, rfl, h9, ok, fo9, et9, mst, fun al10 H10 h10 k10 => game_rest h10 n1 n2 (fun l r _ _ _ _ _ => ?_) (fun S11 H11 F11 h11 k11 x11 lt11 sl11 ml11 mr11 _ => ?_)⟩
        · rcases j9.2 with ⟨_, _, q⟩ | ⟨rfl, c, _⟩
          · obtain ⟨o, ho⟩ := step_side mst
            have p1 : 1 ≤ psiI S9 st.side F9 := SG.psi_pos (fun x => SG.wS_one _ _) ho
            have : 1 ≤ psiI S9 true F9 + psiI S9 false F9 := by
              cases hs : st.side
              · rw [hs] at p1; omega
              · rw [hs] at p1; omega
            show 1 ≤ S9.slack
            omega
          · rw [inC_steps h9.wf c] at est
            cases est
        · have x911 := (ext_al S9 al10).trans x11
          obtain ⟨j11, lt⟩ := Jn.step h11.wf x911.ex0 h9.wf t1 t2 j9 est lt11 sl11 ml11 mr11
          obtain ⟨u1, u2, _⟩ := tti (x9.trans x911)
          have fo11 := j11.fo h11.wf u1 u2
          refine ⟨_, rfl, A.fm, A.fx, _, rfl, h11.lay.fm, rfl, _, rfl, A, U, S11, F11, rfl, h11, ok, fo11, fun al12 H12 ps12 h12 k12 n12 m12 l12 => ?_⟩
          exact ⟨_, lt, withAl S11 al12, F11, ps12, rfl, h12, k9.trans (k10.trans (k11.trans k12)), m12, l12, x9.trans (x911.trans (ext_al S11 al12)), j11.al h11.wf u1 al12, rfl⟩
theorem m_simplest : ∀ n : Nat, C8.Met P w K mg base (90 + n) (He.ga K "Forms") "simplest" (spSimp P w K n) []
  | 0 => by
    refine met_by (k := 89) (t_cls_Forms T) (t_me_Forms_simplest T) (t_fn_Forms_simplest T) sc_simp (fun vs H Q E h => ?_) (fun _ _ _ _ _ _ us hl => match us, hl with | [_, _], _ => rfl) (fun cdv A0 outer s H vs Q E hr h => ?_)
    · obtain ⟨A, U, S, i, rfl, _⟩ := h
      rfl
    · obtain ⟨A, U, S, i, rfl, h, ok, hi, hn, _⟩ := h
      exact absurd hn (Nat.not_lt_zero _)
  | n + 1 => m_simplest_step T n (m_simplest n)
end
end K45
end
section
set_option Elab.async false
set_option linter.all false
set_option maxRecDepth 100000
set_option maxHeartbeats 4000000
namespace K45
open PySem PySem.Spec PyProof.Rows L2
open SG (Gs Un UnOk Wf Ext Ex0 gv lf rt optI InC OKp OKr IsP IsSum opt Pu)
/-! ### a sum's making, its credit -/
structure SumOpt (S : Gs) (p : Pu) (s : Bool) (fs : List Nat) : Prop where
  of : ∀ f ∈ fs, f < S.N ∧ ((∃ a ∈ opt s p.1.2, IsSum (S.g f) a p.2.2) ∨ (∃ b ∈ opt s p.2.2, IsSum (S.g f) p.1.2 b))
  l : ∀ a ∈ opt s p.1.2, ∃ f ∈ fs, IsSum (S.g f) a p.2.2
  r : ∀ b ∈ opt s p.2.2, ∃ f ∈ fs, IsSum (S.g f) p.1.2 b
theorem SumOpt.ext {S S' : Gs} {p : Pu} {s : Bool} {fs : List Nat} (x : Ex0 S S') (h : SumOpt S p s fs) : SumOpt S' p s fs := by
  refine ⟨fun f hf => ?_, fun a ha => ?_, fun b hb => ?_⟩
  · obtain ⟨lt, q⟩ := h.of f hf
    rw [x.g lt]
    exact ⟨x.lt lt, q⟩
  · obtain ⟨f, hf, q⟩ := h.l a ha
    exact ⟨f, hf, by rw [x.g (h.of f hf).1]; exact q⟩
  · obtain ⟨f, hf, q⟩ := h.r b hb
    exact ⟨f, hf, by rw [x.g (h.of f hf).1]; exact q⟩
theorem isP_opt {S : Gs} {i : Nat} {p : Pu} (h : IsP S.ns i p) (s : Bool) : (∀ z ∈ opt s (S.g i), (∃ a ∈ opt s p.1.2, IsSum z a p.2.2) ∨ (∃ b ∈ opt s p.2.2, IsSum z p.1.2 b)) ∧ (∀ a ∈ opt s p.1.2, ∃ z ∈ opt s (S.g i), IsSum z a p.2.2) ∧ (∀ b ∈ opt s p.2.2, ∃ z ∈ opt s (S.g i), IsSum z p.1.2 b) := by
  have q := SG.isSum_iff.mp (show IsSum (S.g i) p.1.2 p.2.2 from h)
  cases s
  · exact ⟨q.r, q.rx, q.ry⟩
  · exact ⟨q.l, q.lx, q.ly⟩
/-- where the sum stands already, its options are these -/
theorem same_side {U : Un} {S : Gs} (w : Wf U S) {i : Nat} {p : Pu} {s : Bool} {fs : List Nat} (hi : i < S.N) (h : IsP S.ns i p) (o : SumOpt S p s fs) : ∀ z, z ∈ optI s S.ns i ↔ z ∈ fs := by
  obtain ⟨q1, q2, q3⟩ := isP_opt h s
  intro z
  constructor
  · intro hz
    have lz := (SG.optI_lt w.wy hi hz).2
    rcases q1 _ ((mem_optG w hi).mpr ⟨z, hz, rfl⟩) with ⟨a, ha, k⟩ | ⟨b, hb, k⟩
    · obtain ⟨f, hf, k2⟩ := o.l a ha
      rw [SG.sum_uniq w.wy lz (o.of f hf).1 k k2]
      exact hf
    · obtain ⟨f, hf, k2⟩ := o.r b hb
      rw [SG.sum_uniq w.wy lz (o.of f hf).1 k k2]
      exact hf
  · intro hz
    obtain ⟨lz, c⟩ := o.of z hz
    rcases c with ⟨a, ha, k⟩ | ⟨b, hb, k⟩
    · obtain ⟨y, hy, k2⟩ := q2 a ha
      obtain ⟨f, hf, rfl⟩ := (mem_optG w hi).mp hy
      rw [SG.sum_uniq w.wy lz (SG.optI_lt w.wy hi hf).2 k k2]
      exact hf
    · obtain ⟨y, hy, k2⟩ := q3 b hb
      obtain ⟨f, hf, rfl⟩ := (mem_optG w hi).mp hy
      rw [SG.sum_uniq w.wy lz (SG.optI_lt w.wy hi hf).2 k k2]
      exact hf
/-- a game of these options is the sum -/
theorem isP_of {U : Un} {S : Gs} (w : Wf U S) {F : Nat} {p : Pu} {f1 f2 : List Nat} (hF : F < S.N) (o1 : SumOpt S p true f1) (o2 : SumOpt S p false f2) (h1 : ∀ z, z ∈ optI true S.ns F ↔ z ∈ f1) (h2 : ∀ z, z ∈ optI false S.ns F ↔ z ∈ f2) : IsP S.ns F p := by
  have side : ∀ s fs, SumOpt S p s fs → (∀ z, z ∈ optI s S.ns F ↔ z ∈ fs) → (∀ z ∈ opt s (S.g F), (∃ a ∈ opt s p.1.2, IsSum z a p.2.2) ∨ (∃ b ∈ opt s p.2.2, IsSum z p.1.2 b)) ∧ (∀ a ∈ opt s p.1.2, ∃ z ∈ opt s (S.g F), IsSum z a p.2.2) ∧ (∀ b ∈ opt s p.2.2, ∃ z ∈ opt s (S.g F), IsSum z p.1.2 b) := by
    intro s fs o h
    refine ⟨fun z hz => ?_, fun a ha => ?_, fun b hb => ?_⟩
    · obtain ⟨f, hf, rfl⟩ := (mem_optG w hF).mp hz
      exact (o.of f ((h f).mp hf)).2
    · obtain ⟨f, hf, q⟩ := o.l a ha
      exact ⟨_, (mem_optG w hF).mpr ⟨f, (h f).mpr hf, rfl⟩, q⟩
    · obtain ⟨f, hf, q⟩ := o.r b hb
      exact ⟨_, (mem_optG w hF).mpr ⟨f, (h f).mpr hf, rfl⟩, q⟩
  obtain ⟨a1, a2, a3⟩ := side true f1 o1 h1
  obtain ⟨b1, b2, b3⟩ := side false f2 o2 h2
  exact SG.isSum_iff.mpr ⟨a1, a2, a3, b1, b2, b3⟩
theorem credit_game {P : Program} {w : World} {K : PySem.W.Frag} {A : Ad} {U : Un} {S : Gs} {H : Hp} {Q : VK} {p : Pu} {f1 f2 : List Nat} (h : At P w K A U S H) (ok : OKr S p) (o1 : SumOpt S p true f1) (o2 : SumOpt S p false f2)
    (rest : ∀ (S7 : Gs) (H7 : Hp) (F : Nat), At P w K A U S7 H7 → Keep A H H7 → Ext S S7 → S7.slack = S.slack → F < S7.N → IsP S7.ns F p → Q (nV F) H7) : ∃ S', At P w K A U S' H ∧ S'.ns = S.ns ∧ GameK P w K A U S' H Q f1 f2 := by
  rcases ok with ok | ⟨i, hi, hp⟩
  · obtain ⟨m, w', x', r1, r2⟩ := SG.wf_credit h.wf ok
    have h' : At P w K A U { S with cr := m, slack := S.slack + 1 } H := h.ghost w' rfl rfl rfl rfl rfl rfl rfl
    refine ⟨_, h', rfl, game_rest h' (fun x hx => (o1.of x hx).1) (fun x hx => (o2.of x hx).1) (fun l r _ _ _ _ _ => Nat.le_add_left 1 _) fun S7 H7 F h7 k7 x7 lt sl m1 m2 _ => ?_⟩
    have hp := isP_of h7.wf lt ((o1.ext x').ext x7.ex0) ((o2.ext x').ext x7.ex0) m1 m2
    have sl' : S.slack + 1 ≤ S7.slack + 1 := sl
    obtain ⟨w8, x8⟩ := SG.wf_slack h7.wf (n := S.slack) (by omega)
    have x := x'.trans (x7.trans x8).ex0
    refine rest (S7.withSlack S.slack) H7 F (h7.ghost w8 rfl rfl rfl rfl rfl rfl rfl) k7 ⟨x.ns, x.si, fun q hq => (x7.trans x8).op q (r2 q hq), fun q hq => ?_⟩ rfl lt hp
    by_cases e : q = p
    · subst e
      exact .inr ⟨F, lt, hp⟩
    · exact (x7.trans x8).or q (r1 q e hq)
  · have e1 := same_side h.wf hi hp o1
    have e2 := same_side h.wf hi hp o2
    refine ⟨S, h, rfl, fun l r sl ml sr mr => ⟨fun i' H' hi' a b h' k' => ?_, fun nn => ?_⟩⟩
    · refine rest S H' i' h' k' (Ext.refl S) rfl hi' (isP_of h.wf hi' o1 o2 (fun z => ?_) fun z => ?_)
      · show z ∈ lf S.ns i' ↔ _
        rw [a]; exact ml z
      · show z ∈ rt S.ns i' ↔ _
        rw [b]; exact mr z
    · exact absurd ⟨SG.sorted_ext (SG.optI_sorted h.wf.wy hi (s := true)) sl fun z => (e1 z).trans (ml z).symm, SG.sorted_ext (SG.optI_sorted h.wf.wy hi (s := false)) sr fun z => (e2 z).trans (mr z).symm⟩ (nn i hi)
end K45
end
section
set_option Elab.async false
set_option linter.all false
set_option maxRecDepth 100000
set_option maxHeartbeats 4000000
namespace SG
theorem isSum_back_aux (n : Nat) : ∀ x u : G, sizeOf x + sizeOf u ≤ n → IsSum x u zero → IsSum u x zero := by
  induction n with
  | zero =>
    intro x u h
    cases x
    simp only [G.mk.sizeOf_spec] at h
    omega
  | succ n ih =>
    intro x u h q
    obtain ⟨h1, h2, _, h4, h5, _⟩ := isSum_iff.mp q
    refine isSum_iff.mpr ⟨fun a ha => ?_, fun l hl => ?_, fun b hb => (by cases hb), fun a ha => ?_, fun l hl => ?_, fun b hb => (by cases hb)⟩
    · obtain ⟨l, hl, k⟩ := h2 a ha
      have := sz_left hl
      have := sz_left ha
      exact .inl ⟨l, hl, ih l a (by omega) k⟩
    · rcases h1 l hl with ⟨a, ha, k⟩ | ⟨b, hb, _⟩
      · have := sz_left hl
        have := sz_left ha
        exact ⟨a, ha, ih l a (by omega) k⟩
      · cases hb
    · obtain ⟨l, hl, k⟩ := h5 a ha
      have := sz_right hl
      have := sz_right ha
      exact .inl ⟨l, hl, ih l a (by omega) k⟩
    · rcases h4 l hl with ⟨a, ha, k⟩ | ⟨b, hb, _⟩
      · have := sz_right hl
        have := sz_right ha
        exact ⟨a, ha, ih l a (by omega) k⟩
      · cases hb
theorem isSum_back {x u : G} (h : IsSum x u zero) : IsSum u x zero := isSum_back_aux _ x u (Nat.le_refl _) h
theorem isSum_opt {s x y : G} (h : IsSum s x y) (b : Bool) : (∀ z ∈ opt b s, (∃ a ∈ opt b x, IsSum z a y) ∨ (∃ c ∈ opt b y, IsSum z x c)) ∧ (∀ a ∈ opt b x, ∃ z ∈ opt b s, IsSum z a y) ∧ (∀ c ∈ opt b y, ∃ z ∈ opt b s, IsSum z x c) := by
  have q := isSum_iff.mp h
  cases b
  · exact ⟨q.r, q.rx, q.ry⟩
  · exact ⟨q.l, q.lx, q.ly⟩
end SG
namespace K45
open SG (Gs Un UnOk Wf Ext Ex0 gv lf rt optI InC OKp OKr IsP IsSum opt Pu)
abbrev zr : SG.G := SG.zero
/-- two games whose sum's pair is p -/
def Ori (U : Un) (S : Gs) (i j : Nat) (p : Pu) : Prop := p ∈ U.all ∧ ((IsSum (S.g i) p.1.2 zr ∧ IsSum (S.g j) p.2.2 zr) ∨ (IsSum (S.g j) p.1.2 zr ∧ IsSum (S.g i) p.2.2 zr))
theorem Ori.symm {U : Un} {S : Gs} {i j : Nat} {p : Pu} (h : Ori U S i j p) : Ori U S j i p := ⟨h.1, h.2.symm⟩
theorem Ori.ext {U : Un} {S S' : Gs} (x : Ex0 S S') {i j : Nat} {p : Pu} (hi : i < S.N) (hj : j < S.N) (h : Ori U S i j p) : Ori U S' i j p := by
  unfold Ori
  rw [x.g hi, x.g hj]
  exact h
theorem opt_zr {s : Bool} {x : SG.G} (h : x ∈ opt s zr) : False := by
  cases s <;> cases h
theorem zr_opt {U : Un} {S : Gs} (w : Wf U S) {i o : Nat} {u : SG.G} {s : Bool} (hi : i < S.N) (h : IsSum (S.g i) u zr) (ho : o ∈ optI s S.ns i) : ∃ a ∈ opt s u, IsSum (S.g o) a zr := by
  rcases (SG.isSum_opt h s).1 _ ((mem_optG w hi).mpr ⟨o, ho, rfl⟩) with q | ⟨c, hc, _⟩
  · exact q
  · exact (opt_zr hc).elim
theorem opt_zr2 {U : Un} {S : Gs} (w : Wf U S) {i : Nat} {u a : SG.G} {s : Bool} (hi : i < S.N) (h : IsSum (S.g i) u zr) (ha : a ∈ opt s u) : ∃ o ∈ optI s S.ns i, IsSum (S.g o) a zr := by
  obtain ⟨z, hz, q⟩ := (SG.isSum_opt h s).2.1 a ha
  obtain ⟨o, ho, rfl⟩ := (mem_optG w hi).mp hz
  exact ⟨o, ho, q⟩
theorem ori_opt {U : Un} {S : Gs} (w : Wf U S) (ok : UnOk U) {i j o : Nat} {p : Pu} {s : Bool} (hi : i < S.N) (h : Ori U S i j p) (ho : o ∈ optI s S.ns i) : ∃ p', Ori U S o j p' := by
  obtain ⟨hp, c⟩ := h
  obtain ⟨h1, h2⟩ := SG.mem_pu.mp hp
  rcases c with ⟨c1, c2⟩ | ⟨c1, c2⟩
  · obtain ⟨a, ha, q⟩ := zr_opt w hi c1 ho
    obtain ⟨k, hk, _⟩ := ok.u.cl p.1.1 p.1.2 h1 s a ha
    exact ⟨((k, a), p.2), SG.mem_pu.mpr ⟨hk, h2⟩, .inl ⟨q, c2⟩⟩
  · obtain ⟨a, ha, q⟩ := zr_opt w hi c2 ho
    obtain ⟨k, hk, _⟩ := ok.v.cl p.2.1 p.2.2 h2 s a ha
    exact ⟨(p.1, (k, a)), SG.mem_pu.mpr ⟨h1, hk⟩, .inr ⟨c1, q⟩⟩
theorem Ori.len {U : Un} {S : Gs} (w : Wf U S) (ok : UnOk U) {i j : Nat} {p : Pu} (hi : i < S.N) (h : Ori U S i j p) (s : Bool) : (optI s S.ns i).length ≤ 4 := by
  obtain ⟨hp, c⟩ := h
  obtain ⟨h1, h2⟩ := SG.mem_pu.mp hp
  have go : ∀ u : SG.G, IsSum (S.g i) u zr → (opt s u).length ≤ 4 → (optI s S.ns i).length ≤ 4 := fun u c1 l4 => by
    have hq : ∀ o : Nat, ∃ a : SG.G, o ∈ optI s S.ns i → a ∈ opt s u ∧ IsSum (S.g o) a zr := fun o => by
      by_cases m : o ∈ optI s S.ns i
      · obtain ⟨a, ha, q⟩ := zr_opt w hi c1 m
        exact ⟨a, fun _ => ⟨ha, q⟩⟩
      · exact ⟨zr, fun z => absurd z m⟩
    have k := SG.len_sub (SG.nodup_map (f := fun o => (hq o).choose) (SG.rise_nodup (SG.optI_sorted w.wy hi (s := s))) fun x hx y hy e => by
      have a := ((hq x).choose_spec hx).2
      have b := ((hq y).choose_spec hy).2
      have e' : (hq x).choose = (hq y).choose := e
      rw [e'] at a
      exact SG.sum_uniq w.wy (SG.optI_lt w.wy hi hx).2 (SG.optI_lt w.wy hi hy).2 a b) (M := opt s u) fun q hq' => by
      obtain ⟨o, ho, rfl⟩ := List.mem_map.mp hq'
      exact ((hq o).choose_spec ho).1
    rw [List.length_map] at k
    omega
  rcases c with ⟨c1, c2⟩ | ⟨c1, c2⟩
  · exact go _ c1 (ok.u.few _ _ h1 s)
  · exact go _ c2 (ok.v.few _ _ h2 s)
/-- the sums of the options are the options of the sum -/
structure Beh (S : Gs) (s : Bool) (i j : Nat) (fs : List Nat) : Prop where
  of : ∀ f ∈ fs, f < S.N ∧ ∃ o ∈ optI s S.ns i, IsSum (S.g f) (S.g o) (S.g j)
  all : ∀ o ∈ optI s S.ns i, ∃ f ∈ fs, IsSum (S.g f) (S.g o) (S.g j)
theorem sumopt_of {U : Un} {S : Gs} (w : Wf U S) {i j : Nat} {p : Pu} {s : Bool} {f1 f2 : List Nat} (hi : i < S.N) (hj : j < S.N) (h : Ori U S i j p) (a : Beh S s i j f1) (b : Beh S s j i f2) : SumOpt S p s (f1 ++ f2) := by
  have one : ∀ (i j : Nat) (f1 f2 : List Nat), i < S.N → j < S.N → IsSum (S.g i) p.1.2 zr → IsSum (S.g j) p.2.2 zr → Beh S s i j f1 → Beh S s j i f2 → SumOpt S p s (f1 ++ f2) := by
    intro i j f1 f2 hi hj c1 c2 a b
    refine ⟨fun f hf => ?_, fun x hx => ?_, fun x hx => ?_⟩
    · rcases List.mem_append.mp hf with hf | hf
      · obtain ⟨lt, o, ho, q⟩ := a.of f hf
        obtain ⟨x, hx, q2⟩ := zr_opt w hi c1 ho
        exact ⟨lt, .inl ⟨x, hx, SG.isSum_comp q q2 c2⟩⟩
      · obtain ⟨lt, o, ho, q⟩ := b.of f hf
        obtain ⟨x, hx, q2⟩ := zr_opt w hj c2 ho
        exact ⟨lt, .inr ⟨x, hx, SG.isSum_comp (SG.isSum_symm q) c1 q2⟩⟩
    · obtain ⟨o, ho, q2⟩ := opt_zr2 w hi c1 hx
      obtain ⟨f, hf, q⟩ := a.all o ho
      exact ⟨f, List.mem_append_left _ hf, SG.isSum_comp q q2 c2⟩
    · obtain ⟨o, ho, q2⟩ := opt_zr2 w hj c2 hx
      obtain ⟨f, hf, q⟩ := b.all o ho
      exact ⟨f, List.mem_append_right _ hf, SG.isSum_comp (SG.isSum_symm q) c1 q2⟩
  obtain ⟨hp, c⟩ := h
  rcases c with ⟨c1, c2⟩ | ⟨c1, c2⟩
  · exact one i j f1 f2 hi hj c1 c2 a b
  · have k := one j i f2 f1 hj hi c1 c2 b a
    refine ⟨fun f hf => k.of f (List.mem_append.mpr (List.mem_append.mp hf).symm), fun x hx => ?_, fun x hx => ?_⟩
    · obtain ⟨f, hf, q⟩ := k.l x hx
      exact ⟨f, List.mem_append.mpr (List.mem_append.mp hf).symm, q⟩
    · obtain ⟨f, hf, q⟩ := k.r x hx
      exact ⟨f, List.mem_append.mpr (List.mem_append.mp hf).symm, q⟩
theorem Ori.sum {U : Un} {S : Gs} {i j F : Nat} {p : Pu} (h : Ori U S i j p) (k : IsP S.ns F p) : IsSum (S.g F) (S.g i) (S.g j) := by
  have k : IsSum (S.g F) p.1.2 p.2.2 := k
  rcases h.2 with ⟨c1, c2⟩ | ⟨c1, c2⟩
  · exact SG.isSum_comp k (SG.isSum_back c1) (SG.isSum_back c2)
  · exact SG.isSum_symm (SG.isSum_comp k (SG.isSum_back c1) (SG.isSum_back c2))
theorem Ori.isP {U : Un} {S : Gs} {i j F : Nat} {p : Pu} (h : Ori U S i j p) (k : IsSum (S.g F) (S.g i) (S.g j)) : IsP S.ns F p := by
  rcases h.2 with ⟨c1, c2⟩ | ⟨c1, c2⟩
  · exact SG.isSum_comp k c1 c2
  · exact SG.isSum_comp (SG.isSum_symm k) c1 c2
end K45
end
section
set_option Elab.async false
set_option linter.all false
set_option maxRecDepth 100000
set_option maxHeartbeats 4000000
namespace K45
open PySem PySem.Spec PyProof.Rows L2
open SG (Gs Un UnOk Wf Ext Ex0 gv lf rt optI InC OKp OKr IsP IsSum Pu)
/-! ### sums.py -/
section
variable (P : Program) (w : World) (K : PySem.W.Frag)
def spPlus (n : Nat) : Sp := fun vs H Q _ => ∃ (A : Ad) (U : Un) (S : Gs) (i j : Nat) (p : Pu), vs = [.ref A.sm, nV i, nV j] ∧ At P w K A U S H ∧ UnOk U ∧ i < S.N ∧ j < S.N ∧ SG.ht (S.g i) + SG.ht (S.g j) < n ∧ Ori U S i j p ∧ (∀ q ∈ U.all, OKr S q) ∧
  ∀ S' H' f, At P w K A U S' H' → Keep A H H' → Ext S S' → S'.slack = S.slack → f < S'.N → IsSum (S'.g f) (S'.g i) (S'.g j) → Q (nV f) H'
end
theorem sc_added : FnScope ["self", "one", "other", "found", "side", "ahead", "behind", "option"] ["self", "one", "other"] (defScope s_Sumsadded) := ⟨rfl, rfl, rfl, by decide +kernel, rfl, by decide +kernel, by decide +kernel⟩
abbrev BP (S : Gs) (X : Nat) (L fs : List Nat) : Prop := Paired (fun o f => f < S.N ∧ o < S.N ∧ X < S.N ∧ IsSum (S.g f) (S.g o) (S.g X)) L fs
theorem BP.ext {S S' : Gs} {X : Nat} {L fs : List Nat} (x : Ex0 S S') (h : BP S X L fs) : BP S' X L fs := Paired.mapP h fun o f ⟨a, b, c, d⟩ => ⟨x.lt a, x.lt b, x.lt c, by rw [x.g a, x.g b, x.g c]; exact d⟩
theorem paired_fwd {α β : Type} {R : α → β → Prop} : ∀ {L : List α} {fs : List β}, Paired R L fs → (∀ o ∈ L, ∃ f ∈ fs, R o f) ∧ (∀ f ∈ fs, ∃ o ∈ L, R o f)
  | _, _, .nil => ⟨fun o ho => (by cases ho), fun o ho => (by cases ho)⟩
  | _, _, .cons h t => by
    obtain ⟨a, b⟩ := paired_fwd t
    refine ⟨fun o ho => ?_, fun f hf => ?_⟩
    · rcases List.mem_cons.mp ho with rfl | ho
      · exact ⟨_, List.mem_cons_self .., h⟩
      · obtain ⟨f, hf, q⟩ := a o ho
        exact ⟨f, List.mem_cons_of_mem _ hf, q⟩
    · rcases List.mem_cons.mp hf with rfl | hf
      · exact ⟨_, List.mem_cons_self .., h⟩
      · obtain ⟨o, ho, q⟩ := b f hf
        exact ⟨o, List.mem_cons_of_mem _ ho, q⟩
theorem BP.beh {S : Gs} {s : Bool} {i X : Nat} {fs : List Nat} (h : BP S X (optI s S.ns i) fs) : Beh S s i X fs := by
  obtain ⟨a, b⟩ := paired_fwd h
  exact ⟨fun f hf => let ⟨o, ho, q⟩ := b f hf; ⟨q.1, o, ho, q.2.2.2⟩, fun o ho => let ⟨f, hf, q⟩ := a o ho; ⟨f, hf, q.2.2.2⟩⟩
section
variable {P : Program} {w : World} {K : PySem.W.Frag} {mg : Str → Option Value} {base : Heap} (T : Tx K mg)
include T
theorem p_Sums_forms : Prp P w K mg base 1 (He.ga K "Sums") "forms" (spPr P w K Ad.sm Ad.fm) := by
  refine prp_by (t_cls_Sums T) (t_pr_Sums_forms T) (t_gt_Sums_forms T) sc_Sums_forms (fun vs H Q E h => ?_) (fun _ _ _ _ _ _ us hl => match us, hl with | [_], _ => rfl) (fun cdv A outer s H vs Q E hr h => ?_)
  · obtain ⟨A, U, S, rfl, _⟩ := h
    rfl
  · obtain ⟨A, U, S, rfl, h, k⟩ := h
    exact ⟨_, pss_one (ps_ret (pe_fld (pv 0) rfl)), _, rfl, A.sm, _, A.sx, _, _, rfl, h.lay.sm, t_cls_Sums T, t_no_Sums__forms T, rfl, k⟩
theorem p_Sums_yard : Prp P w K mg base 5 (He.ga K "Sums") "yard" (spPr P w K Ad.sm Ad.yd) := by
  refine prp_by (t_cls_Sums T) (t_pr_Sums_yard T) (t_gt_Sums_yard T) sc_Sums_yard (fun vs H Q E h => ?_) (fun _ _ _ _ _ _ us hl => match us, hl with | [_], _ => rfl) (fun cdv A outer s H vs Q E hr h => ?_)
  · obtain ⟨A, U, S, rfl, _⟩ := h
    rfl
  · obtain ⟨A, U, S, rfl, h, k⟩ := h
    exact ⟨_, pss_one (ps_ret (pe_pr (p_Forms_yard T) hr (by decide) (pe_pr (p_Sums_forms T) hr (by decide) (pv 0)))), _, rfl, A.sm, A.sx, _, rfl, h.lay.sm, A, U, S, rfl, h, A.fm, A.fx, _, rfl, h.lay.fm, A, U, S, rfl, h, k⟩
theorem m_added (n : Nat) (ih : C8.Met P w K mg base (10 + 2 * n) (He.ga K "Sums") "plus" (spPlus P w K n) []) : C8.Met P w K mg base (10 + 2 * n + 1) (He.ga K "Sums") "_added" (spPlus P w K (n + 1)) [] := by
  refine met_by (t_cls_Sums T) (t_me_Sums__added T) (t_fn_Sumsadded T) sc_added (fun vs H Q E h => ?_) (fun _ _ _ _ _ _ us hl => match us, hl with | [_, _, _], _ => rfl) (fun cdv A0 outer s H vs Q E hr h => ?_)
  · obtain ⟨A, U, S, i, j, p, rfl, _⟩ := h
    rfl
  · obtain ⟨A, U, S, i, j, p, rfl, h, ok, hi, hj, hn, ori, hok, k⟩ := h
    have wy := h.wf.wy
    refine ⟨_, pss_cons (ps_set (i := 3) sc_added.nd rfl (.inl rfl) (pe_lst pa_nil))
      (pss_cons (ps_for PassesOwn.never rfl (pi_tup (pe_tup (pa_cons pe_str (pa_cons pe_str pa_nil)))) (pg_name (i := 4) sc_added.nd rfl (.inl rfl))
        (pss_cons (ps_setLc (i := 5) (own := [("option", 7)]) (g := gName 7) (tt := tYes) rfl sc_added.nd rfl rfl (sw_true rfl rfl rfl (by decide +kernel)) (pi_list (C8.pe_mt (m_options T) hr (by omega) (pe_pr (p_Sums_yard T) hr (by omega) (pv 0)) (pa_cons (pv 1) (pa_cons (pv 4) pa_nil))))
          (blkOk_by (N := ["self", "one", "other", "found", "side", "ahead", "behind", "option"]) (sc := defScope s_Sumsadded) (by decide +kernel)) (fun _ _ _ _ _ => pg_name (i := 7) sc_added.nd rfl (Or.inl rfl)) (fun _ _ _ _ _ => pts_nil) (fun _ _ _ _ _ => C8.pe_mt ih hr (Nat.le_refl _) (pv 0) (pa_cons (pv 7) (pa_cons (pv 2) pa_nil))))
        (pss_cons (ps_setLc (i := 6) (own := [("option", 7)]) (g := gName 7) (tt := tYes) rfl sc_added.nd rfl rfl (sw_true rfl rfl rfl (by decide +kernel)) (pi_list (C8.pe_mt (m_options T) hr (by omega) (pe_pr (p_Sums_yard T) hr (by omega) (pv 0)) (pa_cons (pv 2) (pa_cons (pv 4) pa_nil))))
          (blkOk_by (N := ["self", "one", "other", "found", "side", "ahead", "behind", "option"]) (sc := defScope s_Sumsadded) (by decide +kernel)) (fun _ _ _ _ _ => pg_name (i := 7) sc_added.nd rfl (Or.inl rfl)) (fun _ _ _ _ _ => pts_nil) (fun _ _ _ _ _ => C8.pe_mt ih hr (Nat.le_refl _) (pv 0) (pa_cons (pv 1) (pa_cons (pv 7) pa_nil))))
        (pss_one (ps_expr (pe_bm PySem.F.plainAttrs_list PySem.F.slot_list_append PySem.F.type_list_append mt_append (pv 3) (pa_cons (pe_op op_cat (pv 5) (pv 6)) pa_nil)))))))
      (pss_one (ps_ret (C8.pe_mt (m_gameK T) hr (by omega) (pe_pr (p_Sums_yard T) hr (by omega) (pv 0)) (pa_cons (pe_ix ix_list (pv 3) pe_int (fun _ _ => rfl)) (pa_cons (pe_ix ix_list (pv 3) pe_int (fun _ _ => rfl)) pa_nil)))))), ?_⟩
    have call : ∀ s o S2, o ∈ optI s S.ns i → Ext S S2 → o < S2.N ∧ j < S2.N ∧ SG.ht (S2.g o) + SG.ht (S2.g j) < n ∧ (∃ p', Ori U S2 o j p') ∧ ∀ q ∈ U.all, OKr S2 q := fun s o S2 ho x2 => by
      have lo := (SG.optI_lt wy hi ho).2
      have hto : SG.ht (S.g o) < SG.ht (S.g i) := SG.optI_ht wy hi ho
      obtain ⟨p', o'⟩ := ori_opt h.wf ok hi ori ho
      rw [x2.ex0.g lo, x2.ex0.g hj]
      exact ⟨x2.ex0.lt lo, x2.ex0.lt hj, by omega, ⟨p', o'.ext x2.ex0 lo hj⟩, fun q hq => x2.or q (hok q hq)⟩
    have call2 : ∀ s o S2, o ∈ optI s S.ns j → Ext S S2 → i < S2.N ∧ o < S2.N ∧ SG.ht (S2.g i) + SG.ht (S2.g o) < n ∧ (∃ p', Ori U S2 i o p') ∧ ∀ q ∈ U.all, OKr S2 q := fun s o S2 ho x2 => by
      have lo := (SG.optI_lt wy hj ho).2
      have hto : SG.ht (S.g o) < SG.ht (S.g j) := SG.optI_ht wy hj ho
      obtain ⟨p', o'⟩ := ori_opt h.wf ok hj ori.symm ho
      rw [x2.ex0.g lo, x2.ex0.g hi]
      exact ⟨x2.ex0.lt hi, x2.ex0.lt lo, by omega, ⟨p', o'.symm.ext x2.ex0 hi lo⟩, fun q hq => x2.or q (hok q hq)⟩
    refine ⟨by show 0 ≤ sizeLine; decide, fun p0 hp0 => ?_⟩
    obtain ⟨h0, k0⟩ := h.new hp0 (.lst [])
    have np0 := h.fresh hp0
    have e0 : (upd H p0 (.lst [])) p0 = some (.lst []) := upd_same
    generalize upd H p0 (.lst []) = H0 at h0 k0 e0
    refine ⟨by show 2 ≤ sizeLine; decide, fun tt htt => ?_⟩
    obtain ⟨h1, k1⟩ := h0.new htt (.tup [.str "left", .str "right"])
    have et : (upd H0 tt (.tup [.str "left", .str "right"])) tt = some (.tup [.str "left", .str "right"]) := upd_same
    have e1 := k1 _ _ e0 np0
    generalize upd H0 tt (.tup [.str "left", .str "right"]) = H1 at h1 k1 et e1
    refine ⟨tt, rfl, ⟨_, SqT.of et⟩, for_tup (K := K) (a := tt) (xs := [.str "left", .str "right"]) (fun m σ H2 => ∃ S2 y4 y5 y6 qs, σ = [some (.ref A.sm), some (nV i), some (nV j), some (.ref p0), y4, y5, y6, none] ∧ At P w K A U S2 H2 ∧ Keep A H H2 ∧ Ext S S2 ∧ S2.slack = S.slack ∧ H2 tt = some (.tup [.str "left", .str "right"]) ∧
        H2 p0 = some (.lst (qs.map V.ref)) ∧ Paired (fun (q : Addr) (s : Bool) => q ∉ A.mut ∧ q ≠ p0 ∧ ∃ fs : List Nat, H2 q = some (.lst (fs.map nV)) ∧ fs.length ≤ 8 ∧ SumOpt S2 p s fs) qs ([true, false].take m))
      ⟨S, none, none, none, [], rfl, h1, k0.trans k1, Ext.refl S, rfl, et, e1, .nil⟩ (fun _ _ _ _ ⟨_, _, _, _, _, _, _, _, _, _, q, _⟩ => SqT.of q) ?_ ?_⟩
    · rintro m x σ H2 hm ⟨S2, y4, y5, y6, qs, rfl, h2, k2, x2, sl2, et2, e2, r2⟩
      obtain ⟨s, hs, rfl⟩ : ∃ s, [true, false][m]? = some s ∧ x = .str (sdS s) := by
        match m, hm with
        | 0, hm => exact ⟨true, rfl, (Option.some.inj hm).symm⟩
        | 1, hm => exact ⟨false, rfl, (Option.some.inj hm).symm⟩
      -- ahead
      refine ⟨_, rfl, A.sm, A.sx, _, rfl, h2.lay.sm, A, U, S2, rfl, h2, A.yd, A.yx, _, rfl, h2.lay.yd, rfl, _, rfl, _, rfl, A, U, S2, i, s, rfl, h2, x2.ex0.lt hi, fun p1 hp1 => ?_⟩
      rw [x2.ex0.o hi s]
      obtain ⟨h3, k3⟩ := h2.new hp1 (.lst ((optI s S.ns i).map nV))
      have np1 := h2.fresh hp1
      have e3 : (upd H2 p1 (.lst ((optI s S.ns i).map nV))) p1 = some (.lst ((optI s S.ns i).map nV)) := upd_same
      have s23 := same_upd (H := H2) (o := .lst ((optI s S.ns i).map nV)) hp1
      generalize upd H2 p1 (.lst ((optI s S.ns i).map nV)) = H3 at h3 k3 e3 s23
      refine ⟨p1, rfl, ⟨_, SqL.of e3⟩, fun D1 hD1 => lc_list (K := K) (a := p1) (xs := (optI s S.ns i).map nV) (fun m H4 => ∃ S4 fs, At P w K A U S4 H4 ∧ Keep A H3 H4 ∧ Ext S2 S4 ∧ S4.slack = S2.slack ∧ H4 D1 = some (.lst (fs.map nV)) ∧ BP S4 j ((optI s S.ns i).take m) fs)
        ⟨S2, [], (h3.new hD1 _).1, (h3.new hD1 _).2, Ext.refl S2, rfl, upd_same, .nil⟩ (fun _ _ _ ⟨_, _, _, q, _⟩ => SqL.of (q _ _ e3 np1)) ?_ ?_⟩
      · rintro m' x H4 hm' ⟨S4, fs, h4, k4, x4, sl4, e4, r4⟩
        obtain ⟨o, ho, rfl⟩ := nV_get hm'
        have mo := List.mem_of_getElem? ho
        have nD := h3.fresh hD1
        obtain ⟨c1, c2, c3, ⟨p', c4⟩, c5⟩ := call s o S4 mo (x2.trans x4)
        refine ⟨rfl, _, rfl, A.sm, A.sx, _, rfl, h4.lay.sm, rfl, _, rfl, _, rfl, A, U, S4, o, j, p', rfl, h4, ok, c1, c2, c3, c4, c5, fun S5 H5 f h5 k5 x5 sl5 lf q5 => ?_⟩
        have e5 := k5 _ _ e4 nD
        have lfs : fs.length ≤ 4 := by
          rw [← Paired.length r4]
          exact Nat.le_trans (List.length_take_le' ..) (ori.len h.wf ok hi s)
        refine ⟨_, e5, by rw [List.length_map, sizeLine_eq]; omega, S5, fs ++ [f], h5.lst' e5 nD _, keep_lst (k4.trans k5) hD1, x4.trans x5, sl5.trans sl4, ?_, ?_⟩
        · rw [upd_same, List.map_append]
          rfl
        · rw [List.take_add_one, ho]
          exact Paired.snoc (r4.ext x5.ex0) ⟨lf, x5.ex0.lt c1, x5.ex0.lt c2, q5⟩
      rintro H4 ⟨S4, f1, h4, k4, x4, sl4, e4, r4⟩
      rw [List.length_map, List.take_of_length_le (Nat.le_refl _)] at r4
      have nD1 := h3.fresh hD1
      have x24 := x2.trans x4
      have kH4 : Keep A H2 H4 := k3.trans k4
      -- behind
      refine ⟨_, rfl, A.sm, A.sx, _, rfl, h4.lay.sm, A, U, S4, rfl, h4, A.yd, A.yx, _, rfl, h4.lay.yd, rfl, _, rfl, _, rfl, A, U, S4, j, s, rfl, h4, x24.ex0.lt hj, fun p2 hp2 => ?_⟩
      rw [x24.ex0.o hj s]
      obtain ⟨h5, k5⟩ := h4.new hp2 (.lst ((optI s S.ns j).map nV))
      have np2 := h4.fresh hp2
      have e5 : (upd H4 p2 (.lst ((optI s S.ns j).map nV))) p2 = some (.lst ((optI s S.ns j).map nV)) := upd_same
      have e5D := k5 _ _ e4 nD1
      generalize upd H4 p2 (.lst ((optI s S.ns j).map nV)) = H5 at h5 k5 e5 e5D
      refine ⟨p2, rfl, ⟨_, SqL.of e5⟩, fun D2 hD2 => lc_list (K := K) (a := p2) (xs := (optI s S.ns j).map nV) (fun m H6 => ∃ S6 fs, At P w K A U S6 H6 ∧ Keep A H5 H6 ∧ Ext S4 S6 ∧ S6.slack = S4.slack ∧ H6 D2 = some (.lst (fs.map nV)) ∧ BP S6 i ((optI s S.ns j).take m) fs)
        ⟨S4, [], (h5.new hD2 _).1, (h5.new hD2 _).2, Ext.refl S4, rfl, upd_same, .nil⟩ (fun _ _ _ ⟨_, _, _, q, _⟩ => SqL.of (q _ _ e5 np2)) ?_ ?_⟩
      · rintro m' x H6 hm' ⟨S6, fs, h6, k6, x6, sl6, e6, r6⟩
        obtain ⟨o, ho, rfl⟩ := nV_get hm'
        have mo := List.mem_of_getElem? ho
        have nD := h5.fresh hD2
        obtain ⟨c1, c2, c3, ⟨p', c4⟩, c5⟩ := call2 s o S6 mo (x24.trans x6)
        refine ⟨rfl, _, rfl, A.sm, A.sx, _, rfl, h6.lay.sm, rfl, _, rfl, _, rfl, A, U, S6, i, o, p', rfl, h6, ok, c1, c2, c3, c4, c5, fun S7 H7 f h7 k7 x7 sl7 lf q7 => ?_⟩
        have e7 := k7 _ _ e6 nD
        have lfs : fs.length ≤ 4 := by
          rw [← Paired.length r6]
          exact Nat.le_trans (List.length_take_le' ..) (ori.symm.len h.wf ok hj s)
        refine ⟨_, e7, by rw [List.length_map, sizeLine_eq]; omega, S7, fs ++ [f], h7.lst' e7 nD _, keep_lst (k6.trans k7) hD2, x6.trans x7, sl7.trans sl6, ?_, ?_⟩
        · rw [upd_same, List.map_append]
          rfl
        · rw [List.take_add_one, ho]
          exact Paired.snoc (r6.ext x7.ex0) ⟨lf, x7.ex0.lt c2, x7.ex0.lt c1, SG.isSum_symm q7⟩
      rintro H6 ⟨S6, f2, h6, k6, x6, sl6, e6, r6⟩
      rw [List.length_map, List.take_of_length_le (Nat.le_refl _)] at r6
      have e6D := k6 _ _ e5D nD1
      have x46 := x24.trans x6
      have kH6 : Keep A H2 H6 := kH4.trans (k5.trans k6)
      have l1 : f1.length ≤ 4 := by rw [← Paired.length r4]; exact ori.len h.wf ok hi s
      have l2 : f2.length ≤ 4 := by rw [← Paired.length r6]; exact ori.symm.len h.wf ok hj s
      have e6p := kH6 _ _ e2 np0
      have lqs : qs.length ≤ 2 := by rw [Paired.length r2]; exact Nat.le_trans (List.length_take_le' ..) (Nat.le_refl _)
      have ob : SumOpt S6 p s (f1 ++ f2) := by
        have b1 : BP S6 j (optI s S6.ns i) f1 := by rw [x46.ex0.o hi s]; exact r4.ext x6.ex0
        have b2 : BP S6 i (optI s S6.ns j) f2 := by rw [x46.ex0.o hj s]; exact r6
        exact sumopt_of h6.wf (x46.ex0.lt hi) (x46.ex0.lt hj) (ori.ext x46.ex0 hi hj) b1.beh b2.beh
      refine ⟨_, rfl, .inl ⟨rfl, _, SqL.of e6p⟩, _, rfl, _, rfl, D1, D2, _, _, rfl, rfl, e6D, e6, by rw [List.length_map, List.length_map, sizeLine_eq]; omega, fun q hq => ?_⟩
      obtain ⟨h7, k7⟩ := h6.new hq (.lst (f1.map nV ++ f2.map nV))
      have e7p := k7 _ _ e6p np0
      have qp : q ≠ p0 := fun z => by rw [z, e6p] at hq; cases hq
      refine ⟨p0, _, _, rfl, rfl, e7p, by rw [List.length_map, sizeLine_eq]; omega, S6, _, _, _, qs ++ [q], rfl, h7.lst' e7p np0 _, keep_lst (k2.trans (kH6.trans k7)) hp0, x46, sl6.trans (sl4.trans sl2), ?_, ?_, ?_⟩
      · have t6 := h2.tupK kH6 _ _ et2
        exact (upd_ne (ne_of (h6.tupK k7 _ _ t6) e7p (by intro z; cases z))).trans (h6.tupK k7 _ _ t6)
      · rw [upd_same, List.map_append]
        rfl
      · rw [List.take_add_one, hs]
        refine Paired.snoc (Paired.mapP r2 fun q' s' ⟨a, b, fs, c, d, e⟩ => ⟨a, b, fs, (upd_ne b).trans (k7 _ _ (kH6 _ _ c a) a), d, e.ext (x4.trans x6).ex0⟩) ⟨h6.fresh hq, qp, f1 ++ f2, ?_, by rw [List.length_append]; omega, ob⟩
        rw [upd_ne qp, upd_same, List.map_append]
    · rintro σ H2 ⟨S2, y4, y5, y6, qs, rfl, h2, k2, x2, sl2, et2, e2, r2⟩
      have r2 : Paired (fun (q : Addr) (s : Bool) => q ∉ A.mut ∧ q ≠ p0 ∧ ∃ fs : List Nat, H2 q = some (.lst (fs.map nV)) ∧ fs.length ≤ 8 ∧ SumOpt S2 p s fs) qs [true, false] := r2
      cases r2 with
      | @cons q1 _ qs' _ r21 r22 =>
      cases r22 with
      | @cons q2 _ qs'' _ r23 r24 =>
      cases r24
      obtain ⟨_, _, f1, ef1, lf1, o1⟩ := r21
      obtain ⟨_, _, f2, ef2, lf2, o2⟩ := r23
      obtain ⟨S3, h3, ens, gk⟩ := credit_game (Q := Q) h2 (x2.or p (hok p ori.1)) o1 o2 (fun S7 H7 F h7 k7 x7 sl7 lF hp => k S7 H7 F h7 (k2.trans k7) (x2.trans x7) (sl7.trans sl2) lF ((ori.ext (x2.trans x7).ex0 hi hj).sum hp))
      have bx : ∀ x ∈ f1, x < S3.N := fun x hx => by show x < S3.ns.length; rw [ens]; exact (o1.of x hx).1
      have by_ : ∀ x ∈ f2, x < S3.N := fun x hx => by show x < S3.ns.length; rw [ens]; exact (o2.of x hx).1
      exact ⟨_, rfl, A.sm, A.sx, _, rfl, h3.lay.sm, A, U, S3, rfl, h3, A.yd, A.yx, _, rfl, h3.lay.yd, rfl, _, rfl, p0, _, 0, .ref q1, rfl, rfl, SqL.of e2, atI_nat (j := 0) rfl, _, rfl, p0, _, 1, .ref q2, rfl, rfl, SqL.of e2, atI_nat (j := 1) rfl,
        A, U, S3, q1, q2, f1, f2, rfl, h3, ef1, ef2, by omega, by omega, bx, by_, gk⟩
end
end K45
end
section
set_option Elab.async false
set_option linter.all false
set_option maxRecDepth 100000
set_option maxHeartbeats 4000000
namespace K45
open PySem PySem.Spec PyProof.Rows L2
open SG (Gs Un UnOk Wf Ext Ex0 gv lf rt optI InC OKp OKr IsP IsSum Pu)
section
variable {P : Program} {w : World} {K : PySem.W.Frag} {mg : Str → Option Value} {base : Heap} (T : Tx K mg)
include T
theorem m_plus_step (n : Nat) (ih : C8.Met P w K mg base (10 + 2 * n + 1) (He.ga K "Sums") "_added" (spPlus P w K (n + 1)) []) : C8.Met P w K mg base (10 + 2 * (n + 1)) (He.ga K "Sums") "plus" (spPlus P w K (n + 1)) [] := by
  refine met_by (k := 10 + 2 * n + 1) (t_cls_Sums T) (t_me_Sums_plus T) (t_fn_Sums_plus T) sc_Sums_plus (fun vs H Q E h => ?_) (fun _ _ _ _ _ _ us hl => match us, hl with | [_, _, _], _ => rfl) (fun cdv A0 outer s H vs Q E hr h => ?_)
  · obtain ⟨A, U, S, i, j, p, rfl, _⟩ := h
    rfl
  · obtain ⟨A, U, S, i, j, p, rfl, h, ok, hi, hj, hn, ori, hok, k⟩ := h
    have hu := hu_of hr
    refine ⟨_, pss_cons (ps_expr (C8.pe_mt (m_height T) hr (by omega) (pe_pr (p_Sums_yard T) hr (by omega) (pv 0)) (pa_cons (pv 1) pa_nil)))
      (pss_cons (ps_expr (C8.pe_mt (m_height T) hr (by omega) (pe_pr (p_Sums_yard T) hr (by omega) (pv 0)) (pa_cons (pv 2) pa_nil)))
      (pss_cons (ps_set (i := 3) sc_Sums_plus.nd rfl (.inl rfl) (pe_tup (pa_cons (pe_callB (call_min2 rfl) (by rfl) (t_fr_min T) (by decide +kernel) (pa_cons (pv 1) (pa_cons (pv 2) pa_nil))) (pa_cons (pe_callB (call_max2 rfl) (by rfl) (t_fr_max T) (by decide +kernel) (pa_cons (pv 1) (pa_cons (pv 2) pa_nil))) pa_nil))))
      (pss_cons (ps_if (pt_cmp (pc_dnotin hu (pv 3) (pe_fld (pv 0) rfl)))
        (pss_one (ps_dput hu (pe_fld (pv 0) rfl) (pv 3) (C8.pe_mt ih hr (by omega) (pv 0) (pa_cons (pe_ix ix_tup (pv 3) pe_int (fun _ _ => rfl)) (pa_cons (pe_ix ix_tup (pv 3) pe_int (fun _ _ => rfl)) pa_nil))) rfl)) pss_nil)
      (pss_one (ps_ret (pe_dget hu (pe_fld (pv 0) rfl) (pv 3) (fun _ _ => rfl))))))), ?_⟩
    refine ⟨_, rfl, A.sm, A.sx, _, rfl, h.lay.sm, A, U, S, rfl, h, A.yd, A.yx, _, rfl, h.lay.yd, rfl, _, rfl, A, U, S, i, rfl, h, hi, ?_⟩
    refine ⟨_, rfl, A.sm, A.sx, _, rfl, h.lay.sm, A, U, S, rfl, h, A.yd, A.yx, _, rfl, h.lay.yd, rfl, _, rfl, A, U, S, j, rfl, h, hj, ?_⟩
    have ab : ∃ a b : Nat, (V.int (if (j : Int) < (i : Int) then (j : Int) else (i : Int))) = nV a ∧ (V.int (if (j : Int) > (i : Int) then (j : Int) else (i : Int))) = nV b ∧ a < S.N ∧ b < S.N ∧ a ≤ b ∧ SG.ht (S.g a) + SG.ht (S.g b) < n + 1 ∧ Ori U S a b p ∧
        ∀ (S' : Gs) f, Ex0 S S' → IsSum (S'.g f) (S'.g a) (S'.g b) → IsSum (S'.g f) (S'.g i) (S'.g j) := by
      by_cases c : j < i
      · refine ⟨j, i, ?_, ?_, hj, hi, by omega, by omega, ori.symm, fun S' f x q => SG.isSum_symm q⟩
        · rw [if_pos (by omega)]
        · rw [if_neg (by omega)]
      · refine ⟨i, j, ?_, ?_, hi, hj, by omega, hn, ori, fun S' f x q => q⟩
        · rw [if_neg (by omega)]
        · by_cases d : i < j
          · rw [if_pos (by omega)]
          · have : i = j := by omega
            rw [if_neg (by omega), this]
    obtain ⟨a, b, ea, eb, ha, hb, le, hab, oab, back⟩ := ab
    refine ⟨_, rfl, _, rfl, _, _, rfl, ?_⟩
    rw [ea]
    refine ⟨_, rfl, _, rfl, _, _, rfl, ?_⟩
    rw [eb]
    refine ⟨by show 2 ≤ sizeLine; decide, fun t ht => ?_⟩
    obtain ⟨h1, k1⟩ := h.new ht (.tup [nV a, nV b])
    have et : (upd H t (.tup [nV a, nV b])) t = some (.tup (([kN a, kN b] : List Key).map kV)) := upd_same
    generalize upd H t (.tup [nV a, nV b]) = H1 at h1 k1 et
    have fin : ∀ S' H' f, At P w K A U S' H' → Keep A H1 H' → Ext S S' → S'.slack = S.slack → valV (S'.pl.map plE) [kN a, kN b] = some (nV f) → f < S'.N → IsSum (S'.g f) (S'.g a) (S'.g b) → ∃ v : V, some (V.ref t) = some v ∧ True := fun _ _ _ _ _ _ _ _ _ _ => ⟨_, rfl, trivial⟩
    refine ⟨_, rfl, _, rfl, A.sm, _, A.sx, _, _, rfl, h1.lay.sm, t_cls_Sums T, t_no_Sums__plus T, rfl, A.PL, _, rfl, DGet.t h1.bk.pl et, _, rfl, ?_⟩
    cases ev : valV (S.pl.map plE) [kN a, kN b] with
    | some v =>
      obtain ⟨f, hf, rfl⟩ := val_some (f := plE) (kf := fun e : Nat × Nat => [kN e.1, kN e.2]) (vf := nV) (a := (a, b)) (fun _ => rfl) alK_inj ev
      have po := h.wf.pl a b f hf
      refine iteF ⟨_, rfl, A.sm, _, A.sx, _, _, rfl, h1.lay.sm, t_cls_Sums T, t_no_Sums__plus T, rfl, _, rfl, A.PL, nV f, rfl, ?_, k S H1 f h1 k1 (Ext.refl S) rfl po.ls (back S f (Ext.refl S).ex0 po.sum)⟩
      rw [← ev]
      exact DGet.t h1.bk.pl et
    | none =>
      refine iteT ?_
      refine ⟨_, rfl, A.sm, A.sx, _, rfl, h1.lay.sm, rfl, _, rfl, t, _, 0, nV a, rfl, rfl, SqT.of et, atI_nat (j := 0) rfl, _, rfl, t, _, 1, nV b, rfl, rfl, SqT.of et, atI_nat (j := 1) rfl, A, U, S, a, b, p, rfl, h1, ok, ha, hb, hab, oab, hok, fun S2 H2 f h2 k2 x2 sl2 lf q => ?_⟩
      have et2 := h1.tupK k2 _ _ et
      have small := SG.pl_small h2.wf
      have l225 := ok.len
      refine ⟨_, rfl, A.sm, _, A.sx, _, _, rfl, h2.lay.sm, t_cls_Sums T, t_no_Sums__plus T, rfl, _, rfl, A.PL, _, rfl, DPut.t h2.bk.pl et2 (by rw [List.length_map, sizeLine_eq]; omega), ?_⟩
      have main : ∃ S3, At P w K A U S3 (upd H2 A.PL (.dT (putK (S2.pl.map plE) [kN a, kN b] (nV f)))) ∧ Keep A H2 (upd H2 A.PL (.dT (putK (S2.pl.map plE) [kN a, kN b] (nV f)))) ∧ Ext S2 S3 ∧ S3.slack = S2.slack ∧ valV (S3.pl.map plE) [kN a, kN b] = some (nV f) := by
        have keep := Keep.of_ne (A := A) (x := A.PL) (by simp [Ad.mut]) fun b' o n e => (upd_ne (o := .dT (putK (S2.pl.map plE) [kN a, kN b] (nV f))) n).trans (show H2 b' = some o from e)
        cases ev2 : valV (S2.pl.map plE) [kN a, kN b] with
        | some v =>
          have val : ∀ e ∈ S2.pl.map plE, e.1 = [kN a, kN b] → e.2 = nV f := fun e he z => by
            obtain ⟨⟨⟨a', b'⟩, f'⟩, m, rfl⟩ := List.mem_map.mp he
            have := alK_inj (a', b') (a, b) z
            injection this with e1 e2
            subst e1 e2
            have po := h2.wf.pl a' b' f' m
            rw [SG.sum_uniq h2.wf.wy lf po.ls q po.sum]
            rfl
          have same := putK_id val (by rw [ev2]; rfl)
          obtain ⟨f', hf', rfl⟩ := val_some (f := plE) (kf := fun e : Nat × Nat => [kN e.1, kN e.2]) (vf := nV) (a := (a, b)) (fun _ => rfl) alK_inj ev2
          refine ⟨S2, h2.same fun b' o e => ?_, keep, Ext.refl S2, rfl, by rw [ev2]; exact congrArg some (val (plE ((a, b), f')) (List.mem_map.mpr ⟨_, hf', rfl⟩) rfl)⟩
          by_cases z : b' = A.PL
          · rw [z] at e ⊢
            rw [h2.bk.pl] at e
            rw [← e, upd_same, same]
          · exact (upd_ne z).trans e
        | none =>
          have hn2 : (a, b) ∉ S2.pl.map (·.1) := val_none (f := plE) (kf := fun e : Nat × Nat => [kN e.1, kN e.2]) (vf := nV) (fun _ => rfl) ev2
          have o2 := oab.ext x2.ex0 ha hb
          obtain ⟨w3, x3⟩ := SG.wf_pl h2.wf (i := a) (j := b) (s := f) ⟨x2.ex0.lt ha, x2.ex0.lt hb, lf, le, q, p, o2.1, o2.2.imp (fun z => ⟨z.1, SG.isSum_symm z.2⟩) (fun z => ⟨z.1, SG.isSum_symm z.2⟩)⟩ hn2
          have ep := putK_new (nV f) ev2
          have ei : ((S2.putPl a b f).pl.map plE) = S2.pl.map plE ++ [([kN a, kN b], nV f)] := by
            show (S2.pl ++ [((a, b), f)]).map plE = _
            rw [List.map_append]
            rfl
          refine ⟨S2.putPl a b f, h2.pl' w3 (by rw [upd_same, ei, ep]) (fun c o n e => (upd_ne n).trans e), keep, x3, rfl, by rw [ei, valV_snoc _ _ _ _ ev2, if_pos rfl]⟩
      obtain ⟨S3, h3, k3, x3, sl3, ev3⟩ := main
      generalize upd H2 A.PL (.dT (putK (S2.pl.map plE) [kN a, kN b] (nV f))) = H3 at h3 k3
      have et3 := h2.tupK k3 _ _ et2
      have x23 := x3.ex0
      refine ⟨_, rfl, A.sm, _, A.sx, _, _, rfl, h3.lay.sm, t_cls_Sums T, t_no_Sums__plus T, rfl, _, rfl, A.PL, nV f, rfl, ?_, k S3 H3 f h3 (k1.trans (k2.trans k3)) (x2.trans x3) (sl3.trans sl2) (x23.lt lf) (back S3 f (x2.trans x3).ex0 (by rw [x23.g lf, x23.g (x2.ex0.lt ha), x23.g (x2.ex0.lt hb)]; exact q))⟩
      rw [← ev3]
      exact DGet.t h3.bk.pl et3
theorem m_plus : ∀ n : Nat, C8.Met P w K mg base (10 + 2 * n) (He.ga K "Sums") "plus" (spPlus P w K n) []
  | 0 => by
    refine met_by (k := 9) (t_cls_Sums T) (t_me_Sums_plus T) (t_fn_Sums_plus T) sc_Sums_plus (fun vs H Q E h => ?_) (fun _ _ _ _ _ _ us hl => match us, hl with | [_, _, _], _ => rfl) (fun cdv A0 outer s H vs Q E hr h => ?_)
    · obtain ⟨A, U, S, i, j, p, rfl, _⟩ := h
      rfl
    · obtain ⟨A, U, S, i, j, p, rfl, h, ok, hi, hj, hn, _⟩ := h
      exact absurd hn (Nat.not_lt_zero _)
  | n + 1 => m_plus_step T n (m_added T n (m_plus n))
end
end K45
end
section
set_option Elab.async false
set_option linter.all false
set_option maxRecDepth 100000
set_option maxHeartbeats 4000000
namespace SG
theorem plain_p {v : Dy} {k : Nat} (h : Plain v) (hk : k ≤ 64) (d : (2 ^ k : Int) ∣ sc v) : v.p ≤ 64 - k ∨ 64 < v.p := by
  by_cases c : v.p ≤ 64 - k
  · exact .inl c
  · by_cases c2 : 64 < v.p
    · exact .inr c2
    · exfalso
      have odd : v.t % 2 = 1 := by
        rcases h with h | h
        · omega
        · exact h
      obtain ⟨m, hm⟩ := d
      unfold sc at hm
      have e : k = (64 - v.p) + ((k - (64 - v.p) - 1) + 1) := by omega
      rw [e, Int.pow_add, Int.mul_assoc] at hm
      have := Int.eq_of_mul_eq_mul_left (Int.ne_of_gt (pow_pos2 (64 - v.p))) hm
      rw [this, Int.pow_succ, Int.mul_comm (2 ^ _) 2, Int.mul_assoc] at odd
      omega
end SG
namespace K45
open PySem PySem.Spec PyProof.Rows L2
open SG (Gs Un UnOk Wf Ext Ex0 gv lf rt optI InC OKp OKr IsP IsSum Pu Dy sc)
/-! ### an entry put in its place, or at the end -/
open Classical in
noncomputable def putL {α β : Type} (l : List (α × β)) (a : α) (b : β) : List (α × β) := if a ∈ l.map (·.1) then l.map (fun e => if e.1 = a then (a, b) else e) else l ++ [(a, b)]
open Classical in
theorem mem_putL {α β : Type} {l : List (α × β)} {a : α} {b : β} {e : α × β} (h : e ∈ putL l a b) : e ∈ l ∨ e = (a, b) := by
  unfold putL at h
  split at h
  · obtain ⟨x, hx, rfl⟩ := List.mem_map.mp h
    split
    · exact .inr rfl
    · exact .inl hx
  · exact SG.snoc_cases h
open Classical in
theorem keys_putL {α β : Type} {l : List (α × β)} {a : α} {b : β} (h : (l.map (·.1)).Nodup) : ((putL l a b).map (·.1)).Nodup := by
  unfold putL
  split
  · have : (l.map (fun e => if e.1 = a then (a, b) else e)).map (·.1) = l.map (·.1) := by
      rw [List.map_map]
      refine List.map_congr_left fun e _ => ?_
      show (if e.1 = a then (a, b) else e).1 = e.1
      split
      · next q => exact q.symm
      · rfl
    rw [this]
    exact h
  · next n => exact SG.keys_snoc h n
open Classical in
theorem put_map {α β κ : Type} [DecidableEq κ] {f : α × β → κ × V} {kf : α → κ} {vf : β → V} (hf : ∀ e, f e = (kf e.1, vf e.2)) (inj : ∀ a b, kf a = kf b → a = b) (l : List (α × β)) (a : α) (b : β) : putK (l.map f) (kf a) (vf b) = (putL l a b).map f := by
  have hk : ((l.map f).any fun kv => decide (kv.1 = kf a)) = true ↔ a ∈ l.map (·.1) := by
    rw [List.any_eq_true]
    constructor
    · rintro ⟨x, hx, q⟩
      obtain ⟨e, he, rfl⟩ := List.mem_map.mp hx
      have q := of_decide_eq_true q
      rw [hf] at q
      exact List.mem_map.mpr ⟨e, he, inj _ _ q⟩
    · intro h
      obtain ⟨e, he, rfl⟩ := List.mem_map.mp h
      exact ⟨f e, List.mem_map.mpr ⟨e, he, rfl⟩, decide_eq_true (by rw [hf])⟩
  unfold putK putL
  by_cases c : a ∈ l.map (·.1)
  · rw [if_pos (hk.mpr c), if_pos c, List.map_map, List.map_map]
    refine List.map_congr_left fun e _ => ?_
    show (if (f e).1 = kf a then ((f e).1, vf b) else f e) = f (if e.1 = a then (a, b) else e)
    by_cases q : e.1 = a
    · rw [if_pos q, if_pos (by rw [hf, q]), hf, hf, q]
    · rw [if_neg q, if_neg (by rw [hf]; exact fun z => q (inj _ _ z))]
  · rw [if_neg (fun z => c (hk.mp z)), if_neg c, List.map_append, List.map_cons, List.map_nil, hf (a, b)]
theorem val_put {κ : Type} [DecidableEq κ] (kvs : List (κ × V)) (k : κ) (v : V) : valV (putK kvs k v) k = some v := by rw [valV_put, if_pos rfl]
noncomputable abbrev setNu (S : Gs) (f : Nat) (o : Option (Nat × Dy)) : Gs := { S with nu := putL S.nu f o }
noncomputable abbrev setSt (S : Gs) (i : Nat) (s : Bool) (z : Nat × Dy) : Gs := { S with st := putL S.st (i, s) z }
theorem ext_nu (S : Gs) (f : Nat) (o : Option (Nat × Dy)) : Ext S (setNu S f o) := ⟨⟨[], (List.append_nil _).symm⟩, fun _ h => h, fun _ h => h, fun _ h => h⟩
theorem ext_st (S : Gs) (i : Nat) (s : Bool) (z : Nat × Dy) : Ext S (setSt S i s z) := ⟨⟨[], (List.append_nil _).symm⟩, fun _ h => h, fun _ h => h, fun _ h => h⟩
theorem wf_setNu {U : Un} {S : Gs} (w : Wf U S) {f : Nat} {o : Option (Nat × Dy)} (h1 : f < S.N) (h2 : o = none → ¬ SG.Num 64 (S.g f)) (h3 : ∀ z, o = some z → SG.Al (S.g f) (SG.form 64 (sc z.2))) : Wf U (setNu S f o) :=
  SG.wf_of w (ext_nu S f o).ex0 w.wy (fun e h => .inl h) w.alk (fun _ h => .inl h) w.sik (fun _ h => .inl h) w.plk (fun e h' => (mem_putL h').imp id fun q => by subst q; exact ⟨h1, h2, h3⟩) (keys_putL w.nuk) (fun _ h => .inl h) w.mdk (fun _ h => .inl h) w.stk w.bud
theorem wf_setSt {U : Un} {S : Gs} (w : Wf U S) {i : Nat} {s : Bool} {z : Nat × Dy} (h1 : i < S.N) (h2 : sc z.2 = SG.stop 64 s (S.g i)) : Wf U (setSt S i s z) :=
  SG.wf_of w (ext_st S i s z).ex0 w.wy (fun e h => .inl h) w.alk (fun _ h => .inl h) w.sik (fun _ h => .inl h) w.plk (fun _ h => .inl h) w.nuk (fun _ h => .inl h) w.mdk (fun e h' => (mem_putL h').imp id fun q => by subst q; exact ⟨h1, h2⟩) (keys_putL w.stk) w.bud
section
variable {P : Program} {w : World} {K : PySem.W.Frag} {A : Ad} {U : Un} {S : Gs} {H H' : Hp}
theorem At.nu2 (h : At P w K A U S H) {f : Nat} {o : Option (Nat × Dy)} (h1 : f < S.N) (h2 : o = none → ¬ SG.Num 64 (S.g f)) (h3 : ∀ z, o = some z → SG.Al (S.g f) (SG.form 64 (sc z.2))) (ho : ∀ z, o = some z → DyAt K H z.1 z.2) :
    At P w K A U (setNu S f o) (upd H A.NU (.dK (putK (S.nu.map nuE) (kN f) (nuV o)))) ∧ Keep A H (upd H A.NU (.dK (putK (S.nu.map nuE) (kN f) (nuV o)))) := by
  have k : ∀ c o', c ≠ A.NU → H c = some o' → upd H A.NU (.dK (putK (S.nu.map nuE) (kN f) (nuV o))) c = some o' := fun c o' n e => (upd_ne n).trans e
  have n : ∀ C dx fs, H A.NU ≠ some (.ins C dx fs) := fun C dx fs z => by rw [h.bk.nu] at z; cases z
  have e : upd H A.NU (.dK (putK (S.nu.map nuE) (kN f) (nuV o))) A.NU = some (.dK ((setNu S f o).nu.map nuE)) := by
    rw [upd_same, put_map (f := nuE) (kf := kN) (vf := nuV) (fun _ => rfl) (fun a b => kN_inj)]
  refine ⟨⟨h.lay.dict n k, h.yb.dict (.inr ⟨_, h.bk.nu⟩) k,
    ⟨k _ _ (ne_of h.bk.al h.bk.nu (by intro z; cases z)) h.bk.al, k _ _ h.di.sn h.bk.si, k _ _ (ne_of h.bk.pl h.bk.nu (by intro z; cases z)) h.bk.pl, e, k _ _ (ne_of h.bk.md h.bk.nu (by intro z; cases z)) h.bk.md, k _ _ (ne_of h.bk.st h.bk.nu (by intro z; cases z)) h.bk.st,
      fun f' z m => ?_, fun f z m => dy_at (h.bk.ds f z m) n k⟩, h.di, wf_setNu h.wf h1 h2 h3⟩, Keep.of_ne (x := A.NU) (by simp [Ad.mut]) k⟩
  rcases mem_putL m with m | m
  · exact dy_at (h.bk.dn f' z m) n k
  · injection m with _ m
    exact dy_at (ho z m.symm) n k
theorem At.st2 (h : At P w K A U S H) {i : Nat} {s : Bool} {z : Nat × Dy} (h1 : i < S.N) (h2 : sc z.2 = SG.stop 64 s (S.g i)) (hz : DyAt K H z.1 z.2) :
    At P w K A U (setSt S i s z) (upd H A.ST (.dT (putK (S.st.map stE) [kN i, Sum.inr (sdS s)] (.ref z.1)))) ∧ Keep A H (upd H A.ST (.dT (putK (S.st.map stE) [kN i, Sum.inr (sdS s)] (.ref z.1)))) := by
  have k : ∀ c o', c ≠ A.ST → H c = some o' → upd H A.ST (.dT (putK (S.st.map stE) [kN i, Sum.inr (sdS s)] (.ref z.1))) c = some o' := fun c o' n e => (upd_ne n).trans e
  have n : ∀ C dx fs, H A.ST ≠ some (.ins C dx fs) := fun C dx fs z => by rw [h.bk.st] at z; cases z
  have e : upd H A.ST (.dT (putK (S.st.map stE) [kN i, Sum.inr (sdS s)] (.ref z.1))) A.ST = some (.dT ((setSt S i s z).st.map stE)) := by
    have q := put_map (f := stE) (kf := fun e : Nat × Bool => [kN e.1, Sum.inr (sdS e.2)]) (vf := fun z : Nat × Dy => V.ref z.1) (fun _ => rfl) stK_inj S.st (i, s) z
    rw [upd_same]
    exact congrArg (fun z => some (HO.dT z)) q
  refine ⟨⟨h.lay.dict n k, h.yb.dict (.inl ⟨_, h.bk.st⟩) k,
    ⟨k _ _ h.di.as h.bk.al, k _ _ (ne_of h.bk.si h.bk.st (by intro z; cases z)) h.bk.si, k _ _ h.di.ps h.bk.pl, k _ _ (ne_of h.bk.nu h.bk.st (by intro z; cases z)) h.bk.nu, k _ _ h.di.ms h.bk.md, e,
      fun f z m => dy_at (h.bk.dn f z m) n k, fun f' z' m => ?_⟩, h.di, wf_setSt h.wf h1 h2⟩, Keep.of_ne (x := A.ST) (by simp [Ad.mut]) k⟩
  rcases mem_putL m with m | m
  · exact dy_at (h.bk.ds f' z' m) n k
  · injection m with _ m
    subst m
    exact dy_at hz n k
theorem At.insK (h : At P w K A U S H) (k : Keep A H H') : ∀ c C dx fs, H c = some (.ins C dx fs) → H' c = some (.ins C dx fs) := fun c C dx fs e =>
  k _ _ e (h.nmut e (fun _ z => by cases z) (fun _ z => by cases z) (fun _ z => by cases z) (fun _ z => by cases z))
theorem At.dyK (h : At P w K A U S H) (k : Keep A H H') {d : Addr} {v : Dy} (hd : DyAt K H d v) : DyAt K H' d v :=
  let ⟨dx, e, ok⟩ := hd
  ⟨dx, h.insK k _ _ _ _ e, ok⟩
end
end K45
end
section
set_option Elab.async false
set_option linter.all false
set_option maxRecDepth 100000
set_option maxHeartbeats 4000000
namespace K45
open PySem PySem.Spec PyProof.Rows L2
open SG (Gs Un UnOk Wf Ext Ex0 gv lf rt optI InC OKp OKr IsP IsSum Pu Dy sc Num Al form)
/-! ### values.py: which number a game is -/
/-- what is told of a game's number -/
structure NumV (K : PySem.W.Frag) (H : Hp) (g : SG.G) (o : Option (Nat × Dy)) : Prop where
  no : o = none → ¬ Num 64 g
  yes : ∀ z, o = some z → DyAt K H z.1 z.2 ∧ Al g (form 64 (sc z.2))
section
variable (P : Program) (w : World) (K : PySem.W.Frag)
def spNumOf (n : Nat) : Sp := fun vs H Q _ => ∃ (A : Ad) (U : Un) (S : Gs) (i : Nat), vs = [.ref A.vl, nV i] ∧ At P w K A U S H ∧ UnOk U ∧ i < S.N ∧ SG.ht (S.g i) < n ∧ SG.ht (S.g i) ≤ 16 ∧ (Lab U S i ∨ InC S i) ∧ (∀ p ∈ U.all, OKp S p) ∧
  ∀ S' H' o, At P w K A U S' H' → Keep A H H' → Ext S S' → S'.slack = S.slack → NumV K H' (S.g i) o → Q (nuV o) H'
def spRk (n : Nat) : Sp := fun vs H Q _ => ∃ (A : Ad) (U : Un) (S : Gs) (i : Nat), vs = [.ref A.vl, nV i] ∧ At P w K A U S H ∧ UnOk U ∧ i < S.N ∧ SG.ht (S.g i) < n ∧ SG.ht (S.g i) ≤ 16 ∧ InC S i ∧ (∀ p ∈ U.all, OKp S p) ∧
  ∀ S' H' o, At P w K A U S' H' → Keep A H H' → Ext S S' → S'.slack = S.slack → NumV K H' (S.g i) o → Q (nuV o) H'
end
/-- the numbers of a side's options -/
structure NumOpt (S : Gs) (s : Bool) (f : Nat) (zs : List (Addr × Dy)) : Prop where
  of : ∀ z ∈ zs, ∃ o ∈ optI s S.ns f, Al (S.g o) (form 64 (sc z.2))
  all : ∀ o ∈ optI s S.ns f, ∃ z ∈ zs, Al (S.g o) (form 64 (sc z.2))
theorem sm_of {K : PySem.W.Frag} {H : Hp} {d : Addr} {v : Dy} {g : SG.G} (h : DyAt K H d v) (e : Al g (form 64 (sc v))) (hg : SG.ht g ≤ 16) : Sm v := by
  obtain ⟨_, _, ok⟩ := h
  have d := SG.num_div (p := 64) (k := 48) (g := g) (by omega) e
  have b := SG.num_bound (p := 64) (h := 16) hg e
  have p := SG.plain_p ok.pl (by decide) d
  have := ok.p
  refine ⟨by omega, ?_, ?_⟩
  · have := b.2; omega
  · have := b.1; omega
/-- the verdict over the ends of a canonical game -/
theorem reck_some {U : Un} {S : Gs} (w : Wf U S) {f : Nat} {zl zr : List (Addr × Dy)} {lo hi : Option (Addr × Dy)} (lt : f < S.N) (nl : NumOpt S true f zl) (nr : NumOpt S false f zr) (hl : (lo = none ∧ zl = []) ∨ ∃ z ∈ zl, lo = some z ∧ ∀ y ∈ zl, sc y.2 ≤ sc z.2) (hh : (hi = none ∧ zr = []) ∨ ∃ z ∈ zr, hi = some z ∧ ∀ y ∈ zr, sc z.2 ≤ sc y.2) {x : Int}
    (sb : SG.Sb (lo.map fun z => sc z.2) (hi.map fun z => sc z.2) x) : Al (S.g f) (form 64 x) := by
  refine sb.al (fun y hy => ?_) (fun a ha => ?_) (fun y hy => ?_) (fun a ha => ?_)
  · obtain ⟨o, ho, rfl⟩ := (mem_optG w lt (s := true)).mp hy
    obtain ⟨z, hz, e⟩ := nl.all o ho
    rcases hl with ⟨_, rfl⟩ | ⟨b, _, rfl, best⟩
    · cases hz
    · exact ⟨_, _, rfl, best z hz, e⟩
  · rcases hl with ⟨rfl, _⟩ | ⟨b, hb, rfl, best⟩
    · cases ha
    · obtain ⟨o, ho, e⟩ := nl.of b hb
      cases Option.some.inj ha
      exact ⟨_, (mem_optG w lt (s := true)).mpr ⟨o, ho, rfl⟩, e⟩
  · obtain ⟨o, ho, rfl⟩ := (mem_optG w lt (s := false)).mp hy
    obtain ⟨z, hz, e⟩ := nr.all o ho
    rcases hh with ⟨_, rfl⟩ | ⟨b, _, rfl, best⟩
    · cases hz
    · exact ⟨_, _, rfl, best z hz, e⟩
  · rcases hh with ⟨rfl, _⟩ | ⟨b, hb, rfl, best⟩
    · cases ha
    · obtain ⟨o, ho, e⟩ := nr.of b hb
      cases Option.some.inj ha
      exact ⟨_, (mem_optG w lt (s := false)).mpr ⟨o, ho, rfl⟩, e⟩
theorem reck_no {U : Un} {S : Gs} (w : Wf U S) {f : Nat} {zl zr : List (Addr × Dy)} {a b : Addr × Dy} (lt : f < S.N) (nl : NumOpt S true f zl) (nr : NumOpt S false f zr) (ha : a ∈ zl) (hb : b ∈ zr) (n : ¬ sc a.2 < sc b.2) : ¬ Num 64 (S.g f) := fun ⟨t, e⟩ => by
  obtain ⟨o, ho, e1⟩ := nl.of a ha
  obtain ⟨o', ho', e2⟩ := nr.of b hb
  have := SG.num_left e ((mem_optG w lt (s := true)).mpr ⟨o, ho, rfl⟩) e1
  have := SG.num_right e ((mem_optG w lt (s := false)).mpr ⟨o', ho', rfl⟩) e2
  omega
theorem reck_none {U : Un} {S : Gs} (w : Wf U S) {f o : Nat} {s : Bool} (c : InC S f) (ho : o ∈ optI s S.ns f) (n : ¬ Num 64 (S.g o)) : ¬ Num 64 (S.g f) := fun e => by
  obtain ⟨lt, can, _, _⟩ := w.inC c
  exact n ((SG.can_num (s := s) (SG.canH_iff.mp can).1 e).1 _ ((mem_optG w lt).mpr ⟨o, ho, rfl⟩))
theorem sc_rk : FnScope ["self", "form", "ends", "side", "numbers", "low", "high", "option", "number"] ["self", "form"] (defScope s_Valuesreckon) := ⟨rfl, rfl, rfl, by decide +kernel, rfl, by decide +kernel, by decide +kernel⟩
section
variable {P : Program} {w : World} {K : PySem.W.Frag} {mg : Str → Option Value} {base : Heap} (T : Tx K mg)
include T
theorem p_Values_forms : Prp P w K mg base 3 (He.ga K "Values") "forms" (spPr P w K Ad.vl Ad.fm) := by
  refine prp_by (t_cls_Values T) (t_pr_Values_forms T) (t_gt_Values_forms T) sc_Values_forms (fun vs H Q E h => ?_) (fun _ _ _ _ _ _ us hl => match us, hl with | [_], _ => rfl) (fun cdv A outer s H vs Q E hr h => ?_)
  · obtain ⟨A, U, S, rfl, _⟩ := h
    rfl
  · obtain ⟨A, U, S, rfl, h, k⟩ := h
    exact ⟨_, pss_one (ps_ret (pe_pr (p_Sums_forms T) hr (by decide) (pe_fld (pv 0) rfl))), _, rfl, A.vl, _, A.vx, _, _, rfl, h.lay.vl, t_cls_Values T, t_no_Values_sums T, rfl, A.sm, A.sx, _, rfl, h.lay.sm, A, U, S, rfl, h, k⟩
theorem p_Values_yard : Prp P w K mg base 7 (He.ga K "Values") "yard" (spPr P w K Ad.vl Ad.yd) := by
  refine prp_by (t_cls_Values T) (t_pr_Values_yard T) (t_gt_Values_yard T) sc_Values_yard (fun vs H Q E h => ?_) (fun _ _ _ _ _ _ us hl => match us, hl with | [_], _ => rfl) (fun cdv A outer s H vs Q E hr h => ?_)
  · obtain ⟨A, U, S, rfl, _⟩ := h
    rfl
  · obtain ⟨A, U, S, rfl, h, k⟩ := h
    exact ⟨_, pss_one (ps_ret (pe_pr (p_Sums_yard T) hr (by decide) (pe_fld (pv 0) rfl))), _, rfl, A.vl, _, A.vx, _, _, rfl, h.lay.vl, t_cls_Values T, t_no_Values_sums T, rfl, A.sm, A.sx, _, rfl, h.lay.sm, A, U, S, rfl, h, k⟩
theorem m_numof_step (n : Nat) (ih : C8.Met P w K mg base (110 + 2 * n + 1) (He.ga K "Values") "_reckon" (spRk P w K (n + 1)) []) (h17 : n < 17) : C8.Met P w K mg base (110 + 2 * (n + 1)) (He.ga K "Values") "number_of" (spNumOf P w K (n + 1)) [] := by
  refine met_by (k := 110 + 2 * n + 1) (t_cls_Values T) (t_me_Values_number_of T) (t_fn_Values_number_of T) sc_Values_number_of (fun vs H Q E h => ?_) (fun _ _ _ _ _ _ us hl => match us, hl with | [_, _], _ => rfl) (fun cdv A0 outer s H vs Q E hr h => ?_)
  · obtain ⟨A, U, S, i, rfl, _⟩ := h
    rfl
  · obtain ⟨A, U, S, i, rfl, h, ok, hi, hn, h16, hlc, hop, k⟩ := h
    have hu := hu_of hr
    refine ⟨_, pss_cons (ps_set (i := 2) sc_Values_number_of.nd rfl (.inl rfl) (C8.pe_mt (m_simplest T 17) hr (by omega) (pe_pr (p_Values_forms T) hr (by omega) (pv 0)) (pa_cons (pv 1) pa_nil)))
      (pss_cons (ps_if (pt_cmp (pc_dnotin hu (pv 2) (pe_fld (pv 0) rfl))) (pss_one (ps_dput hu (pe_fld (pv 0) rfl) (pv 2) (C8.pe_mt ih hr (by omega) (pv 0) (pa_cons (pv 2) pa_nil)) rfl)) pss_nil)
      (pss_one (ps_ret (pe_dget hu (pe_fld (pv 0) rfl) (pv 2) (fun _ _ => rfl))))), ?_⟩
    refine ⟨_, rfl, A.vl, A.vx, _, rfl, h.lay.vl, A, U, S, rfl, h, A.fm, A.fx, _, rfl, h.lay.fm, rfl, _, rfl, A, U, S, i, rfl, h, ok, hi, by omega, h16, hlc, fun p hp _ => hop p hp, fun S1 H1 f h1 k1 x1 sl1 mf => ?_⟩
    have so := h1.wf.si i f mf
    have eg := x1.ex0.g hi
    have alf : Al (S1.g f) (S.g i) := by rw [← eg]; exact so.al
    have htf : SG.ht (S1.g f) ≤ SG.ht (S.g i) := by rw [← eg]; exact so.ht
    have num : ∀ {H' o}, NumV K H' (S1.g f) o → NumV K H' (S.g i) o := fun q => ⟨fun e ⟨t, a⟩ => q.no e ⟨t, SG.al_trans alf a⟩, fun z e => ⟨(q.yes z e).1, SG.al_trans (SG.al_symm alf) (q.yes z e).2⟩⟩
    refine ⟨_, rfl, _, rfl, A.vl, _, A.vx, _, _, rfl, h1.lay.vl, t_cls_Values T, t_no_Values__numbers T, rfl, A.NU, _, rfl, DGet.k (k := kN f) h1.bk.nu, _, rfl, ?_⟩
    cases ev : valV (S1.nu.map nuE) (kN f) with
    | some v =>
      obtain ⟨o, ho, rfl⟩ := val_some (f := nuE) (kf := kN) (vf := nuV) (a := f) (fun _ => rfl) (fun a b => kN_inj) ev
      have q := h1.wf.nu f o ho
      refine iteF ⟨_, rfl, A.vl, _, A.vx, _, _, rfl, h1.lay.vl, t_cls_Values T, t_no_Values__numbers T, rfl, _, rfl, A.NU, nuV o, rfl, ?_, k S1 H1 o h1 k1 x1 sl1 (num ⟨q.2.1, fun z e => ⟨h1.bk.dn f z (e ▸ ho), q.2.2 z e⟩⟩)⟩
      rw [← ev]
      exact DGet.k (k := kN f) h1.bk.nu
    | none =>
      refine iteT ?_
      refine ⟨_, rfl, A.vl, A.vx, _, rfl, h1.lay.vl, rfl, _, rfl, A, U, S1, f, rfl, h1, ok, so.lf, by omega, by omega, ⟨i, mf⟩, fun p hp => x1.op p (hop p hp), fun S2 H2 o h2 k2 x2 sl2 nv => ?_⟩
      have e2 := x2.ex0.g so.lf
      have small := SG.nu_small h2.wf
      have n19 := h2.wf.n
      obtain ⟨h3, k3⟩ := h2.nu2 (f := f) (o := o) (x2.ex0.lt so.lf) (fun e => by rw [e2]; exact nv.no e) (fun z e => by rw [e2]; exact (nv.yes z e).2) (fun z e => (nv.yes z e).1)
      refine ⟨_, rfl, A.vl, _, A.vx, _, _, rfl, h2.lay.vl, t_cls_Values T, t_no_Values__numbers T, rfl, _, rfl, A.NU, _, rfl, DPut.k (k := kN f) h2.bk.nu (by rw [List.length_map, sizeLine_eq]; omega), ?_⟩
      refine ⟨_, rfl, A.vl, _, A.vx, _, _, rfl, h3.lay.vl, t_cls_Values T, t_no_Values__numbers T, rfl, _, rfl, A.NU, nuV o, rfl, ?_, k _ _ o h3 (k1.trans (k2.trans k3)) (x1.trans (x2.trans (ext_nu _ _ _))) (sl2.trans sl1) (num ⟨nv.no, fun z e => ⟨h2.dyK k3 (nv.yes z e).1, (nv.yes z e).2⟩⟩)⟩
      have e3 : upd H2 A.NU (.dK (putK (S2.nu.map nuE) (kN f) (nuV o))) A.NU = some (.dK (putK (S2.nu.map nuE) (kN f) (nuV o))) := upd_same
      rw [← val_put (S2.nu.map nuE) (kN f) (nuV o)]
      exact DGet.k (k := kN f) e3
end
end K45
end
section
set_option Elab.async false
set_option linter.all false
set_option maxRecDepth 100000
set_option maxHeartbeats 4000000
namespace K45
open PySem PySem.Spec PyProof.Rows L2
open SG (Gs Un UnOk Wf Ext Ex0 gv lf rt optI InC OKp OKr IsP IsSum Pu Dy sc Num Al form)
theorem any_none (os : List (Option (Nat × Dy))) : (os.map fun o => decide (nuV o = V.non)).any id = false → ∃ zs : List (Nat × Dy), os = zs.map some := by
  induction os with
  | nil => exact fun _ => ⟨[], rfl⟩
  | cons o os ih =>
    intro h
    rw [List.map_cons, List.any_cons, Bool.or_eq_false_iff] at h
    obtain ⟨zs, rfl⟩ := ih h.2
    cases o with
    | none => exact absurd h.1 (by show ¬ decide (V.non = V.non) = false; rw [decide_eq_true rfl]; decide)
    | some z => exact ⟨z :: zs, rfl⟩
theorem any_none2 (os : List (Option (Nat × Dy))) : (os.map fun o => decide (nuV o = V.non)).any id = true → none ∈ os := by
  intro h
  obtain ⟨b, hb, e⟩ := List.any_eq_true.mp h
  obtain ⟨o, ho, rfl⟩ := List.mem_map.mp hb
  cases o with
  | none => exact ho
  | some z => exact absurd (of_decide_eq_true e) (fun q => by cases q)
section
variable {P : Program} {w : World} {K : PySem.W.Frag} {mg : Str → Option Value} {base : Heap} (T : Tx K mg)
include T
theorem m_rk (n : Nat) (ih : C8.Met P w K mg base (110 + 2 * n) (He.ga K "Values") "number_of" (spNumOf P w K n) []) : C8.Met P w K mg base (110 + 2 * n + 1) (He.ga K "Values") "_reckon" (spRk P w K (n + 1)) [] := by
  refine met_by (k := 110 + 2 * n) (t_cls_Values T) (t_me_Values__reckon T) (t_fn_Valuesreckon T) sc_rk (fun vs H Q E h => ?_) (fun _ _ _ _ _ _ us hl => match us, hl with | [_, _], _ => rfl) (fun cdv A0 outer s H vs Q E hr h => ?_)
  · obtain ⟨A, U, S, f, rfl, _⟩ := h
    rfl
  · obtain ⟨A, U, S, f, rfl, h, ok, hf, hn, h16, hc, hop, k⟩ := h
    have wy := h.wf.wy
    have fo : FormOk S f := ⟨hf, (h.wf.inC hc).2.2.1, h16⟩
    refine ⟨_, pss_cons (ps_set (i := 2) sc_rk.nd rfl (.inl rfl) (pe_lst pa_nil))
      (pss_cons (ps_for PassesOwn.never rfl (pi_tup (pe_tup (pa_cons pe_str (pa_cons pe_str pa_nil)))) (pg_name (i := 3) sc_rk.nd rfl (.inl rfl))
        (pss_cons (ps_setLc (i := 4) (own := [("option", 7)]) (g := gName 7) (tt := tYes) rfl sc_rk.nd rfl rfl (sw_true rfl rfl rfl (by decide +kernel)) (pi_list (C8.pe_mt (m_options T) hr (by omega) (pe_pr (p_Values_yard T) hr (by omega) (pv 0)) (pa_cons (pv 1) (pa_cons (pv 3) pa_nil))))
          (blkOk_by (N := ["self", "form", "ends", "side", "numbers", "low", "high", "option", "number"]) (sc := defScope s_Valuesreckon) (by decide +kernel)) (fun _ _ _ _ _ => pg_name (i := 7) sc_rk.nd rfl (Or.inl rfl)) (fun _ _ _ _ _ => pts_nil) (fun _ _ _ _ _ => C8.pe_mt ih hr (Nat.le_refl _) (pv 0) (pa_cons (pv 7) pa_nil)))
        (pss_cons (ps_if (pt_val (pe_callB (cr_any rfl) (by rfl) (t_fr_any T) (by decide +kernel) (pa_cons
            (pe_lc (own := [("number", 8)]) (g := gName 8) (tt := tYes) rfl sc_rk.nd (pi_list (pv 4))
              (blkOk_by (N := ["self", "form", "ends", "side", "numbers", "low", "high", "option", "number"]) (sc := defScope s_Valuesreckon) (by decide +kernel)) (fun _ _ _ _ _ => pg_name (i := 8) sc_rk.nd rfl (Or.inl rfl)) (fun _ _ _ _ _ => pts_nil)
              (fun _ _ _ _ _ => pe_cmpR op_isN (pv 8) pe_non (nomark _))) pa_nil)))
          (pss_one (ps_ret pe_non)) pss_nil)
        (pss_one (ps_expr (pe_bm PySem.F.plainAttrs_list PySem.F.slot_list_append PySem.F.type_list_append mt_append (pv 2) (pa_cons (pv 4) pa_nil)))))))
      (pss_cons (ps_set (i := 5) sc_rk.nd rfl (.inl rfl) pe_non)
      (pss_cons (ps_set (i := 6) sc_rk.nd rfl (.inl rfl) pe_non)
      (pss_cons (ps_if (pt_truth (pe_ix ix_list (pv 2) pe_int (fun _ _ => rfl)) (by intro _; rfl)) (pss_one (ps_set (i := 5) sc_rk.nd rfl (.inl rfl) (C8.pe_c (k_greatest T) hr (by omega) (by rfl) (pa_cons (pe_ix ix_list (pv 2) pe_int (fun _ _ => rfl)) pa_nil)))) pss_nil)
      (pss_cons (ps_if (pt_truth (pe_ix ix_list (pv 2) pe_int (fun _ _ => rfl)) (by intro _; rfl)) (pss_one (ps_set (i := 6) sc_rk.nd rfl (.inl rfl) (C8.pe_c (k_least T) hr (by omega) (by rfl) (pa_cons (pe_ix ix_list (pv 2) pe_int (fun _ _ => rfl)) pa_nil)))) pss_nil)
      (pss_cons (ps_if (PW.pt (pw_and (pt_cmpR op_notN (pv 5) pe_non (nomark _)) (pw_and (pt_cmpR op_notN (pv 6) pe_non (nomark _)) (pw_and1 (pt_not (pt_val (C8.pe_mt (m_less T) hr (by omega) (pv 5) (pa_cons (pv 6) pa_nil)))))))) (pss_one (ps_ret pe_non)) pss_nil)
      (pss_one (ps_ret (C8.pe_c (k_simplest_between T) hr (by omega) (by rfl) (pa_cons (pv 5) (pa_cons (pv 6) pa_nil))))))))))), ?_⟩
    have call : ∀ s o S2, o ∈ optI s S.ns f → Ext S S2 → o < S2.N ∧ SG.ht (S2.g o) < n ∧ SG.ht (S2.g o) ≤ 16 ∧ InC S2 o ∧ (∀ p ∈ U.all, OKp S2 p) ∧ S2.g o = S.g o := fun s o S2 ho x2 => by
      have lo := (SG.optI_lt wy hf ho).2
      have hto : SG.ht (S.g o) < SG.ht (S.g f) := SG.optI_ht wy hf ho
      rw [x2.ex0.g lo]
      exact ⟨x2.ex0.lt lo, by omega, by omega, x2.ex0.c (fo.c s o ho), fun p hp => x2.op p (hop p hp), rfl⟩
    refine ⟨by show 0 ≤ sizeLine; decide, fun p0 hp0 => ?_⟩
    obtain ⟨h0, k0⟩ := h.new hp0 (.lst [])
    have np0 := h.fresh hp0
    have e0 : (upd H p0 (.lst [])) p0 = some (.lst []) := upd_same
    generalize upd H p0 (.lst []) = H0 at h0 k0 e0
    refine ⟨by show 2 ≤ sizeLine; decide, fun tt htt => ?_⟩
    obtain ⟨h1, k1⟩ := h0.new htt (.tup [.str "left", .str "right"])
    have et : (upd H0 tt (.tup [.str "left", .str "right"])) tt = some (.tup [.str "left", .str "right"]) := upd_same
    have e1 := k1 _ _ e0 np0
    generalize upd H0 tt (.tup [.str "left", .str "right"]) = H1 at h1 k1 et e1
    refine ⟨tt, rfl, ⟨_, SqT.of et⟩, for_tup (K := K) (a := tt) (xs := [.str "left", .str "right"]) (fun m σ H2 => ∃ S2 y3 y4 qs, σ = [some (.ref A.vl), some (nV f), some (.ref p0), y3, y4, none, none, none, none] ∧ At P w K A U S2 H2 ∧ Keep A H H2 ∧ Ext S S2 ∧ S2.slack = S.slack ∧ H2 tt = some (.tup [.str "left", .str "right"]) ∧
        H2 p0 = some (.lst (qs.map V.ref)) ∧ Paired (fun (q : Addr) (s : Bool) => q ∉ A.mut ∧ q ≠ p0 ∧ ∃ zs : List (Addr × Dy), H2 q = some (.lst (refsD zs)) ∧ (∀ z ∈ zs, DyAt K H2 z.1 z.2) ∧ NumOpt S s f zs) qs ([true, false].take m))
      ⟨S, none, none, [], rfl, h1, k0.trans k1, Ext.refl S, rfl, et, e1, .nil⟩ (fun _ _ _ _ ⟨_, _, _, _, _, _, _, _, _, q, _⟩ => SqT.of q) ?_ ?_⟩
    · rintro m x σ H2 hm ⟨S2, y3, y4, qs, rfl, h2, k2, x2, sl2, et2, e2, r2⟩
      obtain ⟨s, hs, rfl⟩ : ∃ s, [true, false][m]? = some s ∧ x = .str (sdS s) := by
        match m, hm with
        | 0, hm => exact ⟨true, rfl, (Option.some.inj hm).symm⟩
        | 1, hm => exact ⟨false, rfl, (Option.some.inj hm).symm⟩
      have ol := opt_len h.wf ok fo s
      refine ⟨_, rfl, A.vl, A.vx, _, rfl, h2.lay.vl, A, U, S2, rfl, h2, A.yd, A.yx, _, rfl, h2.lay.yd, rfl, _, rfl, _, rfl, A, U, S2, f, s, rfl, h2, x2.ex0.lt hf, fun p1 hp1 => ?_⟩
      rw [x2.ex0.o hf s]
      obtain ⟨h3, k3⟩ := h2.new hp1 (.lst ((optI s S.ns f).map nV))
      have np1 := h2.fresh hp1
      have e3 : (upd H2 p1 (.lst ((optI s S.ns f).map nV))) p1 = some (.lst ((optI s S.ns f).map nV)) := upd_same
      generalize upd H2 p1 (.lst ((optI s S.ns f).map nV)) = H3 at h3 k3 e3
      refine ⟨p1, rfl, ⟨_, SqL.of e3⟩, fun D1 hD1 => lc_list (K := K) (a := p1) (xs := (optI s S.ns f).map nV) (fun m H4 => ∃ S4 os, At P w K A U S4 H4 ∧ Keep A H3 H4 ∧ Ext S2 S4 ∧ S4.slack = S2.slack ∧ H4 D1 = some (.lst (os.map nuV)) ∧ Paired (fun o v => NumV K H4 (S.g o) v) ((optI s S.ns f).take m) os)
        ⟨S2, [], (h3.new hD1 _).1, (h3.new hD1 _).2, Ext.refl S2, rfl, upd_same, .nil⟩ (fun _ _ _ ⟨_, _, _, q, _⟩ => SqL.of (q _ _ e3 np1)) ?_ ?_⟩
      · rintro m' x H4 hm' ⟨S4, os, h4, k4, x4, sl4, e4, r4⟩
        obtain ⟨o, ho, rfl⟩ := nV_get hm'
        have mo := List.mem_of_getElem? ho
        have nD := h3.fresh hD1
        obtain ⟨c1, c2, c3, c4, c5, c6⟩ := call s o S4 mo (x2.trans x4)
        refine ⟨rfl, _, rfl, A.vl, A.vx, _, rfl, h4.lay.vl, rfl, _, rfl, A, U, S4, o, rfl, h4, ok, c1, c2, c3, .inr c4, c5, fun S5 H5 v h5 k5 x5 sl5 nv => ?_⟩
        have e5 := k5 _ _ e4 nD
        have lfs : os.length ≤ 225 := by
          rw [← Paired.length r4]
          exact Nat.le_trans (List.length_take_le' ..) ol
        have dk : ∀ {d u}, DyAt K H5 d u → DyAt K (upd H5 D1 (.lst (os.map nuV ++ [nuV v]))) d u := fun ⟨dx, e, q⟩ => ⟨dx, (upd_ne (ne_of e e5 (by intro z; cases z))).trans e, q⟩
        refine ⟨_, e5, by rw [List.length_map, sizeLine_eq]; omega, S5, os ++ [v], h5.lst' e5 nD _, keep_lst (k4.trans k5) hD1, x4.trans x5, sl5.trans sl4, ?_, ?_⟩
        · rw [upd_same, List.map_append]
          rfl
        · rw [List.take_add_one, ho]
          refine Paired.snoc (Paired.mapP r4 fun a b q => ⟨q.no, fun z e => ⟨dk (h4.dyK k5 (q.yes z e).1), (q.yes z e).2⟩⟩) ?_
          rw [c6] at nv
          exact ⟨nv.no, fun z e => ⟨dk (nv.yes z e).1, (nv.yes z e).2⟩⟩
      rintro H4 ⟨S4, os, h4, k4, x4, sl4, e4, r4⟩
      rw [List.length_map, List.take_of_length_le (Nat.le_refl _)] at r4
      have nD1 := h3.fresh hD1
      have x24 := x2.trans x4
      have kH4 : Keep A H2 H4 := k3.trans k4
      have los : os.length ≤ 225 := by rw [← Paired.length r4]; exact ol
      obtain ⟨pf, pb⟩ := paired_fwd r4
      -- any
      refine ⟨_, rfl, D1, rfl, ⟨_, SqL.of e4⟩, fun D2 hD2 => lc_list (K := K) (a := D1) (xs := os.map nuV) (fun m H5 => Keep A H4 H5 ∧ At P w K A U S4 H5 ∧ H5 D2 = some (.lst (((os.take m).map fun o => decide (nuV o = V.non)).map V.bl)))
        ⟨(h4.new hD2 _).2, (h4.new hD2 _).1, upd_same⟩ (fun _ _ _ q => SqL.of (q.1 _ _ e4 nD1)) ?_ ?_⟩
      · rintro m' x H5 hm' ⟨k5, h5, e5⟩
        rw [List.getElem?_map] at hm'
        obtain ⟨o, ho, rfl⟩ := Option.map_eq_some_iff.mp hm'
        have nD2 := h4.fresh hD2
        refine ⟨rfl, _, rfl, rfl, _, e5, ?_, keep_lst k5 hD2, h5.lst' e5 nD2 _, ?_⟩
        · rw [List.length_map, List.length_map, List.length_take, sizeLine_eq]
          omega
        · rw [upd_same, List.take_add_one, ho, List.map_append, List.map_append]
          rfl
      rintro H5 ⟨k5, h5, e5⟩
      rw [List.length_map, List.take_of_length_le (Nat.le_refl _)] at e5
      refine ⟨D2, _, rfl, SqL.of e5, _, rfl, ?_⟩
      cases ea : (os.map fun o => decide (nuV o = V.non)).any id with
      | true =>
        obtain ⟨o, ho, q⟩ := pb none (any_none2 os ea)
        exact iteT (k S4 H5 none h5 (k2.trans (kH4.trans k5)) x24 (sl4.trans sl2) ⟨fun _ => reck_none h.wf hc ho (q.no rfl), fun z e => (by cases e)⟩)
      | false =>
        obtain ⟨zs, rfl⟩ := any_none os ea
        have e6 := k5 _ _ e4 nD1
        have e6p := (kH4.trans k5) _ _ e2 np0
        have lqs : qs.length ≤ 2 := by rw [Paired.length r2]; exact Nat.le_trans (List.length_take_le' ..) (Nat.le_refl _)
        have qp : D1 ≠ p0 := fun z => by
          have := k3 _ _ e2 np0
          rw [z, this] at hD1
          cases hD1
        refine iteF ⟨_, rfl, .inl ⟨rfl, _, SqL.of e6p⟩, _, rfl, p0, _, _, rfl, rfl, e6p, by rw [List.length_map, sizeLine_eq]; omega, S4, _, _, qs ++ [D1], rfl, h5.lst' e6p np0 _, keep_lst (k2.trans (kH4.trans k5)) hp0, x24, sl4.trans sl2, ?_, ?_, ?_⟩
        · have t6 := h2.tupK (kH4.trans k5) _ _ et2
          exact (upd_ne (ne_of t6 e6p (by intro z; cases z))).trans t6
        · rw [upd_same, List.map_append]
          rfl
        · have dk : ∀ {d u}, DyAt K H5 d u → DyAt K (upd H5 p0 (.lst (qs.map V.ref ++ [V.ref D1]))) d u := fun ⟨dx, e, q⟩ => ⟨dx, (upd_ne (ne_of e e6p (by intro z; cases z))).trans e, q⟩
          rw [List.take_add_one, hs]
          refine Paired.snoc (Paired.mapP r2 fun q' s' ⟨a, b, zs', c, d, e⟩ => ⟨a, b, zs', (upd_ne b).trans ((kH4.trans k5) _ _ c a), fun z hz => dk (h2.dyK (kH4.trans k5) (d z hz)), e⟩) ⟨nD1, qp, zs, ?_, fun z hz => ?_, ⟨fun z hz => ?_, fun o ho => ?_⟩⟩
          · rw [upd_ne qp, e6, List.map_map]
            rfl
          · obtain ⟨o, _, q⟩ := pb (some z) (List.mem_map.mpr ⟨z, hz, rfl⟩)
            exact dk (h4.dyK k5 (q.yes z rfl).1)
          · obtain ⟨o, ho, q⟩ := pb (some z) (List.mem_map.mpr ⟨z, hz, rfl⟩)
            exact ⟨o, ho, (q.yes z rfl).2⟩
          · obtain ⟨v, hv, q⟩ := pf o ho
            obtain ⟨z, hz, rfl⟩ := List.mem_map.mp hv
            exact ⟨z, hz, (q.yes z rfl).2⟩
    · rintro σ H2 ⟨S2, y3, y4, qs, rfl, h2, k2, x2, sl2, et2, e2, r2⟩
      have r2 : Paired (fun (q : Addr) (s : Bool) => q ∉ A.mut ∧ q ≠ p0 ∧ ∃ zs : List (Addr × Dy), H2 q = some (.lst (refsD zs)) ∧ (∀ z ∈ zs, DyAt K H2 z.1 z.2) ∧ NumOpt S s f zs) qs [true, false] := r2
      cases r2 with
      | @cons q1 _ qs' _ r21 r22 =>
      cases r22 with
      | @cons q2 _ qs'' _ r23 r24 =>
      cases r24
      obtain ⟨_, _, zl, el, dl, nl⟩ := r21
      obtain ⟨_, _, zr', er, dr, nr⟩ := r23
      have fin : ∀ S' H' o, At P w K A U S' H' → Keep A H2 H' → S' = S2 → NumV K H' (S.g f) o → Q (nuV o) H' := fun S' H' o a b c d => k S' H' o a (k2.trans b) (c ▸ x2) (c ▸ sl2) d
      have smo : ∀ {s} {zs : List (Addr × Dy)}, NumOpt S s f zs → (∀ z ∈ zs, DyAt K H2 z.1 z.2) → ∀ z ∈ zs, Sm z.2 := fun {s zs} no dd z hz => by
        obtain ⟨o, ho, e⟩ := no.of z hz
        exact sm_of (dd z hz) e (Nat.le_trans (fo.o h.wf ho).2 (by decide))
      have res : ∀ (lo hi : Option (Addr × Dy)), ((lo = none ∧ zl = []) ∨ ∃ z ∈ zl, lo = some z ∧ ∀ y ∈ zl, sc y.2 ≤ sc z.2) → ((hi = none ∧ zr' = []) ∨ ∃ z ∈ zr', hi = some z ∧ ∀ y ∈ zr', sc z.2 ≤ sc y.2) → ∀ (H' : Hp) (e : Addr) (z : Dy), DyAt K H' e z → SG.Sb (lo.map fun z => sc z.2) (hi.map fun z => sc z.2) (sc z) → Same H2 H' → Q (.ref e) H' := fun lo hi a b H' e z hz sb sm =>
        fin S2 H' (some (e, z)) (h2.same sm) (Keep.same sm) rfl ⟨fun q => (by cases q), fun z' q => by cases q; exact ⟨hz, reck_some h.wf hf nl nr a b sb⟩⟩
      refine ⟨_, rfl, p0, _, 0, .ref q1, rfl, rfl, SqL.of e2, atI_nat (j := 0) rfl, _, .inl ⟨_, SqL.of el, rfl⟩, ?_⟩
      cases zl with
      | nil =>
        refine iteF ⟨_, rfl, p0, _, 1, .ref q2, rfl, rfl, SqL.of e2, atI_nat (j := 1) rfl, _, .inl ⟨_, SqL.of er, rfl⟩, ?_⟩
        cases zr' with
        | nil =>
          refine iteF ⟨_, rfl, rfl, _, rfl, iteF ?_⟩
          exact ⟨_, rfl, _, rfl, .non, .non, none, none, rfl, .inl ⟨rfl, rfl⟩, .inl ⟨rfl, rfl⟩, fun l e => (by cases e), fun l e => (by cases e), fun l _ e => (by cases e), res none none (.inl ⟨rfl, rfl⟩) (.inl ⟨rfl, rfl⟩)⟩
        | cons b br =>
          refine iteT ⟨_, rfl, p0, _, 1, .ref q2, rfl, rfl, SqL.of e2, atI_nat (j := 1) rfl, q2, b :: br, rfl, SqL.of er, by simp, dr, fun z hz best => ?_⟩
          refine ⟨_, rfl, rfl, _, rfl, iteF ?_⟩
          exact ⟨_, rfl, _, rfl, .non, .ref z.1, none, some z.2, rfl, .inl ⟨rfl, rfl⟩, .inr ⟨z.1, z.2, rfl, rfl, dr z hz⟩, fun l e => (by cases e), fun l e => (by cases e; exact smo nr dr z hz), fun l _ e => (by cases e), res none (some z) (.inl ⟨rfl, rfl⟩) (.inr ⟨z, hz, rfl, best⟩)⟩
      | cons a ar =>
        refine iteT ⟨_, rfl, p0, _, 0, .ref q1, rfl, rfl, SqL.of e2, atI_nat (j := 0) rfl, q1, a :: ar, rfl, SqL.of el, by simp, dl, fun y hy best => ?_⟩
        refine ⟨_, rfl, p0, _, 1, .ref q2, rfl, rfl, SqL.of e2, atI_nat (j := 1) rfl, _, .inl ⟨_, SqL.of er, rfl⟩, ?_⟩
        cases zr' with
        | nil =>
          refine iteF ⟨_, rfl, rfl, _, rfl, iteT ⟨_, rfl, rfl, _, rfl, iteF ?_⟩⟩
          exact ⟨_, rfl, _, rfl, .ref y.1, .non, some y.2, none, rfl, .inr ⟨y.1, y.2, rfl, rfl, dl y hy⟩, .inl ⟨rfl, rfl⟩, fun l e => (by cases e; exact smo nl dl y hy), fun l e => (by cases e), fun _ l _ e => (by cases e), res (some y) none (.inr ⟨y, hy, rfl, best⟩) (.inl ⟨rfl, rfl⟩)⟩
        | cons b br =>
          refine iteT ⟨_, rfl, p0, _, 1, .ref q2, rfl, rfl, SqL.of e2, atI_nat (j := 1) rfl, q2, b :: br, rfl, SqL.of er, by simp, dr, fun z hz best2 => ?_⟩
          obtain ⟨yx, ey, oy⟩ := id (dl y hy)
          refine ⟨_, rfl, rfl, _, rfl, iteT ⟨_, rfl, rfl, _, rfl, iteT ⟨_, rfl, y.1, yx, _, rfl, ey, rfl, _, rfl, y.1, z.1, y.2, z.2, rfl, dl y hy, dr z hz, _, rfl, ?_⟩⟩⟩
          by_cases c : sc y.2 < sc z.2
          · rw [decide_eq_true c]
            refine iteF ⟨_, rfl, _, rfl, .ref y.1, .ref z.1, some y.2, some z.2, rfl, .inr ⟨y.1, y.2, rfl, rfl, dl y hy⟩, .inr ⟨z.1, z.2, rfl, rfl, dr z hz⟩, fun l e => (by cases e; exact smo nl dl y hy), fun l e => (by cases e; exact smo nr dr z hz), fun l l' e e' => (by cases e; cases e'; exact c), res (some y) (some z) (.inr ⟨y, hy, rfl, best⟩) (.inr ⟨z, hz, rfl, best2⟩)⟩
          · rw [decide_eq_false c]
            exact iteT (fin S2 H2 none h2 (Keep.refl _ _) rfl ⟨fun _ => reck_no h.wf hf nl nr hy hz c, fun z e => (by cases e)⟩)
theorem m_numof : ∀ n : Nat, n ≤ 17 → C8.Met P w K mg base (110 + 2 * n) (He.ga K "Values") "number_of" (spNumOf P w K n) []
  | 0, _ => by
    refine met_by (k := 109) (t_cls_Values T) (t_me_Values_number_of T) (t_fn_Values_number_of T) sc_Values_number_of (fun vs H Q E h => ?_) (fun _ _ _ _ _ _ us hl => match us, hl with | [_, _], _ => rfl) (fun cdv A0 outer s H vs Q E hr h => ?_)
    · obtain ⟨A, U, S, i, rfl, _⟩ := h
      rfl
    · obtain ⟨A, U, S, i, rfl, h, ok, hi, hn, _⟩ := h
      exact absurd hn (Nat.not_lt_zero _)
  | n + 1, h => m_numof_step T n (m_rk T n (m_numof n (by omega))) (by omega)
end
end K45
end
section
set_option Elab.async false
set_option linter.all false
set_option maxRecDepth 100000
set_option maxHeartbeats 4000000
namespace K45
open PySem PySem.Spec PyProof.Rows L2
open SG (Gs Un UnOk Wf Ext Ex0 gv lf rt optI InC OKp OKr IsP IsSum Pu Dy sc Num Al form stop)
/-! ### values.py: where games stop -/
section
variable (P : Program) (w : World) (K : PySem.W.Frag)
def StopR (n : Nat) (s : Bool) (A : Ad) (i : Nat) (H : Hp) (Q : VK) : Prop := ∃ (U : Un) (S : Gs), At P w K A U S H ∧ UnOk U ∧ i < S.N ∧ SG.ht (S.g i) < n ∧ Lab U S i ∧ (∀ p ∈ U.all, OKp S p) ∧
  ∀ (S' : Gs) (H' : Hp) (z : Addr × Dy), At P w K A U S' H' → Keep A H H' → Ext S S' → S'.slack = S.slack → DyAt K H' z.1 z.2 → sc z.2 = stop 64 s (S.g i) → Q (.ref z.1) H'
def spStop (n : Nat) : Sp := fun vs H Q _ => ∃ (A : Ad) (i : Nat) (s : Bool), vs = [.ref A.vl, nV i, .str (sdS s)] ∧ StopR P w K n s A i H Q
def spSide1 (n : Nat) (s : Bool) : Sp := fun vs H Q _ => ∃ (A : Ad) (i : Nat), vs = [.ref A.vl, nV i] ∧ StopR P w K n s A i H Q
def spSmall (n : Nat) : Sp := fun vs H Q _ => ∃ (A : Ad) (U : Un) (S : Gs) (i : Nat), vs = [.ref A.vl, nV i] ∧ At P w K A U S H ∧ UnOk U ∧ i < S.N ∧ SG.ht (S.g i) < n ∧ Lab U S i ∧ (∀ p ∈ U.all, OKp S p) ∧
  ∀ S' H', At P w K A U S' H' → Keep A H H' → Ext S S' → S'.slack = S.slack → Q (.bl (decide (stop 64 true (S.g i) = 0) && decide (stop 64 false (S.g i) = 0))) H'
end
theorem sc_played : FnScope ["self", "game", "side", "number", "option"] ["self", "game", "side"] (defScope s_Valuesplayed) := ⟨rfl, rfl, rfl, by decide +kernel, rfl, by decide +kernel, by decide +kernel⟩
theorem stop_best {g : SG.G} (hn : ¬ Num 64 g) {t : Int} : (t ∈ g.left.map (fun o => stop 64 false o) → (∀ y ∈ g.left.map (fun o => stop 64 false o), y ≤ t) → t = stop 64 true g) ∧ (t ∈ g.right.map (fun o => stop 64 true o) → (∀ y ∈ g.right.map (fun o => stop 64 true o), t ≤ y) → t = stop 64 false g) := by
  refine ⟨fun m b => ?_, fun m b => ?_⟩
  · rw [SG.stop_left hn]
    exact Int.le_antisymm (SG.maxI_ge m) (b _ (SG.maxI_mem (by simpa using SG.left_some hn)))
  · rw [SG.stop_right hn]
    exact Int.le_antisymm (b _ (SG.minI_mem (by simpa using SG.right_some hn))) (SG.minI_le m)
theorem top_zero {v : Dy} (h : v.p ≤ 64) : decide (V.int v.t = V.int 0) = decide (sc v = 0) := by
  refine decide_eq_decide.mpr ⟨fun e => ?_, fun e => ?_⟩
  · have := V.int.inj e
    unfold sc
    rw [this, Int.mul_zero]
  · unfold sc at e
    rcases Int.mul_eq_zero.mp e with q | q
    · have := SG.pow_pos2 (64 - v.p); omega
    · rw [q]
section
variable {P : Program} {w : World} {K : PySem.W.Frag} {mg : Str → Option Value} {base : Heap} (T : Tx K mg)
include T
theorem m_played (n : Nat) (ih : C8.Met P w K mg base (150 + 2 * n) (He.ga K "Values") "_stop" (spStop P w K n) []) : C8.Met P w K mg base (150 + 2 * n + 1) (He.ga K "Values") "_played" (spStop P w K (n + 1)) [] := by
  refine met_by (k := 150 + 2 * n) (t_cls_Values T) (t_me_Values__played T) (t_fn_Valuesplayed T) sc_played (fun vs H Q E h => ?_) (fun _ _ _ _ _ _ us hl => match us, hl with | [_, _, _], _ => rfl) (fun cdv A0 outer s H vs Q E hr h => ?_)
  · obtain ⟨A, i, s, rfl, _⟩ := h
    rfl
  · obtain ⟨A, i, s, rfl, U, S, h, ok, hi, hn, hl, hop, k⟩ := h
    have wy := h.wf.wy
    have h16 : SG.ht (S.g i) ≤ 16 := by
      obtain ⟨p, hp, q⟩ := hl
      rw [htp_eq q]
      exact (un_ht ok hp).1
    refine ⟨_, pss_cons (ps_set (i := 3) sc_played.nd rfl (.inl rfl) (C8.pe_mt (m_numof T 17 (by decide)) hr (by omega) (pv 0) (pa_cons (pv 1) pa_nil)))
      (pss_cons (ps_if (pt_cmpR op_notN (pv 3) pe_non (nomark _)) (pss_one (ps_ret (pv 3))) pss_nil)
      (pss_cons (ps_if (pt_cmpR op_eq (pv 2) pe_str (nomark _))
        (pss_one (ps_ret (C8.pe_c (k_greatest T) hr (by omega) (by rfl) (pa_cons
          (pe_lc (own := [("option", 4)]) (g := gName 4) (tt := tYes) rfl sc_played.nd (pi_list (C8.pe_mt (m_lefts T) hr (by omega) (pe_pr (p_Values_yard T) hr (by omega) (pv 0)) (pa_cons (pv 1) pa_nil)))
            (blkOk_by (N := ["self", "game", "side", "number", "option"]) (sc := defScope s_Valuesplayed) (by decide +kernel)) (fun _ _ _ _ _ => pg_name (i := 4) sc_played.nd rfl (Or.inl rfl)) (fun _ _ _ _ _ => pts_nil)
            (fun _ _ _ _ _ => C8.pe_mt ih hr (Nat.le_refl _) (pv 0) (pa_cons (pv 4) (pa_cons pe_str pa_nil)))) pa_nil)))) pss_nil)
      (pss_one (ps_ret (C8.pe_c (k_least T) hr (by omega) (by rfl) (pa_cons
          (pe_lc (own := [("option", 4)]) (g := gName 4) (tt := tYes) rfl sc_played.nd (pi_list (C8.pe_mt (m_rights T) hr (by omega) (pe_pr (p_Values_yard T) hr (by omega) (pv 0)) (pa_cons (pv 1) pa_nil)))
            (blkOk_by (N := ["self", "game", "side", "number", "option"]) (sc := defScope s_Valuesplayed) (by decide +kernel)) (fun _ _ _ _ _ => pg_name (i := 4) sc_played.nd rfl (Or.inl rfl)) (fun _ _ _ _ _ => pts_nil)
            (fun _ _ _ _ _ => C8.pe_mt ih hr (Nat.le_refl _) (pv 0) (pa_cons (pv 4) (pa_cons pe_str pa_nil)))) pa_nil)))))), ?_⟩
    refine ⟨_, rfl, A.vl, A.vx, _, rfl, h.lay.vl, rfl, _, rfl, A, U, S, i, rfl, h, ok, hi, by omega, h16, .inl hl, hop, fun S1 H1 o h1 k1 x1 sl1 nv => ?_⟩
    refine ⟨_, rfl, rfl, _, rfl, ?_⟩
    cases o with
    | some z =>
      obtain ⟨d1, d2⟩ := nv.yes z rfl
      exact iteT ⟨_, rfl, k S1 H1 z h1 k1 x1 sl1 d1 (SG.stop_num s d2).symm⟩
    | none =>
      have nn := nv.no rfl
      refine iteF ⟨_, rfl, rfl, _, rfl, ?_⟩
      rw [str_eq_left]
      have call : ∀ s o S2, o ∈ optI s S.ns i → Ext S S2 → o < S2.N ∧ SG.ht (S2.g o) < n ∧ Lab U S2 o ∧ (∀ p ∈ U.all, OKp S2 p) ∧ S2.g o = S.g o := fun s o S2 ho x2 => by
        have lo := (SG.optI_lt wy hi ho).2
        have hto : SG.ht (S.g o) < SG.ht (S.g i) := SG.optI_ht wy hi ho
        obtain ⟨p, hp, hp2⟩ := hl
        obtain ⟨q, hq, hq2, _⟩ := lab_opt h.wf ok hi hp hp2 ho
        rw [x2.ex0.g lo]
        exact ⟨x2.ex0.lt lo, by omega, ⟨q, hq, (x2.ex0.isP lo).mpr hq2⟩, fun p hp => x2.op p (hop p hp), rfl⟩
      cases s with
      | true =>
        have ol := lab_len h.wf ok hi hl true
        refine iteT ⟨_, rfl, A.vl, A.vx, _, rfl, h1.lay.vl, A, U, S1, rfl, h1, A.yd, A.yx, _, rfl, h1.lay.yd, rfl, _, rfl, A, U, S1, i, rfl, h1, x1.ex0.lt hi, fun p1 hp1 => ?_⟩
        rw [x1.ex0.o hi true]
        obtain ⟨h3, k3⟩ := h1.new hp1 (.lst ((optI true S.ns i).map nV))
        have np1 := h1.fresh hp1
        have e3 : (upd H1 p1 (.lst ((optI true S.ns i).map nV))) p1 = some (.lst ((optI true S.ns i).map nV)) := upd_same
        generalize upd H1 p1 (.lst ((optI true S.ns i).map nV)) = H3 at h3 k3 e3
        refine ⟨p1, rfl, ⟨_, SqL.of e3⟩, fun D1 hD1 => lc_list (K := K) (a := p1) (xs := (optI true S.ns i).map nV) (fun m H4 => ∃ S4 zs, At P w K A U S4 H4 ∧ Keep A H3 H4 ∧ Ext S1 S4 ∧ S4.slack = S1.slack ∧ H4 D1 = some (.lst (refsD zs)) ∧ Paired (fun o (z : Addr × Dy) => DyAt K H4 z.1 z.2 ∧ sc z.2 = stop 64 false (S.g o)) ((optI true S.ns i).take m) zs)
          ⟨S1, [], (h3.new hD1 _).1, (h3.new hD1 _).2, Ext.refl S1, rfl, upd_same, .nil⟩ (fun _ _ _ ⟨_, _, _, q, _⟩ => SqL.of (q _ _ e3 np1)) ?_ ?_⟩
        · rintro m' x H4 hm' ⟨S4, zs, h4, k4, x4, sl4, e4, r4⟩
          obtain ⟨o, ho, rfl⟩ := nV_get hm'
          have mo := List.mem_of_getElem? ho
          have nD := h3.fresh hD1
          obtain ⟨c1, c2, c3, c4, c5⟩ := call true o S4 mo (x1.trans x4)
          refine ⟨rfl, _, rfl, A.vl, A.vx, _, rfl, h4.lay.vl, rfl, _, rfl, A, o, false, rfl, U, S4, h4, ok, c1, c2, c3, c4, fun S5 H5 z h5 k5 x5 sl5 dz ez => ?_⟩
          have e5 := k5 _ _ e4 nD
          have lfs : zs.length ≤ 225 := by
            rw [← Paired.length r4]
            exact Nat.le_trans (List.length_take_le' ..) ol
          have dk : ∀ {d u}, DyAt K H5 d u → DyAt K (upd H5 D1 (.lst (refsD zs ++ [.ref z.1]))) d u := fun ⟨dx, e, q⟩ => ⟨dx, (upd_ne (ne_of e e5 (by intro z; cases z))).trans e, q⟩
          refine ⟨_, e5, by rw [List.length_map, sizeLine_eq]; omega, S5, zs ++ [z], h5.lst' e5 nD _, keep_lst (k4.trans k5) hD1, x4.trans x5, sl5.trans sl4, ?_, ?_⟩
          · rw [upd_same]
            show _ = some (HO.lst ((zs ++ [z]).map fun p => V.ref p.1))
            rw [List.map_append]
            rfl
          · rw [List.take_add_one, ho]
            rw [c5] at ez
            exact Paired.snoc (Paired.mapP r4 fun a b q => ⟨dk (h4.dyK k5 q.1), q.2⟩) ⟨dk dz, ez⟩
        rintro H4 ⟨S4, zs, h4, k4, x4, sl4, e4, r4⟩
        rw [List.length_map, List.take_of_length_le (Nat.le_refl _)] at r4
        obtain ⟨pf, pb⟩ := paired_fwd r4
        have mp : ∀ t, t ∈ (S.g i).left.map (fun o => stop 64 false o) ↔ ∃ z ∈ zs, sc z.2 = t := fun t => by
          rw [List.mem_map]
          constructor
          · rintro ⟨y, hy, rfl⟩
            obtain ⟨o, ho, rfl⟩ := (mem_optG h.wf hi (s := true)).mp hy
            obtain ⟨z, hz, q⟩ := pf o ho
            exact ⟨z, hz, q.2⟩
          · rintro ⟨z, hz, rfl⟩
            obtain ⟨o, ho, q⟩ := pb z hz
            exact ⟨_, (mem_optG h.wf hi (s := true)).mpr ⟨o, ho, rfl⟩, q.2.symm⟩
        have ne : zs ≠ [] := fun e => by
          have := SG.left_some nn
          cases hL : (S.g i).left with
          | nil => exact this hL
          | cons a r =>
            obtain ⟨z, hz, _⟩ := (mp _).mp (List.mem_map.mpr ⟨a, by rw [hL]; exact List.mem_cons_self .., rfl⟩)
            rw [e] at hz
            cases hz
        refine ⟨D1, zs, rfl, SqL.of e4, ne, fun z hz => (let ⟨o, _, q⟩ := pb z hz; q.1), fun z hz best => ?_⟩
        refine k S4 H4 z h4 (k1.trans (k3.trans k4)) (x1.trans x4) (sl4.trans sl1) (let ⟨o, _, q⟩ := pb z hz; q.1) ((stop_best nn).1 ((mp _).mpr ⟨z, hz, rfl⟩) fun y hy => ?_)
        obtain ⟨q, hq, rfl⟩ := (mp y).mp hy
        exact best q hq
      | false =>
        have ol := lab_len h.wf ok hi hl false
        refine iteF ⟨_, rfl, A.vl, A.vx, _, rfl, h1.lay.vl, A, U, S1, rfl, h1, A.yd, A.yx, _, rfl, h1.lay.yd, rfl, _, rfl, A, U, S1, i, rfl, h1, x1.ex0.lt hi, fun p1 hp1 => ?_⟩
        rw [x1.ex0.o hi false]
        obtain ⟨h3, k3⟩ := h1.new hp1 (.lst ((optI false S.ns i).map nV))
        have np1 := h1.fresh hp1
        have e3 : (upd H1 p1 (.lst ((optI false S.ns i).map nV))) p1 = some (.lst ((optI false S.ns i).map nV)) := upd_same
        generalize upd H1 p1 (.lst ((optI false S.ns i).map nV)) = H3 at h3 k3 e3
        refine ⟨p1, rfl, ⟨_, SqL.of e3⟩, fun D1 hD1 => lc_list (K := K) (a := p1) (xs := (optI false S.ns i).map nV) (fun m H4 => ∃ S4 zs, At P w K A U S4 H4 ∧ Keep A H3 H4 ∧ Ext S1 S4 ∧ S4.slack = S1.slack ∧ H4 D1 = some (.lst (refsD zs)) ∧ Paired (fun o (z : Addr × Dy) => DyAt K H4 z.1 z.2 ∧ sc z.2 = stop 64 true (S.g o)) ((optI false S.ns i).take m) zs)
          ⟨S1, [], (h3.new hD1 _).1, (h3.new hD1 _).2, Ext.refl S1, rfl, upd_same, .nil⟩ (fun _ _ _ ⟨_, _, _, q, _⟩ => SqL.of (q _ _ e3 np1)) ?_ ?_⟩
        · rintro m' x H4 hm' ⟨S4, zs, h4, k4, x4, sl4, e4, r4⟩
          obtain ⟨o, ho, rfl⟩ := nV_get hm'
          have mo := List.mem_of_getElem? ho
          have nD := h3.fresh hD1
          obtain ⟨c1, c2, c3, c4, c5⟩ := call false o S4 mo (x1.trans x4)
          refine ⟨rfl, _, rfl, A.vl, A.vx, _, rfl, h4.lay.vl, rfl, _, rfl, A, o, true, rfl, U, S4, h4, ok, c1, c2, c3, c4, fun S5 H5 z h5 k5 x5 sl5 dz ez => ?_⟩
          have e5 := k5 _ _ e4 nD
          have lfs : zs.length ≤ 225 := by
            rw [← Paired.length r4]
            exact Nat.le_trans (List.length_take_le' ..) ol
          have dk : ∀ {d u}, DyAt K H5 d u → DyAt K (upd H5 D1 (.lst (refsD zs ++ [.ref z.1]))) d u := fun ⟨dx, e, q⟩ => ⟨dx, (upd_ne (ne_of e e5 (by intro z; cases z))).trans e, q⟩
          refine ⟨_, e5, by rw [List.length_map, sizeLine_eq]; omega, S5, zs ++ [z], h5.lst' e5 nD _, keep_lst (k4.trans k5) hD1, x4.trans x5, sl5.trans sl4, ?_, ?_⟩
          · rw [upd_same]
            show _ = some (HO.lst ((zs ++ [z]).map fun p => V.ref p.1))
            rw [List.map_append]
            rfl
          · rw [List.take_add_one, ho]
            rw [c5] at ez
            exact Paired.snoc (Paired.mapP r4 fun a b q => ⟨dk (h4.dyK k5 q.1), q.2⟩) ⟨dk dz, ez⟩
        rintro H4 ⟨S4, zs, h4, k4, x4, sl4, e4, r4⟩
        rw [List.length_map, List.take_of_length_le (Nat.le_refl _)] at r4
        obtain ⟨pf, pb⟩ := paired_fwd r4
        have mp : ∀ t, t ∈ (S.g i).right.map (fun o => stop 64 true o) ↔ ∃ z ∈ zs, sc z.2 = t := fun t => by
          rw [List.mem_map]
          constructor
          · rintro ⟨y, hy, rfl⟩
            obtain ⟨o, ho, rfl⟩ := (mem_optG h.wf hi (s := false)).mp hy
            obtain ⟨z, hz, q⟩ := pf o ho
            exact ⟨z, hz, q.2⟩
          · rintro ⟨z, hz, rfl⟩
            obtain ⟨o, ho, q⟩ := pb z hz
            exact ⟨_, (mem_optG h.wf hi (s := false)).mpr ⟨o, ho, rfl⟩, q.2.symm⟩
        have ne : zs ≠ [] := fun e => by
          have := SG.right_some nn
          cases hL : (S.g i).right with
          | nil => exact this hL
          | cons a r =>
            obtain ⟨z, hz, _⟩ := (mp _).mp (List.mem_map.mpr ⟨a, by rw [hL]; exact List.mem_cons_self .., rfl⟩)
            rw [e] at hz
            cases hz
        refine ⟨D1, zs, rfl, SqL.of e4, ne, fun z hz => (let ⟨o, _, q⟩ := pb z hz; q.1), fun z hz best => ?_⟩
        refine k S4 H4 z h4 (k1.trans (k3.trans k4)) (x1.trans x4) (sl4.trans sl1) (let ⟨o, _, q⟩ := pb z hz; q.1) ((stop_best nn).2 ((mp _).mpr ⟨z, hz, rfl⟩) fun y hy => ?_)
        obtain ⟨q, hq, rfl⟩ := (mp y).mp hy
        exact best q hq
end
end K45
end
section
set_option Elab.async false
set_option linter.all false
set_option maxRecDepth 100000
set_option maxHeartbeats 4000000
namespace K45
open PySem PySem.Spec PyProof.Rows L2
open SG (Gs Un UnOk Wf Ext Ex0 gv lf rt optI InC OKp OKr IsP IsSum Pu Dy sc Num Al form stop)
section
variable {P : Program} {w : World} {K : PySem.W.Frag} {mg : Str → Option Value} {base : Heap} (T : Tx K mg)
include T
theorem m_stop_step (n : Nat) (ih : C8.Met P w K mg base (150 + 2 * n + 1) (He.ga K "Values") "_played" (spStop P w K (n + 1)) []) : C8.Met P w K mg base (150 + 2 * (n + 1)) (He.ga K "Values") "_stop" (spStop P w K (n + 1)) [] := by
  refine met_by (k := 150 + 2 * n + 1) (t_cls_Values T) (t_me_Values__stop T) (t_fn_Valuesstop T) sc_Valuesstop (fun vs H Q E h => ?_) (fun _ _ _ _ _ _ us hl => match us, hl with | [_, _, _], _ => rfl) (fun cdv A0 outer s H vs Q E hr h => ?_)
  · obtain ⟨A, i, s, rfl, _⟩ := h
    rfl
  · obtain ⟨A, i, s, rfl, U, S, h, ok, hi, hn, hl, hop, k⟩ := h
    have hu := hu_of hr
    refine ⟨_, pss_cons (ps_if (pt_cmp (pc_dnotin hu (pe_tup (pa_cons (pv 1) (pa_cons (pv 2) pa_nil))) (pe_fld (pv 0) rfl)))
        (pss_one (ps_dput hu (pe_fld (pv 0) rfl) (pe_tup (pa_cons (pv 1) (pa_cons (pv 2) pa_nil))) (C8.pe_mt ih hr (by omega) (pv 0) (pa_cons (pv 1) (pa_cons (pv 2) pa_nil))) rfl)) pss_nil)
      (pss_one (ps_ret (pe_dget hu (pe_fld (pv 0) rfl) (pe_tup (pa_cons (pv 1) (pa_cons (pv 2) pa_nil))) (fun _ _ => rfl)))), ?_⟩
    refine ⟨_, rfl, _, rfl, by show 2 ≤ sizeLine; decide, fun t ht => ?_⟩
    obtain ⟨h1, k1⟩ := h.new ht (.tup [nV i, .str (sdS s)])
    have et : (upd H t (.tup [nV i, .str (sdS s)])) t = some (.tup (([kN i, Sum.inr (sdS s)] : List Key).map kV)) := upd_same
    generalize upd H t (.tup [nV i, .str (sdS s)]) = H1 at h1 k1 et
    refine ⟨_, rfl, A.vl, _, A.vx, _, _, rfl, h1.lay.vl, t_cls_Values T, t_no_Values__stops T, rfl, A.ST, _, rfl, DGet.t h1.bk.st et, _, rfl, ?_⟩
    cases ev : valV (S.st.map stE) [kN i, Sum.inr (sdS s)] with
    | some v =>
      obtain ⟨z, hz, rfl⟩ := val_some (f := stE) (kf := fun e : Nat × Bool => [kN e.1, Sum.inr (sdS e.2)]) (vf := fun z : Nat × Dy => V.ref z.1) (a := (i, s)) (fun _ => rfl) stK_inj ev
      refine iteF ⟨_, rfl, A.vl, _, A.vx, _, _, rfl, h1.lay.vl, t_cls_Values T, t_no_Values__stops T, rfl, _, rfl, _, rfl, by show 2 ≤ sizeLine; decide, fun t2 ht2 => ?_⟩
      obtain ⟨h2, k2⟩ := h1.new ht2 (.tup [nV i, .str (sdS s)])
      have et2 : (upd H1 t2 (.tup [nV i, .str (sdS s)])) t2 = some (.tup (([kN i, Sum.inr (sdS s)] : List Key).map kV)) := upd_same
      refine ⟨A.ST, .ref z.1, rfl, ?_, k S _ z h2 (k1.trans k2) (Ext.refl S) rfl (h2.bk.ds _ _ hz) (h.wf.st i s z hz).2⟩
      rw [← ev]
      exact DGet.t h2.bk.st et2
    | none =>
      refine iteT ?_
      refine ⟨_, rfl, A.vl, A.vx, _, rfl, h1.lay.vl, rfl, _, rfl, _, rfl, A, i, s, rfl, U, S, h1, ok, hi, hn, hl, hop, fun S2 H2 z h2 k2 x2 sl2 dz ez => ?_⟩
      have small := SG.st_small h2.wf
      have n19 := h2.wf.n
      refine ⟨_, rfl, A.vl, _, A.vx, _, _, rfl, h2.lay.vl, t_cls_Values T, t_no_Values__stops T, rfl, _, rfl, _, rfl, by show 2 ≤ sizeLine; decide, fun t2 ht2 => ?_⟩
      obtain ⟨h3, k3⟩ := h2.new ht2 (.tup [nV i, .str (sdS s)])
      have et2 : (upd H2 t2 (.tup [nV i, .str (sdS s)])) t2 = some (.tup (([kN i, Sum.inr (sdS s)] : List Key).map kV)) := upd_same
      have dz3 := h2.dyK k3 dz
      generalize upd H2 t2 (.tup [nV i, .str (sdS s)]) = H3 at h3 k3 et2 dz3
      obtain ⟨h4, k4⟩ := h3.st2 (i := i) (s := s) (z := z) (x2.ex0.lt hi) (by rw [x2.ex0.g hi]; exact ez) dz3
      refine ⟨A.ST, _, rfl, DPut.t h3.bk.st et2 (by rw [List.length_map, sizeLine_eq]; omega), ?_⟩
      have e4 : (upd H3 A.ST (.dT (putK (S2.st.map stE) [kN i, Sum.inr (sdS s)] (.ref z.1)))) A.ST = some (.dT (putK (S2.st.map stE) [kN i, Sum.inr (sdS s)] (.ref z.1))) := upd_same
      generalize upd H3 A.ST (.dT (putK (S2.st.map stE) [kN i, Sum.inr (sdS s)] (.ref z.1))) = H4 at h4 k4 e4
      refine ⟨_, rfl, A.vl, _, A.vx, _, _, rfl, h4.lay.vl, t_cls_Values T, t_no_Values__stops T, rfl, _, rfl, _, rfl, by show 2 ≤ sizeLine; decide, fun t3 ht3 => ?_⟩
      obtain ⟨h5, k5⟩ := h4.new ht3 (.tup [nV i, .str (sdS s)])
      have et3 : (upd H4 t3 (.tup [nV i, .str (sdS s)])) t3 = some (.tup (([kN i, Sum.inr (sdS s)] : List Key).map kV)) := upd_same
      have e5 := (same_upd (H := H4) (o := .tup [nV i, .str (sdS s)]) ht3) _ _ e4
      refine ⟨A.ST, .ref z.1, rfl, ?_, k _ _ z h5 (k1.trans (k2.trans (k3.trans (k4.trans k5)))) (x2.trans (ext_st _ _ _ _)) sl2 (h4.dyK k5 (h3.dyK k4 dz3)) ez⟩
      rw [← val_put (S2.st.map stE) [kN i, Sum.inr (sdS s)] (.ref z.1)]
      exact DGet.t e5 et3
theorem m_stop : ∀ n : Nat, C8.Met P w K mg base (150 + 2 * n) (He.ga K "Values") "_stop" (spStop P w K n) []
  | 0 => by
    refine met_by (k := 149) (t_cls_Values T) (t_me_Values__stop T) (t_fn_Valuesstop T) sc_Valuesstop (fun vs H Q E h => ?_) (fun _ _ _ _ _ _ us hl => match us, hl with | [_, _, _], _ => rfl) (fun cdv A0 outer s H vs Q E hr h => ?_)
    · obtain ⟨A, i, s, rfl, _⟩ := h
      rfl
    · obtain ⟨A, i, s, rfl, U, S, h, ok, hi, hn, _⟩ := h
      exact absurd hn (Nat.not_lt_zero _)
  | n + 1 => m_stop_step T n (m_played T n (m_stop n))
theorem m_left_stop : C8.Met P w K mg base 190 (He.ga K "Values") "left_stop" (spSide1 P w K 17 true) [] := by
  refine met_by (k := 189) (t_cls_Values T) (t_me_Values_left_stop T) (t_fn_Values_left_stop T) sc_Values_left_stop (fun vs H Q E h => ?_) (fun _ _ _ _ _ _ us hl => match us, hl with | [_, _], _ => rfl) (fun cdv A0 outer s H vs Q E hr h => ?_)
  · obtain ⟨A, i, rfl, _⟩ := h
    rfl
  · obtain ⟨A, i, rfl, h⟩ := h
    obtain ⟨U, S, h1, r⟩ := id h
    exact ⟨_, pss_one (ps_ret (C8.pe_mt (m_stop T 17) hr (by decide) (pv 0) (pa_cons (pv 1) (pa_cons pe_str pa_nil)))), _, rfl, A.vl, A.vx, _, rfl, h1.lay.vl, rfl, _, rfl, A, i, true, rfl, h⟩
theorem m_right_stop : C8.Met P w K mg base 190 (He.ga K "Values") "right_stop" (spSide1 P w K 17 false) [] := by
  refine met_by (k := 189) (t_cls_Values T) (t_me_Values_right_stop T) (t_fn_Values_right_stop T) sc_Values_right_stop (fun vs H Q E h => ?_) (fun _ _ _ _ _ _ us hl => match us, hl with | [_, _], _ => rfl) (fun cdv A0 outer s H vs Q E hr h => ?_)
  · obtain ⟨A, i, rfl, _⟩ := h
    rfl
  · obtain ⟨A, i, rfl, h⟩ := h
    obtain ⟨U, S, h1, r⟩ := id h
    exact ⟨_, pss_one (ps_ret (C8.pe_mt (m_stop T 17) hr (by decide) (pv 0) (pa_cons (pv 1) (pa_cons pe_str pa_nil)))), _, rfl, A.vl, A.vx, _, rfl, h1.lay.vl, rfl, _, rfl, A, i, false, rfl, h⟩
theorem m_is_small : C8.Met P w K mg base 191 (He.ga K "Values") "is_small" (spSmall P w K 17) [] := by
  refine met_by (k := 190) (t_cls_Values T) (t_me_Values_is_small T) (t_fn_Values_is_small T) sc_Values_is_small (fun vs H Q E h => ?_) (fun _ _ _ _ _ _ us hl => match us, hl with | [_, _], _ => rfl) (fun cdv A0 outer s H vs Q E hr h => ?_)
  · obtain ⟨A, U, S, i, rfl, _⟩ := h
    rfl
  · obtain ⟨A, U, S, i, rfl, h, ok, hi, hn, hl, hop, k⟩ := h
    refine ⟨_, pss_one (ps_ret (pe_and (pe_cmpR op_eq (pe_pr (p_top T) hr (by decide) (C8.pe_mt (m_left_stop T) hr (by decide) (pv 0) (pa_cons (pv 1) pa_nil))) pe_int (nomark _))
      (pe_one (pe_cmpR op_eq (pe_pr (p_top T) hr (by decide) (C8.pe_mt (m_right_stop T) hr (by decide) (pv 0) (pa_cons (pv 1) pa_nil))) pe_int (nomark _))))), ?_⟩
    refine ⟨_, rfl, A.vl, A.vx, _, rfl, h.lay.vl, rfl, _, rfl, A, i, rfl, U, S, h, ok, hi, hn, hl, hop, fun S1 H1 z1 h1 k1 x1 sl1 d1 e1 => ?_⟩
    obtain ⟨dx1, ed1, ok1⟩ := id d1
    refine ⟨z1.1, dx1, _, rfl, ed1, z1.1, z1.2, rfl, d1, rfl, _, rfl, ?_⟩
    rw [top_zero (by have := ok1.p; omega), e1]
    by_cases c : stop 64 true (S.g i) = 0
    · rw [decide_eq_true c]
      obtain ⟨p, hp, hp2⟩ := hl
      refine iteT ⟨_, rfl, A.vl, A.vx, _, rfl, h1.lay.vl, rfl, _, rfl, A, i, rfl, U, S1, h1, ok, x1.ex0.lt hi, by rw [x1.ex0.g hi]; exact hn, ⟨p, hp, (x1.ex0.isP hi).mpr hp2⟩, fun p hp => x1.op p (hop p hp), fun S2 H2 z2 h2 k2 x2 sl2 d2 e2 => ?_⟩
      obtain ⟨dx2, ed2, ok2⟩ := id d2
      refine ⟨z2.1, dx2, _, rfl, ed2, z2.1, z2.2, rfl, d2, rfl, ?_⟩
      rw [top_zero (by have := ok2.p; omega), e2, x1.ex0.g hi]
      have := k S2 H2 h2 (k1.trans k2) (x1.trans x2) (sl2.trans sl1)
      rw [decide_eq_true c, Bool.true_and] at this
      exact this
    · rw [decide_eq_false c]
      have := k S1 H1 h1 k1 x1 sl1
      rw [decide_eq_false c, Bool.false_and] at this
      exact iteF this
end
end K45
end
section
set_option Elab.async false
set_option linter.all false
set_option maxRecDepth 100000
set_option maxHeartbeats 4000000
namespace SG
theorem plain_opts {v : Dy} (h : Plain v) : (form v.p v.t).left = (if 0 < v.p ∨ 0 < v.t then [form v.p (v.t - 1)] else []) ∧ (form v.p v.t).right = (if 0 < v.p ∨ v.t < 0 then [form v.p (v.t + 1)] else []) := by
  obtain ⟨t, p⟩ := v
  cases p with
  | zero =>
    show (form 0 t).left = _ ∧ (form 0 t).right = _
    rcases Int.lt_trichotomy t 0 with c | c | c
    · rw [form0_neg c, if_neg (by show ¬ (0 < 0 ∨ 0 < t); omega), if_pos (by show 0 < 0 ∨ t < 0; omega)]
      exact ⟨rfl, rfl⟩
    · subst c
      exact ⟨rfl, rfl⟩
    · rw [form0_pos c, if_pos (by show 0 < 0 ∨ 0 < t; omega), if_neg (by show ¬ (0 < 0 ∨ t < 0); omega)]
      exact ⟨rfl, rfl⟩
  | succ q =>
    have odd : t % 2 = 1 := by
      rcases h with h | h
      · exact absurd h (Nat.succ_ne_zero q)
      · exact h
    obtain ⟨a, ha⟩ := parity t
    have e : t = 2 * a + 1 := by omega
    subst e
    show (form (q + 1) (2 * a + 1)).left = (if 0 < q + 1 ∨ _ then [form (q + 1) (2 * a + 1 - 1)] else []) ∧ (form (q + 1) (2 * a + 1)).right = (if 0 < q + 1 ∨ _ then [form (q + 1) (2 * a + 1 + 1)] else [])
    rw [form_odd, if_pos (.inl (Nat.succ_pos q)), if_pos (.inl (Nat.succ_pos q)), show 2 * a + 1 - 1 = 2 * a by omega, show 2 * a + 1 + 1 = 2 * (a + 1) by omega, form_even, form_even]
    exact ⟨rfl, rfl⟩
theorem form_redu {t : Int} {p : Nat} (h : p ≤ 64) : form 64 (sc (redu t p)) = form p t := by
  rw [redu_sc p t h]
  exact form_shift' h t
theorem small_t {v : Dy} (h : v.p ≤ 12) (hg : ht (form 64 (sc v)) ≤ 16) : -65536 ≤ v.t ∧ v.t ≤ 65536 := by
  have b := num_bound (p := 64) (h := 16) hg (al_refl _)
  have e : (2 ^ 64 * ((16 : Nat) : Int) : Int) = 2 ^ (64 - v.p) * (2 ^ v.p * 16) := by
    rw [← Int.mul_assoc, ← Int.pow_add, show 64 - v.p + v.p = 64 by omega]
    rfl
  have pw : (2 ^ v.p : Int) ≤ 4096 := by
    have : (2 : Nat) ^ v.p ≤ 2 ^ 12 := Nat.pow_le_pow_right (by decide) h
    have e2 : ((2 ^ v.p : Nat) : Int) = (2 ^ v.p : Int) := by simp
    omega
  unfold sc at b
  rw [e] at b
  have q1 := Int.le_of_mul_le_mul_left b.1 (pow_pos2 (64 - v.p))
  have q2 : 2 ^ (64 - v.p) * (-(2 ^ v.p * 16)) ≤ 2 ^ (64 - v.p) * v.t := by rw [Int.mul_neg]; exact b.2
  have q3 := Int.le_of_mul_le_mul_left q2 (pow_pos2 (64 - v.p))
  omega
end SG
namespace K45
open PySem PySem.Spec PyProof.Rows L2
open SG (Gs Un UnOk Wf Ext Ex0 gv lf rt optI InC OKp OKr IsP IsSum Pu Dy sc Num Al form stop redu Plain)
/-! ### values.py: forms of numbers -/
noncomputable abbrev setMd (S : Gs) (v : Dy) (i : Nat) : Gs := { S with md := putL S.md v i }
theorem ext_md (S : Gs) (v : Dy) (i : Nat) : Ext S (setMd S v i) := ⟨⟨[], (List.append_nil _).symm⟩, fun _ h => h, fun _ h => h, fun _ h => h⟩
theorem wf_setMd {U : Un} {S : Gs} (w : Wf U S) {v : Dy} {i : Nat} (h1 : i < S.N) (h2 : Plain v) (h3 : v.p ≤ 64) (h4 : IsSum (S.g i) (form 64 (sc v)) zr) : Wf U (setMd S v i) :=
  SG.wf_of w (ext_md S v i).ex0 w.wy (fun e h => .inl h) w.alk (fun _ h => .inl h) w.sik (fun _ h => .inl h) w.plk (fun _ h => .inl h) w.nuk (fun e h' => (mem_putL h').imp id fun q => by subst q; exact ⟨h1, h2, h3, h4⟩) (keys_putL w.mdk) (fun _ h => .inl h) w.stk w.bud
theorem At.md2 {P : Program} {w : World} {K : PySem.W.Frag} {A : Ad} {U : Un} {S : Gs} {H : Hp} (h : At P w K A U S H) {v : Dy} {i : Nat} (h1 : i < S.N) (h2 : Plain v) (h3 : v.p ≤ 64) (h4 : IsSum (S.g i) (form 64 (sc v)) zr) :
    At P w K A U (setMd S v i) (upd H A.MD (.dT (putK (S.md.map mdE) [Sum.inl v.t, kN v.p] (nV i)))) ∧ Keep A H (upd H A.MD (.dT (putK (S.md.map mdE) [Sum.inl v.t, kN v.p] (nV i)))) := by
  have k : ∀ c o', c ≠ A.MD → H c = some o' → upd H A.MD (.dT (putK (S.md.map mdE) [Sum.inl v.t, kN v.p] (nV i))) c = some o' := fun c o' n e => (upd_ne n).trans e
  have n : ∀ C dx fs, H A.MD ≠ some (.ins C dx fs) := fun C dx fs z => by rw [h.bk.md] at z; cases z
  have e : upd H A.MD (.dT (putK (S.md.map mdE) [Sum.inl v.t, kN v.p] (nV i))) A.MD = some (.dT ((setMd S v i).md.map mdE)) := by
    have q := put_map (f := mdE) (kf := fun e : Dy => [Sum.inl e.t, kN e.p]) (vf := nV) (fun _ => rfl) mdK_inj S.md v i
    rw [upd_same]
    exact congrArg (fun z => some (HO.dT z)) q
  exact ⟨⟨h.lay.dict n k, h.yb.dict (.inl ⟨_, h.bk.md⟩) k,
    ⟨k _ _ h.di.am h.bk.al, k _ _ (ne_of h.bk.si h.bk.md (by intro z; cases z)) h.bk.si, k _ _ h.di.pm h.bk.pl, k _ _ (ne_of h.bk.nu h.bk.md (by intro z; cases z)) h.bk.nu, e, k _ _ h.di.ms.symm h.bk.st,
      fun f z m => dy_at (h.bk.dn f z m) n k, fun f z m => dy_at (h.bk.ds f z m) n k⟩, h.di, wf_setMd h.wf h1 h2 h3 h4⟩, Keep.of_ne (x := A.MD) (by simp [Ad.mut]) k⟩
def spOfNum (P : Program) (w : World) (K : PySem.W.Frag) (n : Nat) : Sp := fun vs H Q _ => ∃ (A : Ad) (U : Un) (S : Gs) (v : Dy) (p : Pu), vs = [.ref A.vl, .int v.t, .int (v.p : Int)] ∧ At P w K A U S H ∧ UnOk U ∧ Plain v ∧ v.p ≤ 12 ∧ SG.ht (form 64 (sc v)) < n ∧ SG.ht (form 64 (sc v)) ≤ 16 ∧ p ∈ U.all ∧ p.1.2 = zr ∧ p.2.2 = form 64 (sc v) ∧ (∀ q ∈ U.all, OKr S q) ∧
  ∀ (S' : Gs) (H' : Hp) (f : Nat), At P w K A U S' H' → Keep A H H' → Ext S S' → S'.slack = S.slack → f < S'.N → IsSum (S'.g f) (form 64 (sc v)) zr → Q (nV f) H'
/-- the pair of an option -/
theorem num_pair {U : Un} (ok : UnOk U) {p : Pu} {v u : Dy} {s : Bool} (hp : p ∈ U.all) (h0 : p.1.2 = zr) (h : p.2.2 = form 64 (sc v)) (m : form 64 (sc u) ∈ SG.opt s (form 64 (sc v))) : ∃ q ∈ U.all, q.1.2 = zr ∧ q.2.2 = form 64 (sc u) := by
  obtain ⟨h1, h2⟩ := SG.mem_pu.mp hp
  obtain ⟨j, hj, _⟩ := ok.v.cl p.2.1 p.2.2 h2 s (form 64 (sc u)) (by rw [h]; exact m)
  exact ⟨(p.1, (j, form 64 (sc u))), SG.mem_pu.mpr ⟨h1, hj⟩, h0, rfl⟩
theorem num_sumopt {S : Gs} {p : Pu} {v : Dy} {s : Bool} {us : List SG.G} {fs : List Nat} (h0 : p.1.2 = zr) (h : p.2.2 = form 64 (sc v)) (e : SG.opt s (form 64 (sc v)) = us) (r : Paired (fun u f => f < S.N ∧ IsSum (S.g f) u zr) us fs) : SumOpt S p s fs := by
  obtain ⟨a, b⟩ := paired_fwd r
  refine ⟨fun f hf => ?_, fun x hx => ?_, fun x hx => ?_⟩
  · obtain ⟨u, hu, q⟩ := b f hf
    refine ⟨q.1, .inr ⟨u, by rw [h, e]; exact hu, ?_⟩⟩
    rw [h0]
    exact SG.isSum_symm q.2
  · rw [h0] at hx
    exact (opt_zr hx).elim
  · rw [h, e] at hx
    obtain ⟨f, hf, q⟩ := a x hx
    refine ⟨f, hf, ?_⟩
    rw [h0]
    exact SG.isSum_symm q.2
end K45
end
section
set_option Elab.async false
set_option linter.all false
set_option maxRecDepth 100000
set_option maxHeartbeats 4000000
namespace K45
open PySem PySem.Spec PyProof.Rows L2
open SG (Gs Un UnOk Wf Ext Ex0 gv lf rt optI InC OKp OKr IsP IsSum Pu Dy sc Num Al form stop redu Plain)
theorem game_num {P : Program} {w : World} {K : PySem.W.Frag} {A : Ad} {U : Un} {S : Gs} {H : Hp} {Q : VK} {E : XK} {p : Pu} {f1 f2 : List Nat} {la ra : Addr} (ok : UnOk U) (h : At P w K A U S H) (so1 : SumOpt S p true f1) (so2 : SumOpt S p false f2) (e3 : H la = some (.lst (f1.map nV))) (e4 : H ra = some (.lst (f2.map nV))) (l1 : f1.length ≤ 2000) (l2 : f2.length ≤ 2000) (c : OKr S p)
    (rest : ∀ (S7 : Gs) (H7 : Hp) (F : Nat), At P w K A U S7 H7 → Keep A H H7 → Ext S S7 → S7.slack = S.slack → F < S7.N → IsP S7.ns F p → Q (nV F) H7) : spGameK P w K [.ref A.yd, .ref la, .ref ra] H Q E := by
  obtain ⟨S', h', e, g⟩ := credit_game h c so1 so2 rest
  exact ⟨A, U, S', la, ra, f1, f2, rfl, h', e3, e4, l1, l2, fun x hx => by show x < S'.ns.length; rw [e]; exact (so1.of x hx).1, fun x hx => by show x < S'.ns.length; rw [e]; exact (so2.of x hx).1, g⟩
section
variable {P : Program} {w : World} {K : PySem.W.Frag} {mg : Str → Option Value} {base : Heap} (T : Tx K mg)
include T
theorem m_ofnum_step (n : Nat) (ih : C8.Met P w K mg base (10 + n) (He.ga K "Values") "_of_number" (spOfNum P w K n) []) : C8.Met P w K mg base (10 + (n + 1)) (He.ga K "Values") "_of_number" (spOfNum P w K (n + 1)) [] := by
  refine met_by (k := 10 + n) (t_cls_Values T) (t_me_Values__of_number T) (t_fn_Valuesof_number T) sc_Valuesof_number (fun vs H Q E h => ?_) (fun _ _ _ _ _ _ us hl => match us, hl with | [_, _, _], _ => rfl) (fun cdv A0 outer s H vs Q E hr h => ?_)
  · obtain ⟨A, U, S, v, p, rfl, _⟩ := h
    rfl
  · obtain ⟨A, U, S, v, p, rfl, h, ok, pl, p12, hn, h16, hp, hz, hv, hok, k⟩ := h
    have hu := hu_of hr
    have st := SG.small_t p12 h16
    refine ⟨_, pss_cons (ps_if (pt_cmp (pc_dnotin hu (pe_tup (pa_cons (pv 1) (pa_cons (pv 2) pa_nil))) (pe_fld (pv 0) rfl)))
        (pss_cons (ps_set (i := 3) sc_Valuesof_number.nd rfl (.inl rfl) (pe_lst pa_nil))
        (pss_cons (ps_set (i := 4) sc_Valuesof_number.nd rfl (.inl rfl) (pe_lst pa_nil))
        (pss_cons (ps_if (PW.pt (pw_or (pt_cmpR op_gt (pv 2) pe_int (nomark _)) (pw_or1 (pt_cmpR op_gt (pv 1) pe_int (nomark _)))))
          (pss_cons (ps_set (i := 5) sc_Valuesof_number.nd rfl (.inl rfl) (C8.pe_mk (mk_Dyadic2 T) hr (by omega) (by rfl) (pa_cons (pe_op op_sub (pv 1) pe_int) (pa_cons (pv 2) pa_nil))))
          (pss_one (ps_expr (pe_bm PySem.F.plainAttrs_list PySem.F.slot_list_append PySem.F.type_list_append mt_append (pv 3) (pa_cons (C8.pe_mt ih hr (Nat.le_refl _) (pv 0) (pa_cons (pe_pr (p_top T) hr (by omega) (pv 5)) (pa_cons (pe_pr (p_power T) hr (by omega) (pv 5)) pa_nil))) pa_nil))))) pss_nil)
        (pss_cons (ps_if (PW.pt (pw_or (pt_cmpR op_gt (pv 2) pe_int (nomark _)) (pw_or1 (pt_cmpR op_lt (pv 1) pe_int (nomark _)))))
          (pss_cons (ps_set (i := 6) sc_Valuesof_number.nd rfl (.inl rfl) (C8.pe_mk (mk_Dyadic2 T) hr (by omega) (by rfl) (pa_cons (pe_op op_add (pv 1) pe_int) (pa_cons (pv 2) pa_nil))))
          (pss_one (ps_expr (pe_bm PySem.F.plainAttrs_list PySem.F.slot_list_append PySem.F.type_list_append mt_append (pv 4) (pa_cons (C8.pe_mt ih hr (Nat.le_refl _) (pv 0) (pa_cons (pe_pr (p_top T) hr (by omega) (pv 6)) (pa_cons (pe_pr (p_power T) hr (by omega) (pv 6)) pa_nil))) pa_nil))))) pss_nil)
        (pss_one (ps_dput hu (pe_fld (pv 0) rfl) (pe_tup (pa_cons (pv 1) (pa_cons (pv 2) pa_nil))) (C8.pe_mt (m_gameK T) hr (by omega) (pe_pr (p_Values_yard T) hr (by omega) (pv 0)) (pa_cons (pv 3) (pa_cons (pv 4) pa_nil))) rfl)))))) pss_nil)
      (pss_one (ps_ret (pe_dget hu (pe_fld (pv 0) rfl) (pe_tup (pa_cons (pv 1) (pa_cons (pv 2) pa_nil))) (fun _ _ => rfl)))), ?_⟩
    refine ⟨_, rfl, _, rfl, by show 2 ≤ sizeLine; decide, fun t ht => ?_⟩
    obtain ⟨h1, k1⟩ := h.new ht (.tup [.int v.t, .int (v.p : Int)])
    have et : (upd H t (.tup [.int v.t, .int (v.p : Int)])) t = some (.tup (([Sum.inl v.t, kN v.p] : List Key).map kV)) := upd_same
    generalize upd H t (.tup [.int v.t, .int (v.p : Int)]) = H1 at h1 k1 et
    refine ⟨_, rfl, A.vl, _, A.vx, _, _, rfl, h1.lay.vl, t_cls_Values T, t_no_Values__made T, rfl, A.MD, _, rfl, DGet.t h1.bk.md et, _, rfl, ?_⟩
    cases ev : valV (S.md.map mdE) [Sum.inl v.t, kN v.p] with
    | some x =>
      obtain ⟨f, hf, rfl⟩ := val_some (f := mdE) (kf := fun e : Dy => [Sum.inl e.t, kN e.p]) (vf := nV) (a := v) (fun _ => rfl) mdK_inj ev
      have q := h.wf.md v f hf
      refine iteF ⟨_, rfl, A.vl, _, A.vx, _, _, rfl, h1.lay.vl, t_cls_Values T, t_no_Values__made T, rfl, _, rfl, _, rfl, by show 2 ≤ sizeLine; decide, fun t2 ht2 => ?_⟩
      obtain ⟨h2, k2⟩ := h1.new ht2 (.tup [.int v.t, .int (v.p : Int)])
      have et2 : (upd H1 t2 (.tup [.int v.t, .int (v.p : Int)])) t2 = some (.tup (([Sum.inl v.t, kN v.p] : List Key).map kV)) := upd_same
      refine ⟨A.MD, nV f, rfl, ?_, k S _ f h2 (k1.trans k2) (Ext.refl S) rfl q.1 q.2.2.2⟩
      rw [← ev]
      exact DGet.t h2.bk.md et2
    | none =>
      refine iteT ⟨by show 0 ≤ sizeLine; decide, fun p3 hp3 => ?_⟩
      obtain ⟨h2, k2⟩ := h1.new hp3 (.lst [])
      have np3 := h1.fresh hp3
      have e3 : (upd H1 p3 (.lst [])) p3 = some (.lst (([] : List Nat).map nV)) := upd_same
      generalize upd H1 p3 (.lst []) = H2 at h2 k2 e3
      refine ⟨by show 0 ≤ sizeLine; decide, fun p4 hp4 => ?_⟩
      obtain ⟨h3, k3⟩ := h2.new hp4 (.lst [])
      have np4 := h2.fresh hp4
      have e4 : (upd H2 p4 (.lst [])) p4 = some (.lst (([] : List Nat).map nV)) := upd_same
      have p34 : p3 ≠ p4 := fun q => by rw [← q, e3] at hp4; cases hp4
      have e3' := k3 _ _ e3 np3
      have kA := k1.trans (k2.trans k3)
      have kh3 : H p3 = none := by
        cases e : H p3 with
        | none => rfl
        | some o =>
          by_cases m : p3 ∈ A.mut
          · exact absurd m np3
          · have := k1 _ _ e m; rw [hp3] at this; cases this
      have kh4 : H p4 = none := by
        cases e : H p4 with
        | none => rfl
        | some o =>
          by_cases m : p4 ∈ A.mut
          · exact absurd m np4
          · have := (k1.trans k2) _ _ e m; rw [hp4] at this; cases this
      generalize upd H2 p4 (.lst []) = H3 at h3 k3 e4 e3' kA
      have fe := SG.form_sc (d := v) (by omega)
      obtain ⟨ol, or'⟩ := SG.plain_opts pl
      rw [← fe] at ol or'
      -- the call for one option
      have call : ∀ (s : Bool) (u : Dy) (S2 : Gs), form 64 (sc u) ∈ SG.opt s (form 64 (sc v)) → Ext S S2 → u.p ≤ v.p → ∃ q, u.p ≤ 12 ∧ SG.ht (form 64 (sc u)) < n ∧ SG.ht (form 64 (sc u)) ≤ 16 ∧ q ∈ U.all ∧ q.1.2 = zr ∧ q.2.2 = form 64 (sc u) ∧ (∀ q ∈ U.all, OKr S2 q) := fun s u S2 m x2 up => by
        have hto := SG.ht_opt m
        obtain ⟨q, q1, q2, q3⟩ := num_pair ok hp hz hv m
        exact ⟨q, by omega, by omega, by omega, q1, q2, q3, fun q hq => x2.or q (hok q hq)⟩
      by_cases cp : 0 < v.p
      · have cL : 0 < v.p ∨ 0 < v.t := .inl cp
        have cR : 0 < v.p ∨ v.t < 0 := .inl cp
        refine ⟨_, rfl, _, _, rfl, rfl, _, rfl, ?_⟩
        rw [decide_eq_true (show ((v.p : Nat) : Int) > 0 by omega)]
        refine iteT ?_
        have m5 : form 64 (sc (redu (v.t - 1) v.p)) ∈ SG.opt true (form 64 (sc v)) := by
          show _ ∈ (form 64 (sc v)).left
          rw [ol, if_pos cL, SG.form_redu (by omega)]
          exact List.mem_singleton.mpr rfl
        obtain ⟨q5, a1, a2, a3, a4, a5, a6, a7⟩ := call true (redu (v.t - 1) v.p) S m5 (Ext.refl S) (SG.redu_p _ _)
        refine ⟨_, rfl, _, _, rfl, rfl, _, rfl, fun d5 dx5 nx ndx nex => ⟨d5, dx5, v.t - 1, v.p, rfl, upd_same, by omega, by omega, by omega, fun Hd5 hd hk => ⟨rfl, ?_⟩⟩⟩
        have sm5 : Same H3 Hd5 := fun b o hb => by
          have nb : b ≠ d5 := ne_of_none hb nx
          exact hk b o (by rw [upd_ne nb, upd_ne (ne_of_none hb ndx)]; exact hb) nb
        have hh5 := h3.same sm5
        obtain ⟨dxx5, ed5, okd5⟩ := id hd
        refine ⟨_, rfl, .inl ⟨rfl, _, SqL.of (sm5 _ _ e3')⟩, ?_⟩
        refine ⟨_, rfl, A.vl, A.vx, _, rfl, hh5.lay.vl, rfl, _, rfl, d5, dxx5, _, rfl, ed5, d5, _, rfl, hd, _, rfl, d5, dxx5, _, rfl, ed5, d5, _, rfl, hd, A, U, S, redu (v.t - 1) v.p, q5, rfl, hh5, ok, SG.redu_plain _ _, a1, a2, a3, a4, a5, a6, a7, fun S5 H5 f5 h5 kk5 xx5 ss5 lf5 is5 => ?_⟩
        have eo5 := kk5 _ _ (sm5 _ _ e3') np3
        have k5 : Keep A H H5 := kA.trans ((Keep.same sm5).trans kk5)
        refine ⟨p3, _, _, rfl, rfl, eo5, by show 0 < sizeLine; decide, ?_⟩
        have x5 : Ext S S5 := (Ext.refl S).trans xx5
        have sl5 : S5.slack = S.slack := ss5.trans rfl
        have hz5 : At P w K A U S5 (upd H5 p3 (.lst (([] : List Nat).map nV ++ [nV f5]))) := h5.lst' eo5 np3 _
        have kz5 : Keep A H (upd H5 p3 (.lst (([] : List Nat).map nV ++ [nV f5]))) := keep_lst k5 kh3
        have ez5 : (upd H5 p3 (.lst (([] : List Nat).map nV ++ [nV f5]))) p3 = some (.lst (([f5] : List Nat).map nV)) := upd_same
        have ey5 : (upd H5 p3 (.lst (([] : List Nat).map nV ++ [nV f5]))) p4 = some (.lst (([] : List Nat).map nV)) := (upd_ne p34.symm).trans (kk5 _ _ (sm5 _ _ e4) np4)
        refine ⟨_, rfl, _, _, rfl, rfl, _, rfl, ?_⟩
        rw [decide_eq_true (show ((v.p : Nat) : Int) > 0 by omega)]
        refine iteT ?_
        have m6 : form 64 (sc (redu (v.t + 1) v.p)) ∈ SG.opt false (form 64 (sc v)) := by
          show _ ∈ (form 64 (sc v)).right
          rw [or', if_pos cR, SG.form_redu (by omega)]
          exact List.mem_singleton.mpr rfl
        obtain ⟨q6, a1, a2, a3, a4, a5, a6, a7⟩ := call false (redu (v.t + 1) v.p) S5 m6 x5 (SG.redu_p _ _)
        refine ⟨_, rfl, _, _, rfl, rfl, _, rfl, fun d6 dx6 nx ndx nex => ⟨d6, dx6, v.t + 1, v.p, rfl, upd_same, by omega, by omega, by omega, fun Hd6 hd hk => ⟨rfl, ?_⟩⟩⟩
        have sm6 : Same (upd H5 p3 (.lst (([] : List Nat).map nV ++ [nV f5]))) Hd6 := fun b o hb => by
          have nb : b ≠ d6 := ne_of_none hb nx
          exact hk b o (by rw [upd_ne nb, upd_ne (ne_of_none hb ndx)]; exact hb) nb
        have hh6 := hz5.same sm6
        obtain ⟨dxx6, ed6, okd6⟩ := id hd
        refine ⟨_, rfl, .inl ⟨rfl, _, SqL.of (sm6 _ _ ey5)⟩, ?_⟩
        refine ⟨_, rfl, A.vl, A.vx, _, rfl, hh6.lay.vl, rfl, _, rfl, d6, dxx6, _, rfl, ed6, d6, _, rfl, hd, _, rfl, d6, dxx6, _, rfl, ed6, d6, _, rfl, hd, A, U, S5, redu (v.t + 1) v.p, q6, rfl, hh6, ok, SG.redu_plain _ _, a1, a2, a3, a4, a5, a6, a7, fun S6 H6 f6 h6 kk6 xx6 ss6 lf6 is6 => ?_⟩
        have eo6 := kk6 _ _ (sm6 _ _ ey5) np4
        have k6 : Keep A H H6 := kz5.trans ((Keep.same sm6).trans kk6)
        refine ⟨p4, _, _, rfl, rfl, eo6, by show 0 < sizeLine; decide, ?_⟩
        have x6 : Ext S S6 := x5.trans xx6
        have sl6 : S6.slack = S.slack := ss6.trans sl5
        have hz6 : At P w K A U S6 (upd H6 p4 (.lst (([] : List Nat).map nV ++ [nV f6]))) := h6.lst' eo6 np4 _
        have kz6 : Keep A H (upd H6 p4 (.lst (([] : List Nat).map nV ++ [nV f6]))) := keep_lst k6 kh4
        have ez6 : (upd H6 p4 (.lst (([] : List Nat).map nV ++ [nV f6]))) p4 = some (.lst (([f6] : List Nat).map nV)) := upd_same
        have ey6 : (upd H6 p4 (.lst (([] : List Nat).map nV ++ [nV f6]))) p3 = some (.lst (([f5] : List Nat).map nV)) := (upd_ne p34).trans (kk6 _ _ (sm6 _ _ ez5) np3)
        have so1 : SumOpt S6 p true [f5] := num_sumopt (us := [form 64 (sc (redu (v.t - 1) v.p))]) hz hv (by show (form 64 (sc v)).left = _; rw [ol, if_pos cL, SG.form_redu (by omega)]) (.cons ⟨xx6.ex0.lt lf5, by rw [xx6.ex0.g lf5]; exact is5⟩ .nil)
        have so2 : SumOpt S6 p false [f6] := num_sumopt (us := [form 64 (sc (redu (v.t + 1) v.p))]) hz hv (by show (form 64 (sc v)).right = _; rw [or', if_pos cR, SG.form_redu (by omega)]) (.cons ⟨lf6, is6⟩ .nil)
        have hF := hz6
        have kF := kz6
        have xF : Ext S S6 := x6
        have sF : S6.slack = S.slack := sl6
        have e3F := ey6
        have e4F := ez6
        generalize (upd H6 p4 (.lst (([] : List Nat).map nV ++ [nV f6]))) = HF at hF kF e3F e4F ⊢
        refine ⟨_, rfl, A.vl, A.vx, _, rfl, hF.lay.vl, A, U, S6, rfl, hF, A.yd, A.yx, _, rfl, hF.lay.yd, rfl, _, rfl, _, rfl, ?_⟩
        refine game_num (E := C8.E0) ok hF so1 so2 e3F e4F (by simp) (by simp) (xF.or p (hok p hp)) fun S7 H7 F h7 k7 x7 sl7 lF isF => ?_
        have small := SG.md_small h7.wf
        have n19 := h7.wf.n
        refine ⟨_, rfl, A.vl, _, A.vx, _, _, rfl, h7.lay.vl, t_cls_Values T, t_no_Values__made T, rfl, _, rfl, _, rfl, by show 2 ≤ sizeLine; decide, fun t2 ht2 => ?_⟩
        obtain ⟨h8, k8⟩ := h7.new ht2 (.tup [.int v.t, .int (v.p : Int)])
        have et2 : (upd H7 t2 (.tup [.int v.t, .int (v.p : Int)])) t2 = some (.tup (([Sum.inl v.t, kN v.p] : List Key).map kV)) := upd_same
        generalize upd H7 t2 (.tup [.int v.t, .int (v.p : Int)]) = H8 at h8 k8 et2
        have isF' : IsSum (S7.g F) (form 64 (sc v)) zr := by
          have q : IsSum (S7.g F) p.1.2 p.2.2 := isF
          rw [hz, hv] at q
          exact SG.isSum_symm q
        obtain ⟨h9, k9⟩ := h8.md2 (v := v) (i := F) lF pl (by omega) isF'
        refine ⟨A.MD, _, rfl, DPut.t h8.bk.md et2 (by rw [List.length_map, sizeLine_eq]; omega), ?_⟩
        have e9 : (upd H8 A.MD (.dT (putK (S7.md.map mdE) [Sum.inl v.t, kN v.p] (nV F)))) A.MD = some (.dT (putK (S7.md.map mdE) [Sum.inl v.t, kN v.p] (nV F))) := upd_same
        generalize upd H8 A.MD (.dT (putK (S7.md.map mdE) [Sum.inl v.t, kN v.p] (nV F))) = H9 at h9 k9 e9
        refine ⟨_, rfl, A.vl, _, A.vx, _, _, rfl, h9.lay.vl, t_cls_Values T, t_no_Values__made T, rfl, _, rfl, _, rfl, by show 2 ≤ sizeLine; decide, fun t3 ht3 => ?_⟩
        obtain ⟨h10, k10⟩ := h9.new ht3 (.tup [.int v.t, .int (v.p : Int)])
        have et3 : (upd H9 t3 (.tup [.int v.t, .int (v.p : Int)])) t3 = some (.tup (([Sum.inl v.t, kN v.p] : List Key).map kV)) := upd_same
        have e10 := (same_upd (H := H9) (o := .tup [.int v.t, .int (v.p : Int)]) ht3) _ _ e9
        refine ⟨A.MD, nV F, rfl, ?_, k _ _ F h10 (kF.trans (k7.trans (k8.trans (k9.trans k10)))) (xF.trans (x7.trans (ext_md _ _ _))) (sl7.trans sF) lF isF'⟩
        rw [← val_put (S7.md.map mdE) [Sum.inl v.t, kN v.p] (nV F)]
        exact DGet.t e10 et3
      · rcases Int.lt_trichotomy v.t 0 with ct | ct | ct
        · have cL : ¬ (0 < v.p ∨ 0 < v.t) := by omega
          have cR : 0 < v.p ∨ v.t < 0 := .inr ct
          refine ⟨_, rfl, _, _, rfl, rfl, _, rfl, ?_⟩
          rw [decide_eq_false (show ¬ ((v.p : Nat) : Int) > 0 by omega)]
          refine iteF ⟨_, rfl, _, _, rfl, rfl, _, rfl, ?_⟩
          rw [decide_eq_false (show ¬ v.t > 0 by omega)]
          refine iteF ?_
          refine ⟨_, rfl, _, _, rfl, rfl, _, rfl, ?_⟩
          rw [decide_eq_false (show ¬ ((v.p : Nat) : Int) > 0 by omega)]
          refine iteF ⟨_, rfl, _, _, rfl, rfl, _, rfl, ?_⟩
          rw [decide_eq_true (show v.t < 0 from ct)]
          refine iteT ?_
          have m5 : form 64 (sc (redu (v.t + 1) v.p)) ∈ SG.opt false (form 64 (sc v)) := by
            show _ ∈ (form 64 (sc v)).right
            rw [or', if_pos cR, SG.form_redu (by omega)]
            exact List.mem_singleton.mpr rfl
          obtain ⟨q5, a1, a2, a3, a4, a5, a6, a7⟩ := call false (redu (v.t + 1) v.p) S m5 (Ext.refl S) (SG.redu_p _ _)
          refine ⟨_, rfl, _, _, rfl, rfl, _, rfl, fun d5 dx5 nx ndx nex => ⟨d5, dx5, v.t + 1, v.p, rfl, upd_same, by omega, by omega, by omega, fun Hd5 hd hk => ⟨rfl, ?_⟩⟩⟩
          have sm5 : Same H3 Hd5 := fun b o hb => by
            have nb : b ≠ d5 := ne_of_none hb nx
            exact hk b o (by rw [upd_ne nb, upd_ne (ne_of_none hb ndx)]; exact hb) nb
          have hh5 := h3.same sm5
          obtain ⟨dxx5, ed5, okd5⟩ := id hd
          refine ⟨_, rfl, .inl ⟨rfl, _, SqL.of (sm5 _ _ e4)⟩, ?_⟩
          refine ⟨_, rfl, A.vl, A.vx, _, rfl, hh5.lay.vl, rfl, _, rfl, d5, dxx5, _, rfl, ed5, d5, _, rfl, hd, _, rfl, d5, dxx5, _, rfl, ed5, d5, _, rfl, hd, A, U, S, redu (v.t + 1) v.p, q5, rfl, hh5, ok, SG.redu_plain _ _, a1, a2, a3, a4, a5, a6, a7, fun S5 H5 f5 h5 kk5 xx5 ss5 lf5 is5 => ?_⟩
          have eo5 := kk5 _ _ (sm5 _ _ e4) np4
          have k5 : Keep A H H5 := kA.trans ((Keep.same sm5).trans kk5)
          refine ⟨p4, _, _, rfl, rfl, eo5, by show 0 < sizeLine; decide, ?_⟩
          have x5 : Ext S S5 := (Ext.refl S).trans xx5
          have sl5 : S5.slack = S.slack := ss5.trans rfl
          have hz5 : At P w K A U S5 (upd H5 p4 (.lst (([] : List Nat).map nV ++ [nV f5]))) := h5.lst' eo5 np4 _
          have kz5 : Keep A H (upd H5 p4 (.lst (([] : List Nat).map nV ++ [nV f5]))) := keep_lst k5 kh4
          have ez5 : (upd H5 p4 (.lst (([] : List Nat).map nV ++ [nV f5]))) p4 = some (.lst (([f5] : List Nat).map nV)) := upd_same
          have ey5 : (upd H5 p4 (.lst (([] : List Nat).map nV ++ [nV f5]))) p3 = some (.lst (([] : List Nat).map nV)) := (upd_ne p34).trans (kk5 _ _ (sm5 _ _ e3') np3)
          have so1 : SumOpt S5 p true [] := num_sumopt (us := []) hz hv (by show (form 64 (sc v)).left = _; rw [ol, if_neg cL]) .nil
          have so2 : SumOpt S5 p false [f5] := num_sumopt (us := [form 64 (sc (redu (v.t + 1) v.p))]) hz hv (by show (form 64 (sc v)).right = _; rw [or', if_pos cR, SG.form_redu (by omega)]) (.cons ⟨lf5, is5⟩ .nil)
          have hF := hz5
          have kF := kz5
          have xF : Ext S S5 := x5
          have sF : S5.slack = S.slack := sl5
          have e3F := ey5
          have e4F := ez5
          generalize (upd H5 p4 (.lst (([] : List Nat).map nV ++ [nV f5]))) = HF at hF kF e3F e4F ⊢
          refine ⟨_, rfl, A.vl, A.vx, _, rfl, hF.lay.vl, A, U, S5, rfl, hF, A.yd, A.yx, _, rfl, hF.lay.yd, rfl, _, rfl, _, rfl, ?_⟩
          refine game_num (E := C8.E0) ok hF so1 so2 e3F e4F (by simp) (by simp) (xF.or p (hok p hp)) fun S7 H7 F h7 k7 x7 sl7 lF isF => ?_
          have small := SG.md_small h7.wf
          have n19 := h7.wf.n
          refine ⟨_, rfl, A.vl, _, A.vx, _, _, rfl, h7.lay.vl, t_cls_Values T, t_no_Values__made T, rfl, _, rfl, _, rfl, by show 2 ≤ sizeLine; decide, fun t2 ht2 => ?_⟩
          obtain ⟨h8, k8⟩ := h7.new ht2 (.tup [.int v.t, .int (v.p : Int)])
          have et2 : (upd H7 t2 (.tup [.int v.t, .int (v.p : Int)])) t2 = some (.tup (([Sum.inl v.t, kN v.p] : List Key).map kV)) := upd_same
          generalize upd H7 t2 (.tup [.int v.t, .int (v.p : Int)]) = H8 at h8 k8 et2
          have isF' : IsSum (S7.g F) (form 64 (sc v)) zr := by
            have q : IsSum (S7.g F) p.1.2 p.2.2 := isF
            rw [hz, hv] at q
            exact SG.isSum_symm q
          obtain ⟨h9, k9⟩ := h8.md2 (v := v) (i := F) lF pl (by omega) isF'
          refine ⟨A.MD, _, rfl, DPut.t h8.bk.md et2 (by rw [List.length_map, sizeLine_eq]; omega), ?_⟩
          have e9 : (upd H8 A.MD (.dT (putK (S7.md.map mdE) [Sum.inl v.t, kN v.p] (nV F)))) A.MD = some (.dT (putK (S7.md.map mdE) [Sum.inl v.t, kN v.p] (nV F))) := upd_same
          generalize upd H8 A.MD (.dT (putK (S7.md.map mdE) [Sum.inl v.t, kN v.p] (nV F))) = H9 at h9 k9 e9
          refine ⟨_, rfl, A.vl, _, A.vx, _, _, rfl, h9.lay.vl, t_cls_Values T, t_no_Values__made T, rfl, _, rfl, _, rfl, by show 2 ≤ sizeLine; decide, fun t3 ht3 => ?_⟩
          obtain ⟨h10, k10⟩ := h9.new ht3 (.tup [.int v.t, .int (v.p : Int)])
          have et3 : (upd H9 t3 (.tup [.int v.t, .int (v.p : Int)])) t3 = some (.tup (([Sum.inl v.t, kN v.p] : List Key).map kV)) := upd_same
          have e10 := (same_upd (H := H9) (o := .tup [.int v.t, .int (v.p : Int)]) ht3) _ _ e9
          refine ⟨A.MD, nV F, rfl, ?_, k _ _ F h10 (kF.trans (k7.trans (k8.trans (k9.trans k10)))) (xF.trans (x7.trans (ext_md _ _ _))) (sl7.trans sF) lF isF'⟩
          rw [← val_put (S7.md.map mdE) [Sum.inl v.t, kN v.p] (nV F)]
          exact DGet.t e10 et3
        · have cL : ¬ (0 < v.p ∨ 0 < v.t) := by omega
          have cR : ¬ (0 < v.p ∨ v.t < 0) := by omega
          refine ⟨_, rfl, _, _, rfl, rfl, _, rfl, ?_⟩
          rw [decide_eq_false (show ¬ ((v.p : Nat) : Int) > 0 by omega)]
          refine iteF ⟨_, rfl, _, _, rfl, rfl, _, rfl, ?_⟩
          rw [decide_eq_false (show ¬ v.t > 0 by omega)]
          refine iteF ?_
          refine ⟨_, rfl, _, _, rfl, rfl, _, rfl, ?_⟩
          rw [decide_eq_false (show ¬ ((v.p : Nat) : Int) > 0 by omega)]
          refine iteF ⟨_, rfl, _, _, rfl, rfl, _, rfl, ?_⟩
          rw [decide_eq_false (show ¬ v.t < 0 by omega)]
          refine iteF ?_
          have so1 : SumOpt S p true [] := num_sumopt (us := []) hz hv (by show (form 64 (sc v)).left = _; rw [ol, if_neg cL]) .nil
          have so2 : SumOpt S p false [] := num_sumopt (us := []) hz hv (by show (form 64 (sc v)).right = _; rw [or', if_neg cR]) .nil
          have hF := h3
          have kF := kA
          have xF : Ext S S := (Ext.refl S)
          have sF : S.slack = S.slack := rfl
          have e3F := e3'
          have e4F := e4
          generalize H3 = HF at hF kF e3F e4F ⊢
          refine ⟨_, rfl, A.vl, A.vx, _, rfl, hF.lay.vl, A, U, S, rfl, hF, A.yd, A.yx, _, rfl, hF.lay.yd, rfl, _, rfl, _, rfl, ?_⟩
          refine game_num (E := C8.E0) ok hF so1 so2 e3F e4F (by simp) (by simp) (xF.or p (hok p hp)) fun S7 H7 F h7 k7 x7 sl7 lF isF => ?_
          have small := SG.md_small h7.wf
          have n19 := h7.wf.n
          refine ⟨_, rfl, A.vl, _, A.vx, _, _, rfl, h7.lay.vl, t_cls_Values T, t_no_Values__made T, rfl, _, rfl, _, rfl, by show 2 ≤ sizeLine; decide, fun t2 ht2 => ?_⟩
          obtain ⟨h8, k8⟩ := h7.new ht2 (.tup [.int v.t, .int (v.p : Int)])
          have et2 : (upd H7 t2 (.tup [.int v.t, .int (v.p : Int)])) t2 = some (.tup (([Sum.inl v.t, kN v.p] : List Key).map kV)) := upd_same
          generalize upd H7 t2 (.tup [.int v.t, .int (v.p : Int)]) = H8 at h8 k8 et2
          have isF' : IsSum (S7.g F) (form 64 (sc v)) zr := by
            have q : IsSum (S7.g F) p.1.2 p.2.2 := isF
            rw [hz, hv] at q
            exact SG.isSum_symm q
          obtain ⟨h9, k9⟩ := h8.md2 (v := v) (i := F) lF pl (by omega) isF'
          refine ⟨A.MD, _, rfl, DPut.t h8.bk.md et2 (by rw [List.length_map, sizeLine_eq]; omega), ?_⟩
          have e9 : (upd H8 A.MD (.dT (putK (S7.md.map mdE) [Sum.inl v.t, kN v.p] (nV F)))) A.MD = some (.dT (putK (S7.md.map mdE) [Sum.inl v.t, kN v.p] (nV F))) := upd_same
          generalize upd H8 A.MD (.dT (putK (S7.md.map mdE) [Sum.inl v.t, kN v.p] (nV F))) = H9 at h9 k9 e9
          refine ⟨_, rfl, A.vl, _, A.vx, _, _, rfl, h9.lay.vl, t_cls_Values T, t_no_Values__made T, rfl, _, rfl, _, rfl, by show 2 ≤ sizeLine; decide, fun t3 ht3 => ?_⟩
          obtain ⟨h10, k10⟩ := h9.new ht3 (.tup [.int v.t, .int (v.p : Int)])
          have et3 : (upd H9 t3 (.tup [.int v.t, .int (v.p : Int)])) t3 = some (.tup (([Sum.inl v.t, kN v.p] : List Key).map kV)) := upd_same
          have e10 := (same_upd (H := H9) (o := .tup [.int v.t, .int (v.p : Int)]) ht3) _ _ e9
          refine ⟨A.MD, nV F, rfl, ?_, k _ _ F h10 (kF.trans (k7.trans (k8.trans (k9.trans k10)))) (xF.trans (x7.trans (ext_md _ _ _))) (sl7.trans sF) lF isF'⟩
          rw [← val_put (S7.md.map mdE) [Sum.inl v.t, kN v.p] (nV F)]
          exact DGet.t e10 et3
        · have cL : 0 < v.p ∨ 0 < v.t := .inr ct
          have cR : ¬ (0 < v.p ∨ v.t < 0) := by omega
          refine ⟨_, rfl, _, _, rfl, rfl, _, rfl, ?_⟩
          rw [decide_eq_false (show ¬ ((v.p : Nat) : Int) > 0 by omega)]
          refine iteF ⟨_, rfl, _, _, rfl, rfl, _, rfl, ?_⟩
          rw [decide_eq_true (show v.t > 0 from ct)]
          refine iteT ?_
          have m5 : form 64 (sc (redu (v.t - 1) v.p)) ∈ SG.opt true (form 64 (sc v)) := by
            show _ ∈ (form 64 (sc v)).left
            rw [ol, if_pos cL, SG.form_redu (by omega)]
            exact List.mem_singleton.mpr rfl
          obtain ⟨q5, a1, a2, a3, a4, a5, a6, a7⟩ := call true (redu (v.t - 1) v.p) S m5 (Ext.refl S) (SG.redu_p _ _)
          refine ⟨_, rfl, _, _, rfl, rfl, _, rfl, fun d5 dx5 nx ndx nex => ⟨d5, dx5, v.t - 1, v.p, rfl, upd_same, by omega, by omega, by omega, fun Hd5 hd hk => ⟨rfl, ?_⟩⟩⟩
          have sm5 : Same H3 Hd5 := fun b o hb => by
            have nb : b ≠ d5 := ne_of_none hb nx
            exact hk b o (by rw [upd_ne nb, upd_ne (ne_of_none hb ndx)]; exact hb) nb
          have hh5 := h3.same sm5
          obtain ⟨dxx5, ed5, okd5⟩ := id hd
          refine ⟨_, rfl, .inl ⟨rfl, _, SqL.of (sm5 _ _ e3')⟩, ?_⟩
          refine ⟨_, rfl, A.vl, A.vx, _, rfl, hh5.lay.vl, rfl, _, rfl, d5, dxx5, _, rfl, ed5, d5, _, rfl, hd, _, rfl, d5, dxx5, _, rfl, ed5, d5, _, rfl, hd, A, U, S, redu (v.t - 1) v.p, q5, rfl, hh5, ok, SG.redu_plain _ _, a1, a2, a3, a4, a5, a6, a7, fun S5 H5 f5 h5 kk5 xx5 ss5 lf5 is5 => ?_⟩
          have eo5 := kk5 _ _ (sm5 _ _ e3') np3
          have k5 : Keep A H H5 := kA.trans ((Keep.same sm5).trans kk5)
          refine ⟨p3, _, _, rfl, rfl, eo5, by show 0 < sizeLine; decide, ?_⟩
          have x5 : Ext S S5 := (Ext.refl S).trans xx5
          have sl5 : S5.slack = S.slack := ss5.trans rfl
          have hz5 : At P w K A U S5 (upd H5 p3 (.lst (([] : List Nat).map nV ++ [nV f5]))) := h5.lst' eo5 np3 _
          have kz5 : Keep A H (upd H5 p3 (.lst (([] : List Nat).map nV ++ [nV f5]))) := keep_lst k5 kh3
          have ez5 : (upd H5 p3 (.lst (([] : List Nat).map nV ++ [nV f5]))) p3 = some (.lst (([f5] : List Nat).map nV)) := upd_same
          have ey5 : (upd H5 p3 (.lst (([] : List Nat).map nV ++ [nV f5]))) p4 = some (.lst (([] : List Nat).map nV)) := (upd_ne p34.symm).trans (kk5 _ _ (sm5 _ _ e4) np4)
          refine ⟨_, rfl, _, _, rfl, rfl, _, rfl, ?_⟩
          rw [decide_eq_false (show ¬ ((v.p : Nat) : Int) > 0 by omega)]
          refine iteF ⟨_, rfl, _, _, rfl, rfl, _, rfl, ?_⟩
          rw [decide_eq_false (show ¬ v.t < 0 by omega)]
          refine iteF ?_
          have so1 : SumOpt S5 p true [f5] := num_sumopt (us := [form 64 (sc (redu (v.t - 1) v.p))]) hz hv (by show (form 64 (sc v)).left = _; rw [ol, if_pos cL, SG.form_redu (by omega)]) (.cons ⟨lf5, is5⟩ .nil)
          have so2 : SumOpt S5 p false [] := num_sumopt (us := []) hz hv (by show (form 64 (sc v)).right = _; rw [or', if_neg cR]) .nil
          have hF := hz5
          have kF := kz5
          have xF : Ext S S5 := x5
          have sF : S5.slack = S.slack := sl5
          have e3F := ez5
          have e4F := ey5
          generalize (upd H5 p3 (.lst (([] : List Nat).map nV ++ [nV f5]))) = HF at hF kF e3F e4F ⊢
          refine ⟨_, rfl, A.vl, A.vx, _, rfl, hF.lay.vl, A, U, S5, rfl, hF, A.yd, A.yx, _, rfl, hF.lay.yd, rfl, _, rfl, _, rfl, ?_⟩
          refine game_num (E := C8.E0) ok hF so1 so2 e3F e4F (by simp) (by simp) (xF.or p (hok p hp)) fun S7 H7 F h7 k7 x7 sl7 lF isF => ?_
          have small := SG.md_small h7.wf
          have n19 := h7.wf.n
          refine ⟨_, rfl, A.vl, _, A.vx, _, _, rfl, h7.lay.vl, t_cls_Values T, t_no_Values__made T, rfl, _, rfl, _, rfl, by show 2 ≤ sizeLine; decide, fun t2 ht2 => ?_⟩
          obtain ⟨h8, k8⟩ := h7.new ht2 (.tup [.int v.t, .int (v.p : Int)])
          have et2 : (upd H7 t2 (.tup [.int v.t, .int (v.p : Int)])) t2 = some (.tup (([Sum.inl v.t, kN v.p] : List Key).map kV)) := upd_same
          generalize upd H7 t2 (.tup [.int v.t, .int (v.p : Int)]) = H8 at h8 k8 et2
          have isF' : IsSum (S7.g F) (form 64 (sc v)) zr := by
            have q : IsSum (S7.g F) p.1.2 p.2.2 := isF
            rw [hz, hv] at q
            exact SG.isSum_symm q
          obtain ⟨h9, k9⟩ := h8.md2 (v := v) (i := F) lF pl (by omega) isF'
          refine ⟨A.MD, _, rfl, DPut.t h8.bk.md et2 (by rw [List.length_map, sizeLine_eq]; omega), ?_⟩
          have e9 : (upd H8 A.MD (.dT (putK (S7.md.map mdE) [Sum.inl v.t, kN v.p] (nV F)))) A.MD = some (.dT (putK (S7.md.map mdE) [Sum.inl v.t, kN v.p] (nV F))) := upd_same
          generalize upd H8 A.MD (.dT (putK (S7.md.map mdE) [Sum.inl v.t, kN v.p] (nV F))) = H9 at h9 k9 e9
          refine ⟨_, rfl, A.vl, _, A.vx, _, _, rfl, h9.lay.vl, t_cls_Values T, t_no_Values__made T, rfl, _, rfl, _, rfl, by show 2 ≤ sizeLine; decide, fun t3 ht3 => ?_⟩
          obtain ⟨h10, k10⟩ := h9.new ht3 (.tup [.int v.t, .int (v.p : Int)])
          have et3 : (upd H9 t3 (.tup [.int v.t, .int (v.p : Int)])) t3 = some (.tup (([Sum.inl v.t, kN v.p] : List Key).map kV)) := upd_same
          have e10 := (same_upd (H := H9) (o := .tup [.int v.t, .int (v.p : Int)]) ht3) _ _ e9
          refine ⟨A.MD, nV F, rfl, ?_, k _ _ F h10 (kF.trans (k7.trans (k8.trans (k9.trans k10)))) (xF.trans (x7.trans (ext_md _ _ _))) (sl7.trans sF) lF isF'⟩
          rw [← val_put (S7.md.map mdE) [Sum.inl v.t, kN v.p] (nV F)]
          exact DGet.t e10 et3
theorem m_ofnum : ∀ n : Nat, C8.Met P w K mg base (10 + n) (He.ga K "Values") "_of_number" (spOfNum P w K n) []
  | 0 => by
    refine met_by (k := 9) (t_cls_Values T) (t_me_Values__of_number T) (t_fn_Valuesof_number T) sc_Valuesof_number (fun vs H Q E h => ?_) (fun _ _ _ _ _ _ us hl => match us, hl with | [_, _, _], _ => rfl) (fun cdv A0 outer s H vs Q E hr h => ?_)
    · obtain ⟨A, U, S, v, p, rfl, _⟩ := h
      rfl
    · obtain ⟨A, U, S, v, p, rfl, h, ok, pl, p12, hn, _⟩ := h
      exact absurd hn (Nat.not_lt_zero _)
  | n + 1 => m_ofnum_step T n (m_ofnum n)
end
end K45
end
section
set_option Elab.async false
set_option linter.all false
set_option maxRecDepth 100000
set_option maxHeartbeats 4000000
namespace K45
open PySem PySem.Spec PyProof.Rows L2
open SG (Gs Un UnOk Wf Ext Ex0 gv lf rt optI InC OKp OKr IsP IsSum Pu Dy sc Num Al form stop redu Plain)
def spNumber (P : Program) (w : World) (K : PySem.W.Frag) : Sp := fun vs H Q _ => ∃ (A : Ad) (U : Un) (S : Gs) (d : Addr) (v : Dy) (p : Pu), vs = [.ref A.vl, .ref d] ∧ At P w K A U S H ∧ UnOk U ∧ DyAt K H d v ∧ v.p ≤ 12 ∧ SG.ht (form 64 (sc v)) ≤ 16 ∧ p ∈ U.all ∧ p.1.2 = zr ∧ p.2.2 = form 64 (sc v) ∧ (∀ q ∈ U.all, OKr S q) ∧
  ∀ (S' : Gs) (H' : Hp) (f : Nat), At P w K A U S' H' → Keep A H H' → Ext S S' → S'.slack = S.slack → f < S'.N → IsSum (S'.g f) (form 64 (sc v)) zr → Q (nV f) H'
section
variable (P : Program) (w : World) (K : PySem.W.Frag)
/-- __init__ of an instance at a: what stands elsewhere stays -/
def Rest (a : Addr) (H H' : Hp) : Prop := ∀ c o, H c = some o → c ≠ a → H' c = some o
def spOrderInit : Sp := fun vs H Q _ => ∃ (a dx y : Addr), vs = [.ref a, .ref y] ∧ H a = some (.ins (He.ga K "Order") dx []) ∧ ∀ H' al cw, H al = none → H' al = some (.dT []) → H' a = some (.ins (He.ga K "Order") dx [("_yard", .ref y), ("_at_least", .ref al), ("_can_win", .ref cw)]) → Rest a H H' → Q .non H'
def spFormsInit : Sp := fun vs H Q _ => ∃ (a dx y : Addr), vs = [.ref a, .ref y] ∧ H a = some (.ins (He.ga K "Forms") dx []) ∧ ∀ H' si, H si = none → H' si = some (.dK []) → H' a = some (.ins (He.ga K "Forms") dx [("order", .ref y), ("_simplest", .ref si)]) → Rest a H H' → Q .non H'
def spSumsInit : Sp := fun vs H Q _ => ∃ (a dx y : Addr), vs = [.ref a, .ref y] ∧ H a = some (.ins (He.ga K "Sums") dx []) ∧ ∀ H' si, H si = none → H' si = some (.dT []) → H' a = some (.ins (He.ga K "Sums") dx [("_forms", .ref y), ("_plus", .ref si)]) → Rest a H H' → Q .non H'
def spValuesInit : Sp := fun vs H Q _ => ∃ (a dx y : Addr), vs = [.ref a, .ref y] ∧ H a = some (.ins (He.ga K "Values") dx []) ∧ ∀ H' nu md st, H nu = none → H md = none → H st = none → md ≠ st → H' nu = some (.dK []) → H' md = some (.dT []) → H' st = some (.dT []) →
  H' a = some (.ins (He.ga K "Values") dx [("sums", .ref y), ("_numbers", .ref nu), ("_made", .ref md), ("_stops", .ref st)]) → Rest a H H' → Q .non H'
end
theorem un_none {H : Hp} {a b : Addr} {o : HO} (e : upd H a o b = none) : H b = none ∧ b ≠ a := by
  by_cases q : b = a
  · rw [q, upd_same] at e
    cases e
  · exact ⟨(upd_ne q).symm.trans e, q⟩
section
variable {P : Program} {w : World} {K : PySem.W.Frag} {mg : Str → Option Value} {base : Heap} (T : Tx K mg)
include T
theorem m_number : C8.Met P w K mg base 40 (He.ga K "Values") "number" (spNumber P w K) [] := by
  refine met_by (k := 39) (t_cls_Values T) (t_me_Values_number T) (t_fn_Values_number T) sc_Values_number (fun vs H Q E h => ?_) (fun _ _ _ _ _ _ us hl => match us, hl with | [_, _], _ => rfl) (fun cdv A0 outer s H vs Q E hr h => ?_)
  · obtain ⟨A, U, S, d, v, p, rfl, _⟩ := h
    rfl
  · obtain ⟨A, U, S, d, v, p, rfl, h, ok, hd, p12, h16, hp, hz, hv, hok, k⟩ := h
    have b := SG.num_bound (p := 64) (h := 16) h16 (SG.al_refl _)
    refine ⟨_, pss_cons (ps_set (i := 2) sc_Values_number.nd rfl (.inl rfl) (C8.pe_mk (mk_Dyadic1 T) hr (by decide) (by rfl) (pa_cons (pe_gi (by rfl) (t_int_NUMBER_MOST T)) pa_nil)))
      (pss_cons (ps_if (PW.pt (pw_or (pt_cmpR op_gt (pe_pr (p_power T) hr (by decide) (pv 1)) (pe_gi (by rfl) (t_int_POWER_MOST_values T)) (nomark _))
          (pw_or (pt_val (C8.pe_mt (m_less T) hr (by decide) (pv 2) (pa_cons (pv 1) pa_nil))) (pw_or1 (pt_val (C8.pe_mt (m_less T) hr (by decide) (pv 1) (pa_cons (pe_un (un_own (m_neg T) hr (by decide)) (pv 2)) pa_nil))))))) (pss_one ps_never) pss_nil)
      (pss_one (ps_ret (C8.pe_mt (m_ofnum T 17) hr (by decide) (pv 0) (pa_cons (pe_pr (p_top T) hr (by decide) (pv 1)) (pa_cons (pe_pr (p_power T) hr (by decide) (pv 1)) pa_nil)))))), ?_⟩
    intro x dx nx ndx nex
    refine ⟨x, dx, 64, 0, rfl, upd_same, by decide, by decide, by decide, fun H1 hb hk => ⟨rfl, ?_⟩⟩
    have s1 : Same H H1 := fun b o hb => by
      have nb : b ≠ x := ne_of_none hb nx
      exact hk b o (by rw [upd_ne nb, upd_ne (ne_of_none hb ndx)]; exact hb) nb
    have h1 := h.same s1
    have hd1 := hd.mono fun o e => s1 _ _ e
    obtain ⟨vx, ev, okv⟩ := id hd1
    obtain ⟨bx, eb, okb⟩ := id hb
    have sb : sc (redu 64 0) = 2 ^ 64 * 64 := rfl
    refine ⟨_, rfl, d, vx, _, rfl, ev, d, v, rfl, hd1, _, _, rfl, rfl, _, rfl, ?_⟩
    rw [decide_eq_false (show ¬ ((v.p : Nat) : Int) > 12 by omega)]
    refine iteF ⟨_, rfl, x, bx, _, rfl, eb, rfl, _, rfl, x, d, _, v, rfl, hb, hd1, _, rfl, ?_⟩
    rw [decide_eq_false (show ¬ sc (redu 64 0) < sc v by rw [sb]; have := b.1; omega)]
    refine iteF ⟨_, rfl, d, vx, _, rfl, ev, rfl, _, rfl, x, bx, _, rfl, eb, x, _, rfl, hb, fun H2 e2 he2 s2 => ?_⟩
    have h2 := h1.same s2
    have hd2 := hd1.mono fun o e => s2 _ _ e
    obtain ⟨vx2, ev2, _⟩ := id hd2
    refine ⟨d, e2, v, _, rfl, hd2, he2, _, rfl, ?_⟩
    rw [decide_eq_false (show ¬ sc v < sc (negD (redu 64 0)) by rw [negD_sc, sb]; have := b.2; omega)]
    refine iteF ⟨_, rfl, A.vl, A.vx, _, rfl, h2.lay.vl, rfl, _, rfl, d, vx2, _, rfl, ev2, d, v, rfl, hd2, _, rfl, d, vx2, _, rfl, ev2, d, v, rfl, hd2, A, U, S, v, p, rfl, h2, ok, okv.pl, p12, by omega, h16, hp, hz, hv, hok, fun S' H' f a b c => k S' H' f a ((Keep.same (fun c o e => s2 c o (s1 c o e))).trans b) c⟩
theorem mk_Order : C8.Mak P w K mg base 2 "Order" (He.ga K "Order") (spOrderInit K) [] := by
  refine mak_by (t_mkr_Order T) (t_glo_Order T) (t_fn_Order_init T) sc_Order_init (fun vs H Q E h => ?_) (fun _ _ _ _ _ _ us hl => match us, hl with | [_, _], _ => rfl) (fun cdv A0 outer s H vs Q E hr h => ?_)
  · obtain ⟨a, dx, y, rfl, _⟩ := h
    rfl
  · obtain ⟨a, dx, y, rfl, ha, k⟩ := h
    refine ⟨_, pss_cons (ps_fld (pv 0) (pv 1) rfl) (pss_cons (ps_fld (pv 0) pe_dnewT rfl) (pss_one (ps_fld (pv 0) pe_dnewT rfl))), ?_⟩
    refine ⟨_, rfl, _, rfl, a, _, dx, _, rfl, ha, t_cls_Order T, t_no_Order__yard T, by show 0 < 1000; decide, ?_⟩
    have a0 : (upd H a (.ins (He.ga K "Order") dx (putF "_yard" (.ref y) []))) a = some (.ins (He.ga K "Order") dx [("_yard", .ref y)]) := upd_same
    have r0 : Rest a H (upd H a (.ins (He.ga K "Order") dx (putF "_yard" (.ref y) []))) := fun c o e n => (upd_ne n).trans e
    have z0 : ∀ c, (upd H a (.ins (He.ga K "Order") dx (putF "_yard" (.ref y) []))) c = none → H c = none ∧ c ≠ a := fun c e => un_none e
    generalize (upd H a (.ins (He.ga K "Order") dx (putF "_yard" (.ref y) []))) = H0 at a0 r0 z0 ⊢
    intro d0 n0
    have a0' : (upd H0 d0 (.dT [])) a = some (.ins (He.ga K "Order") dx [("_yard", .ref y)]) := (upd_ne (ne_of_none a0 n0)).trans a0
    refine ⟨_, rfl, a, _, dx, _, rfl, a0', t_cls_Order T, t_no_Order__at_least T, by show 1 < 1000; decide, ?_⟩
    have a1 : (upd (upd H0 d0 (.dT [])) a (.ins (He.ga K "Order") dx (putF "_at_least" (.ref d0) [("_yard", .ref y)]))) a = some (.ins (He.ga K "Order") dx [("_yard", .ref y), ("_at_least", .ref d0)]) := upd_same
    obtain ⟨w0, v0⟩ := z0 d0 n0
    have e0 : (upd (upd H0 d0 (.dT [])) a (.ins (He.ga K "Order") dx (putF "_at_least" (.ref d0) [("_yard", .ref y)]))) d0 = some (.dT []) := (upd_ne v0).trans upd_same
    have r1 : Rest a H (upd (upd H0 d0 (.dT [])) a (.ins (He.ga K "Order") dx (putF "_at_least" (.ref d0) [("_yard", .ref y)]))) := fun c o e n => (upd_ne n).trans ((upd_ne (ne_of_none (r0 c o e n) n0)).trans (r0 c o e n))
    have z1 : ∀ c, (upd (upd H0 d0 (.dT [])) a (.ins (He.ga K "Order") dx (putF "_at_least" (.ref d0) [("_yard", .ref y)]))) c = none → H c = none ∧ c ≠ a := fun c e => z0 c (un_none (un_none e).1).1
    generalize (upd (upd H0 d0 (.dT [])) a (.ins (He.ga K "Order") dx (putF "_at_least" (.ref d0) [("_yard", .ref y)]))) = H1 at a1 r1 z1 e0 ⊢
    have o0 := e0
    intro d1 n1
    have a1' : (upd H1 d1 (.dT [])) a = some (.ins (He.ga K "Order") dx [("_yard", .ref y), ("_at_least", .ref d0)]) := (upd_ne (ne_of_none a1 n1)).trans a1
    refine ⟨_, rfl, a, _, dx, _, rfl, a1', t_cls_Order T, t_no_Order__can_win T, by show 2 < 1000; decide, ?_⟩
    have a2 : (upd (upd H1 d1 (.dT [])) a (.ins (He.ga K "Order") dx (putF "_can_win" (.ref d1) [("_yard", .ref y), ("_at_least", .ref d0)]))) a = some (.ins (He.ga K "Order") dx [("_yard", .ref y), ("_at_least", .ref d0), ("_can_win", .ref d1)]) := upd_same
    obtain ⟨w1, v1⟩ := z1 d1 n1
    have e1 : (upd (upd H1 d1 (.dT [])) a (.ins (He.ga K "Order") dx (putF "_can_win" (.ref d1) [("_yard", .ref y), ("_at_least", .ref d0)]))) d1 = some (.dT []) := (upd_ne v1).trans upd_same
    have e0 : (upd (upd H1 d1 (.dT [])) a (.ins (He.ga K "Order") dx (putF "_can_win" (.ref d1) [("_yard", .ref y), ("_at_least", .ref d0)]))) d0 = some (.dT []) := (upd_ne v0).trans ((upd_ne (ne_of_none e0 n1)).trans e0)
    have q01 : d0 ≠ d1 := fun z => by rw [← z] at n1; rw [o0] at n1; cases n1
    have r2 : Rest a H (upd (upd H1 d1 (.dT [])) a (.ins (He.ga K "Order") dx (putF "_can_win" (.ref d1) [("_yard", .ref y), ("_at_least", .ref d0)]))) := fun c o e n => (upd_ne n).trans ((upd_ne (ne_of_none (r1 c o e n) n1)).trans (r1 c o e n))
    have z2 : ∀ c, (upd (upd H1 d1 (.dT [])) a (.ins (He.ga K "Order") dx (putF "_can_win" (.ref d1) [("_yard", .ref y), ("_at_least", .ref d0)]))) c = none → H c = none ∧ c ≠ a := fun c e => z1 c (un_none (un_none e).1).1
    generalize (upd (upd H1 d1 (.dT [])) a (.ins (He.ga K "Order") dx (putF "_can_win" (.ref d1) [("_yard", .ref y), ("_at_least", .ref d0)]))) = H2 at a2 r2 z2 e0 e1 ⊢
    have o0 := e0
    have o1 := e1
    exact k H2 d0 d1 w0 e0 a2 r2
theorem mk_Forms : C8.Mak P w K mg base 2 "Forms" (He.ga K "Forms") (spFormsInit K) [] := by
  refine mak_by (t_mkr_Forms T) (t_glo_Forms T) (t_fn_Forms_init T) sc_Forms_init (fun vs H Q E h => ?_) (fun _ _ _ _ _ _ us hl => match us, hl with | [_, _], _ => rfl) (fun cdv A0 outer s H vs Q E hr h => ?_)
  · obtain ⟨a, dx, y, rfl, _⟩ := h
    rfl
  · obtain ⟨a, dx, y, rfl, ha, k⟩ := h
    refine ⟨_, pss_cons (ps_fld (pv 0) (pv 1) rfl) (pss_one (ps_fld (pv 0) pe_dnewK rfl)), ?_⟩
    refine ⟨_, rfl, _, rfl, a, _, dx, _, rfl, ha, t_cls_Forms T, t_no_Forms_order T, by show 0 < 1000; decide, ?_⟩
    have a0 : (upd H a (.ins (He.ga K "Forms") dx (putF "order" (.ref y) []))) a = some (.ins (He.ga K "Forms") dx [("order", .ref y)]) := upd_same
    have r0 : Rest a H (upd H a (.ins (He.ga K "Forms") dx (putF "order" (.ref y) []))) := fun c o e n => (upd_ne n).trans e
    have z0 : ∀ c, (upd H a (.ins (He.ga K "Forms") dx (putF "order" (.ref y) []))) c = none → H c = none ∧ c ≠ a := fun c e => un_none e
    generalize (upd H a (.ins (He.ga K "Forms") dx (putF "order" (.ref y) []))) = H0 at a0 r0 z0 ⊢
    intro d0 n0
    have a0' : (upd H0 d0 (.dK [])) a = some (.ins (He.ga K "Forms") dx [("order", .ref y)]) := (upd_ne (ne_of_none a0 n0)).trans a0
    refine ⟨_, rfl, a, _, dx, _, rfl, a0', t_cls_Forms T, t_no_Forms__simplest T, by show 1 < 1000; decide, ?_⟩
    have a1 : (upd (upd H0 d0 (.dK [])) a (.ins (He.ga K "Forms") dx (putF "_simplest" (.ref d0) [("order", .ref y)]))) a = some (.ins (He.ga K "Forms") dx [("order", .ref y), ("_simplest", .ref d0)]) := upd_same
    obtain ⟨w0, v0⟩ := z0 d0 n0
    have e0 : (upd (upd H0 d0 (.dK [])) a (.ins (He.ga K "Forms") dx (putF "_simplest" (.ref d0) [("order", .ref y)]))) d0 = some (.dK []) := (upd_ne v0).trans upd_same
    have r1 : Rest a H (upd (upd H0 d0 (.dK [])) a (.ins (He.ga K "Forms") dx (putF "_simplest" (.ref d0) [("order", .ref y)]))) := fun c o e n => (upd_ne n).trans ((upd_ne (ne_of_none (r0 c o e n) n0)).trans (r0 c o e n))
    have z1 : ∀ c, (upd (upd H0 d0 (.dK [])) a (.ins (He.ga K "Forms") dx (putF "_simplest" (.ref d0) [("order", .ref y)]))) c = none → H c = none ∧ c ≠ a := fun c e => z0 c (un_none (un_none e).1).1
    generalize (upd (upd H0 d0 (.dK [])) a (.ins (He.ga K "Forms") dx (putF "_simplest" (.ref d0) [("order", .ref y)]))) = H1 at a1 r1 z1 e0 ⊢
    have o0 := e0
    exact k H1 d0 w0 e0 a1 r1
theorem mk_Sums : C8.Mak P w K mg base 2 "Sums" (He.ga K "Sums") (spSumsInit K) [] := by
  refine mak_by (t_mkr_Sums T) (t_glo_Sums T) (t_fn_Sums_init T) sc_Sums_init (fun vs H Q E h => ?_) (fun _ _ _ _ _ _ us hl => match us, hl with | [_, _], _ => rfl) (fun cdv A0 outer s H vs Q E hr h => ?_)
  · obtain ⟨a, dx, y, rfl, _⟩ := h
    rfl
  · obtain ⟨a, dx, y, rfl, ha, k⟩ := h
    refine ⟨_, pss_cons (ps_fld (pv 0) (pv 1) rfl) (pss_one (ps_fld (pv 0) pe_dnewT rfl)), ?_⟩
    refine ⟨_, rfl, _, rfl, a, _, dx, _, rfl, ha, t_cls_Sums T, t_no_Sums__forms T, by show 0 < 1000; decide, ?_⟩
    have a0 : (upd H a (.ins (He.ga K "Sums") dx (putF "_forms" (.ref y) []))) a = some (.ins (He.ga K "Sums") dx [("_forms", .ref y)]) := upd_same
    have r0 : Rest a H (upd H a (.ins (He.ga K "Sums") dx (putF "_forms" (.ref y) []))) := fun c o e n => (upd_ne n).trans e
    have z0 : ∀ c, (upd H a (.ins (He.ga K "Sums") dx (putF "_forms" (.ref y) []))) c = none → H c = none ∧ c ≠ a := fun c e => un_none e
    generalize (upd H a (.ins (He.ga K "Sums") dx (putF "_forms" (.ref y) []))) = H0 at a0 r0 z0 ⊢
    intro d0 n0
    have a0' : (upd H0 d0 (.dT [])) a = some (.ins (He.ga K "Sums") dx [("_forms", .ref y)]) := (upd_ne (ne_of_none a0 n0)).trans a0
    refine ⟨_, rfl, a, _, dx, _, rfl, a0', t_cls_Sums T, t_no_Sums__plus T, by show 1 < 1000; decide, ?_⟩
    have a1 : (upd (upd H0 d0 (.dT [])) a (.ins (He.ga K "Sums") dx (putF "_plus" (.ref d0) [("_forms", .ref y)]))) a = some (.ins (He.ga K "Sums") dx [("_forms", .ref y), ("_plus", .ref d0)]) := upd_same
    obtain ⟨w0, v0⟩ := z0 d0 n0
    have e0 : (upd (upd H0 d0 (.dT [])) a (.ins (He.ga K "Sums") dx (putF "_plus" (.ref d0) [("_forms", .ref y)]))) d0 = some (.dT []) := (upd_ne v0).trans upd_same
    have r1 : Rest a H (upd (upd H0 d0 (.dT [])) a (.ins (He.ga K "Sums") dx (putF "_plus" (.ref d0) [("_forms", .ref y)]))) := fun c o e n => (upd_ne n).trans ((upd_ne (ne_of_none (r0 c o e n) n0)).trans (r0 c o e n))
    have z1 : ∀ c, (upd (upd H0 d0 (.dT [])) a (.ins (He.ga K "Sums") dx (putF "_plus" (.ref d0) [("_forms", .ref y)]))) c = none → H c = none ∧ c ≠ a := fun c e => z0 c (un_none (un_none e).1).1
    generalize (upd (upd H0 d0 (.dT [])) a (.ins (He.ga K "Sums") dx (putF "_plus" (.ref d0) [("_forms", .ref y)]))) = H1 at a1 r1 z1 e0 ⊢
    have o0 := e0
    exact k H1 d0 w0 e0 a1 r1
theorem mk_Values : C8.Mak P w K mg base 2 "Values" (He.ga K "Values") (spValuesInit K) [] := by
  refine mak_by (t_mkr_Values T) (t_glo_Values T) (t_fn_Values_init T) sc_Values_init (fun vs H Q E h => ?_) (fun _ _ _ _ _ _ us hl => match us, hl with | [_, _], _ => rfl) (fun cdv A0 outer s H vs Q E hr h => ?_)
  · obtain ⟨a, dx, y, rfl, _⟩ := h
    rfl
  · obtain ⟨a, dx, y, rfl, ha, k⟩ := h
    refine ⟨_, pss_cons (ps_fld (pv 0) (pv 1) rfl) (pss_cons (ps_fld (pv 0) pe_dnewK rfl) (pss_cons (ps_fld (pv 0) pe_dnewT rfl) (pss_one (ps_fld (pv 0) pe_dnewT rfl)))), ?_⟩
    refine ⟨_, rfl, _, rfl, a, _, dx, _, rfl, ha, t_cls_Values T, t_no_Values_sums T, by show 0 < 1000; decide, ?_⟩
    have a0 : (upd H a (.ins (He.ga K "Values") dx (putF "sums" (.ref y) []))) a = some (.ins (He.ga K "Values") dx [("sums", .ref y)]) := upd_same
    have r0 : Rest a H (upd H a (.ins (He.ga K "Values") dx (putF "sums" (.ref y) []))) := fun c o e n => (upd_ne n).trans e
    have z0 : ∀ c, (upd H a (.ins (He.ga K "Values") dx (putF "sums" (.ref y) []))) c = none → H c = none ∧ c ≠ a := fun c e => un_none e
    generalize (upd H a (.ins (He.ga K "Values") dx (putF "sums" (.ref y) []))) = H0 at a0 r0 z0 ⊢
    intro d0 n0
    have a0' : (upd H0 d0 (.dK [])) a = some (.ins (He.ga K "Values") dx [("sums", .ref y)]) := (upd_ne (ne_of_none a0 n0)).trans a0
    refine ⟨_, rfl, a, _, dx, _, rfl, a0', t_cls_Values T, t_no_Values__numbers T, by show 1 < 1000; decide, ?_⟩
    have a1 : (upd (upd H0 d0 (.dK [])) a (.ins (He.ga K "Values") dx (putF "_numbers" (.ref d0) [("sums", .ref y)]))) a = some (.ins (He.ga K "Values") dx [("sums", .ref y), ("_numbers", .ref d0)]) := upd_same
    obtain ⟨w0, v0⟩ := z0 d0 n0
    have e0 : (upd (upd H0 d0 (.dK [])) a (.ins (He.ga K "Values") dx (putF "_numbers" (.ref d0) [("sums", .ref y)]))) d0 = some (.dK []) := (upd_ne v0).trans upd_same
    have r1 : Rest a H (upd (upd H0 d0 (.dK [])) a (.ins (He.ga K "Values") dx (putF "_numbers" (.ref d0) [("sums", .ref y)]))) := fun c o e n => (upd_ne n).trans ((upd_ne (ne_of_none (r0 c o e n) n0)).trans (r0 c o e n))
    have z1 : ∀ c, (upd (upd H0 d0 (.dK [])) a (.ins (He.ga K "Values") dx (putF "_numbers" (.ref d0) [("sums", .ref y)]))) c = none → H c = none ∧ c ≠ a := fun c e => z0 c (un_none (un_none e).1).1
    generalize (upd (upd H0 d0 (.dK [])) a (.ins (He.ga K "Values") dx (putF "_numbers" (.ref d0) [("sums", .ref y)]))) = H1 at a1 r1 z1 e0 ⊢
    have o0 := e0
    intro d1 n1
    have a1' : (upd H1 d1 (.dT [])) a = some (.ins (He.ga K "Values") dx [("sums", .ref y), ("_numbers", .ref d0)]) := (upd_ne (ne_of_none a1 n1)).trans a1
    refine ⟨_, rfl, a, _, dx, _, rfl, a1', t_cls_Values T, t_no_Values__made T, by show 2 < 1000; decide, ?_⟩
    have a2 : (upd (upd H1 d1 (.dT [])) a (.ins (He.ga K "Values") dx (putF "_made" (.ref d1) [("sums", .ref y), ("_numbers", .ref d0)]))) a = some (.ins (He.ga K "Values") dx [("sums", .ref y), ("_numbers", .ref d0), ("_made", .ref d1)]) := upd_same
    obtain ⟨w1, v1⟩ := z1 d1 n1
    have e1 : (upd (upd H1 d1 (.dT [])) a (.ins (He.ga K "Values") dx (putF "_made" (.ref d1) [("sums", .ref y), ("_numbers", .ref d0)]))) d1 = some (.dT []) := (upd_ne v1).trans upd_same
    have e0 : (upd (upd H1 d1 (.dT [])) a (.ins (He.ga K "Values") dx (putF "_made" (.ref d1) [("sums", .ref y), ("_numbers", .ref d0)]))) d0 = some (.dK []) := (upd_ne v0).trans ((upd_ne (ne_of_none e0 n1)).trans e0)
    have q01 : d0 ≠ d1 := fun z => by rw [← z] at n1; rw [o0] at n1; cases n1
    have r2 : Rest a H (upd (upd H1 d1 (.dT [])) a (.ins (He.ga K "Values") dx (putF "_made" (.ref d1) [("sums", .ref y), ("_numbers", .ref d0)]))) := fun c o e n => (upd_ne n).trans ((upd_ne (ne_of_none (r1 c o e n) n1)).trans (r1 c o e n))
    have z2 : ∀ c, (upd (upd H1 d1 (.dT [])) a (.ins (He.ga K "Values") dx (putF "_made" (.ref d1) [("sums", .ref y), ("_numbers", .ref d0)]))) c = none → H c = none ∧ c ≠ a := fun c e => z1 c (un_none (un_none e).1).1
    generalize (upd (upd H1 d1 (.dT [])) a (.ins (He.ga K "Values") dx (putF "_made" (.ref d1) [("sums", .ref y), ("_numbers", .ref d0)]))) = H2 at a2 r2 z2 e0 e1 ⊢
    have o0 := e0
    have o1 := e1
    intro d2 n2
    have a2' : (upd H2 d2 (.dT [])) a = some (.ins (He.ga K "Values") dx [("sums", .ref y), ("_numbers", .ref d0), ("_made", .ref d1)]) := (upd_ne (ne_of_none a2 n2)).trans a2
    refine ⟨_, rfl, a, _, dx, _, rfl, a2', t_cls_Values T, t_no_Values__stops T, by show 3 < 1000; decide, ?_⟩
    have a3 : (upd (upd H2 d2 (.dT [])) a (.ins (He.ga K "Values") dx (putF "_stops" (.ref d2) [("sums", .ref y), ("_numbers", .ref d0), ("_made", .ref d1)]))) a = some (.ins (He.ga K "Values") dx [("sums", .ref y), ("_numbers", .ref d0), ("_made", .ref d1), ("_stops", .ref d2)]) := upd_same
    obtain ⟨w2, v2⟩ := z2 d2 n2
    have e2 : (upd (upd H2 d2 (.dT [])) a (.ins (He.ga K "Values") dx (putF "_stops" (.ref d2) [("sums", .ref y), ("_numbers", .ref d0), ("_made", .ref d1)]))) d2 = some (.dT []) := (upd_ne v2).trans upd_same
    have e0 : (upd (upd H2 d2 (.dT [])) a (.ins (He.ga K "Values") dx (putF "_stops" (.ref d2) [("sums", .ref y), ("_numbers", .ref d0), ("_made", .ref d1)]))) d0 = some (.dK []) := (upd_ne v0).trans ((upd_ne (ne_of_none e0 n2)).trans e0)
    have q02 : d0 ≠ d2 := fun z => by rw [← z] at n2; rw [o0] at n2; cases n2
    have e1 : (upd (upd H2 d2 (.dT [])) a (.ins (He.ga K "Values") dx (putF "_stops" (.ref d2) [("sums", .ref y), ("_numbers", .ref d0), ("_made", .ref d1)]))) d1 = some (.dT []) := (upd_ne v1).trans ((upd_ne (ne_of_none e1 n2)).trans e1)
    have q12 : d1 ≠ d2 := fun z => by rw [← z] at n2; rw [o1] at n2; cases n2
    have r3 : Rest a H (upd (upd H2 d2 (.dT [])) a (.ins (He.ga K "Values") dx (putF "_stops" (.ref d2) [("sums", .ref y), ("_numbers", .ref d0), ("_made", .ref d1)]))) := fun c o e n => (upd_ne n).trans ((upd_ne (ne_of_none (r2 c o e n) n2)).trans (r2 c o e n))
    have z3 : ∀ c, (upd (upd H2 d2 (.dT [])) a (.ins (He.ga K "Values") dx (putF "_stops" (.ref d2) [("sums", .ref y), ("_numbers", .ref d0), ("_made", .ref d1)]))) c = none → H c = none ∧ c ≠ a := fun c e => z2 c (un_none (un_none e).1).1
    generalize (upd (upd H2 d2 (.dT [])) a (.ins (He.ga K "Values") dx (putF "_stops" (.ref d2) [("sums", .ref y), ("_numbers", .ref d0), ("_made", .ref d1)]))) = H3 at a3 r3 z3 e0 e1 e2 ⊢
    have o0 := e0
    have o1 := e1
    have o2 := e2
    exact k H3 d0 d1 d2 w0 w1 w2 q12 e0 e1 e2 a3 r3
end
end K45
end
section
set_option Elab.async false
set_option linter.all false
set_option maxRecDepth 100000
set_option maxHeartbeats 4000000
namespace K45
open PySem PySem.Spec PyProof.Rows L2
open SG (Gs Un UnOk Wf Ext Ex0 gv lf rt optI InC OKp OKr IsP IsSum Pu Nd)
abbrev ns0 : List Nd := [⟨[], [], SG.zero⟩]
theorem ht_zero : SG.ht SG.zero = 0 := Nat.le_zero.mp (SG.ht_le (fun x hx => by cases hx) fun x hx => by cases hx)
def spYardInit (P : Program) (w : World) (K : PySem.W.Frag) : Sp := fun vs H Q _ => ∃ (a dx : Addr), vs = [.ref a] ∧ H a = some (.ins (cY K) dx []) ∧ ∀ H' L R HH NM TN, H L = none → H R = none → H HH = none → H NM = none → L ≠ R → L ≠ HH → R ≠ HH → Rows H' L ns0 true → Rows H' R ns0 false → H' HH = some (.lst (hhL ns0)) → NDict P w H' NM (nmK ns0) →
  H' a = some (.ins (cY K) dx [("_lefts", .ref L), ("_rights", .ref R), ("_heights", .ref HH), ("_numbers", .ref NM), ("_turned", .ref TN)]) → Rest a H H' → Q .non H'
section
variable {P : Program} {w : World} {K : PySem.W.Frag} {mg : Str → Option Value} {base : Heap} (T : Tx K mg)
include T
theorem mk_Yard : C8.Mak P w K mg base 2 "Yard" (cY K) (spYardInit P w K) [] := by
  refine mak_by (t_mkr_Yard T) (t_glo_Yard T) (t_fn_Yard_init T) sc_Yard_init (fun vs H Q E h => ?_) (fun _ _ _ _ _ _ us hl => match us, hl with | [_], _ => rfl) (fun cdv A0 outer s H vs Q E hr h => ?_)
  · obtain ⟨a, dx, rfl, _⟩ := h
    rfl
  · obtain ⟨a, dx, rfl, ha, k⟩ := h
    refine ⟨_, pss_cons (ps_fld (pv 0) (pe_lst (pa_cons (pe_tup pa_nil) pa_nil)) rfl) (pss_cons (ps_fld (pv 0) (pe_lst (pa_cons (pe_tup pa_nil) pa_nil)) rfl) (pss_cons (ps_fld (pv 0) (pe_lst (pa_cons pe_int pa_nil)) rfl)
      (pss_cons (ps_fld (pv 0) (pe_ndisp hr.units (pe_tup (pa_cons (pe_tup pa_nil) (pa_cons (pe_tup pa_nil) pa_nil))) pe_int) rfl) (pss_one (ps_fld (pv 0) (pe_disp (pps_cons pe_int pe_int pps_nil) (by rfl) (by rfl) (fun z => by cases z) (by decide)) rfl))))), ?_⟩
    -- lefts
    refine ⟨by show 0 ≤ sizeLine; decide, fun t0 ht0 => ⟨by show 1 ≤ sizeLine; decide, fun L hL => ?_⟩⟩
    obtain ⟨hL1, lt0⟩ := un_none hL
    have aL : (upd (upd H t0 (.tup [])) L (.lst [.ref t0])) a = some (.ins (cY K) dx []) := (upd_ne (ne_of_none ((upd_ne (ne_of_none ha ht0)).trans ha) hL)).trans ((upd_ne (ne_of_none ha ht0)).trans ha)
    have na_t0 : t0 ≠ a := fun z => by rw [z, ha] at ht0; cases ht0
    have na_L : L ≠ a := fun z => by rw [z, ha] at hL1; cases hL1
    refine ⟨_, rfl, a, _, dx, _, rfl, aL, t_cls_Yard T, t_no_Yard__lefts T, by show 0 < 1000; decide, ?_⟩
    have a1 : (upd (upd (upd H t0 (.tup [])) L (.lst [.ref t0])) a (.ins (cY K) dx (putF "_lefts" (.ref L) []))) a = some (.ins (cY K) dx [("_lefts", .ref L)]) := upd_same
    have r1 : Rest a H (upd (upd (upd H t0 (.tup [])) L (.lst [.ref t0])) a (.ins (cY K) dx (putF "_lefts" (.ref L) []))) := fun c o e n => (upd_ne n).trans ((upd_ne (ne_of_none ((upd_ne (ne_of_none e ht0)).trans e) hL)).trans ((upd_ne (ne_of_none e ht0)).trans e))
    have z1 : ∀ c, (upd (upd (upd H t0 (.tup [])) L (.lst [.ref t0])) a (.ins (cY K) dx (putF "_lefts" (.ref L) []))) c = none → H c = none ∧ c ≠ a := fun c e => ⟨(un_none (un_none (un_none e).1).1).1, (un_none e).2⟩
    have eL : (upd (upd (upd H t0 (.tup [])) L (.lst [.ref t0])) a (.ins (cY K) dx (putF "_lefts" (.ref L) []))) L = some (.lst [.ref t0]) := (upd_ne na_L).trans upd_same
    have et0 : (upd (upd (upd H t0 (.tup [])) L (.lst [.ref t0])) a (.ins (cY K) dx (putF "_lefts" (.ref L) []))) t0 = some (.tup []) := (upd_ne na_t0).trans ((upd_ne lt0.symm).trans upd_same)
    generalize (upd (upd (upd H t0 (.tup [])) L (.lst [.ref t0])) a (.ins (cY K) dx (putF "_lefts" (.ref L) []))) = H1 at a1 r1 z1 eL et0 ⊢
    -- rights
    refine ⟨by show 0 ≤ sizeLine; decide, fun t1 ht1 => ⟨by show 1 ≤ sizeLine; decide, fun R hR => ?_⟩⟩
    obtain ⟨hR1, rt1⟩ := un_none hR
    have nt1 := ne_of_none (H := H1) (a := a) a1 ht1
    have aR : (upd (upd H1 t1 (.tup [])) R (.lst [.ref t1])) a = some (.ins (cY K) dx [("_lefts", .ref L)]) := (upd_ne (ne_of_none ((upd_ne (ne_of_none a1 ht1)).trans a1) hR)).trans ((upd_ne (ne_of_none a1 ht1)).trans a1)
    refine ⟨_, rfl, a, _, dx, _, rfl, aR, t_cls_Yard T, t_no_Yard__rights T, by show 1 < 1000; decide, ?_⟩
    have nL : L ≠ R := ne_of_none eL hR1
    have a2 : (upd (upd (upd H1 t1 (.tup [])) R (.lst [.ref t1])) a (.ins (cY K) dx (putF "_rights" (.ref R) [("_lefts", .ref L)]))) a = some (.ins (cY K) dx [("_lefts", .ref L), ("_rights", .ref R)]) := upd_same
    have s2 : Rest a H1 (upd (upd (upd H1 t1 (.tup [])) R (.lst [.ref t1])) a (.ins (cY K) dx (putF "_rights" (.ref R) [("_lefts", .ref L)]))) := fun c o e n => (upd_ne n).trans ((upd_ne (ne_of_none ((upd_ne (ne_of_none e ht1)).trans e) hR)).trans ((upd_ne (ne_of_none e ht1)).trans e))
    have z2 : ∀ c, (upd (upd (upd H1 t1 (.tup [])) R (.lst [.ref t1])) a (.ins (cY K) dx (putF "_rights" (.ref R) [("_lefts", .ref L)]))) c = none → H1 c = none ∧ c ≠ a := fun c e => ⟨(un_none (un_none (un_none e).1).1).1, (un_none e).2⟩
    obtain ⟨ht1H, t1a⟩ := z1 _ ht1
    obtain ⟨hRH, Ra⟩ := z1 _ hR1
    have eR : (upd (upd (upd H1 t1 (.tup [])) R (.lst [.ref t1])) a (.ins (cY K) dx (putF "_rights" (.ref R) [("_lefts", .ref L)]))) R = some (.lst [.ref t1]) := (upd_ne Ra).trans upd_same
    have et1 : (upd (upd (upd H1 t1 (.tup [])) R (.lst [.ref t1])) a (.ins (cY K) dx (putF "_rights" (.ref R) [("_lefts", .ref L)]))) t1 = some (.tup []) := (upd_ne t1a).trans ((upd_ne rt1.symm).trans upd_same)
    generalize (upd (upd (upd H1 t1 (.tup [])) R (.lst [.ref t1])) a (.ins (cY K) dx (putF "_rights" (.ref R) [("_lefts", .ref L)]))) = H2 at a2 s2 z2 eR et1 ⊢
    have eL2 := s2 _ _ eL na_L
    have et02 := s2 _ _ et0 na_t0
    -- heights
    refine ⟨by show 1 ≤ sizeLine; decide, fun HH hH => ?_⟩
    have aH : (upd H2 HH (.lst [.int 0])) a = some (.ins (cY K) dx [("_lefts", .ref L), ("_rights", .ref R)]) := (upd_ne (ne_of_none a2 hH)).trans a2
    refine ⟨_, rfl, a, _, dx, _, rfl, aH, t_cls_Yard T, t_no_Yard__heights T, by show 2 < 1000; decide, ?_⟩
    have a3 : (upd (upd H2 HH (.lst [.int 0])) a (.ins (cY K) dx (putF "_heights" (.ref HH) [("_lefts", .ref L), ("_rights", .ref R)]))) a = some (.ins (cY K) dx [("_lefts", .ref L), ("_rights", .ref R), ("_heights", .ref HH)]) := upd_same
    have s3 : Rest a H2 (upd (upd H2 HH (.lst [.int 0])) a (.ins (cY K) dx (putF "_heights" (.ref HH) [("_lefts", .ref L), ("_rights", .ref R)]))) := fun c o e n => (upd_ne n).trans ((upd_ne (ne_of_none e hH)).trans e)
    have z3 : ∀ c, (upd (upd H2 HH (.lst [.int 0])) a (.ins (cY K) dx (putF "_heights" (.ref HH) [("_lefts", .ref L), ("_rights", .ref R)]))) c = none → H2 c = none ∧ c ≠ a := fun c e => ⟨(un_none (un_none e).1).1, (un_none e).2⟩
    obtain ⟨hH1, Ha⟩ := z2 _ hH
    have eH : (upd (upd H2 HH (.lst [.int 0])) a (.ins (cY K) dx (putF "_heights" (.ref HH) [("_lefts", .ref L), ("_rights", .ref R)]))) HH = some (.lst [.int 0]) := (upd_ne Ha).trans upd_same
    have nLH : L ≠ HH := ne_of_none eL2 hH
    have nRH : R ≠ HH := ne_of_none eR hH
    generalize (upd (upd H2 HH (.lst [.int 0])) a (.ins (cY K) dx (putF "_heights" (.ref HH) [("_lefts", .ref L), ("_rights", .ref R)]))) = H3 at a3 s3 z3 eH ⊢
    have eL3 := s3 _ _ eL2 na_L
    have et03 := s3 _ _ et02 na_t0
    have eR3 := s3 _ _ eR Ra
    have et13 := s3 _ _ et1 t1a
    have r3 : Rest a H H3 := fun c o e n => s3 _ _ (s2 _ _ (r1 _ _ e n) n) n
    -- numbers
    intro NM hNM
    have s4 := same_upd (H := H3) (o := nestObj P w NM []) hNM
    have eN : (upd H3 NM (nestObj P w NM [])) NM = some (nestObj P w NM []) := upd_same
    refine ⟨by show 0 ≤ sizeLine; decide, fun k1 hk1 => ⟨by show 0 ≤ sizeLine; decide, fun k2 hk2 => ⟨by show 2 ≤ sizeLine; decide, fun kb hkb => ?_⟩⟩⟩
    have eN1 := same_upd (H := upd H3 NM (nestObj P w NM [])) (o := .tup []) hk1 _ _ eN
    have eN2 := same_upd (o := .tup []) hk2 _ _ eN1
    have eN3 := same_upd (o := .tup [.ref k1, .ref k2]) hkb _ _ eN2
    have ek1 : (upd (upd H3 NM (nestObj P w NM [])) k1 (.tup [])) k1 = some (.tup []) := upd_same
    have ek2 : (upd (upd (upd H3 NM (nestObj P w NM [])) k1 (.tup [])) k2 (.tup [])) k2 = some (.tup []) := upd_same
    have ek1' := same_upd (o := .tup [.ref k1, .ref k2]) hkb _ _ (same_upd (o := .tup []) hk2 _ _ ek1)
    have ek2' := same_upd (o := .tup [.ref k1, .ref k2]) hkb _ _ ek2
    have ekb : (upd (upd (upd (upd H3 NM (nestObj P w NM [])) k1 (.tup [])) k2 (.tup [])) kb (.tup [.ref k1, .ref k2])) kb = some (.tup [.ref k1, .ref k2]) := upd_same
    have s7 : Same H3 (upd (upd (upd (upd H3 NM (nestObj P w NM [])) k1 (.tup [])) k2 (.tup [])) kb (.tup [.ref k1, .ref k2])) := fun c o e => same_upd hkb _ _ (same_upd hk2 _ _ (same_upd hk1 _ _ (s4 _ _ e)))
    refine ⟨eN3, kb, ([], []), .int 0, rfl, ⟨k1, k2, ekb, ek1', ek2'⟩, fun H8 d8 o8 => ?_⟩
    have s8 : ∀ c o, H3 c = some o → H8 c = some o := fun c o e => (o8 c (ne_of_none e hNM)).trans (s7 _ _ e)
    obtain ⟨hN2, Na⟩ := z3 _ hNM
    have hNH : H NM = none := (z1 _ (z2 _ hN2).1).1
    refine ⟨_, rfl, a, _, dx, _, rfl, s8 _ _ a3, t_cls_Yard T, t_no_Yard__numbers T, by show 3 < 1000; decide, ?_⟩
    have a4 : (upd H8 a (.ins (cY K) dx (putF "_numbers" (.ref NM) [("_lefts", .ref L), ("_rights", .ref R), ("_heights", .ref HH)]))) a = some (.ins (cY K) dx [("_lefts", .ref L), ("_rights", .ref R), ("_heights", .ref HH), ("_numbers", .ref NM)]) := upd_same
    have k4 : ∀ c o, c ≠ a → H8 c = some o → (upd H8 a (.ins (cY K) dx (putF "_numbers" (.ref NM) [("_lefts", .ref L), ("_rights", .ref R), ("_heights", .ref HH)]))) c = some o := fun c o n e => (upd_ne n).trans e
    have d9 := d8.mono (H' := upd H8 a (.ins (cY K) dx (putF "_numbers" (.ref NM) [("_lefts", .ref L), ("_rights", .ref R), ("_heights", .ref HH)]))) (fun o e => k4 _ _ Na e) (fun c xs e => k4 _ _ (ne_of e (s8 _ _ a3) (by intro z; cases z)) e)
    generalize upd H8 a (.ins (cY K) dx (putF "_numbers" (.ref NM) [("_lefts", .ref L), ("_rights", .ref R), ("_heights", .ref HH)])) = H9 at a4 k4 d9 ⊢
    -- turned
    intro TN hTN
    refine ⟨upd_same, [(Sum.inl 0, .int 0)], rfl, by show 1 ≤ 15; decide, ?_⟩
    have s10 : ∀ c o, H9 c = some o → (upd (upd H9 TN (.dK [])) TN (.dK (mergeK [] [(Sum.inl 0, V.int 0)]))) c = some o := fun c o e => (upd_ne (ne_of_none e hTN)).trans ((upd_ne (ne_of_none e hTN)).trans e)
    refine ⟨_, rfl, a, _, dx, _, rfl, s10 _ _ a4, t_cls_Yard T, t_no_Yard__turned T, by show 4 < 1000; decide, ?_⟩
    have fin : ∀ c o, c ≠ a → H3 c = some o → (upd (upd (upd H9 TN (.dK [])) TN (.dK (mergeK [] [(Sum.inl 0, V.int 0)]))) a (.ins (cY K) dx (putF "_turned" (.ref TN) [("_lefts", .ref L), ("_rights", .ref R), ("_heights", .ref HH), ("_numbers", .ref NM)]))) c = some o := fun c o n e => (upd_ne n).trans (s10 _ _ (k4 _ _ n (s8 _ _ e)))
    refine k _ L R HH NM TN hL1 hRH (z1 _ hH1).1 hNH nL nLH nRH ⟨[t0], fin _ _ na_L eL3, rfl, fun i t e => ?_⟩ ⟨[t1], fin _ _ Ra eR3, rfl, fun i t e => ?_⟩ ?_ ?_ upd_same fun c o e n => fin c o n (r3 _ _ e n)
    · match i, e with
      | 0, e => cases e; exact fin _ _ na_t0 et03
    · match i, e with
      | 0, e => cases e; exact fin _ _ t1a et13
    · rw [fin _ _ Ha eH]
      show _ = some (HO.lst [nV (SG.ht SG.zero)])
      rw [ht_zero]
      rfl
    · exact d9.mono (fun o e => (upd_ne Na).trans (s10 _ _ e)) (fun c xs e => (upd_ne (ne_of e a4 (by intro z; cases z))).trans (s10 _ _ e))
end
end K45
end
section
set_option Elab.async false
set_option linter.all false
set_option maxRecDepth 100000
set_option maxHeartbeats 4000000
namespace K45
open PySem PySem.Spec PyProof.Rows L2
/-! ### the law's helpers: numbers drawn -/
def spCell (K : PySem.W.Frag) : Sp := fun vs H Q _ => ∃ (a : Addr) (ns : List Int) (k : Nat), vs = [.ref a, nV k] ∧ SqL K H a (ns.map V.int) ∧ k ≤ 100 ∧ ∀ z : Int, Q (.int z) H
/-- drawn digits -/
def Dig (ds : List Int) (n : Nat) : Prop := ds.length = n ∧ ∀ d ∈ ds, 0 ≤ d ∧ d < 60
def spDigits : Sp := fun vs H Q _ => ∃ (z : Int) (n : Nat), vs = [.int z, nV n] ∧ n ≤ 100 ∧ ∀ (ds : List Int) (p : Addr), Dig ds n → H p = none → Q (.ref p) (upd H p (.lst (ds.map V.int)))
theorem Dig.snoc {ds : List Int} {n : Nat} {d : Int} (h : Dig ds n) (h0 : 0 ≤ d) (h1 : d < 60) : Dig (ds ++ [d]) (n + 1) := ⟨by rw [List.length_append, h.1]; rfl, fun x hx => by
  rcases List.mem_append.mp hx with hx | hx
  · exact h.2 x hx
  · rw [List.mem_singleton.mp hx]; exact ⟨h0, h1⟩⟩
section
variable {P : Program} {w : World} {K : PySem.W.Frag} {mg : Str → Option Value} {base : Heap} (T : Tx K mg)
include T
theorem k_cell : C8.Cal P w K mg base 1 "_law_cell" (spCell K) [] := by
  refine cal_by (t_glo__law_cell T) (t_fn__law_cell T) sc__law_cell (fun vs H Q E h => ?_) (fun _ _ _ _ _ _ us hl => match us, hl with | [_, _], _ => rfl) (fun cdv A outer s H vs Q E hr h => ?_)
  · obtain ⟨a, ns, k, rfl, _⟩ := h
    rfl
  · obtain ⟨a, ns, k, rfl, hs, hk, q⟩ := h
    refine ⟨_, pss_cons (ps_if (pt_cmpR op_lt (pv 1) (pe_callB call_len_seq (by rfl) (t_fr_len T) PySem.boot_len (pa_cons (pv 0) pa_nil)) (nomark _)) (pss_one (ps_ret (pe_ix ix_list (pv 0) (pv 1) (fun _ _ => rfl)))) pss_nil)
      (pss_cons (ps_set (i := 2) sc__law_cell.nd rfl (.inl rfl) (pe_op op_add (pe_op op_mul pe_int (pv 1)) pe_int))
      (pss_cons (ps_for PassesOwn.never rfl (pi_list (pv 0)) (pg_name (i := 3) sc__law_cell.nd rfl (.inl rfl)) (pss_one (ps_set (i := 2) sc__law_cell.nd rfl (.inl rfl) (pe_op op_mod (pe_callTy call_int1 (by rfl) (t_fr_int T) (by decide +kernel) (pa_cons (pe_op op_add (pe_op op_mul (pv 2) pe_int) (pv 3)) pa_nil)) pe_int))))
      (pss_one (ps_ret (pv 2))))), ?_⟩
    refine ⟨_, rfl, _, rfl, a, _, rfl, .inl hs, _, _, rfl, rfl, _, rfl, ?_⟩
    rw [List.length_map]
    by_cases c : (k : Int) < (ns.length : Int)
    · rw [decide_eq_true c]
      have e : ns[k]? = some ns[k] := List.getElem?_eq_getElem (by omega)
      exact iteT ⟨_, rfl, _, rfl, a, _, k, .int ns[k], rfl, rfl, hs, atI_nat (by rw [List.getElem?_map, e]; rfl), q _⟩
    · rw [decide_eq_false c]
      refine iteF ⟨_, rfl, _, _, rfl, rfl, .inl ⟨by decide, by decide⟩, _, _, rfl, rfl, ?_⟩
      refine ⟨_, rfl, a, rfl, ⟨_, hs⟩, for_list (K := K) (a := a) (xs := ns.map V.int) (fun i σ H2 => ∃ m y, σ = [some (.ref a), some (nV k), some (.int m), y] ∧ H2 = H ∧ 0 ≤ m ∧ m < 2 ^ 40)
        ⟨_, none, rfl, rfl, by omega, by omega⟩ (fun i σ H2 _ ⟨_, _, _, e, _⟩ => by rw [e]; exact hs) ?_ ?_⟩
      · rintro i x σ H2 hi ⟨m, y, rfl, rfl, h0, h1⟩
        rw [List.getElem?_map] at hi
        obtain ⟨z, _, rfl⟩ := Option.map_eq_some_iff.mp hi
        refine ⟨_, rfl, _, _, rfl, rfl, .inl ⟨by omega, by omega⟩, _, rfl, _, _, rfl, rfl, .inl ⟨_, rfl, _, _, rfl, rfl, by show (0 : Int) < 2147483629; decide, _, _, rfl, rfl, Int.emod_nonneg _ (by decide), ?_⟩⟩
        have := Int.emod_lt_of_pos (m * 37 + z) (show (0 : Int) < 2147483629 by decide)
        omega
      · rintro σ H2 ⟨m, y, rfl, rfl, _⟩
        exact ⟨_, rfl, q m⟩
theorem k_digits : C8.Cal P w K mg base 1 "_law_digits" spDigits [] := by
  refine cal_by (t_glo__law_digits T) (t_fn__law_digits T) sc__law_digits (fun vs H Q E h => ?_) (fun _ _ _ _ _ _ us hl => match us, hl with | [_, _], _ => rfl) (fun cdv A outer s H vs Q E hr h => ?_)
  · obtain ⟨z, n, rfl, _⟩ := h
    rfl
  · obtain ⟨z, n, rfl, hn, q⟩ := h
    refine ⟨_, pss_cons (ps_set (i := 2) sc__law_digits.nd rfl (.inl rfl) (pe_lst pa_nil))
      (pss_cons (ps_if (pt_cmpR op_ge (pv 0) (pe_op op_pow pe_int pe_int) (nomark _))
        (pss_cons (ps_for PassesOwn.never rfl (pi_range1 rfl (t_fr_range T) (pa_cons (pv 1) pa_nil)) (pg_name (i := 3) sc__law_digits.nd rfl (.inl rfl))
          (pss_cons (ps_expr (pe_bm PySem.F.plainAttrs_list PySem.F.slot_list_append PySem.F.type_list_append mt_append (pv 2) (pa_cons (pe_op op_mod (pe_callTy call_int1 (by rfl) (t_fr_int T) (by decide +kernel) (pa_cons (pv 0) pa_nil)) pe_int) pa_nil)))
          (pss_one (ps_set (i := 0) sc__law_digits.nd rfl (.inl rfl) (pe_op op_fdiv (pv 0) pe_int)))))
        (pss_one (ps_ret (pv 2)))) pss_nil)
      (pss_cons (ps_set (i := 4) sc__law_digits.nd rfl (.inl rfl) (pe_op op_mod (pe_callTy call_int1 (by rfl) (t_fr_int T) (by decide +kernel) (pa_cons (pe_op op_add (pe_op op_mul (pv 0) pe_int) pe_int) pa_nil)) pe_int))
      (pss_cons (ps_for PassesOwn.never rfl (pi_range1 rfl (t_fr_range T) (pa_cons (pv 1) pa_nil)) (pg_name (i := 3) sc__law_digits.nd rfl (.inl rfl))
          (pss_cons (ps_set (i := 4) sc__law_digits.nd rfl (.inl rfl) (pe_op op_mod (pe_callTy call_int1 (by rfl) (t_fr_int T) (by decide +kernel) (pa_cons (pe_op op_add (pe_op op_add (pe_op op_mul (pv 4) pe_int) (pe_op op_mul pe_int (pv 3))) pe_int) pa_nil)) pe_int))
          (pss_one (ps_expr (pe_bm PySem.F.plainAttrs_list PySem.F.slot_list_append PySem.F.type_list_append mt_append (pv 2) (pa_cons (pe_op op_mod (pe_callTy call_int1 (by rfl) (t_fr_int T) (by decide +kernel) (pa_cons (pe_op op_fdiv (pv 4) pe_int) pa_nil)) pe_int) pa_nil))))))
      (pss_one (ps_ret (pv 2)))))), ?_⟩
    refine ⟨by show 0 ≤ sizeLine; decide, fun p hp => ?_⟩
    have eH : (upd H p (.lst [])) p = some (.lst []) := upd_same
    have small : ∀ ds : List Int, ds.length ≤ 100 → (ds.map V.int).length < sizeLine := fun ds h => by rw [List.length_map, sizeLine_eq]; omega
    have grow : ∀ {H2 : Hp} {ds : List Int}, H2 = upd H p (.lst (ds.map V.int)) → ∀ d : Int, upd H2 p (.lst (ds.map V.int ++ [.int d])) = upd H p (.lst ((ds ++ [d]).map V.int)) := fun {H2 ds} e d => by
      rw [e, List.map_append]
      funext c
      by_cases z : c = p
      · rw [z, upd_same, upd_same]
        rfl
      · rw [upd_ne z, upd_ne z, upd_ne z]
    refine ⟨_, rfl, _, _, rfl, rfl, ⟨by decide, by decide, by decide⟩, _, _, rfl, rfl, _, rfl, ?_⟩
    by_cases c : (10 : Int) ^ (18 : Int).toNat ≤ z
    · rw [decide_eq_true c]
      refine iteT ⟨_, rfl, (n : Int), rfl, by omega, by omega, ?_⟩
      rw [Int.toNat_natCast]
      refine for_range (n := n) (fun i σ H2 => ∃ z' ds y, σ = [some (.int z'), some (nV n), some (.ref p), y, none] ∧ Dig ds i ∧ H2 = upd H p (.lst (ds.map V.int)))
        ⟨z, [], none, rfl, ⟨rfl, fun d hd => by cases hd⟩, rfl⟩ ?_ ?_
      · rintro i σ H2 hi ⟨z', ds, y, rfl, hd, rfl⟩
        have e2 : (upd H p (.lst (ds.map V.int))) p = some (.lst (ds.map V.int)) := upd_same
        refine ⟨_, rfl, .inl ⟨rfl, _, SqL.of e2⟩, _, rfl, .inl ⟨_, rfl, _, _, rfl, rfl, by show (0 : Int) < 60; decide, p, _, _, rfl, rfl, e2, small ds (by rw [hd.1]; omega), ?_⟩⟩
        rw [grow rfl]
        exact ⟨_, rfl, _, _, rfl, rfl, ⟨by decide, by decide⟩, _, _, _, rfl, hd.snoc (Int.emod_nonneg _ (by decide)) (Int.emod_lt_of_pos _ (by decide)), rfl⟩
      · rintro σ H2 ⟨z', ds, y, rfl, hd, rfl⟩
        exact ⟨_, rfl, q ds p hd hp⟩
    · rw [decide_eq_false c]
      refine iteF ⟨_, rfl, _, _, rfl, rfl, .inr ⟨by decide, by decide⟩, _, _, rfl, rfl, .inl ⟨_, rfl, _, _, rfl, rfl, by show (0 : Int) < 2147483399; decide, ?_⟩⟩
      refine ⟨_, rfl, (n : Int), rfl, by omega, by omega, ?_⟩
      rw [Int.toNat_natCast]
      refine for_range (n := n) (fun i σ H2 => ∃ sd ds y, σ = [some (.int z), some (nV n), some (.ref p), y, some (.int sd)] ∧ 0 ≤ sd ∧ sd < 2 ^ 40 ∧ Dig ds i ∧ H2 = upd H p (.lst (ds.map V.int)))
        ⟨_, [], none, rfl, Int.emod_nonneg _ (by decide), Int.lt_trans (Int.emod_lt_of_pos _ (show (0 : Int) < 2147483399 by decide)) (by decide), ⟨rfl, fun d hd => by cases hd⟩, rfl⟩ ?_ ?_
      · rintro i σ H2 hi ⟨sd, ds, y, rfl, s0, s1, hd, rfl⟩
        have e2 : (upd H p (.lst (ds.map V.int))) p = some (.lst (ds.map V.int)) := upd_same
        refine ⟨_, rfl, _, _, rfl, rfl, .inl ⟨by omega, by omega⟩, _, rfl, _, _, rfl, rfl, .inl ⟨by decide, by decide⟩, _, _, rfl, rfl, _, _, rfl, rfl, .inl ⟨_, rfl, _, _, rfl, rfl, by show (0 : Int) < 2147483587; decide, ?_⟩⟩
        refine ⟨_, rfl, .inl ⟨rfl, _, SqL.of e2⟩, _, rfl, _, _, rfl, rfl, ⟨by decide, by decide⟩, .inl ⟨_, rfl, _, _, rfl, rfl, by show (0 : Int) < 60; decide, p, _, _, rfl, rfl, e2, small ds (by rw [hd.1]; omega), ?_⟩⟩
        rw [grow rfl]
        exact ⟨_, _, _, rfl, Int.emod_nonneg _ (by decide), Int.lt_trans (Int.emod_lt_of_pos _ (show (0 : Int) < 2147483587 by decide)) (by decide), hd.snoc (Int.emod_nonneg _ (by decide)) (Int.emod_lt_of_pos _ (by decide)), rfl⟩
      · rintro σ H2 ⟨sd, ds, y, rfl, s0, s1, hd, rfl⟩
        exact ⟨_, rfl, q ds p hd hp⟩
end
end K45
end
section
set_option Elab.async false
set_option linter.all false
set_option maxRecDepth 100000
set_option maxHeartbeats 4000000
namespace K45
open PySem PySem.Spec PyProof.Rows L2
open SG (Dy redu sc)
abbrev pairV (v : Dy) : List V := [.int v.t, .int (v.p : Int)]
def spLPlain : Sp := fun vs H Q _ => ∃ (t : Int) (p : Nat), vs = [.int t, .int (p : Int)] ∧ p ≤ 1000 ∧ ∀ a, H a = none → Q (.ref a) (upd H a (.tup (pairV (redu t p))))
def spLLess : Sp := fun vs H Q _ => ∃ (a b : Addr) (v u : Dy), vs = [.ref a, .ref b] ∧ H a = some (.tup (pairV v)) ∧ H b = some (.tup (pairV u)) ∧ v.p ≤ 64 ∧ u.p ≤ 64 ∧ v.t.natAbs < 2 ^ 64 ∧ u.t.natAbs < 2 ^ 64 ∧ Q (.bl (decide (sc v < sc u))) H
def addD (v u : Dy) : Dy := redu (v.t * 2 ^ (max v.p u.p - v.p) + u.t * 2 ^ (max v.p u.p - u.p)) (max v.p u.p)
def spLAdded : Sp := fun vs H Q _ => ∃ (a b : Addr) (v u : Dy), vs = [.ref a, .ref b] ∧ H a = some (.tup (pairV v)) ∧ H b = some (.tup (pairV u)) ∧ v.p ≤ 64 ∧ u.p ≤ 64 ∧ v.t.natAbs < 2 ^ 64 ∧ u.t.natAbs < 2 ^ 64 ∧ ∀ r, H r = none → Q (.ref r) (upd H r (.tup (pairV (addD v u))))
theorem addD_sc {v u : Dy} (hv : v.p ≤ 64) (hu : u.p ≤ 64) : sc (addD v u) = sc v + sc u := by
  have one : ∀ (d : Dy) (P : Nat), d.p ≤ P → P ≤ 64 → (2 : Int) ^ (64 - P) * (d.t * 2 ^ (P - d.p)) = sc d := fun d P h1 h2 => by
    unfold sc
    rw [Int.mul_comm d.t, ← Int.mul_assoc, ← Int.pow_add, show 64 - P + (P - d.p) = 64 - d.p by omega]
  unfold addD
  rw [SG.redu_sc _ _ (by omega), Int.mul_add, one v _ (by omega) (by omega), one u _ (by omega) (by omega)]
section
variable {P : Program} {w : World} {K : PySem.W.Frag} {mg : Str → Option Value} {base : Heap} (T : Tx K mg)
include T
theorem k_lplain : C8.Cal P w K mg base 1 "_law_plain" spLPlain [] := by
  refine cal_by (t_glo__law_plain T) (t_fn__law_plain T) sc__law_plain (fun vs H Q E h => ?_) (fun _ _ _ _ _ _ us hl => match us, hl with | [_, _], _ => rfl) (fun cdv A outer s H vs Q E hr h => ?_)
  · obtain ⟨t, p, rfl, _⟩ := h
    rfl
  · obtain ⟨t, p, rfl, hp, q⟩ := h
    refine ⟨_, pss_cons (ps_for PassesOwn.never rfl (pi_range1 rfl (t_fr_range T) (pa_cons (pv 1) pa_nil)) (pg_name (i := 2) sc__law_plain.nd rfl (.inl rfl))
        (pss_cons (ps_if (pt_cmpR op_eq (pe_op op_mod (pe_callTy call_int1 (by rfl) (t_fr_int T) (by decide +kernel) (pa_cons (pv 0) pa_nil)) pe_int) pe_int (nomark _)) (pss_one ps_break) pss_nil)
        (pss_cons (ps_set (i := 0) sc__law_plain.nd rfl (.inl rfl) (pe_op op_fdiv (pv 0) pe_int))
        (pss_one (ps_set (i := 1) sc__law_plain.nd rfl (.inl rfl) (pe_op op_sub (pv 1) pe_int))))))
      (pss_one (ps_ret (pe_tup (pa_cons (pv 0) (pa_cons (pv 1) pa_nil))))), ?_⟩
    refine ⟨_, rfl, (p : Int), rfl, by omega, by omega, ?_⟩
    rw [Int.toNat_natCast]
    have fin : ∀ (t' : Int) (p' : Nat) (y : Option V), (⟨t', p'⟩ : Dy) = redu t p → ∀ a, H a = none → Q (.ref a) (upd H a (.tup [.int t', .int (p' : Int)])) := fun t' p' y e a ha => by
      have := q a ha
      rw [← e] at this
      exact this
    refine for_range (n := p) (fun i σ H2 => ∃ t' y, σ = [some (.int t'), some (.int (((p - i : Nat)) : Int)), y] ∧ H2 = H ∧ i ≤ p ∧ redu t' (p - i) = redu t p)
      ⟨t, none, rfl, rfl, Nat.zero_le _, rfl⟩ ?_ ?_
    · rintro i σ H2 hi ⟨t', y, rfl, rfl, hi2, e⟩
      refine ⟨_, rfl, .inl ⟨_, rfl, _, _, rfl, rfl, by show (0 : Int) < 2; decide, rfl, _, rfl, ?_⟩⟩
      have ep : p - i = (p - (i + 1)) + 1 := by omega
      by_cases c : t' % 2 = 1
      · rw [decide_eq_true (show V.int (t' % 2) = V.int 1 by rw [c])]
        refine iteT ?_
        refine ⟨_, rfl, _, rfl, by show 2 ≤ sizeLine; decide, fin t' (p - i) none ?_⟩
        rw [← e, ep, SG.redu, if_neg (by omega)]
      · rw [decide_eq_false (show ¬ V.int (t' % 2) = V.int 1 from fun z => c (by injection z))]
        refine iteF ⟨_, rfl, _, _, rfl, rfl, ⟨by decide, by decide⟩, _, rfl, _, _, rfl, rfl, t' / 2, some (.int (0 + (i : Int))), ?_, rfl, by omega, ?_⟩
        · show [some (V.int (t' / 2)), some (V.int ((((p - i : Nat)) : Int) - 1)), some (V.int (0 + (i : Int)))] = _
          rw [show (((p - i : Nat)) : Int) - 1 = ((p - (i + 1) : Nat) : Int) by omega]
        · rw [← e, ep, SG.redu, if_pos (by omega)]
    · rintro σ H2 ⟨t', y, rfl, rfl, hi2, e⟩
      refine ⟨_, rfl, _, rfl, by show 2 ≤ sizeLine; decide, fin t' (p - p) none ?_⟩
      rw [← e, Nat.sub_self]
      rfl
theorem k_lless : C8.Cal P w K mg base 1 "_law_less" spLLess [] := by
  refine cal_by (t_glo__law_less T) (t_fn__law_less T) sc__law_less (fun vs H Q E h => ?_) (fun _ _ _ _ _ _ us hl => match us, hl with | [_, _], _ => rfl) (fun cdv A outer s H vs Q E hr h => ?_)
  · obtain ⟨a, b, v, u, rfl, _⟩ := h
    rfl
  · obtain ⟨a, b, v, u, rfl, ha, hb, p1, p2, t1, t2, q⟩ := h
    refine ⟨_, pss_one (ps_ret (pe_cmpR op_lt (pe_op op_shl (pe_ix ix_tup (pv 0) pe_int (fun _ _ => rfl)) (pe_ix ix_tup (pv 1) pe_int (fun _ _ => rfl))) (pe_op op_shl (pe_ix ix_tup (pv 1) pe_int (fun _ _ => rfl)) (pe_ix ix_tup (pv 0) pe_int (fun _ _ => rfl))) (nomark _))), ?_⟩
    refine ⟨_, rfl, a, _, 0, .int v.t, rfl, rfl, SqT.of ha, rfl, _, rfl, b, _, 1, .int (u.p : Int), rfl, rfl, SqT.of hb, rfl, _, _, rfl, rfl, ⟨by omega, by omega, t1⟩, ?_⟩
    refine ⟨_, rfl, b, _, 0, .int u.t, rfl, rfl, SqT.of hb, rfl, _, rfl, a, _, 1, .int (v.p : Int), rfl, rfl, SqT.of ha, rfl, _, _, rfl, rfl, ⟨by omega, by omega, t2⟩, _, _, rfl, rfl, ?_⟩
    have e := SG.less_iff (d := v) (e := u) p1 p2
    rw [← decide_eq_decide.mpr e] at q
    exact q
theorem k_ladded : C8.Cal P w K mg base 2 "_law_added" spLAdded [] := by
  refine cal_by (t_glo__law_added T) (t_fn__law_added T) sc__law_added (fun vs H Q E h => ?_) (fun _ _ _ _ _ _ us hl => match us, hl with | [_, _], _ => rfl) (fun cdv A outer s H vs Q E hr h => ?_)
  · obtain ⟨a, b, v, u, rfl, _⟩ := h
    rfl
  · obtain ⟨a, b, v, u, rfl, ha, hb, p1, p2, t1, t2, q⟩ := h
    refine ⟨_, pss_cons (ps_set (i := 2) sc__law_added.nd rfl (.inl rfl) (pe_callB (call_max2 rfl) (by rfl) (t_fr_max T) (by decide +kernel) (pa_cons (pe_ix ix_tup (pv 0) pe_int (fun _ _ => rfl)) (pa_cons (pe_ix ix_tup (pv 1) pe_int (fun _ _ => rfl)) pa_nil))))
      (pss_one (ps_ret (C8.pe_c (k_lplain T) hr (by decide) (by rfl) (pa_cons (pe_op op_add (pe_op op_shl (pe_ix ix_tup (pv 0) pe_int (fun _ _ => rfl)) (pe_op op_sub (pv 2) (pe_ix ix_tup (pv 0) pe_int (fun _ _ => rfl))))
        (pe_op op_shl (pe_ix ix_tup (pv 1) pe_int (fun _ _ => rfl)) (pe_op op_sub (pv 2) (pe_ix ix_tup (pv 1) pe_int (fun _ _ => rfl))))) (pa_cons (pv 2) pa_nil))))), ?_⟩
    refine ⟨_, rfl, a, _, 1, .int (v.p : Int), rfl, rfl, SqT.of ha, rfl, _, rfl, b, _, 1, .int (u.p : Int), rfl, rfl, SqT.of hb, rfl, _, _, rfl, ?_⟩
    rw [show (V.int (if (u.p : Int) > (v.p : Int) then (u.p : Int) else (v.p : Int))) = nV (max v.p u.p) by
      congr 1
      by_cases c : (u.p : Int) > (v.p : Int)
      · rw [if_pos c]; omega
      · rw [if_neg c]; omega]
    refine ⟨_, rfl, a, _, 0, .int v.t, rfl, rfl, SqT.of ha, rfl, _, rfl, _, rfl, a, _, 1, .int (v.p : Int), rfl, rfl, SqT.of ha, rfl, _, _, rfl, rfl, _, _, rfl, rfl, ⟨by omega, by omega, t1⟩, ?_⟩
    refine ⟨_, rfl, b, _, 0, .int u.t, rfl, rfl, SqT.of hb, rfl, _, rfl, _, rfl, b, _, 1, .int (u.p : Int), rfl, rfl, SqT.of hb, rfl, _, _, rfl, rfl, _, _, rfl, rfl, ⟨by omega, by omega, t2⟩, _, _, rfl, rfl, ?_⟩
    refine ⟨_, rfl, _, max v.p u.p, rfl, by omega, fun r hr' => ?_⟩
    have := q r hr'
    unfold addD at this
    rw [show (((max v.p u.p : Nat) : Int) - (v.p : Int)).toNat = max v.p u.p - v.p by omega, show (((max v.p u.p : Nat) : Int) - (u.p : Int)).toNat = max v.p u.p - u.p by omega]
    exact this
end
end K45
end
section
set_option Elab.async false
set_option linter.all false
set_option maxRecDepth 100000
set_option maxHeartbeats 4000000
namespace K45
open PySem PySem.Spec PyProof.Rows L2
open SG (Dy redu sc)
/-- a drawn pair -/
def pairP (ds : List Int) (mo : Nat) : Nat := ((ds[0]?.getD 0) % ((mo : Int) + 1)).toNat
def pairT (ds : List Int) (wh mo : Nat) : Int :=
  if (ds[5]?.getD 0) % 8 = 1 then (([(wh : Int) * 2 ^ pairP ds mo, -((wh : Int) * 2 ^ pairP ds mo), (wh : Int) * 2 ^ pairP ds mo - 1, 1 - (wh : Int) * 2 ^ pairP ds mo])[((ds[6]?.getD 0) / 15).toNat]?.getD 0)
  else (ds[1]?.getD 0 + 60 * (ds[2]?.getD 0) + 3600 * (ds[3]?.getD 0) + 216000 * (ds[4]?.getD 0)) % (2 * ((wh : Int) * 2 ^ pairP ds mo) + 1) - (wh : Int) * 2 ^ pairP ds mo
theorem pair_bd (ds : List Int) {wh mo : Nat} (hw : 1 ≤ wh) : pairP ds mo ≤ mo ∧ -((wh : Int) * 2 ^ pairP ds mo) ≤ pairT ds wh mo ∧ pairT ds wh mo ≤ (wh : Int) * 2 ^ pairP ds mo := by
  have q1 := Int.emod_nonneg (ds[0]?.getD 0) (show ((mo : Int) + 1) ≠ 0 by omega)
  have q2 := Int.emod_lt_of_pos (ds[0]?.getD 0) (show (0 : Int) < (mo : Int) + 1 by omega)
  refine ⟨by unfold pairP; omega, ?_⟩
  have pos : (0 : Int) < 2 ^ pairP ds mo := SG.pow_pos2 _
  have lpos : (1 : Int) ≤ (wh : Int) * 2 ^ pairP ds mo := by
    have : (1 : Int) * 1 ≤ (wh : Int) * 2 ^ pairP ds mo := Int.mul_le_mul (by omega) (by omega) (by decide) (by omega)
    omega
  unfold pairT
  generalize (wh : Int) * 2 ^ pairP ds mo = L at lpos ⊢
  by_cases c : (ds[5]?.getD 0) % 8 = 1
  · rw [if_pos c]
    generalize ((ds[6]?.getD 0) / 15).toNat = k
    match k with
    | 0 => show -L ≤ L ∧ L ≤ L; omega
    | 1 => show -L ≤ -L ∧ -L ≤ L; omega
    | 2 => show -L ≤ L - 1 ∧ L - 1 ≤ L; omega
    | 3 => show -L ≤ 1 - L ∧ 1 - L ≤ L; omega
    | k + 4 => show -L ≤ 0 ∧ 0 ≤ L; omega
  · rw [if_neg c]
    generalize ds[1]?.getD 0 + 60 * (ds[2]?.getD 0) + 3600 * (ds[3]?.getD 0) + 216000 * (ds[4]?.getD 0) = m
    have m0 := Int.emod_nonneg m (show 2 * L + 1 ≠ 0 by omega)
    have m1 := Int.emod_lt_of_pos m (show (0 : Int) < 2 * L + 1 by omega)
    omega
def spLPair (K : PySem.W.Frag) : Sp := fun vs H Q _ => ∃ (a : Addr) (ds : List Int) (n wh mo : Nat), vs = [.ref a, nV wh, nV mo] ∧ H a = some (.lst (ds.map V.int)) ∧ Dig ds n ∧ 7 ≤ n ∧ 1 ≤ wh ∧ wh ≤ 10 ∧ mo ≤ 10 ∧
  ∀ (t : Int) (p : Nat), t = pairT ds wh mo → p = pairP ds mo → p ≤ mo → -((wh : Int) * 2 ^ p) ≤ t → t ≤ (wh : Int) * 2 ^ p → ∀ H' r, Same H H' → H r = none → H' r = some (.tup (pairV (redu t p))) → Q (.ref r) H'
def spLInt : Sp := fun vs H Q _ => ∃ i : Int, vs = [.int i] ∧ Q (.bl true) H
def spLSays : Sp := fun vs H Q _ => ∃ a b : Bool, vs = [.bl a, .bl b] ∧ Q (.bl (decide (a = b))) H
section
variable {P : Program} {w : World} {K : PySem.W.Frag} {mg : Str → Option Value} {base : Heap} (T : Tx K mg)
include T
theorem k_lint : C8.Cal P w K mg base 1 "_law_is_integer" spLInt [] := by
  refine cal_by (t_glo__law_is_integer T) (t_fn__law_is_integer T) sc__law_is_integer (fun vs H Q E h => ?_) (fun _ _ _ _ _ _ us hl => match us, hl with | [_], _ => rfl) (fun cdv A outer s H vs Q E hr h => ?_)
  · obtain ⟨i, rfl, _⟩ := h
    rfl
  · obtain ⟨i, rfl, k⟩ := h
    refine ⟨_, pss_one (ps_ret (pe_and (pe_callB call_isi (by rfl) (t_fr_isinstance T) (by decide +kernel) (pa_cons (pv 0) (pa_cons (pe_bltn (v := .ty "int") (by rfl) (t_fr_int T) (by decide +kernel) rfl) pa_nil)))
      (pe_one (pe_not (pe_callB call_isi (by rfl) (t_fr_isinstance T) (by decide +kernel) (pa_cons (pv 0) (pa_cons (pe_bltn (v := .ty "bool") (by rfl) (t_fr_bool T) (by decide +kernel) rfl) pa_nil))))))), ?_⟩
    refine ⟨.int i, rfl, _, _, .type "int", .type "int", true, rfl, .ty "int", .base (.int i), kit_ty (by decide +kernel), true, rfl, ?_⟩
    exact iteT ⟨.int i, rfl, _, _, .type "int", .type "bool", false, rfl, .ty "bool", .base (.int i), kit_ty (by decide +kernel), false, rfl, k⟩
theorem k_lsays : C8.Cal P w K mg base 1 "_law_says" spLSays [] := by
  refine cal_by (t_glo__law_says T) (t_fn__law_says T) sc__law_says (fun vs H Q E h => ?_) (fun _ _ _ _ _ _ us hl => match us, hl with | [_, _], _ => rfl) (fun cdv A outer s H vs Q E hr h => ?_)
  · obtain ⟨a, b, rfl, _⟩ := h
    rfl
  · obtain ⟨a, b, rfl, k⟩ := h
    refine ⟨_, pss_one (ps_ret (pe_and (pe_callB call_isi (by rfl) (t_fr_isinstance T) (by decide +kernel) (pa_cons (pv 0) (pa_cons (pe_bltn (v := .ty "bool") (by rfl) (t_fr_bool T) (by decide +kernel) rfl) pa_nil)))
      (pe_one (pe_cmpR op_eq (pv 0) (pv 1) (nomark _))))), ?_⟩
    refine ⟨.bl a, rfl, _, _, .type "bool", .type "bool", true, rfl, .ty "bool", .base (.bl a), kit_ty (by decide +kernel), true, rfl, ?_⟩
    refine iteT ⟨.bl a, rfl, .bl b, rfl, rfl, ?_⟩
    have e : decide (V.bl a = V.bl b) = decide (a = b) := decide_eq_decide.mpr ⟨fun h => V.bl.inj h, fun h => by rw [h]⟩
    rw [e]
    exact k
theorem k_lpair : C8.Cal P w K mg base 2 "_law_pair" (spLPair K) [] := by
  refine cal_by (t_glo__law_pair T) (t_fn__law_pair T) sc__law_pair (fun vs H Q E h => ?_) (fun _ _ _ _ _ _ us hl => match us, hl with | [_, _, _], _ => rfl) (fun cdv A outer s H vs Q E hr h => ?_)
  · obtain ⟨a, ds, n, wh, mo, rfl, _⟩ := h
    rfl
  · obtain ⟨a, ds, n, wh, mo, rfl, ha, hd, h7, w1, w2, m1, k⟩ := h
    have get : ∀ i : Nat, i < 7 → ∃ d, ds[i]? = some d ∧ 0 ≤ d ∧ d < 60 ∧ atI (ds.map V.int) (i : Int) = some (V.int d) := fun i hi => by
      have hl : i < ds.length := by rw [hd.1]; omega
      have e : ds[i]? = some (ds[i]'hl) := List.getElem?_eq_getElem hl
      exact ⟨_, e, (hd.2 _ (List.mem_of_getElem? e)).1, (hd.2 _ (List.mem_of_getElem? e)).2, atI_nat (by rw [List.getElem?_map, e]; rfl)⟩
    obtain ⟨d0, x0, a0, b0, g0⟩ := get 0 (by decide)
    obtain ⟨d1, x1, a1, b1, g1⟩ := get 1 (by decide)
    obtain ⟨d2, x2, a2, b2, g2⟩ := get 2 (by decide)
    obtain ⟨d3, x3, a3, b3, g3⟩ := get 3 (by decide)
    obtain ⟨d4, x4, a4, b4, g4⟩ := get 4 (by decide)
    obtain ⟨d5, x5, a5, b5, g5⟩ := get 5 (by decide)
    obtain ⟨d6, x6, a6, b6, g6⟩ := get 6 (by decide)
    have sq : SqL K H a (ds.map V.int) := SqL.of ha
    refine ⟨_, pss_cons (ps_set (i := 3) sc__law_pair.nd rfl (.inl rfl) (pe_op op_mod (pe_callTy call_int1 (by rfl) (t_fr_int T) (by decide +kernel) (pa_cons (pe_ix ix_list (pv 0) pe_int (fun _ _ => rfl)) pa_nil)) (pe_op op_add (pv 2) pe_int)))
      (pss_cons (ps_set (i := 4) sc__law_pair.nd rfl (.inl rfl) (pe_op op_add (pe_op op_add (pe_op op_add (pe_ix ix_list (pv 0) pe_int (fun _ _ => rfl)) (pe_op op_mul pe_int (pe_ix ix_list (pv 0) pe_int (fun _ _ => rfl)))) (pe_op op_mul pe_int (pe_ix ix_list (pv 0) pe_int (fun _ _ => rfl)))) (pe_op op_mul pe_int (pe_ix ix_list (pv 0) pe_int (fun _ _ => rfl)))))
      (pss_cons (ps_set (i := 5) sc__law_pair.nd rfl (.inl rfl) (pe_op op_shl (pv 1) (pv 3)))
      (pss_cons (ps_set (i := 6) sc__law_pair.nd rfl (.inl rfl) (pe_op op_sub (pe_op op_mod (pe_callTy call_int1 (by rfl) (t_fr_int T) (by decide +kernel) (pa_cons (pv 4) pa_nil)) (pe_op op_add (pe_op op_mul pe_int (pv 5)) pe_int)) (pv 5)))
      (pss_cons (ps_if (pt_cmpR op_eq (pe_op op_mod (pe_callTy call_int1 (by rfl) (t_fr_int T) (by decide +kernel) (pa_cons (pe_ix ix_list (pv 0) pe_int (fun _ _ => rfl)) pa_nil)) pe_int) pe_int (nomark _))
        (pss_one (ps_set (i := 6) sc__law_pair.nd rfl (.inl rfl) (pe_ix ix_list (pe_lst (pa_cons (pv 5) (pa_cons (pe_un un_neg (pv 5)) (pa_cons (pe_op op_sub (pv 5) pe_int) (pa_cons (pe_op op_sub pe_int (pv 5)) pa_nil))))) (pe_op op_fdiv (pe_ix ix_list (pv 0) pe_int (fun _ _ => rfl)) pe_int) (fun _ _ => rfl)))) pss_nil)
      (pss_one (ps_ret (C8.pe_c (k_lplain T) hr (by decide) (by rfl) (pa_cons (pv 6) (pa_cons (pv 3) pa_nil))))))))), ?_⟩
    refine ⟨_, rfl, a, _, 0, .int d0, rfl, rfl, sq, g0, .inl ⟨_, rfl, _, rfl, _, _, rfl, rfl, _, _, rfl, rfl, by show (0 : Int) < (mo : Int) + 1; omega, ?_⟩⟩
    have q0 := Int.emod_nonneg d0 (show ((mo : Int) + 1) ≠ 0 by omega)
    have q1 := Int.emod_lt_of_pos d0 (show (0 : Int) < (mo : Int) + 1 by omega)
    obtain ⟨pw, epw⟩ : ∃ pw : Nat, d0 % ((mo : Int) + 1) = (pw : Int) := ⟨(d0 % ((mo : Int) + 1)).toNat, by omega⟩
    have hpw : pw ≤ mo := by omega
    refine ⟨_, rfl, a, _, 1, .int d1, rfl, rfl, sq, g1, _, rfl, a, _, 2, .int d2, rfl, rfl, sq, g2, _, _, rfl, rfl, .inl ⟨by decide, by decide⟩, _, _, rfl, rfl, ?_⟩
    refine ⟨_, rfl, a, _, 3, .int d3, rfl, rfl, sq, g3, _, _, rfl, rfl, .inl ⟨by decide, by decide⟩, _, _, rfl, rfl, ?_⟩
    refine ⟨_, rfl, a, _, 4, .int d4, rfl, rfl, sq, g4, _, _, rfl, rfl, .inl ⟨by decide, by decide⟩, _, _, rfl, rfl, ?_⟩
    refine ⟨_, rfl, .int (pw : Int), (by show some (some (V.int (d0 % ((mo : Int) + 1)))) = some (some (V.int (pw : Int))); rw [epw]), _, _, rfl, rfl, ⟨by omega, by omega, by show (wh : Int).natAbs < 2 ^ 64; omega⟩, ?_⟩
    have epp : pairP ds mo = pw := by
      unfold pairP
      rw [x0]
      show (d0 % ((mo : Int) + 1)).toNat = pw
      rw [epw]
      rfl
    have pos : (0 : Int) < 2 ^ pw := SG.pow_pos2 pw
    have lpos : (1 : Int) ≤ (wh : Int) * 2 ^ pw := by
      have : (1 : Int) * 1 ≤ (wh : Int) * 2 ^ pw := Int.mul_le_mul (by omega) (by omega) (by decide) (by omega)
      omega
    generalize hL : (wh : Int) * 2 ^ pw = L at lpos
    refine ⟨_, rfl, .inl ⟨_, rfl, .int L, (by show some (some (V.int ((wh : Int) * 2 ^ ((pw : Int)).toNat))) = some (some (V.int L)); rw [Int.toNat_natCast, hL]), _, _, rfl, rfl, .inl ⟨by decide, by decide⟩, _, _, rfl, rfl, _, _, rfl, rfl, by show (0 : Int) < 2 * L + 1; omega, .int L, (by show some (some (V.int ((wh : Int) * 2 ^ ((pw : Int)).toNat))) = some (some (V.int L)); rw [Int.toNat_natCast, hL]), _, _, rfl, rfl, ?_⟩⟩
    have m0 := Int.emod_nonneg (d1 + 60 * d2 + 3600 * d3 + 216000 * d4) (show 2 * L + 1 ≠ 0 by omega)
    have m1' := Int.emod_lt_of_pos (d1 + 60 * d2 + 3600 * d3 + 216000 * d4) (show (0 : Int) < 2 * L + 1 by omega)
    refine ⟨_, rfl, a, _, 5, .int d5, rfl, rfl, sq, g5, .inl ⟨_, rfl, _, _, rfl, rfl, by show (0 : Int) < 8; decide, rfl, _, rfl, ?_⟩⟩
    have ett : pairT ds wh mo = if d5 % 8 = 1 then ([L, -L, L - 1, 1 - L])[(d6 / 15).toNat]?.getD 0 else (d1 + 60 * d2 + 3600 * d3 + 216000 * d4) % (2 * L + 1) - L := by
      unfold pairT
      rw [epp, hL, x1, x2, x3, x4, x5, x6]
      rfl
    have fin : ∀ (t : Int) (H1 : Hp), t = pairT ds wh mo → -L ≤ t → t ≤ L → Same H H1 → ∀ r, H1 r = none → Q (.ref r) (upd H1 r (.tup (pairV (redu t pw)))) := fun t H1 et l1 l2 s1 r hr1 => by
      refine k t pw et epp.symm hpw (by rw [hL]; exact l1) (by rw [hL]; exact l2) _ r (fun c o e => same_upd hr1 _ _ (s1 _ _ e)) ?_ upd_same
      cases e : H r with
      | none => rfl
      | some o => have := s1 _ _ e; rw [hr1] at this; cases this
    by_cases c : d5 % 8 = 1
    · rw [decide_eq_true (show V.int (d5 % 8) = V.int 1 by rw [c])]
      refine iteT ⟨.int L, (by show some (some (V.int ((wh : Int) * 2 ^ ((pw : Int)).toNat))) = some (some (V.int L)); rw [Int.toNat_natCast, hL]), .int L, (by show some (some (V.int ((wh : Int) * 2 ^ ((pw : Int)).toNat))) = some (some (V.int L)); rw [Int.toNat_natCast, hL]), _, rfl, .int L, (by show some (some (V.int ((wh : Int) * 2 ^ ((pw : Int)).toNat))) = some (some (V.int L)); rw [Int.toNat_natCast, hL]), _, _, rfl, rfl, .int L, (by show some (some (V.int ((wh : Int) * 2 ^ ((pw : Int)).toNat))) = some (some (V.int L)); rw [Int.toNat_natCast, hL]), _, _, rfl, rfl, by show 4 ≤ sizeLine; decide, fun l hl => ?_⟩
      have s1 := same_upd (H := H) (o := .lst [V.int L, V.int (-L), V.int (L - 1), V.int (1 - L)]) hl
      have el : (upd H l (.lst [V.int L, V.int (-L), V.int (L - 1), V.int (1 - L)])) l = some (.lst [V.int L, V.int (-L), V.int (L - 1), V.int (1 - L)]) := upd_same
      have sq1 : SqL K (upd H l (.lst [V.int L, V.int (-L), V.int (L - 1), V.int (1 - L)])) a (ds.map V.int) := SqL.of (s1 _ _ ha)
      have four : ∃ v : Int, v = pairT ds wh mo ∧ -L ≤ v ∧ v ≤ L ∧ atI [V.int L, V.int (-L), V.int (L - 1), V.int (1 - L)] (d6 / 15) = some (V.int v) := by
        have : d6 / 15 = 0 ∨ d6 / 15 = 1 ∨ d6 / 15 = 2 ∨ d6 / 15 = 3 := by omega
        rw [ett, if_pos c]
        rcases this with e | e | e | e <;> rw [e]
        · exact ⟨L, rfl, by omega, by omega, rfl⟩
        · exact ⟨-L, rfl, by omega, by omega, rfl⟩
        · exact ⟨L - 1, rfl, by omega, by omega, rfl⟩
        · exact ⟨1 - L, rfl, by omega, by omega, rfl⟩
      obtain ⟨v, v0, v1, v2, ev⟩ := four
      refine ⟨_, rfl, a, _, 6, .int d6, rfl, rfl, sq1, g6, _, _, rfl, rfl, ⟨by decide, by decide⟩, l, _, d6 / 15, .int v, rfl, rfl, SqL.of el, ev, ?_⟩
      exact ⟨_, rfl, .int (pw : Int), (by show some (some (V.int (d0 % ((mo : Int) + 1)))) = some (some (V.int (pw : Int))); rw [epw]), v, pw, rfl, by omega, fun r hr1 => fin v _ v0 v1 v2 s1 r hr1⟩
    · rw [decide_eq_false (show ¬ V.int (d5 % 8) = V.int 1 from fun z => c (by injection z))]
      exact iteF ⟨_, rfl, .int (pw : Int), (by show some (some (V.int (d0 % ((mo : Int) + 1)))) = some (some (V.int (pw : Int))); rw [epw]), _, pw, rfl, by omega, fun r hr1 => fin _ H (by rw [ett, if_neg c]) (by omega) (by omega) (fun _ _ e => e) r hr1⟩
end
end K45
end
section
set_option Elab.async false
set_option linter.all false
set_option maxRecDepth 100000
set_option maxHeartbeats 4000000
namespace K45
open PySem PySem.Spec PyProof.Rows L2
/-- a lot: sorted, each once -/
def spLLot : Sp := fun vs H Q _ => ∃ (a : Addr) (xs : List Nat), vs = [.ref a] ∧ H a = some (.lst (xs.map nV)) ∧ xs.length ≤ 2000 ∧ ∀ (l : List Nat) H' t, l.Pairwise (· < ·) → (∀ k, k ∈ l ↔ k ∈ xs) → Same H H' → H t = none → H' t = some (.tup (l.map nV)) → Q (.ref t) H'
theorem sc_lot : FnScope ["_law_games", "_law_row", "_law_k"] ["_law_games"] (defScope s__law_lot) := ⟨rfl, rfl, rfl, by decide +kernel, rfl, by decide +kernel, by decide +kernel⟩
theorem same_none {H H' : Hp} {c : Addr} (s : Same H H') (h : H' c = none) : H c = none := by
  cases e : H c with
  | none => rfl
  | some o => have := s _ _ e; rw [h] at this; cases this
section
variable {P : Program} {w : World} {K : PySem.W.Frag} {mg : Str → Option Value} {base : Heap} (T : Tx K mg)
include T
theorem k_llot : C8.Cal P w K mg base 1 "_law_lot" spLLot [] := by
  refine cal_by (t_glo__law_lot T) (t_fn__law_lot T) sc_lot (fun vs H Q E h => ?_) (fun _ _ _ _ _ _ us hl => match us, hl with | [_], _ => rfl) (fun cdv A outer s H vs Q E hr h => ?_)
  · obtain ⟨a, xs, rfl, _⟩ := h
    rfl
  · obtain ⟨a, xs, rfl, ha, lx, k⟩ := h
    refine ⟨_, pss_cons (ps_set (i := 1) sc_lot.nd rfl (.inr rfl) (pe_callB cr_sortedI (by rfl) (t_fr_sorted T) (by decide +kernel) (pa_cons (pv 0) pa_nil)))
      (pss_one (ps_ret (pe_callTy call_tuple_of (by rfl) (t_fr_tuple T) (by decide +kernel) (pa_cons
        (pe_lc (own := [("_law_k", 2)]) (g := gName 2) rfl sc_lot.nd (pi_range1 rfl (t_fr_range T) (pa_cons (pe_callB call_len_seq (by rfl) (t_fr_len T) PySem.boot_len (pa_cons (pv 1) pa_nil)) pa_nil))
          (blkOk_by (N := ["_law_games", "_law_row", "_law_k"]) (sc := defScope s__law_lot) (by decide +kernel)) (fun _ _ _ _ _ => pg_name (i := 2) sc_lot.nd rfl (Or.inl rfl))
          (fun _ _ _ _ _ => pts_one (PW.pt (pw_or (pt_cmpR op_eq (pv 2) pe_int (nomark _)) (pw_or1 (pt_cmpR op_ne (pe_ix (ix_listK K rfl) (pv 1) (pv 2) (fun _ _ => rfl)) (pe_ix (ix_listK K rfl) (pv 1) (pe_op op_sub (pv 2) pe_int) (fun _ _ => rfl)) (nomark _))))))
          (fun _ _ _ _ _ => pe_ix (ix_listK K rfl) (pv 1) (pv 2) (fun _ _ => rfl))) pa_nil)))), ?_⟩
    refine ⟨_, rfl, a, xs.map (fun x : Nat => (x : Int)), rfl, SqL.of (by rw [ha, List.map_map]; rfl), fun ns p hperm hrise hp => ?_⟩
    have ep : (upd H p (.lst (ns.map V.int))) p = some (.lst (ns.map V.int)) := upd_same
    have s1 := same_upd (H := H) (o := .lst (ns.map V.int)) hp
    have ln : ns.length ≤ 2000 := by rw [hperm.length_eq, List.length_map]; exact lx
    generalize upd H p (.lst (ns.map V.int)) = H1 at ep s1
    refine ⟨_, rfl, p, _, rfl, .inl (SqL.of ep), ?_⟩
    refine ⟨_, rfl, by rw [List.length_map]; omega, by rw [List.length_map]; omega, fun D hD => ?_⟩
    rw [List.length_map, Int.toNat_natCast]
    have at' : ∀ {i : Nat}, i < ns.length → ∃ z, ns[i]? = some z ∧ atI (ns.map V.int) (i : Int) = some (V.int z) := fun {i} hi => by
      have e : ns[i]? = some (ns[i]'hi) := List.getElem?_eq_getElem hi
      exact ⟨_, e, atI_nat (by rw [List.getElem?_map, e]; rfl)⟩
    have rise : ∀ {i j : Nat} {x y : Int}, i < j → ns[i]? = some x → ns[j]? = some y → x ≤ y := fun {i j x y} hij hx hy => by
      obtain ⟨h1, rfl⟩ := List.getElem?_eq_some_iff.mp hx
      obtain ⟨h2, rfl⟩ := List.getElem?_eq_some_iff.mp hy
      exact List.pairwise_iff_getElem.mp hrise i j h1 h2 hij
    have memt : ∀ (i : Nat) (z : Int), z ∈ ns.take i ↔ ∃ j, j < i ∧ ns[j]? = some z := fun i z => by
      constructor
      · intro m
        obtain ⟨j, hj, e⟩ := List.mem_iff_getElem.mp m
        rw [List.length_take] at hj
        rw [List.getElem_take] at e
        exact ⟨j, by omega, by rw [← e]; exact List.getElem?_eq_getElem (by omega)⟩
      · rintro ⟨j, hj, e⟩
        obtain ⟨h1, rfl⟩ := List.getElem?_eq_some_iff.mp e
        exact List.mem_iff_getElem.mpr ⟨j, by rw [List.length_take]; omega, List.getElem_take ..⟩
    refine lc_range (lo := 0) (n := ns.length) (fun i H2 => ∃ acc : List Int, H2 = upd H1 D (.lst (acc.map V.int)) ∧ acc.Pairwise (· < ·) ∧ (∀ z, z ∈ acc ↔ z ∈ ns.take i) ∧ acc.length ≤ i)
      ⟨[], rfl, .nil, fun z => by simp, Nat.le_refl _⟩ ?_ ?_
    · rintro i H2 hi ⟨acc, rfl, pw, mem, la⟩
      have e2 : (upd H1 D (.lst (acc.map V.int))) p = some (.lst (ns.map V.int)) := (upd_ne (ne_of_none ep hD)).trans ep
      obtain ⟨z, ez, az⟩ := at' hi
      have iz : (0 : Int) + (i : Int) = (i : Int) := Int.zero_add _
      have tk : ∀ y, y ∈ ns.take (i + 1) ↔ y ∈ ns.take i ∨ y = z := fun y => by
        rw [List.take_add_one, ez, List.mem_append]
        simp
      -- kept
      have keep : (∀ y ∈ acc, y < z) → ∃ v H4, v = V.int z ∧ H4 = upd H1 D (.lst (acc.map V.int)) ∧ ∃ acc' : List V, H4 D = some (.lst acc') ∧ acc'.length < sizeLine ∧ ∃ ac2 : List Int, upd H4 D (.lst (acc' ++ [v])) = upd H1 D (.lst (ac2.map V.int)) ∧ ac2.Pairwise (· < ·) ∧ (∀ z, z ∈ ac2 ↔ z ∈ ns.take (i + 1)) ∧ ac2.length ≤ i + 1 := fun lt => by
        refine ⟨_, _, rfl, rfl, _, upd_same, by rw [List.length_map, sizeLine_eq]; omega, acc ++ [z], ?_, ?_, fun y => ?_, by rw [List.length_append]; show acc.length + 1 ≤ i + 1; omega⟩
        · rw [List.map_append]
          funext c
          by_cases q : c = D
          · rw [q, upd_same, upd_same]; rfl
          · rw [upd_ne q, upd_ne q, upd_ne q]
        · exact List.pairwise_append.mpr ⟨pw, List.pairwise_singleton _ _, fun x hx y hy => by rw [List.mem_singleton.mp hy]; exact lt x hx⟩
        · rw [tk, List.mem_append, mem, List.mem_singleton]
      refine ⟨rfl, _, rfl, rfl, _, rfl, ?_⟩
      rw [iz]
      by_cases c : i = 0
      · rw [decide_eq_true (show V.int (i : Int) = V.int 0 by rw [c]; rfl)]
        refine iteT ?_
        obtain ⟨v, H4, rfl, rfl, kk⟩ := keep (fun y hy => by
          have := (mem y).mp hy
          rw [c] at this
          cases this)
        exact ⟨_, rfl, _, rfl, p, _, (i : Int), .int z, rfl, rfl, SqL.of e2, az, kk⟩
      · rw [decide_eq_false (show ¬ V.int (i : Int) = V.int 0 from fun q => c (by have := V.int.inj q; omega))]
        obtain ⟨z', ez', az'⟩ := at' (show i - 1 < ns.length by omega)
        have ei : (i : Int) - 1 = ((i - 1 : Nat) : Int) := by omega
        have zz := rise (show i - 1 < i by omega) ez' ez
        refine iteF ⟨_, rfl, _, rfl, p, _, (i : Int), .int z, rfl, rfl, SqL.of e2, az, _, rfl, _, rfl, _, _, rfl, rfl, p, _, (i : Int) - 1, .int z', rfl, rfl, SqL.of e2, by rw [ei]; exact az', rfl, _, rfl, ?_⟩
        by_cases q : z = z'
        · rw [decide_eq_true (show V.int z = V.int z' by rw [q])]
          refine ⟨acc, rfl, pw, fun y => ?_, by omega⟩
          rw [mem y, tk]
          constructor
          · exact .inl
          · rintro (h | h)
            · exact h
            · rw [h, q]
              exact (memt i z').mpr ⟨i - 1, by omega, ez'⟩
        · rw [decide_eq_false (fun e : V.int z = V.int z' => q (V.int.inj e))]
          obtain ⟨v, H4, rfl, rfl, kk⟩ := keep (fun y hy => by
            obtain ⟨j, hj, e⟩ := (memt i y).mp ((mem y).mp hy)
            by_cases jl : j = i - 1
            · rw [jl, ez'] at e
              cases Option.some.inj e
              omega
            · have := rise (show j < i - 1 by omega) e ez'
              omega)
          exact ⟨_, rfl, _, rfl, p, _, (i : Int), .int z, rfl, rfl, SqL.of e2, az, kk⟩
    · rintro H2 ⟨acc, rfl, pw, mem, la⟩
      rw [List.take_of_length_le (Nat.le_refl _)] at mem
      obtain ⟨l, rfl, sl, ml⟩ := nat_list (xs := xs) pw (fun k => by rw [mem k]; exact hperm.mem_iff)
      refine ⟨D, _, rfl, .inl ⟨SqL.of upd_same, fun t ht => ?_⟩⟩
      have s2 := Same.trans' s1 (same_upd (H := H1) (o := .lst ((l.map fun x : Nat => (x : Int)).map V.int)) hD)
      refine k l _ t sl ml (Same.trans' s2 (same_upd ht)) (same_none s2 ht) ?_
      rw [upd_same, List.map_map]
      rfl
end
end K45
end
section
set_option Elab.async false
set_option linter.all false
set_option maxRecDepth 100000
set_option maxHeartbeats 4000000
namespace K45
open PySem PySem.Spec PyProof.Rows L2
open SG (gv lf rt optI Nd Dy sc form Le WfY)
/-! ### the law's own store -/
structure La where
  (st fo he id ov md pl tu wo so : Addr)
structure Ls where
  ns : List Nd
  ov : List ((Nat × Nat) × Bool)
  md : List (Dy × Nat)
  cand : List Dy
abbrev Ls.N (S : Ls) : Nat := S.ns.length
abbrev Ls.g (S : Ls) (i : Nat) : SG.G := gv S.ns i
def Kn (S : Ls) (v : Dy) : Prop := v ∈ S.cand ∨ v ∈ S.md.map (·.1)
structure LWf (S : Ls) : Prop where
  clo : ∀ v, Kn S v → SG.Plain v ∧ v.p ≤ 40 ∧ -(10 ^ 12) ≤ v.t ∧ v.t ≤ 10 ^ 12 ∧ (0 < v.p ∨ 0 < v.t → Kn S (SG.redu (v.t - 1) v.p)) ∧ (0 < v.p ∨ v.t < 0 → Kn S (SG.redu (v.t + 1) v.p))
  wy : WfY S.ns
  ov : ∀ i j b, ((i, j), b) ∈ S.ov → i < S.N ∧ j < S.N ∧ (b = true ↔ Le (S.g j) (S.g i))
  ovk : (S.ov.map (·.1)).Nodup
  md : ∀ v i, (v, i) ∈ S.md → i < S.N ∧ SG.Plain v ∧ v.p ≤ 64 ∧ S.g i = form 64 (sc v)
  mdk : (S.md.map (·.1)).Nodup
  bud : S.N + S.cand.length ≤ 4000
def FRows (H : Hp) (a : Addr) (ns : List Nd) : Prop := ∃ ts : List Addr, H a = some (.lst (ts.map V.ref)) ∧ ts.length = ns.length ∧ ∀ (i : Nat) (t : Addr), ts[i]? = some t → KeyAt H t (keyI ns i)
structure LAt (P : Program) (w : World) (A : La) (S : Ls) (H : Hp) : Prop where
  st : H A.st = some (.dK [(Sum.inr "forms", .ref A.fo), (Sum.inr "heights", .ref A.he), (Sum.inr "ids", .ref A.id), (Sum.inr "over", .ref A.ov), (Sum.inr "plus", .ref A.pl), (Sum.inr "turned", .ref A.tu), (Sum.inr "made", .ref A.md), (Sum.inr "worth", .ref A.wo), (Sum.inr "stops", .ref A.so)])
  fo : FRows H A.fo S.ns
  he : H A.he = some (.lst (hhL S.ns))
  id : NDict P w H A.id (nmK S.ns)
  ov : H A.ov = some (.dT (S.ov.map alE))
  md : H A.md = some (.dT (S.md.map mdE))
  d1 : A.fo ≠ A.he
  d2 : A.ov ≠ A.md
  wf : LWf S
def La.mut (A : La) : List Addr := [A.fo, A.he, A.id, A.ov, A.md]
def LKeep (A : La) (H H' : Hp) : Prop := ∀ b o, H b = some o → b ∉ A.mut → H' b = some o
theorem LKeep.refl (A : La) (H : Hp) : LKeep A H H := fun _ _ h _ => h
theorem LKeep.trans {A : La} {H H' H'' : Hp} (a : LKeep A H H') (b : LKeep A H' H'') : LKeep A H H'' := fun c o h n => b c o (a c o h n) n
theorem LKeep.same {A : La} {H H' : Hp} (h : Same H H') : LKeep A H H' := fun b o e _ => h b o e
structure LExt (S S' : Ls) : Prop where
  ns : ∃ more, S'.ns = S.ns ++ more
  md : ∀ v, Kn S v → Kn S' v
theorem LExt.refl (S : Ls) : LExt S S := ⟨⟨[], (List.append_nil _).symm⟩, fun _ h => h⟩
theorem LExt.trans {S T V : Ls} (a : LExt S T) (b : LExt T V) : LExt S V := by
  obtain ⟨m, e⟩ := a.ns
  obtain ⟨m', e'⟩ := b.ns
  exact ⟨⟨m ++ m', by rw [e', e, List.append_assoc]⟩, fun v h => b.md v (a.md v h)⟩
section
variable {S S' : Ls} (x : LExt S S')
include x
theorem LExt.lt {i : Nat} (h : i < S.N) : i < S'.N := by
  obtain ⟨m, e⟩ := x.ns
  show i < S'.ns.length
  rw [e, List.length_append]
  have h : i < S.ns.length := h
  omega
theorem LExt.g {i : Nat} (h : i < S.N) : S'.g i = S.g i := by
  obtain ⟨m, e⟩ := x.ns
  show gv S'.ns i = gv S.ns i
  rw [e]
  exact (SG.gv_app h).1
theorem LExt.o {i : Nat} (h : i < S.N) (s : Bool) : optI s S'.ns i = optI s S.ns i := by
  obtain ⟨m, e⟩ := x.ns
  rw [e]
  exact SG.optI_app h
end
theorem lov_small {S : Ls} (w : LWf S) : S.ov.length ≤ 16000000 := by
  have b := w.bud
  have q := SG.classes (n := S.N * S.N) w.ovk (fun e => e.1 * S.N + e.2) (fun e he => by
    obtain ⟨⟨⟨i, j⟩, b⟩, m, rfl⟩ := List.mem_map.mp he
    obtain ⟨a1, a2, _⟩ := w.ov i j b m
    show i * S.N + j < S.N * S.N
    have : (i + 1) * S.N ≤ S.N * S.N := Nat.mul_le_mul_right _ a1
    rw [Nat.add_mul, Nat.one_mul] at this
    omega) fun e he e' he' h => by
    obtain ⟨⟨⟨i, j⟩, b⟩, m, rfl⟩ := List.mem_map.mp he
    obtain ⟨⟨⟨i', j'⟩, b'⟩, m', rfl⟩ := List.mem_map.mp he'
    obtain ⟨a1, a2, _⟩ := w.ov i j b m
    obtain ⟨d1, d2, _⟩ := w.ov i' j' b' m'
    have h : i * S.N + j = i' * S.N + j' := h
    have e1 : (i * S.N + j) / S.N = i := by rw [Nat.mul_comm, Nat.mul_add_div (by omega), Nat.div_eq_of_lt a2, Nat.add_zero]
    have e2 : (i' * S.N + j') / S.N = i' := by rw [Nat.mul_comm, Nat.mul_add_div (by omega), Nat.div_eq_of_lt d2, Nat.add_zero]
    have e3 : i = i' := by rw [← e1, h, e2]
    subst e3
    show (i, j) = (i, j')
    rw [show j = j' by omega]
  rw [List.length_map] at q
  have : S.N * S.N ≤ 4000 * 4000 := Nat.mul_le_mul (by omega) (by omega)
  omega
end K45
end
section
set_option Elab.async false
set_option linter.all false
set_option maxRecDepth 100000
set_option maxHeartbeats 4000000
namespace K45
open PySem PySem.Spec PyProof.Rows L2
open SG (gv lf rt optI Nd Dy sc form Le WfY)
section
variable {P : Program} {w : World} {A : La} {S : Ls} {H H' : Hp}
theorem FRows.of {a : Addr} {ns : List Nd} (h : FRows H a ns) (ha : ∀ o, H a = some o → H' a = some o) (kt : ∀ c xs, H c = some (.tup xs) → H' c = some (.tup xs)) : FRows H' a ns :=
  let ⟨ts, e, l, r⟩ := h
  ⟨ts, ha _ e, l, fun i t q => (r i t q).mono kt⟩
theorem LAt.same (h : LAt P w A S H) (k : Same H H') : LAt P w A S H' :=
  ⟨k _ _ h.st, h.fo.of (fun _ e => k _ _ e) (fun _ _ e => k _ _ e), k _ _ h.he, h.id.mono (fun _ e => k _ _ e) (fun _ _ e => k _ _ e), k _ _ h.ov, k _ _ h.md, h.d1, h.d2, h.wf⟩
theorem LAt.nmut (h : LAt P w A S H) {c : Addr} {o : HO} (e : H c = some o) (n1 : ∀ x, o ≠ .lst x) (n3 : ∀ x, o ≠ .dT x) (n4 : ∀ x, o ≠ .ext x) : c ∉ A.mut := fun m => by
  simp only [La.mut, List.mem_cons, List.not_mem_nil, or_false] at m
  obtain ⟨nx, exn, _⟩ := h.id
  rcases m with rfl | rfl | rfl | rfl | rfl
  · obtain ⟨ts, q, _⟩ := h.fo; exact n1 _ (Option.some.inj (e.symm.trans q))
  · exact n1 _ (Option.some.inj (e.symm.trans h.he))
  · exact n4 _ (Option.some.inj (e.symm.trans exn))
  · exact n3 _ (Option.some.inj (e.symm.trans h.ov))
  · exact n3 _ (Option.some.inj (e.symm.trans h.md))
theorem LAt.tupK (h : LAt P w A S H) (k : LKeep A H H') : ∀ c xs, H c = some (.tup xs) → H' c = some (.tup xs) := fun c xs e => k _ _ e (h.nmut e (fun _ z => by cases z) (fun _ z => by cases z) (fun _ z => by cases z))
theorem LAt.new (h : LAt P w A S H) {c : Addr} (hc : H c = none) (o : HO) : LAt P w A S (upd H c o) ∧ LKeep A H (upd H c o) := ⟨h.same (same_upd hc), LKeep.same (same_upd hc)⟩
theorem FRows.get {a : Addr} {ns : List Nd} {i : Nat} (h : FRows H a ns) (hi : i < ns.length) : ∃ (ts : List V) (t t1 t2 : Addr), H a = some (.lst ts) ∧ ts[i]? = some (.ref t) ∧ H t = some (.tup [.ref t1, .ref t2]) ∧ H t1 = some (.tup ((optI true ns i).map nV)) ∧ H t2 = some (.tup ((optI false ns i).map nV)) := by
  obtain ⟨ts, e, l, r⟩ := h
  have e1 : ts[i]? = some ts[i] := List.getElem?_eq_getElem (by omega)
  obtain ⟨t1, t2, q1, q2, q3⟩ := r i _ e1
  refine ⟨_, ts[i], t1, t2, e, by rw [List.getElem?_map, e1]; rfl, q1, ?_, ?_⟩
  · rw [q2]
    show some (HO.tup (((lf ns i).map fun o : Nat => (o : Int)).map V.int)) = _
    rw [List.map_map]
    rfl
  · rw [q3]
    show some (HO.tup (((rt ns i).map fun o : Nat => (o : Int)).map V.int)) = _
    rw [List.map_map]
    rfl
end
theorem lwf_ov {S : Ls} (w : LWf S) {i j : Nat} {b : Bool} (hi : i < S.N) (hj : j < S.N) (hb : b = true ↔ Le (S.g j) (S.g i)) : LWf { S with ov := putL S.ov (i, j) b } := by
  refine ⟨w.clo, w.wy, fun i' j' b' h => ?_, keys_putL w.ovk, w.md, w.mdk, w.bud⟩
  rcases mem_putL h with h | h
  · exact w.ov i' j' b' h
  · injection h with h1 h2
    injection h1 with h3 h4
    subst h2 h3 h4
    exact ⟨hi, hj, hb⟩
theorem LAt.ov2 {P : Program} {w : World} {A : La} {S : Ls} {H : Hp} (h : LAt P w A S H) {i j : Nat} {b : Bool} (hi : i < S.N) (hj : j < S.N) (hb : b = true ↔ Le (S.g j) (S.g i)) :
    LAt P w A { S with ov := putL S.ov (i, j) b } (upd H A.ov (.dT (putK (S.ov.map alE) [kN i, kN j] (.bl b)))) ∧ LKeep A H (upd H A.ov (.dT (putK (S.ov.map alE) [kN i, kN j] (.bl b)))) := by
  have k : ∀ c o', c ≠ A.ov → H c = some o' → upd H A.ov (.dT (putK (S.ov.map alE) [kN i, kN j] (.bl b))) c = some o' := fun c o' n e => (upd_ne n).trans e
  have kk : ∀ c o', H c = some o' → (∀ x, o' ≠ .dT x) → upd H A.ov (.dT (putK (S.ov.map alE) [kN i, kN j] (.bl b))) c = some o' := fun c o' e n => k c o' (fun q => n _ (Option.some.inj ((q ▸ e).symm.trans h.ov))) e
  have e : upd H A.ov (.dT (putK (S.ov.map alE) [kN i, kN j] (.bl b))) A.ov = some (.dT ((putL S.ov (i, j) b).map alE)) := by
    have q := put_map (f := alE) (kf := fun e : Nat × Nat => [kN e.1, kN e.2]) (vf := V.bl) (fun _ => rfl) alK_inj S.ov (i, j) b
    rw [upd_same]
    exact congrArg (fun z => some (HO.dT z)) q
  obtain ⟨nx, exn, _⟩ := h.id
  obtain ⟨ts, ef, _⟩ := h.fo
  refine ⟨⟨kk _ _ h.st (fun _ z => by cases z), h.fo.of (fun o q => ?_) (fun c xs q => kk _ _ q (fun _ z => by cases z)), kk _ _ h.he (fun _ z => by cases z), h.id.mono (fun o q => ?_) (fun c xs q => kk _ _ q (fun _ z => by cases z)), e, k _ _ h.d2.symm h.md, h.d1, h.d2, lwf_ov h.wf hi hj hb⟩, fun c o q n => k c o (fun z => n (by rw [z]; simp [La.mut])) q⟩
  · rw [ef] at q
    rw [← q]
    exact kk _ _ ef (fun _ z => by cases z)
  · rw [exn] at q
    rw [← q]
    exact kk _ _ exn (fun _ z => by cases z)
abbrev withOv (S : Ls) (ov : List ((Nat × Nat) × Bool)) : Ls := { S with ov := ov }
def spLOver (P : Program) (w : World) (n : Nat) : Sp := fun vs H Q _ => ∃ (A : La) (S : Ls) (i j : Nat), vs = [.ref A.st, nV i, nV j] ∧ LAt P w A S H ∧ i < S.N ∧ j < S.N ∧ SG.ht (S.g i) + SG.ht (S.g j) < n ∧ ∀ ov H', LAt P w A (withOv S ov) H' → LKeep A H H' → Q (.bl (leB (S.g j) (S.g i))) H'
section
variable {P : Program} {w : World} {K : PySem.W.Frag} {mg : Str → Option Value} {base : Heap} (T : Tx K mg)
include T
theorem k_lover_step (n : Nat) (ih : C8.Cal P w K mg base (1 + n) "_law_over" (spLOver P w n) []) : C8.Cal P w K mg base (1 + (n + 1)) "_law_over" (spLOver P w (n + 1)) [] := by
  refine cal_by (k := 1 + n) (t_glo__law_over T) (t_fn__law_over T) sc__law_over (fun vs H Q E h => ?_) (fun _ _ _ _ _ _ us hl => match us, hl with | [_, _, _], _ => rfl) (fun cdv A0 outer s H vs Q E hr h => ?_)
  · obtain ⟨A, S, i, j, rfl, _⟩ := h
    rfl
  · obtain ⟨A, S, i, j, rfl, h, hi, hj, hn, k⟩ := h
    have hu := hu_of hr
    have wy := h.wf.wy
    refine ⟨_, pss_cons (ps_set (i := 3) sc__law_over.nd rfl (.inl rfl) (pe_dget hu (pv 0) pe_str (fun _ _ => rfl)))
      (pss_cons (ps_if (pt_cmp (pc_dnotin hu (pe_tup (pa_cons (pv 1) (pa_cons (pv 2) pa_nil))) (pv 3)))
        (pss_cons (ps_set (i := 4) sc__law_over.nd rfl (.inl rfl) pe_bl)
        (pss_cons (ps_for PassesOwn.never rfl (pi_tup (pe_ix ix_tup (pe_ix ix_list (pe_dget hu (pv 0) pe_str (fun _ _ => rfl)) (pv 1) (fun _ _ => rfl)) pe_int (fun _ _ => rfl))) (pg_name (i := 5) sc__law_over.nd rfl (.inl rfl))
          (pss_one (ps_set (i := 4) sc__law_over.nd rfl (.inl rfl) (pe_and (pv 4) (pe_one (pe_not (C8.pe_c ih hr (Nat.le_refl _) (by rfl) (pa_cons (pv 0) (pa_cons (pv 2) (pa_cons (pv 5) pa_nil))))))))))
        (pss_cons (ps_for PassesOwn.never rfl (pi_tup (pe_ix ix_tup (pe_ix ix_list (pe_dget hu (pv 0) pe_str (fun _ _ => rfl)) (pv 2) (fun _ _ => rfl)) pe_int (fun _ _ => rfl))) (pg_name (i := 6) sc__law_over.nd rfl (.inl rfl))
          (pss_one (ps_set (i := 4) sc__law_over.nd rfl (.inl rfl) (pe_and (pv 4) (pe_one (pe_not (C8.pe_c ih hr (Nat.le_refl _) (by rfl) (pa_cons (pv 0) (pa_cons (pv 6) (pa_cons (pv 1) pa_nil))))))))))
        (pss_one (ps_dput hu (pv 3) (pe_tup (pa_cons (pv 1) (pa_cons (pv 2) pa_nil))) (pv 4) rfl))))) pss_nil)
      (pss_one (ps_ret (pe_dget hu (pv 3) (pe_tup (pa_cons (pv 1) (pa_cons (pv 2) pa_nil))) (fun _ _ => rfl))))), ?_⟩
    refine ⟨_, rfl, A.st, .ref A.ov, rfl, DGet.k (k := Sum.inr "over") h.st, ?_⟩
    refine ⟨_, rfl, _, rfl, by show 2 ≤ sizeLine; decide, fun t ht => ?_⟩
    obtain ⟨h1, k1⟩ := h.new ht (.tup [nV i, nV j])
    have et : (upd H t (.tup [nV i, nV j])) t = some (.tup (([kN i, kN j] : List Key).map kV)) := upd_same
    generalize upd H t (.tup [nV i, nV j]) = H1 at h1 k1 et
    refine ⟨_, rfl, A.ov, _, rfl, DGet.t h1.ov et, _, rfl, ?_⟩
    cases ev : valV (S.ov.map alE) [kN i, kN j] with
    | some v =>
      obtain ⟨b, hb, rfl⟩ := val_some (f := alE) (kf := fun e => [kN e.1, kN e.2]) (vf := V.bl) (a := (i, j)) (fun _ => rfl) alK_inj ev
      refine iteF ⟨_, rfl, _, rfl, _, rfl, by show 2 ≤ sizeLine; decide, fun t2 ht2 => ?_⟩
      obtain ⟨h2, k2⟩ := h1.new ht2 (.tup [nV i, nV j])
      have et2 : (upd H1 t2 (.tup [nV i, nV j])) t2 = some (.tup (([kN i, kN j] : List Key).map kV)) := upd_same
      refine ⟨A.ov, .bl b, rfl, ?_, ?_⟩
      · rw [← ev]
        exact DGet.t h2.ov et2
      · have := k S.ov _ h2 (k1.trans k2)
        have q := (h.wf.ov i j b hb).2.2
        have e : b = leB (S.g j) (S.g i) := by
          cases b
          · exact (leB_false fun z => absurd (q.mpr z) (by decide)).symm
          · exact (leB_true (q.mp rfl)).symm
        rw [e]
        exact this
    | none =>
      have io : ∀ o ∈ optI false S.ns i, o < S.N ∧ SG.ht (S.g o) < SG.ht (S.g i) := fun o ho => ⟨(SG.optI_lt wy hi ho).2, SG.optI_ht wy hi ho⟩
      have jo : ∀ o ∈ optI true S.ns j, o < S.N ∧ SG.ht (S.g o) < SG.ht (S.g j) := fun o ho => ⟨(SG.optI_lt wy hj ho).2, SG.optI_ht wy hj ho⟩
      obtain ⟨fs, fi, _, r1, f1, f2, f3, _, f4⟩ := h1.fo.get hi
      refine iteT ⟨_, rfl, A.st, .ref A.fo, rfl, DGet.k (k := Sum.inr "forms") h1.st, _, rfl, A.fo, fs, (i : Int), .ref fi, rfl, rfl, SqL.of f1, atI_nat f2, fi, _, 1, .ref _, rfl, rfl, SqT.of f3, rfl, _, rfl, ⟨_, SqT.of f4⟩, for_tup (K := K) (xs := (optI false S.ns i).map nV) (fun m σ H2 => ∃ ov b y, σ = [some (.ref A.st), some (nV i), some (nV j), some (.ref A.ov), some (.bl b), y, none] ∧ LAt P w A (withOv S ov) H2 ∧ LKeep A H1 H2 ∧ (b = true ↔ ∀ m' r, m' < m → (optI false S.ns i)[m']? = some r → ¬ Le (S.g r) (S.g j)))
        ⟨S.ov, true, none, rfl, h1, LKeep.refl _ _, by simp⟩ (fun m σ H2 _ ⟨_, _, _, _, _, q, _⟩ => SqT.of (h1.tupK q _ _ f4)) ?_ ?_⟩
      · rintro m x σ H2 hm ⟨ov, b, y, rfl, h2, k2, b2⟩
        obtain ⟨o, ho, rfl⟩ := nV_get hm
        have mo := List.mem_of_getElem? ho
        have next : ∀ c : Bool, (c = true ↔ b = true ∧ ¬ Le (S.g o) (S.g j)) → (c = true ↔ ∀ m' r, m' < m + 1 → (optI false S.ns i)[m']? = some r → ¬ Le (S.g r) (S.g j)) := fun c hc => by
          rw [hc, b2]
          constructor
          · rintro ⟨p, q⟩ m' r hm' hr'
            by_cases e : m' = m
            · rw [e, ho] at hr'
              rwa [← Option.some.inj hr']
            · exact p m' r (by omega) hr'
          · intro p
            exact ⟨fun m' r hm' hr' => p m' r (by omega) hr', p m o (by omega) ho⟩
        refine ⟨_, rfl, _, rfl, ?_⟩
        cases b with
        | false => exact iteF ⟨ov, false, _, rfl, h2, k2, next false (by simp)⟩
        | true =>
          refine iteT ⟨_, rfl, _, rfl, _, rfl, A, withOv S ov, j, o, rfl, h2, hj, (io o mo).1, ?_, fun ov' H3 h3 k3 => ?_⟩
          · have := (io o mo).2
            show SG.ht (S.g j) + SG.ht (S.g o) < n
            omega
          · refine ⟨_, rfl, ov', _, _, rfl, h3, k2.trans k3, next _ ?_⟩
            by_cases c : Le (S.g o) (S.g j)
            · rw [show leB ((withOv S ov).g o) ((withOv S ov).g j) = true from leB_true c]
              simp [c]
            · rw [show leB ((withOv S ov).g o) ((withOv S ov).g j) = false from leB_false c]
              simp [c]
      · rintro σ H2 ⟨ov, b, y, rfl, h2, k2, b2⟩
        rw [List.length_map] at b2
        obtain ⟨gs, gi, _, _, g1, g2, g3, g4, _⟩ := h2.fo.get (i := j) hj
        refine ⟨_, rfl, A.st, .ref A.fo, rfl, DGet.k (k := Sum.inr "forms") h2.st, _, rfl, A.fo, gs, (j : Int), .ref gi, rfl, rfl, SqL.of g1, atI_nat g2, gi, _, 0, .ref _, rfl, rfl, SqT.of g3, rfl, _, rfl, ⟨_, SqT.of g4⟩, for_tup (K := K) (xs := (optI true S.ns j).map nV) (fun m σ H4 => ∃ ov c y', σ = [some (.ref A.st), some (nV i), some (nV j), some (.ref A.ov), some (.bl c), y, y'] ∧ LAt P w A (withOv S ov) H4 ∧ LKeep A H2 H4 ∧ (c = true ↔ b = true ∧ ∀ m' r, m' < m → (optI true S.ns j)[m']? = some r → ¬ Le (S.g i) (S.g r)))
          ⟨ov, b, none, rfl, h2, LKeep.refl _ _, by simp⟩ (fun m σ H2' _ ⟨_, _, _, _, _, q, _⟩ => SqT.of (h2.tupK q _ _ g4)) ?_ ?_⟩
        · rintro m x σ H4 hm ⟨ov4, c, y', rfl, h4, k4, c4⟩
          obtain ⟨o, ho, rfl⟩ := nV_get hm
          have mo := List.mem_of_getElem? ho
          have next : ∀ c2 : Bool, (c2 = true ↔ c = true ∧ ¬ Le (S.g i) (S.g o)) → (c2 = true ↔ b = true ∧ ∀ m' r, m' < m + 1 → (optI true S.ns j)[m']? = some r → ¬ Le (S.g i) (S.g r)) := fun c2 hc => by
            rw [hc, c4]
            constructor
            · rintro ⟨⟨p0, p⟩, q⟩
              refine ⟨p0, fun m' r hm' hr' => ?_⟩
              by_cases e : m' = m
              · rw [e, ho] at hr'
                rwa [← Option.some.inj hr']
              · exact p m' r (by omega) hr'
            · rintro ⟨p0, p⟩
              exact ⟨⟨p0, fun m' r hm' hr' => p m' r (by omega) hr'⟩, p m o (by omega) ho⟩
          refine ⟨_, rfl, _, rfl, ?_⟩
          cases c with
          | false => exact iteF ⟨ov4, false, _, rfl, h4, k4, next false (by simp)⟩
          | true =>
            refine iteT ⟨_, rfl, _, rfl, _, rfl, A, withOv S ov4, o, i, rfl, h4, (jo o mo).1, hi, ?_, fun ov' H5 h5 k5 => ?_⟩
            · have := (jo o mo).2
              show SG.ht (S.g o) + SG.ht (S.g i) < n
              omega
            · refine ⟨_, rfl, ov', _, _, rfl, h5, k4.trans k5, next _ ?_⟩
              by_cases c : Le (S.g i) (S.g o)
              · rw [show leB ((withOv S ov4).g i) ((withOv S ov4).g o) = true from leB_true c]
                simp [c]
              · rw [show leB ((withOv S ov4).g i) ((withOv S ov4).g o) = false from leB_false c]
                simp [c]
        · rintro σ H4 ⟨ov4, c, y', rfl, h4, k4, c4⟩
          rw [List.length_map] at c4
          have fin : c = leB (S.g j) (S.g i) := by
            have q : c = true ↔ Le (S.g j) (S.g i) := by
              rw [c4, b2]
              constructor
              · rintro ⟨p, q⟩
                refine SG.le_mk (fun x hx z => ?_) fun x hx z => ?_
                · rw [wy.left hj] at hx
                  obtain ⟨o, ho, rfl⟩ := List.mem_map.mp hx
                  obtain ⟨m, hm, e⟩ := List.mem_iff_getElem.mp ho
                  exact q m o hm (by rw [← e]; exact List.getElem?_eq_getElem hm) z
                · rw [wy.right hi] at hx
                  obtain ⟨o, ho, rfl⟩ := List.mem_map.mp hx
                  obtain ⟨m, hm, e⟩ := List.mem_iff_getElem.mp ho
                  exact p m o hm (by rw [← e]; exact List.getElem?_eq_getElem hm) z
              · intro le
                refine ⟨fun m' r hm' hr' z => SG.le_r le ?_ z, fun m' r hm' hr' z => SG.le_l le ?_ z⟩
                · show S.g r ∈ (S.g i).right
                  rw [wy.right hi]
                  exact List.mem_map.mpr ⟨r, List.mem_of_getElem? hr', rfl⟩
                · show S.g r ∈ (S.g j).left
                  rw [wy.left hj]
                  exact List.mem_map.mpr ⟨r, List.mem_of_getElem? hr', rfl⟩
            cases c
            · exact (leB_false fun z => absurd (q.mpr z) (by decide)).symm
            · exact (leB_true (q.mp rfl)).symm
          subst fin
          have small := lov_small h4.wf
          refine ⟨_, rfl, _, rfl, _, rfl, _, rfl, by show 2 ≤ sizeLine; decide, fun t2 ht2 => ?_⟩
          obtain ⟨h5, k5⟩ := h4.new ht2 (.tup [nV i, nV j])
          have et2 : (upd H4 t2 (.tup [nV i, nV j])) t2 = some (.tup (([kN i, kN j] : List Key).map kV)) := upd_same
          generalize upd H4 t2 (.tup [nV i, nV j]) = H5 at h5 k5 et2
          obtain ⟨h6, k6⟩ := h5.ov2 (i := i) (j := j) (b := leB (S.g j) (S.g i)) hi hj leB_iff
          refine ⟨A.ov, _, rfl, DPut.t h5.ov et2 (by rw [List.length_map, sizeLine_eq]; omega), ?_⟩
          have e6 : (upd H5 A.ov (.dT (putK ((withOv S ov4).ov.map alE) [kN i, kN j] (.bl (leB (S.g j) (S.g i)))))) A.ov = some (.dT (putK ((withOv S ov4).ov.map alE) [kN i, kN j] (.bl (leB (S.g j) (S.g i))))) := upd_same
          generalize upd H5 A.ov (.dT (putK ((withOv S ov4).ov.map alE) [kN i, kN j] (.bl (leB (S.g j) (S.g i))))) = H6 at h6 k6 e6
          refine ⟨_, rfl, _, rfl, _, rfl, by show 2 ≤ sizeLine; decide, fun t3 ht3 => ?_⟩
          obtain ⟨h7, k7⟩ := h6.new ht3 (.tup [nV i, nV j])
          have et3 : (upd H6 t3 (.tup [nV i, nV j])) t3 = some (.tup (([kN i, kN j] : List Key).map kV)) := upd_same
          have e7 := (same_upd (H := H6) (o := .tup [nV i, nV j]) ht3) _ _ e6
          refine ⟨A.ov, .bl (leB (S.g j) (S.g i)), rfl, ?_, k _ _ h7 (k1.trans (k2.trans (k4.trans (k5.trans (k6.trans k7)))))⟩
          rw [← val_put ((withOv S ov4).ov.map alE) [kN i, kN j] (.bl (leB (S.g j) (S.g i)))]
          exact DGet.t e7 et3
theorem k_lover : ∀ n : Nat, C8.Cal P w K mg base (1 + n) "_law_over" (spLOver P w n) []
  | 0 => by
    refine cal_by (k := 0) (t_glo__law_over T) (t_fn__law_over T) sc__law_over (fun vs H Q E h => ?_) (fun _ _ _ _ _ _ us hl => match us, hl with | [_, _, _], _ => rfl) (fun cdv A0 outer s H vs Q E hr h => ?_)
    · obtain ⟨A, S, i, j, rfl, _⟩ := h
      rfl
    · obtain ⟨A, S, i, j, rfl, h, hi, hj, hn, _⟩ := h
      exact absurd hn (Nat.not_lt_zero _)
  | n + 1 => k_lover_step T n (k_lover n)
end
end K45
end
section
set_option Elab.async false
set_option linter.all false
set_option maxRecDepth 100000
set_option maxHeartbeats 4000000
namespace K45
open PySem PySem.Spec PyProof.Rows L2
open SG (gv lf rt optI Nd Dy sc form Le WfY)
abbrev Ls.push (S : Ls) (l r : List Nat) : Ls := { S with ns := S.ns ++ [⟨l, r, .mk (l.map (gv S.ns)) (r.map (gv S.ns))⟩] }
theorem lpush_ext (S : Ls) (l r : List Nat) : LExt S (S.push l r) := ⟨⟨_, rfl⟩, fun _ h => h⟩
theorem lwf_push {S : Ls} (w : LWf S) {l r : List Nat} (h1 : S.N + S.cand.length + 1 ≤ 4000) (hl : l.Pairwise (· < ·)) (hr : r.Pairwise (· < ·)) (bl : ∀ o ∈ l, o < S.N) (br : ∀ o ∈ r, o < S.N) (hn : ∀ i, i < S.N → ¬ (lf S.ns i = l ∧ rt S.ns i = r)) : LWf (S.push l r) := by
  have x := lpush_ext S l r
  have len : (S.push l r).N = S.N + 1 := by
    show (S.ns ++ [_]).length = _
    rw [List.length_append]
    rfl
  refine ⟨w.clo, w.wy.app hl hr bl br fun i nd e q => ?_, fun i j b h => ?_, w.ovk, fun v i h => ?_, w.mdk, by rw [len]; show S.N + 1 + S.cand.length ≤ 4000; omega⟩
  · obtain ⟨_, e2, e3⟩ := SG.gv_at e
    exact hn i (List.getElem?_eq_some_iff.mp e).1 ⟨by rw [e2]; exact q.1, by rw [e3]; exact q.2⟩
  · obtain ⟨a, b', c⟩ := w.ov i j b h
    rw [x.g a, x.g b']
    exact ⟨x.lt a, x.lt b', c⟩
  · obtain ⟨a, b', c, d⟩ := w.md v i h
    rw [x.g a]
    exact ⟨x.lt a, b', c, d⟩
theorem lnmK_push {S : Ls} (l r : List Nat) : nmK (S.push l r).ns = nmK S.ns ++ [(((l.map fun o : Nat => (o : Int)), (r.map fun o : Nat => (o : Int))), nV S.N)] := by
  unfold nmK
  rw [show (S.push l r).ns.length = S.ns.length + 1 by show (S.ns ++ [_]).length = _; rw [List.length_append]; rfl, List.range_succ, List.map_append]
  congr 1
  · refine List.map_congr_left fun i hi => ?_
    have := SG.gv_app (more := [⟨l, r, .mk (l.map (gv S.ns)) (r.map (gv S.ns))⟩]) (List.mem_range.mp hi)
    unfold keyI
    show ((_, _), _) = _
    rw [this.2.1, this.2.2]
  · have q := SG.gv_at (ns := (S.push l r).ns) (i := S.ns.length) (nd := ⟨l, r, .mk (l.map (gv S.ns)) (r.map (gv S.ns))⟩) (by
      show (S.ns ++ [_])[S.ns.length]? = _
      rw [List.getElem?_append_right (Nat.le_refl _), Nat.sub_self]
      rfl)
    show [(keyI (S.push l r).ns S.ns.length, nV S.ns.length)] = _
    unfold keyI
    rw [q.2.1, q.2.2]
theorem lhhL_push {S : Ls} (l r : List Nat) : hhL (S.push l r).ns = hhL S.ns ++ [nV (SG.ht (.mk (l.map (gv S.ns)) (r.map (gv S.ns))))] := by
  unfold hhL
  rw [show (S.push l r).ns.length = S.ns.length + 1 by show (S.ns ++ [_]).length = _; rw [List.length_append]; rfl, List.range_succ, List.map_append]
  congr 1
  · refine List.map_congr_left fun i hi => ?_
    rw [(SG.gv_app (more := [⟨l, r, .mk (l.map (gv S.ns)) (r.map (gv S.ns))⟩]) (List.mem_range.mp hi)).1]
  · have q := SG.gv_at (ns := (S.push l r).ns) (i := S.ns.length) (nd := ⟨l, r, .mk (l.map (gv S.ns)) (r.map (gv S.ns))⟩) (by
      show (S.ns ++ [_])[S.ns.length]? = _
      rw [List.getElem?_append_right (Nat.le_refl _), Nat.sub_self]
      rfl)
    show [nV (SG.ht (gv (S.push l r).ns S.ns.length))] = _
    rw [q.1]
def spLKeep (P : Program) (w : World) : Sp := fun vs H Q _ => ∃ (A : La) (S : Ls) (la ra : Addr) (xs ys : List Nat), vs = [.ref A.st, .ref la, .ref ra] ∧ LAt P w A S H ∧ H la = some (.lst (xs.map nV)) ∧ H ra = some (.lst (ys.map nV)) ∧
  xs.length ≤ 2000 ∧ ys.length ≤ 2000 ∧ (∀ x ∈ xs, x < S.N) ∧ (∀ x ∈ ys, x < S.N) ∧ ∀ l r : List Nat, l.Pairwise (· < ·) → (∀ k, k ∈ l ↔ k ∈ xs) → r.Pairwise (· < ·) → (∀ k, k ∈ r ↔ k ∈ ys) →
    (∀ i H', i < S.N → lf S.ns i = l → rt S.ns i = r → LAt P w A S H' → LKeep A H H' → Q (nV i) H') ∧
    ((∀ i, i < S.N → ¬ (lf S.ns i = l ∧ rt S.ns i = r)) → S.N + S.cand.length + 1 ≤ 4000 ∧ ∀ H', LAt P w A (S.push l r) H' → LKeep A H H' → Q (nV S.N) H')
end K45
end
section
set_option Elab.async false
set_option linter.all false
set_option maxRecDepth 100000
set_option maxHeartbeats 4000000
namespace K45
open PySem PySem.Spec PyProof.Rows L2
open SG (gv lf rt optI Nd Dy sc form Le WfY)
theorem sc_keep : FnScope ["_law_store_here", "_law_lefts", "_law_rights", "_law_form", "_law_ids", "_law_rows", "_law_heights", "_law_k"] ["_law_store_here", "_law_lefts", "_law_rights"] (defScope s__law_keep) := ⟨rfl, rfl, rfl, by decide +kernel, rfl, by decide +kernel, by decide +kernel⟩
section
variable {P : Program} {w : World} {K : PySem.W.Frag} {mg : Str → Option Value} {base : Heap} (T : Tx K mg)
include T
theorem k_lkeep : C8.Cal P w K mg base 2 "_law_keep" (spLKeep P w) [] := by
  refine cal_by (t_glo__law_keep T) (t_fn__law_keep T) sc_keep (fun vs H Q E h => ?_) (fun _ _ _ _ _ _ us hl => match us, hl with | [_, _, _], _ => rfl) (fun cdv A0 outer s H vs Q E hr h => ?_)
  · obtain ⟨A, S, la, ra, xs, ys, rfl, _⟩ := h
    rfl
  · obtain ⟨A, S, la, ra, xs, ys, rfl, h, hla, hra, lx, ly, bx, by_, k⟩ := h
    have hu := hu_of hr
    refine ⟨_, pss_cons (ps_set (i := 3) sc_keep.nd rfl (.inl rfl) (pe_tup (pa_cons (C8.pe_c (k_llot T) hr (by decide) (by rfl) (pa_cons (pv 1) pa_nil)) (pa_cons (C8.pe_c (k_llot T) hr (by decide) (by rfl) (pa_cons (pv 2) pa_nil)) pa_nil))))
      (pss_cons (ps_set (i := 4) sc_keep.nd rfl (.inl rfl) (pe_dget hu (pv 0) pe_str (fun _ _ => rfl)))
      (pss_cons (ps_if (pt_cmpR (or_nnotin hr.units) (pv 3) (pv 4) (by rfl))
        (pss_cons (ps_asg (pe_callB call_len_seq (by rfl) (t_fr_len T) PySem.boot_len (pa_cons (pe_dget hu (pv 0) pe_str (fun _ _ => rfl)) pa_nil)) (pg_sub (pv 4) (pv 3) (set_nput hr.units)))
        (pss_cons (ps_set (i := 5) sc_keep.nd rfl (.inl rfl) (pe_dget hu (pv 0) pe_str (fun _ _ => rfl)))
        (pss_cons (ps_expr (pe_bm PySem.F.plainAttrs_list PySem.F.slot_list_append PySem.F.type_list_append mt_append (pv 5) (pa_cons (pv 3) pa_nil)))
        (pss_cons (ps_set (i := 6) sc_keep.nd rfl (.inr rfl) (pe_dget hu (pv 0) pe_str (fun _ _ => rfl)))
        (pss_one (ps_expr (pe_bm PySem.F.plainAttrs_list PySem.F.slot_list_append PySem.F.type_list_append mt_append (pv 6) (pa_cons
          (pe_callB (cr_max rfl) (by rfl) (t_fr_max T) (by decide +kernel) (pa_cons (pe_op op_cat (pe_lst (pa_cons pe_int pa_nil))
            (pe_lc (own := [("_law_k", 7)]) (g := gName 7) (tt := tYes) rfl sc_keep.nd (pi_tup (pe_op op_catU (pe_ix ix_tup (pv 3) pe_int (fun _ _ => rfl)) (pe_ix ix_tup (pv 3) pe_int (fun _ _ => rfl))))
              (blkOk_by (N := ["_law_store_here", "_law_lefts", "_law_rights", "_law_form", "_law_ids", "_law_rows", "_law_heights", "_law_k"]) (sc := defScope s__law_keep) (by decide +kernel)) (fun _ _ _ _ _ => pg_name (i := 7) sc_keep.nd rfl (Or.inl rfl)) (fun _ _ _ _ _ => pts_nil)
              (fun _ _ _ _ _ => pe_op op_add pe_int (pe_ix (ix_listK K rfl) (pv 6) (pv 7) (fun _ _ => rfl))))) pa_nil)) pa_nil))))))))
        pss_nil)
      (pss_one (ps_ret (pe_nget hr.units (pv 4) (pv 3) (fun _ _ => rfl)))))), ?_⟩
    have small : ∀ n : Nat, n ≤ 20000 → n ≤ sizeLine := fun n hn => by rw [sizeLine_eq]; omega
    refine ⟨_, rfl, la, xs, rfl, hla, lx, fun l H1 t1 sl ml s1 n1 e1 => ?_⟩
    refine ⟨_, rfl, ra, ys, rfl, s1 _ _ hra, ly, fun r H2 t2 sr mr s2 n2 e2 => ?_⟩
    refine ⟨by show 2 ≤ sizeLine; decide, fun b hb => ?_⟩
    have s3 := same_upd (H := H2) (o := .tup [.ref t1, .ref t2]) hb
    have eb : upd H2 b (.tup [.ref t1, .ref t2]) b = some (.tup [.ref t1, .ref t2]) := upd_same
    have e13 := s3 _ _ (s2 _ _ e1)
    have e23 := s3 _ _ e2
    have sA : Same H (upd H2 b (.tup [.ref t1, .ref t2])) := Same.trans' s1 (Same.trans' s2 s3)
    generalize upd H2 b (.tup [.ref t1, .ref t2]) = H5 at s3 eb e13 e23 sA
    have h5 := h.same sA
    have key : KeyAt H5 b ((l.map fun o : Nat => (o : Int)), (r.map fun o : Nat => (o : Int))) := ⟨t1, t2, eb, by rw [List.map_map]; exact e13, by rw [List.map_map]; exact e23⟩
    obtain ⟨k1, k2⟩ := k l r sl ml sr mr
    refine ⟨_, rfl, A.st, .ref A.id, rfl, DGet.k (k := Sum.inr "ids") h5.st, ?_⟩
    refine ⟨_, rfl, _, rfl, b, A.id, nmK S.ns, _, rfl, rfl, h5.id, key, _, rfl, ?_⟩
    obtain ⟨v1, v2⟩ := nm_val (l := l) (r := r) S.ns (List.range S.ns.length)
    cases ev : valV (nmK S.ns) ((l.map fun o : Nat => (o : Int)), (r.map fun o : Nat => (o : Int))) with
    | some v =>
      obtain ⟨i, hi, rfl, g1, g2⟩ := v1 v ev
      exact iteF ⟨_, rfl, _, rfl, A.id, b, nmK S.ns, _, _, rfl, rfl, h5.id, key, ev, k1 i H5 (List.mem_range.mp hi) g1 g2 h5 (LKeep.same sA)⟩
    | none =>
      have fresh := v2 ev
      obtain ⟨sl1, kk⟩ := k2 fun i hi => fresh i (List.mem_range.mpr hi)
      have bl : ∀ o ∈ l, o < S.N := fun o ho => bx o ((ml o).mp ho)
      have br : ∀ o ∈ r, o < S.N := fun o ho => by_ o ((mr o).mp ho)
      have wf' := lwf_push h.wf sl1 sl sr bl br fun i hi => fresh i (List.mem_range.mpr hi)
      have nn : S.ns.length ≤ 4000 := by have := h.wf.bud; show S.N ≤ 4000; omega
      obtain ⟨⟨ts, eF, lF, oF⟩, eH, eN⟩ := And.intro h5.fo (And.intro h5.he h5.id)
      obtain ⟨nx, exN, _⟩ := id eN
      refine iteT ?_
      refine ⟨_, rfl, A.st, .ref A.fo, rfl, DGet.k (k := Sum.inr "forms") h5.st, A.fo, _, rfl, .inl (SqL.of eF), ?_⟩
      refine ⟨_, rfl, _, rfl, A.id, b, nmK S.ns, _, rfl, rfl, eN, key, ev, ?_, fun H6 d6 o6 => ?_⟩
      · unfold nmK
        rw [List.length_map, List.length_range, sizeLine_eq]
        omega
      have vN : (V.int ((ts.map V.ref).length : Int)) = nV S.N := by rw [List.length_map, lF]
      rw [vN] at d6
      have ne6 : ∀ {c o}, H5 c = some o → (∀ φ, o ≠ .ext φ) → H6 c = some o := fun {c o} e n => by
        rw [o6 c (fun q => n _ (Option.some.inj ((q ▸ e).symm.trans exN)))]
        exact e
      have st6 := ne6 h5.st (fun _ z => by cases z)
      have eb6 := ne6 eb (fun _ z => by cases z)
      have e16 := ne6 e13 (fun _ z => by cases z)
      have e26 := ne6 e23 (fun _ z => by cases z)
      have eF6 := ne6 eF (fun _ z => by cases z)
      have eH6 := ne6 eH (fun _ z => by cases z)
      -- the forms
      refine ⟨_, rfl, A.st, .ref A.fo, rfl, DGet.k (k := Sum.inr "forms") st6, ?_⟩
      refine ⟨_, rfl, .inl ⟨rfl, _, SqL.of eF6⟩, _, rfl, A.fo, _, _, rfl, rfl, eF6, by rw [List.length_map, lF, sizeLine_eq]; omega, ?_⟩
      have eF7 : upd H6 A.fo (.lst (ts.map V.ref ++ [.ref b])) A.fo = some (.lst (ts.map V.ref ++ [.ref b])) := upd_same
      have o7 : ∀ c o, c ≠ A.fo → H6 c = some o → upd H6 A.fo (.lst (ts.map V.ref ++ [.ref b])) c = some o := fun c o n e => (upd_ne n).trans e
      have st7 := o7 _ _ (ne_of st6 eF6 (by intro z; cases z)) st6
      have eb7 := o7 _ _ (ne_of eb6 eF6 (by intro z; cases z)) eb6
      have e17 := o7 _ _ (ne_of e16 eF6 (by intro z; cases z)) e16
      have e27 := o7 _ _ (ne_of e26 eF6 (by intro z; cases z)) e26
      have eH7 := o7 _ _ h.d1.symm eH6
      generalize upd H6 A.fo (.lst (ts.map V.ref ++ [.ref b])) = H8 at eF7 o7 st7 eb7 e17 e27 eH7 ⊢
      -- the heights
      refine ⟨_, rfl, A.st, .ref A.he, rfl, DGet.k (k := Sum.inr "heights") st7, ?_⟩
      refine ⟨_, rfl, .inl ⟨rfl, _, SqL.of eH7⟩, ?_⟩
      refine ⟨by show 1 ≤ sizeLine; decide, fun z hz => ?_⟩
      have s9 := same_upd (H := H8) (o := .lst [V.int 0]) hz
      have ez9 : upd H8 z (.lst [V.int 0]) z = some (.lst [V.int 0]) := upd_same
      have eb9 := s9 _ _ eb7
      have ll : l.length ≤ 2000 := Nat.le_trans (SG.len_sub (SG.rise_nodup sl) fun x hx => (ml x).mp hx) lx
      have lr' : r.length ≤ 2000 := Nat.le_trans (SG.len_sub (SG.rise_nodup sr) fun x hx => (mr x).mp hx) ly
      refine ⟨_, rfl, b, _, 0, .ref t1, rfl, rfl, SqT.of eb9, rfl, _, rfl, b, _, 1, .ref t2, rfl, rfl, SqT.of eb9, rfl, t1, t2, l.map nV, r.map nV, rfl, rfl, s9 _ _ e17, s9 _ _ e27, small _ (by rw [List.length_map, List.length_map]; omega), fun pp Hc ep sc' => ?_⟩
      have sA8 : Same H8 Hc := Same.trans' s9 sc'
      refine ⟨pp, rfl, ⟨_, SqT.of ep⟩, fun D hD => lc_tup (K := K) (a := pp) (xs := l.map nV ++ r.map nV) (fun i H2 => H2 D = some (.lst (((l ++ r).take i).map fun o => V.int (1 + (SG.ht (gv S.ns o) : Int)))) ∧ ∀ c o, c ≠ D → Hc c = some o → H2 c = some o)
        ⟨upd_same, fun c o n e => (upd_ne n).trans e⟩ (fun i H2 _ q => SqT.of (q.2 _ _ (ne_of_none ep hD) ep)) ?_ ?_⟩
      · rintro i x H2 hi ⟨q1, q2⟩
        rw [← List.map_append] at hi
        obtain ⟨o, ho, rfl⟩ := nV_get hi
        have lo : o < S.ns.length := by
          rcases List.mem_append.mp (List.mem_of_getElem? ho) with m | m
          · exact bl o m
          · exact br o m
        have ehc := q2 _ _ (ne_of_none (sA8 _ _ eH7) hD) (sA8 _ _ eH7)
        refine ⟨rfl, ?_⟩
        refine ⟨_, rfl, _, rfl, A.he, hhL S.ns, o, nV (SG.ht (gv S.ns o)), rfl, rfl, SqL.of ehc, atI_nat ?_, _, _, rfl, rfl, _, q1, ?_, ?_, fun c o' n e => (upd_ne n).trans (q2 c o' n e)⟩
        · unfold hhL
          rw [List.getElem?_map, List.getElem?_range lo]
          rfl
        · rw [List.length_map, List.length_take, List.length_append, sizeLine_eq]
          omega
        · rw [upd_same, List.take_add_one, ho, List.map_append]
          rfl
      · rintro H2 ⟨q1, q2⟩
        have eD : H2 D = some (.lst ((l ++ r).map fun o => V.int (1 + (SG.ht (gv S.ns o) : Int)))) := by
          rw [q1, List.take_of_length_le (by rw [List.length_append, List.length_append, List.length_map, List.length_map]; exact Nat.le_refl _)]
        refine ⟨z, D, _, _, rfl, rfl, q2 _ _ (ne_of_none (sc' _ _ ez9) hD) (sc' _ _ ez9), eD, small _ (by rw [List.length_map, List.length_append]; show 1 + _ ≤ 20000; omega), fun c hc => ?_⟩
        have sB8 : Same H8 H2 := fun a o e => q2 a o (ne_of_none (sA8 _ _ e) hD) (sA8 _ _ e)
        have sC8 : Same H8 (upd H2 c (.lst ([V.int 0] ++ (l ++ r).map fun o => V.int (1 + (SG.ht (gv S.ns o) : Int))))) := Same.trans' sB8 (same_upd hc)
        refine ⟨c, (0 : Int) :: (l ++ r).map (fun o => (1 + (SG.ht (gv S.ns o) : Int))), rfl, SqL.of ?_, Nat.zero_lt_succ _, fun m hm hle => ?_⟩
        · rw [upd_same, List.map_cons, List.map_map]
          rfl
        have em := top_ht hm hle
        subst em
        refine ⟨A.he, _, _, rfl, rfl, sC8 _ _ eH7, ?_, ?_⟩
        · unfold hhL
          rw [List.length_map, List.length_range, sizeLine_eq]
          omega
        generalize upd H2 c (.lst ([V.int 0] ++ (l ++ r).map fun o => V.int (1 + (SG.ht (gv S.ns o) : Int)))) = H9 at sC8
        have eH10 : upd H9 A.he (.lst (hhL S.ns ++ [V.int (SG.ht (.mk (l.map (gv S.ns)) (r.map (gv S.ns))) : Int)])) A.he = some (.lst (hhL S.ns ++ [V.int (SG.ht (.mk (l.map (gv S.ns)) (r.map (gv S.ns))) : Int)])) := upd_same
        have o10 : ∀ c o, c ≠ A.he → H9 c = some o → upd H9 A.he (.lst (hhL S.ns ++ [V.int (SG.ht (.mk (l.map (gv S.ns)) (r.map (gv S.ns))) : Int)])) c = some o := fun c o n e => (upd_ne n).trans e
        generalize upd H9 A.he (.lst (hhL S.ns ++ [V.int (SG.ht (.mk (l.map (gv S.ns)) (r.map (gv S.ns))) : Int)])) = H10 at eH10 o10 ⊢
        have all : ∀ c o, H5 c = some o → c ≠ A.id → c ≠ A.fo → c ≠ A.he → H10 c = some o := fun c o e n1 n2 n3 => o10 _ _ n3 (sC8 _ _ (o7 _ _ n2 ((o6 c n1).trans e)))
        have allk : ∀ c o, H5 c = some o → (∀ φ, o ≠ .ext φ) → (∀ xs, o ≠ .lst xs) → H10 c = some o := fun c o e n1 n2 => all c o e (fun q => n1 _ (Option.some.inj ((q ▸ e).symm.trans exN))) (fun q => n2 _ (Option.some.inj ((q ▸ e).symm.trans eF))) (fun q => n2 _ (Option.some.inj ((q ▸ e).symm.trans eH)))
        have tupk : ∀ c xs, H5 c = some (.tup xs) → H10 c = some (.tup xs) := fun c xs e => allk c _ e (fun _ z => by cases z) (fun _ z => by cases z)
        obtain ⟨nx6, exN6, rel6⟩ := id d6
        have exN7 := o7 _ _ (ne_of exN6 eF6 (by intro z; cases z)) exN6
        have exN10 := o10 _ _ (ne_of (sC8 _ _ exN7) (sC8 _ _ eH7) (by intro z; cases z)) (sC8 _ _ exN7)
        have tup6 : ∀ c xs, H6 c = some (.tup xs) → H10 c = some (.tup xs) := fun c xs e => by
          have q7 := sC8 _ _ (o7 _ _ (ne_of e eF6 (by intro z; cases z)) e)
          exact o10 _ _ (ne_of q7 (sC8 _ _ eH7) (by intro z; cases z)) q7
        have eN10 : NDict P w H10 A.id (nmK S.ns ++ [(((l.map fun o : Nat => (o : Int)), (r.map fun o : Nat => (o : Int))), nV S.N)]) := d6.mono (fun o e => by rw [exN6] at e; rw [← e]; exact exN10) tup6
        have key10 : KeyAt H10 b ((l.map fun o : Nat => (o : Int)), (r.map fun o : Nat => (o : Int))) := key.mono tupk
        have at10 : LAt P w A (S.push l r) H10 := by
          refine ⟨allk _ _ h5.st (fun _ z => by cases z) (fun _ z => by cases z), ⟨ts ++ [b], ?_, ?_, fun i t q => ?_⟩, by rw [lhhL_push]; exact eH10, by rw [lnmK_push]; exact eN10, allk _ _ h5.ov (fun _ z => by cases z) (fun _ z => by cases z), allk _ _ h5.md (fun _ z => by cases z) (fun _ z => by cases z), h.d1, h.d2, wf'⟩
          · rw [List.map_append]
            exact o10 _ _ h.d1 (sC8 _ _ eF7)
          · show _ = (S.ns ++ [_]).length
            rw [List.length_append, List.length_append, lF]
            rfl
          · by_cases hi : i < ts.length
            · rw [List.getElem?_append_left hi] at q
              have := SG.gv_app (more := [⟨l, r, .mk (l.map (gv S.ns)) (r.map (gv S.ns))⟩]) (show i < S.ns.length by omega)
              have e : keyI (S.push l r).ns i = keyI S.ns i := by
                unfold keyI
                show (_, _) = _
                rw [this.2.1, this.2.2]
              rw [e]
              exact (oF i t q).mono tupk
            · rw [List.getElem?_append_right (by omega)] at q
              have z : i - ts.length = 0 := by
                by_cases z : i - ts.length = 0
                · exact z
                · rw [List.getElem?_eq_none (by simp; omega)] at q
                  cases q
              rw [z] at q
              cases q
              have ei : i = S.ns.length := by omega
              subst ei
              have q := SG.gv_at (ns := (S.push l r).ns) (i := S.ns.length) (nd := ⟨l, r, .mk (l.map (gv S.ns)) (r.map (gv S.ns))⟩) (by
                show (S.ns ++ [_])[S.ns.length]? = _
                rw [List.getElem?_append_right (Nat.le_refl _), Nat.sub_self]
                rfl)
              unfold keyI
              rw [q.2.1, q.2.2]
              exact key10
        have keep : LKeep A H H10 := fun c o e n => all c o (sA _ _ e) (fun q => n (by rw [q]; simp [La.mut])) (fun q => n (by rw [q]; simp [La.mut])) (fun q => n (by rw [q]; simp [La.mut]))
        exact ⟨_, rfl, _, rfl, A.id, b, _, _, nV S.N, rfl, rfl, eN10, key10, by rw [valV_snoc _ _ _ _ ev, if_pos rfl], kk H10 at10 keep⟩
end
end K45
end
section
set_option Elab.async false
set_option linter.all false
set_option maxRecDepth 100000
set_option maxHeartbeats 4000000
namespace K45
open PySem PySem.Spec PyProof.Rows L2
open SG (gv lf rt optI Nd Dy sc form Le WfY)
open Classical in
/-- a number's entry: it is a candidate no longer -/
theorem lwf_md {S : Ls} (w : LWf S) {v : Dy} {i : Nat} (hv : v ∈ S.cand) (hi : i < S.N) (hg : S.g i = form 64 (sc v)) : ∃ m, LWf { S with md := putL S.md v i, cand := m } ∧ LExt S { S with md := putL S.md v i, cand := m } ∧ m.length + 1 = S.cand.length := by
  obtain ⟨m, h1, h2, h3⟩ : ∃ m : List Dy, (∀ x, x ∈ S.cand → x ≠ v → x ∈ m) ∧ (∀ x ∈ m, x ∈ S.cand) ∧ m.length + 1 = S.cand.length := by
    obtain ⟨a, b, e⟩ := List.append_of_mem hv
    rw [e]
    refine ⟨a ++ b, fun x hx ne => ?_, fun x hx => ?_, by simp only [List.length_append, List.length_cons]; omega⟩
    · rcases List.mem_append.mp hx with hx | hx
      · exact List.mem_append_left _ hx
      · rcases List.mem_cons.mp hx with q | hx
        · exact absurd q ne
        · exact List.mem_append_right _ hx
    · rcases List.mem_append.mp hx with hx | hx
      · exact List.mem_append_left _ hx
      · exact List.mem_append_right _ (List.mem_cons_of_mem _ hx)
  have kp : ∀ u, u ∈ S.md.map (·.1) ∨ u = v → u ∈ (putL S.md v i).map (·.1) := fun u h => by
    unfold putL
    by_cases c : v ∈ S.md.map (·.1)
    · rw [if_pos c]
      have e : (S.md.map (fun e => if e.1 = v then (v, i) else e)).map (·.1) = S.md.map (·.1) := by
        rw [List.map_map]
        refine List.map_congr_left fun e _ => ?_
        show (if e.1 = v then (v, i) else e).1 = e.1
        by_cases q : e.1 = v
        · rw [if_pos q]; exact q.symm
        · rw [if_neg q]
      rw [e]
      rcases h with h | h
      · exact h
      · rw [h]; exact c
    · rw [if_neg c, List.map_append]
      rcases h with h | h
      · exact List.mem_append_left _ h
      · rw [h]; exact List.mem_append_right _ (by simp)
  have kn : ∀ u, Kn S u → Kn { S with md := putL S.md v i, cand := m } u := fun u h => by
    by_cases c : u = v
    · exact .inr (kp u (.inr c))
    · rcases h with h | h
      · exact .inl (h1 u h c)
      · exact .inr (kp u (.inl h))
  have back : ∀ u, Kn { S with md := putL S.md v i, cand := m } u → Kn S u := fun u h => by
    rcases h with h | h
    · exact .inl (h2 u h)
    · obtain ⟨e, he, rfl⟩ := List.mem_map.mp h
      rcases mem_putL he with he | he
      · exact .inr (List.mem_map.mpr ⟨e, he, rfl⟩)
      · rw [he]; exact .inl hv
  have cv := w.clo v (.inl hv)
  refine ⟨m, ⟨fun u hu => ?_, w.wy, w.ov, w.ovk, fun u j h => ?_, keys_putL w.mdk, by have := w.bud; show S.N + m.length ≤ 4000; omega⟩, ⟨⟨[], (List.append_nil _).symm⟩, kn⟩, h3⟩
  · obtain ⟨c1, c2, c3, c4, c5, c6⟩ := w.clo u (back u hu)
    exact ⟨c1, c2, c3, c4, fun q => kn _ (c5 q), fun q => kn _ (c6 q)⟩
  · rcases mem_putL h with h | h
    · exact w.md u j h
    · injection h with q1 q2
      subst q1 q2
      exact ⟨hi, cv.1, by have := cv.2.1; omega, hg⟩
end K45
end
section
set_option Elab.async false
set_option linter.all false
set_option maxRecDepth 100000
set_option maxHeartbeats 4000000
namespace K45
open PySem PySem.Spec PyProof.Rows L2
open SG (gv lf rt optI Nd Dy sc form Le WfY redu Plain)
theorem LAt.fresh {P : Program} {w : World} {A : La} {S : Ls} {H : Hp} (h : LAt P w A S H) {c : Addr} (hc : H c = none) : c ∉ A.mut := fun m => by
  have : H c ≠ none := by
    simp only [La.mut, List.mem_cons, List.not_mem_nil, or_false] at m
    obtain ⟨nx, exn, _⟩ := h.id
    rcases m with rfl | rfl | rfl | rfl | rfl
    · obtain ⟨ts, e, _⟩ := h.fo; rw [e]; simp
    · rw [h.he]; simp
    · rw [exn]; simp
    · rw [h.ov]; simp
    · rw [h.md]; simp
  exact this hc
theorem LAt.lst' {P : Program} {w : World} {A : La} {S : Ls} {H : Hp} (h : LAt P w A S H) {D : Addr} {xs : List V} (hD : H D = some (.lst xs)) (n : D ∉ A.mut) (ys : List V) : LAt P w A S (upd H D (.lst ys)) := by
  have k : ∀ b o, H b = some o → (∀ xs, o ≠ .lst xs) → upd H D (.lst ys) b = some o := fun b o e ne => (upd_ne fun q => ne xs (Option.some.inj ((q ▸ e).symm.trans hD))).trans e
  have m : ∀ b, b ∈ A.mut → ∀ o, H b = some o → upd H D (.lst ys) b = some o := fun b hb o e => (upd_ne fun q => n (by rw [← q]; exact hb)).trans e
  exact ⟨k _ _ h.st (fun _ z => by cases z), h.fo.of (fun _ e => m _ (by simp [La.mut]) _ e) (fun _ _ e => k _ _ e (fun _ z => by cases z)), m _ (by simp [La.mut]) _ h.he, h.id.mono (fun _ e => m _ (by simp [La.mut]) _ e) (fun _ _ e => k _ _ e (fun _ z => by cases z)), m _ (by simp [La.mut]) _ h.ov, m _ (by simp [La.mut]) _ h.md, h.d1, h.d2, h.wf⟩
theorem lkeep_lst {A : La} {H0 H : Hp} {D : Addr} {o : HO} (h : LKeep A H0 H) (hD : H0 D = none) : LKeep A H0 (upd H D o) := fun b q e n => (upd_ne (ne_of_none e hD)).trans (h b q e n)
theorem lkeep_none {A : La} {H H' : Hp} {c : Addr} (k : LKeep A H H') (n : c ∉ A.mut) (h : H' c = none) : H c = none := by
  cases e : H c with
  | none => rfl
  | some o => have := k _ _ e n; rw [h] at this; cases this
/-- the store of a number's entry -/
theorem LAt.md2 {P : Program} {w : World} {A : La} {S S' : Ls} {H : Hp} (h : LAt P w A S H) {v : Dy} {i : Nat} (w' : LWf S') (e1 : S'.ns = S.ns) (e2 : S'.ov = S.ov) (e3 : S'.md = putL S.md v i) :
    LAt P w A S' (upd H A.md (.dT (putK (S.md.map mdE) [Sum.inl v.t, kN v.p] (nV i)))) ∧ LKeep A H (upd H A.md (.dT (putK (S.md.map mdE) [Sum.inl v.t, kN v.p] (nV i)))) := by
  have k : ∀ c o', c ≠ A.md → H c = some o' → upd H A.md (.dT (putK (S.md.map mdE) [Sum.inl v.t, kN v.p] (nV i))) c = some o' := fun c o' n e => (upd_ne n).trans e
  have kk : ∀ c o', H c = some o' → (∀ x, o' ≠ .dT x) → upd H A.md (.dT (putK (S.md.map mdE) [Sum.inl v.t, kN v.p] (nV i))) c = some o' := fun c o' e n => k c o' (fun q => n _ (Option.some.inj ((q ▸ e).symm.trans h.md))) e
  have e : upd H A.md (.dT (putK (S.md.map mdE) [Sum.inl v.t, kN v.p] (nV i))) A.md = some (.dT (S'.md.map mdE)) := by
    have q := put_map (f := mdE) (kf := fun e : Dy => [Sum.inl e.t, kN e.p]) (vf := nV) (fun _ => rfl) mdK_inj S.md v i
    rw [upd_same, e3]
    exact congrArg (fun z => some (HO.dT z)) q
  obtain ⟨nx, exn, _⟩ := h.id
  obtain ⟨ts, ef, _⟩ := h.fo
  refine ⟨⟨kk _ _ h.st (fun _ z => by cases z), by rw [e1]; exact h.fo.of (fun o q => by rw [ef] at q; rw [← q]; exact kk _ _ ef (fun _ z => by cases z)) (fun c xs q => kk _ _ q (fun _ z => by cases z)), by rw [e1]; exact kk _ _ h.he (fun _ z => by cases z), by rw [e1]; exact h.id.mono (fun o q => by rw [exn] at q; rw [← q]; exact kk _ _ exn (fun _ z => by cases z)) (fun c xs q => kk _ _ q (fun _ z => by cases z)), by rw [e2]; exact k _ _ h.d2 h.ov, e, h.d1, h.d2, w'⟩, fun c o q n => k c o (fun z => n (by rw [z]; simp [La.mut])) q⟩
def spLNum (P : Program) (w : World) (n : Nat) : Sp := fun vs H Q _ => ∃ (A : La) (S : Ls) (t : Int) (p : Nat), vs = [.ref A.st, .int t, .int (p : Int)] ∧ p ≤ 60 ∧ LAt P w A S H ∧ Kn S (redu t p) ∧ S.N + S.cand.length ≤ 3900 ∧ SG.ht (form 64 (sc (redu t p))) < n ∧
  ∀ (S' : Ls) (H' : Hp) (i : Nat), LAt P w A S' H' → LKeep A H H' → LExt S S' → S'.N + S'.cand.length ≤ S.N + S.cand.length → (∀ u ∈ S'.md.map (·.1), u ∈ S.md.map (·.1) ∨ SG.ht (form 64 (sc u)) ≤ SG.ht (form 64 (sc (redu t p)))) → i < S'.N → S'.g i = form 64 (sc (redu t p)) → Q (nV i) H'
/-- a node of single options is its number -/
theorem form_of {S : Ls} (w : LWf S) {v : Dy} {F : Nat} {f1 f2 : List Nat} (pl : Plain v) (p40 : v.p ≤ 40) (lt : F < S.N) (h1 : optI true S.ns F = f1) (h2 : optI false S.ns F = f2)
    (l : f1.map S.g = (if 0 < v.p ∨ 0 < v.t then [form v.p (v.t - 1)] else [])) (r : f2.map S.g = (if 0 < v.p ∨ v.t < 0 then [form v.p (v.t + 1)] else [])) : S.g F = form 64 (sc v) := by
  obtain ⟨a, b⟩ := SG.plain_opts pl
  rw [SG.form_sc (d := v) (by omega)]
  have e := (w.wy.at lt).2.2.2.2
  have e1 : (lf S.ns F).map (gv S.ns) = (form v.p v.t).left := by rw [a, ← l, ← h1]; rfl
  have e2 : (rt S.ns F).map (gv S.ns) = (form v.p v.t).right := by rw [b, ← r, ← h2]; rfl
  show gv S.ns F = _
  rw [e, e1, e2]
  cases form v.p v.t
  rfl
end K45
end
section
set_option Elab.async false
set_option linter.all false
set_option maxRecDepth 100000
set_option maxHeartbeats 4000000
namespace K45
open PySem PySem.Spec PyProof.Rows L2
open SG (gv lf rt optI Nd Dy sc form Le WfY redu Plain)
theorem push_at (S : Ls) (l r : List Nat) : S.N < (S.push l r).N ∧ optI true (S.push l r).ns S.N = l ∧ optI false (S.push l r).ns S.N = r := by
  have q := SG.gv_at (ns := (S.push l r).ns) (i := S.ns.length) (nd := ⟨l, r, .mk (l.map (gv S.ns)) (r.map (gv S.ns))⟩) (by
    show (S.ns ++ [_])[S.ns.length]? = _
    rw [List.getElem?_append_right (Nat.le_refl _), Nat.sub_self]
    rfl)
  refine ⟨?_, q.2.1, q.2.2⟩
  show S.ns.length < (S.ns ++ [_]).length
  rw [List.length_append]
  exact Nat.lt_succ_self _
theorem keep_num {P : Program} {w : World} {A : La} {S : Ls} {H : Hp} {Q : VK} {E : XK} {v : Dy} {f1 f2 : List Nat} {la ra : Addr} (h : LAt P w A S H) (pl : Plain v) (p40 : v.p ≤ 40) (bud : S.N + S.cand.length ≤ 3900) (e3 : H la = some (.lst (f1.map nV))) (e4 : H ra = some (.lst (f2.map nV)))
    (r1 : f1.Pairwise (· < ·)) (r2 : f2.Pairwise (· < ·)) (b1 : ∀ x ∈ f1, x < S.N) (b2 : ∀ x ∈ f2, x < S.N) (n1 : f1.length ≤ 2000) (n2 : f2.length ≤ 2000)
    (l1 : f1.map S.g = (if 0 < v.p ∨ 0 < v.t then [form v.p (v.t - 1)] else [])) (l2 : f2.map S.g = (if 0 < v.p ∨ v.t < 0 then [form v.p (v.t + 1)] else []))
    (rest : ∀ (S7 : Ls) (H7 : Hp) (F : Nat), LAt P w A S7 H7 → LKeep A H H7 → LExt S S7 → S7.N ≤ S.N + 1 → S7.md = S.md → S7.cand = S.cand → F < S7.N → S7.g F = form 64 (sc v) → Q (nV F) H7) : spLKeep P w [.ref A.st, .ref la, .ref ra] H Q E := by
  refine ⟨A, S, la, ra, f1, f2, rfl, h, e3, e4, n1, n2, b1, b2, fun l r sl ml sr mr => ?_⟩
  have z1 : l = f1 := SG.sorted_ext sl r1 ml
  have z2 : r = f2 := SG.sorted_ext sr r2 mr
  subst z1 z2
  refine ⟨fun i H' hi el er h' k' => rest S H' i h' k' (LExt.refl S) (Nat.le_succ _) rfl rfl hi (form_of h.wf pl p40 hi el er l1 l2), fun fr => ⟨by omega, fun H' h' k' => ?_⟩⟩
  obtain ⟨q1, q2, q3⟩ := push_at S l r
  have x := lpush_ext S l r
  refine rest (S.push l r) H' S.N h' k' x ?_ rfl rfl q1 (form_of h'.wf pl p40 q1 q2 q3 ?_ ?_)
  · show (S.ns ++ [_]).length ≤ S.ns.length + 1
    rw [List.length_append]
    exact Nat.le_refl _
  · rw [← l1]
    exact List.map_congr_left fun o ho => x.g (b1 o ho)
  · rw [← l2]
    exact List.map_congr_left fun o ho => x.g (b2 o ho)
theorem lmd_small {S : Ls} (w : LWf S) : S.md.length ≤ S.N := by
  have h : ∀ v : Dy, ∃ k : Nat, v ∈ S.md.map (·.1) → (v, k) ∈ S.md := fun v => by
    by_cases m : v ∈ S.md.map (·.1)
    · obtain ⟨⟨v, k⟩, m', rfl⟩ := List.mem_map.mp m
      exact ⟨k, fun _ => m'⟩
    · exact ⟨0, fun q => absurd q m⟩
  have q := SG.classes (n := S.N) w.mdk (fun v => (h v).choose) (fun v hv => (w.md _ _ ((h v).choose_spec hv)).1) fun v hv v' hv' e => by
    obtain ⟨_, a1, a2, a3⟩ := w.md _ _ ((h v).choose_spec hv)
    obtain ⟨_, b1, b2, b3⟩ := w.md _ _ ((h v').choose_spec hv')
    have e' : (h v).choose = (h v').choose := e
    rw [e'] at a3
    refine SG.sc_inj a1 b1 a2 b2 (SG.form_inj (p := 64) ?_)
    rw [← a3, b3]
    exact SG.al_refl _
  rwa [List.length_map] at q
section
variable {P : Program} {w : World} {K : PySem.W.Frag} {mg : Str → Option Value} {base : Heap} (T : Tx K mg)
include T
theorem k_lnum_step (n : Nat) (ih : C8.Cal P w K mg base (3 + n) "_law_number" (spLNum P w n) []) : C8.Cal P w K mg base (3 + (n + 1)) "_law_number" (spLNum P w (n + 1)) [] := by
  refine cal_by (k := 3 + n) (t_glo__law_number T) (t_fn__law_number T) sc__law_number (fun vs H Q E h => ?_) (fun _ _ _ _ _ _ us hl => match us, hl with | [_, _, _], _ => rfl) (fun cdv A0 outer s H vs Q E hr h => ?_)
  · obtain ⟨A, S, t, p, rfl, _⟩ := h
    rfl
  · obtain ⟨A, S, t, p, rfl, hp, h, hk, hb, hn, k⟩ := h
    have hu := hu_of hr
    refine ⟨_, pss_cons (ps_set (i := 3) sc__law_number.nd rfl (.inl rfl) (C8.pe_c (k_lplain T) hr (by omega) (by rfl) (pa_cons (pv 1) (pa_cons (pv 2) pa_nil))))
      (pss_cons (ps_set (i := 4) sc__law_number.nd rfl (.inl rfl) (pe_dget hu (pv 0) pe_str (fun _ _ => rfl)))
      (pss_cons (ps_if (pt_cmp (pc_dnotin hu (pv 3) (pv 4)))
        (pss_cons (ps_set (i := 5) sc__law_number.nd rfl (.inl rfl) (pe_lst pa_nil))
        (pss_cons (ps_set (i := 6) sc__law_number.nd rfl (.inl rfl) (pe_lst pa_nil))
        (pss_cons (ps_if (PW.pt (pw_or (pt_cmpR op_gt (pe_ix ix_tup (pv 3) pe_int (fun _ _ => rfl)) pe_int (nomark _)) (pw_or1 (pt_cmpR op_gt (pe_ix ix_tup (pv 3) pe_int (fun _ _ => rfl)) pe_int (nomark _)))))
          (pss_one (ps_expr (pe_bm PySem.F.plainAttrs_list PySem.F.slot_list_append PySem.F.type_list_append mt_append (pv 5) (pa_cons (C8.pe_c ih hr (Nat.le_refl _) (by rfl) (pa_cons (pv 0) (pa_cons (pe_op op_sub (pe_ix ix_tup (pv 3) pe_int (fun _ _ => rfl)) pe_int) (pa_cons (pe_ix ix_tup (pv 3) pe_int (fun _ _ => rfl)) pa_nil)))) pa_nil)))) pss_nil)
        (pss_cons (ps_if (PW.pt (pw_or (pt_cmpR op_gt (pe_ix ix_tup (pv 3) pe_int (fun _ _ => rfl)) pe_int (nomark _)) (pw_or1 (pt_cmpR op_lt (pe_ix ix_tup (pv 3) pe_int (fun _ _ => rfl)) pe_int (nomark _)))))
          (pss_one (ps_expr (pe_bm PySem.F.plainAttrs_list PySem.F.slot_list_append PySem.F.type_list_append mt_append (pv 6) (pa_cons (C8.pe_c ih hr (Nat.le_refl _) (by rfl) (pa_cons (pv 0) (pa_cons (pe_op op_add (pe_ix ix_tup (pv 3) pe_int (fun _ _ => rfl)) pe_int) (pa_cons (pe_ix ix_tup (pv 3) pe_int (fun _ _ => rfl)) pa_nil)))) pa_nil)))) pss_nil)
        (pss_one (ps_dput hu (pv 4) (pv 3) (C8.pe_c (k_lkeep T) hr (by omega) (by rfl) (pa_cons (pv 0) (pa_cons (pv 5) (pa_cons (pv 6) pa_nil)))) rfl)))))) pss_nil)
      (pss_one (ps_ret (pe_dget hu (pv 4) (pv 3) (fun _ _ => rfl)))))), ?_⟩
    obtain ⟨v, ev0⟩ : ∃ v, v = redu t p := ⟨_, rfl⟩
    rw [← ev0] at hk hn k
    obtain ⟨pl, p40, tl, th, cL0, cR0⟩ := h.wf.clo v hk
    refine ⟨_, rfl, _, rfl, t, p, rfl, by omega, fun q hq => ?_⟩
    rw [← ev0]
    obtain ⟨h1, k1⟩ := h.new hq (.tup (pairV v))
    have eq : (upd H q (.tup (pairV v))) q = some (.tup (([Sum.inl v.t, kN v.p] : List Key).map kV)) := upd_same
    generalize upd H q (.tup (pairV v)) = H1 at h1 k1 eq
    refine ⟨_, rfl, A.st, .ref A.md, rfl, DGet.k (k := Sum.inr "made") h1.st, ?_⟩
    refine ⟨_, rfl, _, rfl, A.md, _, rfl, DGet.t h1.md eq, _, rfl, ?_⟩
    cases ev : valV (S.md.map mdE) [Sum.inl v.t, kN v.p] with
    | some x =>
      obtain ⟨f, hf, rfl⟩ := val_some (f := mdE) (kf := fun e : Dy => [Sum.inl e.t, kN e.p]) (vf := nV) (a := v) (fun _ => rfl) mdK_inj ev
      have q2 := h.wf.md v f hf
      refine iteF ⟨_, rfl, _, rfl, A.md, nV f, rfl, ?_, k S H1 f h1 k1 (LExt.refl S) (Nat.le_refl _) (fun u hu => .inl hu) q2.1 q2.2.2.2⟩
      rw [← ev]
      exact DGet.t h1.md eq
    | none =>
      have nmd : v ∉ S.md.map (·.1) := val_none (f := mdE) (kf := fun e : Dy => [Sum.inl e.t, kN e.p]) (vf := nV) (a := v) (fun _ => rfl) ev
      refine iteT ⟨by show 0 ≤ sizeLine; decide, fun p3 hp3 => ?_⟩
      obtain ⟨h2, k2⟩ := h1.new hp3 (.lst [])
      have np3 := h1.fresh hp3
      have e3 : (upd H1 p3 (.lst [])) p3 = some (.lst (([] : List Nat).map nV)) := upd_same
      generalize upd H1 p3 (.lst []) = H2 at h2 k2 e3
      refine ⟨by show 0 ≤ sizeLine; decide, fun p4 hp4 => ?_⟩
      obtain ⟨h3, k3⟩ := h2.new hp4 (.lst [])
      have np4 := h2.fresh hp4
      have e4 : (upd H2 p4 (.lst [])) p4 = some (.lst (([] : List Nat).map nV)) := upd_same
      have p34 : p3 ≠ p4 := fun q => by rw [← q, e3] at hp4; cases hp4
      have e3' := k3 _ _ e3 np3
      have kA := k1.trans (k2.trans k3)
      have eqA := h1.tupK (k2.trans k3) _ _ eq
      have nq := h1.nmut eq (fun _ z => by cases z) (fun _ z => by cases z) (fun _ z => by cases z)
      have kh3 : H p3 = none := lkeep_none k1 np3 hp3
      have kh4 : H p4 = none := lkeep_none (k1.trans k2) np4 hp4
      have q3 : q ≠ p3 := ne_of_none eq hp3
      have q4 : q ≠ p4 := ne_of_none (h1.tupK k2 _ _ eq) hp4
      generalize upd H2 p4 (.lst []) = H3 at h3 k3 e4 e3' kA eqA
      have fe := SG.form_sc (d := v) (by omega)
      obtain ⟨ol, or'⟩ := SG.plain_opts pl
      rw [← fe] at ol or'
      have htL : 0 < v.p ∨ 0 < v.t → SG.ht (form 64 (sc (redu (v.t - 1) v.p))) < SG.ht (form 64 (sc v)) := fun c => SG.ht_left (by rw [ol, if_pos c, SG.form_redu (by omega)]; exact List.mem_singleton.mpr rfl)
      have htR : 0 < v.p ∨ v.t < 0 → SG.ht (form 64 (sc (redu (v.t + 1) v.p))) < SG.ht (form 64 (sc v)) := fun c => SG.ht_right (by rw [or', if_pos c, SG.form_redu (by omega)]; exact List.mem_singleton.mpr rfl)
      by_cases cp : 0 < v.p
      · have cL : 0 < v.p ∨ 0 < v.t := .inl cp
        have cR : 0 < v.p ∨ v.t < 0 := .inl cp
        refine ⟨_, rfl, q, _, 1, .int (v.p : Int), rfl, rfl, SqT.of eqA, rfl, _, _, rfl, rfl, _, rfl, ?_⟩
        rw [decide_eq_true (show ((v.p : Nat) : Int) > 0 by omega)]
        refine iteT ?_
        have ht5 := htL cL
        refine ⟨_, rfl, .inl ⟨rfl, _, SqL.of e3'⟩, _, rfl, _, rfl, q, _, 0, .int v.t, rfl, rfl, SqT.of eqA, rfl, _, _, rfl, rfl, _, rfl, q, _, 1, .int (v.p : Int), rfl, rfl, SqT.of eqA, rfl, ?_⟩
        refine ⟨A, S, v.t - 1, v.p, rfl, by omega, h3, (LExt.refl S).md _ (cL0 cL), by have := (Nat.le_refl (S.N + S.cand.length)); omega, by omega, fun S5 H5 f5 h5 kk5 xx5 bb5 mm5 lf5 is5 => ?_⟩
        have eo5 := kk5 _ _ e3' np3
        have k5 : LKeep A H H5 := kA.trans kk5
        refine ⟨p3, _, _, rfl, rfl, eo5, by show 0 < sizeLine; decide, ?_⟩
        have x5 : LExt S S5 := (LExt.refl S).trans xx5
        have b5 : S5.N + S5.cand.length ≤ S.N + S.cand.length := Nat.le_trans bb5 (Nat.le_refl (S.N + S.cand.length))
        have m5 : ∀ u ∈ S5.md.map (·.1), u ∈ S.md.map (·.1) ∨ SG.ht (form 64 (sc u)) < SG.ht (form 64 (sc v)) := fun u hu => (mm5 u hu).elim ((fun (u : Dy) (hu : u ∈ S.md.map (·.1)) => (Or.inl hu : u ∈ S.md.map (·.1) ∨ SG.ht (form 64 (sc u)) < SG.ht (form 64 (sc v)))) u) fun z => .inr (Nat.lt_of_le_of_lt z ht5)
        have hz5 : LAt P w A S5 (upd H5 p3 (.lst (([] : List Nat).map nV ++ [nV f5]))) := h5.lst' eo5 np3 _
        have kz5 : LKeep A H (upd H5 p3 (.lst (([] : List Nat).map nV ++ [nV f5]))) := lkeep_lst k5 kh3
        have ez5 : (upd H5 p3 (.lst (([] : List Nat).map nV ++ [nV f5]))) p3 = some (.lst (([f5] : List Nat).map nV)) := upd_same
        have eq5 : (upd H5 p3 (.lst (([] : List Nat).map nV ++ [nV f5]))) q = some (.tup (([Sum.inl v.t, kN v.p] : List Key).map kV)) := (upd_ne q3).trans (kk5 _ _ eqA nq)
        have ey5 : (upd H5 p3 (.lst (([] : List Nat).map nV ++ [nV f5]))) p4 = some (.lst (([] : List Nat).map nV)) := (upd_ne p34.symm).trans (kk5 _ _ e4 np4)
        refine ⟨_, rfl, q, _, 1, .int (v.p : Int), rfl, rfl, SqT.of eq5, rfl, _, _, rfl, rfl, _, rfl, ?_⟩
        rw [decide_eq_true (show ((v.p : Nat) : Int) > 0 by omega)]
        refine iteT ?_
        have ht6 := htR cR
        refine ⟨_, rfl, .inl ⟨rfl, _, SqL.of ey5⟩, _, rfl, _, rfl, q, _, 0, .int v.t, rfl, rfl, SqT.of eq5, rfl, _, _, rfl, rfl, _, rfl, q, _, 1, .int (v.p : Int), rfl, rfl, SqT.of eq5, rfl, ?_⟩
        refine ⟨A, S5, v.t + 1, v.p, rfl, by omega, hz5, (x5).md _ (cR0 cR), by have := b5; omega, by omega, fun S6 H6 f6 h6 kk6 xx6 bb6 mm6 lf6 is6 => ?_⟩
        have eo6 := kk6 _ _ ey5 np4
        have k6 : LKeep A H H6 := kz5.trans kk6
        refine ⟨p4, _, _, rfl, rfl, eo6, by show 0 < sizeLine; decide, ?_⟩
        have x6 : LExt S S6 := (x5).trans xx6
        have b6 : S6.N + S6.cand.length ≤ S.N + S.cand.length := Nat.le_trans bb6 b5
        have m6 : ∀ u ∈ S6.md.map (·.1), u ∈ S.md.map (·.1) ∨ SG.ht (form 64 (sc u)) < SG.ht (form 64 (sc v)) := fun u hu => (mm6 u hu).elim (m5 u) fun z => .inr (Nat.lt_of_le_of_lt z ht6)
        have hz6 : LAt P w A S6 (upd H6 p4 (.lst (([] : List Nat).map nV ++ [nV f6]))) := h6.lst' eo6 np4 _
        have kz6 : LKeep A H (upd H6 p4 (.lst (([] : List Nat).map nV ++ [nV f6]))) := lkeep_lst k6 kh4
        have ez6 : (upd H6 p4 (.lst (([] : List Nat).map nV ++ [nV f6]))) p4 = some (.lst (([f6] : List Nat).map nV)) := upd_same
        have eq6 : (upd H6 p4 (.lst (([] : List Nat).map nV ++ [nV f6]))) q = some (.tup (([Sum.inl v.t, kN v.p] : List Key).map kV)) := (upd_ne q4).trans (kk6 _ _ eq5 nq)
        have ey6 : (upd H6 p4 (.lst (([] : List Nat).map nV ++ [nV f6]))) p3 = some (.lst (([f5] : List Nat).map nV)) := (upd_ne p34).trans (kk6 _ _ ez5 np3)
        have hF := hz6
        have kF := kz6
        have xF : LExt S S6 := x6
        have bF : S6.N + S6.cand.length ≤ S.N + S.cand.length := b6
        have mF := m6
        have e3F := ey6
        have e4F := ez6
        have eqF := eq6
        generalize (upd H6 p4 (.lst (([] : List Nat).map nV ++ [nV f6]))) = HF at hF kF e3F e4F eqF ⊢
        refine ⟨_, rfl, _, rfl, _, rfl, ?_⟩
        dsimp only [tNil]
        refine keep_num (E := C8.E0) (v := v) (f1 := [f5]) (f2 := [f6]) hF pl p40 (by omega) e3F e4F (List.pairwise_singleton _ _) (List.pairwise_singleton _ _) (fun x hx => by rw [List.mem_singleton.mp hx]; exact (xx6.lt lf5)) (fun x hx => by rw [List.mem_singleton.mp hx]; exact lf6) (by simp) (by simp) (by rw [if_pos cL, List.map_cons, ((xx6.g lf5).trans is5), SG.form_redu (by omega)]; rfl) (by rw [if_pos cR, List.map_cons, is6, SG.form_redu (by omega)]; rfl) fun S7 H7 F h7 k7 x7 n7 m7 c7 lF isF => ?_
        have x7' := xF.trans x7
        have vc : v ∈ S7.cand := (x7'.md v hk).resolve_right fun z => by
          rw [m7] at z
          exact (mF v z).elim nmd (Nat.lt_irrefl _)
        obtain ⟨mm, w8, x8, l8⟩ := lwf_md h7.wf vc lF isF
        obtain ⟨h8, k8⟩ := h7.md2 (S' := { S7 with md := putL S7.md v F, cand := mm }) (v := v) (i := F) w8 rfl rfl rfl
        have eq7 := hF.tupK k7 _ _ eqF
        have sz : S7.md.length < sizeLine := by
          have := lmd_small h7.wf
          have := h7.wf.bud
          rw [sizeLine_eq]
          omega
        refine ⟨_, rfl, _, rfl, A.md, _, rfl, DPut.t h7.md eq7 (by rw [List.length_map]; exact sz), ?_⟩
        have e9 : (upd H7 A.md (.dT (putK (S7.md.map mdE) [Sum.inl v.t, kN v.p] (nV F)))) A.md = some (.dT (putK (S7.md.map mdE) [Sum.inl v.t, kN v.p] (nV F))) := upd_same
        have eq8 := h7.tupK k8 _ _ eq7
        generalize upd H7 A.md (.dT (putK (S7.md.map mdE) [Sum.inl v.t, kN v.p] (nV F))) = H8 at h8 k8 e9 eq8
        refine ⟨_, rfl, _, rfl, A.md, nV F, rfl, ?_, k _ _ F h8 (kF.trans (k7.trans k8)) (x7'.trans x8) (by have := c7; show S7.N + mm.length ≤ _; rw [c7] at l8; omega) (fun u hu => ?_) lF isF⟩
        · rw [← val_put (S7.md.map mdE) [Sum.inl v.t, kN v.p] (nV F)]
          exact DGet.t e9 eq8
        · obtain ⟨e, he, rfl⟩ := List.mem_map.mp hu
          rcases mem_putL he with he | he
          · rw [m7] at he
            exact (mF _ (List.mem_map.mpr ⟨e, he, rfl⟩)).imp id Nat.le_of_lt
          · rw [he]
            exact .inr (Nat.le_refl _)
      · rcases Int.lt_trichotomy v.t 0 with ct | ct | ct
        · have cL : ¬ (0 < v.p ∨ 0 < v.t) := by omega
          have cR : 0 < v.p ∨ v.t < 0 := .inr ct
          refine ⟨_, rfl, q, _, 1, .int (v.p : Int), rfl, rfl, SqT.of eqA, rfl, _, _, rfl, rfl, _, rfl, ?_⟩
          rw [decide_eq_false (show ¬ ((v.p : Nat) : Int) > 0 by omega)]
          refine iteF ?_
          refine ⟨_, rfl, q, _, 0, .int v.t, rfl, rfl, SqT.of eqA, rfl, _, _, rfl, rfl, _, rfl, ?_⟩
          rw [decide_eq_false (show ¬ v.t > 0 by omega)]
          refine iteF ?_
          refine ⟨_, rfl, q, _, 1, .int (v.p : Int), rfl, rfl, SqT.of eqA, rfl, _, _, rfl, rfl, _, rfl, ?_⟩
          rw [decide_eq_false (show ¬ ((v.p : Nat) : Int) > 0 by omega)]
          refine iteF ?_
          refine ⟨_, rfl, q, _, 0, .int v.t, rfl, rfl, SqT.of eqA, rfl, _, _, rfl, rfl, _, rfl, ?_⟩
          rw [decide_eq_true (show v.t < 0 from ct)]
          refine iteT ?_
          have ht5 := htR cR
          refine ⟨_, rfl, .inl ⟨rfl, _, SqL.of e4⟩, _, rfl, _, rfl, q, _, 0, .int v.t, rfl, rfl, SqT.of eqA, rfl, _, _, rfl, rfl, _, rfl, q, _, 1, .int (v.p : Int), rfl, rfl, SqT.of eqA, rfl, ?_⟩
          refine ⟨A, S, v.t + 1, v.p, rfl, by omega, h3, (LExt.refl S).md _ (cR0 cR), by have := (Nat.le_refl (S.N + S.cand.length)); omega, by omega, fun S5 H5 f5 h5 kk5 xx5 bb5 mm5 lf5 is5 => ?_⟩
          have eo5 := kk5 _ _ e4 np4
          have k5 : LKeep A H H5 := kA.trans kk5
          refine ⟨p4, _, _, rfl, rfl, eo5, by show 0 < sizeLine; decide, ?_⟩
          have x5 : LExt S S5 := (LExt.refl S).trans xx5
          have b5 : S5.N + S5.cand.length ≤ S.N + S.cand.length := Nat.le_trans bb5 (Nat.le_refl (S.N + S.cand.length))
          have m5 : ∀ u ∈ S5.md.map (·.1), u ∈ S.md.map (·.1) ∨ SG.ht (form 64 (sc u)) < SG.ht (form 64 (sc v)) := fun u hu => (mm5 u hu).elim ((fun (u : Dy) (hu : u ∈ S.md.map (·.1)) => (Or.inl hu : u ∈ S.md.map (·.1) ∨ SG.ht (form 64 (sc u)) < SG.ht (form 64 (sc v)))) u) fun z => .inr (Nat.lt_of_le_of_lt z ht5)
          have hz5 : LAt P w A S5 (upd H5 p4 (.lst (([] : List Nat).map nV ++ [nV f5]))) := h5.lst' eo5 np4 _
          have kz5 : LKeep A H (upd H5 p4 (.lst (([] : List Nat).map nV ++ [nV f5]))) := lkeep_lst k5 kh4
          have ez5 : (upd H5 p4 (.lst (([] : List Nat).map nV ++ [nV f5]))) p4 = some (.lst (([f5] : List Nat).map nV)) := upd_same
          have eq5 : (upd H5 p4 (.lst (([] : List Nat).map nV ++ [nV f5]))) q = some (.tup (([Sum.inl v.t, kN v.p] : List Key).map kV)) := (upd_ne q4).trans (kk5 _ _ eqA nq)
          have ey5 : (upd H5 p4 (.lst (([] : List Nat).map nV ++ [nV f5]))) p3 = some (.lst (([] : List Nat).map nV)) := (upd_ne p34).trans (kk5 _ _ e3' np3)
          have hF := hz5
          have kF := kz5
          have xF : LExt S S5 := x5
          have bF : S5.N + S5.cand.length ≤ S.N + S.cand.length := b5
          have mF := m5
          have e3F := ey5
          have e4F := ez5
          have eqF := eq5
          generalize (upd H5 p4 (.lst (([] : List Nat).map nV ++ [nV f5]))) = HF at hF kF e3F e4F eqF ⊢
          refine ⟨_, rfl, _, rfl, _, rfl, ?_⟩
          dsimp only [tNil]
          refine keep_num (E := C8.E0) (v := v) (f1 := []) (f2 := [f5]) hF pl p40 (by omega) e3F e4F .nil (List.pairwise_singleton _ _) (fun _ z => by cases z) (fun x hx => by rw [List.mem_singleton.mp hx]; exact lf5) (by simp) (by simp) (by rw [if_neg cL]; rfl) (by rw [if_pos cR, List.map_cons, is5, SG.form_redu (by omega)]; rfl) fun S7 H7 F h7 k7 x7 n7 m7 c7 lF isF => ?_
          have x7' := xF.trans x7
          have vc : v ∈ S7.cand := (x7'.md v hk).resolve_right fun z => by
            rw [m7] at z
            exact (mF v z).elim nmd (Nat.lt_irrefl _)
          obtain ⟨mm, w8, x8, l8⟩ := lwf_md h7.wf vc lF isF
          obtain ⟨h8, k8⟩ := h7.md2 (S' := { S7 with md := putL S7.md v F, cand := mm }) (v := v) (i := F) w8 rfl rfl rfl
          have eq7 := hF.tupK k7 _ _ eqF
          have sz : S7.md.length < sizeLine := by
            have := lmd_small h7.wf
            have := h7.wf.bud
            rw [sizeLine_eq]
            omega
          refine ⟨_, rfl, _, rfl, A.md, _, rfl, DPut.t h7.md eq7 (by rw [List.length_map]; exact sz), ?_⟩
          have e9 : (upd H7 A.md (.dT (putK (S7.md.map mdE) [Sum.inl v.t, kN v.p] (nV F)))) A.md = some (.dT (putK (S7.md.map mdE) [Sum.inl v.t, kN v.p] (nV F))) := upd_same
          have eq8 := h7.tupK k8 _ _ eq7
          generalize upd H7 A.md (.dT (putK (S7.md.map mdE) [Sum.inl v.t, kN v.p] (nV F))) = H8 at h8 k8 e9 eq8
          refine ⟨_, rfl, _, rfl, A.md, nV F, rfl, ?_, k _ _ F h8 (kF.trans (k7.trans k8)) (x7'.trans x8) (by have := c7; show S7.N + mm.length ≤ _; rw [c7] at l8; omega) (fun u hu => ?_) lF isF⟩
          · rw [← val_put (S7.md.map mdE) [Sum.inl v.t, kN v.p] (nV F)]
            exact DGet.t e9 eq8
          · obtain ⟨e, he, rfl⟩ := List.mem_map.mp hu
            rcases mem_putL he with he | he
            · rw [m7] at he
              exact (mF _ (List.mem_map.mpr ⟨e, he, rfl⟩)).imp id Nat.le_of_lt
            · rw [he]
              exact .inr (Nat.le_refl _)
        · have cL : ¬ (0 < v.p ∨ 0 < v.t) := by omega
          have cR : ¬ (0 < v.p ∨ v.t < 0) := by omega
          refine ⟨_, rfl, q, _, 1, .int (v.p : Int), rfl, rfl, SqT.of eqA, rfl, _, _, rfl, rfl, _, rfl, ?_⟩
          rw [decide_eq_false (show ¬ ((v.p : Nat) : Int) > 0 by omega)]
          refine iteF ?_
          refine ⟨_, rfl, q, _, 0, .int v.t, rfl, rfl, SqT.of eqA, rfl, _, _, rfl, rfl, _, rfl, ?_⟩
          rw [decide_eq_false (show ¬ v.t > 0 by omega)]
          refine iteF ?_
          refine ⟨_, rfl, q, _, 1, .int (v.p : Int), rfl, rfl, SqT.of eqA, rfl, _, _, rfl, rfl, _, rfl, ?_⟩
          rw [decide_eq_false (show ¬ ((v.p : Nat) : Int) > 0 by omega)]
          refine iteF ?_
          refine ⟨_, rfl, q, _, 0, .int v.t, rfl, rfl, SqT.of eqA, rfl, _, _, rfl, rfl, _, rfl, ?_⟩
          rw [decide_eq_false (show ¬ v.t < 0 by omega)]
          refine iteF ?_
          have hF := h3
          have kF := kA
          have xF : LExt S S := LExt.refl S
          have bF : S.N + S.cand.length ≤ S.N + S.cand.length := (Nat.le_refl (S.N + S.cand.length))
          have mF := (fun (u : Dy) (hu : u ∈ S.md.map (·.1)) => (Or.inl hu : u ∈ S.md.map (·.1) ∨ SG.ht (form 64 (sc u)) < SG.ht (form 64 (sc v))))
          have e3F := e3'
          have e4F := e4
          have eqF := eqA
          generalize H3 = HF at hF kF e3F e4F eqF ⊢
          refine ⟨_, rfl, _, rfl, _, rfl, ?_⟩
          dsimp only [tNil]
          refine keep_num (E := C8.E0) (v := v) (f1 := []) (f2 := []) hF pl p40 (by omega) e3F e4F .nil .nil (fun _ z => by cases z) (fun _ z => by cases z) (by simp) (by simp) (by rw [if_neg cL]; rfl) (by rw [if_neg cR]; rfl) fun S7 H7 F h7 k7 x7 n7 m7 c7 lF isF => ?_
          have x7' := xF.trans x7
          have vc : v ∈ S7.cand := (x7'.md v hk).resolve_right fun z => by
            rw [m7] at z
            exact (mF v z).elim nmd (Nat.lt_irrefl _)
          obtain ⟨mm, w8, x8, l8⟩ := lwf_md h7.wf vc lF isF
          obtain ⟨h8, k8⟩ := h7.md2 (S' := { S7 with md := putL S7.md v F, cand := mm }) (v := v) (i := F) w8 rfl rfl rfl
          have eq7 := hF.tupK k7 _ _ eqF
          have sz : S7.md.length < sizeLine := by
            have := lmd_small h7.wf
            have := h7.wf.bud
            rw [sizeLine_eq]
            omega
          refine ⟨_, rfl, _, rfl, A.md, _, rfl, DPut.t h7.md eq7 (by rw [List.length_map]; exact sz), ?_⟩
          have e9 : (upd H7 A.md (.dT (putK (S7.md.map mdE) [Sum.inl v.t, kN v.p] (nV F)))) A.md = some (.dT (putK (S7.md.map mdE) [Sum.inl v.t, kN v.p] (nV F))) := upd_same
          have eq8 := h7.tupK k8 _ _ eq7
          generalize upd H7 A.md (.dT (putK (S7.md.map mdE) [Sum.inl v.t, kN v.p] (nV F))) = H8 at h8 k8 e9 eq8
          refine ⟨_, rfl, _, rfl, A.md, nV F, rfl, ?_, k _ _ F h8 (kF.trans (k7.trans k8)) (x7'.trans x8) (by have := c7; show S7.N + mm.length ≤ _; rw [c7] at l8; omega) (fun u hu => ?_) lF isF⟩
          · rw [← val_put (S7.md.map mdE) [Sum.inl v.t, kN v.p] (nV F)]
            exact DGet.t e9 eq8
          · obtain ⟨e, he, rfl⟩ := List.mem_map.mp hu
            rcases mem_putL he with he | he
            · rw [m7] at he
              exact (mF _ (List.mem_map.mpr ⟨e, he, rfl⟩)).imp id Nat.le_of_lt
            · rw [he]
              exact .inr (Nat.le_refl _)
        · have cL : 0 < v.p ∨ 0 < v.t := .inr ct
          have cR : ¬ (0 < v.p ∨ v.t < 0) := by omega
          refine ⟨_, rfl, q, _, 1, .int (v.p : Int), rfl, rfl, SqT.of eqA, rfl, _, _, rfl, rfl, _, rfl, ?_⟩
          rw [decide_eq_false (show ¬ ((v.p : Nat) : Int) > 0 by omega)]
          refine iteF ?_
          refine ⟨_, rfl, q, _, 0, .int v.t, rfl, rfl, SqT.of eqA, rfl, _, _, rfl, rfl, _, rfl, ?_⟩
          rw [decide_eq_true (show v.t > 0 from ct)]
          refine iteT ?_
          have ht5 := htL cL
          refine ⟨_, rfl, .inl ⟨rfl, _, SqL.of e3'⟩, _, rfl, _, rfl, q, _, 0, .int v.t, rfl, rfl, SqT.of eqA, rfl, _, _, rfl, rfl, _, rfl, q, _, 1, .int (v.p : Int), rfl, rfl, SqT.of eqA, rfl, ?_⟩
          refine ⟨A, S, v.t - 1, v.p, rfl, by omega, h3, (LExt.refl S).md _ (cL0 cL), by have := (Nat.le_refl (S.N + S.cand.length)); omega, by omega, fun S5 H5 f5 h5 kk5 xx5 bb5 mm5 lf5 is5 => ?_⟩
          have eo5 := kk5 _ _ e3' np3
          have k5 : LKeep A H H5 := kA.trans kk5
          refine ⟨p3, _, _, rfl, rfl, eo5, by show 0 < sizeLine; decide, ?_⟩
          have x5 : LExt S S5 := (LExt.refl S).trans xx5
          have b5 : S5.N + S5.cand.length ≤ S.N + S.cand.length := Nat.le_trans bb5 (Nat.le_refl (S.N + S.cand.length))
          have m5 : ∀ u ∈ S5.md.map (·.1), u ∈ S.md.map (·.1) ∨ SG.ht (form 64 (sc u)) < SG.ht (form 64 (sc v)) := fun u hu => (mm5 u hu).elim ((fun (u : Dy) (hu : u ∈ S.md.map (·.1)) => (Or.inl hu : u ∈ S.md.map (·.1) ∨ SG.ht (form 64 (sc u)) < SG.ht (form 64 (sc v)))) u) fun z => .inr (Nat.lt_of_le_of_lt z ht5)
          have hz5 : LAt P w A S5 (upd H5 p3 (.lst (([] : List Nat).map nV ++ [nV f5]))) := h5.lst' eo5 np3 _
          have kz5 : LKeep A H (upd H5 p3 (.lst (([] : List Nat).map nV ++ [nV f5]))) := lkeep_lst k5 kh3
          have ez5 : (upd H5 p3 (.lst (([] : List Nat).map nV ++ [nV f5]))) p3 = some (.lst (([f5] : List Nat).map nV)) := upd_same
          have eq5 : (upd H5 p3 (.lst (([] : List Nat).map nV ++ [nV f5]))) q = some (.tup (([Sum.inl v.t, kN v.p] : List Key).map kV)) := (upd_ne q3).trans (kk5 _ _ eqA nq)
          have ey5 : (upd H5 p3 (.lst (([] : List Nat).map nV ++ [nV f5]))) p4 = some (.lst (([] : List Nat).map nV)) := (upd_ne p34.symm).trans (kk5 _ _ e4 np4)
          refine ⟨_, rfl, q, _, 1, .int (v.p : Int), rfl, rfl, SqT.of eq5, rfl, _, _, rfl, rfl, _, rfl, ?_⟩
          rw [decide_eq_false (show ¬ ((v.p : Nat) : Int) > 0 by omega)]
          refine iteF ?_
          refine ⟨_, rfl, q, _, 0, .int v.t, rfl, rfl, SqT.of eq5, rfl, _, _, rfl, rfl, _, rfl, ?_⟩
          rw [decide_eq_false (show ¬ v.t < 0 by omega)]
          refine iteF ?_
          have hF := hz5
          have kF := kz5
          have xF : LExt S S5 := x5
          have bF : S5.N + S5.cand.length ≤ S.N + S.cand.length := b5
          have mF := m5
          have e3F := ez5
          have e4F := ey5
          have eqF := eq5
          generalize (upd H5 p3 (.lst (([] : List Nat).map nV ++ [nV f5]))) = HF at hF kF e3F e4F eqF ⊢
          refine ⟨_, rfl, _, rfl, _, rfl, ?_⟩
          dsimp only [tNil]
          refine keep_num (E := C8.E0) (v := v) (f1 := [f5]) (f2 := []) hF pl p40 (by omega) e3F e4F (List.pairwise_singleton _ _) .nil (fun x hx => by rw [List.mem_singleton.mp hx]; exact lf5) (fun _ z => by cases z) (by simp) (by simp) (by rw [if_pos cL, List.map_cons, is5, SG.form_redu (by omega)]; rfl) (by rw [if_neg cR]; rfl) fun S7 H7 F h7 k7 x7 n7 m7 c7 lF isF => ?_
          have x7' := xF.trans x7
          have vc : v ∈ S7.cand := (x7'.md v hk).resolve_right fun z => by
            rw [m7] at z
            exact (mF v z).elim nmd (Nat.lt_irrefl _)
          obtain ⟨mm, w8, x8, l8⟩ := lwf_md h7.wf vc lF isF
          obtain ⟨h8, k8⟩ := h7.md2 (S' := { S7 with md := putL S7.md v F, cand := mm }) (v := v) (i := F) w8 rfl rfl rfl
          have eq7 := hF.tupK k7 _ _ eqF
          have sz : S7.md.length < sizeLine := by
            have := lmd_small h7.wf
            have := h7.wf.bud
            rw [sizeLine_eq]
            omega
          refine ⟨_, rfl, _, rfl, A.md, _, rfl, DPut.t h7.md eq7 (by rw [List.length_map]; exact sz), ?_⟩
          have e9 : (upd H7 A.md (.dT (putK (S7.md.map mdE) [Sum.inl v.t, kN v.p] (nV F)))) A.md = some (.dT (putK (S7.md.map mdE) [Sum.inl v.t, kN v.p] (nV F))) := upd_same
          have eq8 := h7.tupK k8 _ _ eq7
          generalize upd H7 A.md (.dT (putK (S7.md.map mdE) [Sum.inl v.t, kN v.p] (nV F))) = H8 at h8 k8 e9 eq8
          refine ⟨_, rfl, _, rfl, A.md, nV F, rfl, ?_, k _ _ F h8 (kF.trans (k7.trans k8)) (x7'.trans x8) (by have := c7; show S7.N + mm.length ≤ _; rw [c7] at l8; omega) (fun u hu => ?_) lF isF⟩
          · rw [← val_put (S7.md.map mdE) [Sum.inl v.t, kN v.p] (nV F)]
            exact DGet.t e9 eq8
          · obtain ⟨e, he, rfl⟩ := List.mem_map.mp hu
            rcases mem_putL he with he | he
            · rw [m7] at he
              exact (mF _ (List.mem_map.mpr ⟨e, he, rfl⟩)).imp id Nat.le_of_lt
            · rw [he]
              exact .inr (Nat.le_refl _)
theorem k_lnum : ∀ n : Nat, C8.Cal P w K mg base (3 + n) "_law_number" (spLNum P w n) []
  | 0 => by
    refine cal_by (k := 2) (t_glo__law_number T) (t_fn__law_number T) sc__law_number (fun vs H Q E h => ?_) (fun _ _ _ _ _ _ us hl => match us, hl with | [_, _, _], _ => rfl) (fun cdv A0 outer s H vs Q E hr h => ?_)
    · obtain ⟨A, S, t, p, rfl, _⟩ := h
      rfl
    · obtain ⟨A, S, t, p, rfl, hp, h, hk, hb, hn, _⟩ := h
      exact absurd hn (Nat.not_lt_zero _)
  | n + 1 => k_lnum_step T n (k_lnum n)
end
end K45
end
section
set_option Elab.async false
set_option linter.all false
set_option maxRecDepth 100000
set_option maxHeartbeats 4000000
namespace K45
open PySem PySem.Spec PyProof.Rows L2
open SG (gv lf rt optI Nd Dy sc form Le WfY redu Plain)
abbrev S00 : Ls := ⟨ns0, [], [], []⟩
theorem wfy0 : WfY ns0 := by
  refine ⟨rfl, fun i nd h => ?_, fun i j nd nd' h h' _ _ => ?_⟩
  · match i, h with
    | 0, h =>
      cases h
      exact ⟨.nil, .nil, (fun _ z => by cases z), (fun _ z => by cases z), rfl⟩
    | k + 1, h => cases h
  · match i, j, h, h' with
    | 0, 0, _, _ => rfl
    | k + 1, _, h, _ => cases h
    | 0, k + 1, _, h' => cases h'
theorem lwf0 : LWf S00 := ⟨(fun v h => by rcases h with h | h <;> cases h), wfy0, (fun _ _ _ h => by cases h), .nil, (fun _ _ h => by cases h), .nil, (by decide)⟩
def spLStore (P : Program) (w : World) : Sp := fun vs H Q _ => vs = [] ∧ ∀ (A : La) (H' : Hp), Same H H' → (∀ x ∈ A.mut, H x = none) → H A.st = none → LAt P w A S00 H' → Q (.ref A.st) H'
abbrev kv6 (fo he id ov pl tu : Addr) : List (Key × V) := [(Sum.inr "forms", .ref fo), (Sum.inr "heights", .ref he), (Sum.inr "ids", .ref id), (Sum.inr "over", .ref ov), (Sum.inr "plus", .ref pl), (Sum.inr "turned", .ref tu)]
section
variable {P : Program} {w : World} {K : PySem.W.Frag} {mg : Str → Option Value} {base : Heap} (T : Tx K mg)
include T
theorem k_lstore : C8.Cal P w K mg base 1 "_law_store" (spLStore P w) [] := by
  refine cal_by (t_glo__law_store T) (t_fn__law_store T) sc__law_store (fun vs H Q E h => ?_) (fun _ _ _ _ _ _ us hl => match us, hl with | [], _ => rfl) (fun cdv A outer s H vs Q E hr h => ?_)
  · obtain ⟨rfl, _⟩ := h
    rfl
  · obtain ⟨rfl, k⟩ := h
    have hu := hu_of hr
    refine ⟨_, pss_cons (ps_set (i := 0) sc__law_store.nd rfl (.inl rfl) (pe_disp
        (pps_cons pe_str (pe_lst (pa_cons (pe_tup (pa_cons (pe_tup pa_nil) (pa_cons (pe_tup pa_nil) pa_nil))) pa_nil))
        (pps_cons pe_str (pe_lst (pa_cons pe_int pa_nil))
        (pps_cons pe_str (pe_ndisp hr.units (pe_tup (pa_cons (pe_tup pa_nil) (pa_cons (pe_tup pa_nil) pa_nil))) pe_int)
        (pps_cons pe_str pe_dnewT (pps_cons pe_str pe_dnewT (pps_cons pe_str pe_dnewT pps_nil)))))) (by rfl) (by rfl) (fun z => by cases z) (by decide)))
      (pss_cons (ps_for PassesOwn.never rfl (pi_list (pe_lst (pa_cons pe_str (pa_cons pe_str (pa_cons pe_str pa_nil))))) (pg_name (i := 1) sc__law_store.nd rfl (.inl rfl))
        (pss_one (ps_dput hu (pv 0) (pv 1) pe_dnewT rfl)))
      (pss_one (ps_ret (pv 0)))), ?_⟩
    intro st hst
    have s0 := same_upd (H := H) (o := .dK []) hst
    have e0 : upd H st (.dK []) st = some (.dK []) := upd_same
    generalize upd H st (.dK []) = H0 at s0 e0
    have z0 : ∀ {c}, H0 c = none → H c = none := fun {c} e => same_none s0 e
    refine ⟨by show 0 ≤ sizeLine; decide, fun t1 ht1 => ⟨by show 0 ≤ sizeLine; decide, fun t2 ht2 => ⟨by show 2 ≤ sizeLine; decide, fun t3 ht3 => ⟨by show 1 ≤ sizeLine; decide, fun fo hfo => ?_⟩⟩⟩⟩
    have et1 : upd H0 t1 (.tup []) t1 = some (.tup []) := upd_same
    have et2 : upd (upd H0 t1 (.tup [])) t2 (.tup []) t2 = some (.tup []) := upd_same
    have et3 : upd (upd (upd H0 t1 (.tup [])) t2 (.tup [])) t3 (.tup [.ref t1, .ref t2]) t3 = some (.tup [.ref t1, .ref t2]) := upd_same
    have efo : upd (upd (upd (upd H0 t1 (.tup [])) t2 (.tup [])) t3 (.tup [.ref t1, .ref t2])) fo (.lst [.ref t3]) fo = some (.lst [.ref t3]) := upd_same
    have sa := same_upd (H := H0) (o := .tup []) ht1
    have sb := same_upd (o := .tup []) ht2
    have sc := same_upd (o := .tup [V.ref t1, .ref t2]) ht3
    have sd := same_upd (o := .lst [V.ref t3]) hfo
    have s1 : Same H0 (upd (upd (upd (upd H0 t1 (.tup [])) t2 (.tup [])) t3 (.tup [.ref t1, .ref t2])) fo (.lst [.ref t3])) := fun c o e => sd _ _ (sc _ _ (sb _ _ (sa _ _ e)))
    have et1' := sd _ _ (sc _ _ (sb _ _ et1))
    have et2' := sd _ _ (sc _ _ et2)
    have et3' := sd _ _ et3
    have nfo : H0 fo = none := same_none sa (same_none sb (same_none sc hfo))
    generalize upd (upd (upd (upd H0 t1 (.tup [])) t2 (.tup [])) t3 (.tup [.ref t1, .ref t2])) fo (.lst [.ref t3]) = H1 at s1 et1' et2' et3' efo ⊢
    refine ⟨by show 1 ≤ sizeLine; decide, fun he hhe => ?_⟩
    have ehe : upd H1 he (.lst [.int 0]) he = some (.lst [.int 0]) := upd_same
    have s2 := same_upd (H := H1) (o := .lst [.int 0]) hhe
    generalize upd H1 he (.lst [.int 0]) = H2 at s2 ehe
    intro id hid
    have s4 := same_upd (H := H2) (o := nestObj P w id []) hid
    have eN : (upd H2 id (nestObj P w id [])) id = some (nestObj P w id []) := upd_same
    refine ⟨by show 0 ≤ sizeLine; decide, fun k1 hk1 => ⟨by show 0 ≤ sizeLine; decide, fun k2 hk2 => ⟨by show 2 ≤ sizeLine; decide, fun kb hkb => ?_⟩⟩⟩
    have eN1 := same_upd (H := upd H2 id (nestObj P w id [])) (o := .tup []) hk1 _ _ eN
    have eN2 := same_upd (o := .tup []) hk2 _ _ eN1
    have eN3 := same_upd (o := .tup [.ref k1, .ref k2]) hkb _ _ eN2
    have ek1 : (upd (upd H2 id (nestObj P w id [])) k1 (.tup [])) k1 = some (.tup []) := upd_same
    have ek2 : (upd (upd (upd H2 id (nestObj P w id [])) k1 (.tup [])) k2 (.tup [])) k2 = some (.tup []) := upd_same
    have ek1' := same_upd (o := .tup [.ref k1, .ref k2]) hkb _ _ (same_upd (o := .tup []) hk2 _ _ ek1)
    have ek2' := same_upd (o := .tup [.ref k1, .ref k2]) hkb _ _ ek2
    have ekb : (upd (upd (upd (upd H2 id (nestObj P w id [])) k1 (.tup [])) k2 (.tup [])) kb (.tup [.ref k1, .ref k2])) kb = some (.tup [.ref k1, .ref k2]) := upd_same
    have s7 : Same H2 (upd (upd (upd (upd H2 id (nestObj P w id [])) k1 (.tup [])) k2 (.tup [])) kb (.tup [.ref k1, .ref k2])) := fun c o e => same_upd hkb _ _ (same_upd hk2 _ _ (same_upd hk1 _ _ (s4 _ _ e)))
    refine ⟨eN3, kb, ([], []), .int 0, rfl, ⟨k1, k2, ekb, ek1', ek2'⟩, fun H8 d8 o8 => ?_⟩
    have s8 : Same H2 H8 := fun c o e => (o8 c (ne_of_none e hid)).trans (s7 _ _ e)
    intro ov hov
    have eov : upd H8 ov (.dT []) ov = some (.dT []) := upd_same
    have s9 := same_upd (H := H8) (o := .dT []) hov
    generalize upd H8 ov (.dT []) = H9 at s9 eov
    intro pl hpl
    have s10 := same_upd (H := H9) (o := .dT []) hpl
    generalize upd H9 pl (.dT []) = H10 at s10
    intro tu htu
    have s11 := same_upd (H := H10) (o := .dT []) htu
    generalize upd H10 tu (.dT []) = H11 at s11
    have sA : Same H8 H11 := fun c o e => s11 _ _ (s10 _ _ (s9 _ _ e))
    have sB : Same H0 H11 := fun c o e => sA _ _ (s8 _ _ (s2 _ _ (s1 _ _ e)))
    refine ⟨sB _ _ e0, kv6 fo he id ov pl tu, rfl, by show 6 ≤ 15; decide, ?_⟩
    have em : mergeK [] (kv6 fo he id ov pl tu) = kv6 fo he id ov pl tu := rfl
    rw [em]
    have est : upd H11 st (.dK (kv6 fo he id ov pl tu)) st = some (.dK (kv6 fo he id ov pl tu)) := upd_same
    have r0 : Rest st H11 (upd H11 st (.dK (kv6 fo he id ov pl tu))) := fun c o e n => (upd_ne n).trans e
    have rz : ∀ c, upd H11 st (.dK (kv6 fo he id ov pl tu)) c = none → H11 c = none ∧ c ≠ st := fun c e => un_none e
    generalize upd H11 st (.dK (kv6 fo he id ov pl tu)) = G0 at est r0 rz ⊢
    refine ⟨by show 3 ≤ sizeLine; decide, fun l hl => ⟨l, rfl, ⟨_, SqL.of upd_same⟩, ?_⟩⟩
    have sl := same_upd (H := G0) (o := .lst [V.str "made", .str "worth", .str "stops"]) hl
    have el : upd G0 l (.lst [V.str "made", .str "worth", .str "stops"]) l = some (.lst [V.str "made", .str "worth", .str "stops"]) := upd_same
    have nls : l ≠ st := (rz l hl).2
    have est1 := sl _ _ est
    have zl : ∀ c, upd G0 l (.lst [V.str "made", .str "worth", .str "stops"]) c = none → G0 c = none := fun c e => (un_none e).1
    generalize upd G0 l (.lst [V.str "made", .str "worth", .str "stops"]) = G1 at sl el est1 zl ⊢
    have hsB : Same H H11 := fun c o e => sB _ _ (s0 _ _ e)
    refine for_list (K := K) (a := l) (xs := [.str "made", .str "worth", .str "stops"]) (fun i σ G => ∃ ds y, σ = [some (.ref st), y] ∧ ds.length = i ∧ G st = some (.dK (kv6 fo he id ov pl tu ++ List.zipWith (fun (a : Str) (d : Addr) => ((Sum.inr a : Key), V.ref d)) ["made", "worth", "stops"] ds)) ∧ Rest st G1 G ∧
        ∀ d ∈ ds, G d = some (.dT []) ∧ G1 d = none)
      ⟨[], none, rfl, rfl, est1, fun _ _ e _ => e, fun _ z => by cases z⟩ (fun i σ G _ ⟨_, _, _, _, _, q, _⟩ => SqL.of (q _ _ el nls)) ?_ ?_
    · rintro i x σ G hi ⟨ds, y, rfl, ld, eg, rg, fd⟩
      obtain ⟨wd, hw, rfl⟩ : ∃ wd : Str, (["made", "worth", "stops"] : List Str)[i]? = some wd ∧ x = .str wd := by
        match i, hi with
        | 0, hi => exact ⟨_, rfl, (Option.some.inj hi).symm⟩
        | 1, hi => exact ⟨_, rfl, (Option.some.inj hi).symm⟩
        | 2, hi => exact ⟨_, rfl, (Option.some.inj hi).symm⟩
      intro d hd
      have eg2 : upd G d (.dT []) st = some _ := (upd_ne (ne_of_none eg hd)).trans eg
      have sg := same_upd (H := G) (o := .dT []) hd
      have nds : d ≠ st := fun q => by rw [q, eg] at hd; cases hd
      have gd1 : G1 d = none := by
        cases e : G1 d with
        | none => rfl
        | some o => have := rg _ _ e nds; rw [hd] at this; cases this
      refine ⟨_, rfl, _, rfl, st, _, rfl, DPut.k (k := Sum.inr wd) eg2 (by
        rw [List.length_append, List.length_zipWith, sizeLine_eq]
        have : min (["made", "worth", "stops"] : List Str).length ds.length ≤ 3 := Nat.min_le_left _ _
        show 6 + _ < _
        omega), ds ++ [d], _, rfl, by rw [List.length_append, ld]; rfl, ?_, fun c o e n => (upd_ne n).trans (sg _ _ (rg _ _ e n)), fun d' hd' => ?_⟩
      · rw [upd_same]
        match i, ds, ld, hw with
        | 0, [], _, hw => cases hw; rfl
        | 1, [d1], _, hw => cases hw; rfl
        | 2, [d1, d2], _, hw => cases hw; rfl
      · rcases List.mem_append.mp hd' with m | m
        · obtain ⟨q1, q2⟩ := fd d' m
          have nd : d' ≠ st := fun q => by rw [q, est1] at q2; cases q2
          exact ⟨(upd_ne nd).trans (sg _ _ q1), q2⟩
        · rw [List.mem_singleton.mp m]
          exact ⟨(upd_ne nds).trans upd_same, gd1⟩
    · rintro σ G ⟨ds, y, rfl, ld, eg, rg, fd⟩
      match ds, ld with
      | [md, wo, so], _ =>
        obtain ⟨emd, nmd⟩ := fd md (by simp)
        have nmd0 := zl _ nmd
        obtain ⟨nmd1, mst⟩ := rz _ nmd0
        have ot : ∀ c o, c ≠ st → H11 c = some o → G c = some o := fun c o n e => rg _ _ (sl _ _ (r0 _ _ e n)) n
        have nst : ∀ {c : Addr} {o : HO}, H0 c = none → c ≠ st := fun {c o} e q => by rw [q, e0] at e; cases e
        have n8 : H2 id = none := hid
        have nid0 : H0 id = none := same_none s1 (same_none s2 hid)
        have nhe0 : H0 he = none := same_none s1 hhe
        have nov0 : H0 ov = none := same_none s1 (same_none s2 (same_none s8 hov))
        have ids : id ≠ st := nst (o := .dK []) nid0
        have hes : he ≠ st := nst (o := .dK []) nhe0
        have fos : fo ≠ st := nst (o := .dK []) nfo
        have ovs : ov ≠ st := nst (o := .dK []) nov0
        have tupG : ∀ c xs, H11 c = some (.tup xs) → G c = some (.tup xs) := fun c xs e => ot _ _ (ne_of e (sB _ _ e0) (by intro z; cases z)) e
        have up8 : Same H1 H11 := fun c o e => sA _ _ (s8 _ _ (s2 _ _ e))
        have dN : NDict P w G id (nmK ns0) := by
          have d11 := d8.mono (fun o e => sA _ _ e) (fun c xs e => sA _ _ e)
          exact d11.mono (fun o e => ot _ _ ids e) tupG
        refine ⟨_, rfl, k ⟨st, fo, he, id, ov, md, pl, tu, wo, so⟩ G (fun c o e => ot _ _ (ne_of_none e hst) (hsB _ _ e)) (fun x hx => ?_) hst ⟨eg, ⟨[t3], ot _ _ fos (up8 _ _ efo), rfl, fun i t e => ?_⟩, ?_, dN, ot _ _ ovs (s11 _ _ (s10 _ _ eov)), emd, ?_, ?_, lwf0⟩⟩
        · simp only [La.mut, List.mem_cons, List.not_mem_nil, or_false] at hx
          rcases hx with rfl | rfl | rfl | rfl | rfl
          · exact z0 nfo
          · exact z0 nhe0
          · exact z0 nid0
          · exact z0 nov0
          · exact z0 (same_none sB nmd1)
        · match i, e with
          | 0, e =>
            cases e
            exact ⟨t1, t2, tupG _ _ (up8 _ _ et3'), tupG _ _ (up8 _ _ et1'), tupG _ _ (up8 _ _ et2')⟩
        · rw [ot _ _ hes (sA _ _ (s8 _ _ ehe))]
          show _ = some (HO.lst [nV (SG.ht SG.zero)])
          rw [ht_zero]
          rfl
        · exact ne_of_none (efo) hhe
        · exact fun q => by
            have q : ov = md := q
            rw [← q, s11 _ _ (s10 _ _ eov)] at nmd1
            cases nmd1
end
end K45
end
section
set_option Elab.async false
set_option linter.all false
set_option maxRecDepth 100000
set_option maxHeartbeats 4000000
namespace SG
/-- the height of a dyadic's form -/
theorem ht_form (M : Nat) (p : Nat) : ∀ t : Int, -((M : Int) * 2 ^ p) ≤ t → t ≤ (M : Int) * 2 ^ p → ht (form p t) ≤ p + M := by
  have z : ∀ (n : Nat) (t : Int), t.natAbs ≤ n → ht (form 0 t) ≤ n := by
    intro n
    induction n with
    | zero =>
      intro t h
      have : t = 0 := by omega
      subst this
      exact ht_le (fun x hx => by cases hx) fun x hx => by cases hx
    | succ n ih =>
      intro t h
      rcases Int.lt_trichotomy t 0 with c | c | c
      · rw [form0_neg c]
        refine ht_le (fun x hx => by cases hx) fun x hx => ?_
        rw [List.mem_singleton.mp hx]
        exact Nat.lt_succ_of_le (ih (t + 1) (by omega))
      · subst c
        exact Nat.le_trans (ht_le (n := 0) (fun x hx => by cases hx) fun x hx => by cases hx) (Nat.zero_le _)
      · rw [form0_pos c]
        refine ht_le (fun x hx => ?_) fun x hx => by cases hx
        rw [List.mem_singleton.mp hx]
        exact Nat.lt_succ_of_le (ih (t - 1) (by omega))
  induction p with
  | zero =>
    intro t h1 h2
    rw [Int.pow_zero, Int.mul_one] at h1 h2
    have := z M t (by omega)
    omega
  | succ p ih =>
    intro t h1 h2
    rw [Int.pow_succ, ← Int.mul_assoc] at h1 h2
    obtain ⟨a, ha | ha⟩ := parity t
    · rw [ha, form_even]
      have := ih a (by omega) (by omega)
      omega
    · rw [ha, form_odd]
      have q1 := ih a (by omega) (by omega)
      have q2 := ih (a + 1) (by omega) (by omega)
      refine ht_le (fun x hx => ?_) fun x hx => ?_
      · rw [List.mem_singleton.mp hx]; omega
      · rw [List.mem_singleton.mp hx]; omega
end SG
namespace K45
open PySem PySem.Spec PyProof.Rows L2
open SG (gv lf rt optI Nd Dy sc form Le WfY redu Plain)
/-! ### candidates -/
def cands : Nat → Int → List Dy
  | 0, _ => []
  | p + 1, c => redu c (p + 1) :: redu (c + 1) (p + 1) :: cands p (c / 2)
theorem cands_len : ∀ (p : Nat) (c : Int), (cands p c).length = 2 * p
  | 0, _ => rfl
  | p + 1, c => by
    show (cands p (c / 2)).length + 1 + 1 = _
    rw [cands_len p]
    omega
def CloD (k : Dy → Prop) (v : Dy) : Prop := SG.Plain v ∧ v.p ≤ 40 ∧ -(10 ^ 12) ≤ v.t ∧ v.t ≤ 10 ^ 12 ∧ (0 < v.p ∨ 0 < v.t → k (SG.redu (v.t - 1) v.p)) ∧ (0 < v.p ∨ v.t < 0 → k (SG.redu (v.t + 1) v.p))
theorem CloD.mono {k k' : Dy → Prop} {v : Dy} (h : CloD k v) (m : ∀ u, k u → k' u) : CloD k' v := ⟨h.1, h.2.1, h.2.2.1, h.2.2.2.1, fun q => m _ (h.2.2.2.2.1 q), fun q => m _ (h.2.2.2.2.2 q)⟩
theorem cands_clo {k : Dy → Prop} {M : Nat} (hM : M ≤ 40) (hin : ∀ i : Int, -(M : Int) ≤ i → i ≤ M → k ⟨i, 0⟩ ∧ CloD k ⟨i, 0⟩) : ∀ (p : Nat) (c : Int), p ≤ 16 → (∀ x ∈ cands p c, k x) → -((M : Int) * 2 ^ p) ≤ c → c + 1 ≤ (M : Int) * 2 ^ p →
    (k (redu c p) ∧ CloD k (redu c p)) ∧ (k (redu (c + 1) p) ∧ CloD k (redu (c + 1) p)) ∧ ∀ x ∈ cands p c, CloD k x
  | 0, c, _, _, h1, h2 => by
    rw [Int.pow_zero, Int.mul_one] at h1 h2
    exact ⟨hin c (by omega) (by omega), hin (c + 1) (by omega) (by omega), fun _ z => by cases z⟩
  | p + 1, c, hp, hk, h1, h2 => by
    have h1' := h1
    have h2' := h2
    rw [Int.pow_succ, ← Int.mul_assoc] at h1 h2
    obtain ⟨i1, i2, i3⟩ := cands_clo hM hin p (c / 2) (by omega) (fun x hx => hk x (List.mem_cons_of_mem _ (List.mem_cons_of_mem _ hx))) (by omega) (by omega)
    have big : (M : Int) * 2 ^ p ≤ 40 * 65536 := by
      have : (2 : Nat) ^ p ≤ 2 ^ 16 := Nat.pow_le_pow_right (by decide) (by omega)
      have e2 : ((2 ^ p : Nat) : Int) = (2 ^ p : Int) := by simp
      exact Int.mul_le_mul (by omega) (by omega) (Int.le_of_lt (SG.pow_pos2 p)) (by decide)
    have odd : ∀ d : Int, d % 2 = 1 → (d = c ∨ d = c + 1) → k (redu d (p + 1)) → k (redu d (p + 1)) ∧ CloD k (redu d (p + 1)) := fun d hd hdc q => by
      have e : redu d (p + 1) = ⟨d, p + 1⟩ := by
        unfold SG.redu
        rw [if_neg (by omega)]
      refine ⟨q, ?_⟩
      rw [e]
      have el : redu (d - 1) (p + 1) = redu ((d - 1) / 2) p := by
        conv => lhs; unfold SG.redu
        rw [if_pos (by omega)]
      have er : redu (d + 1) (p + 1) = redu ((d + 1) / 2) p := by
        conv => lhs; unfold SG.redu
        rw [if_pos (by omega)]
      refine ⟨.inr hd, by show p + 1 ≤ 40; omega, by show -(10 ^ 12) ≤ d; omega, by show d ≤ 10 ^ 12; omega, fun _ => ?_, fun _ => ?_⟩
      · show k (redu (d - 1) (p + 1))
        rw [el]
        rcases hdc with rfl | rfl
        · rw [show (d - 1) / 2 = d / 2 by omega]; exact i1.1
        · rw [show (c + 1 - 1) / 2 = c / 2 by omega]; exact i1.1
      · show k (redu (d + 1) (p + 1))
        rw [er]
        rcases hdc with rfl | rfl
        · rw [show (d + 1) / 2 = d / 2 + 1 by omega]; exact i2.1
        · rw [show (c + 1 + 1) / 2 = c / 2 + 1 by omega]; exact i2.1
    have even : ∀ d : Int, d % 2 = 0 → redu d (p + 1) = redu (d / 2) p := fun d hd => by
      conv => lhs; unfold SG.redu
      rw [if_pos hd]
    have a1 : k (redu c (p + 1)) ∧ CloD k (redu c (p + 1)) := by
      by_cases e : c % 2 = 0
      · rw [even c e]; exact i1
      · exact odd c (by omega) (.inl rfl) (hk _ (List.mem_cons_self ..))
    have a2 : k (redu (c + 1) (p + 1)) ∧ CloD k (redu (c + 1) (p + 1)) := by
      by_cases e : (c + 1) % 2 = 0
      · rw [even (c + 1) e, show (c + 1) / 2 = c / 2 + 1 by omega]; exact i2
      · exact odd (c + 1) (by omega) (.inr rfl) (hk _ (List.mem_cons_of_mem _ (List.mem_cons_self ..)))
    refine ⟨a1, a2, fun x hx => ?_⟩
    rcases List.mem_cons.mp hx with rfl | hx
    · exact a1.2
    · rcases List.mem_cons.mp hx with rfl | hx
      · exact a2.2
      · exact i3 x hx
abbrev withC (S : Ls) (c : List Dy) : Ls := { S with cand := S.cand ++ c }
theorem withC_kn {S : Ls} {c : List Dy} {v : Dy} : Kn (withC S c) v ↔ Kn S v ∨ v ∈ c := by
  unfold Kn
  show v ∈ S.cand ++ c ∨ _ ↔ _
  rw [List.mem_append]
  constructor
  · rintro ((h | h) | h)
    · exact .inl (.inl h)
    · exact .inr h
    · exact .inl (.inr h)
  · rintro ((h | h) | h)
    · exact .inl (.inl h)
    · exact .inr h
    · exact .inl (.inr h)
theorem withC_ext (S : Ls) (c : List Dy) : LExt S (withC S c) := ⟨⟨[], (List.append_nil _).symm⟩, fun _ h => withC_kn.mpr (.inl h)⟩
theorem withC_wf {S : Ls} (w : LWf S) {c : List Dy} (h : ∀ v ∈ c, CloD (Kn (withC S c)) v) (b : S.N + S.cand.length + c.length ≤ 4000) : LWf (withC S c) := by
  refine ⟨fun v hv => ?_, w.wy, w.ov, w.ovk, w.md, w.mdk, ?_⟩
  · rcases withC_kn.mp hv with q | q
    · exact CloD.mono (w.clo v q) fun u hu => withC_kn.mpr (.inl hu)
    · exact h v q
  · show S.N + (S.cand ++ c).length ≤ 4000
    rw [List.length_append]
    omega
theorem LAt.wc {P : Program} {w : World} {A : La} {S : Ls} {H : Hp} (h : LAt P w A S H) {c : List Dy} (wf : LWf (withC S c)) : LAt P w A (withC S c) H := ⟨h.st, h.fo, h.he, h.id, h.ov, h.md, h.d1, h.d2, wf⟩
def Ints (S : Ls) (M : Nat) : Prop := ∀ i : Int, -(M : Int) ≤ i → i ≤ M → Kn S ⟨i, 0⟩
theorem Ints.ext {S S' : Ls} {M : Nat} (h : Ints S M) (x : LExt S S') : Ints S' M := fun i a b => x.md _ (h i a b)
def intL (M : Nat) : List Dy := (List.range (2 * M + 1)).map fun k : Nat => ⟨(k : Int) - M, 0⟩
theorem intL_mem {M : Nat} {i : Int} (h1 : -(M : Int) ≤ i) (h2 : i ≤ M) : (⟨i, 0⟩ : Dy) ∈ intL M := List.mem_map.mpr ⟨(i + M).toNat, List.mem_range.mpr (by omega), by
  show (⟨((i + M).toNat : Int) - M, 0⟩ : Dy) = _
  rw [show ((i + M).toNat : Int) - M = i by omega]⟩
theorem ints_wf {S : Ls} (w : LWf S) {M : Nat} (hM : M ≤ 40) (b : S.N + S.cand.length + (2 * M + 1) ≤ 4000) : LWf (withC S (intL M)) ∧ Ints (withC S (intL M)) M := by
  have hi : Ints (withC S (intL M)) M := fun i h1 h2 => withC_kn.mpr (.inr (intL_mem h1 h2))
  refine ⟨withC_wf w (fun v hv => ?_) (by unfold intL; rw [List.length_map, List.length_range]; exact b), hi⟩
  obtain ⟨k, hk, rfl⟩ := List.mem_map.mp hv
  have hk := List.mem_range.mp hk
  refine ⟨.inl rfl, by show 0 ≤ 40; omega, by show -(10 ^ 12) ≤ (k : Int) - M; omega, by show (k : Int) - M ≤ 10 ^ 12; omega, fun q => ?_, fun q => ?_⟩
  · have q : 0 < 0 ∨ 0 < (k : Int) - M := q
    exact hi ((k : Int) - M - 1) (by omega) (by omega)
  · have q : 0 < 0 ∨ (k : Int) - M < 0 := q
    exact hi ((k : Int) - M + 1) (by omega) (by omega)
theorem cands_wf {S : Ls} (w : LWf S) {M : Nat} (hM : M ≤ 40) (hi : Ints S M) {p : Nat} {c : Int} (hp : p ≤ 16) (h1 : -((M : Int) * 2 ^ p) ≤ c) (h2 : c + 1 ≤ (M : Int) * 2 ^ p) (b : S.N + S.cand.length + 2 * p ≤ 4000) :
    LWf (withC S (cands p c)) ∧ Kn (withC S (cands p c)) (redu c p) := by
  have q := cands_clo (k := Kn (withC S (cands p c))) hM (fun i a b' => ⟨withC_kn.mpr (.inl (hi i a b')), CloD.mono (w.clo _ (hi i a b')) fun u hu => withC_kn.mpr (.inl hu)⟩) p c hp (fun x hx => withC_kn.mpr (.inr hx)) h1 h2
  exact ⟨withC_wf w q.2.2 (by rw [cands_len]; exact b), q.1.1⟩
/-- a number asked for from the top -/
theorem lnum_pre {P : Program} {w : World} {A : La} {S : Ls} {H : Hp} (h : LAt P w A S H) {M : Nat} (hM : M ≤ 40) (hi : Ints S M) {p : Nat} {t : Int} (hp : p ≤ 16) (h1 : -((M : Int) * 2 ^ p) ≤ t) (h2 : t + 1 ≤ (M : Int) * 2 ^ p) (b : S.N + S.cand.length + 2 * p ≤ 3900) :
    ∃ S', LAt P w A S' H ∧ Kn S' (redu t p) ∧ S'.N + S'.cand.length ≤ 3900 ∧ SG.ht (form 64 (sc (redu t p))) < 60 ∧ LExt S S' ∧ S'.N + S'.cand.length ≤ S.N + S.cand.length + 2 * p := by
  obtain ⟨wf, kn⟩ := cands_wf h.wf hM hi hp h1 h2 (by omega)
  have e : (withC S (cands p t)).N + (withC S (cands p t)).cand.length = S.N + S.cand.length + 2 * p := by
    show S.N + (S.cand ++ cands p t).length = _
    rw [List.length_append, cands_len]
    omega
  refine ⟨withC S (cands p t), h.wc wf, kn, by omega, ?_, withC_ext S _, by omega⟩
  rw [SG.form_redu (by omega)]
  have := SG.ht_form M p t h1 (by omega)
  omega
end K45
end
section
set_option Elab.async false
set_option linter.all false
set_option maxRecDepth 100000
set_option maxHeartbeats 4000000
namespace K45
open PySem PySem.Spec PyProof.Rows L2
open SG (gv lf rt optI Nd Dy sc form Le WfY redu Plain)
/-- a seed: a dyadic with a power up to 2 and a size up to 3 -/
def SmD (v : Dy) : Prop := ∃ (t : Int) (p : Nat), v = redu t p ∧ p ≤ 2 ∧ -(3 * 2 ^ p) ≤ t ∧ t ≤ 3 * 2 ^ p
abbrev NumL (S : Ls) (vs : List Dy) (is : List Nat) : Prop := Paired (fun v i => i < S.N ∧ S.g i = form 64 (sc v)) vs is
theorem NumL.ext {S S' : Ls} {vs : List Dy} {is : List Nat} (x : LExt S S') (h : NumL S vs is) : NumL S' vs is := Paired.mapP h fun v i ⟨a, b⟩ => ⟨x.lt a, by rw [x.g a]; exact b⟩
theorem paired_snoc {α β : Type} {R : α → β → Prop} {a : α} {b : β} : ∀ {as : List α} {bs : List β}, Paired R as bs → R a b → Paired R (as ++ [a]) (bs ++ [b])
  | _, _, .nil, h => .cons h .nil
  | _, _, .cons q t, h => .cons q (paired_snoc t h)
theorem dig_cut {ds : List Int} {n : Nat} (h : Dig ds n) {lo hi : Nat} (h1 : lo ≤ hi) (h2 : hi ≤ n) : ∃ d2 : List Int, cutV (ds.map V.int) (some (lo : Int)) (some (hi : Int)) = d2.map V.int ∧ Dig d2 (hi - lo) := by
  refine ⟨(ds.drop lo).take (hi - lo), ?_, ?_, fun d hd => h.2 d (List.mem_of_mem_drop (List.mem_of_mem_take hd))⟩
  · unfold cutV
    rw [HT.sIx_nat, HT.sIx_nat, List.length_map, h.1, Nat.min_eq_left (by omega), Nat.min_eq_left (by omega), List.map_take, List.map_drop]
  · rw [List.length_take, List.length_drop, h.1]
    omega
theorem form_z : form 64 (sc ⟨0, 0⟩) = SG.zero := by
  rw [SG.form_sc (by decide)]
  rfl
theorem same_lkeep {A : La} {H H' : Hp} (h : Same H H') : LKeep A H H' := LKeep.same h
def spLSeeds (P : Program) (w : World) : Sp := fun vs H Q _ => ∃ (A : La) (S : Ls) (z : Int), vs = [.ref A.st, .int z] ∧ LAt P w A S H ∧ Ints S 34 ∧ S.N + S.cand.length ≤ 3000 ∧
  ∀ (S' : Ls) (H' : Hp) (a : Addr) (v1 v2 : Dy) (is : List Nat), LAt P w A S' H' → LKeep A H H' → LExt S S' → S'.N + S'.cand.length ≤ S.N + S.cand.length + 8 → H a = none → H' a = some (.lst (is.map nV)) → SmD v1 → SmD v2 → NumL S' [⟨0, 0⟩, ⟨1, 0⟩, ⟨-1, 0⟩, v1, v2] is → Q (.ref a) H'
section
variable {P : Program} {w : World} {K : PySem.W.Frag} {mg : Str → Option Value} {base : Heap} (T : Tx K mg)
include T
theorem k_lseeds : C8.Cal P w K mg base 64 "_law_seeds" (spLSeeds P w) [] := by
  refine cal_by (k := 63) (t_glo__law_seeds T) (t_fn__law_seeds T) sc__law_seeds (fun vs H Q E h => ?_) (fun _ _ _ _ _ _ us hl => match us, hl with | [_, _], _ => rfl) (fun cdv A0 outer s H vs Q E hr h => ?_)
  · obtain ⟨A, S, z, rfl, _⟩ := h
    rfl
  · obtain ⟨A, S, z, rfl, h, hi, hb, k⟩ := h
    refine ⟨_, pss_cons (ps_set (i := 2) sc__law_seeds.nd rfl (.inl rfl) (C8.pe_c (k_digits T) hr (by decide) (by rfl) (pa_cons (pv 1) (pa_cons pe_int pa_nil))))
      (pss_cons (ps_set (i := 3) sc__law_seeds.nd rfl (.inl rfl) (pe_lst (pa_cons pe_int (pa_cons (C8.pe_c (k_lnum T 60) hr (by decide) (by rfl) (pa_cons (pv 0) (pa_cons pe_int (pa_cons pe_int pa_nil))))
        (pa_cons (C8.pe_c (k_lnum T 60) hr (by decide) (by rfl) (pa_cons (pv 0) (pa_cons (pe_un un_neg pe_int) (pa_cons pe_int pa_nil)))) pa_nil)))))
      (pss_cons (ps_for PassesOwn.never rfl (pi_range1 rfl (t_fr_range T) (pa_cons pe_int pa_nil)) (pg_name (i := 4) sc__law_seeds.nd rfl (.inl rfl))
        (pss_cons (ps_set (i := 5) sc__law_seeds.nd rfl (.inl rfl) (C8.pe_c (k_lpair T) hr (by decide) (by rfl) (pa_cons (pe_slice sl_list (pv 2) (po_some (pe_op op_mul pe_int (pv 4))) (po_some (pe_op op_add (pe_op op_mul pe_int (pv 4)) pe_int))) (pa_cons pe_int (pa_cons pe_int pa_nil)))))
        (pss_one (ps_expr (pe_bm PySem.F.plainAttrs_list PySem.F.slot_list_append PySem.F.type_list_append mt_append (pv 3) (pa_cons (C8.pe_c (k_lnum T 60) hr (by decide) (by rfl) (pa_cons (pv 0) (pa_cons (pe_ix ix_tup (pv 5) pe_int (fun _ _ => rfl)) (pa_cons (pe_ix ix_tup (pv 5) pe_int (fun _ _ => rfl)) pa_nil)))) pa_nil))))))
      (pss_one (ps_ret (pv 3))))), ?_⟩
    refine ⟨_, rfl, z, 14, rfl, by decide, fun ds dg hd hdg => ?_⟩
    obtain ⟨h1, k1⟩ := h.new hdg (.lst (ds.map V.int))
    have edg : upd H dg (.lst (ds.map V.int)) dg = some (.lst (ds.map V.int)) := upd_same
    have ndg := h.fresh hdg
    generalize upd H dg (.lst (ds.map V.int)) = H1 at h1 k1 edg
    obtain ⟨Sa, ha, kna, ba, hta, xa, ea⟩ := lnum_pre (p := 0) (t := 1) (M := 34) h1 (by decide) hi (by decide) (by decide) (by decide) (by omega)
    refine ⟨_, rfl, A, Sa, 1, 0, rfl, by decide, ha, kna, ba, hta, fun S2 H2 i1 h2 k2 x2 b2 _ l2 g2 => ?_⟩
    have x2 := xa.trans x2
    obtain ⟨Sb, hb', knb, bb, htb, xb, eb⟩ := lnum_pre (p := 0) (t := -1) (M := 34) h2 (by decide) (hi.ext x2) (by decide) (by decide) (by decide) (by omega)
    refine ⟨_, rfl, _, rfl, A, Sb, -1, 0, rfl, by decide, hb', knb, bb, htb, fun S3 H3 i2 h3 k3 x3 b3 _ l3 g3 => ?_⟩
    have x3 := xb.trans x3
    refine ⟨by show 3 ≤ sizeLine; decide, fun fo hfo => ?_⟩
    obtain ⟨h4, k4⟩ := h3.new hfo (.lst [.int 0, nV i1, nV i2])
    have efo : upd H3 fo (.lst [.int 0, nV i1, nV i2]) fo = some (.lst ([0, i1, i2].map nV)) := upd_same
    have nfo := h3.fresh hfo
    have kA : LKeep A H (upd H3 fo (.lst [.int 0, nV i1, nV i2])) := k1.trans (k2.trans (k3.trans k4))
    have hfoH : H fo = none := lkeep_none (k1.trans (k2.trans k3)) nfo hfo
    have edg4 := (k2.trans (k3.trans k4)) _ _ edg ndg
    have nfd : fo ≠ dg := fun q => by rw [q, (k2.trans k3) _ _ edg ndg] at hfo; cases hfo
    generalize upd H3 fo (.lst [.int 0, nV i1, nV i2]) = H4 at h4 k4 efo kA edg4 ⊢
    have xA := x2.trans x3
    have nl : NumL S3 [⟨0, 0⟩, ⟨1, 0⟩, ⟨-1, 0⟩] [0, i1, i2] := .cons ⟨h4.wf.wy.pos, by rw [form_z]; exact h4.wf.wy.g0⟩ (.cons ⟨x3.lt l2, by rw [x3.g l2]; exact g2⟩ (.cons ⟨l3, g3⟩ .nil))
    refine ⟨2, rfl, by decide, by decide, for_range (lo := 0) (n := 2) (fun i σ G => ∃ S5 vs is y y5, σ = [some (.ref A.st), some (.int z), some (.ref dg), some (.ref fo), y, y5] ∧ LAt P w A S5 G ∧ LKeep A H G ∧ LExt S S5 ∧ S5.N + S5.cand.length ≤ S.N + S.cand.length + 4 * i ∧ G fo = some (.lst (is.map nV)) ∧ G dg = some (.lst (ds.map V.int)) ∧
        vs.length = i ∧ (∀ v ∈ vs, SmD v) ∧ NumL S5 ([⟨0, 0⟩, ⟨1, 0⟩, ⟨-1, 0⟩] ++ vs) is)
      ⟨S3, [], [0, i1, i2], none, none, rfl, h4, kA, xA, by omega, efo, edg4, rfl, fun _ q => (by cases q), nl⟩ ?_ ?_⟩
    · rintro i σ G hi2 ⟨S5, vs, is, y, y5, rfl, h5, k5, x5, b5, e5, d5, lv, sv, nv⟩
      obtain ⟨d2, ed2, hd2⟩ := dig_cut hd (lo := 7 * i) (hi := 7 * i + 7) (by omega) (by omega)
      refine ⟨_, rfl, _, rfl, _, _, rfl, rfl, .inl ⟨by decide, by decide⟩, 7 * (i : Int), by show V.int (7 * (0 + (i : Int))) = _; rw [Int.zero_add], _, rfl, _, _, rfl, rfl, .inl ⟨by decide, by decide⟩, _, _, rfl, rfl, 7 * (i : Int) + 7, by show V.int (7 * (0 + (i : Int)) + 7) = _; rw [Int.zero_add], dg, _, rfl, SqL.of d5, fun sl hsl => ?_⟩
      have hs0 : H sl = none := lkeep_none k5 (h5.fresh hsl) hsl
      obtain ⟨h6, k6⟩ := h5.new hsl (.lst (d2.map V.int))
      have esl : upd G sl (.lst (d2.map V.int)) sl = some (.lst (d2.map V.int)) := upd_same
      have sG := same_upd (H := G) (o := .lst (d2.map V.int)) hsl
      rw [show (7 * (i : Int)) = ((7 * i : Nat) : Int) by omega, show ((7 * i : Nat) : Int) + 7 = ((7 * i + 7 : Nat) : Int) by omega, ed2]
      generalize upd G sl (.lst (d2.map V.int)) = G6 at h6 k6 esl sG ⊢
      refine ⟨sl, d2, _, 3, 2, rfl, esl, hd2, by omega, by decide, by decide, by decide, fun t p _ _ p2 t1 t2 G7 r s7 nr er => ?_⟩
      have h7 := h6.same s7
      have bnd : (2 : Int) ^ p ≤ 4 := by
        have : (2 : Nat) ^ p ≤ 2 ^ 2 := Nat.pow_le_pow_right (by decide) p2
        have e2 : ((2 ^ p : Nat) : Int) = (2 ^ p : Int) := by simp
        omega
      have pos : (0 : Int) < 2 ^ p := SG.pow_pos2 p
      have v0 : SmD (redu t p) := ⟨t, p, rfl, p2, t1, t2⟩
      obtain ⟨vt, vp, ev⟩ : ∃ (vt : Int) (vp : Nat), redu t p = ⟨vt, vp⟩ := ⟨_, _, rfl⟩
      rw [ev] at er v0
      have vp2 : vp ≤ 2 := by have := SG.redu_p p t; rw [ev] at this; exact Nat.le_trans this p2
      have vb : -12 ≤ vt ∧ vt ≤ 12 := by have := SG.redu_b p t 12 (by omega) (by omega); rw [ev] at this; exact this
      have vpl : redu vt vp = ⟨vt, vp⟩ := by have := SG.redu_plain p t; rw [ev] at this; exact SG.redu_of_plain this
      have vpos : (0 : Int) < 2 ^ vp := SG.pow_pos2 vp
      obtain ⟨Sc, hc, knc, bc, htc, xc, ec⟩ := lnum_pre (p := vp) (t := vt) (M := 34) h7 (by decide) (hi.ext x5) (by omega) (by omega) (by omega) (by omega)
      refine ⟨_, rfl, .inl ⟨rfl, _, SqL.of (s7 _ _ (sG _ _ e5))⟩, _, rfl, _, rfl, r, _, 0, .int vt, rfl, rfl, SqT.of er, rfl, _, rfl, r, _, 1, .int (vp : Int), rfl, rfl, SqT.of er, rfl, A, Sc, vt, vp, rfl, by omega, hc, knc, bc, htc, fun S8 G8 f h8 k8 x8 b8 _ l8 g8 => ?_⟩
      rw [vpl] at g8
      have e8 := k8 _ _ (s7 _ _ (sG _ _ e5)) nfo
      have d8 := k8 _ _ (s7 _ _ (sG _ _ d5)) ndg
      have x8' := x5.trans (xc.trans x8)
      refine ⟨fo, _, _, rfl, rfl, e8, by rw [List.length_map, ← paired_len nv, List.length_append, sizeLine_eq, lv]; show 3 + i < _; omega, S8, vs ++ [⟨vt, vp⟩], is ++ [f], _, _, rfl, h8.lst' e8 nfo _, lkeep_lst (k5.trans (k6.trans ((LKeep.same s7).trans k8))) hfoH, x8', by omega, by rw [upd_same, List.map_append]; rfl, (upd_ne nfd.symm).trans d8, by rw [List.length_append, lv]; rfl, fun v hv => ?_, ?_⟩
      · rcases List.mem_append.mp hv with m | m
        · exact sv v m
        · rw [List.mem_singleton.mp m]; exact v0
      · rw [← List.append_assoc]
        exact paired_snoc (nv.ext (xc.trans x8)) ⟨l8, g8⟩
    · rintro σ G ⟨S5, vs, is, y, y5, rfl, h5, k5, x5, b5, e5, d5, lv, sv, nv⟩
      match vs, lv, sv, nv with
      | [v1, v2], _, sv, nv => exact ⟨_, rfl, k S5 G fo v1 v2 is h5 k5 x5 b5 hfoH e5 (sv v1 (by simp)) (sv v2 (by simp)) nv⟩
end
end K45
end
section
set_option Elab.async false
set_option linter.all false
set_option maxRecDepth 100000
set_option maxHeartbeats 4000000
namespace K45
open PySem PySem.Spec PyProof.Rows L2
open SG (gv lf rt optI Nd Dy sc form Le WfY redu Plain)
theorem sc_pool : FnScope ["_law_store_here", "_law_pool_here", "_law_script", "_law_first", "_law_count", "_law_k", "_law_digits_here", "_law_near", "_law_rows", "_law_side", "_law_drawn", "_law_digit"] ["_law_store_here", "_law_pool_here", "_law_script", "_law_first", "_law_count"] (defScope s__law_pool) := ⟨rfl, rfl, rfl, by decide +kernel, rfl, by decide +kernel, by decide +kernel⟩
/-- games grown over a pool -/
inductive Grown (S : Ls) (is : List Nat) : List Nat → Prop where
  | nil : Grown S is []
  | snoc {more : List Nat} {g : Nat} (h : Grown S is more) (lt : g < S.N) (o : ∀ s, (∀ o ∈ optI s S.ns g, o ∈ is ++ more) ∧ (optI s S.ns g).length ≤ 4) : Grown S is (more ++ [g])
theorem Grown.ext {S S' : Ls} {is more : List Nat} (x : LExt S S') (h : Grown S is more) : Grown S' is more := by
  induction h with
  | nil => exact .nil
  | snoc _ lt o ih => exact .snoc ih (x.lt lt) fun s => by rw [x.o lt s]; exact o s
theorem Grown.lt {S : Ls} {is more : List Nat} (h : Grown S is more) : ∀ x ∈ more, x < S.N := by
  induction h with
  | nil => exact fun _ z => by cases z
  | snoc _ lt o ih =>
    intro x hx
    rcases List.mem_append.mp hx with m | m
    · exact ih x m
    · rw [List.mem_singleton.mp m]; exact lt
/-- all but the store and one place stay -/
def LKeepX (A : La) (pl : Addr) (H H' : Hp) : Prop := ∀ b o, H b = some o → b ∉ A.mut → b ≠ pl → H' b = some o
theorem LKeepX.trans {A : La} {pl : Addr} {H H' H'' : Hp} (a : LKeepX A pl H H') (b : LKeepX A pl H' H'') : LKeepX A pl H H'' := fun c o h n m => b c o (a c o h n m) n m
theorem LKeep.x {A : La} {H H' : Hp} (a : LKeep A H H') (pl : Addr) : LKeepX A pl H H' := fun c o h n _ => a c o h n
/-- the script stays -/
def Scr (K : PySem.W.Frag) (A : La) (pl : Addr) (H : Hp) (a : Addr) (ns : List Int) : Prop := (∀ H', SqL K H' a (ns.map V.int)) ∨ (Rd H a (.lst (ns.map V.int)) ∧ a ∉ A.mut ∧ a ≠ pl)
theorem Scr.sq {K : PySem.W.Frag} {A : La} {pl : Addr} {H H' : Hp} {a : Addr} {ns : List Int} (h : Scr K A pl H a ns) (k : LKeepX A pl H H') : SqL K H' a (ns.map V.int) := by
  rcases h with h | ⟨h | ⟨o, h⟩, n, m⟩
  · exact h H'
  · exact .inl (.inl (k _ _ h n m))
  · exact .inl (.inr ⟨o, k _ _ h n m⟩)
def spLPool (P : Program) (w : World) (K : PySem.W.Frag) : Sp := fun vs H Q _ => ∃ (A : La) (S : Ls) (pl sa : Addr) (is : List Nat) (ns : List Int) (f n : Nat), vs = [.ref A.st, .ref pl, .ref sa, nV f, nV n] ∧ LAt P w A S H ∧ Scr K A pl H sa ns ∧ H pl = some (.lst (is.map nV)) ∧ pl ∉ A.mut ∧
  3 ≤ is.length ∧ is.length ≤ 100 ∧ (∀ x ∈ is, x < S.N) ∧ f ≤ 20 ∧ n ≤ 10 ∧ S.N + S.cand.length ≤ 3900 ∧
  ∀ (S' : Ls) (H' : Hp) (more : List Nat), LAt P w A S' H' → LKeepX A pl H H' → LExt S S' → S'.N + S'.cand.length ≤ S.N + S.cand.length + n → H' pl = some (.lst ((is ++ more).map nV)) → more.length = n → Grown S' is more → Q (.ref pl) H'
theorem cut_last {is : List Nat} (h : 3 ≤ is.length) : ∃ near : List Nat, cutV (is.map nV) (some (-3)) none = near.map nV ∧ 0 < near.length ∧ near.length ≤ is.length ∧ ∀ x ∈ near, x ∈ is := by
  refine ⟨(is.drop (is.length - 3)).take 3, ?_, ?_, ?_, fun x hx => List.mem_of_mem_drop (List.mem_of_mem_take hx)⟩
  · unfold cutV
    rw [HT.sIx_none, List.length_map]
    have e : HT.sIx is.length 0 (some (-3)) = is.length - 3 := by
      show (if (-3 : Int) < 0 then (-3 + (is.length : Int)).toNat else min (-3 : Int).toNat is.length) = _
      rw [if_pos (by decide)]
      omega
    rw [e, List.map_take, List.map_drop, show is.length - (is.length - 3) = 3 by omega]
  · rw [List.length_take, List.length_drop]
    omega
  · rw [List.length_take, List.length_drop]
    omega
theorem call_len_seqK {X : Cx} (K' : PySem.W.Frag) (hK : X.K = K') : CallR X (.builtin "len") (fun xs H Q => ∃ p ys, xs = [.ref p] ∧ (SqL K' H p ys ∨ SqT K' H p ys) ∧ Q (.int ys.length) H) := hK ▸ call_len_seq
theorem LAt.rest {P : Program} {w : World} {A : La} {S : Ls} {H H' : Hp} (h : LAt P w A S H) {D : Addr} {xs : List V} (hD : H D = some (.lst xs)) (n : D ∉ A.mut) (r : Rest D H H') : LAt P w A S H' := by
  have k : ∀ b o, H b = some o → (∀ xs, o ≠ .lst xs) → H' b = some o := fun b o e ne => r _ _ e fun q => ne xs (Option.some.inj ((q ▸ e).symm.trans hD))
  have m : ∀ b, b ∈ A.mut → ∀ o, H b = some o → H' b = some o := fun b hb o e => r _ _ e fun q => n (by rw [← q]; exact hb)
  exact ⟨k _ _ h.st (fun _ z => by cases z), h.fo.of (fun _ e => m _ (by simp [La.mut]) _ e) (fun _ _ e => k _ _ e (fun _ z => by cases z)), m _ (by simp [La.mut]) _ h.he, h.id.mono (fun _ e => m _ (by simp [La.mut]) _ e) (fun _ _ e => k _ _ e (fun _ z => by cases z)), m _ (by simp [La.mut]) _ h.ov, m _ (by simp [La.mut]) _ h.md, h.d1, h.d2, h.wf⟩
section
variable {P : Program} {w : World} {K : PySem.W.Frag} {mg : Str → Option Value} {base : Heap} (T : Tx K mg)
include T
theorem k_lpool : C8.Cal P w K mg base 3 "_law_pool" (spLPool P w K) [] := by
  refine cal_by (k := 2) (t_glo__law_pool T) (t_fn__law_pool T) sc_pool (fun vs H Q E h => ?_) (fun _ _ _ _ _ _ us hl => match us, hl with | [_, _, _, _, _], _ => rfl) (fun cdv A0 outer s H vs Q E hr h => ?_)
  · obtain ⟨A, S, pl, sa, is, ns, f, n, rfl, _⟩ := h
    rfl
  · obtain ⟨A, S, pl, sa, is, ns, f, n, rfl, h, hsq, hpl, npl, l3, l100, bis, f20, n10, hb, k⟩ := h
    have hu := hu_of hr
    refine ⟨_, pss_cons (ps_for PassesOwn.never rfl (pi_range1 rfl (t_fr_range T) (pa_cons (pv 4) pa_nil)) (pg_name (i := 5) sc_pool.nd rfl (.inl rfl))
        (pss_cons (ps_set (i := 6) sc_pool.nd rfl (.inl rfl) (C8.pe_c (k_digits T) hr (by decide) (by rfl) (pa_cons (C8.pe_c (k_cell T) hr (by decide) (by rfl) (pa_cons (pv 2) (pa_cons (pe_op op_add (pv 3) (pv 5)) pa_nil))) (pa_cons pe_int pa_nil))))
        (pss_cons (ps_set (i := 7) sc_pool.nd rfl (.inr rfl) (pe_callTy call_list_of (by rfl) (t_fr_list T) (by decide +kernel) (pa_cons (pv 1) pa_nil)))
        (C8.pss_cut (ps_if (pt_cmpR op_eq (pe_op op_mod (pe_callTy call_int1 (by rfl) (t_fr_int T) (by decide +kernel) (pa_cons (pe_ix ix_list (pv 6) pe_int (fun _ _ => rfl)) pa_nil)) pe_int) pe_int (nomark _))
            (pss_one (ps_set (i := 7) sc_pool.nd rfl (.inr rfl) (pe_slice sl_list (pv 1) (po_some (pe_un un_neg pe_int)) po_none))) pss_nil)
        (pss_cons (ps_set (i := 8) sc_pool.nd rfl (.inl rfl) (pe_lst pa_nil))
        (pss_cons (ps_for PassesOwn.never rfl (pi_range1 rfl (t_fr_range T) (pa_cons pe_int pa_nil)) (pg_name (i := 9) sc_pool.nd rfl (.inl rfl))
          (pss_cons (ps_set (i := 10) sc_pool.nd rfl (.inl rfl) (pe_slice sl_list (pv 6) (po_some (pe_op op_add (pe_op op_mul pe_int (pv 9)) pe_int))
              (po_some (pe_op op_add (pe_op op_add (pe_op op_mul pe_int (pv 9)) pe_int) (pe_op op_mod (pe_callTy call_int1 (by rfl) (t_fr_int T) (by decide +kernel) (pa_cons (pe_ix ix_list (pv 6) (pe_op op_mul pe_int (pv 9)) (fun _ _ => rfl)) pa_nil)) pe_int)))))
          (pss_one (ps_expr (pe_bm PySem.F.plainAttrs_list PySem.F.slot_list_append PySem.F.type_list_append mt_append (pv 8) (pa_cons
            (pe_lc (own := [("_law_digit", 11)]) (g := gName 11) (tt := tYes) rfl sc_pool.nd (pi_list (pv 10))
              (blkOk_by (N := ["_law_store_here", "_law_pool_here", "_law_script", "_law_first", "_law_count", "_law_k", "_law_digits_here", "_law_near", "_law_rows", "_law_side", "_law_drawn", "_law_digit"]) (sc := defScope s__law_pool) (by decide +kernel)) (fun _ _ _ _ _ => pg_name (i := 11) sc_pool.nd rfl (Or.inl rfl)) (fun _ _ _ _ _ => pts_nil)
              (fun _ _ _ _ _ => pe_ix (ix_listK K rfl) (pv 7) (pe_op op_mod (pe_callTy call_int1 (by rfl) (t_fr_int T) (by decide +kernel) (pa_cons (pv 11) pa_nil)) (pe_callB (call_len_seqK K rfl) (by rfl) (t_fr_len T) PySem.boot_len (pa_cons (pv 7) pa_nil))) (fun _ _ => rfl))) pa_nil))))))
        (C8.pss_cut (ps_if (pt_cmpR op_eq (pe_op op_mod (pe_op op_fdiv (pe_callTy call_int1 (by rfl) (t_fr_int T) (by decide +kernel) (pa_cons (pe_ix ix_list (pv 6) pe_int (fun _ _ => rfl)) pa_nil)) pe_int) pe_int) pe_int (nomark _))
            (pss_one (ps_set (i := 8) sc_pool.nd rfl (.inl rfl) (pe_lst (pa_cons (pe_ix ix_list (pv 8) pe_int (fun _ _ => rfl)) (pa_cons (pe_ix ix_list (pv 8) pe_int (fun _ _ => rfl)) pa_nil))))) pss_nil)
        (pss_one (ps_expr (pe_bm PySem.F.plainAttrs_list PySem.F.slot_list_append PySem.F.type_list_append mt_append (pv 1) (pa_cons
          (C8.pe_c (k_lkeep T) hr (by decide) (by rfl) (pa_cons (pv 0) (pa_cons (pe_ix ix_list (pv 8) pe_int (fun _ _ => rfl)) (pa_cons (pe_ix ix_list (pv 8) pe_int (fun _ _ => rfl)) pa_nil)))) pa_nil)))))))))))
      (pss_one (ps_ret (pv 1))), ?_⟩
    refine ⟨_, rfl, (n : Int), rfl, by omega, by omega, ?_⟩
    rw [Int.toNat_natCast]
    refine for_range (lo := 0) (n := n) (fun i σ G => ∃ S2 more y5 y6 y7 y8 y9 y10, σ = [some (.ref A.st), some (.ref pl), some (.ref sa), some (nV f), some (nV n), y5, y6, y7, y8, y9, y10, none] ∧ LAt P w A S2 G ∧ LKeepX A pl H G ∧ LExt S S2 ∧ S2.N + S2.cand.length ≤ S.N + S.cand.length + i ∧
        G pl = some (.lst ((is ++ more).map nV)) ∧ more.length = i ∧ Grown S2 is more)
      ⟨S, [], none, none, none, none, none, none, rfl, h, fun _ _ e _ _ => e, LExt.refl S, Nat.le_refl _, by rw [List.append_nil]; exact hpl, rfl, .nil⟩ ?_ ?_
    · rintro i σ G hi ⟨S2, more, y5, y6, y7, y8, y9, y10, rfl, h2, k2, x2, b2, e2, lm, gr⟩
      have allt : ∀ x ∈ is ++ more, x < S2.N := fun x hx => by
        rcases List.mem_append.mp hx with m | m
        · exact x2.lt (bis x m)
        · exact gr.lt x m
      have lap : (is ++ more).length ≤ 110 := by rw [List.length_append]; omega
      refine ⟨_, rfl, _, rfl, _, rfl, _, _, rfl, rfl, sa, ns, f + i, (by show [V.ref sa, V.int ((f : Int) + (0 + (i : Int)))] = [V.ref sa, nV (f + i)]; rw [show (f : Int) + (0 + (i : Int)) = ((f + i : Nat) : Int) by omega]), hsq.sq k2, by omega, fun z => ⟨z, 11, rfl, by decide, fun ds dg hd hdg => ?_⟩⟩
      obtain ⟨h3, k3⟩ := h2.new hdg (.lst (ds.map V.int))
      have sq3 := same_upd (H := G) (o := .lst (ds.map V.int)) hdg
      have ndg := h2.fresh hdg
      have edg : upd G dg (.lst (ds.map V.int)) dg = some (.lst (ds.map V.int)) := upd_same
      have pdg : pl ≠ dg := ne_of_none e2 hdg
      have e3 := sq3 _ _ e2
      generalize upd G dg (.lst (ds.map V.int)) = G3 at h3 k3 sq3 edg e3 ⊢
      have get : ∀ i : Nat, i < 11 → ∃ d, 0 ≤ d ∧ d < 60 ∧ atI (ds.map V.int) (i : Int) = some (V.int d) := fun i hi => by
        have hl : i < ds.length := by rw [hd.1]; omega
        have e : ds[i]? = some (ds[i]'hl) := List.getElem?_eq_getElem hl
        exact ⟨_, (hd.2 _ (List.mem_of_getElem? e)).1, (hd.2 _ (List.mem_of_getElem? e)).2, atI_nat (by rw [List.getElem?_map, e]; rfl)⟩
      obtain ⟨d10, _, _, g10⟩ := get 10 (by decide)
      refine ⟨_, rfl, pl, _, rfl, .inl (SqL.of e3), fun nr hnr => ?_⟩
      have s4 := same_upd (H := G3) (o := .lst ((is ++ more).map nV)) hnr
      have enr : upd G3 nr (.lst ((is ++ more).map nV)) nr = some (.lst ((is ++ more).map nV)) := upd_same
      generalize upd G3 nr (.lst ((is ++ more).map nV)) = G4 at s4 enr ⊢
      refine ⟨fun σ' H' => ∃ (nr : Addr) (near : List Nat), σ' = [some (.ref A.st), some (.ref pl), some (.ref sa), some (nV f), some (nV n), some (.int (0 + (i : Int))), some (.ref dg), some (.ref nr), y8, y9, y10, none] ∧ H' nr = some (.lst (near.map nV)) ∧ 0 < near.length ∧ near.length ≤ 110 ∧ (∀ x ∈ near, x ∈ is ++ more) ∧ Same G3 H', ?_, ?_⟩
      · refine ⟨_, rfl, dg, _, 10, .int d10, rfl, rfl, SqL.of (s4 _ _ edg), g10, .inl ⟨_, rfl, _, _, rfl, rfl, by show (0 : Int) < 3; decide, rfl, _, rfl, ?_⟩⟩
        by_cases c : d10 % 3 = 1
        · rw [decide_eq_true (show V.int (d10 % 3) = V.int 1 by rw [c])]
          obtain ⟨near, en, n0, n1, nm⟩ := cut_last (is := is ++ more) (by rw [List.length_append]; omega)
          refine iteT ⟨_, rfl, _, rfl, -3, rfl, pl, _, rfl, SqL.of (s4 _ _ e3), fun p hp => ?_⟩
          rw [en]
          exact ⟨p, near, rfl, upd_same, n0, by omega, nm, Same.trans' s4 (same_upd hp)⟩
        · rw [decide_eq_false (show ¬ V.int (d10 % 3) = V.int 1 from fun z => c (by injection z))]
          exact iteF ⟨nr, is ++ more, rfl, enr, by rw [List.length_append]; omega, lap, fun _ h => h, s4⟩
      · rintro σ' G5 ⟨nr2, near, rfl, enr2, nl0, nl1, nm, s5⟩
        have h5 := h3.same s5
        have e5 := s5 _ _ e3
        have edg5 := s5 _ _ edg
        refine ⟨by show 0 ≤ sizeLine; decide, fun rw_ hrw => ?_⟩
        have s6 := same_upd (H := G5) (o := .lst []) hrw
        have erw : upd G5 rw_ (.lst []) rw_ = some (.lst []) := upd_same
        have nrw := h5.fresh hrw
        have h6 := h5.same s6
        have rdg : dg ≠ rw_ := ne_of_none edg5 hrw
        have rpl : pl ≠ rw_ := ne_of_none e5 hrw
        have rnr : nr2 ≠ rw_ := ne_of_none enr2 hrw
        have zz : ∀ c, upd G5 rw_ (.lst []) c = none → G5 c = none := fun c e => (un_none e).1
        have e6 := s6 _ _ e5
        have edg6 := s6 _ _ edg5
        have enr6 := s6 _ _ enr2
        generalize upd G5 rw_ (.lst []) = G6 at s6 erw h6 zz e6 edg6 enr6 ⊢
        have s36 : Same G3 G6 := Same.trans' s5 s6
        have hrwH : H rw_ = none ∨ rw_ = pl ∨ rw_ ∈ A.mut := by
          cases e : H rw_ with
          | none => exact .inl rfl
          | some o =>
            by_cases q : rw_ ∈ A.mut
            · exact .inr (.inr q)
            · by_cases q2 : rw_ = pl
              · exact .inr (.inl q2)
              · have := s5 _ _ (sq3 _ _ (k2 _ _ e q q2))
                rw [hrw] at this
                cases this
        refine ⟨2, rfl, by decide, by decide, for_range (lo := 0) (n := 2) (fun j σ H' => ∃ (rs : List (Addr × List Nat)) (z9 z10 : Option V), σ = [some (.ref A.st), some (.ref pl), some (.ref sa), some (nV f), some (nV n), some (.int (0 + (i : Int))), some (.ref dg), some (.ref nr2), some (.ref rw_), z9, z10, none] ∧ Rest rw_ G6 H' ∧ H' rw_ = some (.lst (rs.map fun r => V.ref r.1)) ∧ rs.length = j ∧ ∀ r ∈ rs, H' r.1 = some (.lst (r.2.map nV)) ∧ r.2.length ≤ 4 ∧ (∀ x ∈ r.2, x ∈ is ++ more) ∧ r.1 ≠ rw_)
          ⟨[], _, _, rfl, fun _ _ e _ => e, erw, rfl, fun _ z => by cases z⟩ ?_ ?_⟩
        · rintro j σ H7 hj ⟨rs, z9, z10, rfl, r7, erw7, lr, pr⟩
          obtain ⟨dj, dj0, dj1, gj⟩ := get (5 * j) (by omega)
          obtain ⟨e, ee⟩ : ∃ e : Nat, dj % 5 = (e : Int) := ⟨(dj % 5).toNat, by omega⟩
          have e4 : e ≤ 4 := by omega
          obtain ⟨d2, ed2, hd2⟩ := dig_cut hd (lo := 5 * j + 1) (hi := 5 * j + 1 + e) (by omega) (by omega)
          have edg7 := r7 _ _ edg6 rdg
          have j0 : (5 * (0 + (j : Int))) = ((5 * j : Nat) : Int) := by omega
          refine ⟨_, rfl, _, rfl, _, _, rfl, rfl, .inl ⟨by decide, by decide⟩, _, _, rfl, rfl, ((5 * j + 1 : Nat) : Int), (by show V.int (5 * (0 + (j : Int)) + 1) = _; rw [j0]; rfl), _, rfl, _, _, rfl, rfl, .inl ⟨by decide, by decide⟩, _, _, rfl, rfl, _, rfl, _, rfl, _, _, rfl, rfl, .inl ⟨by decide, by decide⟩, dg, _, ((5 * j : Nat) : Int), .int dj, rfl, (by show V.int (5 * (0 + (j : Int))) = _; rw [j0]), SqL.of edg7, gj, .inl ⟨_, rfl, _, _, rfl, rfl, by show (0 : Int) < 5; decide, _, _, rfl, rfl, ((5 * j + 1 + e : Nat) : Int), (by show V.int (5 * (0 + (j : Int)) + 1 + dj % 5) = _; rw [j0, ee]; rfl), dg, _, rfl, SqL.of edg7, fun sl hsl => ?_⟩⟩
          rw [ed2]
          have s8 := same_upd (H := H7) (o := .lst (d2.map V.int)) hsl
          have esl : upd H7 sl (.lst (d2.map V.int)) sl = some (.lst (d2.map V.int)) := upd_same
          generalize upd H7 sl (.lst (d2.map V.int)) = H8 at s8 esl ⊢
          have erw8 := s8 _ _ erw7
          refine ⟨_, rfl, .inl ⟨rfl, _, SqL.of erw8⟩, _, rfl, sl, rfl, ⟨_, SqL.of esl⟩, fun D hD => lc_list (K := K) (a := sl) (xs := d2.map V.int) (fun m H2 => ∃ xs : List Nat, H2 = upd H8 D (.lst (xs.map nV)) ∧ xs.length = m ∧ ∀ x ∈ xs, x ∈ near)
            ⟨[], rfl, rfl, fun _ z => by cases z⟩ (fun m H2 _ ⟨xs, q, _⟩ => by rw [q]; exact SqL.of ((upd_ne (ne_of_none esl hD)).trans esl)) ?_ ?_⟩
          · rintro m x H2 hm ⟨xs, rfl, lx, mx⟩
            rw [List.getElem?_map] at hm
            obtain ⟨d, hd3, rfl⟩ := Option.map_eq_some_iff.mp hm
            have enr8 : upd H8 D (.lst (xs.map nV)) nr2 = some (.lst (near.map nV)) := by
              have q := s8 _ _ (r7 _ _ enr6 rnr)
              exact (upd_ne (ne_of_none q hD)).trans q
            obtain ⟨q, eq⟩ : ∃ q : Nat, d % (near.length : Int) = (q : Int) := ⟨(d % (near.length : Int)).toNat, by have := Int.emod_nonneg d (show (near.length : Int) ≠ 0 by omega); omega⟩
            have ql : q < near.length := by have := Int.emod_lt_of_pos d (show (0 : Int) < near.length by omega); omega
            have lm5 : m < d2.length := (List.getElem?_eq_some_iff.mp hd3).1
            rw [hd2.1] at lm5
            refine ⟨rfl, ?_⟩
            refine ⟨_, rfl, _, rfl, .inl ⟨_, rfl, _, rfl, nr2, _, rfl, .inl (SqL.of enr8), _, _, rfl, rfl, (by show (0 : Int) < ((near.map nV).length : Int); rw [List.length_map]; omega), nr2, _, (q : Int), nV near[q], rfl, (by show V.int (d % ((near.map nV).length : Int)) = _; rw [List.length_map, eq]), SqL.of enr8, atI_nat (by rw [List.getElem?_map, List.getElem?_eq_getElem ql]; rfl), _, upd_same, by rw [List.length_map, lx, sizeLine_eq]; omega, xs ++ [near[q]], ?_, by rw [List.length_append, lx]; rfl, fun x hx => ?_⟩⟩
            · rw [List.map_append]
              funext c
              by_cases z : c = D
              · rw [z, upd_same, upd_same]; rfl
              · rw [upd_ne z, upd_ne z, upd_ne z]
            · rcases List.mem_append.mp hx with q | q
              · exact mx x q
              · rw [List.mem_singleton.mp q]; exact List.getElem_mem ql
          · rintro H2 ⟨xs, rfl, lx, mx⟩
            rw [List.length_map, hd2.1] at lx
            have s9 := same_upd (H := H8) (o := .lst (xs.map nV)) hD
            have erw9 := s9 _ _ erw8
            have rD : D ≠ rw_ := fun q => by rw [q, erw8] at hD; cases hD
            refine ⟨rw_, _, _, rfl, rfl, erw9, by rw [List.length_map, lr, sizeLine_eq]; omega, rs ++ [(D, xs)], _, _, rfl, fun c o e n => (upd_ne n).trans (s9 _ _ (s8 _ _ (r7 _ _ e n))), by rw [upd_same, List.map_append]; rfl, by rw [List.length_append, lr]; rfl, fun r hr => ?_⟩
            rcases List.mem_append.mp hr with m | m
            · obtain ⟨a1, a2, a3, a4⟩ := pr r m
              exact ⟨(upd_ne a4).trans (s9 _ _ (s8 _ _ a1)), a2, a3, a4⟩
            · rw [List.mem_singleton.mp m]
              exact ⟨(upd_ne rD).trans upd_same, by show xs.length ≤ 4; omega, fun x hx => nm x (mx x hx), rD⟩
        · rintro σ H7 ⟨rs, z9, z10, rfl, r7, erw7, lr, pr⟩
          match rs, lr, pr, erw7 with
          | [(ra, xs), (rb, ys)], _, pr, erw7 =>
            obtain ⟨era, lxs, mxs, _⟩ := pr (ra, xs) (by simp)
            obtain ⟨erb, lys, mys, _⟩ := pr (rb, ys) (by simp)
            have h7 := h6.rest erw nrw r7
            have edg7 := r7 _ _ edg6 rdg
            have e7 := r7 _ _ e6 rpl
            have k7 : LKeepX A pl H H7 := fun c o e n m => r7 _ _ (s36 _ _ (sq3 _ _ (k2 _ _ e n m))) fun q => by
              have := s5 _ _ (sq3 _ _ (k2 _ _ e n m))
              rw [q, hrw] at this
              cases this
            refine ⟨fun σ' H' => ∃ (rw2 ra rb : Addr) (xs ys : List Nat) (z9 z10 : Option V), σ' = [some (.ref A.st), some (.ref pl), some (.ref sa), some (nV f), some (nV n), some (.int (0 + (i : Int))), some (.ref dg), some (.ref nr2), some (.ref rw2), z9, z10, none] ∧ LAt P w A S2 H' ∧ LKeepX A pl H H' ∧ H' pl = some (.lst ((is ++ more).map nV)) ∧ H' rw2 = some (.lst [.ref ra, .ref rb]) ∧ H' ra = some (.lst (xs.map nV)) ∧ H' rb = some (.lst (ys.map nV)) ∧ xs.length ≤ 4 ∧ ys.length ≤ 4 ∧ (∀ x ∈ xs, x ∈ is ++ more) ∧ (∀ x ∈ ys, x ∈ is ++ more), ?_, ?_⟩
            · refine ⟨_, rfl, dg, _, 10, .int d10, rfl, rfl, SqL.of edg7, g10, .inl ⟨_, rfl, _, _, rfl, rfl, ⟨by decide, by decide⟩, _, _, rfl, rfl, by show (0 : Int) < 5; decide, rfl, _, rfl, ?_⟩⟩
              by_cases c : d10 / 3 % 5 = 1
              · rw [decide_eq_true (show V.int (d10 / 3 % 5) = V.int 1 by rw [c])]
                refine iteT ⟨_, rfl, rw_, _, 0, .ref ra, rfl, rfl, SqL.of erw7, rfl, _, rfl, rw_, _, 0, .ref ra, rfl, rfl, SqL.of erw7, rfl, by show 2 ≤ sizeLine; decide, fun p hp => ?_⟩
                have s8 := same_upd (H := H7) (o := .lst [V.ref ra, .ref ra]) hp
                exact ⟨p, ra, ra, xs, xs, _, _, rfl, h7.same s8, fun c o e n m => s8 _ _ (k7 _ _ e n m), s8 _ _ e7, upd_same, s8 _ _ era, s8 _ _ era, lxs, lxs, mxs, mxs⟩
              · rw [decide_eq_false (show ¬ V.int (d10 / 3 % 5) = V.int 1 from fun z => c (by injection z))]
                exact iteF ⟨rw_, ra, rb, xs, ys, _, _, rfl, h7, k7, e7, erw7, era, erb, lxs, lys, mxs, mys⟩
            · rintro σ' H8 ⟨rw2, ra, rb, xs, ys, z9, z10, rfl, h8, k8, e8, erw8, era, erb, lxs, lys, mxs, mys⟩
              have fin : ∀ (S9 : Ls) (H9 : Hp) (g : Nat), LAt P w A S9 H9 → LKeep A H8 H9 → LExt S2 S9 → S9.N + S9.cand.length ≤ S2.N + S2.cand.length + 1 → g < S9.N → (∀ s, (∀ o ∈ optI s S9.ns g, o ∈ is ++ more) ∧ (optI s S9.ns g).length ≤ 4) →
                  H9 pl = some (.lst ((is ++ more).map nV)) ∧ LAt P w A S9 (upd H9 pl (.lst ((is ++ more).map nV ++ [nV g]))) ∧ LKeepX A pl H (upd H9 pl (.lst ((is ++ more).map nV ++ [nV g]))) ∧ LExt S S9 ∧ S9.N + S9.cand.length ≤ S.N + S.cand.length + (i + 1) ∧ upd H9 pl (.lst ((is ++ more).map nV ++ [nV g])) pl = some (.lst ((is ++ (more ++ [g])).map nV)) ∧ (more ++ [g]).length = i + 1 ∧ Grown S9 is (more ++ [g]) := fun S9 H9 g h9 k9 x9 b9 lg og =>
                have e9 := k9 _ _ e8 npl
                ⟨e9, h9.lst' e9 npl _, fun c o e n m => (upd_ne m).trans (k9 _ _ (k8 _ _ e n m) n), x2.trans x9, by omega, by rw [upd_same, ← List.append_assoc, List.map_append (l₁ := is ++ more)]; rfl, by rw [List.length_append, lm]; rfl, .snoc (gr.ext x9) lg og⟩
              refine ⟨_, rfl, .inl ⟨rfl, _, SqL.of e8⟩, _, rfl, _, rfl, rw2, _, 0, .ref ra, rfl, rfl, SqL.of erw8, rfl, _, rfl, rw2, _, 1, .ref rb, rfl, rfl, SqL.of erw8, rfl, A, S2, ra, rb, xs, ys, rfl, h8, era, erb, by omega, by omega, fun x hx => allt x (mxs x hx), fun x hx => allt x (mys x hx), fun l r sl ml sr mr => ?_⟩
              have ll : l.length ≤ 4 := Nat.le_trans (SG.len_sub (SG.rise_nodup sl) fun x hx => (ml x).mp hx) lxs
              have lr' : r.length ≤ 4 := Nat.le_trans (SG.len_sub (SG.rise_nodup sr) fun x hx => (mr x).mp hx) lys
              have opt : ∀ (S9 : Ls) (g : Nat), lf S9.ns g = l → rt S9.ns g = r → ∀ s, (∀ o ∈ optI s S9.ns g, o ∈ is ++ more) ∧ (optI s S9.ns g).length ≤ 4 := fun S9 g a b s => by
                cases s
                · show (∀ o ∈ rt S9.ns g, _) ∧ (rt S9.ns g).length ≤ 4
                  rw [b]; exact ⟨fun o ho => mys o ((mr o).mp ho), lr'⟩
                · show (∀ o ∈ lf S9.ns g, _) ∧ (lf S9.ns g).length ≤ 4
                  rw [a]; exact ⟨fun o ho => mxs o ((ml o).mp ho), ll⟩
              have sz : ((is ++ more).map nV).length < sizeLine := by rw [List.length_map, sizeLine_eq]; omega
              refine ⟨fun g H9 lg a b h9 k9 => ?_, fun fr => ⟨by omega, fun H9 h9 k9 => ?_⟩⟩
              · obtain ⟨f1, f2, f3, f4, f5, f6, f7, f8⟩ := fin S2 H9 g h9 k9 (LExt.refl S2) (by omega) lg (opt S2 g a b)
                exact ⟨pl, _, _, rfl, rfl, f1, sz, S2, more ++ [g], _, _, _, _, _, _, rfl, f2, f3, f4, f5, f6, f7, f8⟩
              · obtain ⟨q1, q2, q3⟩ := push_at S2 l r
                obtain ⟨f1, f2, f3, f4, f5, f6, f7, f8⟩ := fin (S2.push l r) H9 S2.N h9 k9 (lpush_ext S2 l r) (by have : (S2.push l r).N = S2.N + 1 := List.length_append; have : (S2.push l r).cand.length = S2.cand.length := rfl; omega) q1 (opt _ _ q2 q3)
                exact ⟨pl, _, _, rfl, rfl, f1, sz, S2.push l r, more ++ [S2.N], _, _, _, _, _, _, rfl, f2, f3, f4, f5, f6, f7, f8⟩
    · rintro σ G ⟨S2, more, y5, y6, y7, y8, y9, y10, rfl, h2, k2, x2, b2, e2, lm, gr⟩
      exact ⟨_, rfl, k S2 G more h2 k2 x2 b2 e2 lm gr⟩
end
end K45
end
section
set_option Elab.async false
set_option linter.all false
set_option maxRecDepth 100000
set_option maxHeartbeats 4000000
namespace K45
open PySem PySem.Spec PyProof.Rows L2
open SG (gv lf rt optI Nd Dy sc form Le WfY redu Plain Gs Un UnOk Wf Ext Ex0 OKp OKr IsP IsSum Pu opt)
/-! ### the law's store and the program's yard side by side -/
structure Dj (L : La) (A : Ad) (o : Addr) : Prop where
  la : ∀ x ∈ L.mut, x ∉ A.mut
  st : L.st ∉ A.mut
  oa : o ∉ A.mut
  ol : o ∉ L.mut
  os : o ≠ L.st
structure Bo (P : Program) (w : World) (K : PySem.W.Frag) (L : La) (A : Ad) (o : Addr) (U : Un) (S : Ls) (G : Gs) (om : List (Nat × Nat)) (H : Hp) : Prop where
  la : LAt P w L S H
  ya : At P w K A U G H
  od : H o = some (.dK (om.map siE))
  oi : ∀ i f, (i, f) ∈ om → i < S.N ∧ f < G.N ∧ IsSum (G.g f) (S.g i) zr
  omk : (om.map (·.1)).Nodup
def OKeep (A : Ad) (o : Addr) (H H' : Hp) : Prop := ∀ b x, H b = some x → b ∉ A.mut → b ≠ o → H' b = some x
theorem OKeep.refl (A : Ad) (o : Addr) (H : Hp) : OKeep A o H H := fun _ _ e _ _ => e
theorem OKeep.trans {A : Ad} {o : Addr} {H H' H'' : Hp} (a : OKeep A o H H') (b : OKeep A o H' H'') : OKeep A o H H'' := fun c x e n m => b c x (a c x e n m) n m
theorem Keep.ok {A : Ad} {H H' : Hp} (k : Keep A H H') (o : Addr) : OKeep A o H H' := fun c x e n _ => k c x e n
theorem LAt.keepA {P : Program} {w : World} {K : PySem.W.Frag} {L : La} {A : Ad} {U : Un} {S : Ls} {G : Gs} {H H' : Hp} (h : LAt P w L S H) (y : At P w K A U G H) (d1 : ∀ x ∈ L.mut, x ∉ A.mut) (d2 : L.st ∉ A.mut) (k : Keep A H H') : LAt P w L S H' := by
  have m : ∀ b, b ∈ L.mut → ∀ o, H b = some o → H' b = some o := fun b hb o e => k _ _ e (d1 b hb)
  exact ⟨k _ _ h.st d2, h.fo.of (fun _ e => m _ (by simp [La.mut]) _ e) (fun c xs e => y.tupK k c xs e), m _ (by simp [La.mut]) _ h.he, h.id.mono (fun _ e => m _ (by simp [La.mut]) _ e) (fun c xs e => y.tupK k c xs e), m _ (by simp [La.mut]) _ h.ov, m _ (by simp [La.mut]) _ h.md, h.d1, h.d2, h.wf⟩
section
variable {P : Program} {w : World} {K : PySem.W.Frag} {L : La} {A : Ad} {o : Addr} {U : Un} {S : Ls} {G G' : Gs} {om : List (Nat × Nat)} {H H' : Hp}
theorem Bo.keepA (h : Bo P w K L A o U S G om H) (d : Dj L A o) (k : Keep A H H') (y : At P w K A U G' H') (x : Ex0 G G') : Bo P w K L A o U S G' om H' :=
  ⟨h.la.keepA h.ya d.la d.st k, y, k _ _ h.od d.oa, fun i f m => let ⟨a, b, c⟩ := h.oi i f m; ⟨a, x.lt b, by rw [x.g b]; exact c⟩, h.omk⟩
theorem Bo.same (h : Bo P w K L A o U S G om H) (s : Same H H') : Bo P w K L A o U S G om H' := ⟨h.la.same s, h.ya.same s, s _ _ h.od, h.oi, h.omk⟩
theorem Bo.new (h : Bo P w K L A o U S G om H) {c : Addr} (hc : H c = none) (q : HO) : Bo P w K L A o U S G om (upd H c q) ∧ OKeep A o H (upd H c q) := ⟨h.same (same_upd hc), fun b x e _ _ => same_upd hc _ _ e⟩
theorem Bo.fresh (h : Bo P w K L A o U S G om H) {c : Addr} (hc : H c = none) : c ∉ A.mut ∧ c ∉ L.mut ∧ c ≠ o := ⟨h.ya.fresh hc, h.la.fresh hc, fun q => by rw [q, h.od] at hc; cases hc⟩
theorem Bo.lst' (h : Bo P w K L A o U S G om H) {D : Addr} {xs : List V} (hD : H D = some (.lst xs)) (n : D ∉ A.mut) (n2 : D ∉ L.mut) (ys : List V) : Bo P w K L A o U S G om (upd H D (.lst ys)) :=
  ⟨h.la.lst' hD n2 ys, h.ya.lst' hD n ys, (upd_ne (ne_of h.od hD (by intro z; cases z))).trans h.od, h.oi, h.omk⟩
theorem Bo.put (h : Bo P w K L A o U S G om H) (d : Dj L A o) {i f : Nat} (hi : i < S.N) (hf : f < G.N) (hs : IsSum (G.g f) (S.g i) zr) : Bo P w K L A o U S G (putL om i f) (upd H o (.dK (putK (om.map siE) (kN i) (nV f)))) ∧ OKeep A o H (upd H o (.dK (putK (om.map siE) (kN i) (nV f)))) := by
  have k : ∀ c x, c ≠ o → H c = some x → upd H o (.dK (putK (om.map siE) (kN i) (nV f))) c = some x := fun c x n e => (upd_ne n).trans e
  have kk : ∀ c x, H c = some x → (∀ y, x ≠ .dK y) → upd H o (.dK (putK (om.map siE) (kN i) (nV f))) c = some x := fun c x e n => k c x (fun q => n _ (Option.some.inj ((q ▸ e).symm.trans h.od))) e
  have lm : ∀ b, b ∈ L.mut → ∀ x, H b = some x → upd H o (.dK (putK (om.map siE) (kN i) (nV f))) b = some x := fun b hb x e => k b x (fun q => d.ol (by rw [← q]; exact hb)) e
  have am : ∀ b, b ∈ A.mut → ∀ x, H b = some x → upd H o (.dK (putK (om.map siE) (kN i) (nV f))) b = some x := fun b hb x e => k b x (fun q => d.oa (by rw [← q]; exact hb)) e
  have ins : ∀ c C dx fs, H c = some (.ins C dx fs) → upd H o (.dK (putK (om.map siE) (kN i) (nV f))) c = some (.ins C dx fs) := fun c C dx fs e => kk _ _ e (fun _ z => by cases z)
  have dy : ∀ {d : Addr} {v : Dy}, DyAt K H d v → DyAt K (upd H o (.dK (putK (om.map siE) (kN i) (nV f)))) d v := fun {d v} hd => by
    obtain ⟨dx, e, r⟩ := hd
    exact ⟨dx, ins _ _ _ _ e, r⟩
  refine ⟨⟨⟨k _ _ (fun q => d.os q.symm) h.la.st, h.la.fo.of (fun _ e => lm _ (by simp [La.mut]) _ e) (fun _ _ e => kk _ _ e (fun _ z => by cases z)), lm _ (by simp [La.mut]) _ h.la.he, h.la.id.mono (fun _ e => lm _ (by simp [La.mut]) _ e) (fun _ _ e => kk _ _ e (fun _ z => by cases z)), lm _ (by simp [La.mut]) _ h.la.ov, lm _ (by simp [La.mut]) _ h.la.md, h.la.d1, h.la.d2, h.la.wf⟩,
    ⟨h.ya.lay.of ins, h.ya.yb.of (fun _ e => am _ (by simp [Ad.mut]) _ e) (fun _ e => am _ (by simp [Ad.mut]) _ e) (fun _ e => am _ (by simp [Ad.mut]) _ e) (fun _ e => am _ (by simp [Ad.mut]) _ e) (fun _ _ e => kk _ _ e (fun _ z => by cases z)),
      ⟨am _ (by simp [Ad.mut]) _ h.ya.bk.al, am _ (by simp [Ad.mut]) _ h.ya.bk.si, am _ (by simp [Ad.mut]) _ h.ya.bk.pl, am _ (by simp [Ad.mut]) _ h.ya.bk.nu, am _ (by simp [Ad.mut]) _ h.ya.bk.md, am _ (by simp [Ad.mut]) _ h.ya.bk.st, fun f z m => dy (h.ya.bk.dn f z m), fun q z m => dy (h.ya.bk.ds q z m)⟩, h.ya.di, h.ya.wf⟩, ?_, fun i' f' m => ?_, keys_putL h.omk⟩, fun c x e _ n => k c x n e⟩
  · rw [upd_same]
    exact congrArg (fun z => some (HO.dK z)) (put_map (f := siE) (kf := kN) (vf := nV) (fun _ => rfl) (fun a b => kN_inj) om i f)
  · rcases mem_putL m with m | m
    · exact h.oi i' f' m
    · injection m with a b
      subst a b
      exact ⟨hi, hf, hs⟩
theorem Bo.small (h : Bo P w K L A o U S G om H) : om.length ≤ 4000 := by
  have q := SG.classes (n := S.N) h.omk (fun e => e) (fun e he => by
    obtain ⟨⟨i, f⟩, m, rfl⟩ := List.mem_map.mp he
    exact (h.oi i f m).1) fun _ _ _ _ h => h
  rw [List.length_map] at q
  have := h.la.wf.bud
  omega
end
theorem optI_len {ns : List Nd} (w : WfY ns) {i : Nat} (h : i < ns.length) (s : Bool) : (optI s ns i).length ≤ ns.length := by
  have := SG.len_sub (M := List.range ns.length) (SG.rise_nodup (SG.optI_sorted w h (s := s))) fun x hx => List.mem_range.mpr (SG.optI_lt w h hx).2
  rwa [List.length_range] at this
def Cov (U : Un) (g : SG.G) : Prop := ∃ p ∈ U.all, (p.1.2 = g ∧ p.2.2 = zr) ∨ (p.1.2 = zr ∧ p.2.2 = g)
theorem cov_opt {U : Un} (ok : UnOk U) {g x : SG.G} {s : Bool} (h : Cov U g) (hx : x ∈ opt s g) : Cov U x := by
  obtain ⟨p, hp, c⟩ := h
  obtain ⟨h1, h2⟩ := SG.mem_pu.mp hp
  rcases c with ⟨a, b⟩ | ⟨a, b⟩
  · obtain ⟨j, hj, _⟩ := ok.u.cl p.1.1 p.1.2 h1 s x (by rw [a]; exact hx)
    exact ⟨((j, x), p.2), SG.mem_pu.mpr ⟨hj, h2⟩, .inl ⟨rfl, b⟩⟩
  · obtain ⟨j, hj, _⟩ := ok.v.cl p.2.1 p.2.2 h2 s x (by rw [b]; exact hx)
    exact ⟨(p.1, (j, x)), SG.mem_pu.mpr ⟨h1, hj⟩, .inr ⟨a, rfl⟩⟩
theorem cov_sumopt {G : Gs} {p : Pu} {g : SG.G} {s : Bool} {us : List SG.G} {fs : List Nat} (c : (p.1.2 = g ∧ p.2.2 = zr) ∨ (p.1.2 = zr ∧ p.2.2 = g)) (e : opt s g = us) (r : Paired (fun u f => f < G.N ∧ IsSum (G.g f) u zr) us fs) : SumOpt G p s fs := by
  obtain ⟨a, b⟩ := paired_fwd r
  rcases c with ⟨c1, c2⟩ | ⟨c1, c2⟩
  · refine ⟨fun f hf => ?_, fun x hx => ?_, fun x hx => ?_⟩
    · obtain ⟨u, hu, q⟩ := b f hf
      exact ⟨q.1, .inl ⟨u, by rw [c1, e]; exact hu, by rw [c2]; exact q.2⟩⟩
    · rw [c1, e] at hx
      obtain ⟨f, hf, q⟩ := a x hx
      exact ⟨f, hf, by rw [c2]; exact q.2⟩
    · rw [c2] at hx
      exact (opt_zr hx).elim
  · refine ⟨fun f hf => ?_, fun x hx => ?_, fun x hx => ?_⟩
    · obtain ⟨u, hu, q⟩ := b f hf
      exact ⟨q.1, .inr ⟨u, by rw [c2, e]; exact hu, by rw [c1]; exact SG.isSum_symm q.2⟩⟩
    · rw [c1] at hx
      exact (opt_zr hx).elim
    · rw [c2, e] at hx
      obtain ⟨f, hf, q⟩ := a x hx
      exact ⟨f, hf, by rw [c1]; exact SG.isSum_symm q.2⟩
theorem cov_isP {G : Gs} {p : Pu} {g : SG.G} {f : Nat} (c : (p.1.2 = g ∧ p.2.2 = zr) ∨ (p.1.2 = zr ∧ p.2.2 = g)) (h : IsP G.ns f p) : IsSum (G.g f) g zr := by
  have h : IsSum (G.g f) p.1.2 p.2.2 := h
  rcases c with ⟨c1, c2⟩ | ⟨c1, c2⟩
  · rw [c1, c2] at h; exact h
  · rw [c1, c2] at h; exact SG.isSum_symm h
def spOut (P : Program) (w : World) (K : PySem.W.Frag) (n : Nat) : Sp := fun vs H Q _ => ∃ (L : La) (A : Ad) (o : Addr) (U : Un) (S : Ls) (G : Gs) (om : List (Nat × Nat)) (i : Nat), vs = [.ref L.st, .ref o, .ref A.yd, nV i] ∧ Bo P w K L A o U S G om H ∧ Dj L A o ∧ UnOk U ∧ i < S.N ∧ SG.ht (S.g i) < n ∧ SG.ht (S.g i) ≤ 30 ∧ S.N ≤ 2000 ∧ Cov U (S.g i) ∧ (∀ q ∈ U.all, OKr G q) ∧
  ∀ (G' : Gs) (om' : List (Nat × Nat)) (H' : Hp) (f : Nat), Bo P w K L A o U S G' om' H' → OKeep A o H H' → Ext G G' → G'.slack = G.slack → f < G'.N → IsSum (G'.g f) (S.g i) zr → Q (nV f) H'
end K45
end
section
set_option Elab.async false
set_option linter.all false
set_option maxRecDepth 100000
set_option maxHeartbeats 4000000
namespace K45
open PySem PySem.Spec PyProof.Rows L2
open SG (gv lf rt optI Nd Dy sc form Le WfY redu Plain Gs Un UnOk Wf Ext Ex0 OKp OKr IsP IsSum Pu opt)
theorem sc_out : FnScope ["_law_store_here", "_law_out_here", "_law_yard", "_law_game", "_law_lefts", "_law_rights", "_law_option"] ["_law_store_here", "_law_out_here", "_law_yard", "_law_game"] (defScope s__law_out) := ⟨rfl, rfl, rfl, by decide +kernel, rfl, by decide +kernel, by decide +kernel⟩
abbrev OutL (S : Ls) (G : Gs) (os fs : List Nat) : Prop := Paired (fun o f => f < G.N ∧ IsSum (G.g f) (S.g o) zr) os fs
theorem OutL.ext {S : Ls} {G G' : Gs} {os fs : List Nat} (x : Ex0 G G') (h : OutL S G os fs) : OutL S G' os fs := Paired.mapP h fun o f ⟨a, b⟩ => ⟨x.lt a, by rw [x.g a]; exact b⟩
theorem paired_map {α β γ : Type} {R : γ → β → Prop} {f : α → γ} : ∀ {as : List α} {bs : List β}, Paired (fun a b => R (f a) b) as bs → Paired R (as.map f) bs
  | _, _, .nil => .nil
  | _, _, .cons q t => .cons q (paired_map t)
section
variable {P : Program} {w : World} {K : PySem.W.Frag} {mg : Str → Option Value} {base : Heap} (T : Tx K mg)
include T
theorem k_lout_step (n : Nat) (ih : C8.Cal P w K mg base (3 + n) "_law_out" (spOut P w K n) []) : C8.Cal P w K mg base (3 + (n + 1)) "_law_out" (spOut P w K (n + 1)) [] := by
  refine cal_by (k := 3 + n) (t_glo__law_out T) (t_fn__law_out T) sc_out (fun vs H Q E h => ?_) (fun _ _ _ _ _ _ us hl => match us, hl with | [_, _, _, _], _ => rfl) (fun cdv A0 outer s H vs Q E hr h => ?_)
  · obtain ⟨L, A, o, U, S, G, om, i, rfl, _⟩ := h
    rfl
  · obtain ⟨L, A, o, U, S, G, om, i, rfl, h, dj, ok, hi, hn, h30, n2, hc, hok, k⟩ := h
    have hu := hu_of hr
    refine ⟨_, pss_cons (ps_if (pt_cmp (pc_dnotin hu (pv 3) (pv 1)))
        (pss_cons (ps_setLc (i := 4) (own := [("_law_option", 6)]) (g := gName 6) (tt := tYes) rfl sc_out.nd rfl rfl (sw_true rfl rfl rfl (by decide +kernel)) (pi_tup (pe_ix ix_tup (pe_ix ix_list (pe_dget hu (pv 0) pe_str (fun _ _ => rfl)) (pv 3) (fun _ _ => rfl)) pe_int (fun _ _ => rfl)))
          (blkOk_by (N := ["_law_store_here", "_law_out_here", "_law_yard", "_law_game", "_law_lefts", "_law_rights", "_law_option"]) (sc := defScope s__law_out) (by decide +kernel)) (fun _ _ _ _ _ => pg_name (i := 6) sc_out.nd rfl (Or.inl rfl)) (fun _ _ _ _ _ => pts_nil) (fun _ _ _ _ _ => C8.pe_c ih hr (Nat.le_refl _) (by rfl) (pa_cons (pv 0) (pa_cons (pv 1) (pa_cons (pv 2) (pa_cons (pv 6) pa_nil))))))
        (pss_cons (ps_setLc (i := 5) (own := [("_law_option", 6)]) (g := gName 6) (tt := tYes) rfl sc_out.nd rfl rfl (sw_true rfl rfl rfl (by decide +kernel)) (pi_tup (pe_ix ix_tup (pe_ix ix_list (pe_dget hu (pv 0) pe_str (fun _ _ => rfl)) (pv 3) (fun _ _ => rfl)) pe_int (fun _ _ => rfl)))
          (blkOk_by (N := ["_law_store_here", "_law_out_here", "_law_yard", "_law_game", "_law_lefts", "_law_rights", "_law_option"]) (sc := defScope s__law_out) (by decide +kernel)) (fun _ _ _ _ _ => pg_name (i := 6) sc_out.nd rfl (Or.inl rfl)) (fun _ _ _ _ _ => pts_nil) (fun _ _ _ _ _ => C8.pe_c ih hr (Nat.le_refl _) (by rfl) (pa_cons (pv 0) (pa_cons (pv 1) (pa_cons (pv 2) (pa_cons (pv 6) pa_nil))))))
        (pss_one (ps_dput hu (pv 1) (pv 3) (C8.pe_mt (m_gameK T) hr (by omega) (pv 2) (pa_cons (pv 4) (pa_cons (pv 5) pa_nil))) rfl)))) pss_nil)
      (pss_one (ps_ret (pe_dget hu (pv 1) (pv 3) (fun _ _ => rfl)))), ?_⟩
    refine ⟨_, rfl, _, rfl, o, _, rfl, DGet.k (k := kN i) h.od, _, rfl, ?_⟩
    cases ev : valV (om.map siE) (kN i) with
    | some v =>
      obtain ⟨f, hf, rfl⟩ := val_some (f := siE) (kf := kN) (vf := nV) (a := i) (fun _ => rfl) (fun a b => kN_inj) ev
      have q := h.oi i f hf
      refine iteF ⟨_, rfl, _, rfl, o, nV f, rfl, ?_, k G om H f h (OKeep.refl _ _ _) (Ext.refl G) rfl q.2.1 q.2.2⟩
      rw [← ev]
      exact DGet.k (k := kN i) h.od
    | none =>
      have wy := h.la.wf.wy
      have io : ∀ s, ∀ x ∈ optI s S.ns i, x < S.N ∧ SG.ht (S.g x) < SG.ht (S.g i) ∧ Cov U (S.g x) := fun s x hx => ⟨(SG.optI_lt wy hi hx).2, SG.optI_ht wy hi hx, cov_opt ok (s := s) hc (by rw [SG.is_left wy hi s]; exact List.mem_map.mpr ⟨x, hx, rfl⟩)⟩
      have ol : ∀ s, (optI s S.ns i).length ≤ 2000 := fun s => Nat.le_trans (optI_len wy hi s) n2
      refine iteT ?_
      obtain ⟨fs3, fi3, ft3, fr3, g13, g23, g33, f43, f53⟩ := h.la.fo.get hi
      refine ⟨_, rfl, L.st, .ref L.fo, rfl, DGet.k (k := Sum.inr "forms") h.la.st, _, rfl, L.fo, fs3, (i : Int), .ref fi3, rfl, rfl, SqL.of g13, atI_nat g23, fi3, _, 0, .ref _, rfl, rfl, SqT.of g33, rfl, _, rfl, ⟨_, SqT.of f43⟩, fun D1 hD1 => lc_tup (K := K) (xs := (optI true S.ns i).map nV) (fun m H3i => ∃ G3i om3i fs, Bo P w K L A o U S G3i om3i H3i ∧ OKeep A o H H3i ∧ Ext G G3i ∧ G3i.slack = G.slack ∧ H3i D1 = some (.lst (fs.map nV)) ∧ OutL S G3i ((optI true S.ns i).take m) fs)
        ⟨G, om, [], (h.new hD1 _).1, (h.new hD1 _).2, Ext.refl G, rfl, upd_same, .nil⟩ (fun _ _ _ ⟨_, _, _, _, q, _⟩ => SqT.of (q _ _ f43 (h.ya.nmut f43 (fun _ z => by cases z) (fun _ z => by cases z) (fun _ z => by cases z) (fun _ z => by cases z)) (ne_of f43 h.od (by intro z; cases z)))) ?_ ?_⟩
      · rintro m x H3i hm ⟨G3i, om3i, fs, h3i, k3i, x3i, sl3i, e3i, r3i⟩
        obtain ⟨q, hq, rfl⟩ := nV_get hm
        have mq := List.mem_of_getElem? hq
        obtain ⟨c1, c2, c3⟩ := io true q mq
        obtain ⟨nA, nL, nO⟩ := h.fresh hD1
        refine ⟨rfl, _, rfl, _, rfl, _, rfl, _, rfl, L, A, o, U, S, G3i, om3i, q, rfl, h3i, dj, ok, c1, by omega, by omega, n2, c3, fun p hp => ((Ext.refl G).trans x3i).or p (hok p hp), fun G4 om4 H4 f h4 k4 x4 sl4 lf4 is4 => ?_⟩
        have e4 := k4 _ _ e3i nA nO
        have lfs : fs.length ≤ 2000 := by
          rw [← Paired.length r3i]
          exact Nat.le_trans (List.length_take_le' ..) (ol true)
        refine ⟨_, e4, by rw [List.length_map, sizeLine_eq]; omega, G4, om4, fs ++ [f], h4.lst' e4 nA nL _, fun b z e n m => (upd_ne (ne_of_none e hD1)).trans (k4 _ _ (k3i _ _ e n m) n m), x3i.trans x4, sl4.trans sl3i, ?_, ?_⟩
        · rw [upd_same, List.map_append]
          rfl
        · rw [List.take_add_one, hq]
          exact paired_snoc (r3i.ext x4.ex0) ⟨lf4, is4⟩
      rintro H3 ⟨G3, om3, fs1, h3, k3, x3, sl3, e3, r3⟩
      rw [List.length_map, List.take_of_length_le (Nat.le_refl _)] at r3
      obtain ⟨nA1, nL1, nO1⟩ := h.fresh hD1
      obtain ⟨fs6, fi6, ft6, fr6, g16, g26, g36, f46, f56⟩ := h3.la.fo.get hi
      refine ⟨_, rfl, L.st, .ref L.fo, rfl, DGet.k (k := Sum.inr "forms") h3.la.st, _, rfl, L.fo, fs6, (i : Int), .ref fi6, rfl, rfl, SqL.of g16, atI_nat g26, fi6, _, 1, .ref _, rfl, rfl, SqT.of g36, rfl, _, rfl, ⟨_, SqT.of f56⟩, fun D2 hD2 => lc_tup (K := K) (xs := (optI false S.ns i).map nV) (fun m H3i => ∃ G3i om3i fs, Bo P w K L A o U S G3i om3i H3i ∧ OKeep A o H3 H3i ∧ Ext G3 G3i ∧ G3i.slack = G3.slack ∧ H3i D2 = some (.lst (fs.map nV)) ∧ OutL S G3i ((optI false S.ns i).take m) fs)
        ⟨G3, om3, [], (h3.new hD2 _).1, (h3.new hD2 _).2, Ext.refl G3, rfl, upd_same, .nil⟩ (fun _ _ _ ⟨_, _, _, _, q, _⟩ => SqT.of (q _ _ f56 (h3.ya.nmut f56 (fun _ z => by cases z) (fun _ z => by cases z) (fun _ z => by cases z) (fun _ z => by cases z)) (ne_of f56 h3.od (by intro z; cases z)))) ?_ ?_⟩
      · rintro m x H3i hm ⟨G3i, om3i, fs, h3i, k3i, x3i, sl3i, e3i, r3i⟩
        obtain ⟨q, hq, rfl⟩ := nV_get hm
        have mq := List.mem_of_getElem? hq
        obtain ⟨c1, c2, c3⟩ := io false q mq
        obtain ⟨nA, nL, nO⟩ := h3.fresh hD2
        refine ⟨rfl, _, rfl, _, rfl, _, rfl, _, rfl, L, A, o, U, S, G3i, om3i, q, rfl, h3i, dj, ok, c1, by omega, by omega, n2, c3, fun p hp => (x3.trans x3i).or p (hok p hp), fun G4 om4 H4 f h4 k4 x4 sl4 lf4 is4 => ?_⟩
        have e4 := k4 _ _ e3i nA nO
        have lfs : fs.length ≤ 2000 := by
          rw [← Paired.length r3i]
          exact Nat.le_trans (List.length_take_le' ..) (ol false)
        refine ⟨_, e4, by rw [List.length_map, sizeLine_eq]; omega, G4, om4, fs ++ [f], h4.lst' e4 nA nL _, fun b z e n m => (upd_ne (ne_of_none e hD2)).trans (k4 _ _ (k3i _ _ e n m) n m), x3i.trans x4, sl4.trans sl3i, ?_, ?_⟩
        · rw [upd_same, List.map_append]
          rfl
        · rw [List.take_add_one, hq]
          exact paired_snoc (r3i.ext x4.ex0) ⟨lf4, is4⟩
      rintro H6 ⟨G6, om6, fs2, h6, k6, x6, sl6, e6, r6⟩
      rw [List.length_map, List.take_of_length_le (Nat.le_refl _)] at r6
      have e36 := k6 _ _ e3 nA1 nO1
      have x06 := x3.trans x6
      obtain ⟨p, hp, cc⟩ := hc
      have so1 : SumOpt G6 p true fs1 := cov_sumopt cc (SG.is_left wy hi true) (paired_map (r3.ext x6.ex0))
      have so2 : SumOpt G6 p false fs2 := cov_sumopt cc (SG.is_left wy hi false) (paired_map r6)
      refine ⟨_, rfl, A.yd, A.yx, _, rfl, h6.ya.lay.yd, rfl, _, rfl, _, rfl, ?_⟩
      dsimp only [tNil]
      refine game_num (E := C8.E0) ok h6.ya so1 so2 e36 e6 (by rw [← Paired.length r3]; exact ol true) (by rw [← Paired.length r6]; exact ol false) (x06.or p (hok p hp)) fun G7 H7 F h7 k7 x7 sl7 lF isF => ?_
      have b7 := h6.keepA dj k7 h7 x7.ex0
      have isF' := cov_isP cc isF
      have small := b7.small
      obtain ⟨b8, k8⟩ := b7.put dj hi lF isF'
      refine ⟨_, rfl, _, rfl, o, _, rfl, DPut.k (k := kN i) b7.od (by rw [List.length_map, sizeLine_eq]; omega), ?_⟩
      have e8 : upd H7 o (.dK (putK (om6.map siE) (kN i) (nV F))) o = some (.dK (putK (om6.map siE) (kN i) (nV F))) := upd_same
      generalize upd H7 o (.dK (putK (om6.map siE) (kN i) (nV F))) = H8 at b8 k8 e8 ⊢
      refine ⟨_, rfl, _, rfl, o, nV F, rfl, ?_, k G7 _ H8 F b8 (k3.trans (k6.trans ((k7.ok o).trans k8))) (x06.trans x7) (sl7.trans (sl6.trans sl3)) lF isF'⟩
      rw [← val_put (om6.map siE) (kN i) (nV F)]
      exact DGet.k (k := kN i) e8
theorem k_lout : ∀ n : Nat, C8.Cal P w K mg base (3 + n) "_law_out" (spOut P w K n) []
  | 0 => by
    refine cal_by (k := 2) (t_glo__law_out T) (t_fn__law_out T) sc_out (fun vs H Q E h => ?_) (fun _ _ _ _ _ _ us hl => match us, hl with | [_, _, _, _], _ => rfl) (fun cdv A0 outer s H vs Q E hr h => ?_)
    · obtain ⟨L, A, o, U, S, G, om, i, rfl, _⟩ := h
      rfl
    · obtain ⟨L, A, o, U, S, G, om, i, rfl, h, dj, ok, hi, hn, _⟩ := h
      exact absurd hn (Nat.not_lt_zero _)
  | n + 1 => k_lout_step T n (k_lout n)
end
end K45
end
section
set_option Elab.async false
set_option linter.all false
set_option maxRecDepth 100000
set_option maxHeartbeats 4000000
namespace K45
open PySem PySem.Spec PyProof.Rows L2
open SG (gv lf rt optI Nd Dy sc form Le WfY redu Plain Gs Un UnOk Wf Ext Ex0 OKp OKr IsP IsSum Pu opt stop)
def spTold (P : Program) (w : World) (K : PySem.W.Frag) : Sp := fun vs H Q _ => ∃ (A : Ad) (U : Un) (S : Gs) (i : Nat), vs = [.ref A.vl, nV i] ∧ At P w K A U S H ∧ UnOk U ∧ i < S.N ∧ SG.ht (S.g i) < 17 ∧ Lab U S i ∧ (∀ p ∈ U.all, OKp S p) ∧
  ∀ (S' : Gs) (H' : Hp) (a ta tb : Addr) (v u : Dy), At P w K A U S' H' → Keep A H H' → Ext S S' → S'.slack = S.slack → H a = none → H' a = some (.lst [.ref ta, .ref tb]) → H' ta = some (.tup (pairV v)) → H' tb = some (.tup (pairV u)) → Plain v → v.p ≤ 40 → Plain u → u.p ≤ 40 →
    sc v = stop 64 true (S.g i) → sc u = stop 64 false (S.g i) → Q (.ref a) H'
theorem At.rest {P : Program} {w : World} {K : PySem.W.Frag} {A : Ad} {U : Un} {S : Gs} {H H' : Hp} (h : At P w K A U S H) {D : Addr} {xs : List V} (hD : H D = some (.lst xs)) (n : D ∉ A.mut) (r : Rest D H H') : At P w K A U S H' := by
  have k : ∀ b o, H b = some o → (∀ xs, o ≠ .lst xs) → H' b = some o := fun b o e ne => r _ _ e fun q => ne xs (Option.some.inj ((q ▸ e).symm.trans hD))
  have m : ∀ b, b ∈ A.mut → ∀ o, H b = some o → H' b = some o := fun b hb o e => r _ _ e fun q => n (by rw [← q]; exact hb)
  have ins : ∀ c C dx fs, H c = some (.ins C dx fs) → H' c = some (.ins C dx fs) := fun c C dx fs e => k _ _ e (fun _ z => by cases z)
  have dy : ∀ {d : Addr} {v : Dy}, DyAt K H d v → DyAt K H' d v := fun {d v} hd => by
    obtain ⟨dx, e, r⟩ := hd
    exact ⟨dx, ins _ _ _ _ e, r⟩
  exact ⟨h.lay.of ins, h.yb.of (fun _ e => m _ (by simp [Ad.mut]) _ e) (fun _ e => m _ (by simp [Ad.mut]) _ e) (fun _ e => m _ (by simp [Ad.mut]) _ e) (fun _ e => m _ (by simp [Ad.mut]) _ e) (fun _ _ e => k _ _ e (fun _ z => by cases z)),
      ⟨m _ (by simp [Ad.mut]) _ h.bk.al, m _ (by simp [Ad.mut]) _ h.bk.si, m _ (by simp [Ad.mut]) _ h.bk.pl, m _ (by simp [Ad.mut]) _ h.bk.nu, m _ (by simp [Ad.mut]) _ h.bk.md, m _ (by simp [Ad.mut]) _ h.bk.st, fun f z q => dy (h.bk.dn f z q), fun q z e => dy (h.bk.ds q z e)⟩, h.di, h.wf⟩
section
variable {P : Program} {w : World} {K : PySem.W.Frag} {mg : Str → Option Value} {base : Heap} (T : Tx K mg)
include T
theorem k_ltold : C8.Cal P w K mg base 191 "_law_told" (spTold P w K) [] := by
  refine cal_by (k := 190) (t_glo__law_told T) (t_fn__law_told T) sc__law_told (fun vs H Q E h => ?_) (fun _ _ _ _ _ _ us hl => match us, hl with | [_, _], _ => rfl) (fun cdv A0 outer s H vs Q E hr h => ?_)
  · obtain ⟨A, U, S, i, rfl, _⟩ := h
    rfl
  · obtain ⟨A, U, S, i, rfl, h, ok, hi, hn, hl, hop, k⟩ := h
    refine ⟨_, pss_cons (ps_set (i := 2) sc__law_told.nd rfl (.inl rfl) (pe_lst pa_nil))
      (pss_cons (ps_for PassesOwn.never rfl (pi_list (pe_lst (pa_cons (C8.pe_mt (m_left_stop T) hr (by decide) (pv 0) (pa_cons (pv 1) pa_nil)) (pa_cons (C8.pe_mt (m_right_stop T) hr (by decide) (pv 0) (pa_cons (pv 1) pa_nil)) pa_nil)))) (pg_name (i := 3) sc__law_told.nd rfl (.inl rfl))
        (pss_cons (ps_if (PW.pt (pw_or (pt_not (pt_val (pe_callB (C8.call_isC (t_ins_Dyadic T)) (by rfl) (t_fr_isinstance T) (by decide +kernel) (pa_cons (pv 3) (pa_cons (pe_glob (v := .ref (He.ga K "Dyadic")) (by rfl) (t_glo_Dyadic T) rfl) pa_nil)))))
            (pw_or (pt_not (pt_val (C8.pe_c (k_lint T) hr (by decide) (by rfl) (pa_cons (pe_pr (p_top T) hr (by decide) (pv 3)) pa_nil))))
            (pw_or1 (pt_not (pt_val (C8.pe_c (k_lint T) hr (by decide) (by rfl) (pa_cons (pe_pr (p_power T) hr (by decide) (pv 3)) pa_nil)))))))) (pss_one ps_never) pss_nil)
        (pss_one (ps_expr (pe_bm PySem.F.plainAttrs_list PySem.F.slot_list_append PySem.F.type_list_append mt_append (pv 2) (pa_cons (pe_tup (pa_cons (pe_pr (p_top T) hr (by decide) (pv 3)) (pa_cons (pe_pr (p_power T) hr (by decide) (pv 3)) pa_nil))) pa_nil))))))
      (pss_one (ps_ret (pv 2)))), ?_⟩
    refine ⟨by show 0 ≤ sizeLine; decide, fun fo hfo => ?_⟩
    obtain ⟨h1, k1⟩ := h.new hfo (.lst [])
    have nfo := h.fresh hfo
    have efo : upd H fo (.lst []) fo = some (.lst []) := upd_same
    generalize upd H fo (.lst []) = H1 at h1 k1 efo ⊢
    refine ⟨_, rfl, A.vl, A.vx, _, rfl, h1.lay.vl, rfl, _, rfl, A, i, rfl, U, S, h1, ok, hi, hn, hl, hop, fun S2 H2 z2 h2 k2 x2 sl2 d2 q2 => ?_⟩
    have li2 := x2.ex0.lt hi
    have g2 := x2.ex0.g hi
    refine ⟨_, rfl, A.vl, A.vx, _, rfl, h2.lay.vl, rfl, _, rfl, A, i, rfl, U, S2, h2, ok, li2, by rw [g2]; exact hn, ?_, fun p hp => x2.op p (hop p hp), fun S3 H3 z3 h3 k3 x3 sl3 d3 q3 => ?_⟩
    · obtain ⟨p, hp, hl⟩ := hl
      exact ⟨p, hp, (x2.ex0.isP hi).mpr hl⟩
    rw [g2] at q3
    have d23 := h2.dyK k3 d2
    have efo3 := k3 _ _ (k2 _ _ efo nfo) nfo
    refine ⟨by show 2 ≤ sizeLine; decide, fun l hl => ?_⟩
    obtain ⟨h4, k4⟩ := h3.new hl (.lst [.ref z2.1, .ref z3.1])
    have el : upd H3 l (.lst [.ref z2.1, .ref z3.1]) l = some (.lst [.ref z2.1, .ref z3.1]) := upd_same
    have s4 := same_upd (H := H3) (o := .lst [V.ref z2.1, .ref z3.1]) hl
    have nlf : l ≠ fo := fun q => by rw [q, efo3] at hl; cases hl
    have dA := d23.mono fun o e => s4 _ _ e
    have dB := d3.mono fun o e => s4 _ _ e
    have efo4 := s4 _ _ efo3
    generalize upd H3 l (.lst [.ref z2.1, .ref z3.1]) = H4 at h4 k4 el s4 dA dB efo4 ⊢
    refine ⟨l, rfl, ⟨_, SqL.of el⟩, for_list (K := K) (a := l) (xs := [.ref z2.1, .ref z3.1]) (fun m σ G => ∃ (ts : List (Addr × Dy)) (y : Option V), σ = [some (.ref A.vl), some (nV i), some (.ref fo), y] ∧ Rest fo H4 G ∧ G fo = some (.lst (ts.map fun t => V.ref t.1)) ∧ ts.map (·.2) = [z2.2, z3.2].take m ∧ ∀ t ∈ ts, G t.1 = some (.tup (pairV t.2)))
      ⟨[], none, rfl, fun _ _ e _ => e, efo4, rfl, fun _ z => by cases z⟩ (fun m σ G _ ⟨_, _, _, q, _⟩ => SqL.of (q _ _ el nlf)) ?_ ?_⟩
    · rintro m x σ G hm ⟨ts, y, rfl, rG, eG, mt, pt⟩
      obtain ⟨z, hz, rfl, dz⟩ : ∃ z : Addr × Dy, [z2, z3][m]? = some z ∧ x = .ref z.1 ∧ DyAt K H4 z.1 z.2 := by
        match m, hm with
        | 0, hm => exact ⟨z2, rfl, (Option.some.inj hm).symm, dA⟩
        | 1, hm => exact ⟨z3, rfl, (Option.some.inj hm).symm, dB⟩
      have ml : m < 2 := (List.getElem?_eq_some_iff.mp hz).1
      have dG : DyAt K G z.1 z.2 := by
        obtain ⟨dx, e, r⟩ := dz
        exact ⟨dx, rG _ _ e (ne_of e efo4 (by intro z; cases z)), r⟩
      obtain ⟨dx, ed, okd⟩ := id dG
      refine ⟨_, rfl, z.1, dx, _, rfl, ed, true, rfl, ?_⟩
      refine iteF ⟨_, rfl, z.1, dx, _, rfl, ed, z.1, z.2, rfl, dG, z.2.t, rfl, true, rfl, ?_⟩
      refine iteF ⟨_, rfl, z.1, dx, _, rfl, ed, z.1, z.2, rfl, dG, (z.2.p : Int), rfl, true, rfl, ?_⟩
      refine iteF ⟨_, rfl, .inl ⟨rfl, _, SqL.of eG⟩, _, rfl, z.1, dx, _, rfl, ed, z.1, z.2, rfl, dG, _, rfl, z.1, dx, _, rfl, ed, z.1, z.2, rfl, dG, by show 2 ≤ sizeLine; decide, fun t ht => ?_⟩
      have sG := same_upd (H := G) (o := .tup (pairV z.2)) ht
      have tfo : t ≠ fo := fun q => by rw [q, eG] at ht; cases ht
      have lt : ts.length ≤ 2 := by
        have := congrArg List.length mt
        rw [List.length_map, List.length_take] at this
        omega
      refine ⟨fo, _, _, rfl, rfl, sG _ _ eG, by rw [List.length_map, sizeLine_eq]; omega, ts ++ [(t, z.2)], _, rfl, fun c o e n => (upd_ne n).trans (sG _ _ (rG _ _ e n)), by rw [upd_same, List.map_append]; rfl, ?_, fun t' ht' => ?_⟩
      · rw [List.map_append, mt]
        match m, hz with
        | 0, hz => cases hz; rfl
        | 1, hz => cases hz; rfl
      · rcases List.mem_append.mp ht' with q | q
        · exact (upd_ne (fun e => by have := pt t' q; rw [e, eG] at this; cases this)).trans (sG _ _ (pt t' q))
        · rw [List.mem_singleton.mp q]
          exact (upd_ne tfo).trans upd_same
    · rintro σ G ⟨ts, y, rfl, rG, eG, mt, pt⟩
      obtain ⟨dx2, _, ok2⟩ := dA
      obtain ⟨dx3, _, ok3⟩ := dB
      match ts, mt, eG, pt with
      | [(ta, v), (tb, u)], mt, eG, pt =>
        injection mt with m1 m2
        injection m2 with m2 _
        have m1 : v = z2.2 := m1
        have m2 : u = z3.2 := m2
        subst m1 m2
        have hG : At P w K A U S3 G := h4.rest efo4 nfo rG
        have kG : Keep A H G := fun c o e n => rG _ _ (k4 _ _ (k3 _ _ (k2 _ _ (k1 _ _ e n) n) n) n) (ne_of_none e hfo)
        exact ⟨_, rfl, k S3 G fo ta tb z2.2 z3.2 hG kG (x2.trans x3) (sl3.trans sl2) hfo eG (pt (ta, z2.2) (List.mem_cons_self ..)) (pt (tb, z3.2) (List.mem_cons_of_mem _ (List.mem_cons_self ..))) ok2.pl ok2.p ok3.pl ok3.p q2 q3⟩
end
end K45
end
section
set_option Elab.async false
set_option linter.all false
set_option maxRecDepth 100000
set_option maxHeartbeats 4000000
namespace K45
open PySem PySem.Spec PyProof.Rows L2
open SG (gv lf rt optI Nd Dy sc form Le WfY redu Plain stop)
def spPlaced (P : Program) (w : World) : Sp := fun vs H Q _ => ∃ (A : La) (S : Ls) (i : Nat) (st pr ta tb : Addr) (v u x : Dy), vs = [.ref A.st, nV i, .ref st, .ref pr] ∧ LAt P w A S H ∧ Ints S 34 ∧ i < S.N ∧ SG.ht (S.g i) ≤ 9 ∧ H st = some (.lst [.ref ta, .ref tb]) ∧ st ∉ A.mut ∧ H ta = some (.tup (pairV v)) ∧ H tb = some (.tup (pairV u)) ∧ H pr = some (.tup (pairV x)) ∧
  x.p ≤ 16 ∧ -(33 * 2 ^ x.p) ≤ x.t ∧ x.t ≤ 33 * 2 ^ x.p ∧ v.p ≤ 40 ∧ u.p ≤ 40 ∧ v.t.natAbs < 2 ^ 64 ∧ u.t.natAbs < 2 ^ 64 ∧ sc v = stop 64 true (S.g i) ∧ sc u = stop 64 false (S.g i) ∧ S.N + S.cand.length + 2 * x.p ≤ 3900 ∧
  ∀ (S' : Ls) (H' : Hp), LAt P w A S' H' → LKeep A H H' → LExt S S' → S'.N + S'.cand.length ≤ S.N + S.cand.length + 2 * x.p → Q (.bl true) H'
theorem ov_ext (S : Ls) (ov : List ((Nat × Nat) × Bool)) : LExt S (withOv S ov) := ⟨⟨[], (List.append_nil _).symm⟩, fun _ h => h⟩
section
variable {P : Program} {w : World} {K : PySem.W.Frag} {mg : Str → Option Value} {base : Heap} (T : Tx K mg)
include T
theorem k_lplaced : C8.Cal P w K mg base 72 "_law_placed" (spPlaced P w) [] := by
  refine cal_by (k := 71) (t_glo__law_placed T) (t_fn__law_placed T) sc__law_placed (fun vs H Q E h => ?_) (fun _ _ _ _ _ _ us hl => match us, hl with | [_, _, _, _], _ => rfl) (fun cdv A0 outer s H vs Q E hr h => ?_)
  · obtain ⟨A, S, i, st, pr, ta, tb, v, u, x, rfl, _⟩ := h
    rfl
  · obtain ⟨A, S, i, st, pr, ta, tb, v, u, x, rfl, h, hin, hi, h9, est, nst, eta, etb, epr, xp, xl, xh, vp, up, vt, ut, sv, su, hb, k⟩ := h
    refine ⟨_, pss_cons (ps_set (i := 4) sc__law_placed.nd rfl (.inl rfl) (C8.pe_c (k_lnum T 60) hr (by decide) (by rfl) (pa_cons (pv 0) (pa_cons (pe_ix ix_tup (pv 3) pe_int (fun _ _ => rfl)) (pa_cons (pe_ix ix_tup (pv 3) pe_int (fun _ _ => rfl)) pa_nil)))))
      (pss_cons (ps_set (i := 5) sc__law_placed.nd rfl (.inl rfl) (C8.pe_c (k_lover T 70) hr (by decide) (by rfl) (pa_cons (pv 0) (pa_cons (pv 1) (pa_cons (pv 4) pa_nil)))))
      (pss_cons (ps_set (i := 6) sc__law_placed.nd rfl (.inl rfl) (C8.pe_c (k_lover T 70) hr (by decide) (by rfl) (pa_cons (pv 0) (pa_cons (pv 4) (pa_cons (pv 1) pa_nil)))))
      (pss_cons (ps_if (PW.pt (pw_and (pt_val (C8.pe_c (k_lless T) hr (by decide) (by rfl) (pa_cons (pv 3) (pa_cons (pe_ix ix_list (pv 2) pe_int (fun _ _ => rfl)) pa_nil)))) (pw_and1 (PW.pt (pw_or (pt_not (pt_val (pv 5))) (pw_or1 (pt_val (pv 6)))))))) (pss_one ps_never) pss_nil)
      (pss_cons (ps_if (PW.pt (pw_and (pt_val (C8.pe_c (k_lless T) hr (by decide) (by rfl) (pa_cons (pe_ix ix_list (pv 2) pe_int (fun _ _ => rfl)) (pa_cons (pv 3) pa_nil)))) (pw_and1 (PW.pt (pw_or (pt_not (pt_val (pv 6))) (pw_or1 (pt_val (pv 5)))))))) (pss_one ps_never) pss_nil)
      (pss_one (ps_ret (pe_or (pe_not (C8.pe_c (k_lless T) hr (by decide) (by rfl) (pa_cons (pe_ix ix_list (pv 2) pe_int (fun _ _ => rfl)) (pa_cons (pv 3) pa_nil))))
        (pe_or (pe_not (C8.pe_c (k_lless T) hr (by decide) (by rfl) (pa_cons (pv 3) (pa_cons (pe_ix ix_list (pv 2) pe_int (fun _ _ => rfl)) pa_nil))))
        (pe_one (pe_and (pe_not (pv 5)) (pe_one (pe_not (pv 6))))))))))))), ?_⟩
    have vx : sc (redu x.t x.p) = sc x := SG.redu_sc _ _ (by omega)
    obtain ⟨S1, h1, kn1, b1, ht1, x1, e1⟩ := lnum_pre (p := x.p) (t := x.t) (M := 34) h (by decide) hin xp (by have := SG.pow_pos2 x.p; omega) (by have := SG.pow_pos2 x.p; omega) (by omega)
    refine ⟨_, rfl, _, rfl, pr, _, 0, .int x.t, rfl, rfl, SqT.of epr, rfl, _, rfl, pr, _, 1, .int (x.p : Int), rfl, rfl, SqT.of epr, rfl, A, S1, x.t, x.p, rfl, by omega, h1, kn1, b1, ht1, fun S2 H2 f h2 k2 x2 b2 _ lf2 g2 => ?_⟩
    rw [vx] at ht1 g2
    have xx := x1.trans x2
    have hi2 := xx.lt hi
    have gi2 := xx.g hi
    refine ⟨_, rfl, _, rfl, _, rfl, A, S2, i, f, rfl, h2, hi2, lf2, by rw [gi2, g2]; omega, fun ov3 H3 h3 k3 => ?_⟩
    refine ⟨_, rfl, _, rfl, _, rfl, A, withOv S2 ov3, f, i, rfl, h3, lf2, hi2, by show SG.ht (S2.g f) + SG.ht (S2.g i) < 70; rw [gi2, g2]; omega, fun ov4 H4 h4 k4 => ?_⟩
    have kA := k2.trans (k3.trans k4)
    have est4 := kA _ _ est nst
    have eta4 := h.tupK kA _ _ eta
    have etb4 := h.tupK kA _ _ etb
    have epr4 := h.tupK kA _ _ epr
    have ge := SG.stop_ge (p := 64) (g := S.g i) (by omega)
    have th1 := (SG.thm 64 (S.g i)).i1 (sc x)
    have th2 := (SG.thm 64 (S.g i)).i2 (sc x)
    have th3 := (SG.thm 64 (S.g i)).i3 (sc x)
    have th4 := (SG.thm 64 (S.g i)).i4 (sc x)
    have ea : leB (S2.g f) (S2.g i) = leB (form 64 (sc x)) (S.g i) := by rw [gi2, g2]
    have eb : leB ((withOv S2 ov3).g i) ((withOv S2 ov3).g f) = leB (S.g i) (form 64 (sc x)) := by show leB (S2.g i) (S2.g f) = _; rw [gi2, g2]
    have xt : x.t.natAbs < 2 ^ 64 := by
      have : (2 : Nat) ^ x.p ≤ 2 ^ 16 := Nat.pow_le_pow_right (by decide) xp
      have e2 : ((2 ^ x.p : Nat) : Int) = (2 ^ x.p : Int) := by simp
      omega
    have P5 : ∀ a : Bool, (a = true ↔ Le (form 64 (sc x)) (S.g i)) → some (some (V.bl (leB (S2.g f) (S2.g i)))) = some (some (V.bl a)) := fun a ha => by
      rw [ea]
      cases a
      · rw [leB_false fun z => absurd (ha.mpr z) (by decide)]
      · rw [leB_true (ha.mp rfl)]
    have P6 : ∀ b : Bool, (b = true ↔ Le (S.g i) (form 64 (sc x))) → some (some (V.bl (leB ((withOv S2 ov3).g i) ((withOv S2 ov3).g f)))) = some (some (V.bl b)) := fun b hb => by
      rw [eb]
      cases b
      · rw [leB_false fun z => absurd (hb.mpr z) (by decide)]
      · rw [leB_true (hb.mp rfl)]
    rw [← sv] at ge th1 th2
    rw [← su] at ge th3 th4
    have fin := k (withOv (withOv S2 ov3) ov4) H4 h4 kA ((xx.trans (ov_ext _ _)).trans (ov_ext _ _)) (by show S2.N + S2.cand.length ≤ _; omega)
    refine ⟨_, rfl, _, rfl, st, _, 1, .ref tb, rfl, rfl, SqL.of est4, rfl, pr, tb, x, u, rfl, epr4, etb4, by omega, by omega, xt, ut, _, rfl, ?_⟩
    by_cases c1 : sc x < sc u
    · rw [decide_eq_true c1]
      refine iteT ⟨.bl true, P5 true ⟨fun _ => th4 c1, fun _ => rfl⟩, true, rfl, ?_⟩
      refine iteF ⟨.bl false, P6 false ⟨fun z => absurd z (by decide), fun z => absurd z (th1 (by omega))⟩, false, rfl, ?_⟩
      refine iteF ?_
      refine ⟨_, rfl, st, _, 0, .ref ta, rfl, rfl, SqL.of est4, rfl, _, rfl, ta, pr, v, x, rfl, eta4, epr4, by omega, by omega, vt, xt, _, rfl, ?_⟩
      rw [decide_eq_false (show ¬ sc v < sc x by omega)]
      refine iteF ?_
      refine ⟨_, rfl, st, _, 1, .ref tb, rfl, rfl, SqL.of est4, rfl, _, rfl, tb, pr, u, x, rfl, etb4, epr4, by omega, by omega, ut, xt, _, rfl, ?_⟩
      rw [decide_eq_false (show ¬ sc u < sc x by omega)]
      exact ⟨true, rfl, iteT fin⟩
    · rw [decide_eq_false c1]
      refine iteF ?_
      refine ⟨_, rfl, st, _, 0, .ref ta, rfl, rfl, SqL.of est4, rfl, _, rfl, ta, pr, v, x, rfl, eta4, epr4, by omega, by omega, vt, xt, _, rfl, ?_⟩
      by_cases c2 : sc v < sc x
      · rw [decide_eq_true c2]
        refine iteT ⟨.bl true, P6 true ⟨fun _ => th2 c2, fun _ => rfl⟩, true, rfl, ?_⟩
        refine iteF ⟨.bl false, P5 false ⟨fun z => absurd z (by decide), fun z => absurd z (th3 (by omega))⟩, false, rfl, ?_⟩
        refine iteF ?_
        refine ⟨_, rfl, st, _, 1, .ref tb, rfl, rfl, SqL.of est4, rfl, _, rfl, tb, pr, u, x, rfl, etb4, epr4, by omega, by omega, ut, xt, _, rfl, ?_⟩
        rw [decide_eq_true (show sc u < sc x by omega)]
        refine ⟨false, rfl, iteF ?_⟩
        refine ⟨_, rfl, _, rfl, st, _, 0, .ref ta, rfl, rfl, SqL.of est4, rfl, pr, ta, x, v, rfl, epr4, eta4, by omega, by omega, xt, vt, _, rfl, ?_⟩
        rw [decide_eq_false (show ¬ sc x < sc v by omega)]
        exact ⟨true, rfl, iteT fin⟩
      · rw [decide_eq_false c2]
        refine iteF ?_
        refine ⟨_, rfl, st, _, 1, .ref tb, rfl, rfl, SqL.of est4, rfl, _, rfl, tb, pr, u, x, rfl, etb4, epr4, by omega, by omega, ut, xt, _, rfl, ?_⟩
        by_cases c3 : sc u < sc x
        · rw [decide_eq_true c3]
          refine ⟨false, rfl, iteF ?_⟩
          refine ⟨_, rfl, _, rfl, st, _, 0, .ref ta, rfl, rfl, SqL.of est4, rfl, pr, ta, x, v, rfl, epr4, eta4, by omega, by omega, xt, vt, _, rfl, ?_⟩
          by_cases c4 : sc x < sc v
          · rw [decide_eq_true c4]
            refine ⟨false, rfl, iteF ?_⟩
            refine ⟨.bl false, P5 false ⟨fun z => absurd z (by decide), fun z => absurd z (th3 c3)⟩, false, rfl, true, rfl, ?_⟩
            exact iteT ⟨.bl false, P6 false ⟨fun z => absurd z (by decide), fun z => absurd z (th1 c4)⟩, false, rfl, fin⟩
          · rw [decide_eq_false c4]
            exact ⟨true, rfl, iteT fin⟩
        · rw [decide_eq_false c3]
          exact ⟨true, rfl, iteT fin⟩
end
end K45
end
section
set_option Elab.async false
set_option linter.all false
set_option maxRecDepth 100000
set_option maxHeartbeats 4000000
namespace K45
open PySem PySem.Spec PyProof.Rows L2
open SG (gv lf rt optI Nd Dy sc form Le WfY redu Plain Un UnOk Fam Pu opt pu cost Tb)
/-! ### the universe of a script -/
theorem redu_bd (M : Int) (p : Nat) : ∀ t : Int, -(M * 2 ^ p) ≤ t → t ≤ M * 2 ^ p → -(M * 2 ^ (redu t p).p) ≤ (redu t p).t ∧ (redu t p).t ≤ M * 2 ^ (redu t p).p := by
  induction p with
  | zero => exact fun t a b => ⟨a, b⟩
  | succ p ih =>
    intro t a b
    have a' := a
    have b' := b
    rw [Int.pow_succ, ← Int.mul_assoc] at a' b'
    unfold SG.redu
    split
    · exact ih _ (by omega) (by omega)
    · exact ⟨a, b⟩
/-- what a seed brings: itself and its option with a power of 1 -/
def half2 (v : Dy) : List SG.G := if v.p = 0 then [form 0 0, form 0 0] else if v.p = 1 then [form 1 v.t, form 0 0] else [form 2 v.t, form 1 (if v.t / 2 % 2 = 1 then v.t / 2 else v.t / 2 + 1)]
def nums (vs : List Dy) : List SG.G := [form 0 (-3), form 0 (-2), form 0 (-1), form 0 0, form 0 1, form 0 2, form 0 3] ++ vs.flatMap half2
theorem half2_len (v : Dy) : (half2 v).length = 2 := by
  unfold half2
  split
  · rfl
  · split <;> rfl
theorem nums_len : ∀ vs : List Dy, (nums vs).length = 7 + 2 * vs.length := fun vs => by
  unfold nums
  rw [List.length_append]
  show 7 + _ = _
  induction vs with
  | nil => rfl
  | cons v vs ih =>
    rw [List.flatMap_cons, List.length_append, half2_len, List.length_cons]
    omega
theorem int_mem (vs : List Dy) {i : Int} (h1 : -3 ≤ i) (h2 : i ≤ 3) : form 0 i ∈ nums vs := by
  refine List.mem_append_left _ ?_
  have : i = -3 ∨ i = -2 ∨ i = -1 ∨ i = 0 ∨ i = 1 ∨ i = 2 ∨ i = 3 := by omega
  rcases this with rfl | rfl | rfl | rfl | rfl | rfl | rfl <;> simp
def Sm2 (v : Dy) : Prop := Plain v ∧ v.p ≤ 2 ∧ -(3 * 2 ^ v.p) ≤ v.t ∧ v.t ≤ 3 * 2 ^ v.p
theorem SmD.sm2 {v : Dy} (h : SmD v) : Sm2 v := by
  obtain ⟨t, p, rfl, hp, a, b⟩ := h
  obtain ⟨c, d⟩ := redu_bd 3 p t a b
  exact ⟨SG.redu_plain _ _, Nat.le_trans (SG.redu_p _ _) hp, c, d⟩
/-- the kinds of numbers there -/
theorem nums_kind {vs : List Dy} (hv : ∀ v ∈ vs, Sm2 v) {x : SG.G} (h : x ∈ nums vs) : (∃ i : Int, -3 ≤ i ∧ i ≤ 3 ∧ x = form 0 i) ∨ (∃ a : Int, -3 ≤ a ∧ a ≤ 2 ∧ x = form 1 (2 * a + 1)) ∨
    (∃ a : Int, -6 ≤ a ∧ a ≤ 5 ∧ x = form 2 (2 * a + 1) ∧ (a % 2 = 1 → form 1 a ∈ nums vs) ∧ (a % 2 = 0 → form 1 (a + 1) ∈ nums vs)) := by
  have zero : ∃ i : Int, -3 ≤ i ∧ i ≤ 3 ∧ form 0 0 = form 0 i := ⟨0, by decide, by decide, rfl⟩
  rcases List.mem_append.mp h with m | m
  · simp only [List.mem_cons, List.not_mem_nil, or_false] at m
    rcases m with rfl | rfl | rfl | rfl | rfl | rfl | rfl
    · exact .inl ⟨-3, by decide, by decide, rfl⟩
    · exact .inl ⟨-2, by decide, by decide, rfl⟩
    · exact .inl ⟨-1, by decide, by decide, rfl⟩
    · exact .inl ⟨0, by decide, by decide, rfl⟩
    · exact .inl ⟨1, by decide, by decide, rfl⟩
    · exact .inl ⟨2, by decide, by decide, rfl⟩
    · exact .inl ⟨3, by decide, by decide, rfl⟩
  · obtain ⟨v, mv, m'⟩ := List.mem_flatMap.mp m
    obtain ⟨pl, p2, b1, b2⟩ := hv v mv
    obtain ⟨t, p⟩ := v
    have m := m'
    unfold half2 at m
    by_cases c0 : p = 0
    · rw [if_pos c0] at m
      simp only [List.mem_cons, List.not_mem_nil, or_false, or_self] at m
      rw [m]
      exact .inl zero
    · have odd : t % 2 = 1 := pl.resolve_left c0
      have et : t = 2 * (t / 2) + 1 := by omega
      rw [if_neg c0] at m
      by_cases c1 : p = 1
      · rw [if_pos c1] at m
        have b1 : -(3 * 2 ^ p) ≤ t := b1
        have b2 : t ≤ 3 * 2 ^ p := b2
        rw [c1] at b1 b2
        simp only [List.mem_cons, List.not_mem_nil, or_false] at m
        rcases m with m | m
        · rw [m]
          exact .inr (.inl ⟨t / 2, by omega, by omega, by rw [← et]⟩)
        · rw [m]
          exact .inl zero
      · rw [if_neg c1] at m
        have p2 : p ≤ 2 := p2
        have c2 : p = 2 := by omega
        have b1 : -(3 * 2 ^ p) ≤ t := b1
        have b2 : t ≤ 3 * 2 ^ p := b2
        rw [c2] at b1 b2
        have hm : form 1 (if t / 2 % 2 = 1 then t / 2 else t / 2 + 1) ∈ nums vs := List.mem_append_right _ (List.mem_flatMap.mpr ⟨⟨t, p⟩, mv, by unfold half2; rw [if_neg c0, if_neg c1]; simp⟩)
        simp only [List.mem_cons, List.not_mem_nil, or_false] at m
        rcases m with m | m
        · refine .inr (.inr ⟨t / 2, by omega, by omega, by rw [m, ← et], fun q => ?_, fun q => ?_⟩)
          · rwa [if_pos q] at hm
          · rwa [if_neg (by omega)] at hm
        · rw [m]
          by_cases q : t / 2 % 2 = 1
          · rw [if_pos q]
            exact .inr (.inl ⟨t / 2 / 2, by omega, by omega, by rw [show 2 * (t / 2 / 2) + 1 = t / 2 by omega]⟩)
          · rw [if_neg q]
            exact .inr (.inl ⟨t / 2 / 2, by omega, by omega, by rw [show 2 * (t / 2 / 2) + 1 = t / 2 + 1 by omega]⟩)
theorem nums_form {vs : List Dy} (hv : ∀ v ∈ vs, Sm2 v) {x : SG.G} (h : x ∈ nums vs) : (∃ t, x = form 64 t ∧ t % 4 = 0) ∧ SG.ht x ≤ 5 := by
  have go : ∀ (p : Nat) (t : Int), p ≤ 2 → -(3 * 2 ^ p) ≤ t → t ≤ 3 * 2 ^ p → (∃ s, form p t = form 64 s ∧ s % 4 = 0) ∧ SG.ht (form p t) ≤ 5 := fun p t hp h1 h2 => by
    refine ⟨⟨2 ^ (64 - p) * t, (SG.form_shift' (by omega) t).symm, ?_⟩, ?_⟩
    · have : (2 : Int) ^ (64 - p) = 4 * 2 ^ (62 - p) := by rw [show 64 - p = (62 - p) + 2 by omega, Int.pow_add]; omega
      rw [this, Int.mul_assoc]
      omega
    · have := SG.ht_form 3 p t h1 h2
      omega
  rcases nums_kind hv h with ⟨i, a, b, rfl⟩ | ⟨a, h1, h2, rfl⟩ | ⟨a, h1, h2, rfl, _⟩
  · exact go 0 i (by decide) (by omega) (by omega)
  · exact go 1 _ (by decide) (by omega) (by omega)
  · exact go 2 _ (by decide) (by omega) (by omega)
theorem nums_cl {vs : List Dy} (hv : ∀ v ∈ vs, Sm2 v) {x y : SG.G} {s : Bool} (h : x ∈ nums vs) (hy : y ∈ opt s x) : y ∈ nums vs := by
  rcases nums_kind hv h with ⟨i, a, b, rfl⟩ | ⟨a, h1, h2, rfl⟩ | ⟨a, h1, h2, rfl, k1, k2⟩
  · rcases Int.lt_trichotomy i 0 with c | c | c
    · rw [SG.form0_neg c] at hy
      cases s
      · rw [List.mem_singleton.mp (show y ∈ [form 0 (i + 1)] from hy)]
        exact int_mem vs (by omega) (by omega)
      · exact absurd (show y ∈ [] from hy) (by simp)
    · subst c
      cases s
      · exact absurd (show y ∈ [] from hy) (by simp)
      · exact absurd (show y ∈ [] from hy) (by simp)
    · rw [SG.form0_pos c] at hy
      cases s
      · exact absurd (show y ∈ [] from hy) (by simp)
      · rw [List.mem_singleton.mp (show y ∈ [form 0 (i - 1)] from hy)]
        exact int_mem vs (by omega) (by omega)
  · rw [SG.form_odd] at hy
    cases s
    · rw [List.mem_singleton.mp (show y ∈ [form 0 (a + 1)] from hy)]
      exact int_mem vs (by omega) (by omega)
    · rw [List.mem_singleton.mp (show y ∈ [form 0 a] from hy)]
      exact int_mem vs (by omega) (by omega)
  · rw [SG.form_odd] at hy
    have e1 : a % 2 = 0 → form 1 a ∈ nums vs := fun q => by
      have := SG.form_even 0 (a / 2)
      rw [show 2 * (a / 2) = a by omega] at this
      rw [this]
      exact int_mem vs (by omega) (by omega)
    have e2 : a % 2 = 1 → form 1 (a + 1) ∈ nums vs := fun q => by
      have := SG.form_even 0 ((a + 1) / 2)
      rw [show 2 * ((a + 1) / 2) = a + 1 by omega] at this
      rw [this]
      exact int_mem vs (by omega) (by omega)
    cases s
    · rw [List.mem_singleton.mp (show y ∈ [form 1 (a + 1)] from hy)]
      by_cases q : a % 2 = 0
      · exact k2 q
      · exact e2 (by omega)
    · rw [List.mem_singleton.mp (show y ∈ [form 1 a] from hy)]
      by_cases q : a % 2 = 0
      · exact e1 q
      · exact k1 (by omega)
theorem form_few (t : Int) (s : Bool) : (opt s (form 64 t)).length ≤ 1 := by
  obtain ⟨a, b⟩ := SG.form_lr 64 t
  cases s
  · show (form 64 t).right.length ≤ 1
    rw [b, List.length_map]
    cases SG.ropt 64 t <;> simp
  · show (form 64 t).left.length ≤ 1
    rw [a, List.length_map]
    cases SG.lopt 64 t <;> simp
/-- games grown -/
inductive PoolG (ns : List SG.G) : List SG.G → Prop where
  | nil : PoolG ns []
  | snoc {gs : List SG.G} {g : SG.G} (h : PoolG ns gs) (o : ∀ s, (∀ x ∈ opt s g, x ∈ ns ∨ x ∈ gs) ∧ (opt s g).length ≤ 4) : PoolG ns (gs ++ [g])
def lev : Nat → List SG.G → List (Nat × SG.G)
  | _, [] => []
  | k, g :: gs => (k, g) :: lev (k + 1) gs
theorem lev_app (g : SG.G) : ∀ (k : Nat) (gs : List SG.G), lev k (gs ++ [g]) = lev k gs ++ [(k + gs.length, g)]
  | k, [] => rfl
  | k, x :: gs => by
    show (k, x) :: lev (k + 1) (gs ++ [g]) = _
    rw [lev_app g (k + 1) gs, List.length_cons, show k + 1 + gs.length = k + (gs.length + 1) by omega]
    rfl
theorem lev_fst : ∀ (k : Nat) (gs : List SG.G), (lev k gs).map (·.1) = (List.range gs.length).map (k + ·)
  | k, [] => rfl
  | k, x :: gs => by
    show k :: (lev (k + 1) gs).map (·.1) = _
    rw [lev_fst (k + 1) gs, List.length_cons, List.range_succ_eq_map, List.map_cons, List.map_map]
    congr 1
    refine List.map_congr_left fun i _ => ?_
    show k + 1 + i = k + (i + 1)
    omega
theorem lev_mem {g : SG.G} : ∀ {k j : Nat} {gs : List SG.G}, (j, g) ∈ lev k gs → k ≤ j ∧ j < k + gs.length ∧ g ∈ gs
  | k, j, x :: gs, h => by
    rcases List.mem_cons.mp (show (j, g) ∈ (k, x) :: lev (k + 1) gs from h) with q | q
    · injection q with a b
      subst a b
      exact ⟨Nat.le_refl _, by rw [List.length_cons]; omega, List.mem_cons_self ..⟩
    · obtain ⟨a, b, c⟩ := lev_mem q
      exact ⟨by omega, by rw [List.length_cons]; omega, List.mem_cons_of_mem _ c⟩
theorem lev_one {g g' : SG.G} : ∀ {k j : Nat} {gs : List SG.G}, (j, g) ∈ lev k gs → (j, g') ∈ lev k gs → g = g'
  | k, j, x :: gs, h, h' => by
    rcases List.mem_cons.mp (show (j, g) ∈ (k, x) :: lev (k + 1) gs from h) with q | q
    · rcases List.mem_cons.mp (show (j, g') ∈ (k, x) :: lev (k + 1) gs from h') with q' | q'
      · injection q with a b
        injection q' with a' b'
        rw [b, b']
      · have := (lev_mem q').1
        injection q with a b
        omega
    · rcases List.mem_cons.mp (show (j, g') ∈ (k, x) :: lev (k + 1) gs from h') with q' | q'
      · have := (lev_mem q).1
        injection q' with a b
        omega
      · exact lev_one q q'
theorem lev_ex {g : SG.G} : ∀ {k : Nat} {gs : List SG.G}, g ∈ gs → ∃ j, (j, g) ∈ lev k gs
  | k, x :: gs, h => by
    rcases List.mem_cons.mp h with rfl | h
    · exact ⟨k, List.mem_cons_self ..⟩
    · obtain ⟨j, q⟩ := lev_ex (k := k + 1) h
      exact ⟨j, List.mem_cons_of_mem _ q⟩
def fam (ns gs : List SG.G) : List (Nat × SG.G) := ns.map (fun g => (0, g)) ++ lev 1 gs
theorem fam_zero {ns gs : List SG.G} {x : SG.G} (h : x ∈ ns) : (0, x) ∈ fam ns gs := List.mem_append_left _ (List.mem_map.mpr ⟨x, h, rfl⟩)
theorem fam_mem {ns gs : List SG.G} {k : Nat} {x : SG.G} (h : (k, x) ∈ fam ns gs) : (k = 0 ∧ x ∈ ns) ∨ (k, x) ∈ lev 1 gs := by
  rcases List.mem_append.mp h with m | m
  · obtain ⟨y, hy, e⟩ := List.mem_map.mp m
    injection e with a b
    exact .inl ⟨a.symm, by rw [← b]; exact hy⟩
  · exact .inr m
theorem pool_lev {ns : List SG.G} {gs : List SG.G} (h : PoolG ns gs) : ∀ k g, (k, g) ∈ lev 1 gs → (∀ s, (∀ x ∈ opt s g, x ∈ ns ∨ ∃ j, (j, x) ∈ lev 1 gs ∧ j < k) ∧ (opt s g).length ≤ 4) := by
  induction h with
  | nil => exact fun _ _ z => by cases z
  | @snoc gs g0 h o ih =>
    intro k g m s
    rw [lev_app] at m ⊢
    rcases List.mem_append.mp m with m | m
    · obtain ⟨a, b⟩ := ih k g m s
      refine ⟨fun x hx => (a x hx).imp id fun ⟨j, q, l⟩ => ⟨j, List.mem_append_left _ q, l⟩, b⟩
    · injection List.mem_singleton.mp m with e1 e2
      subst e1 e2
      obtain ⟨a, b⟩ := o s
      refine ⟨fun x hx => (a x hx).imp id fun q => ?_, b⟩
      obtain ⟨j, qj⟩ := lev_ex (k := 1) q
      exact ⟨j, List.mem_append_left _ qj, (lev_mem qj).2.1⟩
theorem pool_ht {ns : List SG.G} (hn : ∀ x ∈ ns, SG.ht x ≤ 5) {gs : List SG.G} (h : PoolG ns gs) : ∀ x ∈ gs, SG.ht x ≤ 5 + gs.length := by
  induction h with
  | nil => exact fun _ z => by cases z
  | @snoc gs g0 h o ih =>
    intro x hx
    rw [List.length_append, List.length_singleton]
    rcases List.mem_append.mp hx with m | m
    · have := ih x m; omega
    · rw [List.mem_singleton.mp m]
      refine SG.ht_le (fun y hy => ?_) fun y hy => ?_
      · rcases (o true).1 y hy with q | q
        · have := hn y q; omega
        · have := ih y q; omega
      · rcases (o false).1 y hy with q | q
        · have := hn y q; omega
        · have := ih y q; omega
theorem fam_ok {vs : List Dy} (hv : ∀ v ∈ vs, Sm2 v) {gs : List SG.G} (h : PoolG (nums vs) gs) {m : Nat} (hm : gs.length ≤ m) : Fam (fam (nums vs) gs) m := by
  refine ⟨fun k u q => ?_, fun u q => ?_, fun k u u' hk q q' => ?_, fun k u q s x hx => ?_, fun k u q s => ?_⟩
  · rcases fam_mem q with ⟨rfl, _⟩ | q
    · exact Nat.zero_le _
    · have := (lev_mem q).2.1; omega
  · rcases fam_mem q with ⟨_, q⟩ | q
    · exact (nums_form hv q).1
    · have := (lev_mem q).1; omega
  · rcases fam_mem q with ⟨rfl, _⟩ | q
    · omega
    · rcases fam_mem q' with ⟨rfl, _⟩ | q'
      · omega
      · exact lev_one q q'
  · rcases fam_mem q with ⟨rfl, q1⟩ | q
    · exact ⟨0, fam_zero (nums_cl hv q1 hx), .inl rfl⟩
    · rcases ((pool_lev h k u q s).1 x hx) with y | ⟨j, y, l⟩
      · exact ⟨0, fam_zero y, .inl rfl⟩
      · exact ⟨j, List.mem_append_right _ y, .inr l⟩
  · rcases fam_mem q with ⟨rfl, q1⟩ | q
    · obtain ⟨⟨t, e, _⟩, _⟩ := nums_form hv q1
      rw [e]
      exact Nat.le_trans (form_few t s) (by decide)
    · exact (pool_lev h k u q s).2
def costL (a b : List Nat) : Nat := (a.flatMap fun i => b.map fun j => Tb (i + j)).sum
theorem cost_eq (us vs : List (Nat × SG.G)) : ((pu us vs).map cost).sum = costL (us.map (·.1)) (vs.map (·.1)) := by
  unfold pu costL
  rw [List.map_flatMap, List.flatMap_map]
  congr 2
  funext a
  rw [List.map_map, List.map_map]
  rfl
theorem fam_fst (ns gs : List SG.G) : (fam ns gs).map (·.1) = List.replicate ns.length 0 ++ (List.range gs.length).map (1 + ·) := by
  unfold fam
  rw [List.map_append, List.map_map, lev_fst]
  congr 1
  exact List.eq_replicate_iff.mpr ⟨by rw [List.length_map], fun b hb => by obtain ⟨_, _, e⟩ := List.mem_map.mp hb; exact e.symm⟩
theorem pu_len (us vs : List (Nat × SG.G)) : (pu us vs).length = us.length * vs.length := by
  unfold pu
  induction us with
  | nil => rw [List.length_nil, Nat.zero_mul]; rfl
  | cons u us ih => rw [List.flatMap_cons, List.length_append, ih, List.length_map, List.length_cons, Nat.add_mul, Nat.one_mul, Nat.add_comm]
theorem fam_len (ns gs : List SG.G) : (fam ns gs).length = ns.length + gs.length := by
  have := congrArg List.length (fam_fst ns gs)
  rwa [List.length_map, List.length_append, List.length_replicate, List.length_map, List.length_range] at this
theorem cost_small : ∀ c : Fin 5, ∀ d : Fin 3, costL (List.replicate 11 0 ++ (List.range c.1).map (1 + ·)) (List.replicate 13 0 ++ (List.range d.1).map (1 + ·)) ≤ 18000 := by decide +kernel
theorem un_ok {v1 v2 z : Dy} (h1 : Sm2 v1) (h2 : Sm2 v2) (hz : Sm2 z) {g1 g2 : List SG.G} (p1 : PoolG (nums [v1, v2]) g1) (p2 : PoolG (nums [v1, v2, z]) g2) (l1 : g1.length ≤ 4) (l2 : g2.length ≤ 2) : UnOk ⟨fam (nums [v1, v2]) g1, fam (nums [v1, v2, z]) g2⟩ := by
  have a1 : ∀ v ∈ [v1, v2], Sm2 v := fun v hv => by
    simp only [List.mem_cons, List.not_mem_nil, or_false] at hv
    rcases hv with rfl | rfl
    · exact h1
    · exact h2
  have a2 : ∀ v ∈ [v1, v2, z], Sm2 v := fun v hv => by
    simp only [List.mem_cons, List.not_mem_nil, or_false] at hv
    rcases hv with rfl | rfl | rfl
    · exact h1
    · exact h2
    · exact hz
  have n1 := nums_len [v1, v2]
  have n2 := nums_len [v1, v2, z]
  refine ⟨fam_ok a1 p1 l1, fam_ok a2 p2 l2, ?_, ?_, fun a ha => ?_, fun a ha => ?_⟩
  · show (pu _ _).length ≤ 225
    rw [pu_len, fam_len, fam_len, n1, n2]
    exact show (7 + 2 * 2 + g1.length) * (7 + 2 * 3 + g2.length) ≤ 15 * 15 from Nat.mul_le_mul (by omega) (by omega)
  · show ((pu _ _).map cost).sum ≤ 18000
    rw [cost_eq, fam_fst, fam_fst, n1, n2]
    exact cost_small ⟨g1.length, by omega⟩ ⟨g2.length, by omega⟩
  · obtain ⟨k, x⟩ := a
    rcases fam_mem ha with ⟨_, q⟩ | q
    · exact Nat.le_trans (nums_form a1 q).2 (by decide)
    · have := pool_ht (fun x hx => (nums_form a1 hx).2) p1 x (lev_mem q).2.2
      show SG.ht x ≤ 9
      omega
  · obtain ⟨k, x⟩ := a
    rcases fam_mem ha with ⟨_, q⟩ | q
    · exact Nat.le_trans (nums_form a2 q).2 (by decide)
    · have := pool_ht (fun x hx => (nums_form a2 hx).2) p2 x (lev_mem q).2.2
      show SG.ht x ≤ 7
      omega
end K45
end
section
set_option Elab.async false
set_option linter.all false
set_option maxRecDepth 100000
set_option maxHeartbeats 4000000
namespace SG
theorem al_of_sum {x y : G} (h : IsSum x y zero) : Al x y := al_trans (isSum_al h) (al_symm (isSum_al (isSum_zero y)))
theorem stop_sum {x y : G} (h : IsSum x y zero) (hy : ht y ≤ 60) (b : Bool) : stop 64 b x = stop 64 b y := by
  have := isSum_ht_eq h
  have z : ht zero = 0 := Nat.le_zero.mp (ht_le (fun x hx => by cases hx) fun x hx => by cases hx)
  exact stop_al (by omega) (by omega) (al_of_sum h) b
/-- a stop's power is small -/
theorem pow_small {v : Dy} {k : Nat} (hp : Plain v) (h : v.p ≤ 64) (hk : k ≤ 64) (d : (2 ^ (64 - k) : Int) ∣ sc v) : v.p ≤ k := by
  by_cases c : v.p ≤ k
  · exact c
  · exfalso
    have odd : v.t % 2 = 1 := hp.resolve_left (by omega)
    obtain ⟨m, hm⟩ := d
    unfold sc at hm
    rw [show 64 - k = (64 - v.p) + ((v.p - k - 1) + 1) by omega, Int.pow_add, Int.mul_assoc] at hm
    have := Int.eq_of_mul_eq_mul_left (by have := pow_pos2 (64 - v.p); omega) hm
    rw [Int.pow_succ, Int.mul_comm (2 ^ (v.p - k - 1)) 2, Int.mul_assoc] at this
    omega
theorem t_of_sc {v : Dy} {M : Int} (h : v.p ≤ 64) (h1 : -(M * 2 ^ 64) ≤ sc v) (h2 : sc v ≤ M * 2 ^ 64) : -(M * 2 ^ v.p) ≤ v.t ∧ v.t ≤ M * 2 ^ v.p := by
  have e : (2 : Int) ^ 64 = 2 ^ (64 - v.p) * 2 ^ v.p := by rw [← Int.pow_add, show 64 - v.p + v.p = 64 by omega]
  have pos := pow_pos2 (64 - v.p)
  unfold sc at h1 h2
  rw [e] at h1 h2
  rw [show M * (2 ^ (64 - v.p) * 2 ^ v.p) = 2 ^ (64 - v.p) * (M * 2 ^ v.p) by rw [← Int.mul_assoc, Int.mul_comm M, Int.mul_assoc]] at h1 h2
  refine ⟨?_, Int.le_of_mul_le_mul_left h2 pos⟩
  rw [← Int.mul_neg] at h1
  exact Int.le_of_mul_le_mul_left h1 pos
/-- small or not -/
theorem small_iff {g : G} {h : Nat} (hg : ht g = h) (hh : h ≤ 60) {e e' : Int} (he : e = 2 ^ (64 - (h + 1))) (he' : e' = -e) : (stop 64 true g = 0 ∧ stop 64 false g = 0) ↔ (Le g (form 64 e) ∧ ¬ Le (form 64 e) g ∧ Le (form 64 e') g ∧ ¬ Le g (form 64 e')) := by
  have ge := stop_ge (p := 64) (g := g) (by omega)
  have th := thm 64 g
  have pos : 0 < e := by rw [he]; exact pow_pos2 _
  subst he'
  constructor
  · rintro ⟨a, b⟩
    exact ⟨th.i2 _ (by omega), th.i3 _ (by omega), th.i4 _ (by omega), th.i1 _ (by omega)⟩
  · rintro ⟨a, _, c, _⟩
    have l1 : ¬ e < stop 64 true g := fun z => th.i1 _ z a
    have l2 : ¬ stop 64 false g < -e := fun z => th.i3 _ z c
    obtain ⟨m, hm⟩ := stop_dvd (p := 64) (k := 64 - h) (g := g) true (by omega)
    obtain ⟨n, hn⟩ := stop_dvd (p := 64) (k := 64 - h) (g := g) false (by omega)
    have e2 : (2 : Int) ^ (64 - h) = 2 * e := by rw [he, show 64 - h = 64 - (h + 1) + 1 by omega, Int.pow_succ, Int.mul_comm]
    rw [e2, Int.mul_assoc] at hm hn
    have m0 : m ≤ 0 := by
      by_cases q : m ≤ 0
      · exact q
      · exfalso
        have : e * 1 ≤ e * m := Int.mul_le_mul_of_nonneg_left (by omega) (by omega)
        omega
    have n0 : 0 ≤ n := by
      by_cases q : 0 ≤ n
      · exact q
      · exfalso
        have : e * n ≤ e * (-1) := Int.mul_le_mul_of_nonneg_left (by omega) (by omega)
        omega
    have a1 : e * m ≤ e * 0 := Int.mul_le_mul_of_nonneg_left m0 (by omega)
    have a2 : e * 0 ≤ e * n := Int.mul_le_mul_of_nonneg_left n0 (by omega)
    rw [Int.mul_zero] at a1 a2
    omega
/-- a number that is added moves both stops -/
theorem stop_move {g n s : G} {t : Int} (e : Al s (add g n)) (hg : ht g + 3 ≤ 64) (hn : ht n + 3 ≤ 64) (hs : ht s + 3 ≤ 64) (k : Al n (form 64 t)) : stop 64 true s = stop 64 true g + t ∧ stop 64 false s = stop 64 false g + t := by
  have a1 := stop_num true k
  have a2 := stop_num false k
  have e' : Al s (add n g) := al_trans e (add_comm g n)
  have b1 := sum_left e hg hn hs
  have b2 := sum_cross_left e hg hn hs
  have b3 := sum_right e hg hn hs
  have b4 := sum_cross_right e' hn hg hs
  omega
end SG
namespace K45
open PySem PySem.Spec PyProof.Rows L2
open SG (gv lf rt optI Nd Dy sc form Le WfY redu Plain Gs Un UnOk Wf Ext Ex0 OKp OKr IsP IsSum Pu opt stop)
section
variable {X : Cx} {k j : Nat} {C : Addr} {x : Str} {sp : Sp} {dvs : List V} {p pos : Pos}
theorem pe_c0 (c : C8.Cal X.prog X.w X.K X.mg X.base k x sp dvs) (hr : Room j X.A) (hk : k ≤ j) (hg : Gl X x) (hdb : (x == ("__debug__" : Str)) = false := by decide) : PE X (.Call (.Name x p) [] [] pos) (tCall sp dvs C8.E0 tNil) := by
  obtain ⟨f, fd, ps, ds, F, hm, kp, b, d⟩ := c.ex
  exact pe_call0 F (hr.mono hk) hg hm kp b d C8.pass0 hdb
theorem pe_mk0 (c : C8.Mak X.prog X.w X.K X.mg X.base k x C sp dvs) (hr : Room j X.A) (hk : k + 1 ≤ j) (hg : Gl X x) (hdb : (x == ("__debug__" : Str)) = false := by decide) : PE X (.Call (.Name x p) [] [] pos) (tMake C sp dvs C8.E0 tNil) := by
  obtain ⟨f, fd, ps, ds, M, F, hm, b, d⟩ := c.ex
  exact pe_make0 M F (hr.mono hk) hg hm b d C8.pass0 hdb
end
theorem addD_ok (v u : Dy) (hv : v.p ≤ 64) (hu : u.p ≤ 64) : Plain (addD v u) ∧ (addD v u).p ≤ max v.p u.p ∧ sc (addD v u) = sc v + sc u := ⟨SG.redu_plain _ _, SG.redu_p _ _, addD_sc hv hu⟩
/-- a seed's form stands among the numbers -/
theorem seed_mem {vs : List Dy} {v : Dy} (h : Sm2 v) (hv : v ∈ vs) : form 64 (sc v) ∈ nums vs := by
  obtain ⟨pl, p2, b1, b2⟩ := h
  rw [SG.form_sc (by omega)]
  obtain ⟨t, p⟩ := v
  have p2 : p ≤ 2 := p2
  have b1 : -(3 * 2 ^ p) ≤ t := b1
  have b2 : t ≤ 3 * 2 ^ p := b2
  show form p t ∈ nums vs
  by_cases c0 : p = 0
  · subst c0
    exact int_mem vs (by omega) (by omega)
  · refine List.mem_append_right _ (List.mem_flatMap.mpr ⟨⟨t, p⟩, hv, ?_⟩)
    unfold half2
    rw [if_neg c0]
    by_cases c1 : p = 1
    · subst c1
      rw [if_pos rfl]
      exact List.mem_cons_self ..
    · have c2 : p = 2 := by omega
      subst c2
      rw [if_neg c1]
      exact List.mem_cons_self ..
theorem grown_pool {S : Ls} (w : WfY S.ns) {ns : List SG.G} {is more : List Nat} (h : Grown S is more) (hs : ∀ x ∈ is, S.g x ∈ ns) : PoolG ns (more.map S.g) := by
  induction h with
  | nil => exact .nil
  | @snoc more g h lt o ih =>
    rw [List.map_append]
    refine .snoc ih fun s => ⟨fun x hx => ?_, ?_⟩
    · have hx : x ∈ opt s (S.g g) := hx
      rw [SG.is_left w lt s] at hx
      obtain ⟨y, hy, rfl⟩ := List.mem_map.mp hx
      rcases List.mem_append.mp ((o s).1 y hy) with m | m
      · exact .inl (hs y m)
      · exact .inr (List.mem_map.mpr ⟨y, m, rfl⟩)
    · show (opt s (S.g g)).length ≤ 4
      rw [SG.is_left w lt s, List.length_map]
      exact (o s).2
theorem grown_ext_g {S S' : Ls} {more : List Nat} (x : LExt S S') (h : ∀ y ∈ more, y < S.N) : more.map S'.g = more.map S.g := List.map_congr_left fun y hy => x.g (h y hy)
theorem nat_small {v : Dy} (h : v.p ≤ 40) (h1 : -(40 * 2 ^ 64) ≤ sc v) (h2 : sc v ≤ 40 * 2 ^ 64) : v.t.natAbs < 2 ^ 64 := by
  have := SG.t_of_sc (M := 40) (by omega) h1 h2
  have e : (2 : Nat) ^ v.p ≤ 2 ^ 40 := Nat.pow_le_pow_right (by decide) h
  have e2 : ((2 ^ v.p : Nat) : Int) = (2 ^ v.p : Int) := by simp
  omega
theorem stop_nat {v : Dy} {g : SG.G} {b : Bool} (h : v.p ≤ 40) (hg : SG.ht g ≤ 16) (e : sc v = stop 64 b g) : v.t.natAbs < 2 ^ 64 ∧ -(16 * 2 ^ 64) ≤ sc v ∧ sc v ≤ 16 * 2 ^ 64 := by
  have q := SG.stop_bound (p := 64) (h := 16) _ g b (Nat.le_refl _) hg
  rw [← e] at q
  exact ⟨nat_small h (by omega) (by omega), by omega, by omega⟩
/-! ### store and yard -/
structure Two (P : Program) (w : World) (K : PySem.W.Frag) (L : La) (A : Ad) (U : Un) (S : Ls) (G : Gs) (H : Hp) : Prop where
  la : LAt P w L S H
  ya : At P w K A U G H
  d1 : ∀ x ∈ L.mut, x ∉ A.mut
  d2 : L.st ∉ A.mut
def GKeep (L : La) (A : Ad) (H H' : Hp) : Prop := ∀ b x, H b = some x → b ∉ L.mut → b ∉ A.mut → H' b = some x
theorem GKeep.refl (L : La) (A : Ad) (H : Hp) : GKeep L A H H := fun _ _ e _ _ => e
theorem GKeep.trans {L : La} {A : Ad} {H H' H'' : Hp} (a : GKeep L A H H') (b : GKeep L A H' H'') : GKeep L A H H'' := fun c x e n m => b c x (a c x e n m) n m
theorem LKeep.g {L : La} {H H' : Hp} (k : LKeep L H H') (A : Ad) : GKeep L A H H' := fun c x e n _ => k c x e n
theorem Keep.g {A : Ad} {H H' : Hp} (k : Keep A H H') (L : La) : GKeep L A H H' := fun c x e _ n => k c x e n
theorem Same.g {H H' : Hp} (k : Same H H') (L : La) (A : Ad) : GKeep L A H H' := fun c x e _ _ => k c x e
section
variable {P : Program} {w : World} {K : PySem.W.Frag} {L : La} {A : Ad} {U : Un} {S S' : Ls} {G G' : Gs} {H H' : Hp}
theorem At.keepL (h : At P w K A U G H) (l : LAt P w L S H) (d1 : ∀ x ∈ L.mut, x ∉ A.mut) (k : LKeep L H H') : At P w K A U G H' := by
  have m : ∀ b, b ∈ A.mut → ∀ o, H b = some o → H' b = some o := fun b hb o e => k _ _ e fun q => d1 b q hb
  have ins : ∀ c C dx fs, H c = some (.ins C dx fs) → H' c = some (.ins C dx fs) := fun c C dx fs e => k _ _ e (l.nmut e (fun _ z => by cases z) (fun _ z => by cases z) (fun _ z => by cases z))
  have dy : ∀ {d : Addr} {v : Dy}, DyAt K H d v → DyAt K H' d v := fun {d v} hd => by
    obtain ⟨dx, e, r⟩ := hd
    exact ⟨dx, ins _ _ _ _ e, r⟩
  exact ⟨h.lay.of ins, h.yb.of (fun _ e => m _ (by simp [Ad.mut]) _ e) (fun _ e => m _ (by simp [Ad.mut]) _ e) (fun _ e => m _ (by simp [Ad.mut]) _ e) (fun _ e => m _ (by simp [Ad.mut]) _ e) (fun c xs e => l.tupK k c xs e),
      ⟨m _ (by simp [Ad.mut]) _ h.bk.al, m _ (by simp [Ad.mut]) _ h.bk.si, m _ (by simp [Ad.mut]) _ h.bk.pl, m _ (by simp [Ad.mut]) _ h.bk.nu, m _ (by simp [Ad.mut]) _ h.bk.md, m _ (by simp [Ad.mut]) _ h.bk.st, fun f z q => dy (h.bk.dn f z q), fun q z e => dy (h.bk.ds q z e)⟩, h.di, h.wf⟩
theorem Two.lk (h : Two P w K L A U S G H) (l : LAt P w L S' H') (k : LKeep L H H') : Two P w K L A U S' G H' := ⟨l, h.ya.keepL h.la h.d1 k, h.d1, h.d2⟩
theorem Two.yk (h : Two P w K L A U S G H) (y : At P w K A U G' H') (k : Keep A H H') : Two P w K L A U S G' H' := ⟨h.la.keepA h.ya h.d1 h.d2 k, y, h.d1, h.d2⟩
theorem Two.same (h : Two P w K L A U S G H) (s : Same H H') : Two P w K L A U S G H' := ⟨h.la.same s, h.ya.same s, h.d1, h.d2⟩
theorem Two.ntup (h : Two P w K L A U S G H) {c : Addr} {xs : List V} (e : H c = some (.tup xs)) : c ∉ L.mut ∧ c ∉ A.mut := ⟨h.la.nmut e (fun _ z => by cases z) (fun _ z => by cases z) (fun _ z => by cases z), h.ya.nmut e (fun _ z => by cases z) (fun _ z => by cases z) (fun _ z => by cases z) (fun _ z => by cases z)⟩
theorem Two.fresh (h : Two P w K L A U S G H) {c : Addr} (hc : H c = none) : c ∉ L.mut ∧ c ∉ A.mut := ⟨h.la.fresh hc, h.ya.fresh hc⟩
end
/-- what the law holds once the stops are told -/
structure Dt where
  (gl dg nl sl : Addr)
  (s a b : Nat → Addr)
  (i f : Nat → Nat)
  (v u : Nat → Dy)
  (ds : List Int)
def Dt.z (d : Dt) : Dy := redu (pairT (d.ds.drop 7) 2 2) (pairP (d.ds.drop 7) 2)
def Dt.ads (d : Dt) : List Addr := [d.gl, d.dg, d.nl, d.sl, d.s 0, d.s 1, d.a 0, d.a 1, d.b 0, d.b 1]
structure LS (L : La) (A : Ad) (d : Dt) (H : Hp) : Prop where
  gl : H d.gl = some (.lst [nV (d.i 0), nV (d.i 1)])
  dg : H d.dg = some (.lst (d.ds.map V.int))
  nl : H d.nl = some (.lst [nV (d.f 0), nV (d.f 1)])
  sl : H d.sl = some (.lst [.ref (d.s 0), .ref (d.s 1)])
  s0 : H (d.s 0) = some (.lst [.ref (d.a 0), .ref (d.b 0)])
  s1 : H (d.s 1) = some (.lst [.ref (d.a 1), .ref (d.b 1)])
  a0 : H (d.a 0) = some (.tup (pairV (d.v 0)))
  a1 : H (d.a 1) = some (.tup (pairV (d.v 1)))
  b0 : H (d.b 0) = some (.tup (pairV (d.u 0)))
  b1 : H (d.b 1) = some (.tup (pairV (d.u 1)))
  n : ∀ c ∈ d.ads, c ∉ L.mut ∧ c ∉ A.mut
theorem LS.keep {L : La} {A : Ad} {d : Dt} {H H' : Hp} (h : LS L A d H) (k : GKeep L A H H') : LS L A d H' := by
  have g : ∀ c x, c ∈ d.ads → H c = some x → H' c = some x := fun c x m e => k c x e (h.n c m).1 (h.n c m).2
  exact ⟨g _ _ (by simp [Dt.ads]) h.gl, g _ _ (by simp [Dt.ads]) h.dg, g _ _ (by simp [Dt.ads]) h.nl, g _ _ (by simp [Dt.ads]) h.sl, g _ _ (by simp [Dt.ads]) h.s0, g _ _ (by simp [Dt.ads]) h.s1, g _ _ (by simp [Dt.ads]) h.a0, g _ _ (by simp [Dt.ads]) h.a1, g _ _ (by simp [Dt.ads]) h.b0, g _ _ (by simp [Dt.ads]) h.b1, h.n⟩
theorem two_cases {k : Nat} (h : k < 2) : k = 0 ∨ k = 1 := by omega
theorem LS.sk {L : La} {A : Ad} {d : Dt} {H : Hp} (h : LS L A d H) {k : Nat} (hk : k < 2) : H (d.s k) = some (.lst [.ref (d.a k), .ref (d.b k)]) ∧ H (d.a k) = some (.tup (pairV (d.v k))) ∧ H (d.b k) = some (.tup (pairV (d.u k))) ∧ d.s k ∈ d.ads := by
  rcases two_cases hk with rfl | rfl
  · exact ⟨h.s0, h.a0, h.b0, by simp [Dt.ads]⟩
  · exact ⟨h.s1, h.a1, h.b1, by simp [Dt.ads]⟩
/-- .. and what is true of it -/
structure LF (U : Un) (S : Ls) (G : Gs) (d : Dt) : Prop where
  ok : UnOk U
  inn : Ints S 34
  hi : ∀ k, k < 2 → d.i k < S.N ∧ SG.ht (S.g (d.i k)) ≤ 9
  h1 : SG.ht (S.g (d.i 1)) ≤ 7
  hf : ∀ k, k < 2 → d.f k < G.N ∧ IsSum (G.g (d.f k)) (S.g (d.i k)) zr
  pr : ∃ p ∈ U.all, p.1.2 = S.g (d.i 0) ∧ p.2.2 = S.g (d.i 1)
  cv : ∀ k, k < 2 → Cov U (S.g (d.i k))
  dv : ∀ k, k < 2 → Plain (d.v k) ∧ (d.v k).p ≤ 9 ∧ sc (d.v k) = stop 64 true (S.g (d.i k))
  du : ∀ k, k < 2 → Plain (d.u k) ∧ (d.u k).p ≤ 9 ∧ sc (d.u k) = stop 64 false (S.g (d.i k))
  op : ∀ p ∈ U.all, OKp G p
  or : ∀ p ∈ U.all, OKr G p
  dg : Dig d.ds 14
  zz : d.z.p ≤ 2 ∧ SG.ht (form 64 (sc d.z)) ≤ 5 ∧ (∃ p ∈ U.all, p.1.2 = zr ∧ p.2.2 = form 64 (sc d.z)) ∧ ∃ p ∈ U.all, p.1.2 = S.g (d.i 0) ∧ p.2.2 = form 64 (sc d.z)
theorem LF.lk {U : Un} {S S' : Ls} {G : Gs} {d : Dt} (h : LF U S G d) (x : LExt S S') : LF U S' G d := by
  have g : ∀ k, k < 2 → S'.g (d.i k) = S.g (d.i k) := fun k hk => x.g (h.hi k hk).1
  refine ⟨h.ok, h.inn.ext x, fun k hk => ⟨x.lt (h.hi k hk).1, by rw [g k hk]; exact (h.hi k hk).2⟩, by rw [g 1 (by decide)]; exact h.h1, fun k hk => by rw [g k hk]; exact h.hf k hk, by rw [g 0 (by decide), g 1 (by decide)]; exact h.pr, fun k hk => by rw [g k hk]; exact h.cv k hk, fun k hk => by rw [g k hk]; exact h.dv k hk, fun k hk => by rw [g k hk]; exact h.du k hk, h.op, h.or, h.dg, by rw [g 0 (by decide)]; exact h.zz⟩
theorem LF.yk {U : Un} {S : Ls} {G G' : Gs} {d : Dt} (h : LF U S G d) (x : Ext G G') : LF U S G' d :=
  ⟨h.ok, h.inn, h.hi, h.h1, fun k hk => ⟨x.ex0.lt (h.hf k hk).1, by rw [x.ex0.g (h.hf k hk).1]; exact (h.hf k hk).2⟩, h.pr, h.cv, h.dv, h.du, fun p hp => x.op p (h.op p hp), fun p hp => x.or p (h.or p hp), h.dg, h.zz⟩
abbrev lawN : List Str := ["_law_script", "_law_store_here", "_law_seeds_here", "_law_games", "_law_digits_here", "_law_yard", "_law_sums", "_law_values", "_law_out_here", "_law_numbers", "_law_stops", "_law_near", "_law_k", "_law_high", "_law_low", "_law_half", "_law_pairs", "_law_pair_here", "_law_power", "_law_above", "_law_below", "_law_due", "_law_both", "_law_cross", "_law_moved", "_law_game", "_law_number_here"]
theorem sc_lw : FnScope lawN ["_law_script"] (defScope s_law) := ⟨rfl, rfl, rfl, by decide +kernel, rfl, by decide +kernel, by decide +kernel⟩
/-- the law's own frame -/
abbrev XL (P : Program) (w : World) (K : PySem.W.Frag) (mg : Str → Option Value) (base : Heap) (cdv : Value) (A0 : Around) (outer : List Env) (s : Shared) (H0 : Hp) (E : XK) : Cx := (cxOf C8.CX0 P w K mg base lawN "law" (defScope s_law) (He.ga K "law") cdv A0 outer s H0 E).nox
end K45
end
section
set_option Elab.async false
set_option linter.all false
set_option maxRecDepth 100000
set_option maxHeartbeats 8000000
namespace K45
open PySem PySem.Spec PyProof.Rows L2
open SG (gv lf rt optI Nd Dy sc form Le WfY redu Plain Gs Un UnOk Wf Ext Ex0 OKp OKr IsP IsSum Pu opt stop)
/-! ### the law's last part: the sum, the number that is added -/
abbrev lawD (Q : VK) : Ends := { nx := fun _ H' => Q .non H', rt := Q }
def Mid2 (P : Program) (w : World) (K : PySem.W.Frag) : L2.St → Hp → Prop := fun σ H => ∃ (L : La) (A : Ad) (U : Un) (S : Ls) (G : Gs) (d : Dt) (o : Addr) (y0 y2 y11 y12 y13 y14 y15 y16 y17 y18 y19 y20 y21 : Option V),
  σ = [y0, some (.ref L.st), y2, some (.ref d.gl), some (.ref d.dg), some (.ref A.yd), some (.ref A.sm), some (.ref A.vl), some (.ref o), some (.ref d.nl), some (.ref d.sl), y11, y12, y13, y14, y15, y16, y17, y18, y19, y20, y21, none, none, none, none, none] ∧
  Two P w K L A U S G H ∧ LS L A d H ∧ LF U S G d
section
variable {P : Program} {w : World} {K : PySem.W.Frag} {mg : Str → Option Value} {base : Heap} (T : Tx K mg)
include T
theorem partC {cdv : Value} {A0 : Around} {outer : List Env} {s : Shared} {H0 : Hp} {E : XK} {Q : VK} (hr : Room 191 (A0.deeper (envOfC "law" (defScope s_law) s.heap.objs.size (He.ga K "law") cdv))) (hQ : ∀ H', Q (.bl true) H') :
    ∃ t, PSs (XL P w K mg base cdv A0 outer s H0 E) ((defBody s_law).drop 14) t ∧ ∀ σ H, Mid2 P w K σ H → t (lawD Q) σ H := by
  refine ⟨_, pss_cons (ps_set (i := 22) sc_lw.nd rfl (.inl rfl) (C8.pe_c (k_ltold T) hr (by decide) (by rfl) (pa_cons (pv 7) (pa_cons (C8.pe_mt (m_plus T 17) hr (by decide) (pv 6) (pa_cons (pe_ix ix_list (pv 9) pe_int (fun _ _ => rfl)) (pa_cons (pe_ix ix_list (pv 9) pe_int (fun _ _ => rfl)) pa_nil))) pa_nil))))
    (pss_cons (ps_if (PW.pt (pw_or (pt_cmpR op_isN (pv 22) pe_non (nomark _)) (pw_or1 (pt_val (C8.pe_c (k_lless T) hr (by decide) (by rfl) (pa_cons (C8.pe_c (k_ladded T) hr (by decide) (by rfl) (pa_cons (pe_ix ix_list (pe_ix ix_list (pv 10) pe_int (fun _ _ => rfl)) pe_int (fun _ _ => rfl)) (pa_cons (pe_ix ix_list (pe_ix ix_list (pv 10) pe_int (fun _ _ => rfl)) pe_int (fun _ _ => rfl)) pa_nil))) (pa_cons (pe_ix ix_list (pv 22) pe_int (fun _ _ => rfl)) pa_nil))))))) (pss_one ps_never) pss_nil)
    (pss_cons (ps_if (pt_val (C8.pe_c (k_lless T) hr (by decide) (by rfl) (pa_cons (pe_ix ix_list (pv 22) pe_int (fun _ _ => rfl)) (pa_cons (C8.pe_c (k_ladded T) hr (by decide) (by rfl) (pa_cons (pe_ix ix_list (pe_ix ix_list (pv 10) pe_int (fun _ _ => rfl)) pe_int (fun _ _ => rfl)) (pa_cons (pe_ix ix_list (pe_ix ix_list (pv 10) pe_int (fun _ _ => rfl)) pe_int (fun _ _ => rfl)) pa_nil))) pa_nil)))) (pss_one ps_never) pss_nil)
    (pss_cons (ps_for PassesOwn.never rfl (pi_range1 rfl (t_fr_range T) (pa_cons pe_int pa_nil)) (pg_name (i := 12) sc_lw.nd rfl (.inl rfl))
      (pss_cons (ps_set (i := 23) sc_lw.nd rfl (.inl rfl) (C8.pe_c (k_ladded T) hr (by decide) (by rfl) (pa_cons (pe_ix ix_list (pe_ix ix_list (pv 10) (pv 12) (fun _ _ => rfl)) pe_int (fun _ _ => rfl)) (pa_cons (pe_ix ix_list (pe_ix ix_list (pv 10) (pe_op op_sub pe_int (pv 12)) (fun _ _ => rfl)) pe_int (fun _ _ => rfl)) pa_nil))))
      (pss_one (ps_if (PW.pt (pw_or (pt_val (C8.pe_c (k_lless T) hr (by decide) (by rfl) (pa_cons (pe_ix ix_list (pv 22) pe_int (fun _ _ => rfl)) (pa_cons (pv 23) pa_nil)))) (pw_or1 (pt_val (C8.pe_c (k_lless T) hr (by decide) (by rfl) (pa_cons (pv 23) (pa_cons (pe_ix ix_list (pv 22) pe_int (fun _ _ => rfl)) pa_nil))))))) (pss_one ps_never) pss_nil))))
    (pss_cons (ps_set (i := 17) sc_lw.nd rfl (.inl rfl) (C8.pe_c (k_lpair T) hr (by decide) (by rfl) (pa_cons (pe_slice sl_list (pv 4) (po_some pe_int) po_none) (pa_cons pe_int (pa_cons pe_int pa_nil)))))
    (pss_cons (ps_set (i := 24) sc_lw.nd rfl (.inl rfl) (C8.pe_c (k_ltold T) hr (by decide) (by rfl) (pa_cons (pv 7) (pa_cons (C8.pe_mt (m_plus T 17) hr (by decide) (pv 6) (pa_cons (pe_ix ix_list (pv 9) pe_int (fun _ _ => rfl)) (pa_cons (C8.pe_mt (m_number T) hr (by decide) (pv 7) (pa_cons (C8.pe_mk (mk_Dyadic2 T) hr (by decide) (by rfl) (pa_cons (pe_ix ix_tup (pv 17) pe_int (fun _ _ => rfl)) (pa_cons (pe_ix ix_tup (pv 17) pe_int (fun _ _ => rfl)) pa_nil))) pa_nil)) pa_nil))) pa_nil))))
    (pss_one (ps_ret (pe_cmpR (op_eqD hr.units) (pv 24) (pe_lst (pa_cons (C8.pe_c (k_ladded T) hr (by decide) (by rfl) (pa_cons (pe_ix ix_list (pe_ix ix_list (pv 10) pe_int (fun _ _ => rfl)) pe_int (fun _ _ => rfl)) (pa_cons (pv 17) pa_nil))) (pa_cons (C8.pe_c (k_ladded T) hr (by decide) (by rfl) (pa_cons (pe_ix ix_list (pe_ix ix_list (pv 10) pe_int (fun _ _ => rfl)) pe_int (fun _ _ => rfl)) (pa_cons (pv 17) pa_nil))) pa_nil))) (nomark _))))))))), ?_⟩
  rintro σ H ⟨L, A, U, S, G, d, o, y0, y2, y11, y12, y13, y14, y15, y16, y17, y18, y19, y20, y21, rfl, h, ls, lf⟩
  obtain ⟨f0, q0⟩ := lf.hf 0 (by decide)
  obtain ⟨f1, q1⟩ := lf.hf 1 (by decide)
  obtain ⟨i0, t0⟩ := lf.hi 0 (by decide)
  have t1 := lf.h1
  obtain ⟨p, hp, p1, p2⟩ := lf.pr
  have hz : SG.ht zr = 0 := ht_zero
  have g0 := SG.isSum_ht_eq q0
  have g1 := SG.isSum_ht_eq q1
  refine ⟨_, rfl, _, rfl, A.sm, A.sx, _, rfl, h.ya.lay.sm, rfl, _, rfl, d.nl, _, 0, nV (d.f 0), rfl, rfl, SqL.of ls.nl, rfl, _, rfl, d.nl, _, 1, nV (d.f 1), rfl, rfl, SqL.of ls.nl, rfl, A, U, G, d.f 0, d.f 1, p, rfl, h.ya, lf.ok, f0, f1, by omega, ⟨hp, .inl ⟨by rw [p1]; exact q0, by rw [p2]; exact q1⟩⟩, lf.or, fun G1 H1 f h1 k1 x1 sl1 l1 is1 => ?_⟩
  rw [x1.ex0.g f0, x1.ex0.g f1] at is1
  have isS : IsSum (G1.g f) (S.g (d.i 0)) (S.g (d.i 1)) := SG.isSum_comp is1 q0 q1
  have hs := SG.isSum_ht_eq isS
  have e := SG.isSum_al isS
  refine ⟨A, U, G1, f, rfl, h1, lf.ok, l1, by omega, ⟨p, hp, by show IsSum (G1.g f) p.1.2 p.2.2; rw [p1, p2]; exact isS⟩, fun q hq => x1.op q (lf.op q hq), fun G2 H2 a ta tb v u h2 k2 x2 sl2 na ea eta etb plv pv40 plu pu40 sv su => ?_⟩
  have h' := h.yk h1 k1
  obtain ⟨naL, naA⟩ := h'.fresh na
  have hB := h'.yk h2 k2
  have lsB := ls.keep ((k1.g L).trans (k2.g L))
  have lfB := lf.yk (x1.trans x2)
  clear ls h'
  have bnd : ∀ k, k < 2 → ((d.v k).p ≤ 9 ∧ (d.v k).t.natAbs < 2 ^ 64 ∧ -(16 * 2 ^ 64) ≤ sc (d.v k) ∧ sc (d.v k) ≤ 16 * 2 ^ 64) ∧ ((d.u k).p ≤ 9 ∧ (d.u k).t.natAbs < 2 ^ 64 ∧ -(16 * 2 ^ 64) ≤ sc (d.u k) ∧ sc (d.u k) ≤ 16 * 2 ^ 64) := fun k hk => by
    obtain ⟨_, a2, a3⟩ := lf.dv k hk
    obtain ⟨_, b2, b3⟩ := lf.du k hk
    have ht := (lf.hi k hk).2
    exact ⟨⟨a2, stop_nat (by omega) (by omega) a3⟩, b2, stop_nat (by omega) (by omega) b3⟩
  have add_bnd : ∀ {x y : Dy}, (x.p ≤ 9 ∧ x.t.natAbs < 2 ^ 64 ∧ -(16 * 2 ^ 64) ≤ sc x ∧ sc x ≤ 16 * 2 ^ 64) → (y.p ≤ 9 ∧ y.t.natAbs < 2 ^ 64 ∧ -(16 * 2 ^ 64) ≤ sc y ∧ sc y ≤ 16 * 2 ^ 64) → (addD x y).p ≤ 9 ∧ (addD x y).t.natAbs < 2 ^ 64 ∧ sc (addD x y) = sc x + sc y := fun {x y} hx hy => by
    obtain ⟨_, b1, b2⟩ := addD_ok x y (by omega) (by omega)
    have := Nat.max_le.mpr ⟨hx.1, hy.1⟩
    exact ⟨by omega, nat_small (by omega) (by omega) (by omega), b2⟩
  obtain ⟨bv0, bu0⟩ := bnd 0 (by decide)
  obtain ⟨bv1, bu1⟩ := bnd 1 (by decide)
  have nv := (stop_nat (g := G1.g f) (by omega) (by omega) sv).1
  have nu := (stop_nat (g := G1.g f) (by omega) (by omega) su).1
  have sv0 := (lf.dv 0 (by decide)).2.2
  have sv1 := (lf.dv 1 (by decide)).2.2
  have su0 := (lf.du 0 (by decide)).2.2
  have su1 := (lf.du 1 (by decide)).2.2
  -- the outer bounds
  refine ⟨_, rfl, rfl, _, rfl, ?_⟩
  rw [decide_eq_false (fun q : V.ref a = V.non => by cases q)]
  refine iteF ⟨_, rfl, d.sl, _, 0, .ref (d.s 0), rfl, rfl, SqL.of lsB.sl, rfl, d.s 0, _, 0, .ref (d.a 0), rfl, rfl, SqL.of lsB.s0, rfl, _, rfl, d.sl, _, 1, .ref (d.s 1), rfl, rfl, SqL.of lsB.sl, rfl, d.s 1, _, 0, .ref (d.a 1), rfl, rfl, SqL.of lsB.s1, rfl, d.a 0, d.a 1, d.v 0, d.v 1, rfl, lsB.a0, lsB.a1, by omega, by omega, bv0.2.1, bv1.2.1, fun r hr1 => ?_⟩
  obtain ⟨c1, c2, c3⟩ := add_bnd bv0 bv1
  have s3 := same_upd (H := H2) (o := .tup (pairV (addD (d.v 0) (d.v 1)))) hr1
  refine ⟨_, rfl, a, _, 0, .ref ta, rfl, rfl, SqL.of (s3 _ _ ea), rfl, r, ta, addD (d.v 0) (d.v 1), v, rfl, upd_same, s3 _ _ eta, by omega, by omega, c2, nv, _, rfl, ?_⟩
  rw [decide_eq_false (show ¬ sc (addD (d.v 0) (d.v 1)) < sc v by have := SG.sum_left (p := 64) e (by omega) (by omega) (by omega); rw [c3, sv, sv0, sv1]; omega)]
  refine iteF ?_
  generalize upd H2 r (.tup (pairV (addD (d.v 0) (d.v 1)))) = H3 at s3 ⊢
  have hC := hB.same s3
  have lsC := lsB.keep (Same.g s3 L A)
  have ea3 := s3 _ _ ea
  have eta3 := s3 _ _ eta
  have etb3 := s3 _ _ etb
  clear lsB hB
  refine ⟨_, rfl, a, _, 1, .ref tb, rfl, rfl, SqL.of ea3, rfl, _, rfl, d.sl, _, 0, .ref (d.s 0), rfl, rfl, SqL.of lsC.sl, rfl, d.s 0, _, 1, .ref (d.b 0), rfl, rfl, SqL.of lsC.s0, rfl, _, rfl, d.sl, _, 1, .ref (d.s 1), rfl, rfl, SqL.of lsC.sl, rfl, d.s 1, _, 1, .ref (d.b 1), rfl, rfl, SqL.of lsC.s1, rfl, d.b 0, d.b 1, d.u 0, d.u 1, rfl, lsC.b0, lsC.b1, by omega, by omega, bu0.2.1, bu1.2.1, fun r2 hr2 => ?_⟩
  obtain ⟨c4, c5, c6⟩ := add_bnd bu0 bu1
  have s4 := same_upd (H := H3) (o := .tup (pairV (addD (d.u 0) (d.u 1)))) hr2
  refine ⟨tb, r2, u, addD (d.u 0) (d.u 1), rfl, s4 _ _ etb3, upd_same, by omega, by omega, nu, c5, _, rfl, ?_⟩
  rw [decide_eq_false (show ¬ sc u < sc (addD (d.u 0) (d.u 1)) by have := SG.sum_right (p := 64) e (by omega) (by omega) (by omega); rw [c6, su, su0, su1]; omega)]
  refine iteF ?_
  generalize upd H3 r2 (.tup (pairV (addD (d.u 0) (d.u 1)))) = H4 at s4 ⊢
  have hD := hC.same s4
  have lsD := lsC.keep (Same.g s4 L A)
  have ea4 := s4 _ _ ea3
  have eta4 := s4 _ _ eta3
  have etb4 := s4 _ _ etb3
  clear lsC hC
  -- the cross sums
  have ni : ∀ k : Nat, k < 2 → V.int (0 + (k : Int)) = V.int (k : Int) := fun k _ => by rw [Int.zero_add]
  have nj : ∀ k : Nat, k < 2 → V.int (1 - (0 + (k : Int))) = V.int ((1 - k : Nat) : Int) := fun k hk => by rw [show (1 : Int) - (0 + (k : Int)) = ((1 - k : Nat) : Int) by omega]
  have at2 : ∀ (x : Nat → V) (k : Nat), k < 2 → atI [x 0, x 1] (k : Int) = some (x k) := fun x k hk => by
    rcases two_cases hk with rfl | rfl
    · rfl
    · rfl
  refine ⟨2, rfl, by decide, by decide, for_range (lo := 0) (n := 2) (fun k σ G' => ∃ (z12 z23 : Option V), σ = [y0, some (.ref L.st), y2, some (.ref d.gl), some (.ref d.dg), some (.ref A.yd), some (.ref A.sm), some (.ref A.vl), some (.ref o), some (.ref d.nl), some (.ref d.sl), y11, z12, y13, y14, y15, y16, y17, y18, y19, y20, y21, some (.ref a), z23, none, none, none] ∧ Same H4 G')
    ⟨_, _, rfl, fun _ _ e => e⟩ ?_ ?_⟩
  · rintro k σ G' hk ⟨z12, z23, rfl, sG⟩
    have ls' := lsD.keep (Same.g sG L A)
    obtain ⟨sk, ak, bk, _⟩ := ls'.sk hk
    obtain ⟨sj, aj, bj, _⟩ := ls'.sk (show 1 - k < 2 by omega)
    obtain ⟨bvk, _⟩ := bnd k hk
    obtain ⟨_, buj⟩ := bnd (1 - k) (by omega)
    have svk := (lf.dv k hk).2.2
    have suj := (lf.du (1 - k) (by omega)).2.2
    have ek : SG.Al (G1.g f) (SG.add (S.g (d.i k)) (S.g (d.i (1 - k)))) := by
      rcases two_cases hk with rfl | rfl
      · exact e
      · exact SG.al_trans e (SG.add_comm _ _)
    have hk1 := (lf.hi k hk).2
    have hk2 := (lf.hi (1 - k) (by omega)).2
    have crl := SG.sum_cross_left (p := 64) ek (by omega) (by omega) (by omega)
    have crr := SG.sum_cross_right (p := 64) ek (by omega) (by omega) (by omega)
    rw [← svk, ← suj, ← sv] at crl
    rw [← svk, ← suj, ← su] at crr
    refine ⟨_, rfl, _, rfl, d.sl, _, (k : Int), .ref (d.s k), rfl, ni k hk, SqL.of ls'.sl, at2 (fun k => .ref (d.s k)) k hk, d.s k, _, 0, .ref (d.a k), rfl, rfl, SqL.of sk, rfl, _, rfl, _, rfl, _, _, rfl, rfl, d.sl, _, ((1 - k : Nat) : Int), .ref (d.s (1 - k)), rfl, nj k hk, SqL.of ls'.sl, at2 (fun k => .ref (d.s k)) (1 - k) (by omega), d.s (1 - k), _, 1, .ref (d.b (1 - k)), rfl, rfl, SqL.of sj, rfl, d.a k, d.b (1 - k), d.v k, d.u (1 - k), rfl, ak, bj, by omega, by omega, bvk.2.1, buj.2.1, fun r hr1 => ?_⟩
    obtain ⟨c1, c2, c3⟩ := add_bnd bvk buj
    have s5 := same_upd (H := G') (o := .tup (pairV (addD (d.v k) (d.u (1 - k))))) hr1
    have er : upd G' r (.tup (pairV (addD (d.v k) (d.u (1 - k))))) r = some (.tup (pairV (addD (d.v k) (d.u (1 - k))))) := upd_same
    generalize upd G' r (.tup (pairV (addD (d.v k) (d.u (1 - k))))) = G5 at s5 er ⊢
    refine ⟨_, rfl, a, _, 0, .ref ta, rfl, rfl, SqL.of (s5 _ _ (sG _ _ ea4)), rfl, _, rfl, ta, r, v, addD (d.v k) (d.u (1 - k)), rfl, s5 _ _ (sG _ _ eta4), er, by omega, by omega, nv, c2, _, rfl, ?_⟩
    rw [decide_eq_false (show ¬ sc v < sc (addD (d.v k) (d.u (1 - k))) by rw [c3]; omega)]
    refine iteF ⟨_, rfl, _, rfl, a, _, 1, .ref tb, rfl, rfl, SqL.of (s5 _ _ (sG _ _ ea4)), rfl, r, tb, addD (d.v k) (d.u (1 - k)), u, rfl, er, s5 _ _ (sG _ _ etb4), by omega, by omega, c2, nu, _, rfl, ?_⟩
    rw [decide_eq_false (show ¬ sc (addD (d.v k) (d.u (1 - k))) < sc u by rw [c3]; omega)]
    exact iteF ⟨_, _, rfl, fun c x q => s5 _ _ (sG _ _ q)⟩
  rintro σ H5 ⟨z12, z23, rfl, s5⟩
  have hE := hD.same s5
  have lsE := lsD.keep (Same.g s5 L A)
  clear lsD hD
  -- the number that is added
  obtain ⟨zp, zh, ⟨pz, hpz, pz1, pz2⟩, pq, hpq, pq1, pq2⟩ := lfB.zz
  refine ⟨_, rfl, 7, rfl, d.dg, _, rfl, SqL.of lsE.dg, fun sl hsl => ?_⟩
  have ecut : cutV (d.ds.map V.int) (some 7) none = (d.ds.drop 7).map V.int := by
    have e7 : HT.sIx d.ds.length 0 (some 7) = 7 := by
      have := HT.sIx_nat d.ds.length 0 7
      rw [lf.dg.1] at this ⊢
      exact this
    unfold cutV
    rw [HT.sIx_none, List.length_map, e7, List.map_drop, List.take_of_length_le (by rw [List.length_drop, List.length_map]; exact Nat.le_refl _)]
  rw [ecut]
  have dg7 : Dig (d.ds.drop 7) 7 := ⟨by rw [List.length_drop, lf.dg.1], fun x hx => lf.dg.2 x (List.mem_of_mem_drop hx)⟩
  have s6 := same_upd (H := H5) (o := .lst ((d.ds.drop 7).map V.int)) hsl
  refine ⟨sl, d.ds.drop 7, 7, 2, 2, rfl, upd_same, dg7, by decide, by decide, by decide, by decide, fun t p' et ep p2' t1' t2' H6 r s7 nr er => ?_⟩
  have ez : redu t p' = d.z := by rw [et, ep]; rfl
  rw [ez] at er
  have s67 : Same H5 H6 := fun c x q => s7 _ _ (s6 _ _ q)
  have hF := hE.same s67
  have lsF := lsE.keep (Same.g s67 L A)
  clear lsE hE
  obtain ⟨zv, ezv⟩ : ∃ zv, zv = d.z := ⟨_, rfl⟩
  rw [← ezv] at er zp zh pz2 pq2
  have plz : Plain zv := by rw [ezv]; exact SG.redu_plain _ _
  have rz : redu zv.t zv.p = zv := SG.redu_of_plain plz
  have bz := SG.num_bound (p := 64) (h := 16) (g := form 64 (sc zv)) (by omega) (SG.al_refl _)
  have zt := SG.t_of_sc (v := zv) (M := 16) (by omega) (by omega) (by omega)
  have zpw : (2 : Int) ^ zv.p ≤ 4 := by
    have e1 : (2 : Nat) ^ zv.p ≤ 2 ^ 2 := Nat.pow_le_pow_right (by decide) zp
    have e2 : ((2 ^ zv.p : Nat) : Int) = (2 ^ zv.p : Int) := by simp
    omega
  refine ⟨_, rfl, _, rfl, A.sm, A.sx, _, rfl, hF.ya.lay.sm, rfl, _, rfl, d.nl, _, 0, nV (d.f 0), rfl, rfl, SqL.of lsF.nl, rfl, _, rfl, A.vl, A.vx, _, rfl, hF.ya.lay.vl, rfl, _, rfl, r, _, 0, .int zv.t, rfl, rfl, SqT.of er, rfl, _, rfl, r, _, 1, .int (zv.p : Int), rfl, rfl, SqT.of er, rfl, fun x dx nx ndx nex => ⟨x, dx, zv.t, zv.p, rfl, upd_same, by omega, by omega, by omega, fun Hd hd hk => ⟨rfl, ?_⟩⟩⟩
  rw [rz] at hd
  have sm : Same H6 Hd := fun b q hb => by
    have nb : b ≠ x := ne_of_none hb nx
    exact hk b q (by rw [upd_ne nb, upd_ne (ne_of_none hb ndx)]; exact hb) nb
  have hG := hF.same sm
  have lsG := lsF.keep (Same.g sm L A)
  clear lsF hF
  refine ⟨A, U, G2, x, zv, pz, rfl, hG.ya, lf.ok, hd, by omega, by omega, hpz, pz1, pz2, lfB.or, fun G3 H7 f3 h7 k7 x7 sl7 l7 is7 => ?_⟩
  have lf7 := lfB.yk x7
  obtain ⟨f07, q07⟩ := lf7.hf 0 (by decide)
  have g07 := SG.isSum_ht_eq q07
  have g37 := SG.isSum_ht_eq is7
  refine ⟨A, U, G3, d.f 0, f3, pq, rfl, h7, lf.ok, f07, l7, by omega, ⟨hpq, .inl ⟨by rw [pq1]; exact q07, by rw [pq2]; exact is7⟩⟩, lf7.or, fun G4 H8 f4 h8 k8 x8 sl8 l8 is8 => ?_⟩
  rw [x8.ex0.g f07, x8.ex0.g l7] at is8
  have isZ : IsSum (G4.g f4) (S.g (d.i 0)) (form 64 (sc zv)) := SG.isSum_comp is8 q07 is7
  have hs8 := SG.isSum_ht_eq isZ
  refine ⟨A, U, G4, f4, rfl, h8, lf.ok, l8, by omega, ⟨pq, hpq, by show IsSum (G4.g f4) pq.1.2 pq.2.2; rw [pq1, pq2]; exact isZ⟩, fun q hq => x8.op q (lf7.op q hq), fun G5 H9 a2 ta2 tb2 v' u' h9 k9 x9 sl9 na2 ea2 eta2 etb2 plv' pv40' plu' pu40' sv' su' => ?_⟩
  have lsH := lsG.keep ((k7.g L).trans ((k8.g L).trans (k9.g L)))
  have er9 : H9 r = some (.tup (pairV zv)) := h8.tupK k9 _ _ (h7.tupK k8 _ _ (hG.ya.tupK k7 _ _ (sm _ _ er)))
  clear lsG
  -- it moves both stops
  obtain ⟨mv, mu⟩ := SG.stop_move (SG.isSum_al isZ) (by omega) (by omega) (by omega) (SG.al_refl _)
  have zn : zv.t.natAbs < 2 ^ 64 := nat_small (by omega) (by omega) (by omega)
  obtain ⟨pa1, pa2, pa3⟩ := addD_ok (d.v 0) zv (by omega) (by omega)
  obtain ⟨pb1, pb2, pb3⟩ := addD_ok (d.u 0) zv (by omega) (by omega)
  have ev : v' = addD (d.v 0) zv := SG.sc_inj plv' pa1 (by omega) (by have := Nat.max_le.mpr ⟨bv0.1, show zv.p ≤ 9 by omega⟩; omega) (by rw [sv', mv, pa3, sv0])
  have eu : u' = addD (d.u 0) zv := SG.sc_inj plu' pb1 (by omega) (by have := Nat.max_le.mpr ⟨bu0.1, show zv.p ≤ 9 by omega⟩; omega) (by rw [su', mu, pb3, su0])
  subst ev eu
  refine ⟨_, rfl, _, rfl, d.sl, _, 0, .ref (d.s 0), rfl, rfl, SqL.of lsH.sl, rfl, d.s 0, _, 0, .ref (d.a 0), rfl, rfl, SqL.of lsH.s0, rfl, _, rfl, d.a 0, r, d.v 0, zv, rfl, lsH.a0, er9, by omega, by omega, bv0.2.1, zn, fun r1 hr1 => ?_⟩
  have s10 := same_upd (H := H9) (o := .tup (pairV (addD (d.v 0) zv))) hr1
  have er1 : upd H9 r1 (.tup (pairV (addD (d.v 0) zv))) r1 = some (.tup (pairV (addD (d.v 0) zv))) := upd_same
  generalize upd H9 r1 (.tup (pairV (addD (d.v 0) zv))) = H10 at s10 er1 ⊢
  refine ⟨_, rfl, d.sl, _, 0, .ref (d.s 0), rfl, rfl, SqL.of (s10 _ _ lsH.sl), rfl, d.s 0, _, 1, .ref (d.b 0), rfl, rfl, SqL.of (s10 _ _ lsH.s0), rfl, _, rfl, d.b 0, r, d.u 0, zv, rfl, s10 _ _ lsH.b0, s10 _ _ er9, by omega, by omega, bu0.2.1, zn, fun r2 hr2 => ?_⟩
  have s11 := same_upd (H := H10) (o := .tup (pairV (addD (d.u 0) zv))) hr2
  have er2 : upd H10 r2 (.tup (pairV (addD (d.u 0) zv))) r2 = some (.tup (pairV (addD (d.u 0) zv))) := upd_same
  generalize upd H10 r2 (.tup (pairV (addD (d.u 0) zv))) = H11 at s11 er2 ⊢
  refine ⟨by show 2 ≤ sizeLine; decide, fun l hl => ?_⟩
  have s12 := same_upd (H := H11) (o := .lst [V.ref r1, .ref r2]) hl
  have dpT : ∀ {c : Addr} {w' : Dy}, upd H11 l (.lst [V.ref r1, .ref r2]) c = some (.tup (pairV w')) → Dp K (upd H11 l (.lst [V.ref r1, .ref r2])) (.ref c) (.tuple [.int w'.t, .int (w'.p : Int)]) := fun {c w'} e => .tup (SqT.of e) (.cons (.int _) (.cons (.int _) .nil))
  have up : ∀ c x, H9 c = some x → upd H11 l (.lst [V.ref r1, .ref r2]) c = some x := fun c x q => s12 _ _ (s11 _ _ (s10 _ _ q))
  have fin : PyData.eqv (.list [.tuple [.int (addD (d.v 0) zv).t, .int ((addD (d.v 0) zv).p : Int)], .tuple [.int (addD (d.u 0) zv).t, .int ((addD (d.u 0) zv).p : Int)]]) (.list [.tuple [.int (addD (d.v 0) zv).t, .int ((addD (d.v 0) zv).p : Int)], .tuple [.int (addD (d.u 0) zv).t, .int ((addD (d.u 0) zv).p : Int)]]) = true := SeqAt.eqv_refl _ rfl
  refine ⟨.list [.tuple [.int (addD (d.v 0) zv).t, .int ((addD (d.v 0) zv).p : Int)], .tuple [.int (addD (d.u 0) zv).t, .int ((addD (d.u 0) zv).p : Int)]], .list [.tuple [.int (addD (d.v 0) zv).t, .int ((addD (d.v 0) zv).p : Int)], .tuple [.int (addD (d.u 0) zv).t, .int ((addD (d.u 0) zv).p : Int)]], .lst (SqL.of (up _ _ ea2)) (.cons (dpT (up _ _ eta2)) (.cons (dpT (up _ _ etb2)) .nil)), .lst (SqL.of upd_same) (.cons (dpT (s12 _ _ (s11 _ _ er1))) (.cons (dpT (s12 _ _ er2)) .nil)), rfl, rfl, ?_⟩
  rw [fin]
  exact hQ _
end
end K45
end
section
set_option Elab.async false
set_option linter.all false
set_option maxRecDepth 100000
set_option maxHeartbeats 8000000
namespace K45
open PySem PySem.Spec PyProof.Rows L2
open SG (gv lf rt optI Nd Dy sc form Le WfY redu Plain Gs Un UnOk Wf Ext Ex0 OKp OKr IsP IsSum Pu opt stop)
/-! ### the law's middle part: dyadics near the stops, small or not -/
def OkX (x : Dy) : Prop := x.p ≤ 10 ∧ -(33 * 2 ^ x.p) ≤ x.t ∧ x.t ≤ 33 * 2 ^ x.p
theorem okx_sc {x : Dy} (h : x.p ≤ 10) (h1 : -(33 * 2 ^ 64) ≤ sc x) (h2 : sc x ≤ 33 * 2 ^ 64) : OkX x := ⟨h, SG.t_of_sc (M := 33) (by omega) h1 h2⟩
theorem okx_half {x : Dy} (h : x.p ≤ 9) (h1 : -(32 * 2 ^ 64) ≤ sc x) (h2 : sc x ≤ 32 * 2 ^ 64) : OkX ⟨x.t, x.p + 1⟩ := by
  have := SG.t_of_sc (M := 32) (by omega) h1 h2
  have e : (2 : Int) ^ (x.p + 1) = 2 ^ x.p * 2 := Int.pow_succ ..
  have pos : (0 : Int) < 2 ^ x.p := SG.pow_pos2 _
  refine ⟨by show x.p + 1 ≤ 10; omega, ?_, ?_⟩
  · show -(33 * 2 ^ (x.p + 1)) ≤ x.t
    rw [e]; omega
  · show x.t ≤ 33 * 2 ^ (x.p + 1)
    rw [e]; omega
theorem near_sc {q : Nat} (h1 : 1 ≤ q) (h2 : q ≤ 6) (s : Int) (hs : s = 1 ∨ s = -1) : (⟨s, q⟩ : Dy).p ≤ 9 ∧ (⟨s, q⟩ : Dy).t.natAbs < 2 ^ 64 ∧ -(2 ^ 64) ≤ sc ⟨s, q⟩ ∧ sc ⟨s, q⟩ ≤ 2 ^ 64 := by
  have pos := SG.pow_pos2 (64 - q)
  have le : (2 : Int) ^ (64 - q) ≤ 2 ^ 64 := by
    have : (2 : Nat) ^ (64 - q) ≤ 2 ^ 64 := Nat.pow_le_pow_right (by decide) (by omega)
    have e2 : ((2 ^ (64 - q) : Nat) : Int) = (2 ^ (64 - q) : Int) := by simp
    omega
  refine ⟨by show q ≤ 9; omega, by show s.natAbs < 2 ^ 64; omega, ?_, ?_⟩
  · show -(2 ^ 64) ≤ 2 ^ (64 - q) * s
    rcases hs with rfl | rfl
    · rw [Int.mul_one]; omega
    · rw [Int.mul_neg, Int.mul_one]; omega
  · show 2 ^ (64 - q) * s ≤ 2 ^ 64
    rcases hs with rfl | rfl
    · rw [Int.mul_one]; omega
    · rw [Int.mul_neg, Int.mul_one]; omega
def Mid1 (P : Program) (w : World) (K : PySem.W.Frag) : L2.St → Hp → Prop := fun σ H => ∃ (L : La) (A : Ad) (U : Un) (S : Ls) (G : Gs) (d : Dt) (o : Addr) (y0 y2 : Option V),
  σ = [y0, some (.ref L.st), y2, some (.ref d.gl), some (.ref d.dg), some (.ref A.yd), some (.ref A.sm), some (.ref A.vl), some (.ref o), some (.ref d.nl), some (.ref d.sl), none, none, none, none, none, none, none, none, none, none, none, none, none, none, none, none] ∧
  Two P w K L A U S G H ∧ LS L A d H ∧ LF U S G d ∧ S.N + S.cand.length ≤ 1000
section
variable {P : Program} {w : World} {K : PySem.W.Frag} {mg : Str → Option Value} {base : Heap} (T : Tx K mg)
include T
theorem partB {cdv : Value} {A0 : Around} {outer : List Env} {s : Shared} {H0 : Hp} {E : XK} {Q : VK} (hr : Room 191 (A0.deeper (envOfC "law" (defScope s_law) s.heap.objs.size (He.ga K "law") cdv))) (hQ : ∀ H', Q (.bl true) H') :
    ∃ t, PSs (XL P w K mg base cdv A0 outer s H0 E) ((defBody s_law).drop 11) t ∧ ∀ σ H, Mid1 P w K σ H → t (lawD Q) σ H := by
  obtain ⟨tC, psC, rdC⟩ := partC T (P := P) (w := w) (base := base) (outer := outer) (H0 := H0) (E := E) hr hQ
  have hu := hu_of hr
  refine ⟨_, pss_cons (ps_if (PW.pt (pw_or (pt_cmpR op_isN (pe_ix ix_list (pv 10) pe_int (fun _ _ => rfl)) pe_non (nomark _)) (pw_or1 (pt_cmpR op_isN (pe_ix ix_list (pv 10) pe_int (fun _ _ => rfl)) pe_non (nomark _))))) (pss_one ps_never) pss_nil)
    (pss_cons (ps_set (i := 11) sc_lw.nd rfl (.inl rfl) (pe_tup (pa_cons pe_int (pa_cons (pe_op op_add pe_int (pe_op op_mod (pe_callTy call_int1 (by rfl) (t_fr_int T) (by decide +kernel) (pa_cons (pe_ix ix_list (pv 4) pe_int (fun _ _ => rfl)) pa_nil)) pe_int)) pa_nil))))
    (pss_cons (ps_for PassesOwn.never rfl (pi_range1 rfl (t_fr_range T) (pa_cons pe_int pa_nil)) (pg_name (i := 12) sc_lw.nd rfl (.inl rfl))
      (pss_cons (ps_set (i := 13) sc_lw.nd rfl (.inl rfl) (pe_ix ix_list (pe_ix ix_list (pv 10) (pv 12) (fun _ _ => rfl)) pe_int (fun _ _ => rfl)))
      (pss_cons (ps_set (i := 14) sc_lw.nd rfl (.inl rfl) (pe_ix ix_list (pe_ix ix_list (pv 10) (pv 12) (fun _ _ => rfl)) pe_int (fun _ _ => rfl)))
      (pss_cons (ps_set (i := 15) sc_lw.nd rfl (.inl rfl) (C8.pe_c (k_ladded T) hr (by decide) (by rfl) (pa_cons (pv 14) (pa_cons (pv 13) pa_nil))))
      (pss_cons (ps_set (i := 16) sc_lw.nd rfl (.inl rfl) (pe_lst (pa_cons (pv 14) (pa_cons (pv 13) (pa_cons (pe_tup (pa_cons (pe_ix ix_tup (pv 15) pe_int (fun _ _ => rfl)) (pa_cons (pe_op op_add (pe_ix ix_tup (pv 15) pe_int (fun _ _ => rfl)) pe_int) pa_nil)))
        (pa_cons (C8.pe_c (k_ladded T) hr (by decide) (by rfl) (pa_cons (pv 13) (pa_cons (pv 11) pa_nil)))
        (pa_cons (C8.pe_c (k_ladded T) hr (by decide) (by rfl) (pa_cons (pv 14) (pa_cons (pe_tup (pa_cons (pe_un un_neg pe_int) (pa_cons (pe_ix ix_tup (pv 11) pe_int (fun _ _ => rfl)) pa_nil))) pa_nil))) pa_nil)))))))
      (C8.pss_cut (ps_set (i := 16) sc_lw.nd rfl (.inl rfl) (pe_op op_cat (pv 16) (pe_lst (pa_cons (C8.pe_c (k_ladded T) hr (by decide) (by rfl) (pa_cons (pv 13) (pa_cons (pe_tup (pa_cons (pe_un un_neg pe_int) (pa_cons (pe_ix ix_tup (pv 11) pe_int (fun _ _ => rfl)) pa_nil))) pa_nil)))
        (pa_cons (C8.pe_c (k_ladded T) hr (by decide) (by rfl) (pa_cons (pv 14) (pa_cons (pv 11) pa_nil)))
        (pa_cons (C8.pe_c (k_lpair T) hr (by decide) (by rfl) (pa_cons (pe_slice sl_list (pv 4) po_none (po_some pe_int)) (pa_cons pe_int (pa_cons pe_int pa_nil)))) pa_nil))))))
      (C8.pss_cut (ps_for PassesOwn.never rfl (pi_list (pv 16)) (pg_name (i := 17) sc_lw.nd rfl (.inl rfl))
        (pss_one (ps_if (PW.pt (pw_or (pt_val (C8.pe_c (k_lless T) hr (by decide) (by rfl) (pa_cons (pv 13) (pa_cons (pv 14) pa_nil)))) (pw_or1 (pt_not (pt_val (C8.pe_c (k_lplaced T) hr (by decide) (by rfl) (pa_cons (pv 1) (pa_cons (pe_ix ix_list (pv 3) (pv 12) (fun _ _ => rfl)) (pa_cons (pe_ix ix_list (pv 10) (pv 12) (fun _ _ => rfl)) (pa_cons (pv 17) pa_nil)))))))))) (pss_one ps_never) pss_nil)))
      (pss_cons (ps_set (i := 18) sc_lw.nd rfl (.inl rfl) (pe_op op_add (pe_ix ix_list (pe_dget hu (pv 1) pe_str (fun _ _ => rfl)) (pe_ix ix_list (pv 3) (pv 12) (fun _ _ => rfl)) (fun _ _ => rfl)) pe_int))
      (pss_cons (ps_set (i := 19) sc_lw.nd rfl (.inl rfl) (C8.pe_c (k_lover T 70) hr (by decide) (by rfl) (pa_cons (pv 1) (pa_cons (pe_ix ix_list (pv 3) (pv 12) (fun _ _ => rfl)) (pa_cons (C8.pe_c (k_lnum T 60) hr (by decide) (by rfl) (pa_cons (pv 1) (pa_cons pe_int (pa_cons (pv 18) pa_nil)))) pa_nil)))))
      (pss_cons (ps_set (i := 20) sc_lw.nd rfl (.inl rfl) (C8.pe_c (k_lover T 70) hr (by decide) (by rfl) (pa_cons (pv 1) (pa_cons (C8.pe_c (k_lnum T 60) hr (by decide) (by rfl) (pa_cons (pv 1) (pa_cons (pe_un un_neg pe_int) (pa_cons (pv 18) pa_nil)))) (pa_cons (pe_ix ix_list (pv 3) (pv 12) (fun _ _ => rfl)) pa_nil)))))
      (C8.pss_cut (ps_set (i := 21) sc_lw.nd rfl (.inl rfl) (pe_and (C8.pe_c (k_lover T 70) hr (by decide) (by rfl) (pa_cons (pv 1) (pa_cons (C8.pe_c (k_lnum T 60) hr (by decide) (by rfl) (pa_cons (pv 1) (pa_cons pe_int (pa_cons (pv 18) pa_nil)))) (pa_cons (pe_ix ix_list (pv 3) (pv 12) (fun _ _ => rfl)) pa_nil)))) (pe_one (pe_not (pv 19)))))
      (C8.pss_cut (ps_set (i := 21) sc_lw.nd rfl (.inl rfl) (pe_and (pv 21) (pe_and (C8.pe_c (k_lover T 70) hr (by decide) (by rfl) (pa_cons (pv 1) (pa_cons (pe_ix ix_list (pv 3) (pv 12) (fun _ _ => rfl)) (pa_cons (C8.pe_c (k_lnum T 60) hr (by decide) (by rfl) (pa_cons (pv 1) (pa_cons (pe_un un_neg pe_int) (pa_cons (pv 18) pa_nil)))) pa_nil)))) (pe_one (pe_not (pv 20))))))
      (pss_one (ps_if (pt_not (pt_val (C8.pe_c (k_lsays T) hr (by decide) (by rfl) (pa_cons (C8.pe_mt (m_is_small T) hr (by decide) (pv 7) (pa_cons (pe_ix ix_list (pv 9) (pv 12) (fun _ _ => rfl)) pa_nil)) (pa_cons (pv 21) pa_nil))))) (pss_one ps_never) pss_nil)))))))))))))) psC)), ?_⟩
  rintro σ H ⟨L, A, U, S, G, d, o, y0, y2, rfl, h, ls, lf, hb⟩
  have ni : ∀ k : Nat, k < 2 → V.int (0 + (k : Int)) = V.int (k : Int) := fun k _ => by rw [Int.zero_add]
  have at2 : ∀ (x : Nat → V) (k : Nat), k < 2 → atI [x 0, x 1] (k : Int) = some (x k) := fun x k hk => by
    rcases two_cases hk with rfl | rfl
    · rfl
    · rfl
  have hz : SG.ht zr = 0 := ht_zero
  refine ⟨_, rfl, d.sl, _, 0, .ref (d.s 0), rfl, rfl, SqL.of ls.sl, rfl, rfl, _, rfl, ?_⟩
  rw [decide_eq_false (fun q : V.ref (d.s 0) = V.non => by cases q)]
  refine iteF ⟨_, rfl, d.sl, _, 1, .ref (d.s 1), rfl, rfl, SqL.of ls.sl, rfl, rfl, _, rfl, ?_⟩
  rw [decide_eq_false (fun q : V.ref (d.s 1) = V.non => by cases q)]
  refine iteF ?_
  -- near
  have get : ∀ i : Nat, i < 14 → ∃ x, 0 ≤ x ∧ x < 60 ∧ atI (d.ds.map V.int) (i : Int) = some (V.int x) := fun i hi => by
    have hl : i < d.ds.length := by rw [lf.dg.1]; omega
    have e : d.ds[i]? = some (d.ds[i]'hl) := List.getElem?_eq_getElem hl
    exact ⟨_, (lf.dg.2 _ (List.mem_of_getElem? e)).1, (lf.dg.2 _ (List.mem_of_getElem? e)).2, atI_nat (by rw [List.getElem?_map, e]; rfl)⟩
  obtain ⟨d7, a7, b7, g7⟩ := get 7 (by decide)
  obtain ⟨q, eq⟩ : ∃ q : Nat, 1 + d7 % 6 = (q : Int) := ⟨(1 + d7 % 6).toNat, by omega⟩
  have q1 : 1 ≤ q := by omega
  have q6 : q ≤ 6 := by omega
  refine ⟨_, rfl, d.dg, _, 7, .int d7, rfl, rfl, SqL.of ls.dg, g7, .inl ⟨_, rfl, _, _, rfl, rfl, by show (0 : Int) < 6; decide, _, _, rfl, rfl, by show 2 ≤ sizeLine; decide, fun nr hnr => ?_⟩⟩
  have snr := same_upd (H := H) (o := .tup [V.int 1, .int (1 + d7 % 6)]) hnr
  have enr : upd H nr (.tup [V.int 1, .int (1 + d7 % 6)]) nr = some (.tup (pairV ⟨1, q⟩)) := by rw [upd_same, eq]
  generalize upd H nr (.tup [V.int 1, .int (1 + d7 % 6)]) = H1 at snr enr ⊢
  have hA := h.same snr
  have lsA := ls.keep (Same.g snr L A)
  have nnr := hA.ntup enr
  clear ls h
  have np := near_sc q1 q6 1 (.inl rfl)
  have nm := near_sc q1 q6 (-1) (.inr rfl)
  refine ⟨2, rfl, by decide, by decide, for_range (lo := 0) (n := 2) (fun k σ G' => ∃ (S2 : Ls) (G2 : Gs) (z12 z13 z14 z15 z16 z17 z18 z19 z20 z21 : Option V), σ = [y0, some (.ref L.st), y2, some (.ref d.gl), some (.ref d.dg), some (.ref A.yd), some (.ref A.sm), some (.ref A.vl), some (.ref o), some (.ref d.nl), some (.ref d.sl), some (.ref nr), z12, z13, z14, z15, z16, z17, z18, z19, z20, z21, none, none, none, none, none] ∧ Two P w K L A U S2 G2 G' ∧ LS L A d G' ∧ LF U S2 G2 d ∧ G' nr = some (.tup (pairV ⟨1, q⟩)) ∧ S2.N + S2.cand.length ≤ 1000 + 400 * k)
    ⟨S, G, _, _, _, _, _, _, _, _, _, _, rfl, hA, lsA, lf, enr, hb⟩ ?_ ?_⟩
  rotate_left
  · rintro σ G' ⟨S2, G2, z12, z13, z14, z15, z16, z17, z18, z19, z20, z21, rfl, h2, ls2, lf2, _, _⟩
    exact rdC _ _ ⟨L, A, U, S2, G2, d, o, _, _, _, _, _, _, _, _, _, _, _, _, _, rfl, h2, ls2, lf2⟩
  clear hA lsA lf hb enr
  rintro k σ H2 hk ⟨S, G, z12, z13, z14, z15, z16, z17, z18, z19, z20, z21, rfl, h, ls, lf, enr, hb⟩
  obtain ⟨sk, ak, bk, _⟩ := ls.sk hk
  obtain ⟨ik, tk⟩ := lf.hi k hk
  obtain ⟨fk, qk⟩ := lf.hf k hk
  obtain ⟨plv, pv9, sv⟩ := lf.dv k hk
  obtain ⟨plu, pu9, su⟩ := lf.du k hk
  obtain ⟨nv, lv, uv⟩ := stop_nat (by omega) (by omega) sv
  obtain ⟨nu, lu, uu⟩ := stop_nat (by omega) (by omega) su
  have ge := SG.stop_ge (p := 64) (g := S.g (d.i k)) (by omega)
  rw [← sv, ← su] at ge
  refine ⟨_, rfl, _, rfl, d.sl, _, (k : Int), .ref (d.s k), rfl, ni k hk, SqL.of ls.sl, at2 (fun k => .ref (d.s k)) k hk, d.s k, _, 0, .ref (d.a k), rfl, rfl, SqL.of sk, rfl, ?_⟩
  refine ⟨_, rfl, _, rfl, d.sl, _, (k : Int), .ref (d.s k), rfl, ni k hk, SqL.of ls.sl, at2 (fun k => .ref (d.s k)) k hk, d.s k, _, 1, .ref (d.b k), rfl, rfl, SqL.of sk, rfl, ?_⟩
  -- half
  refine ⟨_, rfl, _, rfl, d.b k, d.a k, d.u k, d.v k, rfl, bk, ak, by omega, by omega, nu, nv, fun ha hha => ?_⟩
  obtain ⟨hpl, hp9, hsc⟩ := addD_ok (d.u k) (d.v k) (by omega) (by omega)
  have hp9 : (addD (d.u k) (d.v k)).p ≤ 9 := by have := Nat.max_le.mpr ⟨pu9, pv9⟩; omega
  obtain ⟨hf, ehf⟩ : ∃ hf, hf = addD (d.u k) (d.v k) := ⟨_, rfl⟩
  rw [← ehf] at hp9 hsc
  have s3 := same_upd (H := H2) (o := .tup (pairV (addD (d.u k) (d.v k)))) hha
  have eh3 : upd H2 ha (.tup (pairV (addD (d.u k) (d.v k)))) ha = some (.tup (pairV hf)) := by rw [upd_same, ehf]
  generalize upd H2 ha (.tup (pairV (addD (d.u k) (d.v k)))) = H3 at s3 eh3 ⊢
  -- pairs
  refine ⟨_, rfl, _, rfl, _, rfl, ha, _, 0, .int hf.t, rfl, rfl, SqT.of eh3, rfl, _, rfl, ha, _, 1, .int (hf.p : Int), rfl, rfl, SqT.of eh3, rfl, _, _, rfl, rfl, by show 2 ≤ sizeLine; decide, fun t3 ht3 => ?_⟩
  have s4 := same_upd (H := H3) (o := .tup [V.int hf.t, .int ((hf.p : Int) + 1)]) ht3
  have e3 : upd H3 t3 (.tup [V.int hf.t, .int ((hf.p : Int) + 1)]) t3 = some (.tup (pairV ⟨hf.t, hf.p + 1⟩)) := upd_same
  generalize upd H3 t3 (.tup [V.int hf.t, .int ((hf.p : Int) + 1)]) = H4 at s4 e3 ⊢
  have s24 : Same H2 H4 := fun c x e => s4 _ _ (s3 _ _ e)
  refine ⟨_, rfl, _, rfl, d.a k, nr, d.v k, ⟨1, q⟩, rfl, s24 _ _ ak, s24 _ _ enr, by omega, by show q ≤ 64; omega, nv, np.2.1, fun r4 hr4 => ?_⟩
  have s5 := same_upd (H := H4) (o := .tup (pairV (addD (d.v k) ⟨1, q⟩))) hr4
  have e4 : upd H4 r4 (.tup (pairV (addD (d.v k) ⟨1, q⟩))) r4 = some (.tup (pairV (addD (d.v k) ⟨1, q⟩))) := upd_same
  generalize upd H4 r4 (.tup (pairV (addD (d.v k) ⟨1, q⟩))) = H5 at s5 e4 ⊢
  have s25 : Same H2 H5 := fun c x e => s5 _ _ (s24 _ _ e)
  refine ⟨_, rfl, _, rfl, _, rfl, nr, _, 1, .int (q : Int), rfl, rfl, SqT.of (s25 _ _ enr), rfl, by show 2 ≤ sizeLine; decide, fun t5 ht5 => ?_⟩
  have s6 := same_upd (H := H5) (o := .tup [V.int (-1), .int (q : Int)]) ht5
  have e5 : upd H5 t5 (.tup [V.int (-1), .int (q : Int)]) t5 = some (.tup (pairV ⟨-1, q⟩)) := upd_same
  generalize upd H5 t5 (.tup [V.int (-1), .int (q : Int)]) = H6 at s6 e5 ⊢
  have s26 : Same H2 H6 := fun c x e => s6 _ _ (s25 _ _ e)
  refine ⟨d.b k, t5, d.u k, ⟨-1, q⟩, rfl, s26 _ _ bk, e5, by omega, by show q ≤ 64; omega, nu, nm.2.1, fun r6 hr6 => ?_⟩
  have s7 := same_upd (H := H6) (o := .tup (pairV (addD (d.u k) ⟨-1, q⟩))) hr6
  have e6 : upd H6 r6 (.tup (pairV (addD (d.u k) ⟨-1, q⟩))) r6 = some (.tup (pairV (addD (d.u k) ⟨-1, q⟩))) := upd_same
  generalize upd H6 r6 (.tup (pairV (addD (d.u k) ⟨-1, q⟩))) = H7 at s7 e6 ⊢
  have s27 : Same H2 H7 := fun c x e => s7 _ _ (s26 _ _ e)
  refine ⟨by show 5 ≤ sizeLine; decide, fun p5 hp5 => ?_⟩
  have s8 := same_upd (H := H7) (o := .lst [V.ref (d.b k), .ref (d.a k), .ref t3, .ref r4, .ref r6]) hp5
  have e8 : upd H7 p5 (.lst [V.ref (d.b k), .ref (d.a k), .ref t3, .ref r4, .ref r6]) p5 = some (.lst [V.ref (d.b k), .ref (d.a k), .ref t3, .ref r4, .ref r6]) := upd_same
  generalize upd H7 p5 (.lst [V.ref (d.b k), .ref (d.a k), .ref t3, .ref r4, .ref r6]) = H8 at s8 e8 ⊢
  have s28 : Same H2 H8 := fun c x e => s8 _ _ (s27 _ _ e)
  refine ⟨fun σ' H' => ∃ (pl : Addr) (xs : List (Addr × Dy)), σ' = [y0, some (.ref L.st), y2, some (.ref d.gl), some (.ref d.dg), some (.ref A.yd), some (.ref A.sm), some (.ref A.vl), some (.ref o), some (.ref d.nl), some (.ref d.sl), some (.ref nr), some (.int (0 + (k : Int))), some (.ref (d.a k)), some (.ref (d.b k)), some (.ref ha), some (.ref pl), z17, z18, z19, z20, z21, none, none, none, none, none] ∧ Same H2 H' ∧ H2 pl = none ∧ H' pl = some (.lst (xs.map fun e => V.ref e.1)) ∧ xs.length = 8 ∧ ∀ e ∈ xs, H' e.1 = some (.tup (pairV e.2)) ∧ OkX e.2, ?_, ?_⟩
  · refine ⟨_, rfl, _, rfl, _, rfl, _, rfl, nr, _, 1, .int (q : Int), rfl, rfl, SqT.of (s28 _ _ enr), rfl, by show 2 ≤ sizeLine; decide, fun t9 ht9 => ?_⟩
    have s9 := same_upd (H := H8) (o := .tup [V.int (-1), .int (q : Int)]) ht9
    have e9 : upd H8 t9 (.tup [V.int (-1), .int (q : Int)]) t9 = some (.tup (pairV ⟨-1, q⟩)) := upd_same
    generalize upd H8 t9 (.tup [V.int (-1), .int (q : Int)]) = H9 at s9 e9 ⊢
    have s29 : Same H2 H9 := fun c x e => s9 _ _ (s28 _ _ e)
    refine ⟨d.a k, t9, d.v k, ⟨-1, q⟩, rfl, s29 _ _ ak, e9, by omega, by show q ≤ 64; omega, nv, nm.2.1, fun r10 hr10 => ?_⟩
    have s10 := same_upd (H := H9) (o := .tup (pairV (addD (d.v k) ⟨-1, q⟩))) hr10
    have e10 : upd H9 r10 (.tup (pairV (addD (d.v k) ⟨-1, q⟩))) r10 = some (.tup (pairV (addD (d.v k) ⟨-1, q⟩))) := upd_same
    generalize upd H9 r10 (.tup (pairV (addD (d.v k) ⟨-1, q⟩))) = H10 at s10 e10 ⊢
    have sX : Same H2 H10 := fun c x e => s10 _ _ (s29 _ _ e)
    refine ⟨_, rfl, _, rfl, d.b k, nr, d.u k, ⟨1, q⟩, rfl, sX _ _ bk, sX _ _ enr, by omega, by show q ≤ 64; omega, nu, np.2.1, fun r11 hr11 => ?_⟩
    have s11 := same_upd (H := H10) (o := .tup (pairV (addD (d.u k) ⟨1, q⟩))) hr11
    have e11 : upd H10 r11 (.tup (pairV (addD (d.u k) ⟨1, q⟩))) r11 = some (.tup (pairV (addD (d.u k) ⟨1, q⟩))) := upd_same
    generalize upd H10 r11 (.tup (pairV (addD (d.u k) ⟨1, q⟩))) = H11 at s11 e11 ⊢
    have sY : Same H2 H11 := fun c x e => s11 _ _ (sX _ _ e)
    refine ⟨_, rfl, 7, rfl, d.dg, _, rfl, SqL.of (sY _ _ ls.dg), fun sl hsl => ?_⟩
    have ecut : cutV (d.ds.map V.int) none (some 7) = (d.ds.take 7).map V.int := by
      have e7 : HT.sIx d.ds.length d.ds.length (some 7) = 7 := by
        have := HT.sIx_nat d.ds.length d.ds.length 7
        rw [lf.dg.1] at this ⊢
        exact this
      unfold cutV
      rw [HT.sIx_none, List.length_map, e7, List.drop_zero, List.map_take]
    rw [ecut]
    have dg7 : Dig (d.ds.take 7) 7 := ⟨by rw [List.length_take, lf.dg.1]; rfl, fun x hx => lf.dg.2 x (List.mem_of_mem_take hx)⟩
    have s12 := same_upd (H := H11) (o := .lst ((d.ds.take 7).map V.int)) hsl
    refine ⟨sl, d.ds.take 7, 7, 6, 4, rfl, upd_same, dg7, by decide, by decide, by decide, by decide, fun t p _ _ p4 tl th H12 r s13 nr12 er => ?_⟩
    have s14 : Same H11 H12 := fun c x e => s13 _ _ (s12 _ _ e)
    refine ⟨by show 3 ≤ sizeLine; decide, fun p3 hp3 => ?_⟩
    have s15 := same_upd (H := H12) (o := .lst [V.ref r10, .ref r11, .ref r]) hp3
    have e15 : upd H12 p3 (.lst [V.ref r10, .ref r11, .ref r]) p3 = some (.lst [V.ref r10, .ref r11, .ref r]) := upd_same
    generalize upd H12 p3 (.lst [V.ref r10, .ref r11, .ref r]) = H13 at s15 e15 ⊢
    have s16 : Same H11 H13 := fun c x e => s15 _ _ (s14 _ _ e)
    have s17 : Same H8 H13 := fun c x e => s16 _ _ (s11 _ _ (s10 _ _ (s9 _ _ e)))
    refine ⟨p5, p3, _, _, rfl, rfl, s17 _ _ e8, e15, by show 5 + 3 ≤ sizeLine; decide, fun p8 hp8 => ?_⟩
    have s18 := same_upd (H := H13) (o := .lst ([V.ref (d.b k), .ref (d.a k), .ref t3, .ref r4, .ref r6] ++ [V.ref r10, .ref r11, .ref r])) hp8
    have sZ : Same H2 H13 := fun c x e => s17 _ _ (s28 _ _ e)
    have f4 : Same H4 H13 := fun c x e => s17 _ _ (s8 _ _ (s7 _ _ (s6 _ _ (s5 _ _ e))))
    have f5 : Same H5 H13 := fun c x e => s17 _ _ (s8 _ _ (s7 _ _ (s6 _ _ e)))
    have f7 : Same H7 H13 := fun c x e => s17 _ _ (s8 _ _ e)
    have f10 : Same H10 H13 := fun c x e => s16 _ _ (s11 _ _ e)
    have rb := redu_bd 6 p t tl th
    have rp := SG.redu_p p t
    have rpos : (0 : Int) < 2 ^ (redu t p).p := SG.pow_pos2 _
    have okr : OkX (redu t p) := ⟨by omega, by omega, by omega⟩
    have addX : ∀ {x y : Dy}, x.p ≤ 9 → -(16 * 2 ^ 64) ≤ sc x → sc x ≤ 16 * 2 ^ 64 → y.p ≤ 9 → -(2 ^ 64) ≤ sc y → sc y ≤ 2 ^ 64 → OkX (addD x y) := fun {x y} a1 a2 a3 b1 b2 b3 => by
      obtain ⟨_, c1, c2⟩ := addD_ok x y (by omega) (by omega)
      have := Nat.max_le.mpr ⟨a1, b1⟩
      exact okx_sc (by omega) (by omega) (by omega)
    refine ⟨p8, [(d.b k, d.u k), (d.a k, d.v k), (t3, ⟨hf.t, hf.p + 1⟩), (r4, addD (d.v k) ⟨1, q⟩), (r6, addD (d.u k) ⟨-1, q⟩), (r10, addD (d.v k) ⟨-1, q⟩), (r11, addD (d.u k) ⟨1, q⟩), (r, redu t p)], rfl, fun c x e => s18 _ _ (sZ _ _ e), same_none sZ hp8, upd_same, rfl, fun e he => ?_⟩
    have up : ∀ {x y}, H13 x = some y → upd H13 p8 (.lst ([V.ref (d.b k), .ref (d.a k), .ref t3, .ref r4, .ref r6] ++ [V.ref r10, .ref r11, .ref r])) x = some y := fun q => s18 _ _ q
    simp only [List.mem_cons, List.not_mem_nil, or_false] at he
    rcases he with rfl | rfl | rfl | rfl | rfl | rfl | rfl | rfl
    · exact ⟨up (sZ _ _ bk), okx_sc (by show (d.u k).p ≤ 10; omega) (by show _ ≤ sc (d.u k); omega) (by show sc (d.u k) ≤ _; omega)⟩
    · exact ⟨up (sZ _ _ ak), okx_sc (by show (d.v k).p ≤ 10; omega) (by show _ ≤ sc (d.v k); omega) (by show sc (d.v k) ≤ _; omega)⟩
    · exact ⟨up (f4 _ _ e3), okx_half hp9 (by omega) (by omega)⟩
    · exact ⟨up (f5 _ _ e4), addX pv9 lv uv np.1 np.2.2.1 np.2.2.2⟩
    · exact ⟨up (f7 _ _ e6), addX pu9 lu uu nm.1 nm.2.2.1 nm.2.2.2⟩
    · exact ⟨up (f10 _ _ e10), addX pv9 lv uv nm.1 nm.2.2.1 nm.2.2.2⟩
    · exact ⟨up (s16 _ _ e11), addX pu9 lu uu np.1 np.2.2.1 np.2.2.2⟩
    · exact ⟨up (s15 _ _ er), okr⟩
  · rintro σ' H9 ⟨pl, xs, rfl, s9, npl, epl, lxs, pxs⟩
    have h9 := h.same s9
    have ls9 := ls.keep (Same.g s9 L A)
    obtain ⟨nplL, nplA⟩ := h.fresh npl
    refine ⟨fun σ' H' => ∃ (S3 : Ls) (z17 : Option V), σ' = [y0, some (.ref L.st), y2, some (.ref d.gl), some (.ref d.dg), some (.ref A.yd), some (.ref A.sm), some (.ref A.vl), some (.ref o), some (.ref d.nl), some (.ref d.sl), some (.ref nr), some (.int (0 + (k : Int))), some (.ref (d.a k)), some (.ref (d.b k)), some (.ref ha), some (.ref pl), z17, z18, z19, z20, z21, none, none, none, none, none] ∧ LAt P w L S3 H' ∧ LKeep L H9 H' ∧ LExt S S3 ∧ S3.N + S3.cand.length ≤ S.N + S.cand.length + 160, ?_, ?_⟩
    · refine ⟨_, rfl, pl, rfl, ⟨_, SqL.of epl⟩, for_list (K := K) (a := pl) (xs := xs.map fun e => V.ref e.1) (fun m σ G' => ∃ (S3 : Ls) (z17 : Option V), σ = [y0, some (.ref L.st), y2, some (.ref d.gl), some (.ref d.dg), some (.ref A.yd), some (.ref A.sm), some (.ref A.vl), some (.ref o), some (.ref d.nl), some (.ref d.sl), some (.ref nr), some (.int (0 + (k : Int))), some (.ref (d.a k)), some (.ref (d.b k)), some (.ref ha), some (.ref pl), z17, z18, z19, z20, z21, none, none, none, none, none] ∧ LAt P w L S3 G' ∧ LKeep L H9 G' ∧ LExt S S3 ∧ S3.N + S3.cand.length ≤ S.N + S.cand.length + 20 * m)
        ⟨S, _, rfl, h9.la, LKeep.refl _ _, LExt.refl S, by omega⟩ (fun m σ G' _ ⟨_, _, _, _, c, _⟩ => SqL.of (c _ _ epl nplL)) ?_ ?_⟩
      · rintro m x σ G' hm ⟨S3, z17, rfl, l3, k3, x3, b3⟩
        rw [List.getElem?_map] at hm
        obtain ⟨e, he, rfl⟩ := Option.map_eq_some_iff.mp hm
        obtain ⟨ee, okx, oxl, oxh⟩ := pxs e (List.mem_of_getElem? he)
        have m8 : m < 8 := by have := (List.getElem?_eq_some_iff.mp he).1; omega
        have ls' := ls9.keep (k3.g A)
        obtain ⟨sk', ak', bk', ms⟩ := ls'.sk hk
        have eE := h9.la.tupK k3 _ _ ee
        refine ⟨_, rfl, _, rfl, d.a k, d.b k, d.v k, d.u k, rfl, ak', bk', by omega, by omega, nv, nu, _, rfl, ?_⟩
        rw [decide_eq_false (show ¬ sc (d.v k) < sc (d.u k) by omega)]
        refine iteF ⟨_, rfl, _, rfl, _, rfl, d.gl, _, (k : Int), nV (d.i k), rfl, ni k hk, SqL.of ls'.gl, at2 (fun k => nV (d.i k)) k hk, _, rfl, _, rfl, d.sl, _, (k : Int), .ref (d.s k), rfl, ni k hk, SqL.of ls'.sl, at2 (fun k => .ref (d.s k)) k hk, _, rfl, L, S3, d.i k, d.s k, e.1, d.a k, d.b k, d.v k, d.u k, e.2, rfl, l3, lf.inn.ext x3, x3.lt ik, by rw [x3.g ik]; exact tk, sk', (ls'.n _ ms).1, ak', bk', eE, by omega, oxl, oxh, by omega, by omega, nv, nu, by rw [x3.g ik]; exact sv, by rw [x3.g ik]; exact su, by omega, fun S4 H4 l4 k4 x4 b4 => ?_⟩
        exact ⟨true, rfl, iteF ⟨S4, _, rfl, l4, k3.trans k4, x3.trans x4, by omega⟩⟩
      · rintro σ G' ⟨S3, z17, rfl, l3, k3, x3, b3⟩
        rw [List.length_map, lxs] at b3
        exact ⟨S3, _, rfl, l3, k3, x3, b3⟩
    · rintro σ' H10 ⟨S3, z17, rfl, l10, k10, x10, b10⟩
      have ls10 := ls9.keep (k10.g A)
      obtain ⟨g, eg⟩ : ∃ g, g = S.g (d.i k) := ⟨_, rfl⟩
      obtain ⟨hg, ehg⟩ : ∃ hg, SG.ht g = hg := ⟨_, rfl⟩
      have gS : ∀ {S' : Ls}, LExt S S' → S'.g (d.i k) = g := fun x => by rw [x.g ik, eg]
      have h9g : hg ≤ 9 := by rw [← ehg, eg]; exact tk
      obtain ⟨e, he⟩ : ∃ e, e = sc (redu 1 (hg + 1)) := ⟨_, rfl⟩
      obtain ⟨e', he'⟩ : ∃ e', e' = sc (redu (-1) (hg + 1)) := ⟨_, rfl⟩
      have e1 : e = 2 ^ (64 - (hg + 1)) := by rw [he, SG.redu_sc _ _ (by omega), Int.mul_one]
      have e2 : e' = -e := by rw [he', e1, SG.redu_sc _ _ (by omega), Int.mul_neg, Int.mul_one]
      have sml := SG.small_iff (g := g) ehg (by omega) e1 e2
      refine ⟨_, rfl, L.st, .ref L.he, rfl, DGet.k (k := Sum.inr "heights") l10.st, _, rfl, _, rfl, d.gl, _, (k : Int), nV (d.i k), rfl, ni k hk, SqL.of ls10.gl, at2 (fun k => nV (d.i k)) k hk, L.he, _, ((d.i k : Nat) : Int), nV hg, rfl, rfl, SqL.of l10.he, atI_nat ?_, _, _, rfl, rfl, ?_⟩
      · unfold hhL
        rw [List.getElem?_map, List.getElem?_range (x10.lt ik)]
        show some (nV (SG.ht (S3.g (d.i k)))) = some (nV hg)
        rw [gS x10, ehg]
      obtain ⟨Sa1, la1, kn1, ba1, ht1, xa1, ea1⟩ := lnum_pre (p := hg + 1) (t := 1) (M := 34) l10 (by decide) (lf.inn.ext x10) (by omega) (by have := SG.pow_pos2 (hg + 1); omega) (by have := SG.pow_pos2 (hg + 1); omega) (by omega)
      refine ⟨_, rfl, _, rfl, _, rfl, d.gl, _, (k : Int), nV (d.i k), rfl, ni k hk, SqL.of ls10.gl, at2 (fun k => nV (d.i k)) k hk, _, rfl, _, rfl, L, Sa1, 1, hg + 1, rfl, by omega, la1, kn1, ba1, ht1, fun S1 H1 f1 l1 k1 x1 b1 _ lt1 g1 => ?_⟩
      have ex1 := x10.trans (xa1.trans x1)
      rw [← he] at g1 ht1
      refine ⟨L, S1, d.i k, f1, rfl, l1, ex1.lt ik, lt1, by rw [gS ex1, g1]; omega, fun ov1 G1 m1 c1 => ?_⟩
      have ab1 : (leB (S1.g f1) (S1.g (d.i k)) = true ↔ Le (form 64 e) g) := by rw [g1, gS ex1]; exact leB_iff
      have K1 := k10.trans (k1.trans c1)
      have ls11 := ls9.keep (K1.g A)
      have w1 := ex1.trans (ov_ext S1 ov1)
      have v1 : (withOv S1 ov1).N + (withOv S1 ov1).cand.length ≤ S.N + S.cand.length + 180 := by show S1.N + S1.cand.length ≤ _; omega
      obtain ⟨Sa2, la2, kn2, ba2, ht2, xa2, ea2⟩ := lnum_pre (p := hg + 1) (t := (-1)) (M := 34) m1 (by decide) (lf.inn.ext w1) (by omega) (by have := SG.pow_pos2 (hg + 1); omega) (by have := SG.pow_pos2 (hg + 1); omega) (by omega)
      refine ⟨_, rfl, _, rfl, _, rfl, _, rfl, L, Sa2, (-1), hg + 1, rfl, by omega, la2, kn2, ba2, ht2, fun S2 H2 f2 l2 k2 x2 b2 _ lt2 g2 => ?_⟩
      have ls11' := ls11.keep (k2.g A)
      have ex2 := w1.trans (xa2.trans x2)
      rw [← he'] at g2 ht2
      refine ⟨_, rfl, _, rfl, d.gl, _, (k : Int), nV (d.i k), rfl, ni k hk, SqL.of ls11'.gl, at2 (fun k => nV (d.i k)) k hk, L, S2, f2, d.i k, rfl, l2, lt2, ex2.lt ik, by rw [gS ex2, g2]; omega, fun ov2 G2 m2 c2 => ?_⟩
      have be1 : (leB (S2.g (d.i k)) (S2.g f2) = true ↔ Le g (form 64 e')) := by rw [g2, gS ex2]; exact leB_iff
      have K2 := K1.trans (k2.trans c2)
      have ls12 := ls9.keep (K2.g A)
      have w2 := ex2.trans (ov_ext S2 ov2)
      have v2 : (withOv S2 ov2).N + (withOv S2 ov2).cand.length ≤ S.N + S.cand.length + 200 := by show S2.N + S2.cand.length ≤ _; omega
      obtain ⟨ab, eab⟩ : ∃ ab, leB (S1.g f1) (S1.g (d.i k)) = ab := ⟨_, rfl⟩
      obtain ⟨be, ebe⟩ : ∃ be, leB (S2.g (d.i k)) (S2.g f2) = be := ⟨_, rfl⟩
      rw [eab] at ab1 ⊢
      rw [ebe] at be1 ⊢
      -- due
      refine ⟨fun σ' H' => ∃ (S7 : Ls) (b : Bool), σ' = [y0, some (.ref L.st), y2, some (.ref d.gl), some (.ref d.dg), some (.ref A.yd), some (.ref A.sm), some (.ref A.vl), some (.ref o), some (.ref d.nl), some (.ref d.sl), some (.ref nr), some (.int (0 + (k : Int))), some (.ref (d.a k)), some (.ref (d.b k)), some (.ref ha), some (.ref pl), z17, some (.int ((hg : Int) + 1)), some (.bl ab), some (.bl be), some (.bl b), none, none, none, none, none] ∧ LAt P w L S7 H' ∧ LKeep L H9 H' ∧ LExt S S7 ∧ S7.N + S7.cand.length ≤ S.N + S.cand.length + 220 ∧ (b = true ↔ Le g (form 64 e) ∧ ¬ Le (form 64 e) g), ?_, ?_⟩
      · skip
        obtain ⟨Sa3, la3, kn3, ba3, ht3, xa3, ea3⟩ := lnum_pre (p := hg + 1) (t := 1) (M := 34) m2 (by decide) (lf.inn.ext w2) (by omega) (by have := SG.pow_pos2 (hg + 1); omega) (by have := SG.pow_pos2 (hg + 1); omega) (by omega)
        refine ⟨_, rfl, _, rfl, _, rfl, L, Sa3, 1, hg + 1, rfl, by omega, la3, kn3, ba3, ht3, fun S3 H3 f3 l3 k3 x3 b3 _ lt3 g3 => ?_⟩
        have ls13 := ls12.keep (k3.g A)
        have ex3 := w2.trans (xa3.trans x3)
        rw [← he] at g3 ht3
        refine ⟨_, rfl, _, rfl, d.gl, _, (k : Int), nV (d.i k), rfl, ni k hk, SqL.of ls13.gl, at2 (fun k => nV (d.i k)) k hk, L, S3, f3, d.i k, rfl, l3, lt3, ex3.lt ik, by rw [gS ex3, g3]; omega, fun ov3 G3 m3 c3 => ?_⟩
        have du : (leB (S3.g (d.i k)) (S3.g f3) = true ↔ Le g (form 64 e)) := by rw [g3, gS ex3]; exact leB_iff
        have K3 := K2.trans (k3.trans c3)
        have w3 := ex3.trans (ov_ext S3 ov3)
        have v3 : (withOv S3 ov3).N + (withOv S3 ov3).cand.length ≤ S.N + S.cand.length + 220 := by show S3.N + S3.cand.length ≤ _; omega
        refine ⟨_, rfl, ?_⟩
        obtain ⟨bb, ebb⟩ : ∃ bb, leB (S3.g (d.i k)) (S3.g f3) = bb := ⟨_, rfl⟩
        rw [ebb] at du ⊢
        cases bb with
        | false => exact iteF ⟨withOv S3 ov3, false, rfl, m3, K3, w3, v3, ⟨fun z => absurd z (by decide), fun z => absurd (du.mpr z.1) (by decide)⟩⟩
        | true =>
          refine iteT ⟨_, rfl, ab, rfl, withOv S3 ov3, !ab, rfl, m3, K3, w3, v3, ?_⟩
          rw [← ab1]
          cases ab
          · exact ⟨fun _ => ⟨du.mp rfl, by decide⟩, fun _ => rfl⟩
          · exact ⟨fun z => absurd z (by decide), fun z => absurd rfl z.2⟩
      · rintro σ' H11 ⟨S7, b, rfl, l7, k7, x7, b7, ib⟩
        have ls14 := ls9.keep (k7.g A)
        refine ⟨fun σ' H' => ∃ (S7 : Ls) (b : Bool), σ' = [y0, some (.ref L.st), y2, some (.ref d.gl), some (.ref d.dg), some (.ref A.yd), some (.ref A.sm), some (.ref A.vl), some (.ref o), some (.ref d.nl), some (.ref d.sl), some (.ref nr), some (.int (0 + (k : Int))), some (.ref (d.a k)), some (.ref (d.b k)), some (.ref ha), some (.ref pl), z17, some (.int ((hg : Int) + 1)), some (.bl ab), some (.bl be), some (.bl b), none, none, none, none, none] ∧ LAt P w L S7 H' ∧ LKeep L H9 H' ∧ LExt S S7 ∧ S7.N + S7.cand.length ≤ S.N + S.cand.length + 240 ∧ (b = true ↔ (Le g (form 64 e) ∧ ¬ Le (form 64 e) g ∧ Le (form 64 e') g ∧ ¬ Le g (form 64 e'))), ?_, ?_⟩
        · refine ⟨_, rfl, b, rfl, ?_⟩
          cases b with
          | false => exact iteF ⟨S7, false, rfl, l7, k7, x7, by omega, ⟨fun z => absurd z (by decide), fun z => absurd (ib.mpr ⟨z.1, z.2.1⟩) (by decide)⟩⟩
          | true =>
            refine iteT ?_
            obtain ⟨Sa4, la4, kn4, ba4, ht4, xa4, ea4⟩ := lnum_pre (p := hg + 1) (t := (-1)) (M := 34) l7 (by decide) (lf.inn.ext x7) (by omega) (by have := SG.pow_pos2 (hg + 1); omega) (by have := SG.pow_pos2 (hg + 1); omega) (by omega)
            refine ⟨_, rfl, _, rfl, _, rfl, d.gl, _, (k : Int), nV (d.i k), rfl, ni k hk, SqL.of ls14.gl, at2 (fun k => nV (d.i k)) k hk, _, rfl, _, rfl, _, rfl, L, Sa4, (-1), hg + 1, rfl, by omega, la4, kn4, ba4, ht4, fun S4 H4 f4 l4 k4 x4 b4 _ lt4 g4 => ?_⟩
            have ex4 := x7.trans (xa4.trans x4)
            rw [← he'] at g4 ht4
            refine ⟨L, S4, d.i k, f4, rfl, l4, ex4.lt ik, lt4, by rw [gS ex4, g4]; omega, fun ov4 G4 m4 c4 => ?_⟩
            have du : (leB (S4.g f4) (S4.g (d.i k)) = true ↔ Le (form 64 e') g) := by rw [g4, gS ex4]; exact leB_iff
            have K4 := k7.trans (k4.trans c4)
            have w4 := ex4.trans (ov_ext S4 ov4)
            have v4 : (withOv S4 ov4).N + (withOv S4 ov4).cand.length ≤ S.N + S.cand.length + 240 := by show S4.N + S4.cand.length ≤ _; omega
            obtain ⟨i1, i2⟩ := ib.mp rfl
            refine ⟨_, rfl, ?_⟩
            obtain ⟨bb, ebb⟩ : ∃ bb, leB (S4.g f4) (S4.g (d.i k)) = bb := ⟨_, rfl⟩
            rw [ebb] at du ⊢
            cases bb with
            | false => exact iteF ⟨withOv S4 ov4, false, rfl, m4, K4, w4, v4, ⟨fun z => absurd z (by decide), fun z => absurd (du.mpr z.2.2.1) (by decide)⟩⟩
            | true =>
              refine iteT ⟨_, rfl, be, rfl, withOv S4 ov4, !be, rfl, m4, K4, w4, v4, ?_⟩
              rw [← be1]
              cases be
              · exact ⟨fun _ => ⟨i1, i2, du.mp rfl, by decide⟩, fun _ => rfl⟩
              · exact ⟨fun z => absurd z (by decide), fun z => absurd rfl z.2.2.2⟩
        · rintro σ' H12 ⟨S8, b, rfl, l8, k8, x8, b8, ib8⟩
          have h12 := h9.lk l8 k8
          have ls15 := ls9.keep (k8.g A)
          have lf8 := lf.lk x8
          have g8 := SG.isSum_ht_eq qk
          obtain ⟨pc, hpc, cc⟩ := lf.cv k hk
          have lab : Lab U G (d.f k) := ⟨pc, hpc, by
            show IsSum (G.g (d.f k)) pc.1.2 pc.2.2
            rcases cc with ⟨c1, c2⟩ | ⟨c1, c2⟩
            · rw [c1, c2]; exact qk
            · rw [c1, c2]; exact SG.isSum_symm qk⟩
          refine ⟨_, rfl, A.vl, A.vx, _, rfl, h12.ya.lay.vl, rfl, _, rfl, _, rfl, d.nl, _, (k : Int), nV (d.f k), rfl, ni k hk, SqL.of ls15.nl, at2 (fun k => nV (d.f k)) k hk, A, U, G, d.f k, rfl, h12.ya, lf.ok, fk, by omega, lab, lf.op, fun G' H13 h13 k13 x13 sl13 => ?_⟩
          have e0 : ∀ s, stop 64 s (G.g (d.f k)) = stop 64 s g := fun s => by rw [eg]; exact SG.stop_sum qk (by omega) s
          have ebo : (decide (stop 64 true (G.g (d.f k)) = 0) && decide (stop 64 false (G.g (d.f k)) = 0)) = b := by
            rw [e0, e0, Bool.eq_iff_iff, ib8, ← sml, Bool.and_eq_true, decide_eq_true_iff, decide_eq_true_iff]
          rw [ebo]
          refine ⟨_, rfl, b, b, rfl, _, rfl, ?_⟩
          rw [decide_eq_true rfl]
          exact iteF ⟨S8, G', _, _, _, _, _, _, _, _, _, _, rfl, h12.yk h13 k13, ls15.keep (k13.g L), lf8.yk x13, k13 _ _ (k8 _ _ (s9 _ _ enr) nnr.1) nnr.2, by omega⟩
end
end K45
end
section
set_option Elab.async false
set_option linter.all false
set_option maxRecDepth 100000
set_option maxHeartbeats 8000000
namespace K45
open PySem PySem.Spec PyProof.Rows L2
open SG (gv lf rt optI Nd Dy sc form Le WfY redu Plain Gs Un UnOk Wf Ext Ex0 OKp OKr IsP IsSum Pu opt stop)
/-! ### the law's first part: games, their yard, their stops -/
def G0 (U : Un) : Gs := ⟨ns0, [], [], [], [], [], [], 0, U.all, U.all⟩
theorem wf0 {U : Un} (ok : UnOk U) : Wf U (G0 U) := by
  refine ⟨wfy0, (fun _ _ _ h => by cases h), .nil, (fun _ _ h => by cases h), .nil, (fun _ _ _ h => by cases h), .nil, (fun _ _ h => by cases h), .nil, (fun _ _ h => by cases h), .nil, (fun _ _ _ h => by cases h), .nil, ?_⟩
  have a := ok.len
  have b := ok.cost
  show 1 + 0 + U.all.length + (U.all.map SG.cost).sum ≤ 19000
  omega
def spLaw (K : PySem.W.Frag) : Sp := fun vs H Q _ => ∃ (a : Addr) (ns : List Int), vs = [.ref a] ∧ SqL K H a (ns.map V.int) ∧ ∀ H', Q (.bl true) H'
theorem sq_scr {K : PySem.W.Frag} {A : La} {pl : Addr} {H H' : Hp} {a : Addr} {ns : List Int} (h : SqL K H a (ns.map V.int)) (s : Same H H') (f : ∀ x ∈ A.mut, H x = none) (p : H pl = none) : Scr K A pl H' a ns := by
  have ne : ∀ x, H a = some x → a ∉ A.mut ∧ a ≠ pl := fun x e => ⟨(fun m => by rw [f a m] at e; cases e), (fun q => by rw [q, p] at e; cases e)⟩
  rcases h with (h | ⟨o, h⟩) | h
  · exact .inr ⟨.inl (s _ _ h), ne _ h⟩
  · exact .inr ⟨.inr ⟨o, s _ _ h⟩, ne _ h⟩
  · exact .inl fun H' => .inr h
/-- what no later step touches -/
theorem lk_same {A : La} {H H' H'' : Hp} (f : ∀ x ∈ A.mut, H x = none) (s : Same H H') (k : LKeep A H' H'') : Same H H'' := fun c o e => k _ _ (s _ _ e) fun m => by rw [f c m] at e; cases e
theorem lkx_same {A : La} {pl : Addr} {H H' H'' : Hp} (f : ∀ x ∈ A.mut, H x = none) (p : H pl = none) (s : Same H H') (k : LKeepX A pl H' H'') : Same H H'' := fun c o e => k _ _ (s _ _ e) (fun m => by rw [f c m] at e; cases e) fun q => by rw [q, p] at e; cases e
theorem seeds_in {S : Ls} {v1 v2 : Dy} {vs : List Dy} (h1 : Sm2 v1) (h2 : Sm2 v2) (m1 : v1 ∈ vs) (m2 : v2 ∈ vs) : ∀ {ws : List Dy} {is : List Nat}, (∀ u ∈ ws, u = ⟨0, 0⟩ ∨ u = ⟨1, 0⟩ ∨ u = ⟨-1, 0⟩ ∨ u = v1 ∨ u = v2) → NumL S ws is → ∀ x ∈ is, S.g x ∈ nums vs
  | _, _, _, .nil, _, hx => by cases hx
  | u :: ws, i :: is, hw, .cons q t, x, hx => by
    rcases List.mem_cons.mp hx with rfl | hx
    · rw [q.2]
      rcases hw u (List.mem_cons_self ..) with rfl | rfl | rfl | rfl | rfl
      · exact int_mem vs (i := 0) (by decide) (by decide)
      · exact int_mem vs (i := 1) (by decide) (by decide)
      · exact int_mem vs (i := -1) (by decide) (by decide)
      · exact seed_mem h1 m1
      · exact seed_mem h2 m2
    · exact seeds_in h1 h2 m1 m2 (fun u hu => hw u (List.mem_cons_of_mem _ hu)) t x hx
theorem numl_lt {S : Ls} : ∀ {ws : List Dy} {is : List Nat}, NumL S ws is → ∀ x ∈ is, x < S.N
  | _, _, .nil, _, hx => by cases hx
  | _, _, .cons q t, x, hx => by
    rcases List.mem_cons.mp hx with rfl | hx
    · exact q.1
    · exact numl_lt t x hx
theorem last_of {α : Type} {l : List α} (h : l ≠ []) : ∃ m x, l = m ++ [x] := let ⟨m, x, e⟩ := (List.eq_nil_or_concat l).resolve_left h
  ⟨m, x, by rw [e, List.concat_eq_append]⟩
theorem mk_same {H H' : Hp} {x dx : Addr} {o1 o2 : HO} (nx : H x = none) (ndx : H dx = none) (r : Rest x (upd (upd H dx o1) x o2) H') : Same H H' := fun b o hb => by
  have nb : b ≠ x := ne_of_none hb nx
  exact r b o (by rw [upd_ne nb, upd_ne (ne_of_none hb ndx)]; exact hb) nb
theorem at_init {P : Program} {w : World} {K : PySem.W.Frag} {U : Un} (ok : UnOk U) {H5 H : Hp} {yd yx YL YR YH YN YT od ox al cw fm fx si sm sx pl vl vx nu md st : Addr}
    (eyd : H yd = some (.ins (cY K) yx [("_lefts", .ref YL), ("_rights", .ref YR), ("_heights", .ref YH), ("_numbers", .ref YN), ("_turned", .ref YT)]))
    (eod : H od = some (.ins (He.ga K "Order") ox [("_yard", .ref yd), ("_at_least", .ref al), ("_can_win", .ref cw)])) (efm : H fm = some (.ins (He.ga K "Forms") fx [("order", .ref od), ("_simplest", .ref si)]))
    (esm : H sm = some (.ins (He.ga K "Sums") sx [("_forms", .ref fm), ("_plus", .ref pl)])) (evl : H vl = some (.ins (He.ga K "Values") vx [("sums", .ref sm), ("_numbers", .ref nu), ("_made", .ref md), ("_stops", .ref st)]))
    (rL : Rows H YL ns0 true) (rR : Rows H YR ns0 false) (eYH : H YH = some (.lst (hhL ns0))) (eYN : NDict P w H YN (nmK ns0))
    (eal : H al = some (.dT [])) (esi : H si = some (.dK [])) (epl : H pl = some (.dT [])) (enu : H nu = some (.dK [])) (emd : H md = some (.dT [])) (est : H st = some (.dT []))
    (d1 : YL ≠ YR) (d2 : YL ≠ YH) (d3 : YR ≠ YH) (d4 : al ≠ pl) (d5 : al ≠ md) (d6 : al ≠ st) (d7 : pl ≠ md) (d8 : pl ≠ st) (d9 : md ≠ st) (d10 : si ≠ nu)
    (f : ∀ c ∈ [YL, YR, YH, YN, al, si, pl, nu, md, st], H5 c = none) : ∃ A : Ad, A.yd = yd ∧ A.sm = sm ∧ A.vl = vl ∧ At P w K A U (G0 U) H ∧ ∀ c ∈ A.mut, H5 c = none :=
  ⟨⟨yd, yx, YL, YR, YH, YN, YT, od, ox, al, cw, fm, fx, si, sm, sx, pl, vl, vx, nu, md, st⟩, rfl, rfl, rfl, ⟨⟨eyd, eod, efm, esm, evl⟩, ⟨rL, rR, eYH, eYN⟩, ⟨eal, esi, epl, enu, emd, est, (fun _ _ h => by cases h), (fun _ _ h => by cases h)⟩, ⟨d1, d2, d3, d4, d5, d6, d7, d8, d9, d10⟩, wf0 ok⟩, f⟩
section
variable {P : Program} {w : World} {K : PySem.W.Frag} {mg : Str → Option Value} {base : Heap} (T : Tx K mg)
include T
theorem law_body : Body P w K mg base lawN "law" s_law (He.ga K "law") 191 (spLaw K) := by
  intro cdv A0 outer s H vs Q E hr h
  obtain ⟨a, ns, rfl, hs, hQ⟩ := h
  obtain ⟨tB, psB, rdB⟩ := partB T (P := P) (w := w) (base := base) (outer := outer) (H0 := H) (E := E) hr hQ
  refine ⟨_, pss_cons (ps_set (i := 1) sc_lw.nd rfl (.inr rfl) (pe_c0 (k_lstore T) hr (by decide) (by rfl)))
    (pss_cons (ps_set (i := 2) sc_lw.nd rfl (.inl rfl) (C8.pe_c (k_lseeds T) hr (by decide) (by rfl) (pa_cons (pv 1) (pa_cons (C8.pe_c (k_cell T) hr (by decide) (by rfl) (pa_cons (pv 0) (pa_cons pe_int pa_nil))) pa_nil))))
    (pss_cons (ps_set (i := 3) sc_lw.nd rfl (.inl rfl) (pe_lst (pa_cons (pe_ix ix_list (C8.pe_c (k_lpool T) hr (by decide) (by rfl) (pa_cons (pv 1) (pa_cons (pe_callTy call_list_of (by rfl) (t_fr_list T) (by decide +kernel) (pa_cons (pv 2) pa_nil)) (pa_cons (pv 0) (pa_cons pe_int (pa_cons (pe_op op_add pe_int (pe_op op_mod (pe_callTy call_int1 (by rfl) (t_fr_int T) (by decide +kernel) (pa_cons (C8.pe_c (k_cell T) hr (by decide) (by rfl) (pa_cons (pv 0) (pa_cons pe_int pa_nil))) pa_nil)) pe_int)) pa_nil)))))) (pe_un un_neg pe_int) (fun _ _ => rfl)) pa_nil)))
    (pss_cons (ps_expr (pe_bm PySem.F.plainAttrs_list PySem.F.slot_list_append PySem.F.type_list_append mt_append (pv 3) (pa_cons (pe_ix ix_list (C8.pe_c (k_lpool T) hr (by decide) (by rfl) (pa_cons (pv 1) (pa_cons (pe_callTy call_list_of (by rfl) (t_fr_list T) (by decide +kernel) (pa_cons (pv 2) pa_nil)) (pa_cons (pv 0) (pa_cons pe_int (pa_cons (pe_op op_add pe_int (pe_op op_mod (pe_callTy call_int1 (by rfl) (t_fr_int T) (by decide +kernel) (pa_cons (C8.pe_c (k_cell T) hr (by decide) (by rfl) (pa_cons (pv 0) (pa_cons pe_int pa_nil))) pa_nil)) pe_int)) pa_nil)))))) (pe_un un_neg pe_int) (fun _ _ => rfl)) pa_nil)))
    (pss_cons (ps_set (i := 4) sc_lw.nd rfl (.inl rfl) (C8.pe_c (k_digits T) hr (by decide) (by rfl) (pa_cons (C8.pe_c (k_cell T) hr (by decide) (by rfl) (pa_cons (pv 0) (pa_cons pe_int pa_nil))) (pa_cons pe_int pa_nil))))
    (pss_cons (ps_set (i := 5) sc_lw.nd rfl (.inr rfl) (pe_mk0 (mk_Yard T) hr (by decide) (by rfl)))
    (pss_cons (ps_set (i := 6) sc_lw.nd rfl (.inl rfl) (C8.pe_mk (mk_Sums T) hr (by decide) (by rfl) (pa_cons (C8.pe_mk (mk_Forms T) hr (by decide) (by rfl) (pa_cons (C8.pe_mk (mk_Order T) hr (by decide) (by rfl) (pa_cons (pv 5) pa_nil)) pa_nil)) pa_nil)))
    (pss_cons (ps_set (i := 7) sc_lw.nd rfl (.inr rfl) (C8.pe_mk (mk_Values T) hr (by decide) (by rfl) (pa_cons (pv 6) pa_nil)))
    (pss_cons (ps_set (i := 8) sc_lw.nd rfl (.inr rfl) pe_dnewK)
    (pss_cons (ps_setLc (i := 9) (own := [("_law_game", 25)]) (g := gName 25) (tt := tYes) rfl sc_lw.nd rfl rfl (sw_true rfl rfl rfl (by decide +kernel)) (pi_list (pv 3))
        (blkOk_by (N := lawN) (sc := defScope s_law) (by decide +kernel)) (fun _ _ _ _ _ => pg_name (i := 25) sc_lw.nd rfl (Or.inl rfl)) (fun _ _ _ _ _ => pts_nil) (fun _ _ _ _ _ => C8.pe_c (k_lout T (P := P) (w := w) (base := base) 10) hr (by decide) (by rfl) (pa_cons (pv 1) (pa_cons (pv 8) (pa_cons (pv 5) (pa_cons (pv 25) pa_nil))))))
    (pss_cons (ps_setLc (i := 10) (own := [("_law_number_here", 26)]) (g := gName 26) (tt := tYes) rfl sc_lw.nd rfl rfl (sw_true rfl rfl rfl (by decide +kernel)) (pi_list (pv 9))
        (blkOk_by (N := lawN) (sc := defScope s_law) (by decide +kernel)) (fun _ _ _ _ _ => pg_name (i := 26) sc_lw.nd rfl (Or.inl rfl)) (fun _ _ _ _ _ => pts_nil) (fun _ _ _ _ _ => C8.pe_c (k_ltold T (P := P) (w := w) (base := base)) hr (by decide) (by rfl) (pa_cons (pv 7) (pa_cons (pv 26) pa_nil)))) psB)))))))))), ?_⟩
  -- the store
  refine ⟨rfl, fun L H1 s1 fr st0 l0 => ?_⟩
  obtain ⟨w1, hin⟩ := ints_wf (M := 34) l0.wf (by decide) (by decide)
  have l1 := l0.wc w1
  have b1 : (withC S00 (intL 34)).N + (withC S00 (intL 34)).cand.length = 70 := rfl
  generalize withC S00 (intL 34) = S1 at w1 hin l1 b1
  -- the seeds
  refine ⟨_, rfl, _, rfl, a, ns, 2, rfl, Same.seq s1 hs, by decide, fun z2 => ⟨L, S1, z2, rfl, l1, hin, by omega, fun S2 H2 sd v1 v2 is l2 k2 x2 b2 sd0 esd m1 m2 nl2 => ?_⟩⟩
  have s2 : Same H H2 := lk_same fr s1 k2
  have nsd := l1.fresh sd0
  have hsd : H sd = none := same_none s1 sd0
  have m1 := m1.sm2
  have m2 := m2.sm2
  have lis : is.length = 5 := (Paired.length nl2).symm
  have hin2 := hin.ext x2
  -- the first game
  refine ⟨_, rfl, _, rfl, sd, _, rfl, .inl (SqL.of esd), fun p1 hp1 => ?_⟩
  have hp1H : H p1 = none := same_none s2 hp1
  obtain ⟨lq1, _⟩ := l2.new hp1 (.lst (is.map nV))
  have ep1 : upd H2 p1 (.lst (is.map nV)) p1 = some (.lst (is.map nV)) := upd_same
  have np1 := l2.fresh hp1
  have sq1 := same_upd (H := H2) (o := .lst (is.map nV)) hp1
  have sdp1 : sd ≠ p1 := ne_of_none esd hp1
  generalize upd H2 p1 (.lst (is.map nV)) = Hq1 at lq1 ep1 sq1 ⊢
  have st1 : Same H Hq1 := fun c x e => sq1 _ _ (s2 _ _ e)
  refine ⟨_, rfl, _, rfl, a, ns, 0, rfl, Same.seq st1 hs, by decide, fun z0 => .inl ⟨_, rfl, _, _, rfl, rfl, by show (0 : Int) < 4; decide, _, _, rfl, rfl, ?_⟩⟩
  obtain ⟨n1, en1⟩ : ∃ n1 : Nat, 1 + z0 % 4 = (n1 : Int) := ⟨(1 + z0 % 4).toNat, by omega⟩
  refine ⟨L, S2, p1, a, is, ns, 3, n1, (by show [V.ref L.st, V.ref p1, V.ref a, V.int 3, V.int (1 + z0 % 4)] = _; rw [en1]; rfl), lq1, sq_scr hs st1 fr hp1H, ep1, np1, by omega, by omega, numl_lt nl2, by decide, by omega, by omega, fun S3 H3 more1 l3 k3 x3 b3 e3 lm1 gr1 => ?_⟩
  obtain ⟨ini1, g1, em1⟩ := last_of (l := more1) (fun q => by rw [q, List.length_nil] at lm1; omega)
  refine ⟨_, rfl, p1, _, -1, nV g1, rfl, rfl, SqL.of e3, (by rw [em1, ← List.append_assoc, List.map_append]; exact atI_last _ _), by show 1 ≤ sizeLine; decide, fun gl hgl => ?_⟩
  have s3 : Same H H3 := lkx_same fr hp1H st1 k3
  have esd3 := k3 _ _ (sq1 _ _ esd) nsd sdp1
  have hglH : H gl = none := same_none s3 hgl
  obtain ⟨l3b, _⟩ := l3.new hgl (.lst [nV g1])
  have ngl := l3.fresh hgl
  have s3b := same_upd (H := H3) (o := .lst [nV g1]) hgl
  have egl : upd H3 gl (.lst [nV g1]) gl = some (.lst [nV g1]) := upd_same
  have esd3 := s3b _ _ esd3
  generalize upd H3 gl (.lst [nV g1]) = H3b at l3b s3b egl esd3 ⊢
  have s3c : Same H H3b := fun c x e => s3b _ _ (s3 _ _ e)
  -- the second game
  refine ⟨_, rfl, .inl ⟨rfl, _, SqL.of egl⟩, _, rfl, _, rfl, sd, _, rfl, .inl (SqL.of esd3), fun p2 hp2 => ?_⟩
  have glp2 : gl ≠ p2 := ne_of_none egl hp2
  have hp2H : H p2 = none := same_none s3c hp2
  obtain ⟨lq2, _⟩ := l3b.new hp2 (.lst (is.map nV))
  have ep2 : upd H3b p2 (.lst (is.map nV)) p2 = some (.lst (is.map nV)) := upd_same
  have np2 := l3b.fresh hp2
  have sq2 := same_upd (H := H3b) (o := .lst (is.map nV)) hp2
  have sdp2 : sd ≠ p2 := ne_of_none esd3 hp2
  generalize upd H3b p2 (.lst (is.map nV)) = Hq2 at lq2 ep2 sq2 ⊢
  have st2 : Same H Hq2 := fun c x e => sq2 _ _ (s3c _ _ e)
  refine ⟨_, rfl, _, rfl, a, ns, 1, rfl, Same.seq st2 hs, by decide, fun z1 => .inl ⟨_, rfl, _, _, rfl, rfl, by show (0 : Int) < 2; decide, _, _, rfl, rfl, ?_⟩⟩
  obtain ⟨n2, en2⟩ : ∃ n2 : Nat, 1 + z1 % 2 = (n2 : Int) := ⟨(1 + z1 % 2).toNat, by omega⟩
  refine ⟨L, S3, p2, a, is, ns, 7, n2, (by show [V.ref L.st, V.ref p2, V.ref a, V.int 7, V.int (1 + z1 % 2)] = _; rw [en2]; rfl), lq2, sq_scr hs st2 fr hp2H, ep2, np2, by omega, by omega, numl_lt (nl2.ext x3), by decide, by omega, by omega, fun S4 H4 more2 l4 k4 x4 b4 e4 lm2 gr2 => ?_⟩
  obtain ⟨ini2, g2, em2⟩ := last_of (l := more2) (fun q => by rw [q, List.length_nil] at lm2; omega)
  have egl4 := k4 _ _ (sq2 _ _ egl) ngl glp2
  refine ⟨_, rfl, p2, _, -1, nV g2, rfl, rfl, SqL.of e4, (by rw [em2, ← List.append_assoc, List.map_append]; exact atI_last _ _), gl, _, _, rfl, rfl, egl4, by show 1 < sizeLine; decide, ?_⟩
  have s4 : Same H H4 := lkx_same fr hp2H st2 k4
  have l4b := l4.lst' egl4 ngl ([nV g1] ++ [nV g2])
  have egl5 : upd H4 gl (.lst ([nV g1] ++ [nV g2])) gl = some (.lst [nV g1, nV g2]) := upd_same
  have s4b : Same H (upd H4 gl (.lst ([nV g1] ++ [nV g2]))) := fun c x e => (upd_ne (ne_of_none e hglH)).trans (s4 _ _ e)
  generalize upd H4 gl (.lst ([nV g1] ++ [nV g2])) = H4b at l4b egl5 s4b ⊢
  -- the digits
  refine ⟨_, rfl, a, ns, 9, rfl, Same.seq s4b hs, by decide, fun z9 => ⟨z9, 14, rfl, by decide, fun ds dg hd hdg => ?_⟩⟩
  obtain ⟨l5, _⟩ := l4b.new hdg (.lst (ds.map V.int))
  have ndg := l4b.fresh hdg
  have edg : upd H4b dg (.lst (ds.map V.int)) dg = some (.lst (ds.map V.int)) := upd_same
  have s5 := same_upd (H := H4b) (o := .lst (ds.map V.int)) hdg
  have egl5 := s5 _ _ egl5
  generalize upd H4b dg (.lst (ds.map V.int)) = H5 at l5 edg s5 egl5 ⊢
  -- the yard and what knows it
  intro yd yx nyd nyx neyd
  refine ⟨yd, yx, rfl, upd_same, fun H6 YL YR YH YN YT fL fR fH fN dLR dLH dRH rL rR eYH eYN eyd rest6 => ⟨rfl, ?_⟩⟩
  have s6 := mk_same nyd nyx rest6
  have fL := (un_none (un_none fL).1).1
  have fR := (un_none (un_none fR).1).1
  have fH := (un_none (un_none fH).1).1
  have fN := (un_none (un_none fN).1).1
  clear rest6
  refine ⟨_, rfl, fun od ox nod nox neod => ⟨od, ox, yd, rfl, upd_same, fun H7 al cw fal eal eod rest7 => ⟨rfl, ?_⟩⟩⟩
  have s7 := mk_same nod nox rest7
  have fal := (un_none (un_none fal).1).1
  clear rest7
  refine fun fm fx nfm nfx nefm => ⟨fm, fx, od, rfl, upd_same, fun H8 si fsi esi efm rest8 => ⟨rfl, ?_⟩⟩
  have s8 := mk_same nfm nfx rest8
  have fsi := (un_none (un_none fsi).1).1
  clear rest8
  refine fun sm sx nsm nsx nesm => ⟨sm, sx, fm, rfl, upd_same, fun H9 pl fpl epl esm rest9 => ⟨rfl, ?_⟩⟩
  have s9 := mk_same nsm nsx rest9
  have fpl := (un_none (un_none fpl).1).1
  clear rest9
  refine ⟨_, rfl, fun vl vx nvl nvx nevl => ⟨vl, vx, sm, rfl, upd_same, fun H10 nu md st fnu fmd fst mdst enu emd est evl rest10 => ⟨rfl, ?_⟩⟩⟩
  have s10 := mk_same nvl nvx rest10
  have fnu := (un_none (un_none fnu).1).1
  have fmd := (un_none (un_none fmd).1).1
  have fst := (un_none (un_none fst).1).1
  clear rest10
  have u6 : Same H6 H10 := fun c x e => s10 _ _ (s9 _ _ (s8 _ _ (s7 _ _ e)))
  have u7 : Same H7 H10 := fun c x e => s10 _ _ (s9 _ _ (s8 _ _ e))
  have u8 : Same H8 H10 := fun c x e => s10 _ _ (s9 _ _ e)
  have u5 : Same H5 H10 := fun c x e => u6 _ _ (s6 _ _ e)
  have fal5 : H5 al = none := same_none s6 fal
  have fsi5 : H5 si = none := same_none s6 (same_none s7 fsi)
  have fpl5 : H5 pl = none := same_none s6 (same_none s7 (same_none s8 fpl))
  have f9 : ∀ {c}, H9 c = none → H5 c = none := fun {c} e => same_none s6 (same_none s7 (same_none s8 (same_none s9 e)))
  -- the universe
  obtain ⟨z, ez⟩ : ∃ z, z = redu (pairT (ds.drop 7) 2 2) (pairP (ds.drop 7) 2) := ⟨_, rfl⟩
  have zs : Sm2 z := by
    obtain ⟨c1, c2, c3⟩ := pair_bd (ds.drop 7) (wh := 2) (mo := 2) (by decide)
    obtain ⟨c4, c5⟩ := redu_bd 2 (pairP (ds.drop 7) 2) (pairT (ds.drop 7) 2 2) c2 c3
    rw [ez]
    have pos := SG.pow_pos2 (redu (pairT (ds.drop 7) 2 2) (pairP (ds.drop 7) 2)).p
    exact ⟨SG.redu_plain _ _, Nat.le_trans (SG.redu_p _ _) c1, by omega, by omega⟩
  have x34 := x3.trans x4
  have vmem : ∀ u ∈ [(⟨0, 0⟩ : Dy), ⟨1, 0⟩, ⟨-1, 0⟩, v1, v2], u = ⟨0, 0⟩ ∨ u = ⟨1, 0⟩ ∨ u = ⟨-1, 0⟩ ∨ u = v1 ∨ u = v2 := fun u hu => by simpa using hu
  have pg1 : PoolG (nums [v1, v2]) (more1.map S4.g) := grown_pool l4.wf.wy (gr1.ext x4) (seeds_in m1 m2 (by simp) (by simp) vmem (nl2.ext x34))
  have pg2 : PoolG (nums [v1, v2, z]) (more2.map S4.g) := grown_pool l4.wf.wy gr2 (seeds_in m1 m2 (by simp) (by simp) vmem (nl2.ext x34))
  have ok := un_ok m1 m2 zs pg1 pg2 (by rw [List.length_map, lm1]; omega) (by rw [List.length_map, lm2]; omega)
  obtain ⟨U, eU⟩ : ∃ U : Un, U = ⟨fam (nums [v1, v2]) (more1.map S4.g), fam (nums [v1, v2, z]) (more2.map S4.g)⟩ := ⟨_, rfl⟩
  rw [← eU] at ok
  have vU : ∀ v ∈ [v1, v2, z], Sm2 v := fun v hv => by
    simp only [List.mem_cons, List.not_mem_nil, or_false] at hv
    rcases hv with rfl | rfl | rfl
    · exact m1
    · exact m2
    · exact zs
  have zu : (0, zr) ∈ U.us := by rw [eU]; exact fam_zero (int_mem [v1, v2] (i := 0) (by decide) (by decide))
  have zv : (0, zr) ∈ U.vs := by rw [eU]; exact fam_zero (int_mem [v1, v2, z] (i := 0) (by decide) (by decide))
  have zz : (0, form 64 (sc z)) ∈ U.vs := by rw [eU]; exact fam_zero (seed_mem zs (by simp))
  have hz5 : SG.ht (form 64 (sc z)) ≤ 5 := (nums_form vU (seed_mem zs (by simp))).2
  have mg1 : g1 ∈ more1 := by rw [em1]; simp
  have mg2 : g2 ∈ more2 := by rw [em2]; simp
  have lg1 : g1 < S4.N := (gr1.ext x4).lt _ mg1
  have lg2 : g2 < S4.N := gr2.lt _ mg2
  obtain ⟨j1, hj1⟩ := lev_ex (k := 1) (List.mem_map.mpr ⟨g1, mg1, rfl⟩ : S4.g g1 ∈ more1.map S4.g)
  obtain ⟨j2, hj2⟩ := lev_ex (k := 1) (List.mem_map.mpr ⟨g2, mg2, rfl⟩ : S4.g g2 ∈ more2.map S4.g)
  have u1 : (j1, S4.g g1) ∈ U.us := by rw [eU]; exact List.mem_append_right _ hj1
  have u2 : (j2, S4.g g2) ∈ U.vs := by rw [eU]; exact List.mem_append_right _ hj2
  have t1 : SG.ht (S4.g g1) ≤ 9 := ok.hu _ u1
  have t2 : SG.ht (S4.g g2) ≤ 7 := ok.hv _ u2
  have cov1 : Cov U (S4.g g1) := ⟨((j1, S4.g g1), (0, zr)), SG.mem_pu.mpr ⟨u1, zv⟩, .inl ⟨rfl, rfl⟩⟩
  have cov2 : Cov U (S4.g g2) := ⟨((0, zr), (j2, S4.g g2)), SG.mem_pu.mpr ⟨zu, u2⟩, .inr ⟨rfl, rfl⟩⟩
  obtain ⟨A, rfl, rfl, rfl, ya, fA⟩ := at_init (P := P) (w := w) (K := K) (H5 := H5) (H := H10) ok (u6 _ _ eyd) (u7 _ _ eod) (u8 _ _ efm) (s10 _ _ esm) evl (rL.of (fun _ e => u6 _ _ e) fun _ _ e => u6 _ _ e) (rR.of (fun _ e => u6 _ _ e) fun _ _ e => u6 _ _ e) (u6 _ _ eYH) (eYN.mono (fun _ e => u6 _ _ e) fun _ _ e => u6 _ _ e)
    (u7 _ _ eal) (u8 _ _ esi) (s10 _ _ epl) enu emd est dLR dLH dRH (ne_of_none (s8 _ _ eal) fpl) (ne_of_none (s9 _ _ (s8 _ _ eal)) fmd) (ne_of_none (s9 _ _ (s8 _ _ eal)) fst) (ne_of_none epl fmd) (ne_of_none epl fst) mdst (ne_of_none (s9 _ _ esi) fnu)
    (fun c hc => by
      simp only [List.mem_cons, List.not_mem_nil, or_false] at hc
      rcases hc with rfl | rfl | rfl | rfl | rfl | rfl | rfl | rfl | rfl | rfl
      · exact fL
      · exact fR
      · exact fH
      · exact fN
      · exact fal5
      · exact fsi5
      · exact fpl5
      · exact f9 fnu
      · exact f9 fmd
      · exact f9 fst)
  have l10 := l5.same u5
  have dA : ∀ x ∈ L.mut, x ∉ A.mut := fun x hx m => l5.fresh (fA x m) hx
  have dS : L.st ∉ A.mut := fun m => by have := fA _ m; rw [l5.st] at this; cases this
  have old : ∀ {c x}, H5 c = some x → c ∉ A.mut := fun {c x} e m => by have := fA _ m; rw [e] at this; cases this
  -- out
  intro o no
  have s11 := same_upd (H := H10) (o := .dK []) no
  have eo : upd H10 o (.dK []) o = some (.dK []) := upd_same
  have noA := ya.fresh no
  have noL := l10.fresh no
  have oS : o ≠ L.st := fun q => by rw [q, l10.st] at no; cases no
  generalize upd H10 o (.dK []) = H11 at s11 eo ⊢
  have bo : Bo P w K L A o U S4 (G0 U) [] H11 := ⟨l10.same s11, ya.same s11, eo, (fun _ _ h => by cases h), .nil⟩
  have dj : Dj L A o := ⟨dA, dS, noA, noL, oS⟩
  have egl11 := s11 _ _ (u5 _ _ egl5)
  have edg11 := s11 _ _ (u5 _ _ edg)
  have nglA := old egl5
  have ndgA := old edg
  have glo : gl ≠ o := ne_of egl11 eo (by intro z; cases z)
  have dgo : dg ≠ o := ne_of edg11 eo (by intro z; cases z)
  have or0 : ∀ p ∈ U.all, OKr (G0 U) p := fun p hp => .inl hp
  have op0 : ∀ p ∈ U.all, OKp (G0 U) p := fun p hp => .inl hp
  have bud : S4.N + S4.cand.length ≤ 84 := by omega
  clear s5 s4b s4 s3c s3b s3 s2 l4b l3b lq1 lq2
  -- the numbers
  refine ⟨_, rfl, gl, rfl, ⟨_, SqL.of egl11⟩, fun nl hnl => lc_list (K := K) (a := gl) (xs := [g1, g2].map nV) (fun m H' => ∃ (G : Gs) (om : List (Nat × Nat)) (fs : List Nat), Bo P w K L A o U S4 G om H' ∧ OKeep A o H11 H' ∧ Ext (G0 U) G ∧ H' nl = some (.lst (fs.map nV)) ∧ OutL S4 G ([g1, g2].take m) fs)
    ⟨G0 U, [], [], (bo.new hnl _).1, (bo.new hnl _).2, Ext.refl _, upd_same, .nil⟩ (fun _ _ _ ⟨_, _, _, _, q, _⟩ => SqL.of (q _ _ egl11 nglA glo)) ?_ ?_⟩
  · rintro m x H' hm ⟨G, om, fs, b, k, xx, e, r⟩
    obtain ⟨q, hq, rfl⟩ := nV_get hm
    have m2 : m < 2 := (List.getElem?_eq_some_iff.mp hq).1
    obtain ⟨q1, q2, q3⟩ : q < S4.N ∧ SG.ht (S4.g q) ≤ 9 ∧ Cov U (S4.g q) := by
      rcases two_cases m2 with rfl | rfl
      · cases hq; exact ⟨lg1, t1, cov1⟩
      · cases hq; exact ⟨lg2, by omega, cov2⟩
    obtain ⟨nA, nL, nO⟩ := bo.fresh hnl
    refine ⟨rfl, _, rfl, _, rfl, _, rfl, _, rfl, L, A, o, U, S4, G, om, q, rfl, b, dj, ok, q1, by omega, by omega, by omega, q3, fun p hp => xx.or p (or0 p hp), fun G' om' H'' f b' k' x' sl lf' is' => ?_⟩
    have e' := k' _ _ e nA nO
    have lfs : fs.length ≤ 2 := by
      rw [← Paired.length r]
      exact List.length_take_le' ..
    refine ⟨_, e', by rw [List.length_map, sizeLine_eq]; omega, G', om', fs ++ [f], b'.lst' e' nA nL _, fun c y e2 n1 n2 => (upd_ne (ne_of_none e2 hnl)).trans (k' _ _ (k _ _ e2 n1 n2) n1 n2), xx.trans x', ?_, ?_⟩
    · rw [upd_same, List.map_append]
      rfl
    · rw [List.take_add_one, hq]
      exact paired_snoc (r.ext x'.ex0) ⟨lf', is'⟩
  rintro H12 ⟨G1, om, fs, bo1, k12, x01, enl, r⟩
  obtain ⟨nlA, nlL, nlO⟩ := bo.fresh hnl
  have tw : Two P w K L A U S4 G1 H12 := ⟨bo1.la, bo1.ya, dA, dS⟩
  have egl12 := k12 _ _ egl11 nglA glo
  have edg12 := k12 _ _ edg11 ndgA dgo
  obtain ⟨f1, f2, rfl, lf1, is1, lf2, is2⟩ : ∃ f1 f2, fs = [f1, f2] ∧ f1 < G1.N ∧ IsSum (G1.g f1) (S4.g g1) zr ∧ f2 < G1.N ∧ IsSum (G1.g f2) (S4.g g2) zr := by
    have r : OutL S4 G1 [g1, g2] fs := r
    cases r with
    | cons a t =>
      cases t with
      | cons b t =>
        cases t
        exact ⟨_, _, rfl, a.1, a.2, b.1, b.2⟩
  -- the stops
  have hzr : SG.ht zr = 0 := ht_zero
  have h1s := SG.isSum_ht_eq is1
  have h2s := SG.isSum_ht_eq is2
  refine ⟨_, rfl, nl, rfl, ⟨_, SqL.of enl⟩, fun sl hsl => lc_list (K := K) (a := nl) (xs := [f1, f2].map nV) (fun m H' => ∃ (G : Gs) (rs : List (Addr × (Addr × Dy) × (Addr × Dy))), Two P w K L A U S4 G H' ∧ Keep A H12 H' ∧ Ext G1 G ∧ H' sl = some (.lst (rs.map fun r => V.ref r.1)) ∧ rs.length = m ∧
      ∀ (j : Nat) (r : Addr × (Addr × Dy) × (Addr × Dy)) (q : Nat), rs[j]? = some r → [g1, g2][j]? = some q → H' r.1 = some (.lst [.ref r.2.1.1, .ref r.2.2.1]) ∧ H' r.2.1.1 = some (.tup (pairV r.2.1.2)) ∧ H' r.2.2.1 = some (.tup (pairV r.2.2.2)) ∧ r.1 ∉ L.mut ∧ r.1 ∉ A.mut ∧ r.1 ≠ sl ∧ (Plain r.2.1.2 ∧ r.2.1.2.p ≤ 9 ∧ sc r.2.1.2 = stop 64 true (S4.g q)) ∧ (Plain r.2.2.2 ∧ r.2.2.2.p ≤ 9 ∧ sc r.2.2.2 = stop 64 false (S4.g q)))
    ⟨G1, [], tw.same (same_upd hsl), Keep.same (same_upd hsl), Ext.refl _, upd_same, rfl, fun j r q z => by cases z⟩ (fun _ _ _ ⟨_, _, _, q, _⟩ => SqL.of (q _ _ enl nlA)) ?_ ?_⟩
  · rintro m x H' hm ⟨G, rs, tw', k, xx, e, lm, pr⟩
    obtain ⟨f, hf, rfl⟩ := nV_get hm
    have m2 : m < 2 := (List.getElem?_eq_some_iff.mp hf).1
    obtain ⟨q, hq, lf', is', hlt, hc⟩ : ∃ q, [g1, g2][m]? = some q ∧ f < G1.N ∧ IsSum (G1.g f) (S4.g q) zr ∧ SG.ht (S4.g q) ≤ 9 ∧ Cov U (S4.g q) := by
      rcases two_cases m2 with rfl | rfl
      · cases hf; exact ⟨g1, rfl, lf1, is1, t1, cov1⟩
      · cases hf; exact ⟨g2, rfl, lf2, is2, by omega, cov2⟩
    obtain ⟨nsL, nsA⟩ := tw.fresh hsl
    obtain ⟨pc, hpc, cc⟩ := hc
    have hs' := SG.isSum_ht_eq is'
    have gf := xx.ex0.g lf'
    have lab : Lab U G f := ⟨pc, hpc, by
      show IsSum (G.g f) pc.1.2 pc.2.2
      rw [gf]
      rcases cc with ⟨c1, c2⟩ | ⟨c1, c2⟩
      · rw [c1, c2]; exact is'
      · rw [c1, c2]; exact SG.isSum_symm is'⟩
    refine ⟨rfl, _, rfl, _, rfl, A, U, G, f, rfl, tw'.ya, ok, xx.ex0.lt lf', by rw [gf]; omega, lab, fun p hp => (x01.trans xx).op p (op0 p hp), fun G' H'' s' ta tb v u h' k' x' sl' na ea eta etb plv pv plu pu sv su => ?_⟩
    have tw2 := tw'.yk h' k'
    have e' := k' _ _ e nsA
    obtain ⟨naL, naA⟩ := tw'.fresh na
    have nas : s' ≠ sl := fun z => by rw [z, e] at na; cases na
    have es := SG.stop_sum is' (by omega)
    rw [gf, es] at sv su
    have pow : ∀ {b : Bool} {y : Dy}, Plain y → y.p ≤ 40 → sc y = stop 64 b (S4.g q) → y.p ≤ 9 := fun {b y} p1 p2 p3 => SG.pow_small p1 (by omega) (by decide) (by rw [p3]; exact SG.stop_dvd (p := 64) (k := 55) b (by omega))
    refine ⟨_, e', by rw [List.length_map, sizeLine_eq]; omega, G', rs ++ [(s', (ta, v), (tb, u))], ⟨tw2.la.lst' e' nsL _, tw2.ya.lst' e' nsA _, dA, dS⟩, keep_lst (k.trans k') hsl, xx.trans x', by rw [upd_same, List.map_append]; rfl, by rw [List.length_append, lm]; rfl, fun j r q' hj hq' => ?_⟩
    have tup' : ∀ {c xs}, H'' c = some (.tup xs) → ∀ ys, upd H'' sl (.lst ys) c = some (.tup xs) := fun {c xs} e1 ys => (upd_ne (ne_of e1 e' (by intro z; cases z))).trans e1
    by_cases c : j < rs.length
    · rw [List.getElem?_append_left c] at hj
      obtain ⟨a1, a2, a3, a4, a5, a6, a7, a8⟩ := pr j r q' hj hq'
      exact ⟨(upd_ne a6).trans (k' _ _ a1 a5), tup' (tw'.ya.tupK k' _ _ a2) _, tup' (tw'.ya.tupK k' _ _ a3) _, a4, a5, a6, a7, a8⟩
    · have jm : j = m := by
        have := (List.getElem?_eq_some_iff.mp hj).1
        rw [List.length_append] at this
        have : j < rs.length + 1 := this
        omega
      subst jm
      rw [List.getElem?_append_right (by omega), show j - rs.length = 0 by omega] at hj
      cases hj
      rw [hq] at hq'
      cases hq'
      exact ⟨(upd_ne nas).trans ea, tup' eta _, tup' etb _, naL, naA, nas, ⟨plv, pow plv pv sv, sv⟩, plu, pow plu pu su, su⟩
  rintro H13 ⟨G2, rs, tw3, k13, x12, esl, lrs, prs⟩
  obtain ⟨nsL, nsA⟩ := tw.fresh hsl
  match rs, lrs, prs, esl with
  | [(sa, (ta, va), (tb, vb)), (sb, (tc, vc), (td, vd))], _, prs, esl =>
    obtain ⟨a1, a2, a3, a4, a5, _, a7, a8⟩ := prs 0 _ g1 rfl rfl
    obtain ⟨c1, c2, c3, c4, c5, _, c7, c8⟩ := prs 1 _ g2 rfl rfl
    have x02 := x01.trans x12
    refine rdB _ _ ⟨L, A, U, S4, G2, ⟨gl, dg, nl, sl, (fun | 0 => sa | _ => sb), (fun | 0 => ta | _ => tc), (fun | 0 => tb | _ => td), (fun | 0 => g1 | _ => g2), (fun | 0 => f1 | _ => f2), (fun | 0 => va | _ => vc), (fun | 0 => vb | _ => vd), ds⟩, o, _, _, rfl, tw3, ?_, ?_, by omega⟩
    · refine ⟨k13 _ _ egl12 nglA, k13 _ _ edg12 ndgA, k13 _ _ enl nlA, esl, a1, c1, a2, c2, a3, c3, fun c hc => ?_⟩
      simp only [Dt.ads, List.mem_cons, List.not_mem_nil, or_false] at hc
      rcases hc with rfl | rfl | rfl | rfl | rfl | rfl | rfl | rfl | rfl | rfl
      · exact ⟨ngl, nglA⟩
      · exact ⟨ndg, ndgA⟩
      · exact ⟨nlL, nlA⟩
      · exact ⟨nsL, nsA⟩
      · exact ⟨a4, a5⟩
      · exact ⟨c4, c5⟩
      · exact tw3.ntup a2
      · exact tw3.ntup c2
      · exact tw3.ntup a3
      · exact tw3.ntup c3
    · refine ⟨ok, hin2.ext x34, fun k hk => ?_, t2, fun k hk => ?_, ⟨((j1, S4.g g1), (j2, S4.g g2)), SG.mem_pu.mpr ⟨u1, u2⟩, rfl, rfl⟩, fun k hk => ?_, fun k hk => ?_, fun k hk => ?_, fun p hp => x02.op p (op0 p hp), fun p hp => x02.or p (or0 p hp), hd, ?_⟩
      · rcases two_cases hk with rfl | rfl
        · exact ⟨lg1, t1⟩
        · exact ⟨lg2, Nat.le_trans t2 (by decide)⟩
      · rcases two_cases hk with rfl | rfl
        · exact ⟨x12.ex0.lt lf1, by show IsSum (G2.g f1) (S4.g g1) zr; rw [x12.ex0.g lf1]; exact is1⟩
        · exact ⟨x12.ex0.lt lf2, by show IsSum (G2.g f2) (S4.g g2) zr; rw [x12.ex0.g lf2]; exact is2⟩
      · rcases two_cases hk with rfl | rfl
        · exact cov1
        · exact cov2
      · rcases two_cases hk with rfl | rfl
        · exact a7
        · exact c7
      · rcases two_cases hk with rfl | rfl
        · exact a8
        · exact c8
      · show (redu (pairT (ds.drop 7) 2 2) (pairP (ds.drop 7) 2)).p ≤ 2 ∧ SG.ht (form 64 (sc (redu (pairT (ds.drop 7) 2 2) (pairP (ds.drop 7) 2)))) ≤ 5 ∧ (∃ p ∈ U.all, p.1.2 = zr ∧ p.2.2 = form 64 (sc (redu (pairT (ds.drop 7) 2 2) (pairP (ds.drop 7) 2)))) ∧ ∃ p ∈ U.all, p.1.2 = S4.g g1 ∧ p.2.2 = form 64 (sc (redu (pairT (ds.drop 7) 2 2) (pairP (ds.drop 7) 2)))
        rw [← ez]
        exact ⟨zs.2.1, hz5, ⟨((0, zr), (0, form 64 (sc z))), SG.mem_pu.mpr ⟨zu, zz⟩, rfl, rfl⟩, ((j1, S4.g g1), (0, form 64 (sc z))), SG.mem_pu.mpr ⟨u1, zz⟩, rfl, rfl⟩
end
end K45
end
section
set_option Elab.async false
set_option linter.all false
set_option maxRecDepth 100000
set_option maxHeartbeats 0
namespace K45
open PySem PySem.Spec PyProof.Rows L2
theorem facts {P : Program} {w : World} {K : PySem.W.Frag} {h : Heap} {mg : Str → Option Value} {f : Addr} (X : K.In h) (G : h.Ns mainGlobals mg) (hfa : mg ("law" : Str) = some (.ref f)) (c : SaysP faL fnL psL exB K) :
    ∃ fd : FuncData, (∀ (s : Shared) (v : Value), BindsTo s fd ⟨[v], []⟩ [("_law_script", v)]) ∧ ∀ base : Heap, K.In base → base.Ns mainGlobals mg → FnOk P w K mg base C8.CX0 192 f fd ["_law_script"] (spLaw K) := by
  have T : Tx K mg := ⟨c, h, X, G⟩
  obtain ⟨fd, F⟩ := t_fn_law T
  have e := hfa.symm.trans (t_glo_law T)
  cases e
  have b := FunD.bindsA (ps := ["_law_script"]) F fun _ _ _ _ _ _ us hl => match us, hl with | [_], _ => rfl
  exact ⟨fd, fun s v => b s [v] rfl, fun base _ _ => fn_by F sc_lw (fun vs H Q E h => by obtain ⟨a, ns, rfl, _⟩ := h; rfl) (law_body T)⟩
end K45
end
set_option maxRecDepth 100000
set_option maxHeartbeats 0
open PySem PySem.W PySem.Calls PyProof.Rows
theorem PySem.Challenge.cw_sumsplay_k45_whole_stops_and_order_holds : PySem.Challenge.rw_sumsplay_k45_whole_stops_and_order.Holds := by
  w_on; o_law
  refine HandSHeadRun.head_any (r := OpenLaw.row PySem.Challenge.rw_sumsplay_k45_whole_stops_and_order) (q := view (OpenLaw.row PySem.Challenge.rw_sumsplay_k45_whole_stops_and_order).prog [50]) (H := K45.hk) (ob := K45.ob) (M := 12000) (loose := K45.n1 ++ K45.n2) (d := HandSHeadRun.topDef (OpenLaw.row PySem.Challenge.rw_sumsplay_k45_whole_stops_and_order).prog 50) (kwd := []) K45.ob_eq
    (by kernel_rfl) (fun s => by kernel_rfl) K45.run (by kernel_rfl) (by kernel_rfl) (by kernel_rfl) (by rfl) (by first | assumption | decide +kernel) (by decide +kernel) ⟨rfl, rfl, rfl, rfl, rfl, by decide +kernel⟩ ?hw ?hc
  case hw => w_witness2
  case hc =>
    refine L2.walk_ofE (l := PySem.Challenge.rw_sumsplay_k45_whole_stops_and_order) (n := 63) (k := 192) (x := "_law_script") (CX := C8.CX0) rfl (by decide) (by kernel_rfl) ⟨rfl, by decide, by decide⟩ ?F (fun _ _ _ _ z => z)
    intro w mg fa h Y G hmg0
    obtain ⟨K, KX, c⟩ := Y
    have hmg : mg ("law" : PySem.Str) = some (.ref fa) := by
      have e : (HandSHeadRun.topDef (OpenLaw.row PySem.Challenge.rw_sumsplay_k45_whole_stops_and_order).prog 50).name = ("law" : PySem.Str) := by kernel_rfl
      rw [← e]
      exact hmg0
    obtain ⟨fd, hb, hF⟩ := K45.facts (P := (PySem.Challenge.rw_sumsplay_k45_whole_stops_and_order).prog) (w := w) KX G hmg c
    exact ⟨K, fd, K45.spLaw K, KX, hb, fun H a ns hl _ hS => ⟨a, ns, rfl, hS, fun _ => rfl⟩, hF⟩
