import PyProof.Rows.All
import Wide.All
import OpenK.AllK
import Wide.FinOn
import KE.KStateDown
import HandS.ForMost
import HandS.Exc
import HandS.ExcInit
import HandS.ExcOwn
import HandS.ExcIs
import HandS.ExcField
import HandS.TryOnly
import HandS.Lambda
import KE.KSortedM
import KE.DataMinMax
import HandS.EndTab
import HandS.HeadWalk
import HandS.Defaults
import HandS.Deep
import HandS.IsInst
import HandS.SortInts
import HandS.Zip
import HandS.TupAny
import HandS.TupMul
import HandS.Rev
import HandS.Wide
import HandS.Conv
import HandS.Flow
import HandS.RaiseOp
import HandS.Small
import HandS.Style
import HandS.More
import HandS.SortKw
import HandS.Walk
import HandS.WordsExc
import HandS.WordsList
import KE.SortData
import KE.LtData
import HandS.Head0
import HandS.Head1
import HandS.Head2
import HandS.HeadEnd
import HandS.HeadHook1
import HandS.HeadHook2
import HandS.HeadHook3
import HandS.HeadHook4
import PySem.Challenge.RW_twigmap_k23_refused_of_the_shelf
set_option Elab.async false
set_option linter.all false
set_option maxRecDepth 100000
set_option maxHeartbeats 4000000

namespace Tw
open PySem PySem.Spec PyProof.Rows L2 He
/-! ### the text by places -/
def top (i : Nat) : Stmt := PySem.Challenge.pw_twigmap_k23_refused_of_the_shelf.main.body.getD i (.Pass ⟨0, 0, 0, 0⟩)
abbrev s_is_number : Stmt := top 13
def d_is_number : DefD := ⟨("is_number", none), "is_number", "is_number", defArgs s_is_number, defBody s_is_number, defScope s_is_number, [], []⟩
abbrev s_is_text : Stmt := top 14
def d_is_text : DefD := ⟨("is_text", none), "is_text", "is_text", defArgs s_is_text, defBody s_is_text, defScope s_is_text, [], []⟩
abbrev s_is_within : Stmt := top 15
def d_is_within : DefD := ⟨("is_within", none), "is_within", "is_within", defArgs s_is_within, defBody s_is_within, defScope s_is_within, [], []⟩
abbrev s_is_key : Stmt := top 16
def d_is_key : DefD := ⟨("is_key", none), "is_key", "is_key", defArgs s_is_key, defBody s_is_key, defScope s_is_key, [], []⟩
abbrev s_checked : Stmt := top 17
def d_checked : DefD := ⟨("checked", none), "checked", "checked", defArgs s_checked, defBody s_checked, defScope s_checked, [], []⟩
abbrev s_rank : Stmt := top 18
def d_rank : DefD := ⟨("rank", none), "rank", "rank", defArgs s_rank, defBody s_rank, defScope s_rank, [], []⟩
abbrev s_ahead : Stmt := top 19
def d_ahead : DefD := ⟨("ahead", none), "ahead", "ahead", defArgs s_ahead, defBody s_ahead, defScope s_ahead, [], []⟩
abbrev s_checked_rows : Stmt := top 22
def d_checked_rows : DefD := ⟨("checked_rows", none), "checked_rows", "checked_rows", defArgs s_checked_rows, defBody s_checked_rows, defScope s_checked_rows, [], []⟩
abbrev s_label_of_rows : Stmt := top 23
def d_label_of_rows : DefD := ⟨("label_of_rows", none), "label_of_rows", "label_of_rows", defArgs s_label_of_rows, defBody s_label_of_rows, defScope s_label_of_rows, [], []⟩
abbrev s_label_over : Stmt := top 24
def d_label_over : DefD := ⟨("label_over", none), "label_over", "label_over", defArgs s_label_over, defBody s_label_over, defScope s_label_over, [], []⟩
abbrev s_l_well : Stmt := top 30
def d_l_well : DefD := ⟨("_law_well", none), "_law_well", "_law_well", defArgs s_l_well, defBody s_l_well, defScope s_l_well, [], []⟩
abbrev s_l_pull : Stmt := top 31
def d_l_pull : DefD := ⟨("_law_pull", none), "_law_pull", "_law_pull", defArgs s_l_pull, defBody s_l_pull, defScope s_l_pull, [], []⟩
abbrev s_l_rank : Stmt := top 32
def d_l_rank : DefD := ⟨("_law_rank", none), "_law_rank", "_law_rank", defArgs s_l_rank, defBody s_l_rank, defScope s_l_rank, [], []⟩
abbrev s_l_less : Stmt := top 33
def d_l_less : DefD := ⟨("_law_less", none), "_law_less", "_law_less", defArgs s_l_less, defBody s_l_less, defScope s_l_less, [], []⟩
abbrev s_l_alike : Stmt := top 34
def d_l_alike : DefD := ⟨("_law_alike", none), "_law_alike", "_law_alike", defArgs s_l_alike, defBody s_l_alike, defScope s_l_alike, [], []⟩
abbrev s_l_grid : Stmt := top 35
def d_l_grid : DefD := ⟨("_law_grid", none), "_law_grid", "_law_grid", defArgs s_l_grid, defBody s_l_grid, defScope s_l_grid, [], []⟩
abbrev s_l_leaf_rows : Stmt := top 36
def d_l_leaf_rows : DefD := ⟨("_law_leaf_rows", none), "_law_leaf_rows", "_law_leaf_rows", defArgs s_l_leaf_rows, defBody s_l_leaf_rows, defScope s_l_leaf_rows, [], []⟩
abbrev s_l_rows_of : Stmt := top 37
def d_l_rows_of : DefD := ⟨("_law_rows_of", none), "_law_rows_of", "_law_rows_of", defArgs s_l_rows_of, defBody s_l_rows_of, defScope s_l_rows_of, [], []⟩
abbrev s_l_label : Stmt := top 38
def d_l_label : DefD := ⟨("_law_label", none), "_law_label", "_law_label", defArgs s_l_label, defBody s_l_label, defScope s_l_label, [], []⟩
abbrev s_l_above : Stmt := top 39
def d_l_above : DefD := ⟨("_law_above", none), "_law_above", "_law_above", defArgs s_l_above, defBody s_l_above, defScope s_l_above, [], []⟩
abbrev s_l_shared : Stmt := top 40
def d_l_shared : DefD := ⟨("_law_shared", none), "_law_shared", "_law_shared", defArgs s_l_shared, defBody s_l_shared, defScope s_l_shared, [], []⟩
abbrev s_l_count : Stmt := top 42
def d_l_count : DefD := ⟨("_law_count", none), "_law_count", "_law_count", defArgs s_l_count, defBody s_l_count, defScope s_l_count, [], []⟩
abbrev s_l_exact : Stmt := top 43
def d_l_exact : DefD := ⟨("_law_exact", none), "_law_exact", "_law_exact", defArgs s_l_exact, defBody s_l_exact, defScope s_l_exact, [], []⟩
abbrev s_l_asked : Stmt := top 44
def d_l_asked : DefD := ⟨("_law_asked", none), "_law_asked", "_law_asked", defArgs s_l_asked, defBody s_l_asked, defScope s_l_asked, [], []⟩
abbrev s_l_wrong : Stmt := top 45
def d_l_wrong : DefD := ⟨("_law_wrong", none), "_law_wrong", "_law_wrong", defArgs s_l_wrong, defBody s_l_wrong, defScope s_l_wrong, [], []⟩
abbrev s_l_unheld : Stmt := top 46
def d_l_unheld : DefD := ⟨("_law_unheld", none), "_law_unheld", "_law_unheld", defArgs s_l_unheld, defBody s_l_unheld, defScope s_l_unheld, [], []⟩
abbrev s_l_picked : Stmt := top 48
def d_l_picked : DefD := ⟨("_law_picked", none), "_law_picked", "_law_picked", defArgs s_l_picked, defBody s_l_picked, defScope s_l_picked, [], []⟩
abbrev s_l_run : Stmt := top 49
def d_l_run : DefD := ⟨("_law_run", none), "_law_run", "_law_run", defArgs s_l_run, defBody s_l_run, defScope s_l_run, [], []⟩
abbrev s_l_put_leaf : Stmt := top 50
def d_l_put_leaf : DefD := ⟨("_law_put_leaf", none), "_law_put_leaf", "_law_put_leaf", defArgs s_l_put_leaf, defBody s_l_put_leaf, defScope s_l_put_leaf, [], []⟩
abbrev s_l_put_stem : Stmt := top 51
def d_l_put_stem : DefD := ⟨("_law_put_stem", none), "_law_put_stem", "_law_put_stem", defArgs s_l_put_stem, defBody s_l_put_stem, defScope s_l_put_stem, [], []⟩
abbrev s_l_begun : Stmt := top 52
def d_l_begun : DefD := ⟨("_law_begun", none), "_law_begun", "_law_begun", defArgs s_l_begun, defBody s_l_begun, defScope s_l_begun, [], []⟩
abbrev s_l_strange : Stmt := top 53
def d_l_strange : DefD := ⟨("_law_strange", none), "_law_strange", "_law_strange", defArgs s_l_strange, defBody s_l_strange, defScope s_l_strange, [], []⟩
abbrev s_l_call : Stmt := top 54
def d_l_call : DefD := ⟨("_law_call", none), "_law_call", "_law_call", defArgs s_l_call, defBody s_l_call, defScope s_l_call, [], []⟩
abbrev s_l_unknown : Stmt := top 55
def d_l_unknown : DefD := ⟨("_law_unknown", none), "_law_unknown", "_law_unknown", defArgs s_l_unknown, defBody s_l_unknown, defScope s_l_unknown, [], []⟩
abbrev s_l_amiss : Stmt := top 56
def d_l_amiss : DefD := ⟨("_law_amiss", none), "_law_amiss", "_law_amiss", defArgs s_l_amiss, defBody s_l_amiss, defScope s_l_amiss, [], []⟩
abbrev s_l_rows_due : Stmt := top 57
def d_l_rows_due : DefD := ⟨("_law_rows_due", none), "_law_rows_due", "_law_rows_due", defArgs s_l_rows_due, defBody s_l_rows_due, defScope s_l_rows_due, [], []⟩
abbrev s_law : Stmt := top 58
def d_law : DefD := ⟨("law", none), "law", "law", defArgs s_law, defBody s_law, defScope s_law, [], []⟩
abbrev s_m_init : Stmt := inClass (top 28) 0
def d_m_init : DefD := ⟨("Shelf", some "__init__"), "__init__", "Shelf.__init__", defArgs s_m_init, defBody s_m_init, defScope s_m_init, [], []⟩
abbrev s_m_need : Stmt := inClass (top 28) 1
def d_m_need : DefD := ⟨("Shelf", some "need"), "need", "Shelf.need", defArgs s_m_need, defBody s_m_need, defScope s_m_need, [], []⟩
abbrev s_m_set_down : Stmt := inClass (top 28) 2
def d_m_set_down : DefD := ⟨("Shelf", some "set_down"), "set_down", "Shelf.set_down", defArgs s_m_set_down, defBody s_m_set_down, defScope s_m_set_down, [], []⟩
abbrev s_m_put_leaf : Stmt := inClass (top 28) 3
def d_m_put_leaf : DefD := ⟨("Shelf", some "put_leaf"), "put_leaf", "Shelf.put_leaf", defArgs s_m_put_leaf, defBody s_m_put_leaf, defScope s_m_put_leaf, [], []⟩
abbrev s_m_put_stem : Stmt := inClass (top 28) 4
def d_m_put_stem : DefD := ⟨("Shelf", some "put_stem"), "put_stem", "Shelf.put_stem", defArgs s_m_put_stem, defBody s_m_put_stem, defScope s_m_put_stem, [], []⟩
abbrev s_m_need_held : Stmt := inClass (top 28) 5
def d_m_need_held : DefD := ⟨("Shelf", some "need_held"), "need_held", "Shelf.need_held", defArgs s_m_need_held, defBody s_m_need_held, defScope s_m_need_held, [], []⟩
abbrev s_m_hand_over : Stmt := inClass (top 28) 6
def d_m_hand_over : DefD := ⟨("Shelf", some "hand_over"), "hand_over", "Shelf.hand_over", defArgs s_m_hand_over, defBody s_m_hand_over, defScope s_m_hand_over, [], []⟩
abbrev s_m_hold : Stmt := inClass (top 28) 7
def d_m_hold : DefD := ⟨("Shelf", some "hold"), "hold", "Shelf.hold", defArgs s_m_hold, defBody s_m_hold, defScope s_m_hold, [], []⟩
abbrev s_m_let_go : Stmt := inClass (top 28) 8
def d_m_let_go : DefD := ⟨("Shelf", some "let_go"), "let_go", "Shelf.let_go", defArgs s_m_let_go, defBody s_m_let_go, defScope s_m_let_go, [], []⟩
abbrev s_m_sweep : Stmt := inClass (top 28) 9
def d_m_sweep : DefD := ⟨("Shelf", some "sweep"), "sweep", "Shelf.sweep", defArgs s_m_sweep, defBody s_m_sweep, defScope s_m_sweep, [], []⟩
abbrev s_m_outside : Stmt := inClass (top 28) 10
def d_m_outside : DefD := ⟨("Shelf", some "outside"), "outside", "Shelf.outside", defArgs s_m_outside, defBody s_m_outside, defScope s_m_outside, [], []⟩
abbrev s_m_holders : Stmt := inClass (top 28) 11
def d_m_holders : DefD := ⟨("Shelf", some "holders"), "holders", "Shelf.holders", defArgs s_m_holders, defBody s_m_holders, defScope s_m_holders, [], []⟩
abbrev s_m_shared_above : Stmt := inClass (top 28) 12
def d_m_shared_above : DefD := ⟨("Shelf", some "shared_above"), "shared_above", "Shelf.shared_above", defArgs s_m_shared_above, defBody s_m_shared_above, defScope s_m_shared_above, [], []⟩
abbrev s_m_alone : Stmt := inClass (top 28) 13
def d_m_alone : DefD := ⟨("Shelf", some "alone"), "alone", "Shelf.alone", defArgs s_m_alone, defBody s_m_alone, defScope s_m_alone, [], []⟩
abbrev s_m_need_alone : Stmt := inClass (top 28) 14
def d_m_need_alone : DefD := ⟨("Shelf", some "need_alone"), "need_alone", "Shelf.need_alone", defArgs s_m_need_alone, defBody s_m_need_alone, defScope s_m_need_alone, [], []⟩
abbrev s_m_change_leaf : Stmt := inClass (top 28) 16
def d_m_change_leaf : DefD := ⟨("Shelf", some "change_leaf"), "change_leaf", "Shelf.change_leaf", defArgs s_m_change_leaf, defBody s_m_change_leaf, defScope s_m_change_leaf, [], []⟩
abbrev s_m_change_stem : Stmt := inClass (top 28) 17
def d_m_change_stem : DefD := ⟨("Shelf", some "change_stem"), "change_stem", "Shelf.change_stem", defArgs s_m_change_stem, defBody s_m_change_stem, defScope s_m_change_stem, [], []⟩
abbrev s_m_look : Stmt := inClass (top 28) 18
def d_m_look : DefD := ⟨("Shelf", some "look"), "look", "Shelf.look", defArgs s_m_look, defBody s_m_look, defScope s_m_look, [], []⟩
abbrev s_m_label : Stmt := inClass (top 28) 19
def d_m_label : DefD := ⟨("Shelf", some "label"), "label", "Shelf.label", defArgs s_m_label, defBody s_m_label, defScope s_m_label, [], []⟩
abbrev s_m_looked : Stmt := inClass (top 28) 20
def d_m_looked : DefD := ⟨("Shelf", some "looked"), "looked", "Shelf.looked", defArgs s_m_looked, defBody s_m_looked, defScope s_m_looked, [], []⟩
abbrev s_m_forget : Stmt := inClass (top 28) 21
def d_m_forget : DefD := ⟨("Shelf", some "forget"), "forget", "Shelf.forget", defArgs s_m_forget, defBody s_m_forget, defScope s_m_forget, [], []⟩
abbrev s_m_numbers : Stmt := inClass (top 28) 22
def d_m_numbers : DefD := ⟨("Shelf", some "numbers"), "numbers", "Shelf.numbers", defArgs s_m_numbers, defBody s_m_numbers, defScope s_m_numbers, [], []⟩
abbrev s_m_many : Stmt := inClass (top 28) 23
def d_m_many : DefD := ⟨("Shelf", some "many"), "many", "Shelf.many", defArgs s_m_many, defBody s_m_many, defScope s_m_many, [], []⟩
abbrev s_e_NoTwig : Stmt := inClass (top 5) 0
def d_e_NoTwig : DefD := ⟨("NoTwig", some "__init__"), "__init__", "NoTwig.__init__", defArgs s_e_NoTwig, defBody s_e_NoTwig, defScope s_e_NoTwig, [], []⟩
abbrev s_e_NotHeld : Stmt := inClass (top 6) 0
def d_e_NotHeld : DefD := ⟨("NotHeld", some "__init__"), "__init__", "NotHeld.__init__", defArgs s_e_NotHeld, defBody s_e_NotHeld, defScope s_e_NotHeld, [], []⟩
def fn0 : List DefD := [d_is_number, d_is_text, d_is_within, d_is_key, d_checked, d_rank, d_ahead, d_checked_rows, d_label_of_rows, d_label_over, d_l_well, d_l_pull, d_l_rank, d_l_less, d_l_alike, d_l_grid, d_l_leaf_rows, d_l_rows_of, d_l_label, d_l_above, d_l_shared, d_l_count, d_l_exact, d_l_asked, d_l_wrong]
def fn1 : List DefD := [d_l_unheld, d_l_picked, d_l_run, d_l_put_leaf, d_l_put_stem, d_l_begun, d_l_strange, d_l_call, d_l_unknown, d_l_amiss, d_l_rows_due, d_law, d_m_init, d_m_need, d_m_set_down, d_m_put_leaf, d_m_put_stem, d_m_need_held, d_m_hand_over, d_m_hold, d_m_let_go, d_m_sweep, d_m_outside, d_m_holders, d_m_shared_above]
def fn2 : List DefD := [d_m_alone, d_m_need_alone, d_m_change_leaf, d_m_change_stem, d_m_look, d_m_label, d_m_looked, d_m_forget, d_m_numbers, d_m_many, d_e_NoTwig, d_e_NotHeld]
def fnL : List DefD := fn0 ++ fn1 ++ fn2
theorem in_is_number : d_is_number ∈ fnL := List.mem_of_getElem? (i := 0) rfl
theorem in_is_text : d_is_text ∈ fnL := List.mem_of_getElem? (i := 1) rfl
theorem in_is_within : d_is_within ∈ fnL := List.mem_of_getElem? (i := 2) rfl
theorem in_is_key : d_is_key ∈ fnL := List.mem_of_getElem? (i := 3) rfl
theorem in_checked : d_checked ∈ fnL := List.mem_of_getElem? (i := 4) rfl
theorem in_rank : d_rank ∈ fnL := List.mem_of_getElem? (i := 5) rfl
theorem in_ahead : d_ahead ∈ fnL := List.mem_of_getElem? (i := 6) rfl
theorem in_checked_rows : d_checked_rows ∈ fnL := List.mem_of_getElem? (i := 7) rfl
theorem in_label_of_rows : d_label_of_rows ∈ fnL := List.mem_of_getElem? (i := 8) rfl
theorem in_label_over : d_label_over ∈ fnL := List.mem_of_getElem? (i := 9) rfl
theorem in_l_well : d_l_well ∈ fnL := List.mem_of_getElem? (i := 10) rfl
theorem in_l_pull : d_l_pull ∈ fnL := List.mem_of_getElem? (i := 11) rfl
theorem in_l_rank : d_l_rank ∈ fnL := List.mem_of_getElem? (i := 12) rfl
theorem in_l_less : d_l_less ∈ fnL := List.mem_of_getElem? (i := 13) rfl
theorem in_l_alike : d_l_alike ∈ fnL := List.mem_of_getElem? (i := 14) rfl
theorem in_l_grid : d_l_grid ∈ fnL := List.mem_of_getElem? (i := 15) rfl
theorem in_l_leaf_rows : d_l_leaf_rows ∈ fnL := List.mem_of_getElem? (i := 16) rfl
theorem in_l_rows_of : d_l_rows_of ∈ fnL := List.mem_of_getElem? (i := 17) rfl
theorem in_l_label : d_l_label ∈ fnL := List.mem_of_getElem? (i := 18) rfl
theorem in_l_above : d_l_above ∈ fnL := List.mem_of_getElem? (i := 19) rfl
theorem in_l_shared : d_l_shared ∈ fnL := List.mem_of_getElem? (i := 20) rfl
theorem in_l_count : d_l_count ∈ fnL := List.mem_of_getElem? (i := 21) rfl
theorem in_l_exact : d_l_exact ∈ fnL := List.mem_of_getElem? (i := 22) rfl
theorem in_l_asked : d_l_asked ∈ fnL := List.mem_of_getElem? (i := 23) rfl
theorem in_l_wrong : d_l_wrong ∈ fnL := List.mem_of_getElem? (i := 24) rfl
theorem in_l_unheld : d_l_unheld ∈ fnL := List.mem_of_getElem? (i := 25) rfl
theorem in_l_picked : d_l_picked ∈ fnL := List.mem_of_getElem? (i := 26) rfl
theorem in_l_run : d_l_run ∈ fnL := List.mem_of_getElem? (i := 27) rfl
theorem in_l_put_leaf : d_l_put_leaf ∈ fnL := List.mem_of_getElem? (i := 28) rfl
theorem in_l_put_stem : d_l_put_stem ∈ fnL := List.mem_of_getElem? (i := 29) rfl
theorem in_l_begun : d_l_begun ∈ fnL := List.mem_of_getElem? (i := 30) rfl
theorem in_l_strange : d_l_strange ∈ fnL := List.mem_of_getElem? (i := 31) rfl
theorem in_l_call : d_l_call ∈ fnL := List.mem_of_getElem? (i := 32) rfl
theorem in_l_unknown : d_l_unknown ∈ fnL := List.mem_of_getElem? (i := 33) rfl
theorem in_l_amiss : d_l_amiss ∈ fnL := List.mem_of_getElem? (i := 34) rfl
theorem in_l_rows_due : d_l_rows_due ∈ fnL := List.mem_of_getElem? (i := 35) rfl
theorem in_law : d_law ∈ fnL := List.mem_of_getElem? (i := 36) rfl
theorem in_m_init : d_m_init ∈ fnL := List.mem_of_getElem? (i := 37) rfl
theorem in_m_need : d_m_need ∈ fnL := List.mem_of_getElem? (i := 38) rfl
theorem in_m_set_down : d_m_set_down ∈ fnL := List.mem_of_getElem? (i := 39) rfl
theorem in_m_put_leaf : d_m_put_leaf ∈ fnL := List.mem_of_getElem? (i := 40) rfl
theorem in_m_put_stem : d_m_put_stem ∈ fnL := List.mem_of_getElem? (i := 41) rfl
theorem in_m_need_held : d_m_need_held ∈ fnL := List.mem_of_getElem? (i := 42) rfl
theorem in_m_hand_over : d_m_hand_over ∈ fnL := List.mem_of_getElem? (i := 43) rfl
theorem in_m_hold : d_m_hold ∈ fnL := List.mem_of_getElem? (i := 44) rfl
theorem in_m_let_go : d_m_let_go ∈ fnL := List.mem_of_getElem? (i := 45) rfl
theorem in_m_sweep : d_m_sweep ∈ fnL := List.mem_of_getElem? (i := 46) rfl
theorem in_m_outside : d_m_outside ∈ fnL := List.mem_of_getElem? (i := 47) rfl
theorem in_m_holders : d_m_holders ∈ fnL := List.mem_of_getElem? (i := 48) rfl
theorem in_m_shared_above : d_m_shared_above ∈ fnL := List.mem_of_getElem? (i := 49) rfl
theorem in_m_alone : d_m_alone ∈ fnL := List.mem_of_getElem? (i := 50) rfl
theorem in_m_need_alone : d_m_need_alone ∈ fnL := List.mem_of_getElem? (i := 51) rfl
theorem in_m_change_leaf : d_m_change_leaf ∈ fnL := List.mem_of_getElem? (i := 52) rfl
theorem in_m_change_stem : d_m_change_stem ∈ fnL := List.mem_of_getElem? (i := 53) rfl
theorem in_m_look : d_m_look ∈ fnL := List.mem_of_getElem? (i := 54) rfl
theorem in_m_label : d_m_label ∈ fnL := List.mem_of_getElem? (i := 55) rfl
theorem in_m_looked : d_m_looked ∈ fnL := List.mem_of_getElem? (i := 56) rfl
theorem in_m_forget : d_m_forget ∈ fnL := List.mem_of_getElem? (i := 57) rfl
theorem in_m_numbers : d_m_numbers ∈ fnL := List.mem_of_getElem? (i := 58) rfl
theorem in_m_many : d_m_many ∈ fnL := List.mem_of_getElem? (i := 59) rfl
theorem in_e_NoTwig : d_e_NoTwig ∈ fnL := List.mem_of_getElem? (i := 60) rfl
theorem in_e_NotHeld : d_e_NotHeld ∈ fnL := List.mem_of_getElem? (i := 61) rfl
def fa0 : List Fa := [.glo "is_number", .glo "is_text", .glo "is_within", .glo "is_key", .glo "checked", .glo "rank", .glo "ahead", .glo "checked_rows", .glo "label_of_rows", .glo "label_over", .glo "_law_well", .glo "_law_pull", .glo "_law_rank", .glo "_law_less", .glo "_law_alike", .glo "_law_grid", .glo "_law_leaf_rows", .glo "_law_rows_of", .glo "_law_label", .glo "_law_above", .glo "_law_shared", .glo "_law_count", .glo "_law_exact", .glo "_law_asked", .glo "_law_wrong", .glo "_law_unheld", .glo "_law_picked", .glo "_law_run", .glo "_law_put_leaf", .glo "_law_put_stem"]
def fa1 : List Fa := [.glo "_law_begun", .glo "_law_strange", .glo "_law_call", .glo "_law_unknown", .glo "_law_amiss", .glo "_law_rows_due", .glo "law", .glo "TwigError", .glo "NoKey", .glo "NoLeaf", .glo "NoStem", .glo "NoTwig", .glo "NotHeld", .glo "Shared", .glo "Shelf", .free "isinstance", .free "int", .free "bool", .free "str", .free "len", .free "all", .free "tuple", .free "range", .free "sum", .free "list", .free "sorted", .free "max", .free "min", .free "abs", .free "reversed"]
def fa2 : List Fa := [.free "ValueError", .free "dict", .int "SIGNS" (40), .int "WIDE" (4), .int "DEEP" (3), .int "BOUND" (10 ^ 60), .int "MOST" (4), .str "LEAF" "leaf", .str "STEM" "stem", .cls "Shelf", .mkr "Shelf", .noat "Shelf" "kept", .noat "Shelf" "tags", .noat "Shelf" "above", .noat "Shelf" "freely", .noat "Shelf" "seen", .noat "Shelf" "given", .meth "Shelf" "need", .meth "Shelf" "set_down", .meth "Shelf" "put_leaf", .meth "Shelf" "put_stem", .meth "Shelf" "need_held", .meth "Shelf" "hand_over", .meth "Shelf" "hold", .meth "Shelf" "let_go", .meth "Shelf" "sweep", .meth "Shelf" "outside", .meth "Shelf" "holders", .meth "Shelf" "shared_above", .meth "Shelf" "alone"]
def fa3 : List Fa := [.meth "Shelf" "need_alone", .meth "Shelf" "change_leaf", .meth "Shelf" "change_stem", .meth "Shelf" "look", .meth "Shelf" "label", .meth "Shelf" "looked", .meth "Shelf" "forget", .meth "Shelf" "numbers", .meth "Shelf" "many", .exc "NoKey", .exc "NoLeaf", .exc "NoStem", .exm "NoKey" "TwigError" true, .exm "NoLeaf" "TwigError" true, .exm "NoStem" "TwigError" true, .exm "NoTwig" "TwigError" true, .exm "NotHeld" "TwigError" true, .keep "NoKey", .keep "NoLeaf", .keep "NoStem", .keep "NoTwig", .keep "NotHeld"]
def faL : List Fa := fa0 ++ fa1 ++ fa2 ++ fa3
def glo0 : List Str := ["is_number", "is_text", "is_within", "is_key", "checked", "rank", "ahead", "checked_rows", "label_of_rows", "label_over", "_law_well", "_law_pull", "_law_rank", "_law_less", "_law_alike", "_law_grid", "_law_leaf_rows", "_law_rows_of", "_law_label", "_law_above", "_law_shared", "_law_count", "_law_exact", "_law_asked", "_law_wrong"]
def glo1 : List Str := ["_law_unheld", "_law_picked", "_law_run", "_law_put_leaf", "_law_put_stem", "_law_begun", "_law_strange", "_law_call", "_law_unknown", "_law_amiss", "_law_rows_due", "law", "TwigError", "NoKey", "NoLeaf", "NoStem", "NoTwig", "NotHeld", "Shared", "Shelf"]
def gloL : List Str := glo0 ++ glo1
def freeL : List Str := ["isinstance", "int", "bool", "str", "len", "all", "tuple", "range", "sum", "list", "sorted", "max", "min", "abs", "reversed", "ValueError", "dict"]
def tfL : List Defn := [("_law_put_stem", none), ("_law_unknown", none), ("_law_amiss", none)]
/-! ### own facts of the exception classes -/
def oexB (K : PySem.W.Frag) (C : Addr) : Bool := (match K.lookup C with
  | some ⟨.type "type", _, .cls cd, sl⟩ => (match cd.mro, sl.toList with
    | .ref C' :: bm, [_, _, _, _, some (.builtin n), _] => C' == C && (n == "ValueError.__new__" && (!cd.hasDel && (cd.hasDict && PySem.HandSPX.refsVE bm)))
    | _, _ => false)
  | _ => false) && (eqO (PySem.W.findIn K (.ref C) "__setattr__") (some (some (.builtin "object.__setattr__"))) && (decide (PySem.W.subIn K (.ref C) (.type "BaseException") = some true) &&
    (decide (PySem.W.typeIn K (.ref C) = some (.type "type")) && PySem.W.keepIn K (.ref C))))
theorem oexB_ok {K : PySem.W.Frag} {C : Addr} (h : oexB K C = true) : OexC K C := by
  obtain ⟨h1, h⟩ := ba h
  obtain ⟨h2, h⟩ := ba h
  obtain ⟨h3, h⟩ := ba h
  obtain ⟨h4, h5⟩ := ba h
  refine ⟨?_, eqO_ok h2, of_decide_eq_true h3, of_decide_eq_true h4, h5⟩
  split at h1
  · rename_i dd cd sl ho
    split at h1
    · rename_i C' bm k0 k1 k2 k3 n k5 hm hs
      simp only [Bool.and_eq_true, beq_iff_eq, Bool.not_eq_true'] at h1
      obtain ⟨rfl, rfl, hdel, hdi, hr⟩ := h1
      obtain ⟨nm, bs, mro, ns, qn, hd, sn, sub, ab, col, del⟩ := cd
      dsimp only at hm hdel hdi
      subst hm hdel hdi
      have hsl : sl = #[k0, k1, k2, k3, some (.builtin "ValueError.__new__"), k5] := by
        obtain ⟨l⟩ := sl
        simp only at hs
        rw [hs]
      subst hsl
      exact ⟨nm, qn, ns, bs, bm, sn, sub, ab, col, dd, k0, k1, k2, k3, k5, ho, hr⟩
    · cases h1
  · cases h1
def excB (K : PySem.W.Frag) (D : Addr) : Bool := xfB K D && (eqO (PySem.W.findIn K (.ref D) "__class__") (some (some (.builtin "object.__class__"))) && (eqO (PySem.W.specialIn K (.builtin "object.__class__") "__get__") (some (some (.builtin "getset_descriptor.__get__"))) &&
  (decide (PySem.W.takesIn K (.builtin "object.__class__") = some true) && decide (PySem.W.mroIn K D (.type "object") = some true))))
theorem excB_ok {K : PySem.W.Frag} {D : Addr} (h : excB K D = true) : ExcC K D := by
  obtain ⟨h1, h⟩ := ba h
  obtain ⟨h2, h⟩ := ba h
  obtain ⟨h3, h⟩ := ba h
  obtain ⟨h4, h5⟩ := ba h
  have x := xfB_ok h1
  exact ⟨x.ga, x.gg, x.exC, x.hdC, eqO_ok h2, eqO_ok h3, of_decide_eq_true h4, of_decide_eq_true h5⟩
def isVal (o : Option PySem.W.CFound) (i : String) : Bool := match o with
  | some (.val (.builtin j)) => decide (j = i)
  | _ => false
theorem isVal_ok {o : Option PySem.W.CFound} {i : String} (h : isVal o i = true) : o = some (.val (.builtin i)) := by
  unfold isVal at h
  split at h
  · rw [of_decide_eq_true h]
  · cases h
/-- TwigError.__init__, read off the class -/
def twiB (K : PySem.W.Frag) (C : Addr) : Bool := PySem.W.readsIn K C (.type "type") && (eqO (PySem.W.specialIn K (.ref C) "__getattribute__") (some (some (.builtin "type.__getattribute__"))) && isVal (PySem.W.findCls K (.ref C) (.type "type") "__init__") "ValueError.__init__")
def kitB (K : PySem.W.Frag) (x y : Str) (b : Bool) : Bool := decide (PySem.W.kitOne K (.ref (ga K x)) (.ref (ga K y)) = some b)
def excL : List Str := ["NoKey", "NoLeaf", "NoStem", "NoTwig", "NotHeld"]
def askL : List Str := ["NoKey", "NoLeaf", "NoStem", "NoTwig", "NotHeld", "Shared"]
def initB (K : PySem.W.Frag) (x : Str) : Bool := oexB K (ga K x) && (eqO (PySem.W.findIn K (.ref (ga K x)) "number") (some none) && (eqO (PySem.W.findIn K (.ref (ga K x)) "__init__") (some (some (.ref (ma K (ga K x) "__init__")))) &&
  decide (PySem.W.typeIn K (.ref (ma K (ga K x) "__init__")) = some (.type "function"))))
def kitsB (K : PySem.W.Frag) : Bool := excL.all fun x => askL.all fun y => kitB K x y (decide (x = y))
def kitVB (K : PySem.W.Frag) : Bool := excL.all fun x => decide (PySem.W.kitOne K (.ref (ga K x)) (.type "ValueError") = some true)
def exB (K : PySem.W.Frag) : Bool := (excL.all fun x => excB K (ga K x)) && (initB K "NoTwig" && (initB K "NotHeld" && (twiB K (ga K "TwigError") && (kitsB K && kitVB K))))
/-- the defs' tables are apart -/
def nodB (K : PySem.W.Frag) : Bool := decide ((tfL.map fun p => (cT K p).2).Nodup)
/-- what the top has written, for the walk -/
structure Tx (K : PySem.W.Frag) (mg : Str → Option Value) : Prop where
  fa : ∀ f ∈ faL, f.ok K = true
  fn : ∀ d ∈ fnL, ∃ fd, FunD K d.name d.qual d.params d.body d.scope (d.dvs K) (d.kws K) (fAd K d.at_) fd
  gl : ∀ x ∈ gloL, mg x = some (.ref (ga K x))
  fr : ∀ x ∈ freeL, mg x = none
  int : ∀ x i, Fa.int x i ∈ faL → ∃ t, mg x = some (.int i t)
  str : ∀ x z, Fa.str x z ∈ faL → ∃ t, mg x = some (.str z t)
  ex : exB K = true
  hd : ∀ p ∈ tfL, PySem.W.codeHdIn K (cT K p).1 (cT K p).2 = true
  tn : nodB K = true

section
variable {K : PySem.W.Frag} {mg : Str → Option Value}
theorem Tx.i_SIGNS (T : Tx K mg) : ∃ t, mg "SIGNS" = some (.int (40) t) := T.int _ _ (List.mem_of_getElem? (i := 62) rfl)
theorem Tx.i_WIDE (T : Tx K mg) : ∃ t, mg "WIDE" = some (.int (4) t) := T.int _ _ (List.mem_of_getElem? (i := 63) rfl)
theorem Tx.i_DEEP (T : Tx K mg) : ∃ t, mg "DEEP" = some (.int (3) t) := T.int _ _ (List.mem_of_getElem? (i := 64) rfl)
theorem Tx.i_BOUND (T : Tx K mg) : ∃ t, mg "BOUND" = some (.int (10 ^ 60) t) := T.int _ _ (List.mem_of_getElem? (i := 65) rfl)
theorem Tx.i_MOST (T : Tx K mg) : ∃ t, mg "MOST" = some (.int (4) t) := T.int _ _ (List.mem_of_getElem? (i := 66) rfl)
theorem Tx.s_LEAF (T : Tx K mg) : ∃ t, mg "LEAF" = some (.str "leaf" t) := T.str _ _ (List.mem_of_getElem? (i := 67) rfl)
theorem Tx.s_STEM (T : Tx K mg) : ∃ t, mg "STEM" = some (.str "stem" t) := T.str _ _ (List.mem_of_getElem? (i := 68) rfl)
theorem Tx.cl (T : Tx K mg) : Cls K (ga K "Shelf") := cls_ok (T.fa _ (List.mem_of_getElem? (i := 69) rfl))
theorem Tx.mkS (T : Tx K mg) : Mk K (ga K "Shelf") (ma K (ga K "Shelf") "__init__") := mkr_ok (T.fa _ (List.mem_of_getElem? (i := 70) rfl))
theorem Tx.na_kept (T : Tx K mg) : NoAttr K (ga K "Shelf") "kept" := noat_ok (T.fa _ (List.mem_of_getElem? (i := 71) rfl))
theorem Tx.na_tags (T : Tx K mg) : NoAttr K (ga K "Shelf") "tags" := noat_ok (T.fa _ (List.mem_of_getElem? (i := 72) rfl))
theorem Tx.na_above (T : Tx K mg) : NoAttr K (ga K "Shelf") "above" := noat_ok (T.fa _ (List.mem_of_getElem? (i := 73) rfl))
theorem Tx.na_freely (T : Tx K mg) : NoAttr K (ga K "Shelf") "freely" := noat_ok (T.fa _ (List.mem_of_getElem? (i := 74) rfl))
theorem Tx.na_seen (T : Tx K mg) : NoAttr K (ga K "Shelf") "seen" := noat_ok (T.fa _ (List.mem_of_getElem? (i := 75) rfl))
theorem Tx.na_given (T : Tx K mg) : NoAttr K (ga K "Shelf") "given" := noat_ok (T.fa _ (List.mem_of_getElem? (i := 76) rfl))
theorem Tx.me_need (T : Tx K mg) : Meth K (ga K "Shelf") "need" (ma K (ga K "Shelf") "need") := meth_ok (T.fa _ (List.mem_of_getElem? (i := 77) rfl))
theorem Tx.me_set_down (T : Tx K mg) : Meth K (ga K "Shelf") "set_down" (ma K (ga K "Shelf") "set_down") := meth_ok (T.fa _ (List.mem_of_getElem? (i := 78) rfl))
theorem Tx.me_put_leaf (T : Tx K mg) : Meth K (ga K "Shelf") "put_leaf" (ma K (ga K "Shelf") "put_leaf") := meth_ok (T.fa _ (List.mem_of_getElem? (i := 79) rfl))
theorem Tx.me_put_stem (T : Tx K mg) : Meth K (ga K "Shelf") "put_stem" (ma K (ga K "Shelf") "put_stem") := meth_ok (T.fa _ (List.mem_of_getElem? (i := 80) rfl))
theorem Tx.me_need_held (T : Tx K mg) : Meth K (ga K "Shelf") "need_held" (ma K (ga K "Shelf") "need_held") := meth_ok (T.fa _ (List.mem_of_getElem? (i := 81) rfl))
theorem Tx.me_hand_over (T : Tx K mg) : Meth K (ga K "Shelf") "hand_over" (ma K (ga K "Shelf") "hand_over") := meth_ok (T.fa _ (List.mem_of_getElem? (i := 82) rfl))
theorem Tx.me_hold (T : Tx K mg) : Meth K (ga K "Shelf") "hold" (ma K (ga K "Shelf") "hold") := meth_ok (T.fa _ (List.mem_of_getElem? (i := 83) rfl))
theorem Tx.me_let_go (T : Tx K mg) : Meth K (ga K "Shelf") "let_go" (ma K (ga K "Shelf") "let_go") := meth_ok (T.fa _ (List.mem_of_getElem? (i := 84) rfl))
theorem Tx.me_sweep (T : Tx K mg) : Meth K (ga K "Shelf") "sweep" (ma K (ga K "Shelf") "sweep") := meth_ok (T.fa _ (List.mem_of_getElem? (i := 85) rfl))
theorem Tx.me_outside (T : Tx K mg) : Meth K (ga K "Shelf") "outside" (ma K (ga K "Shelf") "outside") := meth_ok (T.fa _ (List.mem_of_getElem? (i := 86) rfl))
theorem Tx.me_holders (T : Tx K mg) : Meth K (ga K "Shelf") "holders" (ma K (ga K "Shelf") "holders") := meth_ok (T.fa _ (List.mem_of_getElem? (i := 87) rfl))
theorem Tx.me_shared_above (T : Tx K mg) : Meth K (ga K "Shelf") "shared_above" (ma K (ga K "Shelf") "shared_above") := meth_ok (T.fa _ (List.mem_of_getElem? (i := 88) rfl))
theorem Tx.me_alone (T : Tx K mg) : Meth K (ga K "Shelf") "alone" (ma K (ga K "Shelf") "alone") := meth_ok (T.fa _ (List.mem_of_getElem? (i := 89) rfl))
theorem Tx.me_need_alone (T : Tx K mg) : Meth K (ga K "Shelf") "need_alone" (ma K (ga K "Shelf") "need_alone") := meth_ok (T.fa _ (List.mem_of_getElem? (i := 90) rfl))
theorem Tx.me_change_leaf (T : Tx K mg) : Meth K (ga K "Shelf") "change_leaf" (ma K (ga K "Shelf") "change_leaf") := meth_ok (T.fa _ (List.mem_of_getElem? (i := 91) rfl))
theorem Tx.me_change_stem (T : Tx K mg) : Meth K (ga K "Shelf") "change_stem" (ma K (ga K "Shelf") "change_stem") := meth_ok (T.fa _ (List.mem_of_getElem? (i := 92) rfl))
theorem Tx.me_look (T : Tx K mg) : Meth K (ga K "Shelf") "look" (ma K (ga K "Shelf") "look") := meth_ok (T.fa _ (List.mem_of_getElem? (i := 93) rfl))
theorem Tx.me_label (T : Tx K mg) : Meth K (ga K "Shelf") "label" (ma K (ga K "Shelf") "label") := meth_ok (T.fa _ (List.mem_of_getElem? (i := 94) rfl))
theorem Tx.me_looked (T : Tx K mg) : Meth K (ga K "Shelf") "looked" (ma K (ga K "Shelf") "looked") := meth_ok (T.fa _ (List.mem_of_getElem? (i := 95) rfl))
theorem Tx.me_forget (T : Tx K mg) : Meth K (ga K "Shelf") "forget" (ma K (ga K "Shelf") "forget") := meth_ok (T.fa _ (List.mem_of_getElem? (i := 96) rfl))
theorem Tx.me_numbers (T : Tx K mg) : Meth K (ga K "Shelf") "numbers" (ma K (ga K "Shelf") "numbers") := meth_ok (T.fa _ (List.mem_of_getElem? (i := 97) rfl))
theorem Tx.me_many (T : Tx K mg) : Meth K (ga K "Shelf") "many" (ma K (ga K "Shelf") "many") := meth_ok (T.fa _ (List.mem_of_getElem? (i := 98) rfl))
theorem Tx.ex_NoKey (T : Tx K mg) : PySem.W.excIn K (ga K "NoKey") veBase "ValueError.__new__" = true ∧ PySem.W.keepIn K (.ref (ga K "NoKey")) = true ∧ PySem.W.subIn K (.ref (ga K "NoKey")) (.type "BaseException") = some true ∧ PySem.W.typeIn K (.ref (ga K "NoKey")) = some (.type "type") := exc_ok (T.fa _ (List.mem_of_getElem? (i := 99) rfl))
theorem Tx.ex_NoLeaf (T : Tx K mg) : PySem.W.excIn K (ga K "NoLeaf") veBase "ValueError.__new__" = true ∧ PySem.W.keepIn K (.ref (ga K "NoLeaf")) = true ∧ PySem.W.subIn K (.ref (ga K "NoLeaf")) (.type "BaseException") = some true ∧ PySem.W.typeIn K (.ref (ga K "NoLeaf")) = some (.type "type") := exc_ok (T.fa _ (List.mem_of_getElem? (i := 100) rfl))
theorem Tx.ex_NoStem (T : Tx K mg) : PySem.W.excIn K (ga K "NoStem") veBase "ValueError.__new__" = true ∧ PySem.W.keepIn K (.ref (ga K "NoStem")) = true ∧ PySem.W.subIn K (.ref (ga K "NoStem")) (.type "BaseException") = some true ∧ PySem.W.typeIn K (.ref (ga K "NoStem")) = some (.type "type") := exc_ok (T.fa _ (List.mem_of_getElem? (i := 101) rfl))
theorem Tx.em_NoKey (T : Tx K mg) : PySem.W.exmOne K (.ref (ga K "NoKey")) (.ref (ga K "TwigError")) = some true := exm_ok (T.fa _ (List.mem_of_getElem? (i := 102) rfl))
theorem Tx.em_NoLeaf (T : Tx K mg) : PySem.W.exmOne K (.ref (ga K "NoLeaf")) (.ref (ga K "TwigError")) = some true := exm_ok (T.fa _ (List.mem_of_getElem? (i := 103) rfl))
theorem Tx.em_NoStem (T : Tx K mg) : PySem.W.exmOne K (.ref (ga K "NoStem")) (.ref (ga K "TwigError")) = some true := exm_ok (T.fa _ (List.mem_of_getElem? (i := 104) rfl))
theorem Tx.em_NoTwig (T : Tx K mg) : PySem.W.exmOne K (.ref (ga K "NoTwig")) (.ref (ga K "TwigError")) = some true := exm_ok (T.fa _ (List.mem_of_getElem? (i := 105) rfl))
theorem Tx.em_NotHeld (T : Tx K mg) : PySem.W.exmOne K (.ref (ga K "NotHeld")) (.ref (ga K "TwigError")) = some true := exm_ok (T.fa _ (List.mem_of_getElem? (i := 106) rfl))
theorem Tx.ke_NoKey (T : Tx K mg) : PySem.W.keepIn K (.ref (ga K "NoKey")) = true := keep_ok (T.fa _ (List.mem_of_getElem? (i := 107) rfl))
theorem Tx.ke_NoLeaf (T : Tx K mg) : PySem.W.keepIn K (.ref (ga K "NoLeaf")) = true := keep_ok (T.fa _ (List.mem_of_getElem? (i := 108) rfl))
theorem Tx.ke_NoStem (T : Tx K mg) : PySem.W.keepIn K (.ref (ga K "NoStem")) = true := keep_ok (T.fa _ (List.mem_of_getElem? (i := 109) rfl))
theorem Tx.ke_NoTwig (T : Tx K mg) : PySem.W.keepIn K (.ref (ga K "NoTwig")) = true := keep_ok (T.fa _ (List.mem_of_getElem? (i := 110) rfl))
theorem Tx.ke_NotHeld (T : Tx K mg) : PySem.W.keepIn K (.ref (ga K "NotHeld")) = true := keep_ok (T.fa _ (List.mem_of_getElem? (i := 111) rfl))
end
end Tw

namespace Tw
open PySem PySem.Spec PyProof.Rows L2 PySem.W
/-! ### keys, their rank, their order -/
mutual
def rankD : PyData → PyData
  | .int i => .tuple [.int 0, .int i, .str "", .tuple []]
  | .str x => .tuple [.int 1, .int 0, .str x, .tuple []]
  | .tuple ds => .tuple [.int 2, .int 0, .str "", .tuple (rankDs ds)]
  | _ => .tuple [.int 3, .int 0, .str "", .tuple []]
def rankDs : List PyData → List PyData
  | [] => []
  | d :: ds => rankD d :: rankDs ds
end
def ah (a b : PyData) : Bool := dataLt (rankD a) (rankD b)
theorem alike4 {i j a b : Int} {x y : Str} {ds es : List PyData} (h : alikeAll ds es = true) : alike (.tuple [.int i, .int a, .str x, .tuple ds]) (.tuple [.int j, .int b, .str y, .tuple es]) = true := by
  simp only [alike, alikeAll, h, Bool.and_self]
mutual
theorem rank_alike : ∀ a b : PyData, alike (rankD a) (rankD b) = true := fun a b => by
  cases a <;> cases b <;> simp only [rankD] <;> refine alike4 ?_ <;> first | (simp only [alikeAll]; done) | exact rankDs_alike _ _ | skip
  all_goals first | (simp only [alikeAll]; done) | (cases (rankDs _) <;> simp only [alikeAll])
theorem rankDs_alike : ∀ as bs : List PyData, alikeAll (rankDs as) (rankDs bs) = true
  | [], _ => by simp only [rankDs, alikeAll]
  | _ :: _, [] => by simp only [rankDs, alikeAll]
  | a :: as, b :: bs => by
    simp only [rankDs, alikeAll]
    rw [rank_alike a b, rankDs_alike as bs]
    rfl
end
theorem ah_irr (a : PyData) : ah a a = false := by
  unfold ah
  exact lex_irrefl (O := itemOrd) _
theorem ah_trans {a b c : PyData} (h1 : ah a b = true) (h2 : ah b c = true) : ah a c = true := lex_trans (O := itemOrd) _ _ _ h1 h2
/-- equal or ahead -/
def ahe (a b : PyData) : Prop := a = b ∨ ah a b = true
theorem ahe_ah {a b c : PyData} (h1 : ahe a b) (h2 : ah b c = true) : ah a c = true := by
  rcases h1 with h | h
  · rw [h]; exact h2
  · exact ah_trans h h2
theorem ah_ahe {a b c : PyData} (h1 : ah a b = true) (h2 : ahe b c) : ah a c = true := by
  rcases h2 with h | h
  · rw [← h]; exact h1
  · exact ah_trans h1 h
theorem ahe_trans {a b c : PyData} (h1 : ahe a b) (h2 : ahe b c) : ahe a c := by
  rcases h1 with h | h
  · rw [h]; exact h2
  · exact .inr (ah_ahe h h2)
theorem eqv_int (i j : Int) : PyData.eqv (.int i) (.int j) = decide (i = j) := by
  simp only [PyData.eqv]
  exact Bool.beq_eq_decide_eq i j
theorem al_int (i j : Int) : alike (.int i) (.int j) = true := by simp only [alike]
/-- two tuples that differ at their first place, by ints -/
theorem lt_first {i j : Int} {xs ys : List PyData} (h : i < j) : dataLt (.tuple (.int i :: xs)) (.tuple (.int j :: ys)) = true := by
  rw [dataLt_tuple, dataLt_all_no (al_int i j) (by rw [eqv_int]; exact decide_eq_false (Int.ne_of_lt h)), dataLt_int]
  exact decide_eq_true h
theorem lt_next {x y : PyData} {xs ys : List PyData} (ha : alike x y = true) (he : PyData.eqv x y = true) (h : dataLt (.tuple xs) (.tuple ys) = true) : dataLt (.tuple (x :: xs)) (.tuple (y :: ys)) = true := by
  rw [dataLt_tuple, dataLt_all_yes ha he]
  rw [dataLt_tuple] at h
  exact h
theorem lt_here {x y : PyData} {xs ys : List PyData} (ha : alike x y = true) (he : PyData.eqv x y = false) (h : dataLt x y = true) : dataLt (.tuple (x :: xs)) (.tuple (y :: ys)) = true := by
  rw [dataLt_tuple, dataLt_all_no ha he]
  exact h
theorem eqv_int_self (i : Int) : PyData.eqv (.int i) (.int i) = true := by rw [eqv_int]; exact decide_eq_true rfl
theorem al_str (x y : Str) : alike (.str x) (.str y) = true := by simp only [alike]
theorem eqv_str_self (x : Str) : PyData.eqv (.str x) (.str x) = true := by simp [PyData.eqv]
theorem ah_int {i j : Int} (h : i < j) : ah (.int i) (.int j) = true := by
  show dataLt (rankD (.int i)) (rankD (.int j)) = true
  simp only [rankD]
  exact lt_next (al_int _ _) (eqv_int_self _) (lt_first h)
theorem ah_int_not {i j : Int} (h : j < i) : ah (.int i) (.int j) = false := by
  cases e : ah (.int i) (.int j) with
  | false => rfl
  | true =>
    have q := ah_trans e (ah_int h)
    rw [ah_irr] at q
    cases q
theorem ah_int_str (i : Int) (x : Str) : ah (.int i) (.str x) = true := by
  show dataLt (rankD (.int i)) (rankD (.str x)) = true
  simp only [rankD]
  exact lt_first (by decide)
theorem ah_int_tup (i : Int) (ds : List PyData) : ah (.int i) (.tuple ds) = true := by
  show dataLt (rankD (.int i)) (rankD (.tuple ds)) = true
  simp only [rankD]
  exact lt_first (by decide)
theorem ah_str_tup (x : Str) (ds : List PyData) : ah (.str x) (.tuple ds) = true := by
  show dataLt (rankD (.str x)) (rankD (.tuple ds)) = true
  simp only [rankD]
  exact lt_first (by decide)
theorem ah_str {x y : Str} (h : x.cps.toList < y.cps.toList) : ah (.str x) (.str y) = true := by
  show dataLt (rankD (.str x)) (rankD (.str y)) = true
  simp only [rankD]
  refine lt_next (al_int _ _) (eqv_int_self _) (lt_next (al_int _ _) (eqv_int_self _) (lt_here (al_str _ _) ?_ (by rw [dataLt_str]; exact decide_eq_true h)))
  cases e : PyData.eqv (.str x) (.str y) with
  | false => rfl
  | true =>
    exfalso
    have q : x = y := by simpa [PyData.eqv] using e
    rw [q] at h
    exact absurd h (List.lt_irrefl _)
/-- ("", n, ..) -/
theorem ah_tup {i j : Int} {xs ys : List PyData} (h : i < j) : ah (.tuple (.str "" :: .int i :: xs)) (.tuple (.str "" :: .int j :: ys)) = true := by
  show dataLt (rankD _) (rankD _) = true
  simp only [rankD, rankDs]
  refine lt_next (al_int _ _) (eqv_int_self _) (lt_next (al_int _ _) (eqv_int_self _) (lt_next (al_str _ _) (eqv_str_self _) ?_))
  refine lt_here ?_ ?_ ?_
  · simp only [alike, alikeAll, rankDs_alike, Bool.and_self, Bool.and_true]
  · simp only [PyData.eqv, PyData.eqvAll, Bool.and_true, Bool.true_and]
    have e : (i == j) = false := beq_eq_false_iff_ne.mpr (Int.ne_of_lt h)
    simp [e]
  · refine lt_next ?_ ?_ (lt_here ?_ ?_ ?_)
    · simp only [alike, alikeAll, Bool.and_self, Bool.and_true]
    · simp [PyData.eqv, PyData.eqvAll]
    · simp only [alike, alikeAll, Bool.and_self, Bool.and_true]
    · have e : (i == j) = false := beq_eq_false_iff_ne.mpr (Int.ne_of_lt h)
      simp [PyData.eqv, PyData.eqvAll, e]
    · exact lt_next (al_int _ _) (eqv_int_self _) (lt_first h)
end Tw

namespace Tw
open PySem PySem.Spec PyProof.Rows L2 He
def lo0 : List Str := ["TwigError", "NoKey", "NoLeaf", "NoStem", "NoTwig", "NotHeld", "Shared", "SIGNS", "WIDE", "DEEP", "BOUND", "MOST", "LEAF", "STEM", "Shelf", "is_number", "is_text", "is_within", "is_key", "checked", "rank", "ahead", "checked_rows", "label_of_rows", "label_over", "_law_well", "_law_pull", "_law_rank", "_law_less", "_law_alike"]
def lo1 : List Str := ["_law_grid", "_law_leaf_rows", "_law_rows_of", "_law_label", "_law_above", "_law_shared", "_law_count", "_law_exact", "_law_asked", "_law_wrong", "_law_unheld", "_law_picked", "_law_run", "_law_put_leaf", "_law_put_stem", "_law_begun", "_law_strange", "_law_call", "_law_unknown", "_law_amiss", "_law_rows_due", "_law_swept", "_law_rises"]
def loL : List Str := lo0 ++ lo1

abbrev R : PySem.W.OpenRow := PySem.W.OpenLaw.row PySem.Challenge.rw_twigmap_k23_refused_of_the_shelf
/-- the places looked at: what the module's names reach, and the statics -/
def asY (g : Addr → Option Obj) : List Addr := asD g 5 ++ [cStatics]
abbrev fragY (g : Addr → Option Obj) : PySem.W.Frag := frT g (asY g)
abbrev AlY : Type := AlD × Bool
def obsY (g : Addr → Option Obj) : AlY := (obsD faL fnL (fragY g), exB (fragY g) && (nodB (fragY g) && tabsB g tfL (fragY g)))
def valY : AlY := (valD fnL, true)
structure SaysY (h : Heap) (K : PySem.W.Frag) : Prop where
  d : SaysD faL fnL K
  ex : exB K = true
  tn : nodB K = true
  hd : ∀ p ∈ tfL, PySem.W.codeHdIn K (cT K p).1 (cT K p).2 = true
  out : ∀ p ∈ tfL, K.lookup (cT K p).2 = none
  empty : ∀ p ∈ tfL, h.get? (cT K p).2 = some { cls := .none, data := .fields #[] }
theorem saysY_of {h : Heap} (e : obsY h.get? = valY) : SaysY h (fragY h.get?) := by
  have e1 : obsD faL fnL (fragY h.get?) = valD fnL := congrArg (fun z : AlY => z.1) e
  have e2 : (exB (fragY h.get?) && (nodB (fragY h.get?) && tabsB h.get? tfL (fragY h.get?))) = true := congrArg (fun z : AlY => z.2) e
  obtain ⟨h1, h20⟩ := ba e2
  obtain ⟨hn, h2⟩ := ba h20
  have key : ∀ p ∈ tfL, PySem.W.codeHdIn (fragY h.get?) (cT (fragY h.get?) p).1 (cT (fragY h.get?) p).2 = true ∧ ∃ o, h.get? (cT (fragY h.get?) p).2 = some o ∧ emptyTab o = true := fun p hp => by
    obtain ⟨h3, h4⟩ := ba (List.all_eq_true.mp h2 p hp)
    refine ⟨h3, ?_⟩
    cases q : h.get? (cT (fragY h.get?) p).2 with
    | none =>
      rw [q] at h4
      cases h4
    | some o =>
      rw [q] at h4
      exact ⟨o, rfl, h4⟩
  exact ⟨e1, h1, hn, fun p hp => (key p hp).1, fun p hp => by
    obtain ⟨_, o, q, z⟩ := key p hp
    exact frT_none q z, fun p hp => by
    obtain ⟨_, o, q, z⟩ := key p hp
    rw [q, emptyTab_eq z]⟩
def hkY : PySem.W.Hook where
  α := AlY
  obs := fun s => obsY s.heap.get?
  val := fun _ => valY
  says := fun _ h => ∃ K : PySem.W.Frag, K.In h ∧ SaysY h K
  of := fun _ _ e => ⟨_, frT_in, saysY_of e⟩
  keeps := fun _ _ _ ⟨K, hK, c⟩ k => ⟨K, PySem.W.Frag.In.keeps hK k, ⟨c.d, c.ex, c.tn, c.hd, c.out, fun p hp => k _ _ (c.empty p hp)⟩⟩
def obY (s : PySem.W.SharedT) : AlY := obsY (HandSHeadRun.getT s)
theorem obY_eq (s : PySem.W.SharedT) : obY s = hkY.obs s.abs := by
  have e : HandSHeadRun.getT s = s.abs.heap.get? := funext (HandSHeadRun.getT_eq s)
  unfold obY
  rw [e] <;> rfl
theorem run (w : World) : HandSHeadRun.RunEq R (PySem.W.view R.prog [58]) hkY obY 12000 loL w := by
  intro os
  kernel_rfl
end Tw

namespace Tw
open PySem PySem.Spec PyProof.Rows L2 He
/-! ### frames: what stays -/
/-- what a method may write -/
def Mt : HO → Prop
  | .lst _ => True
  | .dK _ => True
  | .ins _ _ _ => True
  | _ => False
/-- all stays but lists, dicts, instances at M -/
def Fr (M : Addr → Prop) (H H' : Hp) : Prop := ∀ b o, H b = some o → H' b = some o ∨ (M b ∧ Mt o)
abbrev M0 : Addr → Prop := fun _ => False
theorem Fr.refl {M : Addr → Prop} (H : Hp) : Fr M H H := fun _ _ h => .inl h
theorem Fr.of {M : Addr → Prop} {H H' : Hp} (h : Same H H') : Fr M H H' := fun b o e => .inl (h b o e)
theorem Fr.same {H H' : Hp} (h : Fr M0 H H') : Same H H' := fun b o e => (h b o e).resolve_right fun z => z.1
theorem Fr.trans {M : Addr → Prop} {H H1 H2 : Hp} (a : Fr M H H1) (b : Fr M H1 H2) : Fr M H H2 := fun c o h => by
  rcases a c o h with h1 | h1
  · exact b c o h1
  · exact .inr h1
theorem Fr.mono {M N : Addr → Prop} {H H' : Hp} (h : Fr M H H') (k : ∀ b o, H b = some o → M b → N b) : Fr N H H' := fun b o e => (h b o e).imp id fun z => ⟨k b o e z.1, z.2⟩
/-- behind: what is changed there was not here, or is of ours -/
theorem Fr.and {M N : Addr → Prop} {H H1 H2 : Hp} (a : Fr M H H1) (b : Fr N H1 H2) (k : ∀ c o, H c = some o → N c → M c) : Fr M H H2 := fun c o h => by
  rcases a c o h with h1 | h1
  · exact (b c o h1).imp id fun z => ⟨k c o h z.1, z.2⟩
  · exact .inr h1
theorem Fr.free {M : Addr → Prop} {H H' : Hp} (h : Fr M H H') {l : Addr} (hm : ¬ M l) (e : H' l = none) : H l = none := by
  cases q : H l with
  | none => rfl
  | some o =>
    rcases h l o q with z | z
    · rw [e] at z; cases z
    · exact absurd z.1 hm
theorem Fr.at {M : Addr → Prop} {H H' : Hp} (h : Fr M H H') {b : Addr} {o : HO} (hm : ¬ M b) (e : H b = some o) : H' b = some o := (h b o e).resolve_right fun z => hm z.1
theorem Fr.tup {M : Addr → Prop} {H H' : Hp} (h : Fr M H H') {b : Addr} {xs : List V} (e : H b = some (.tup xs)) : H' b = some (.tup xs) := (h b _ e).resolve_right fun z => z.2
theorem Fr.imm {M : Addr → Prop} {H H' : Hp} (h : Fr M H H') {b : Addr} {o : HO} (hm : ¬ Mt o) (e : H b = some o) : H' b = some o := (h b _ e).resolve_right fun z => hm z.2
theorem Fr.lay {M : Addr → Prop} {H H' : Hp} {a : Addr} {o : HO} (h : Fr M H H') (hn : H a = none) : Fr M H (upd H' a o) := fun b u e => by
  have hb : b ≠ a := ne_of_none e hn
  rw [upd_ne hb]
  exact h b u e
/-- a new object -/
theorem Fr.new {M : Addr → Prop} {H H' : Hp} {a : Addr} {o : HO} (h : Fr M H H') (hm : ¬ M a) (hn : H' a = none) : Fr M H (L2.upd H' a o) := h.lay (h.free hm hn)
theorem same_upd {H : Hp} {a : Addr} {o : HO} (hn : H a = none) : Same H (upd H a o) := fun b u e => by
  rw [upd_ne (ne_of_none e hn)]
  exact e
/-- a list, a dict, an instance of M written -/
theorem Fr.put {M : Addr → Prop} {H H' : Hp} {a : Addr} {o u : HO} (h : Fr M H H') (hm : M a) (e : H' a = some u) (hu : Mt u) : Fr M H (upd H' a o) := fun b v q => by
  rcases h b v q with z | z
  · by_cases hb : b = a
    · subst hb
      rw [e] at z
      cases z
      exact .inr ⟨hm, hu⟩
    · rw [upd_ne hb]
      exact .inl z
  · exact .inr z
/-! ### data of numbers, texts, truth values, None, tuples: nothing that changes -/
mutual
inductive Da (H : Hp) : V → PyData → Prop
  | non : Da H .non .none
  | bl (b : Bool) : Da H (.bl b) (.bool b)
  | int (i : Int) : Da H (.int i) (.int i)
  | str (x : Str) : Da H (.str x) (.str x)
  | tup {a : Addr} {xs : List V} {ds : List PyData} : H a = some (.tup xs) → DaL H xs ds → Da H (.ref a) (.tuple ds)
inductive DaL (H : Hp) : List V → List PyData → Prop
  | nil : DaL H [] []
  | cons {v : V} {vs : List V} {d : PyData} {ds : List PyData} : Da H v d → DaL H vs ds → DaL H (v :: vs) (d :: ds)
end
mutual
theorem Da.ext {H H' : Hp} (k : ∀ b xs, H b = some (.tup xs) → H' b = some (.tup xs)) : ∀ (d : PyData) (v : V), Da H v d → Da H' v d
  | .none, _, h => by cases h; exact .non
  | .bool b, _, h => by cases h; exact .bl b
  | .int i, _, h => by cases h; exact .int i
  | .str x, _, h => by cases h; exact .str x
  | .list _, _, h => nomatch h
  | .dict _, _, h => nomatch h
  | .tuple ds, _, h => by
    cases h with
    | tup e hs => exact .tup (k _ _ e) (DaL.ext k ds _ hs)
theorem DaL.ext {H H' : Hp} (k : ∀ b xs, H b = some (.tup xs) → H' b = some (.tup xs)) : ∀ (ds : List PyData) (vs : List V), DaL H vs ds → DaL H' vs ds
  | [], _, h => by cases h; exact .nil
  | d :: ds, _, h => by
    cases h with
    | cons h1 h2 => exact .cons (Da.ext k d _ h1) (DaL.ext k ds _ h2)
end
mutual
theorem Da.dp {K : PySem.W.Frag} {H : Hp} : ∀ (d : PyData) (v : V), Da H v d → Dp K H v d
  | .none, _, h => by cases h; exact .non
  | .bool b, _, h => by cases h; exact .bl b
  | .int i, _, h => by cases h; exact .int i
  | .str x, _, h => by cases h; exact .str x
  | .list _, _, h => nomatch h
  | .dict _, _, h => nomatch h
  | .tuple ds, _, h => by
    cases h with
    | tup e hs => exact .tup (SqT.of e) (DaL.dp ds _ hs)
theorem DaL.dp {K : PySem.W.Frag} {H : Hp} : ∀ (ds : List PyData) (vs : List V), DaL H vs ds → DpAll K H vs ds
  | [], _, h => by cases h; exact .nil
  | d :: ds, _, h => by
    cases h with
    | cons h1 h2 => exact .cons (Da.dp d _ h1) (DaL.dp ds _ h2)
end
theorem Da.fr {M : Addr → Prop} {H H' : Hp} (k : Fr M H H') {d : PyData} {v : V} (h : Da H v d) : Da H' v d := Da.ext (fun _ _ e => k.tup e) d v h
theorem DaL.fr {M : Addr → Prop} {H H' : Hp} (k : Fr M H H') {ds : List PyData} {vs : List V} (h : DaL H vs ds) : DaL H' vs ds := DaL.ext (fun _ _ e => k.tup e) ds vs h
theorem Da.same {H H' : Hp} (k : Same H H') {d : PyData} {v : V} (h : Da H v d) : Da H' v d := Da.ext (fun _ _ e => k _ _ e) d v h
theorem DaL.same {H H' : Hp} (k : Same H H') {ds : List PyData} {vs : List V} (h : DaL H vs ds) : DaL H' vs ds := DaL.ext (fun _ _ e => k _ _ e) ds vs h
theorem DaL.length {H : Hp} : ∀ {ds : List PyData} {vs : List V}, DaL H vs ds → vs.length = ds.length
  | [], _, h => by cases h; rfl
  | d :: ds, _, h => by
    cases h with
    | cons h1 h2 => simp [DaL.length h2]
theorem DaL.get {H : Hp} : ∀ {ds : List PyData} {vs : List V} {i : Nat} {d : PyData}, DaL H vs ds → ds[i]? = some d → ∃ v, vs[i]? = some v ∧ Da H v d
  | [], _, i, d, h, e => by simp at e
  | x :: ds, _, 0, d, h, e => by
    cases h with
    | cons h1 h2 =>
      simp at e
      subst e
      exact ⟨_, rfl, h1⟩
  | x :: ds, _, i + 1, d, h, e => by
    cases h with
    | cons h1 h2 =>
      obtain ⟨v, e1, e2⟩ := DaL.get (i := i) h2 (by simpa using e)
      exact ⟨v, by simpa using e1, e2⟩
theorem DaL.getV {H : Hp} : ∀ {ds : List PyData} {vs : List V} {i : Nat} {v : V}, DaL H vs ds → vs[i]? = some v → ∃ d, ds[i]? = some d ∧ Da H v d
  | [], _, i, v, h, e => by cases h; simp at e
  | x :: ds, _, 0, v, h, e => by
    cases h with
    | cons h1 h2 =>
      simp at e
      subst e
      exact ⟨_, rfl, h1⟩
  | x :: ds, _, i + 1, v, h, e => by
    cases h with
    | cons h1 h2 =>
      obtain ⟨d, e1, e2⟩ := DaL.getV (i := i) h2 (by simpa using e)
      exact ⟨d, by simpa using e1, e2⟩
theorem DaL.app {H : Hp} : ∀ {ds es : List PyData} {vs us : List V}, DaL H vs ds → DaL H us es → DaL H (vs ++ us) (ds ++ es)
  | [], _, _, _, h, k => by cases h; exact k
  | d :: ds, _, _, _, h, k => by
    cases h with
    | cons h1 h2 => exact .cons h1 (DaL.app h2 k)
theorem DaL.ints {H : Hp} : ∀ ns : List Int, DaL H (ns.map V.int) (ns.map PyData.int)
  | [] => .nil
  | n :: ns => .cons (.int n) (DaL.ints ns)

mutual
theorem Da.inj {H : Hp} : ∀ (d e : PyData) (v : V), Da H v d → Da H v e → d = e
  | .none, _, _, h, k => by cases h; cases k; rfl
  | .bool b, _, _, h, k => by cases h; cases k; rfl
  | .int i, _, _, h, k => by cases h; cases k; rfl
  | .str x, _, _, h, k => by cases h; cases k; rfl
  | .list _, _, _, h, _ => nomatch h
  | .dict _, _, _, h, _ => nomatch h
  | .tuple ds, _, _, h, k => by
    cases h with
    | tup e hs =>
      cases k with
      | tup e' hs' =>
        rw [e] at e'
        cases e'
        rw [DaL.inj ds _ _ hs hs']
theorem DaL.inj {H : Hp} : ∀ (ds es : List PyData) (vs : List V), DaL H vs ds → DaL H vs es → ds = es
  | [], _, _, h, k => by cases h; cases k; rfl
  | d :: ds, _, _, h, k => by
    cases h with
    | cons h1 h2 =>
      cases k with
      | cons k1 k2 => rw [Da.inj d _ _ h1 k1, DaL.inj ds _ _ h2 k2]
end
/-! ### the top's facts by name -/
section
variable {K : PySem.W.Frag} {mg : Str → Option Value}
theorem Tx.g (T : Tx K mg) (x : Str) (h : x ∈ gloL := by decide +kernel) : mg x = some (.ref (ga K x)) := T.gl x h
theorem Tx.f (T : Tx K mg) (x : Str) (h : x ∈ freeL := by decide +kernel) : mg x = none := T.fr x h
theorem Tx.fac (T : Tx K mg) {f : Fa} (i : Nat) (h : faL[i]? = some f := by rfl) : f.ok K = true := T.fa f (List.mem_of_getElem? h)
end
end Tw

namespace Tw
open PySem PySem.Spec PyProof.Rows L2 He
/-! ### a def of the text and its promise -/
structure Okd (P : Program) (w : World) (K : PySem.W.Frag) (mg : Str → Option Value) (base : Heap) (CX : CXT) (k : Nat) (d : DefD) (ps : List Str) (sp : Sp) : Prop where
  ex : ∃ fd, FnOk P w K mg base CX k (fAd K d.at_) fd ps sp ∧ Binds K fd ps []
  kp : PySem.W.keepIn K (.ref (fAd K d.at_)) = true
abbrev BindOk (d : DefD) (ps : List Str) : Prop := ∀ (kV doc pm : Value) (an : Option Addr) (cdv ct : Value) (us : List Value), us.length = ps.length → bindArgs (PySem.W.fnOf d.name d.qual d.params d.body d.scope .none kV doc pm an cdv ct) ⟨us, []⟩ = pure (ps.zip us)
section
variable {P : Program} {w : World} {K : PySem.W.Frag} {mg : Str → Option Value} {base : Heap} {d : DefD} {N ps : List Str} {k : Nat} {sp : Sp}
/-- a def that lets nothing out -/
theorem okd0 (T : Tx K mg) (hi : d ∈ fnL) (S : FnScope N ps d.scope) (hb : BindOk d ps) (len : ∀ vs H Q E, sp vs H Q E → vs.length = ps.length)
    (hbody : ∀ (cdv : Value) (A : Around) (outer : List Env) (s : Shared) (H : Hp) (vs : List V) (Q : VK) (E : XK), Room k (A.deeper (envOfC d.qual d.scope s.heap.objs.size (fAd K d.at_) cdv)) → sp vs H Q E →
      ∃ t, PSs (cxOf CX0 P w K mg base N d.qual d.scope (fAd K d.at_) cdv A outer s H E).nox d.body t ∧ t { nx := fun _ H' => Q .non H', rt := Q } (start N vs) H)
    (h1 : d.dfl = [] := by rfl) (h2 : d.kwd = [] := by rfl) : Okd P w K mg base CX0 (k + 1) d ps sp := by
  obtain ⟨fd, F⟩ := T.fn d hi
  have e1 : d.dvs K = [] := by unfold DefD.dvs; rw [h1]; rfl
  have e2 : d.kws K = [] := by unfold DefD.kws; rw [h2]; rfl
  rw [e1, e2] at F
  refine ⟨⟨fd, F.ok S len fun cdv A outer s H vs Q E hr h => ?_, F.bindsN hb⟩, F.kp⟩
  obtain ⟨t, h, q⟩ := hbody cdv A outer s H vs Q E hr h
  exact ⟨t, h.nox, q⟩
/-- a def that may let an exception out -/
theorem okdX (T : Tx K mg) (hi : d ∈ fnL) (S : FnScope N ps d.scope) (hb : BindOk d ps) (len : ∀ vs H Q E, sp vs H Q E → vs.length = ps.length)
    (hbody : ∀ (cdv : Value) (A : Around) (outer : List Env) (s : Shared) (H : Hp) (vs : List V) (Q : VK) (E : XK), Room k (A.deeper (envOfC d.qual d.scope s.heap.objs.size (fAd K d.at_) cdv)) → sp vs H Q E →
      ∃ t, PSs (cxOf (L2.CX P w) P w K mg base N d.qual d.scope (fAd K d.at_) cdv A outer s H E) d.body t ∧ t { nx := fun _ H' => Q .non H', rt := Q } (start N vs) H)
    (h1 : d.dfl = [] := by rfl) (h2 : d.kwd = [] := by rfl) : Okd P w K mg base (L2.CX P w) (k + 1) d ps sp := by
  obtain ⟨fd, F⟩ := T.fn d hi
  have e1 : d.dvs K = [] := by unfold DefD.dvs; rw [h1]; rfl
  have e2 : d.kws K = [] := by unfold DefD.kws; rw [h2]; rfl
  rw [e1, e2] at F
  exact ⟨⟨fd, F.ok S len hbody, F.bindsN hb⟩, F.kp⟩
end
/-- what leaves a callee, leaves the def -/
theorem passD {P : Program} {w : World} {K : PySem.W.Frag} {mg : Str → Option Value} {base : Heap} {N : List Str} {q : Str} {sc : Scope} {f : Addr} {cd : Value} {A : Around} {outer : List Env} {s : Shared} {H : Hp} {E : XK} :
    Passes (L2.CX P w) (cxOf (L2.CX P w) P w K mg base N q sc f cd A outer s H E) E := passes_call (takes_of (X := cxOf (L2.CX P w) P w K mg base N q sc f cd A outer s H E) rfl rfl rfl rfl) fun _ _ _ _ h => h
theorem takesD {P : Program} {w : World} {K : PySem.W.Frag} {mg : Str → Option Value} {base : Heap} {N : List Str} {q : Str} {sc : Scope} {f : Addr} {cd : Value} {A : Around} {outer : List Env} {s : Shared} {H : Hp} {E : XK} :
    Takes (cxOf (L2.CX P w) P w K mg base N q sc f cd A outer s H E) (fun cls d _ H => E cls d H) := takes_of rfl rfl rfl rfl
section
variable {X : Cx} {CX : CXT} {k j : Nat} {d : DefD} {ps : List Str} {sp : Sp} {E : XK} {x m : Str} {p pos apos : Pos} {e o : Expr} {es : List Expr} {ta : TE} {t : TA}
/-- f(e, ..) -/
theorem pcl (O : Okd X.prog X.w X.K X.mg X.base CX k d ps sp) (hr : Room j X.A) (hx : Passes CX X E) (ha : PA X (e :: es) t) (hm : X.mg x = some (.ref (fAd X.K d.at_))) (hk : k ≤ j := by decide) (hg : Gl X x := by rfl)
    (hdb : (x == ("__debug__" : Str)) = false := by decide) (he : starEach (e :: es) X.env = (false, eval e X.env) :: starEach es X.env := by rfl) (hpl : (backTo pos (starEach es X.env)).any (·.1) = false := by rfl) :
    PE X (.Call (.Name x p) (e :: es) [] pos) (tCall sp [] E t) := by
  obtain ⟨fd, F, b⟩ := O.ex
  exact pe_call F (hr.mono hk) hg hm O.kp b .nil hx ha hdb he hpl
/-- o.m(e, ..), o a shelf -/
theorem pml {pl : Sem Bool} (O : Okd X.prog X.w X.K X.mg X.base CX k d ps sp) (hr : Room j X.A) (hx : Passes CX X E) (he : PE X o ta) (c : Cls X.K (ga X.K "Shelf")) (hm : Meth X.K (ga X.K "Shelf") m (fAd X.K d.at_)) (ha : PA X (e :: es) t) (hk : k ≤ j := by decide)
    (hst : starEach (e :: es) X.env = (false, eval e X.env) :: starEach es X.env := by rfl) (hpl : (backTo pos (starEach es X.env)).any (·.1) = false := by rfl)
    (ht : eval (.Call (.Attribute o m apos) (e :: es) [] pos) X.env = (do
      let ov ← eval o X.env
      standAt apos.atName
      let (f, first) ← holding [ov] (getMethod ov m pl)
      callWith pos f first (backTo pos (starEach (e :: es) X.env)) (backToKw pos (keywordEach [] X.env))) := by rfl) :
    PE X (.Call (.Attribute o m apos) (e :: es) [] pos) (tMeth (ga X.K "Shelf") m sp [] E ta t) := by
  obtain ⟨fd, F, b⟩ := O.ex
  exact pe_meth he c hm F (hr.mono hk) b .nil hx ha hst hpl ht
theorem pml0 {pl : Sem Bool} (O : Okd X.prog X.w X.K X.mg X.base CX k d ps sp) (hr : Room j X.A) (hx : Passes CX X E) (he : PE X o ta) (c : Cls X.K (ga X.K "Shelf")) (hm : Meth X.K (ga X.K "Shelf") m (fAd X.K d.at_)) (hk : k ≤ j := by decide)
    (ht : eval (.Call (.Attribute o m apos) [] [] pos) X.env = (do
      let ov ← eval o X.env
      standAt apos.atName
      let (f, first) ← holding [ov] (getMethod ov m pl)
      callWith pos f first (backTo pos (starEach [] X.env)) (backToKw pos (keywordEach [] X.env))) := by rfl) :
    PE X (.Call (.Attribute o m apos) [] [] pos) (tMeth (ga X.K "Shelf") m sp [] E ta tNil) := by
  obtain ⟨fd, F, b⟩ := O.ex
  exact pe_meth0 he c hm F (hr.mono hk) b .nil hx ht
end
/-- whatever follows, if it follows from what is known -/
def tMo (t : TE) : TE := fun σ H Q => ∃ Q0 : VK, t σ H Q0 ∧ ∀ x H1, Q0 x H1 → Q x H1
theorem pe_mo {X : Cx} {e : Expr} {t : TE} (h : PE X e t) : PE X e (tMo t) := by
  refine ⟨fun pins s σ H Q I q => ?_⟩
  obtain ⟨Q0, q0, w⟩ := q
  exact thn (h.run pins s σ H Q0 I q0) fun u s1 ⟨x, H1, I1, r1, q1⟩ => ⟨x, H1, I1, r1, w x H1 q1⟩
/-! ### t < u for data -/
def rLtD (K : PySem.W.Frag) (n : Nat) : R2 := fun x y H Q => ∃ d e, Dp K H x d ∧ Dp K H y e ∧ PySem.W.alike d e = true ∧ d ≠ .none ∧ d.depth ≤ n ∧ Q (.bl (PySem.W.dataLt d e)) H
theorem op_ltD {X : Cx} {n : Nat} (hu : X.A.units + n < cLine) : OpR X (compareOp .Lt) (rLtD X.K n) := by
  intro pins s σ H x y v u Q I rx ry h
  obtain ⟨d, e, hd, he, al, hn, hdp, q⟩ := h
  obtain ⟨as, r1⟩ := Dp.reads I d x v hd rx
  obtain ⟨bs, r2⟩ := Dp.reads I e y u he ry
  exact PySem.W.rcLt_alike d e X.A s v u as bs r1 r2 al hn (Nat.lt_of_le_of_lt (Nat.add_le_add_left (Nat.le_trans (Nat.min_le_left _ _) hdp) _) hu) _ _ _ _ ⟨.bl _, H, I, rfl, q⟩
/-! ### isinstance(e, T), T a built-in class -/
def rIsB (K : PySem.W.Frag) : List V → Hp → VK → Prop := fun xs H Q => ∃ (x : V) (n t : String) (b : Bool), xs = [x, .ty n] ∧ TyOf K H x (.type t) ∧ L2.kitB t n = some b ∧ Q (.bl b) H
theorem call_isB {X : Cx} : CallR X (.builtin "isinstance") (rIsB X.K) := by
  intro pins s σ H xs us Q I r h
  obtain ⟨x, n, t, b, rfl, ty, kb, q⟩ := h
  exact call_isi pins s σ H _ us Q I r ⟨x, .ty n, .type t, .type n, b, rfl, .ty n, .base ty, kit_ty kb, q⟩
abbrev tIs (K : PySem.W.Frag) (te : TE) (n : String) : TE := tCB (rIsB K) (tCons te (tCons (tC (.ty n)) tNil))
theorem pe_is {X : Cx} {e : Expr} {te : TE} {nm : Str} (n : String) {p q pos : Pos} (hf : X.mg "isinstance" = none) (hm : X.mg nm = none) (he : PE X e te) (hv : bootBuiltins nm = some (.type n) := by decide +kernel) (hg : Gl X "isinstance" := by rfl) (hg2 : Gl X nm := by rfl)
    (hn : nm ≠ "__name__" := by decide) (hdb : (nm == ("__debug__" : Str)) = false := by decide) (hst : starEach [e, .Name nm q] X.env = (false, eval e X.env) :: starEach [.Name nm q] X.env := by rfl) (hst2 : starEach [.Name nm q] X.env = (false, eval (.Name nm q) X.env) :: starEach [] X.env := by rfl) :
    PE X (.Call (.Name "isinstance" p) [e, .Name nm q] [] pos) (tIs X.K te n) :=
  pe_callB (X := X) (x := "isinstance") (p := p) (pos := pos) (e := e) (es := [.Name nm q]) call_isB hg hf (by decide +kernel) (pa_cons he (pa_cons (pe_bltn (v := .ty n) hg2 hm hv rfl hn hdb) pa_nil hst2) hst) (by decide) (by decide) hst (by rw [hst2]; rfl)
end Tw

namespace Tw
open PySem PySem.Spec PyProof.Rows L2 He
theorem qe {Q : VK} {a b : V} {H : Hp} (k : Q a H) (e : a = b) : Q b H := e ▸ k
theorem qb {Q : VK} {a b : Bool} {H : Hp} (k : Q (.bl a) H) (e : a = b) : Q (.bl b) H := e ▸ k
/-! ### keys -/
def isNum : PyData → Bool
  | .int i => decide (-(10 ^ 60) < i) && decide (i < 10 ^ 60)
  | _ => false
def okC (c : Nat) : Bool := decide (32 ≤ c) && decide (c ≤ 126)
def isTxt : PyData → Bool
  | .str x => decide (x.length ≤ 40) && x.cps.toList.all okC
  | _ => false
def isW : Nat → PyData → Bool
  | 0, d => isNum d || isTxt d
  | r + 1, d => isNum d || isTxt d || (match d with
    | .tuple ds => decide (ds.length ≤ 4) && ds.all (isW r)
    | _ => false)
def tyD : PyData → String
  | .none => "NoneType"
  | .bool _ => "bool"
  | .int _ => "int"
  | .str _ => "str"
  | .list _ => "list"
  | .tuple _ => "tuple"
  | .dict _ => "dict"
theorem Da.ty {K : PySem.W.Frag} {H : Hp} {v : V} {d : PyData} (h : Da H v d) : TyOf K H v (.type (tyD d)) := by
  cases h with
  | non => exact .non
  | bl b => exact .bl b
  | int i => exact .int i
  | str x => exact .str x
  | tup e _ => exact .tup e
theorem ty_mem (d : PyData) : tyD d ∈ (["NoneType", "bool", "int", "str", "list", "tuple", "dict"] : List String) := by cases d <;> simp [tyD]
theorem kt_tuple (d : PyData) : L2.kitB (tyD d) "tuple" = some (decide (tyD d = "tuple")) :=
  (show ∀ n ∈ (["NoneType", "bool", "int", "str", "list", "tuple", "dict"] : List String), L2.kitB n "tuple" = some (decide (n = "tuple")) by decide +kernel) _ (ty_mem d)
theorem kt_str (d : PyData) : L2.kitB (tyD d) "str" = some (decide (tyD d = "str")) :=
  (show ∀ n ∈ (["NoneType", "bool", "int", "str", "list", "tuple", "dict"] : List String), L2.kitB n "str" = some (decide (n = "str")) by decide +kernel) _ (ty_mem d)
theorem kt_bool (d : PyData) : L2.kitB (tyD d) "bool" = some (decide (tyD d = "bool")) :=
  (show ∀ n ∈ (["NoneType", "bool", "int", "str", "list", "tuple", "dict"] : List String), L2.kitB n "bool" = some (decide (n = "bool")) by decide +kernel) _ (ty_mem d)
theorem kt_int (d : PyData) : L2.kitB (tyD d) "int" = some (decide (tyD d = "int") || decide (tyD d = "bool")) :=
  (show ∀ n ∈ (["NoneType", "bool", "int", "str", "list", "tuple", "dict"] : List String), L2.kitB n "int" = some (decide (n = "int") || decide (n = "bool")) by decide +kernel) _ (ty_mem d)
/-- what is known of a Da by the kind of its datum -/
theorem Da.int_of {H : Hp} {v : V} {i : Int} (h : Da H v (.int i)) : v = .int i := by cases h; rfl
theorem Da.str_of {H : Hp} {v : V} {x : Str} (h : Da H v (.str x)) : v = .str x := by cases h; rfl
theorem Da.tup_of {H : Hp} {v : V} {ds : List PyData} (h : Da H v (.tuple ds)) : ∃ a xs, v = .ref a ∧ H a = some (.tup xs) ∧ DaL H xs ds := by
  cases h with
  | tup e hs => exact ⟨_, _, rfl, e, hs⟩
section
variable {P : Program} {w : World} {K : PySem.W.Frag} {mg : Str → Option Value} {base : Heap}
def spNum : Sp := fun vs H Q _ => ∃ v d, vs = [v] ∧ Da H v d ∧ Q (.bl (isNum d)) H
theorem ok_num (T : Tx K mg) : Okd P w K mg base CX0 1 d_is_number ["thing"] spNum := by
  refine okd0 (N := ["thing"]) T in_is_number ⟨rfl, rfl, rfl, by decide +kernel, rfl, by decide +kernel, by decide +kernel⟩ (fun _ _ _ _ _ _ us hl => match us, hl with | [_], _ => rfl) (fun vs H Q E h => ?_) (fun cdv A outer s H vs Q E hr h => ?_)
  · obtain ⟨v, d, rfl, _⟩ := h
    rfl
  · obtain ⟨v, d, rfl, hd, k⟩ := h
    obtain ⟨tb, hb⟩ := T.i_BOUND
    refine ⟨_, pss_one (ps_ret (pe_and (pe_is "int" (T.f "isinstance") (T.f "int") (pv 0)) (pe_and (pe_not (pe_is "bool" (T.f "isinstance") (T.f "bool") (pv 0)))
      (pe_one (pe_chain op_lt op_lt (pe_un un_neg (pe_glob (v := .int (10 ^ 60)) rfl hb ⟨_, rfl⟩)) (pv 0) (pe_glob (v := .int (10 ^ 60)) rfl hb ⟨_, rfl⟩)))))), ?_⟩
    cases hd with
    | int i =>
      refine ⟨_, rfl, _, "int", "int", true, rfl, .int i, by decide +kernel, true, rfl, iteT ?_⟩
      refine ⟨_, rfl, _, "bool", "int", false, rfl, .int i, by decide +kernel, false, rfl, true, rfl, iteT ?_⟩
      refine ⟨_, rfl, _, rfl, _, _, rfl, rfl, _, rfl, ite2 (fun h1 => ?_) (fun h1 => ?_)⟩
      · refine ⟨_, _, rfl, rfl, qb k ?_⟩
        show (decide _ && _) = _
        rw [h1, Bool.true_and]
      · refine qb k ?_
        show (decide _ && _) = _
        rw [Bool.eq_false_iff.mpr h1, Bool.false_and]
    | bl b =>
      refine ⟨_, rfl, _, "int", "bool", true, rfl, .bl b, by decide +kernel, true, rfl, iteT ?_⟩
      exact ⟨_, rfl, _, "bool", "bool", true, rfl, .bl b, by decide +kernel, true, rfl, false, rfl, iteF k⟩
    | non => exact ⟨_, rfl, _, "int", "NoneType", false, rfl, .non, by decide +kernel, false, rfl, iteF k⟩
    | str x => exact ⟨_, rfl, _, "int", "str", false, rfl, .str x, by decide +kernel, false, rfl, iteF k⟩
    | tup e _ => exact ⟨_, rfl, _, "int", "tuple", false, rfl, .tup e, by decide +kernel, false, rfl, iteF k⟩
mutual
/-- short texts, short tuples -/
def smD : PyData → Bool
  | .str x => decide (x.length ≤ 100)
  | .tuple ds => decide (ds.length ≤ 100) && smDs ds
  | _ => true
def smDs : List PyData → Bool
  | [] => true
  | d :: ds => smD d && smDs ds
end
theorem small100 {n : Nat} (h : n ≤ 100) : n ≤ sizeLine := Nat.le_trans h (by rw [sizeLine_eq]; decide)
def spTxt : Sp := fun vs H Q _ => ∃ v d, vs = [v] ∧ Da H v d ∧ smD d = true ∧ ∀ H', Same H H' → Q (.bl (isTxt d)) H'
theorem sc_txt : FnScope ["thing", "sign"] ["thing"] d_is_text.scope := ⟨rfl, rfl, rfl, by decide +kernel, rfl, by decide +kernel, by decide +kernel⟩
theorem str_at {x : Str} {i c : Nat} (h : x.cps[i]? = some c) : x.cps.toList[i]? = some c := by rw [Array.getElem?_toList]; exact h
theorem lt_chr (a b : Nat) : decide (([a] : List Nat) < [b]) = decide (a < b) := by
  by_cases h : a < b
  · rw [decide_eq_true h]
    exact decide_eq_true (List.Lex.rel h)
  · rw [decide_eq_false h]
    refine decide_eq_false fun q => ?_
    cases q with
    | rel r => exact h r
    | cons r => cases r
theorem ok_txt (T : Tx K mg) : Okd P w K mg base CX0 1 d_is_text ["thing"] spTxt := by
  refine okd0 T in_is_text sc_txt (fun _ _ _ _ _ _ us hl => match us, hl with | [_], _ => rfl) (fun vs H Q E h => ?_) (fun cdv A outer s H vs Q E hr h => ?_)
  · obtain ⟨v, d, rfl, _⟩ := h
    rfl
  · obtain ⟨v, d, rfl, hd, hs, k⟩ := h
    obtain ⟨tb, hb⟩ := T.i_SIGNS
    refine ⟨_, pss_cons (ps_if (PW.pt (pw_or (pt_not (pt_val (pe_is "str" (T.f "isinstance") (T.f "str") (pv 0)))) (pw_or1 (pt_cmpR op_gt (pe_callB call_len_str (by rfl) (T.f "len") PySem.boot_len (pa_cons (pv 0) pa_nil)) (pe_glob (v := .int 40) rfl hb ⟨_, rfl⟩) (nomark _)))))
        (pss_one (ps_ret pe_bl)) pss_nil)
      (pss_one (ps_ret (pe_callB (cr_all rfl) (by rfl) (T.f "all") (by decide +kernel) (pa_cons (pe_lc (own := [("sign", 1)]) (g := gName 1) (tt := tYes) rfl sc_txt.nd (pi_str (pv 0))
        (blkOk_by (own := [("sign", 1)]) (N := ["thing", "sign"]) (sc := d_is_text.scope) (by decide +kernel)) (fun _ _ _ _ _ => pg_name (i := 1) sc_txt.nd rfl (Or.inl rfl)) (fun _ _ _ _ _ => pts_nil)
        (fun _ _ _ _ _ => pe_chain op_le_str op_le_str pe_str (pv 1) pe_str)) pa_nil)))), ?_⟩
    cases hd with
    | str x =>
      refine ⟨_, rfl, _, "str", "str", true, rfl, .str x, by decide +kernel, true, rfl, iteF ?_⟩
      have hl : x.length ≤ 100 := by simpa [smD] using hs
      refine ⟨_, rfl, _, rfl, small100 hl, _, _, rfl, rfl, _, rfl, ite2 (fun h1 => ?_) (fun h1 => ?_)⟩
      · refine qb (k H (Same.refl H)) ?_
        have h2 : ¬ x.length ≤ 40 := by
          have q := of_decide_eq_true h1
          omega
        show (decide _ && _) = _
        rw [decide_eq_false h2, Bool.false_and]
      · have h2 : x.length ≤ 40 := by
          rw [decide_eq_true_eq] at h1
          omega
        have hz : x.cps.toList.length = x.length := by simp [Str.length]
        refine ⟨_, rfl, _, rfl, fun D hD => lc_it walk_str (fun i H2 => Same H H2 ∧ H2 D = some (.lst ((x.cps.toList.take i).map fun c => V.bl (okC c)))) ⟨same_upd hD, by rw [upd_same]; rfl⟩ (fun _ _ _ _ => True.intro) ?_ ?_⟩
        · rintro i y H2 H3 hi ⟨s2, hD2⟩ ⟨rfl, c, hc, rfl⟩
          refine ⟨rfl, ?_⟩
          have hsz : i < x.cps.toList.length := by simpa using hi
          have hc2 := str_at hc
          have el : (x.cps.toList.take (i + 1)).map (fun c => V.bl (okC c)) = (x.cps.toList.take i).map (fun c => V.bl (okC c)) ++ [V.bl (okC c)] := by
            rw [List.take_add_one, hc2, List.map_append]
            rfl
          have fin : ∀ b : Bool, b = okC c → ∃ acc, H3 D = some (.lst acc) ∧ acc.length < sizeLine ∧ (Same H (upd H3 D (.lst (acc ++ [V.bl b]))) ∧ upd H3 D (.lst (acc ++ [V.bl b])) D = some (.lst ((x.cps.toList.take (i + 1)).map fun c => V.bl (okC c)))) := fun b eb => by
            refine ⟨_, hD2, ?_, fun b o e => ?_, ?_⟩
            · rw [List.length_map, List.length_take]
              exact Nat.lt_of_le_of_lt (Nat.min_le_right _ _) (Nat.lt_of_le_of_lt (by rw [hz]; exact hl) (by rw [sizeLine_eq]; decide))
            · rw [upd_ne (ne_of_none e hD)]
              exact s2 b o e
            · rw [upd_same, el, eb]
          refine ⟨_, rfl, _, _, rfl, rfl, _, rfl, ite2 (fun h3 => ?_) (fun h3 => ?_)⟩
          · refine ⟨_, _, rfl, rfl, fin _ ?_⟩
            show (!decide (([126] : List Nat) < [c])) = _
            have h3' : (!decide (([c] : List Nat) < [32])) = true := h3
            rw [lt_chr] at h3' ⊢
            unfold okC
            simp only [Bool.not_eq_true', decide_eq_false_iff_not, Nat.not_lt] at h3'
            rw [decide_eq_true h3', Bool.true_and]
            by_cases h4 : c ≤ 126
            · rw [decide_eq_true h4, decide_eq_false (by omega)]; rfl
            · rw [decide_eq_false h4, decide_eq_true (by omega)]; rfl
          · refine fin _ ?_
            have h3' : (!decide (([c] : List Nat) < [32])) = false := Bool.eq_false_iff.mpr h3
            rw [lt_chr] at h3'
            unfold okC
            simp only [Bool.not_eq_false', decide_eq_true_eq] at h3'
            rw [decide_eq_false (by omega : ¬ 32 ≤ c), Bool.false_and]
        · rintro H2 ⟨s2, hD2⟩
          rw [List.take_of_length_le (by simp)] at hD2
          refine ⟨D, x.cps.toList.map okC, rfl, SqL.of (by rw [hD2, List.map_map]; rfl), qb (k H2 s2) ?_⟩
          show (decide _ && _) = _
          rw [decide_eq_true h2, Bool.true_and, List.all_map]
          rfl
    | int i => exact ⟨_, rfl, _, "str", "int", false, rfl, .int i, by decide +kernel, false, rfl, iteT (iteT (k H (Same.refl H)))⟩
    | bl b => exact ⟨_, rfl, _, "str", "bool", false, rfl, .bl b, by decide +kernel, false, rfl, iteT (iteT (k H (Same.refl H)))⟩
    | non => exact ⟨_, rfl, _, "str", "NoneType", false, rfl, .non, by decide +kernel, false, rfl, iteT (iteT (k H (Same.refl H)))⟩
    | tup e _ => exact ⟨_, rfl, _, "str", "tuple", false, rfl, .tup e, by decide +kernel, false, rfl, iteT (iteT (k H (Same.refl H)))⟩
mutual
theorem sm_of : ∀ (ds : List PyData) (d : PyData), smDs ds = true → d ∈ ds → smD d = true
  | [], _, _, m => nomatch m
  | x :: ds, d, h, m => by
    rw [smDs, Bool.and_eq_true] at h
    rcases List.mem_cons.mp m with e | e
    · rw [e]; exact h.1
    · exact sm_of ds d h.2 e
end
def spW (r : Nat) : Sp := fun vs H Q _ => ∃ v d, vs = [v, .int r] ∧ Da H v d ∧ smD d = true ∧ ∀ H', Same H H' → Q (.bl (isW r d)) H'
theorem sc_w : FnScope ["thing", "room", "part"] ["thing", "room"] d_is_within.scope := ⟨rfl, rfl, rfl, by decide +kernel, rfl, by decide +kernel, by decide +kernel⟩
theorem isW_base (r : Nat) (d : PyData) (h : (isNum d || isTxt d) = true) : isW r d = true := by
  cases r with
  | zero => exact h
  | succ r => show (isNum d || isTxt d || _) = true; rw [h]; rfl
theorem isW_not (r : Nat) (d : PyData) (h1 : isNum d = false) (h2 : isTxt d = false) (h : ∀ ds, d ≠ .tuple ds) : isW r d = false := by
  cases r with
  | zero => show (isNum d || isTxt d) = false; rw [h1, h2]; rfl
  | succ r =>
    show (isNum d || isTxt d || _) = false
    rw [h1, h2]
    cases d with
    | tuple ds => exact absurd rfl (h ds)
    | _ => rfl
theorem isW_tup (r : Nat) (ds : List PyData) : isW (r + 1) (.tuple ds) = (decide (ds.length ≤ 4) && ds.all (isW r)) := by
  show (isNum _ || isTxt _ || _) = _
  rfl
theorem ok_within (T : Tx K mg) : ∀ r : Nat, Okd P w K mg base CX0 (r + 2) d_is_within ["thing", "room"] (spW r) := by
  intro r
  induction r with
  | zero =>
    refine okd0 T in_is_within sc_w (fun _ _ _ _ _ _ us hl => match us, hl with | [_, _], _ => rfl) (fun vs H Q E h => ?_) (fun cdv A outer s H vs Q E hr h => ?_)
    · obtain ⟨v, d, rfl, _⟩ := h
      rfl
    · obtain ⟨v, d, rfl, hd, hs, k⟩ := h
      obtain ⟨tb, hb⟩ := T.i_WIDE
      refine ⟨_, pss_cons (ps_if (PW.pt (pw_or (pt_val (pcl (ok_num T) hr pass0 (pa_cons (pv 0) pa_nil) (T.g "is_number") (by omega))) (pw_or1 (pt_val (pcl (ok_txt T) hr pass0 (pa_cons (pv 0) pa_nil) (T.g "is_text") (by omega)))))) (pss_one (ps_ret pe_bl)) pss_nil)
        (pss_cons (ps_if (PW.pt (pw_or (pt_not (pt_val (pe_is "tuple" (T.f "isinstance") (T.f "tuple") (pv 0)))) (pw_or (pt_cmpR op_eq (pv 1) pe_int (nomark _)) (pw_or1 (pt_cmpR op_gt (pe_callB call_len_seq (by rfl) (T.f "len") PySem.boot_len (pa_cons (pv 0) pa_nil)) (pe_glob (v := .int 4) rfl hb ⟨_, rfl⟩) (nomark _))))))
          (pss_one (ps_ret pe_bl)) pss_nil)
        (pss_one ps_never)), ?_⟩
      refine ⟨_, rfl, v, d, rfl, hd, _, rfl, ite2 (fun h1 => iteT (qb (k H (Same.refl H)) (isW_base _ _ (by rw [h1]; rfl)))) (fun h1 => ?_)⟩
      refine ⟨_, rfl, v, d, rfl, hd, hs, fun H1 s1 => ⟨_, rfl, ite2 (fun h2 => qb (k H1 s1) (isW_base _ _ (by rw [h2, Bool.or_true]))) (fun h2 => ?_)⟩⟩
      refine ⟨_, rfl, _, "tuple", tyD d, decide (tyD d = "tuple"), rfl, (hd.same s1).ty, kt_tuple d, _, rfl, ?_⟩
      · have h1' := Bool.eq_false_iff.mpr h1
        have h2' := Bool.eq_false_iff.mpr h2
        cases d with
        | tuple ds =>
          refine iteF ⟨_, rfl, rfl, _, rfl, iteT (iteT (qb (k H1 s1) ?_))⟩
          rfl
        | _ => exact iteT (iteT (qb (k H1 s1) (isW_not _ _ h1' h2' fun ds z => nomatch z)))
  | succ r ih =>
    refine okd0 T in_is_within sc_w (fun _ _ _ _ _ _ us hl => match us, hl with | [_, _], _ => rfl) (fun vs H Q E h => ?_) (fun cdv A outer s H vs Q E hr h => ?_)
    · obtain ⟨v, d, rfl, _⟩ := h
      rfl
    · obtain ⟨v, d, rfl, hd, hs, k⟩ := h
      obtain ⟨tb, hb⟩ := T.i_WIDE
      refine ⟨_, pss_cons (ps_if (PW.pt (pw_or (pt_val (pcl (ok_num T) hr pass0 (pa_cons (pv 0) pa_nil) (T.g "is_number") (by omega))) (pw_or1 (pt_val (pcl (ok_txt T) hr pass0 (pa_cons (pv 0) pa_nil) (T.g "is_text") (by omega)))))) (pss_one (ps_ret pe_bl)) pss_nil)
        (pss_cons (ps_if (PW.pt (pw_or (pt_not (pt_val (pe_is "tuple" (T.f "isinstance") (T.f "tuple") (pv 0)))) (pw_or (pt_cmpR op_eq (pv 1) pe_int (nomark _)) (pw_or1 (pt_cmpR op_gt (pe_callB call_len_seq (by rfl) (T.f "len") PySem.boot_len (pa_cons (pv 0) pa_nil)) (pe_glob (v := .int 4) rfl hb ⟨_, rfl⟩) (nomark _))))))
          (pss_one (ps_ret pe_bl)) pss_nil)
        (pss_one (ps_ret (pe_callB (cr_all rfl) (by rfl) (T.f "all") (by decide +kernel) (pa_cons (pe_lc (own := [("part", 2)]) (g := gName 2) (tt := tYes) rfl sc_w.nd (pi_tup (pv 0))
          (blkOk_by (own := [("part", 2)]) (N := ["thing", "room", "part"]) (sc := d_is_within.scope) (by decide +kernel)) (fun _ _ _ _ _ => pg_name (i := 2) sc_w.nd rfl (Or.inl rfl)) (fun _ _ _ _ _ => pts_nil)
          (fun _ _ _ _ _ => pcl ih hr pass0 (pa_cons (pv 2) (pa_cons (pe_op op_sub (pv 1) pe_int) pa_nil)) (T.g "is_within") (by omega))) pa_nil))))), ?_⟩
      refine ⟨_, rfl, v, d, rfl, hd, _, rfl, ite2 (fun h1 => iteT (qb (k H (Same.refl H)) (isW_base _ _ (by rw [h1]; rfl)))) (fun h1 => ?_)⟩
      refine ⟨_, rfl, v, d, rfl, hd, hs, fun H1 s1 => ⟨_, rfl, ite2 (fun h2 => qb (k H1 s1) (isW_base _ _ (by rw [h2, Bool.or_true]))) (fun h2 => ?_)⟩⟩
      refine ⟨_, rfl, _, "tuple", tyD d, decide (tyD d = "tuple"), rfl, (hd.same s1).ty, kt_tuple d, _, rfl, ?_⟩
      · have h1' := Bool.eq_false_iff.mpr h1
        have h2' := Bool.eq_false_iff.mpr h2
        cases d with
        | tuple ds =>
          obtain ⟨a, xs, rfl, ha, hx⟩ := (hd.same s1).tup_of
          have hlx := hx.length
          have hs' : ds.length ≤ 100 ∧ smDs ds = true := by simpa [smD] using hs
          have e0 : decide (V.int ((r + 1 : Nat) : Int) = V.int 0) = false := decide_eq_false (by intro z; injection z with z; omega)
          refine iteF ⟨_, rfl, rfl, _, rfl, ?_⟩
          rw [e0]
          refine iteF ⟨_, rfl, a, xs, rfl, .inr (SqT.of ha), _, _, rfl, rfl, _, rfl, ite2 (fun h3 => ?_) (fun h3 => ?_)⟩
          · refine qb (k H1 s1) ?_
            have q := of_decide_eq_true h3
            rw [isW_tup, decide_eq_false (by omega : ¬ ds.length ≤ 4), Bool.false_and]
          · have q : ¬ (4 : Int) < (xs.length : Int) := fun z => h3 (decide_eq_true z)
            refine ⟨_, rfl, a, rfl, ⟨_, SqT.of ha⟩, fun D hD => lc_it walk_tup (fun i H2 => Same H1 H2 ∧ H2 D = some (.lst ((ds.take i).map fun d => V.bl (isW r d)))) ⟨same_upd hD, by rw [upd_same]; rfl⟩ (fun i H2 _ q => SqT.of (q.1 _ _ ha)) ?_ ?_⟩
            · rintro i y H2 H3 hi ⟨s2, hD2⟩ ⟨rfl, hy⟩
              obtain ⟨d, e1, e2⟩ := hx.getV hy
              refine ⟨rfl, ⟨_, rfl, _, rfl, _, _, rfl, rfl, y, d, ?_, e2.same s2, sm_of ds d hs'.2 (List.mem_of_getElem? e1), fun H4 s4 => ⟨_, s4 _ _ hD2, ?_, fun b o e => ?_, ?_⟩⟩⟩
              · show [y, V.int (((r + 1 : Nat) : Int) - 1)] = [y, V.int (r : Int)]
                rw [show (((r + 1 : Nat) : Int) - 1) = (r : Int) by omega]
              · rw [List.length_map, List.length_take, sizeLine_eq]
                omega
              · rw [upd_ne (ne_of_none e hD)]
                exact s4 _ _ (s2 b o e)
              · rw [upd_same, List.take_add_one, e1, List.map_append]
                rfl
            · rintro H2 ⟨s2, hD2⟩
              rw [hlx, List.take_of_length_le (Nat.le_refl _)] at hD2
              refine ⟨D, ds.map (isW r), rfl, SqL.of (by rw [hD2, List.map_map]; rfl), qb (k H2 (s1.trans s2)) ?_⟩
              rw [isW_tup, decide_eq_true (by omega : ds.length ≤ 4), Bool.true_and, List.all_map]
              rfl
        | _ => exact iteT (iteT (qb (k H1 s1) (isW_not _ _ h1' h2' fun ds z => nomatch z)))
end
end Tw

namespace Tw
open PySem PySem.Spec PyProof.Rows L2 He
section
variable {X : Cx} {p pos pos2 p1 p2 : Pos} {e : Expr} {es : List Expr} {te : TE} {ta : TA} {x : Str} {W : WX}
/-- C(), C an own exception class without an __init__ of its own -/
theorem pmk0 {C : Addr} (q : PySem.W.excIn X.K C veBase "ValueError.__new__" = true ∧ PySem.W.keepIn X.K (.ref C) = true ∧ PySem.W.subIn X.K (.ref C) (.type "BaseException") = some true ∧ PySem.W.typeIn X.K (.ref C) = some (.type "type"))
    (gC : X.mg x = some (.ref C)) (hg : Gl X x := by rfl) (hdb : (x == ("__debug__" : Str)) = false := by decide) : PMk X (.Call (.Name x p) [] [] pos) (fun _ H Q => Q (.ref C) none H) := by
  intro pins s σ H Q I h
  refine wpAny_Call_Name_kw (ld_glob I hg gC ?_ hdb)
  refine PySem.W.callWith_K0 I.kIn q.2.1 ?_
  show wpAny _ _ (call (.ref C) []) _ _ _
  obtain ⟨bm, N, nm, qn, bs, hdct, sn, sub, ab, col, dd, k0, k1, k2, k3, k5, mN, hC, hN, hni, T⟩ := exc_obj I.kIn q.1
  refine wpAny_call_exc_subT PySem.F.excBase_ValueError T hC hN hni (fun h' e hm => ?_) (by show 0 ≤ sizeLine; exact Nat.zero_le _)
  exact mk_of I hm (raises_own q.2.2.1 q.2.2.2) h (I.hok.gone hm.new)
/-- raise C() -/
theorem ps_ra0 {C : Addr} (tk : Takes X W) (q : PySem.W.excIn X.K C veBase "ValueError.__new__" = true ∧ PySem.W.keepIn X.K (.ref C) = true ∧ PySem.W.subIn X.K (.ref C) (.type "BaseException") = some true ∧ PySem.W.typeIn X.K (.ref C) = some (.type "type"))
    (gC : X.mg x = some (.ref C)) (hc : X.calm = true := by rfl) (hg : Gl X x := by rfl) (hdb : (x == ("__debug__" : Str)) = false := by decide) :
    PS X (.Raise (some (.Call (.Name x p) [] [] pos)) none pos2) (fun _ σ H => W (.ref C) none σ H) := ps_raise hc tk (pmk0 q gC hg hdb)
/-- TwigError.__init__(self, ..) -/
theorem pe_twinit {pl : Sem Bool} {D : Addr} (hm : X.mg "TwigError" = some (.ref D)) (tb : twiB X.K D = true) (ha : PA X (e :: es) ta) (hg : Gl X "TwigError" := by rfl)
    (hc : eval (.Call (.Attribute (.Name "TwigError" p1) "__init__" p2) (e :: es) [] pos) X.env = (do
      let ov ← eval (.Name "TwigError" p1) X.env
      standAt p2.atName
      let (f, first) ← holding [ov] (getMethod ov "__init__" pl)
      callWith pos f first (backTo pos (starEach (e :: es) X.env)) (backToKw pos (keywordEach [] X.env))) := by rfl)
    (he : starEach (e :: es) X.env = (false, eval e X.env) :: starEach es X.env := by rfl) (hpl : (backTo pos (starEach es X.env)).any (·.1) = false := by rfl) :
    PE X (.Call (.Attribute (.Name "TwigError" p1) "__init__" p2) (e :: es) [] pos) (tVeI X.K ta) := by
  obtain ⟨b1, b⟩ := ba tb
  obtain ⟨b2, b3⟩ := ba b
  refine ⟨fun pins s σ H Q I h => ?_⟩
  refine PySem.W.methodCall_KW (ld_glob I hg hm ?_) hc
  refine PySem.W.method_cls I.kIn (eqO_ok b2) (PySem.W.cls_value I.kIn b1 (isVal_ok b3) (by decide +kernel) ?_)
  show wpAny _ _ (callWith pos (Value.builtin "ValueError.__init__") [] (backTo pos (starEach (e :: es) X.env)) []) _ _ _
  refine PyProof.Rows.callWith_method1 (thn (ha.run pos pins _ σ H _ (I.tok _) h) fun us s1 ⟨vs, H1, I1, r1, a, C, ws, ev, hl, T, ea, q⟩ => ?_) he hpl
  subst ev
  cases r1 with
  | @cons _ u0 _ ur ra rw' =>
    obtain rfl : u0 = Value.ref a := ra
    have hlen : ur.length ≤ sizeLine := by
      rw [← Paired.length rw', sizeLine_eq]
      omega
    exact oinit_ok T I1 ea hlen fun s' J => ⟨.non, H1, J, rfl, q⟩
end
section
variable {K : PySem.W.Frag} {mg : Str → Option Value}
theorem Tx.exs (T : Tx K mg) : (∀ x ∈ excL, excB K (ga K x) = true) ∧ initB K "NoTwig" = true ∧ initB K "NotHeld" = true ∧ twiB K (ga K "TwigError") = true ∧ kitsB K = true ∧ kitVB K = true := by
  obtain ⟨h1, h⟩ := ba T.ex
  obtain ⟨h2, h⟩ := ba h
  obtain ⟨h3, h⟩ := ba h
  obtain ⟨h4, h⟩ := ba h
  obtain ⟨h5, h6⟩ := ba h
  exact ⟨List.all_eq_true.mp h1, h2, h3, h4, h5, h6⟩
theorem initB_ok {x : Str} (h : initB K x = true) : OexC K (ga K x) ∧ PySem.W.findIn K (.ref (ga K x)) "number" = some none ∧ PySem.W.findIn K (.ref (ga K x)) "__init__" = some (some (.ref (ma K (ga K x) "__init__"))) ∧ PySem.W.typeIn K (.ref (ma K (ga K x) "__init__")) = some (.type "function") := by
  obtain ⟨h1, h⟩ := ba h
  obtain ⟨h2, h⟩ := ba h
  obtain ⟨h3, h4⟩ := ba h
  exact ⟨oexB_ok h1, eqO_ok h2, eqO_ok h3, of_decide_eq_true h4⟩
end
section
variable {P : Program} {w : World} {K : PySem.W.Frag} {mg : Str → Option Value} {base : Heap}
/-- __init__ of NoTwig, NotHeld, at a new exception -/
def spIni (C : Addr) : Sp := fun vs H Q _ => ∃ (a : Addr) (v : V), vs = [.ref a, v] ∧ H a = some (exo a C none) ∧
  ∀ d, H d = none → d ≠ a → Q .non (upd (upd H d (exd d [("number", v)])) a (exo a C (some d)))
theorem sc_eT : FnScope ["self", "number"] ["self", "number"] d_e_NoTwig.scope := ⟨rfl, rfl, rfl, by decide +kernel, rfl, by decide +kernel, by decide +kernel⟩
theorem sc_eH : FnScope ["self", "number"] ["self", "number"] d_e_NotHeld.scope := ⟨rfl, rfl, rfl, by decide +kernel, rfl, by decide +kernel, by decide +kernel⟩
theorem ok_eT (T : Tx K mg) : Okd P w K mg base (L2.CX P w) 1 d_e_NoTwig ["self", "number"] (spIni (ga K "NoTwig")) := by
  refine okdX T in_e_NoTwig sc_eT (fun _ _ _ _ _ _ us hl => match us, hl with | [_, _], _ => rfl) (fun vs H Q E h => ?_) (fun cdv A outer s H vs Q E hr h => ?_)
  · obtain ⟨a, v, rfl, _⟩ := h
    rfl
  · obtain ⟨a, v, rfl, ha, k⟩ := h
    obtain ⟨_, hI, _, htw, _⟩ := T.exs
    obtain ⟨o1, o2, _⟩ := initB_ok hI
    refine ⟨_, pss_cons (ps_expr (pe_twinit (T.g "TwigError") htw (pa_cons (pv 0) (pa_cons pe_str pa_nil)))) (pss_one (ps_ost (pv 0) (pv 1))), ?_⟩
    refine ⟨_, rfl, a, _, [.str "no such twig"], rfl, by decide, o1, ha, ?_⟩
    exact ⟨_, rfl, _, rfl, a, _, rfl, o1, o2, .inl ⟨ha, fun d h1 h2 => k d h1 h2⟩⟩
theorem ok_eH (T : Tx K mg) : Okd P w K mg base (L2.CX P w) 1 d_e_NotHeld ["self", "number"] (spIni (ga K "NotHeld")) := by
  refine okdX T in_e_NotHeld sc_eH (fun _ _ _ _ _ _ us hl => match us, hl with | [_, _], _ => rfl) (fun vs H Q E h => ?_) (fun cdv A outer s H vs Q E hr h => ?_)
  · obtain ⟨a, v, rfl, _⟩ := h
    rfl
  · obtain ⟨a, v, rfl, ha, k⟩ := h
    obtain ⟨_, _, hI, htw, _⟩ := T.exs
    obtain ⟨o1, o2, _⟩ := initB_ok hI
    refine ⟨_, pss_cons (ps_expr (pe_twinit (T.g "TwigError") htw (pa_cons (pv 0) (pa_cons pe_str pa_nil)))) (pss_one (ps_ost (pv 0) (pv 1))), ?_⟩
    refine ⟨_, rfl, a, _, [.str "no hold from without"], rfl, by decide, o1, ha, ?_⟩
    exact ⟨_, rfl, _, rfl, a, _, rfl, o1, o2, .inl ⟨ha, fun d h1 h2 => k d h1 h2⟩⟩
end
/-- raise C(e), C NoTwig or NotHeld -/
def tRaN (C : Addr) (W : WX) (te : TE) : TS := fun _ σ H => te σ H fun x H1 => ∀ H' d, Same H1 H' → H' d = some (.xd [("number", x)]) → W (.ref C) (some d) σ H'
section
variable {X : Cx} {p pos pos2 : Pos} {e : Expr} {te : TE} {x : Str} {W : WX} {k : Nat}
theorem ps_raN {dd : DefD} (tk : Takes X W) (O : Okd X.prog X.w X.K X.mg X.base (L2.CX X.prog X.w) 1 dd ["self", "number"] (spIni (ga X.K x))) (hf : fAd X.K dd.at_ = ma X.K (ga X.K x) "__init__") (hI : initB X.K x = true) (gC : X.mg x = some (.ref (ga X.K x))) (hr : Room (k + 2) X.A)
    (he : PE X e te) (hc : X.calm = true := by rfl) (hg : Gl X x := by rfl) (hdb : (x == ("__debug__" : Str)) = false := by decide) (hst : starEach [e] X.env = (false, eval e X.env) :: starEach [] X.env := by rfl) :
    PS X (.Raise (some (.Call (.Name x p) [e] [] pos)) none pos2) (tRaN (ga X.K x) W te) := by
  obtain ⟨o1, o2, o3, o4⟩ := initB_ok hI
  obtain ⟨fd, F, b⟩ := O.ex
  rw [hf] at F
  have h1 := ps_raise (pos := pos2) hc tk (pmk_oex (x := x) (p := p) (pos := pos) (e := e) (es := []) (dvs := []) o1 o3 o4 F (hr.mono (by omega)) b .nil passL hg gC (pa_cons (pe_mo he) pa_nil hst) hdb hst rfl)
  refine ⟨fun pins s σ H D I h => ?_⟩
  have hh : te σ H fun x1 H1 => ∀ H' d, Same H1 H' → H' d = some (.xd [("number", x1)]) → W (.ref (ga X.K x)) (some d) σ H' := h
  have key : ∀ (x1 : V) (H1 : Hp), (∀ H' d, Same H1 H' → H' d = some (.xd [("number", x1)]) → W (.ref (ga X.K x)) (some d) σ H') →
      (fun (vs : List V) (H1 : Hp) => vs.length ≤ 1000 ∧ ∀ a, H1 a = none → spIni (ga X.K x) (.ref a :: (vs ++ [])) (upd H1 a (exo a (ga X.K x) none))
        (fun v H2 => v = .non ∧ ∃ (d : Addr) (fs : List (Str × V)), H2 a = some (exo a (ga X.K x) (some d)) ∧ H2 d = some (exd d fs) ∧ H1 d = none ∧ W (.ref (ga X.K x)) (some d) σ (upd (del H2 a) d (.xd fs))) (fun _ _ _ => False)) [x1] H1 := by
    intro x1 H1 q
    refine ⟨by simp, fun a ha => ⟨a, x1, rfl, upd_same, fun d hd hda => ⟨rfl, d, [("number", x1)], upd_same, ?_, ?_, ?_⟩⟩⟩
    · rw [upd_ne hda, upd_same]
    · rw [upd_ne hda] at hd
      exact hd
    · rw [upd_ne hda] at hd
      refine q _ d (fun b o e => ?_) upd_same
      have hb : b ≠ d := ne_of_none e hd
      have hb2 : b ≠ a := ne_of_none e ha
      rw [upd_ne hb, del_ne hb2, upd_ne hb2, upd_ne hb, upd_ne hb2]
      exact e
  exact h1.run pins s σ H D I ⟨_, hh, key⟩
end
end Tw

namespace Tw
open PySem PySem.Spec PyProof.Rows L2 He
/-- a key's shape: numbers, texts, tuples of at most four within n -/
def kdB : Nat → PyData → Bool
  | _, .int _ => true
  | _, .str x => decide (x.length ≤ 100)
  | n + 1, .tuple ds => decide (ds.length ≤ 4) && ds.all (kdB n)
  | _, _ => false
theorem isNum_int {d : PyData} (h : isNum d = true) : ∃ i, d = .int i := by
  cases d with
  | int i => exact ⟨i, rfl⟩
  | _ => cases h
theorem isTxt_str {d : PyData} (h : isTxt d = true) : ∃ x, d = .str x ∧ x.length ≤ 40 := by
  cases d with
  | str x =>
    have h' : (decide (x.length ≤ 40) && x.cps.toList.all okC) = true := h
    rw [Bool.and_eq_true, decide_eq_true_eq] at h'
    exact ⟨x, rfl, h'.1⟩
  | _ => cases h
theorem isW_kd : ∀ (r : Nat) (d : PyData), isW r d = true → kdB r d = true
  | 0, d, h => by
    have h' : (isNum d || isTxt d) = true := h
    rw [Bool.or_eq_true] at h'
    rcases h' with h' | h'
    · obtain ⟨i, rfl⟩ := isNum_int h'
      rfl
    · obtain ⟨x, rfl, hx⟩ := isTxt_str h'
      exact decide_eq_true (by omega)
  | r + 1, d, h => by
    cases d with
    | int i => rfl
    | str x =>
      have h' : (false || (isTxt (.str x)) || false) = true := h
      rw [Bool.false_or, Bool.or_false] at h'
      obtain ⟨y, e, hx⟩ := isTxt_str h'
      cases e
      exact decide_eq_true (by omega)
    | tuple ds =>
      rw [isW_tup, Bool.and_eq_true, List.all_eq_true] at h
      show (decide _ && _) = true
      rw [Bool.and_eq_true, List.all_eq_true]
      exact ⟨h.1, fun d hd => isW_kd r d (h.2 d hd)⟩
    | none => cases h
    | bool b => cases h
    | list xs => cases h
    | dict xs => cases h
theorem kd_tup {n : Nat} {ds : List PyData} (h : kdB n (.tuple ds) = true) : ∃ m, n = m + 1 ∧ ds.length ≤ 4 ∧ ∀ d ∈ ds, kdB m d = true := by
  cases n with
  | zero => cases h
  | succ m =>
    have h' : (decide (ds.length ≤ 4) && ds.all (kdB m)) = true := h
    rw [Bool.and_eq_true, decide_eq_true_eq, List.all_eq_true] at h'
    exact ⟨m, rfl, h'.1, h'.2⟩
theorem smDs_of {ds : List PyData} (h : ∀ d ∈ ds, smD d = true) : smDs ds = true := by
  induction ds with
  | nil => rfl
  | cons d ds ih =>
    rw [smDs, Bool.and_eq_true]
    exact ⟨h d List.mem_cons_self, ih fun e he => h e (List.mem_cons_of_mem _ he)⟩
theorem kd_sm : ∀ (n : Nat) (d : PyData), kdB n d = true → smD d = true
  | _, .int _, _ => rfl
  | _, .str x, h => by
    have h' : decide (x.length ≤ 100) = true := by cases ‹Nat› <;> exact h
    exact h'
  | 0, .tuple _, h => nomatch h
  | n + 1, .tuple ds, h => by
    obtain ⟨m, e, h1, h2⟩ := kd_tup h
    cases e
    show (decide _ && smDs ds) = true
    rw [Bool.and_eq_true]
    exact ⟨decide_eq_true (by omega), smDs_of fun d hd => kd_sm n d (h2 d hd)⟩
  | _, .none, _ => rfl
  | _, .bool _, _ => rfl
  | _, .list _, _ => rfl
  | _, .dict _, _ => rfl
theorem depth_tup (ds : List PyData) : (PyData.tuple ds).depth = PyData.depthAll ds + 1 := by simp only [PyData.depth]
theorem depth4 {i j : Int} {x : Str} {ds : List PyData} : (PyData.tuple [.int i, .int j, .str x, .tuple ds]).depth = PyData.depthAll ds + 2 := by
  simp only [PyData.depth, PyData.depthAll]
  omega
theorem depthAll_le {n : Nat} : ∀ {ds : List PyData}, (∀ d ∈ ds, d.depth ≤ n) → PyData.depthAll ds ≤ n
  | [], _ => by simp only [PyData.depthAll]; omega
  | d :: ds, h => by
    have h1 := h d List.mem_cons_self
    have h2 := depthAll_le (ds := ds) fun e he => h e (List.mem_cons_of_mem _ he)
    simp only [PyData.depthAll]
    omega
theorem rankDs_map : ∀ ds : List PyData, rankDs ds = ds.map rankD
  | [] => by simp only [rankDs, List.map_nil]
  | d :: ds => by simp only [rankDs, List.map_cons, rankDs_map ds]
theorem rank_depth : ∀ (n : Nat) (d : PyData), kdB n d = true → (rankD d).depth ≤ 2 * n + 2
  | _, .int _, _ => by simp only [rankD, depth4, PyData.depthAll]; omega
  | _, .str _, _ => by simp only [rankD, depth4, PyData.depthAll]; omega
  | 0, .tuple _, h => nomatch h
  | n + 1, .tuple ds, h => by
    obtain ⟨m, e, h1, h2⟩ := kd_tup h
    cases e
    simp only [rankD, depth4, rankDs_map]
    have q : PyData.depthAll (ds.map rankD) ≤ 2 * n + 2 := depthAll_le fun d hd => by
      obtain ⟨c, hc, rfl⟩ := List.mem_map.mp hd
      exact rank_depth n c (h2 c hc)
    omega
  | _, .none, _ => by simp only [rankD, depth4, PyData.depthAll]; omega
  | _, .bool _, _ => by simp only [rankD, depth4, PyData.depthAll]; omega
  | _, .list _, _ => by simp only [rankD, depth4, PyData.depthAll]; omega
  | _, .dict _, _ => by simp only [rankD, depth4, PyData.depthAll]; omega
theorem rank_ne (d : PyData) : rankD d ≠ .none := by cases d <;> simp only [rankD] <;> exact fun z => nomatch z
theorem DaL.updl {H : Hp} {D : Addr} {acc : List V} {o : HO} (hD : H D = some (.lst acc)) {vs : List V} {ds : List PyData} (h : DaL H vs ds) : DaL (upd H D o) vs ds :=
  DaL.ext (fun b xs e => by rw [upd_ne (ne_of e hD (fun z => nomatch z))]; exact e) ds vs h
section
variable {P : Program} {w : World} {K : PySem.W.Frag} {mg : Str → Option Value} {base : Heap}
def spKey : Sp := fun vs H Q _ => ∃ v d, vs = [v] ∧ Da H v d ∧ smD d = true ∧ ∀ H', Same H H' → Q (.bl (isW 3 d)) H'
theorem sc_key : FnScope ["thing"] ["thing"] d_is_key.scope := ⟨rfl, rfl, rfl, by decide +kernel, rfl, by decide +kernel, by decide +kernel⟩
theorem ok_key (T : Tx K mg) : Okd P w K mg base CX0 6 d_is_key ["thing"] spKey := by
  refine okd0 T in_is_key sc_key (fun _ _ _ _ _ _ us hl => match us, hl with | [_], _ => rfl) (fun vs H Q E h => ?_) (fun cdv A outer s H vs Q E hr h => ?_)
  · obtain ⟨v, d, rfl, _⟩ := h
    rfl
  · obtain ⟨v, d, rfl, hd, hs, k⟩ := h
    obtain ⟨tb, hb⟩ := T.i_DEEP
    refine ⟨_, pss_one (ps_ret (pcl (ok_within T 3) hr pass0 (pa_cons (pv 0) (pa_cons (pe_glob (v := .int 3) rfl hb ⟨_, rfl⟩) pa_nil)) (T.g "is_within"))), ?_⟩
    exact ⟨_, rfl, v, d, rfl, hd, hs, k⟩
/-- the key, or NoKey -/
def spChk (K : PySem.W.Frag) : Sp := fun vs H Q E => ∃ v d, vs = [v] ∧ Da H v d ∧ smD d = true ∧ (isW 3 d = true → ∀ H', Same H H' → Q v H') ∧ (isW 3 d = false → ∀ H', Same H H' → E (.ref (ga K "NoKey")) none H')
theorem sc_chk : FnScope ["thing"] ["thing"] d_checked.scope := ⟨rfl, rfl, rfl, by decide +kernel, rfl, by decide +kernel, by decide +kernel⟩
theorem ok_chk (T : Tx K mg) : Okd P w K mg base (L2.CX P w) 7 d_checked ["thing"] (spChk K) := by
  refine okdX T in_checked sc_chk (fun _ _ _ _ _ _ us hl => match us, hl with | [_], _ => rfl) (fun vs H Q E h => ?_) (fun cdv A outer s H vs Q E hr h => ?_)
  · obtain ⟨v, d, rfl, _⟩ := h
    rfl
  · obtain ⟨v, d, rfl, hd, hs, k1, k2⟩ := h
    refine ⟨_, pss_cons (ps_if (pt_not (pt_val (pcl (ok_key T) hr pass0 (pa_cons (pv 0) pa_nil) (T.g "is_key")))) (pss_one (ps_ra0 takesD T.ex_NoKey (T.g "NoKey"))) pss_nil)
      (pss_one (ps_ret (pv 0))), ?_⟩
    refine ⟨_, rfl, v, d, rfl, hd, hs, fun H1 s1 => ⟨_, rfl, ?_⟩⟩
    cases e : isW 3 d with
    | true => exact iteF ⟨_, rfl, k1 e H1 s1⟩
    | false => exact iteT (k2 e H1 s1)
def spRank (n : Nat) : Sp := fun vs H Q _ => ∃ v d, vs = [v] ∧ Da H v d ∧ kdB n d = true ∧ ∀ H' r, Same H H' → Da H' r (rankD d) → Q r H'
def spAhead : Sp := fun vs H Q _ => ∃ v u d e, vs = [v, u] ∧ Da H v d ∧ Da H u e ∧ kdB 3 d = true ∧ kdB 3 e = true ∧ ∀ H', Same H H' → Q (.bl (ah d e)) H'
theorem tup4 {H : Hp} {p q : Addr} {i : Int} {v w : V} {d e : PyData} (hp : H p = none) (hv : Da H v d) (hw : Da H w e) (hq : upd H p (.tup []) q = none) :
    Da (upd (upd H p (.tup [])) q (.tup [.int i, v, w, .ref p])) (.ref q) (.tuple [.int i, d, e, .tuple []]) ∧ Same H (upd (upd H p (.tup [])) q (.tup [.int i, v, w, .ref p])) := by
  have s1 : Same H (upd H p (.tup [])) := same_upd hp
  have s2 : Same (upd H p (.tup [])) (upd (upd H p (.tup [])) q (.tup [.int i, v, w, .ref p])) := same_upd hq
  refine ⟨.tup upd_same (.cons (.int i) (.cons (hv.same (s1.trans s2)) (.cons (hw.same (s1.trans s2)) (.cons (.tup (s2 _ _ upd_same) .nil) .nil)))), s1.trans s2⟩
theorem sc_rank : FnScope ["key", "part"] ["key"] d_rank.scope := ⟨rfl, rfl, rfl, by decide +kernel, rfl, by decide +kernel, by decide +kernel⟩
theorem ok_rank (T : Tx K mg) : ∀ n : Nat, Okd P w K mg base CX0 (n + 1) d_rank ["key"] (spRank n) := by
  intro n
  induction n with
  | zero =>
    refine okd0 T in_rank sc_rank (fun _ _ _ _ _ _ us hl => match us, hl with | [_], _ => rfl) (fun vs H Q E h => ?_) (fun cdv A outer s H vs Q E hr h => ?_)
    · obtain ⟨v, d, rfl, _⟩ := h
      rfl
    · obtain ⟨v, d, rfl, hd, hk, k⟩ := h
      refine ⟨_, pss_cons (ps_if (pt_val (pe_is "int" (T.f "isinstance") (T.f "int") (pv 0))) (pss_one (ps_ret (pe_tup (pa_cons pe_int (pa_cons (pv 0) (pa_cons pe_str (pa_cons (pe_tup pa_nil) pa_nil))))))) pss_nil)
        (pss_cons (ps_if (pt_val (pe_is "str" (T.f "isinstance") (T.f "str") (pv 0))) (pss_one (ps_ret (pe_tup (pa_cons pe_int (pa_cons pe_int (pa_cons (pv 0) (pa_cons (pe_tup pa_nil) pa_nil))))))) pss_nil)
        (pss_one ps_never)), ?_⟩
      cases hd with
      | int i =>
        refine ⟨_, rfl, _, "int", "int", true, rfl, .int i, by decide +kernel, true, rfl, iteT ⟨_, rfl, Nat.zero_le _, fun p hp => ⟨small100 (by simp), fun q hq => ?_⟩⟩⟩
        obtain ⟨a, b⟩ := tup4 (i := 0) hp (.int i) (.str "") hq
        exact k _ _ b (by simp only [rankD]; exact a)
      | str x =>
        refine ⟨_, rfl, _, "int", "str", false, rfl, .str x, by decide +kernel, false, rfl, iteF ⟨_, rfl, _, "str", "str", true, rfl, .str x, by decide +kernel, true, rfl, iteT ⟨_, rfl, Nat.zero_le _, fun p hp => ⟨small100 (by simp), fun q hq => ?_⟩⟩⟩⟩
        obtain ⟨a, b⟩ := tup4 (i := 1) hp (.int 0) (.str x) hq
        exact k _ _ b (by simp only [rankD]; exact a)
      | _ => exact absurd hk (fun z => nomatch z)
  | succ n ih =>
    refine okd0 T in_rank sc_rank (fun _ _ _ _ _ _ us hl => match us, hl with | [_], _ => rfl) (fun vs H Q E h => ?_) (fun cdv A outer s H vs Q E hr h => ?_)
    · obtain ⟨v, d, rfl, _⟩ := h
      rfl
    · obtain ⟨v, d, rfl, hd, hk, k⟩ := h
      refine ⟨_, pss_cons (ps_if (pt_val (pe_is "int" (T.f "isinstance") (T.f "int") (pv 0))) (pss_one (ps_ret (pe_tup (pa_cons pe_int (pa_cons (pv 0) (pa_cons pe_str (pa_cons (pe_tup pa_nil) pa_nil))))))) pss_nil)
        (pss_cons (ps_if (pt_val (pe_is "str" (T.f "isinstance") (T.f "str") (pv 0))) (pss_one (ps_ret (pe_tup (pa_cons pe_int (pa_cons pe_int (pa_cons (pv 0) (pa_cons (pe_tup pa_nil) pa_nil))))))) pss_nil)
        (pss_one (ps_ret (pe_tup (pa_cons pe_int (pa_cons pe_int (pa_cons pe_str (pa_cons (pe_callTy call_tuple_of (by rfl) (T.f "tuple") (by decide +kernel) (pa_cons (pe_lc (own := [("part", 1)]) (g := gName 1) (tt := tYes) rfl sc_rank.nd (pi_tup (pv 0))
          (blkOk_by (own := [("part", 1)]) (N := ["key", "part"]) (sc := d_rank.scope) (by decide +kernel)) (fun _ _ _ _ _ => pg_name (i := 1) sc_rank.nd rfl (Or.inl rfl)) (fun _ _ _ _ _ => pts_nil)
          (fun _ _ _ _ _ => pcl ih hr pass0 (pa_cons (pv 1) pa_nil) (T.g "rank") (by omega))) pa_nil)) pa_nil)))))))), ?_⟩
      cases hd with
      | int i =>
        refine ⟨_, rfl, _, "int", "int", true, rfl, .int i, by decide +kernel, true, rfl, iteT ⟨_, rfl, Nat.zero_le _, fun p hp => ⟨small100 (by simp), fun q hq => ?_⟩⟩⟩
        obtain ⟨a, b⟩ := tup4 (i := 0) hp (.int i) (.str "") hq
        exact k _ _ b (by simp only [rankD]; exact a)
      | str x =>
        refine ⟨_, rfl, _, "int", "str", false, rfl, .str x, by decide +kernel, false, rfl, iteF ⟨_, rfl, _, "str", "str", true, rfl, .str x, by decide +kernel, true, rfl, iteT ⟨_, rfl, Nat.zero_le _, fun p hp => ⟨small100 (by simp), fun q hq => ?_⟩⟩⟩⟩
        obtain ⟨a, b⟩ := tup4 (i := 1) hp (.int 0) (.str x) hq
        exact k _ _ b (by simp only [rankD]; exact a)
      | @tup a xs ds ha hx =>
        obtain ⟨m, em, hl4, hk2⟩ := kd_tup hk
        cases em
        have hlx := hx.length
        refine ⟨_, rfl, _, "int", "tuple", false, rfl, .tup ha, by decide +kernel, false, rfl, iteF ⟨_, rfl, _, "str", "tuple", false, rfl, .tup ha, by decide +kernel, false, rfl, iteF ?_⟩⟩
        refine ⟨_, rfl, a, rfl, ⟨_, SqT.of ha⟩, fun D hD => lc_it walk_tup (fun i H2 => Same H H2 ∧ ∃ acc, H2 D = some (.lst acc) ∧ DaL H2 acc (rankDs (ds.take i))) ⟨same_upd hD, [], upd_same, by simp only [List.take_zero, rankDs]; exact .nil⟩ (fun i H2 _ q => SqT.of (q.1 _ _ ha)) ?_ ?_⟩
        · rintro i y H2 H3 hi ⟨s2, acc, hD2, ha2⟩ ⟨rfl, hy⟩
          obtain ⟨d, e1, e2⟩ := hx.getV hy
          refine ⟨rfl, ⟨_, rfl, y, d, rfl, e2.same s2, hk2 d (List.mem_of_getElem? e1), fun H4 r s4 hr4 => ⟨acc, s4 _ _ hD2, ?_, fun b o e => ?_, acc ++ [r], upd_same, ?_⟩⟩⟩
          · rw [ha2.length, rankDs_map, List.length_map, List.length_take, sizeLine_eq]
            omega
          · rw [upd_ne (ne_of_none e hD)]
            exact s4 _ _ (s2 b o e)
          · rw [rankDs_map, List.take_add_one, e1, List.map_append]
            refine DaL.updl (s4 _ _ hD2) (DaL.app ?_ (.cons hr4 .nil))
            rw [rankDs_map] at ha2
            exact ha2.same s4
        · rintro H2 ⟨s2, acc, hD2, ha2⟩
          rw [hlx, List.take_of_length_le (Nat.le_refl _)] at ha2
          refine ⟨D, acc, rfl, .inl ⟨SqL.of hD2, fun l hl => ⟨small100 (by simp), fun q hq => ?_⟩⟩⟩
          have s3 : Same H2 (upd H2 l (.tup acc)) := same_upd hl
          have s4 : Same (upd H2 l (.tup acc)) (upd (upd H2 l (.tup acc)) q (.tup [.int 2, .int 0, .str "", .ref l])) := same_upd hq
          refine k _ _ (s2.trans (s3.trans s4)) ?_
          simp only [rankD]
          exact .tup upd_same (.cons (.int 2) (.cons (.int 0) (.cons (.str _) (.cons (.tup (s4 _ _ upd_same) (ha2.same (s3.trans s4))) .nil))))
      | _ => exact absurd hk (fun z => nomatch z)
theorem sc_ahead : FnScope ["one", "other"] ["one", "other"] d_ahead.scope := ⟨rfl, rfl, rfl, by decide +kernel, rfl, by decide +kernel, by decide +kernel⟩
theorem ok_ahead (T : Tx K mg) : Okd P w K mg base CX0 5 d_ahead ["one", "other"] spAhead := by
  refine okd0 T in_ahead sc_ahead (fun _ _ _ _ _ _ us hl => match us, hl with | [_, _], _ => rfl) (fun vs H Q E h => ?_) (fun cdv A outer s H vs Q E hr h => ?_)
  · obtain ⟨v, u, d, e, rfl, _⟩ := h
    rfl
  · obtain ⟨v, u, d, e, rfl, hd, he, kd, ke, k⟩ := h
    refine ⟨_, pss_one (ps_ret (pe_cmpR (op_ltD (n := 64) hr.units) (pcl (ok_rank T 3) hr pass0 (pa_cons (pv 0) pa_nil) (T.g "rank")) (pcl (ok_rank T 3) hr pass0 (pa_cons (pv 1) pa_nil) (T.g "rank")) (nomark _))), ?_⟩
    refine ⟨_, rfl, v, d, rfl, hd, kd, fun H1 r1 s1 h1 => ⟨_, rfl, u, e, rfl, he.same s1, ke, fun H2 r2 s2 h2 => ?_⟩⟩
    exact ⟨rankD d, rankD e, (h1.same s2).dp, h2.dp, rank_alike _ _, rank_ne _, Nat.le_trans (rank_depth 3 d kd) (by decide), k H2 (s1.trans s2)⟩
theorem sc_l_rank : FnScope ["_law_key", "_law_part"] ["_law_key"] d_l_rank.scope := ⟨rfl, rfl, rfl, by decide +kernel, rfl, by decide +kernel, by decide +kernel⟩
theorem ok_l_rank (T : Tx K mg) : ∀ n : Nat, Okd P w K mg base CX0 (n + 1) d_l_rank ["_law_key"] (spRank n) := by
  intro n
  induction n with
  | zero =>
    refine okd0 T in_l_rank sc_l_rank (fun _ _ _ _ _ _ us hl => match us, hl with | [_], _ => rfl) (fun vs H Q E h => ?_) (fun cdv A outer s H vs Q E hr h => ?_)
    · obtain ⟨v, d, rfl, _⟩ := h
      rfl
    · obtain ⟨v, d, rfl, hd, hk, k⟩ := h
      refine ⟨_, pss_cons (ps_if (pt_val (pe_is "int" (T.f "isinstance") (T.f "int") (pv 0))) (pss_one (ps_ret (pe_tup (pa_cons pe_int (pa_cons (pv 0) (pa_cons pe_str (pa_cons (pe_tup pa_nil) pa_nil))))))) pss_nil)
        (pss_cons (ps_if (pt_val (pe_is "str" (T.f "isinstance") (T.f "str") (pv 0))) (pss_one (ps_ret (pe_tup (pa_cons pe_int (pa_cons pe_int (pa_cons (pv 0) (pa_cons (pe_tup pa_nil) pa_nil))))))) pss_nil)
        (pss_one ps_never)), ?_⟩
      cases hd with
      | int i =>
        refine ⟨_, rfl, _, "int", "int", true, rfl, .int i, by decide +kernel, true, rfl, iteT ⟨_, rfl, Nat.zero_le _, fun p hp => ⟨small100 (by simp), fun q hq => ?_⟩⟩⟩
        obtain ⟨a, b⟩ := tup4 (i := 0) hp (.int i) (.str "") hq
        exact k _ _ b (by simp only [rankD]; exact a)
      | str x =>
        refine ⟨_, rfl, _, "int", "str", false, rfl, .str x, by decide +kernel, false, rfl, iteF ⟨_, rfl, _, "str", "str", true, rfl, .str x, by decide +kernel, true, rfl, iteT ⟨_, rfl, Nat.zero_le _, fun p hp => ⟨small100 (by simp), fun q hq => ?_⟩⟩⟩⟩
        obtain ⟨a, b⟩ := tup4 (i := 1) hp (.int 0) (.str x) hq
        exact k _ _ b (by simp only [rankD]; exact a)
      | _ => exact absurd hk (fun z => nomatch z)
  | succ n ih =>
    refine okd0 T in_l_rank sc_l_rank (fun _ _ _ _ _ _ us hl => match us, hl with | [_], _ => rfl) (fun vs H Q E h => ?_) (fun cdv A outer s H vs Q E hr h => ?_)
    · obtain ⟨v, d, rfl, _⟩ := h
      rfl
    · obtain ⟨v, d, rfl, hd, hk, k⟩ := h
      refine ⟨_, pss_cons (ps_if (pt_val (pe_is "int" (T.f "isinstance") (T.f "int") (pv 0))) (pss_one (ps_ret (pe_tup (pa_cons pe_int (pa_cons (pv 0) (pa_cons pe_str (pa_cons (pe_tup pa_nil) pa_nil))))))) pss_nil)
        (pss_cons (ps_if (pt_val (pe_is "str" (T.f "isinstance") (T.f "str") (pv 0))) (pss_one (ps_ret (pe_tup (pa_cons pe_int (pa_cons pe_int (pa_cons (pv 0) (pa_cons (pe_tup pa_nil) pa_nil))))))) pss_nil)
        (pss_one (ps_ret (pe_tup (pa_cons pe_int (pa_cons pe_int (pa_cons pe_str (pa_cons (pe_callTy call_tuple_of (by rfl) (T.f "tuple") (by decide +kernel) (pa_cons (pe_lc (own := [("_law_part", 1)]) (g := gName 1) (tt := tYes) rfl sc_l_rank.nd (pi_tup (pv 0))
          (blkOk_by (own := [("_law_part", 1)]) (N := ["_law_key", "_law_part"]) (sc := d_l_rank.scope) (by decide +kernel)) (fun _ _ _ _ _ => pg_name (i := 1) sc_l_rank.nd rfl (Or.inl rfl)) (fun _ _ _ _ _ => pts_nil)
          (fun _ _ _ _ _ => pcl ih hr pass0 (pa_cons (pv 1) pa_nil) (T.g "_law_rank") (by omega))) pa_nil)) pa_nil)))))))), ?_⟩
      cases hd with
      | int i =>
        refine ⟨_, rfl, _, "int", "int", true, rfl, .int i, by decide +kernel, true, rfl, iteT ⟨_, rfl, Nat.zero_le _, fun p hp => ⟨small100 (by simp), fun q hq => ?_⟩⟩⟩
        obtain ⟨a, b⟩ := tup4 (i := 0) hp (.int i) (.str "") hq
        exact k _ _ b (by simp only [rankD]; exact a)
      | str x =>
        refine ⟨_, rfl, _, "int", "str", false, rfl, .str x, by decide +kernel, false, rfl, iteF ⟨_, rfl, _, "str", "str", true, rfl, .str x, by decide +kernel, true, rfl, iteT ⟨_, rfl, Nat.zero_le _, fun p hp => ⟨small100 (by simp), fun q hq => ?_⟩⟩⟩⟩
        obtain ⟨a, b⟩ := tup4 (i := 1) hp (.int 0) (.str x) hq
        exact k _ _ b (by simp only [rankD]; exact a)
      | @tup a xs ds ha hx =>
        obtain ⟨m, em, hl4, hk2⟩ := kd_tup hk
        cases em
        have hlx := hx.length
        refine ⟨_, rfl, _, "int", "tuple", false, rfl, .tup ha, by decide +kernel, false, rfl, iteF ⟨_, rfl, _, "str", "tuple", false, rfl, .tup ha, by decide +kernel, false, rfl, iteF ?_⟩⟩
        refine ⟨_, rfl, a, rfl, ⟨_, SqT.of ha⟩, fun D hD => lc_it walk_tup (fun i H2 => Same H H2 ∧ ∃ acc, H2 D = some (.lst acc) ∧ DaL H2 acc (rankDs (ds.take i))) ⟨same_upd hD, [], upd_same, by simp only [List.take_zero, rankDs]; exact .nil⟩ (fun i H2 _ q => SqT.of (q.1 _ _ ha)) ?_ ?_⟩
        · rintro i y H2 H3 hi ⟨s2, acc, hD2, ha2⟩ ⟨rfl, hy⟩
          obtain ⟨d, e1, e2⟩ := hx.getV hy
          refine ⟨rfl, ⟨_, rfl, y, d, rfl, e2.same s2, hk2 d (List.mem_of_getElem? e1), fun H4 r s4 hr4 => ⟨acc, s4 _ _ hD2, ?_, fun b o e => ?_, acc ++ [r], upd_same, ?_⟩⟩⟩
          · rw [ha2.length, rankDs_map, List.length_map, List.length_take, sizeLine_eq]
            omega
          · rw [upd_ne (ne_of_none e hD)]
            exact s4 _ _ (s2 b o e)
          · rw [rankDs_map, List.take_add_one, e1, List.map_append]
            refine DaL.updl (s4 _ _ hD2) (DaL.app ?_ (.cons hr4 .nil))
            rw [rankDs_map] at ha2
            exact ha2.same s4
        · rintro H2 ⟨s2, acc, hD2, ha2⟩
          rw [hlx, List.take_of_length_le (Nat.le_refl _)] at ha2
          refine ⟨D, acc, rfl, .inl ⟨SqL.of hD2, fun l hl => ⟨small100 (by simp), fun q hq => ?_⟩⟩⟩
          have s3 : Same H2 (upd H2 l (.tup acc)) := same_upd hl
          have s4 : Same (upd H2 l (.tup acc)) (upd (upd H2 l (.tup acc)) q (.tup [.int 2, .int 0, .str "", .ref l])) := same_upd hq
          refine k _ _ (s2.trans (s3.trans s4)) ?_
          simp only [rankD]
          exact .tup upd_same (.cons (.int 2) (.cons (.int 0) (.cons (.str _) (.cons (.tup (s4 _ _ upd_same) (ha2.same (s3.trans s4))) .nil))))
      | _ => exact absurd hk (fun z => nomatch z)
theorem sc_l_less : FnScope ["_law_one", "_law_other"] ["_law_one", "_law_other"] d_l_less.scope := ⟨rfl, rfl, rfl, by decide +kernel, rfl, by decide +kernel, by decide +kernel⟩
theorem ok_l_less (T : Tx K mg) : Okd P w K mg base CX0 5 d_l_less ["_law_one", "_law_other"] spAhead := by
  refine okd0 T in_l_less sc_l_less (fun _ _ _ _ _ _ us hl => match us, hl with | [_, _], _ => rfl) (fun vs H Q E h => ?_) (fun cdv A outer s H vs Q E hr h => ?_)
  · obtain ⟨v, u, d, e, rfl, _⟩ := h
    rfl
  · obtain ⟨v, u, d, e, rfl, hd, he, kd, ke, k⟩ := h
    refine ⟨_, pss_one (ps_ret (pe_cmpR (op_ltD (n := 64) hr.units) (pcl (ok_l_rank T 3) hr pass0 (pa_cons (pv 0) pa_nil) (T.g "_law_rank")) (pcl (ok_l_rank T 3) hr pass0 (pa_cons (pv 1) pa_nil) (T.g "_law_rank")) (nomark _))), ?_⟩
    refine ⟨_, rfl, v, d, rfl, hd, kd, fun H1 r1 s1 h1 => ⟨_, rfl, u, e, rfl, he.same s1, ke, fun H2 r2 s2 h2 => ?_⟩⟩
    exact ⟨rankD d, rankD e, (h1.same s2).dp, h2.dp, rank_alike _ _, rank_ne _, Nat.le_trans (rank_depth 3 d kd) (by decide), k H2 (s1.trans s2)⟩
end
end Tw

namespace Tw
open PySem PySem.Spec PyProof.Rows L2 He
abbrev Row := PyData × PyData
def rowD (r : Row) : PyData := .tuple [r.1, r.2]
/-- the keys rise -/
def Ris (rs : List Row) : Prop := ∀ k a b, rs[k]? = some a → rs[k + 1]? = some b → ah a.1 b.1 = true
def okK (r : Row) : Prop := isW 3 r.1 = true ∧ isW 3 r.2 = true
theorem row_of {H : Hp} {v : V} {r : Row} (h : Da H v (rowD r)) : ∃ a x y, v = .ref a ∧ H a = some (.tup [x, y]) ∧ Da H x r.1 ∧ Da H y r.2 := by
  obtain ⟨a, xs, rfl, ha, hx⟩ := h.tup_of
  cases hx with
  | cons h1 h2 =>
    cases h2 with
    | cons h2 h3 =>
      cases h3
      exact ⟨a, _, _, rfl, ha, h1, h2⟩
theorem rows_at {H : Hp} {xs : List V} {rs : List Row} {i : Nat} {x : V} (h : DaL H xs (rs.map rowD)) (e : xs[i]? = some x) : ∃ r, rs[i]? = some r ∧ Da H x (rowD r) := by
  obtain ⟨d, e1, e2⟩ := h.getV e
  rw [List.getElem?_map] at e1
  cases q : rs[i]? with
  | none => rw [q] at e1; cases e1
  | some r =>
    rw [q] at e1
    cases e1
    exact ⟨r, rfl, e2⟩
theorem rows_get {H : Hp} {xs : List V} {rs : List Row} {i : Nat} {r : Row} (h : DaL H xs (rs.map rowD)) (e : rs[i]? = some r) : ∃ x, xs[i]? = some x ∧ Da H x (rowD r) := h.get (by rw [List.getElem?_map, e]; rfl)
/-- what stays of the heap when a list of ours at p grows -/
theorem grow_same {H H1 : Hp} {p : Addr} {o : HO} (s : Same H H1) (hp : H p = none) : Same H (upd H1 p o) := fun b u e => by
  rw [upd_ne (ne_of_none e hp)]
  exact s b u e
section
variable {P : Program} {w : World} {K : PySem.W.Frag} {mg : Str → Option Value} {base : Heap}
/-- the rows of a leaf as a new list; NoKey; NoLeaf -/
def spCR (K : PySem.W.Frag) : Sp := fun vs H Q E => ∃ a xs rs, vs = [.ref a] ∧ SqL K H a xs ∧ DaL H xs (rs.map rowD) ∧ (∀ r ∈ rs, smD r.1 = true ∧ smD r.2 = true) ∧ rs.length ≤ 100 ∧
  ((∃ r ∈ rs, ¬ okK r) → ∀ H', Same H H' → E (.ref (ga K "NoKey")) none H') ∧
  ((∀ r ∈ rs, okK r) → (rs.length < 1 ∨ 4 < rs.length ∨ ¬ Ris rs) → ∀ H', Same H H' → E (.ref (ga K "NoLeaf")) none H') ∧
  ((∀ r ∈ rs, okK r) → 1 ≤ rs.length → rs.length ≤ 4 → Ris rs → ∀ H' p ys, Same H H' → H p = none → H' p = some (.lst ys) → DaL H' ys (rs.map rowD) → Q (.ref p) H')
theorem sc_cr : FnScope ["rows", "found", "key", "value", "k"] ["rows"] d_checked_rows.scope := ⟨rfl, rfl, rfl, by decide +kernel, rfl, by decide +kernel, by decide +kernel⟩
theorem ok_cr (T : Tx K mg) : Okd P w K mg base (L2.CX P w) 8 d_checked_rows ["rows"] (spCR K) := by
  refine okdX T in_checked_rows sc_cr (fun _ _ _ _ _ _ us hl => match us, hl with | [_], _ => rfl) (fun vs H Q E h => ?_) (fun cdv A outer s H vs Q E hr h => ?_)
  · obtain ⟨a, xs, rs, rfl, _⟩ := h
    rfl
  · obtain ⟨a, xs, rs, rfl, hxs, hda, hsm, hlen, k1, k2, k3⟩ := h
    obtain ⟨tb, hb⟩ := T.i_MOST
    have lx := hda.length
    rw [List.length_map] at lx
    refine ⟨_, pss_cons (ps_set (i := 1) sc_cr.nd rfl (Or.inl rfl) (pe_lst pa_nil))
      (pss_cons (ps_for (passes_of rfl) rfl (pi_list (pv 0)) (pg_tup rfl (pgs_cons (pg_name (i := 2) sc_cr.nd rfl (Or.inl rfl)) (pgs_cons (pg_name (i := 3) sc_cr.nd rfl (Or.inl rfl)) pgs_nil)))
        (pss_one (ps_expr (pe_bm PySem.F.plainAttrs_list PySem.F.slot_list_append PySem.F.type_list_append mt_append (pv 1) (pa_cons (pe_tup (pa_cons (pcl (ok_chk T) hr passD (pa_cons (pv 2) pa_nil) (T.g "checked")) (pa_cons (pcl (ok_chk T) hr passD (pa_cons (pv 3) pa_nil) (T.g "checked")) pa_nil))) pa_nil)))))
      (pss_cons (ps_if (PW.pt (pw_or (pt_cmpR op_lt (pe_callB call_len_seq (by rfl) (T.f "len") PySem.boot_len (pa_cons (pv 1) pa_nil)) pe_int (nomark _)) (pw_or1 (pt_cmpR op_gt (pe_callB call_len_seq (by rfl) (T.f "len") PySem.boot_len (pa_cons (pv 1) pa_nil)) (pe_glob (v := .int 4) rfl hb ⟨_, rfl⟩) (nomark _)))))
        (pss_one (ps_ra0 takesD T.ex_NoLeaf (T.g "NoLeaf"))) pss_nil)
      (pss_cons (ps_for (passes_of rfl) rfl (pi_range2 (by rfl) (T.f "range") (pa_cons pe_int (pa_cons (pe_callB call_len_seq (by rfl) (T.f "len") PySem.boot_len (pa_cons (pv 1) pa_nil)) pa_nil))) (pg_name (i := 4) sc_cr.nd rfl (Or.inl rfl))
        (pss_one (ps_if (pt_not (pt_val (pcl (ok_ahead T) hr pass0 (pa_cons (pe_ix ix_tup (pe_ix ix_list (pv 1) (pe_op op_sub (pv 4) pe_int) (fun _ _ => rfl)) pe_int (fun _ _ => rfl)) (pa_cons (pe_ix ix_tup (pe_ix ix_list (pv 1) (pv 4) (fun _ _ => rfl)) pe_int (fun _ _ => rfl)) pa_nil)) (T.g "ahead"))))
          (pss_one (ps_ra0 takesD T.ex_NoLeaf (T.g "NoLeaf"))) pss_nil)))
      (pss_one (ps_ret (pv 1)))))), ?_⟩
    refine ⟨Nat.zero_le _, fun p hp => ?_⟩
    have s0 : Same H (upd H p (.lst [])) := same_upd hp
    refine ⟨_, rfl, a, rfl, ⟨_, s0.seq hxs⟩, for_it walk_list (fun i σ H2 => ∃ ys u v z, σ = [some (.ref a), some (.ref p), u, v, z] ∧ Same H H2 ∧ H2 p = some (.lst ys) ∧ DaL H2 ys ((rs.take i).map rowD) ∧ ∀ r ∈ rs.take i, okK r)
      ⟨[], none, none, none, rfl, s0, upd_same, .nil, fun r hr => by simp at hr⟩ (fun i σ H2 _ ⟨_, _, _, _, _, s2, _⟩ => s2.seq hxs) ?_ ?_⟩
    · rintro i x σ H2 H3 hi ⟨ys, u, v, z, rfl, s2, hp2, hy2, hok⟩ ⟨rfl, hx⟩
      obtain ⟨r, er, hr1⟩ := rows_at hda hx
      obtain ⟨t, x1, x2, rfl, ht, d1, d2⟩ := row_of hr1
      have hm : r ∈ rs := List.mem_of_getElem? er
      obtain ⟨sm1, sm2⟩ := hsm r hm
      refine ⟨t, _, rfl, SqT.of (s2 _ _ ht), rfl, _, _, rfl, _, _, rfl, rfl, ?_⟩
      refine ⟨_, rfl, .inl ⟨rfl, _, SqL.of hp2⟩, _, rfl, x1, r.1, rfl, d1.same s2, sm1, fun w1 H4 s4 => ?_, fun w1 H4 s4 => k1 ⟨r, hm, fun q => by rw [q.1] at w1; cases w1⟩ H4 (s2.trans s4)⟩
      refine ⟨_, rfl, x2, r.2, rfl, d2.same (s2.trans s4), sm2, fun w2 H5 s5 => ?_, fun w2 H5 s5 => k1 ⟨r, hm, fun q => by rw [q.2] at w2; cases w2⟩ H5 (s2.trans (s4.trans s5))⟩
      refine ⟨small100 (by simp), fun q hq => ?_⟩
      have s6 : Same H5 (upd H5 q (.tup [x1, x2])) := same_upd hq
      have hp6 := s6 _ _ (s5 _ _ (s4 _ _ hp2))
      have s26 := s4.trans (s5.trans s6)
      refine ⟨p, ys, .ref q, rfl, rfl, hp6, ?_, ?_⟩
      · rw [hy2.length, List.length_map, List.length_take, sizeLine_eq]
        omega
      · refine ⟨ys ++ [.ref q], _, _, _, rfl, grow_same (s2.trans s26) hp, upd_same, ?_, fun r' hr' => ?_⟩
        · rw [List.take_add_one, er, List.map_append]
          exact DaL.updl hp6 (DaL.app (hy2.same s26) (.cons (.tup upd_same (.cons (d1.same (s2.trans s26)) (.cons (d2.same (s2.trans s26)) .nil))) .nil))
        · rw [List.take_add_one, er] at hr'
          rcases List.mem_append.mp hr' with q' | q'
          · exact hok r' q'
          · rw [List.mem_singleton.mp q']
            exact ⟨w1, w2⟩
    · rintro σ H2 ⟨ys, u, v, z, rfl, s2, hp2, hy2, hok⟩
      rw [lx, List.take_of_length_le (Nat.le_refl _)] at hy2 hok
      have ly := hy2.length
      rw [List.length_map] at ly
      refine ⟨_, rfl, p, ys, rfl, .inl (SqL.of hp2), _, _, rfl, rfl, _, rfl, ite2 (fun h1 => iteT (k2 hok (.inl ?_) H2 s2)) (fun h1 => ?_)⟩
      · have q := of_decide_eq_true h1
        omega
      refine ⟨_, rfl, p, ys, rfl, .inl (SqL.of hp2), _, _, rfl, rfl, _, rfl, ite2 (fun h2 => k2 hok (.inr (.inl ?_)) H2 s2) (fun h2 => ?_)⟩
      · have q := of_decide_eq_true h2
        omega
      have l1 : 1 ≤ rs.length := by
        have q : ¬ (ys.length : Int) < 1 := fun z => h1 (decide_eq_true z)
        omega
      have l4 : rs.length ≤ 4 := by
        have q : ¬ (4 : Int) < (ys.length : Int) := fun z => h2 (decide_eq_true z)
        omega
      refine ⟨_, rfl, p, ys, rfl, .inl (SqL.of hp2), 1, (ys.length : Int), rfl, ⟨by decide, by decide, by omega, by omega⟩, ?_⟩
      have en : ((ys.length : Int) - 1).toNat = rs.length - 1 := by omega
      rw [en]
      refine for_it walk_range (fun i σ H3 => ∃ u v z, σ = [some (.ref a), some (.ref p), u, v, z] ∧ Same H2 H3 ∧ ∀ k a b, k < i → rs[k]? = some a → rs[k + 1]? = some b → ah a.1 b.1 = true)
        ⟨_, _, _, rfl, Same.refl _, fun k _ _ hk => absurd hk (Nat.not_lt_zero k)⟩ (fun _ _ _ _ _ => True.intro) ?_ ?_
      · rintro i x σ H3 H4 hi ⟨u, v, z, rfl, s3, ha3⟩ ⟨rfl, rfl⟩
        have hi1 : i < rs.length := by omega
        have hi2 : i + 1 < rs.length := by omega
        obtain ⟨y1, e1, d1⟩ := rows_get hy2 (List.getElem?_eq_getElem hi1)
        obtain ⟨y2, e2, d2⟩ := rows_get hy2 (List.getElem?_eq_getElem hi2)
        obtain ⟨t1, a1, b1, rfl, ht1, da1, _⟩ := row_of d1
        obtain ⟨t2, a2, b2, rfl, ht2, da2, _⟩ := row_of d2
        have o1 := (isW_kd 3 _ (hok _ (List.getElem_mem hi1)).1)
        have o2 := (isW_kd 3 _ (hok _ (List.getElem_mem hi2)).1)
        refine ⟨_, rfl, _, rfl, _, _, rfl, rfl, p, ys, (i : Int), .ref t1, rfl, ?_, SqL.of (s3 _ _ hp2), atI_nat e1, ?_⟩
        · show V.int (1 + (i : Int) - 1) = V.int (i : Int)
          rw [show 1 + (i : Int) - 1 = (i : Int) by omega]
        refine ⟨t1, _, 0, a1, rfl, rfl, SqT.of (s3 _ _ ht1), atI_nat (j := 0) rfl, ?_⟩
        refine ⟨_, rfl, _, rfl, p, ys, ((i + 1 : Nat) : Int), .ref t2, rfl, ?_, SqL.of (s3 _ _ hp2), atI_nat e2, ?_⟩
        · show V.int (1 + (i : Int)) = V.int ((i + 1 : Nat) : Int)
          rw [show 1 + (i : Int) = ((i + 1 : Nat) : Int) by omega]
        refine ⟨t2, _, 0, a2, rfl, rfl, SqT.of (s3 _ _ ht2), atI_nat (j := 0) rfl, ?_⟩
        refine ⟨a1, a2, _, _, rfl, da1.same s3, da2.same s3, o1, o2, fun H5 s5 => ⟨_, rfl, ?_⟩⟩
        cases e : ah (rs[i]).1 (rs[i + 1]).1 with
        | false => exact iteT (k2 hok (.inr (.inr fun q => by rw [q i _ _ (List.getElem?_eq_getElem hi1) (List.getElem?_eq_getElem hi2)] at e; cases e)) H5 (s2.trans (s3.trans s5)))
        | true =>
          refine iteF ⟨_, _, _, rfl, s3.trans s5, fun k a b hk ea eb => ?_⟩
          by_cases hk2 : k < i
          · exact ha3 k a b hk2 ea eb
          · have ek : k = i := by omega
            subst ek
            rw [List.getElem?_eq_getElem hi1] at ea
            rw [List.getElem?_eq_getElem hi2] at eb
            cases ea
            cases eb
            exact e
      · rintro σ H3 ⟨u, v, z, rfl, s3, ha3⟩
        refine ⟨_, rfl, k3 hok l1 l4 (fun k a b ea eb => ?_) H3 p ys (s2.trans s3) hp (s3 _ _ hp2) (hy2.same s3)⟩
        exact ha3 k a b (by have := (List.getElem?_eq_some_iff.mp eb).1; omega) ea eb
end
end Tw

namespace Tw
open PySem PySem.Spec PyProof.Rows L2 He
/-- a label: height, least key, greatest key, how many rows -/
structure Lab where
  h : Int
  lo : PyData
  hi : PyData
  n : Int
def Lab.D (l : Lab) : PyData := .tuple [.int l.h, l.lo, l.hi, .int l.n]
theorem atI_m1 {α : Type} {xs : List α} {v : α} (h : xs[xs.length - 1]? = some v) : atI xs (-1) = some v := by
  have hn : 0 < xs.length := by
    have := (List.getElem?_eq_some_iff.mp h).1
    omega
  have e : ixN xs.length (-1) = some (xs.length - 1) := by
    unfold ixN
    rw [if_neg (by decide), if_pos (by omega)]
    congr 1
    omega
  unfold atI
  rw [e]
  exact h
/-- the last of r :: rs -/
def lastR {α : Type} : α → List α → α
  | r, [] => r
  | _, x :: rs => lastR x rs
theorem lab_of {H : Hp} {v : V} {l : Lab} (h : Da H v l.D) : ∃ a x y, v = .ref a ∧ H a = some (.tup [.int l.h, x, y, .int l.n]) ∧ Da H x l.lo ∧ Da H y l.hi := by
  obtain ⟨a, xs, rfl, ha, hx⟩ := h.tup_of
  cases hx with
  | cons h1 h2 =>
    cases h2 with
    | cons h2 h3 =>
      cases h3 with
      | cons h3 h4 =>
        cases h4 with
        | cons h4 h5 =>
          cases h5
          rw [h1.int_of, h4.int_of] at ha
          exact ⟨a, _, _, rfl, ha, h2, h3⟩
theorem labs_at {H : Hp} {xs : List V} {ls : List Lab} {i : Nat} {x : V} (h : DaL H xs (ls.map Lab.D)) (e : xs[i]? = some x) : ∃ l, ls[i]? = some l ∧ Da H x l.D := by
  obtain ⟨d, e1, e2⟩ := h.getV e
  rw [List.getElem?_map] at e1
  cases q : ls[i]? with
  | none => rw [q] at e1; cases e1
  | some r =>
    rw [q] at e1
    cases e1
    exact ⟨r, rfl, e2⟩
theorem labs_get {H : Hp} {xs : List V} {ls : List Lab} {i : Nat} {l : Lab} (h : DaL H xs (ls.map Lab.D)) (e : ls[i]? = some l) : ∃ x, xs[i]? = some x ∧ Da H x l.D := h.get (by rw [List.getElem?_map, e]; rfl)
/-- the labels stand one behind the other, at one height -/
structure OkL (ls : List Lab) : Prop where
  two : 2 ≤ ls.length
  four : ls.length ≤ 4
  adj : ∀ k a b f, ls[k]? = some a → ls[k + 1]? = some b → ls[0]? = some f → b.h = f.h ∧ ah a.hi b.lo = true
def overL : List Lab → Lab
  | [] => ⟨0, .none, .none, 0⟩
  | l :: ls => ⟨l.h + 1, l.lo, (lastR l ls).hi, ((l :: ls).map Lab.n).sum⟩
section
variable {P : Program} {w : World} {K : PySem.W.Frag} {mg : Str → Option Value} {base : Heap}
def spLR (K : PySem.W.Frag) : Sp := fun vs H Q _ => ∃ a xs r rs, vs = [.ref a] ∧ SqL K H a xs ∧ DaL H xs ((r :: rs).map rowD) ∧ rs.length ≤ 100 ∧
  ∀ H' v, Same H H' → Da H' v (Lab.D ⟨0, r.1, (lastR r rs).1, (rs.length : Int) + 1⟩) → Q v H'
theorem sc_lr : FnScope ["rows"] ["rows"] d_label_of_rows.scope := ⟨rfl, rfl, rfl, by decide +kernel, rfl, by decide +kernel, by decide +kernel⟩
theorem last_get {α : Type} : ∀ (r : α) (rs : List α), (r :: rs)[(r :: rs).length - 1]? = some (lastR r rs)
  | _, [] => rfl
  | r, x :: rs => by
    have q := last_get x rs
    simp only [List.length_cons, Nat.add_sub_cancel] at q ⊢
    rw [List.getElem?_cons_succ, q]
    rfl
theorem ok_lr (T : Tx K mg) : Okd P w K mg base CX0 1 d_label_of_rows ["rows"] (spLR K) := by
  refine okd0 T in_label_of_rows sc_lr (fun _ _ _ _ _ _ us hl => match us, hl with | [_], _ => rfl) (fun vs H Q E h => ?_) (fun cdv A outer s H vs Q E hr h => ?_)
  · obtain ⟨a, xs, r, rs, rfl, _⟩ := h
    rfl
  · obtain ⟨a, xs, r, rs, rfl, hxs, hda, hl, k⟩ := h
    refine ⟨_, pss_one (ps_ret (pe_tup (pa_cons pe_int (pa_cons (pe_ix ix_tup (pe_ix ix_list (pv 0) pe_int (fun _ _ => rfl)) pe_int (fun _ _ => rfl))
      (pa_cons (pe_ix ix_tup (pe_ix ix_list (pv 0) (pe_un un_neg pe_int) (fun _ _ => rfl)) pe_int (fun _ _ => rfl)) (pa_cons (pe_callB call_len_seq (by rfl) (T.f "len") PySem.boot_len (pa_cons (pv 0) pa_nil)) pa_nil)))))), ?_⟩
    have lx := hda.length
    rw [List.length_map] at lx
    obtain ⟨y1, e1, d1⟩ := rows_get (i := 0) hda rfl
    obtain ⟨y2, e2, d2⟩ := rows_get hda (last_get r rs)
    obtain ⟨t1, a1, b1, rfl, ht1, da1, _⟩ := row_of d1
    obtain ⟨t2, a2, b2, rfl, ht2, da2, _⟩ := row_of d2
    rw [← lx] at e2
    refine ⟨_, rfl, a, xs, 0, .ref t1, rfl, rfl, hxs, atI_nat (j := 0) e1, t1, _, 0, a1, rfl, rfl, SqT.of ht1, atI_nat (j := 0) rfl, ?_⟩
    refine ⟨_, rfl, 1, rfl, a, xs, -1, .ref t2, rfl, rfl, hxs, atI_m1 e2, t2, _, 0, a2, rfl, rfl, SqT.of ht2, atI_nat (j := 0) rfl, ?_⟩
    refine ⟨_, rfl, a, xs, rfl, .inl hxs, small100 (by simp), fun q hq => ?_⟩
    have s1 : Same H (upd H q (.tup [.int 0, a1, a2, .int (xs.length : Int)])) := same_upd hq
    refine k _ _ s1 (.tup upd_same (.cons (.int 0) (.cons (da1.same s1) (.cons (da2.same s1) (.cons ?_ .nil)))))
    rw [lx]
    exact .int _
def spLO (K : PySem.W.Frag) : Sp := fun vs H Q E => ∃ a xs ls, vs = [.ref a] ∧ SqL K H a xs ∧ DaL H xs (ls.map Lab.D) ∧ (∀ l ∈ ls, kdB 3 l.lo = true ∧ kdB 3 l.hi = true) ∧ ls.length ≤ 100 ∧
  (¬ OkL ls → ∀ H', Same H H' → E (.ref (ga K "NoStem")) none H') ∧ (OkL ls → ∀ H' v, Same H H' → Da H' v (overL ls).D → Q v H')
theorem sc_lo : FnScope ["labels", "k", "label"] ["labels"] d_label_over.scope := ⟨rfl, rfl, rfl, by decide +kernel, rfl, by decide +kernel, by decide +kernel⟩
theorem ok_lo (T : Tx K mg) : Okd P w K mg base (L2.CX P w) 6 d_label_over ["labels"] (spLO K) := by
  refine okdX T in_label_over sc_lo (fun _ _ _ _ _ _ us hl => match us, hl with | [_], _ => rfl) (fun vs H Q E h => ?_) (fun cdv A outer s H vs Q E hr h => ?_)
  · obtain ⟨a, xs, ls, rfl, _⟩ := h
    rfl
  · obtain ⟨a, xs, ls, rfl, hxs, hda, hkd, hlen, k1, k2⟩ := h
    obtain ⟨tb, hb⟩ := T.i_MOST
    have lx := hda.length
    rw [List.length_map] at lx
    refine ⟨_, pss_cons (ps_if (PW.pt (pw_or (pt_cmpR op_lt (pe_callB call_len_seq (by rfl) (T.f "len") PySem.boot_len (pa_cons (pv 0) pa_nil)) pe_int (nomark _)) (pw_or1 (pt_cmpR op_gt (pe_callB call_len_seq (by rfl) (T.f "len") PySem.boot_len (pa_cons (pv 0) pa_nil)) (pe_glob (v := .int 4) rfl hb ⟨_, rfl⟩) (nomark _)))))
        (pss_one (ps_ra0 takesD T.ex_NoStem (T.g "NoStem"))) pss_nil)
      (pss_cons (ps_for (passes_of rfl) rfl (pi_range2 (by rfl) (T.f "range") (pa_cons pe_int (pa_cons (pe_callB call_len_seq (by rfl) (T.f "len") PySem.boot_len (pa_cons (pv 0) pa_nil)) pa_nil))) (pg_name (i := 1) sc_lo.nd rfl (Or.inl rfl))
        (pss_one (ps_if (PW.pt (pw_or (pt_cmpR op_ne (pe_ix ix_tup (pe_ix ix_list (pv 0) (pv 1) (fun _ _ => rfl)) pe_int (fun _ _ => rfl)) (pe_ix ix_tup (pe_ix ix_list (pv 0) pe_int (fun _ _ => rfl)) pe_int (fun _ _ => rfl)) (nomark _))
            (pw_or1 (pt_not (pt_val (pcl (ok_ahead T) hr pass0 (pa_cons (pe_ix ix_tup (pe_ix ix_list (pv 0) (pe_op op_sub (pv 1) pe_int) (fun _ _ => rfl)) pe_int (fun _ _ => rfl)) (pa_cons (pe_ix ix_tup (pe_ix ix_list (pv 0) (pv 1) (fun _ _ => rfl)) pe_int (fun _ _ => rfl)) pa_nil)) (T.g "ahead")))))))
          (pss_one (ps_ra0 takesD T.ex_NoStem (T.g "NoStem"))) pss_nil)))
      (pss_one (ps_ret (pe_tup (pa_cons (pe_op op_add (pe_ix ix_tup (pe_ix ix_list (pv 0) pe_int (fun _ _ => rfl)) pe_int (fun _ _ => rfl)) pe_int)
        (pa_cons (pe_ix ix_tup (pe_ix ix_list (pv 0) pe_int (fun _ _ => rfl)) pe_int (fun _ _ => rfl)) (pa_cons (pe_ix ix_tup (pe_ix ix_list (pv 0) (pe_un un_neg pe_int) (fun _ _ => rfl)) pe_int (fun _ _ => rfl))
        (pa_cons (pe_callB (cr_sum rfl) (by rfl) (T.f "sum") (by decide +kernel) (pa_cons (pe_lc (own := [("label", 2)]) (g := gName 2) (tt := tYes) rfl sc_lo.nd (pi_list (pv 0))
          (blkOk_by (own := [("label", 2)]) (N := ["labels", "k", "label"]) (sc := d_label_over.scope) (by decide +kernel)) (fun _ _ _ _ _ => pg_name (i := 2) sc_lo.nd rfl (Or.inl rfl)) (fun _ _ _ _ _ => pts_nil)
          (fun _ _ _ _ _ => pe_ix (r := rIxT K) ix_tup (pv 2) pe_int (fun _ _ => rfl))) pa_nil)) pa_nil)))))))), ?_⟩
    refine ⟨_, rfl, a, xs, rfl, .inl hxs, _, _, rfl, rfl, _, rfl, ite2 (fun h1 => iteT (k1 (fun q => ?_) H (Same.refl H))) (fun h1 => ?_)⟩
    · have z := of_decide_eq_true h1
      have := q.two
      omega
    refine ⟨_, rfl, a, xs, rfl, .inl hxs, _, _, rfl, rfl, _, rfl, ite2 (fun h2 => k1 (fun q => ?_) H (Same.refl H)) (fun h2 => ?_)⟩
    · have z := of_decide_eq_true h2
      have := q.four
      omega
    have l2 : 2 ≤ ls.length := by
      have q : ¬ (xs.length : Int) < 2 := fun z => h1 (decide_eq_true z)
      omega
    have l4 : ls.length ≤ 4 := by
      have q : ¬ (4 : Int) < (xs.length : Int) := fun z => h2 (decide_eq_true z)
      omega
    have hi0 : 0 < ls.length := by omega
    refine ⟨_, rfl, a, xs, rfl, .inl hxs, 1, (xs.length : Int), rfl, ⟨by decide, by decide, by omega, by omega⟩, ?_⟩
    have en : ((xs.length : Int) - 1).toNat = ls.length - 1 := by omega
    rw [en]
    obtain ⟨y0, e0, d0⟩ := labs_get hda (List.getElem?_eq_getElem hi0)
    obtain ⟨t0, a0, b0, rfl, ht0, da0, db0⟩ := lab_of d0
    refine for_it walk_range (fun i σ H3 => ∃ u z, σ = [some (.ref a), u, z] ∧ Same H H3 ∧ ∀ k a b f, k < i → ls[k]? = some a → ls[k + 1]? = some b → ls[0]? = some f → b.h = f.h ∧ ah a.hi b.lo = true)
        ⟨_, _, rfl, Same.refl _, fun k _ _ _ hk => absurd hk (Nat.not_lt_zero k)⟩ (fun _ _ _ _ _ => True.intro) ?_ ?_
    · rintro i x σ H3 H4 hi ⟨u, z, rfl, s3, ha3⟩ ⟨rfl, rfl⟩
      have hi1 : i < ls.length := by omega
      have hi2 : i + 1 < ls.length := by omega
      obtain ⟨y1, e1, d1⟩ := labs_get hda (List.getElem?_eq_getElem hi1)
      obtain ⟨y2, e2, d2⟩ := labs_get hda (List.getElem?_eq_getElem hi2)
      obtain ⟨t1, a1, b1, rfl, ht1, da1, db1⟩ := lab_of d1
      obtain ⟨t2, a2, b2, rfl, ht2, da2, db2⟩ := lab_of d2
      have ei : V.int (1 + (i : Int)) = V.int ((i + 1 : Nat) : Int) := by rw [show 1 + (i : Int) = ((i + 1 : Nat) : Int) by omega]
      have ei2 : V.int (1 + (i : Int) - 1) = V.int (i : Int) := by rw [show 1 + (i : Int) - 1 = (i : Int) by omega]
      have sx := s3.seq hxs
      refine ⟨_, rfl, _, rfl, a, xs, _, .ref t2, rfl, ei, sx, atI_nat e2, t2, _, 0, _, rfl, rfl, SqT.of (s3 _ _ ht2), atI_nat (j := 0) rfl, ?_⟩
      refine ⟨_, rfl, a, xs, 0, .ref t0, rfl, rfl, sx, atI_nat (j := 0) e0, t0, _, 0, _, rfl, rfl, SqT.of (s3 _ _ ht0), atI_nat (j := 0) rfl, rfl, _, rfl, ?_⟩
      have bad : ¬ ((ls[i + 1]).h = (ls[0]).h ∧ ah (ls[i]).hi (ls[i + 1]).lo = true) → ¬ OkL ls := fun q o => q (o.adj i _ _ _ (List.getElem?_eq_getElem hi1) (List.getElem?_eq_getElem hi2) (List.getElem?_eq_getElem hi0))
      by_cases eh : (ls[i + 1]).h = (ls[0]).h
      · rw [show (!decide (V.int (ls[i + 1]).h = V.int (ls[0]).h)) = false by rw [eh]; simp]
        refine iteF ?_
        refine ⟨_, rfl, _, rfl, _, _, rfl, rfl, a, xs, _, .ref t1, rfl, ei2, sx, atI_nat e1, t1, _, 2, _, rfl, rfl, SqT.of (s3 _ _ ht1), atI_nat (j := 2) rfl, ?_⟩
        refine ⟨_, rfl, _, rfl, a, xs, _, .ref t2, rfl, ei, sx, atI_nat e2, t2, _, 1, _, rfl, rfl, SqT.of (s3 _ _ ht2), atI_nat (j := 1) rfl, ?_⟩
        refine ⟨b1, a2, _, _, rfl, db1.same s3, da2.same s3, (hkd _ (List.getElem_mem hi1)).2, (hkd _ (List.getElem_mem hi2)).1, fun H5 s5 => ⟨_, rfl, ?_⟩⟩
        cases e : ah (ls[i]).hi (ls[i + 1]).lo with
        | false => exact iteT (k1 (bad fun q => by rw [e] at q; cases q.2) H5 (s3.trans s5))
        | true =>
          refine iteF ⟨_, _, rfl, s3.trans s5, fun k a b f hk ea eb ef => ?_⟩
          by_cases hk2 : k < i
          · exact ha3 k a b f hk2 ea eb ef
          · have ek : k = i := by omega
            subst ek
            rw [List.getElem?_eq_getElem hi1] at ea
            rw [List.getElem?_eq_getElem hi2] at eb
            rw [List.getElem?_eq_getElem hi0] at ef
            cases ea
            cases eb
            cases ef
            exact ⟨eh, e⟩
      · rw [show (!decide (V.int (ls[i + 1]).h = V.int (ls[0]).h)) = true by rw [decide_eq_false (fun z => eh (V.int.inj z))]; rfl]
        exact iteT (iteT (k1 (bad fun q => eh q.1) _ s3))
    · rintro σ H3 ⟨u, z, rfl, s3, ha3⟩
      have ok : OkL ls := ⟨l2, l4, fun k a b f ea eb ef => ha3 k a b f (by have := (List.getElem?_eq_some_iff.mp eb).1; omega) ea eb ef⟩
      obtain ⟨l, ls', rfl⟩ : ∃ l ls', ls = l :: ls' := by
        cases ls with
        | nil => exact absurd hi0 (Nat.lt_irrefl 0)
        | cons l ls' => exact ⟨l, ls', rfl⟩
      have sx := s3.seq hxs
      obtain ⟨y2, e2, d2⟩ := labs_get hda (last_get l ls')
      obtain ⟨t2, a2, b2, rfl, ht2, da2, db2⟩ := lab_of d2
      rw [← lx] at e2
      refine ⟨_, rfl, a, xs, 0, .ref t0, rfl, rfl, sx, atI_nat (j := 0) e0, t0, _, 0, _, rfl, rfl, SqT.of (s3 _ _ ht0), atI_nat (j := 0) rfl, _, _, rfl, rfl, ?_⟩
      refine ⟨_, rfl, a, xs, 0, .ref t0, rfl, rfl, sx, atI_nat (j := 0) e0, t0, _, 1, _, rfl, rfl, SqT.of (s3 _ _ ht0), atI_nat (j := 1) rfl, ?_⟩
      refine ⟨_, rfl, 1, rfl, a, xs, -1, .ref t2, rfl, rfl, sx, atI_m1 e2, t2, _, 2, _, rfl, rfl, SqT.of (s3 _ _ ht2), atI_nat (j := 2) rfl, ?_⟩
      refine ⟨_, rfl, a, rfl, ⟨_, sx⟩, fun D hD => lc_it walk_list (fun i H4 => Same H3 H4 ∧ H4 D = some (.lst ((((l :: ls').take i).map Lab.n).map V.int))) ⟨same_upd hD, by rw [upd_same]; rfl⟩ (fun i H4 _ q => q.1.seq sx) ?_ ?_⟩
      · rintro i y H4 H5 hi ⟨s4, hD4⟩ ⟨rfl, hy⟩
        obtain ⟨l1, e1, d1⟩ := labs_at hda hy
        obtain ⟨t1, a1, b1, rfl, ht1, da1, db1⟩ := lab_of d1
        refine ⟨rfl, _, rfl, t1, _, 3, .int l1.n, rfl, rfl, SqT.of (s4 _ _ (s3 _ _ ht1)), atI_nat (j := 3) rfl, _, hD4, ?_, grow_same s4 hD, ?_⟩
        · rw [List.length_map, List.length_map, List.length_take, sizeLine_eq]
          omega
        · rw [upd_same, List.take_add_one, e1, List.map_append, List.map_append]
          rfl
      · rintro H4 ⟨s4, hD4⟩
        rw [lx, List.take_of_length_le (Nat.le_refl _)] at hD4
        refine ⟨D, _, rfl, SqL.of hD4, small100 (by simp), fun q hq => ?_⟩
        have s5 : Same H4 (upd H4 q (.tup [.int (l.h + 1), a0, b2, .int (((l :: ls').map Lab.n).sum)])) := same_upd hq
        have s6 := s3.trans (s4.trans s5)
        exact k2 ok _ _ s6 (.tup upd_same (.cons (.int _) (.cons (da0.same s6) (.cons (db2.same s6) (.cons (.int _) .nil)))))
end
end Tw

namespace Tw
open PySem PySem.Spec PyProof.Rows L2 He
/-! ### the shelf: its twigs, its objects -/
inductive Twg where
  | leaf (rs : List Row)
  | stem (ns : List Int)
def Twg.kind : Twg → Str
  | .leaf _ => "leaf"
  | .stem _ => "stem"
def Twg.items : Twg → List PyData
  | .leaf rs => rs.map rowD
  | .stem ns => ns.map PyData.int
def Twg.D (t : Twg) : PyData := .tuple [.str t.kind, .tuple t.items]
def Twg.has (t : Twg) (n : Int) : Bool := match t with
  | .leaf _ => false
  | .stem ns => ns.contains n
/-- a twig: its number, what it has, its holds from without, the stems that have it; its label, its rows in order, how many twigs it reaches; where its parts lie -/
structure En where
  n : Int
  tw : Twg
  hd : Int
  up : List Int
  lab : Lab
  rw : List Row
  sz : Nat
  kt : Addr
  tg : Addr
  ab : Addr
structure Sh where
  p : Addr
  dx : Addr
  k : Addr
  t : Addr
  a : Addr
  f : Addr
  sn : Addr
  seen : List Int
  g : Int
  es : List En
def Sh.M (S : Sh) : Addr → Prop := fun b => b = S.p ∨ b = S.k ∨ b = S.t ∨ b = S.a ∨ b = S.f ∨ b = S.sn ∨ ∃ e ∈ S.es, b = e.ab
def flds (S : Sh) : List (Str × V) := [("kept", .ref S.k), ("tags", .ref S.t), ("above", .ref S.a), ("freely", .ref S.f), ("seen", .ref S.sn), ("given", .int S.g)]
/-- a dict with an entry for each twig -/
def dict (F : En → V) (es : List En) : List (Key × V) := es.map fun e => (Sum.inl e.n, F e)
structure ShelfAt (K : PySem.W.Frag) (S : Sh) (H : Hp) : Prop where
  ob : H S.p = some (.ins (ga K "Shelf") S.dx (flds S))
  se : H S.sn = some (.lst (S.seen.map V.int))
  ke : H S.k = some (.dK (dict (fun e => .ref e.kt) S.es))
  ta : H S.t = some (.dK (dict (fun e => .ref e.tg) S.es))
  av : H S.a = some (.dK (dict (fun e => .ref e.ab) S.es))
  fr : H S.f = some (.dK (dict (fun e => .int e.hd) S.es))
  nd : [S.k, S.t, S.a, S.f].Nodup
  kt : ∀ e ∈ S.es, Da H (.ref e.kt) e.tw.D
  tg : ∀ e ∈ S.es, Da H (.ref e.tg) e.lab.D
  ab : ∀ e ∈ S.es, H e.ab = some (.lst (e.up.map V.int))
  nab : (S.es.map En.ab).Nodup
  sab : ∀ e ∈ S.es, e.ab ≠ S.sn
  inc : S.es.Pairwise fun x y => x.n < y.n
  small : S.es.length ≤ 50 ∧ S.seen.length ≤ 100
theorem str_eqs : ("kept" == ("tags" : Str)) = false ∧ True := ⟨by decide +kernel, True.intro⟩
theorem fl_kept (S : Sh) : (flds S).lookup ("kept" : Str) = some (V.ref S.k) := rfl
theorem fl_tags (S : Sh) : (flds S).lookup ("tags" : Str) = some (V.ref S.t) := rfl
theorem fl_above (S : Sh) : (flds S).lookup ("above" : Str) = some (V.ref S.a) := rfl
theorem fl_freely (S : Sh) : (flds S).lookup ("freely" : Str) = some (V.ref S.f) := rfl
theorem fl_seen (S : Sh) : (flds S).lookup ("seen" : Str) = some (V.ref S.sn) := rfl
theorem fl_given (S : Sh) : (flds S).lookup ("given" : Str) = some (V.int S.g) := rfl
theorem fl_putg (S : Sh) (g : Int) : putF "given" (.int g) (flds S) = flds { S with g := g } := rfl
theorem fl_puts (S : Sh) (a : Addr) (xs : List Int) : putF "seen" (.ref a) (flds S) = flds { S with sn := a, seen := xs } := rfl
theorem fl_len (S : Sh) : (flds S).length < 1000 := by show 6 < 1000; decide
/-! ### the dicts -/
theorem valV_dict {F : En → V} : ∀ {es : List En} {e : En}, es.Pairwise (fun x y => x.n < y.n) → e ∈ es → valV (dict F es) (Sum.inl e.n) = some (F e)
  | [], _, _, h => nomatch h
  | x :: es, e, hp, h => by
    obtain ⟨h1, h2⟩ := List.pairwise_cons.mp hp
    show valV ((Sum.inl x.n, F x) :: dict F es) (Sum.inl e.n) = _
    rcases List.mem_cons.mp h with q | q
    · subst q
      exact valV_pos rfl
    · rw [valV_neg (fun z => by injection z with z; have := h1 e q; omega)]
      exact valV_dict h2 q
theorem valV_no {F : En → V} {m : Int} : ∀ {es : List En}, (∀ e ∈ es, e.n ≠ m) → valV (dict F es) (Sum.inl m) = none
  | [], _ => rfl
  | x :: es, h => by
    show valV ((Sum.inl x.n, F x) :: dict F es) (Sum.inl m) = _
    rw [valV_neg (fun z => by injection z with z; exact h x List.mem_cons_self z)]
    exact valV_no fun e he => h e (List.mem_cons_of_mem _ he)
theorem putK_dict {F : En → V} {es : List En} {e : En} {v : V} (hp : es.Pairwise fun x y => x.n < y.n) (h : e ∈ es) : putK (dict F es) (Sum.inl e.n) v = dict (fun x => if x.n = e.n then v else F x) es := by
  have q : ((dict F es).any fun kv => decide (kv.1 = Sum.inl e.n)) = true := by rw [valV_any, valV_dict hp h]; rfl
  unfold putK
  rw [if_pos q]
  unfold dict
  rw [List.map_map]
  refine List.map_congr_left fun x _ => ?_
  show (if (Sum.inl x.n : Key) = Sum.inl e.n then ((Sum.inl x.n : Key), v) else (Sum.inl x.n, F x)) = (Sum.inl x.n, if x.n = e.n then v else F x)
  by_cases z : x.n = e.n
  · rw [if_pos (by rw [z]), if_pos z]
  · rw [if_neg (fun y => z (by injection y)), if_neg z]
theorem putK_snoc {F : En → V} {es : List En} {e : En} {m : Int} (h : ∀ e ∈ es, e.n ≠ m) (he : e.n = m) : putK (dict F es) (Sum.inl m) (F e) = dict F (es ++ [e]) := by
  rw [putK_new _ (valV_no h)]
  unfold dict
  rw [List.map_append, he.symm]
  rfl
theorem dropK_dict {F : En → V} {es : List En} {m : Int} : dropK (dict F es) (Sum.inl m) = dict F (es.filter fun e => decide (e.n ≠ m)) := by
  unfold dropK dict
  rw [List.filter_map]
  congr 1
  refine List.filter_congr fun e _ => ?_
  show decide ((Sum.inl e.n : Key) ≠ Sum.inl m) = decide (e.n ≠ m)
  exact decide_eq_decide.mpr ⟨fun h q => h (by rw [q]), fun h q => h (by injection q)⟩
theorem dict_len (F : En → V) (es : List En) : (dict F es).length = es.length := List.length_map ..
theorem dict_keys (F : En → V) (es : List En) : (dict F es).map (·.1) = (es.map En.n).map Sum.inl := by
  unfold dict
  rw [List.map_map, List.map_map]
  rfl
/-- is a number there -/
def Has (es : List En) (n : Int) : Prop := ∃ e ∈ es, e.n = n
theorem has_dec (es : List En) (n : Int) : Has es n ∨ ∀ e ∈ es, e.n ≠ n := by
  by_cases h : Has es n
  · exact .inl h
  · exact .inr fun e he q => h ⟨e, he, q⟩
section
variable {K : PySem.W.Frag} {mg : Str → Option Value} {S : Sh} {H H' : Hp} {σ : L2.St} {Q : VK}
theorem ShelfAt.fk (A : ShelfAt K S H) (T : Tx K mg) {i : Nat} (h0 : σ[i]? = some (some (.ref S.p))) (q : Q (.ref S.k) H) : tFld K (tVar i) "kept" σ H Q := ⟨_, h0, S.p, _, S.dx, _, _, rfl, A.ob, T.cl, T.na_kept, fl_kept S, q⟩
theorem ShelfAt.ft (A : ShelfAt K S H) (T : Tx K mg) {i : Nat} (h0 : σ[i]? = some (some (.ref S.p))) (q : Q (.ref S.t) H) : tFld K (tVar i) "tags" σ H Q := ⟨_, h0, S.p, _, S.dx, _, _, rfl, A.ob, T.cl, T.na_tags, fl_tags S, q⟩
theorem ShelfAt.fa (A : ShelfAt K S H) (T : Tx K mg) {i : Nat} (h0 : σ[i]? = some (some (.ref S.p))) (q : Q (.ref S.a) H) : tFld K (tVar i) "above" σ H Q := ⟨_, h0, S.p, _, S.dx, _, _, rfl, A.ob, T.cl, T.na_above, fl_above S, q⟩
theorem ShelfAt.ff (A : ShelfAt K S H) (T : Tx K mg) {i : Nat} (h0 : σ[i]? = some (some (.ref S.p))) (q : Q (.ref S.f) H) : tFld K (tVar i) "freely" σ H Q := ⟨_, h0, S.p, _, S.dx, _, _, rfl, A.ob, T.cl, T.na_freely, fl_freely S, q⟩
theorem ShelfAt.fs (A : ShelfAt K S H) (T : Tx K mg) {i : Nat} (h0 : σ[i]? = some (some (.ref S.p))) (q : Q (.ref S.sn) H) : tFld K (tVar i) "seen" σ H Q := ⟨_, h0, S.p, _, S.dx, _, _, rfl, A.ob, T.cl, T.na_seen, fl_seen S, q⟩
theorem ShelfAt.fg (A : ShelfAt K S H) (T : Tx K mg) {i : Nat} (h0 : σ[i]? = some (some (.ref S.p))) (q : Q (.int S.g) H) : tFld K (tVar i) "given" σ H Q := ⟨_, h0, S.p, _, S.dx, _, _, rfl, A.ob, T.cl, T.na_given, fl_given S, q⟩
/-- self.kept[n], .. -/
theorem ShelfAt.gk (A : ShelfAt K S H) (T : Tx K mg) {i j : Nat} {e : En} (h0 : σ[i]? = some (some (.ref S.p))) (h1 : σ[j]? = some (some (.int e.n))) (he : e ∈ S.es) (q : Q (.ref e.kt) H) : tDGet (tFld K (tVar i) "kept") (tVar j) σ H Q :=
  A.fk T h0 ⟨_, h1, S.k, _, rfl, by rw [← valV_dict (F := fun e => V.ref e.kt) A.inc he]; exact DGet.k (k := Sum.inl e.n) A.ke, q⟩
theorem ShelfAt.gt (A : ShelfAt K S H) (T : Tx K mg) {i j : Nat} {e : En} (h0 : σ[i]? = some (some (.ref S.p))) (h1 : σ[j]? = some (some (.int e.n))) (he : e ∈ S.es) (q : Q (.ref e.tg) H) : tDGet (tFld K (tVar i) "tags") (tVar j) σ H Q :=
  A.ft T h0 ⟨_, h1, S.t, _, rfl, by rw [← valV_dict (F := fun e => V.ref e.tg) A.inc he]; exact DGet.k (k := Sum.inl e.n) A.ta, q⟩
theorem ShelfAt.gA (A : ShelfAt K S H) (T : Tx K mg) {i j : Nat} {e : En} (h0 : σ[i]? = some (some (.ref S.p))) (h1 : σ[j]? = some (some (.int e.n))) (he : e ∈ S.es) (q : Q (.ref e.ab) H) : tDGet (tFld K (tVar i) "above") (tVar j) σ H Q :=
  A.fa T h0 ⟨_, h1, S.a, _, rfl, by rw [← valV_dict (F := fun e => V.ref e.ab) A.inc he]; exact DGet.k (k := Sum.inl e.n) A.av, q⟩
theorem ShelfAt.gf (A : ShelfAt K S H) (T : Tx K mg) {i j : Nat} {e : En} (h0 : σ[i]? = some (some (.ref S.p))) (h1 : σ[j]? = some (some (.int e.n))) (he : e ∈ S.es) (q : Q (.int e.hd) H) : tDGet (tFld K (tVar i) "freely") (tVar j) σ H Q :=
  A.ff T h0 ⟨_, h1, S.f, _, rfl, by rw [← valV_dict (F := fun e => V.int e.hd) A.inc he]; exact DGet.k (k := Sum.inl e.n) A.fr, q⟩
/-- what stays -/
theorem ShelfAt.of_fr {M : Addr → Prop} (A : ShelfAt K S H) (k : Fr M H H') (hm : ∀ b, S.M b → ¬ M b) : ShelfAt K S H' where
  ob := k.at (hm _ (.inl rfl)) A.ob
  se := k.at (hm _ (.inr (.inr (.inr (.inr (.inr (.inl rfl))))))) A.se
  ke := k.at (hm _ (.inr (.inl rfl))) A.ke
  ta := k.at (hm _ (.inr (.inr (.inl rfl)))) A.ta
  av := k.at (hm _ (.inr (.inr (.inr (.inl rfl))))) A.av
  fr := k.at (hm _ (.inr (.inr (.inr (.inr (.inl rfl)))))) A.fr
  nd := A.nd
  kt := fun e he => (A.kt e he).fr k
  tg := fun e he => (A.tg e he).fr k
  ab := fun e he => k.at (hm _ (.inr (.inr (.inr (.inr (.inr (.inr ⟨e, he, rfl⟩))))))) (A.ab e he)
  nab := A.nab
  sab := A.sab
  inc := A.inc
  small := A.small
theorem ShelfAt.same (A : ShelfAt K S H) (k : Same H H') : ShelfAt K S H' := A.of_fr (M := M0) (Fr.of k) fun _ _ z => z
end
abbrev errN (K : PySem.W.Frag) (c : Str) (n : Int) (H : Hp) (E : XK) : Prop := ∀ H' d, Same H H' → H' d = some (.xd [("number", .int n)]) → E (.ref (ga K c)) (some d) H'
abbrev err0 (K : PySem.W.Frag) (c : Str) (H : Hp) (E : XK) : Prop := ∀ H', Same H H' → E (.ref (ga K c)) none H'
end Tw

namespace Tw
open PySem PySem.Spec PyProof.Rows L2 He
/-! ### what is true of the twigs -/
structure Good (es : List En) (g : Int) (c : Nat) : Prop where
  rng : ∀ e ∈ es, 0 ≤ e.n ∧ e.n < g
  one : ∀ e ∈ es, (e.up = [] ∧ e.hd = 1) ∨ (∃ s, e.up = [s] ∧ e.hd = 0)
  upm : ∀ e ∈ es, e.up = (es.filter fun s => s.tw.has e.n).map En.n
  sub : ∀ s ∈ es, ∀ ns, s.tw = .stem ns → ∀ b ∈ ns, ∃ e ∈ es, e.n = b ∧ e.n < s.n
  lf : ∀ e ∈ es, ∀ rs, e.tw = .leaf rs → 1 ≤ rs.length ∧ rs.length ≤ 4 ∧ (∀ r ∈ rs, okK r) ∧ e.lab.h = 0 ∧ e.rw = rs ∧ e.sz = 1
  st : ∀ e ∈ es, ∀ ns, e.tw = .stem ns → ∃ bs : List En, bs.map En.n = ns ∧ (∀ b ∈ bs, b ∈ es) ∧ 2 ≤ bs.length ∧ bs.length ≤ 4 ∧ (∀ b ∈ bs, b.lab.h + 1 = e.lab.h) ∧ e.rw = bs.flatMap En.rw ∧ e.sz = 1 + (bs.map En.sz).sum
  lb : ∀ e ∈ es, ∃ r rs, e.rw = r :: rs ∧ e.lab.lo = r.1 ∧ e.lab.hi = (lastR r rs).1 ∧ e.lab.n = (rs.length : Int) + 1
  kd : ∀ e ∈ es, kdB 3 e.lab.lo = true ∧ kdB 3 e.lab.hi = true ∧ ahe e.lab.lo e.lab.hi
  bd : ∀ e ∈ es, 0 ≤ e.lab.h ∧ e.lab.h ≤ c ∧ e.rw.length ≤ 4 ^ (e.lab.h.toNat + 1) ∧ 3 * e.sz + 1 ≤ 4 ^ (e.lab.h.toNat + 1)
  rk : ∀ e ∈ es, ∀ r ∈ e.rw, okK r
theorem mem_inj {es : List En} (h : es.Pairwise fun x y => x.n < y.n) {a b : En} (ha : a ∈ es) (hb : b ∈ es) (e : a.n = b.n) : a = b := by
  induction es with
  | nil => cases ha
  | cons x es ih =>
    obtain ⟨h1, h2⟩ := List.pairwise_cons.mp h
    rcases List.mem_cons.mp ha with p | p
    · rcases List.mem_cons.mp hb with q | q
      · rw [p, q]
      · subst p
        have := h1 b q
        omega
    · rcases List.mem_cons.mp hb with q | q
      · subst q
        have := h1 a p
        omega
      · exact ih h2 p q
theorem stem_above {es : List En} {g : Int} {c : Nat} (G : Good es g c) {e : En} (he : e ∈ es) {s : Int} (h : e.up = [s]) : ∃ s' ∈ es, s'.n = s ∧ e.n < s'.n := by
  have q := G.upm e he
  rw [h] at q
  have m : s ∈ (es.filter fun s => s.tw.has e.n).map En.n := by rw [← q]; exact List.mem_singleton.mpr rfl
  obtain ⟨s', hs', e'⟩ := List.mem_map.mp m
  obtain ⟨h1, h2⟩ := List.mem_filter.mp hs'
  refine ⟨s', h1, e', ?_⟩
  cases ht : s'.tw with
  | leaf rs => rw [ht] at h2; cases h2
  | stem ns =>
    rw [ht] at h2
    have hm : e.n ∈ ns := by
      have h3 : ns.contains e.n = true := h2
      simpa using h3
    obtain ⟨e2, he2, h4, h5⟩ := G.sub s' h1 ns ht e.n hm
    rw [← h4]
    exact h5
theorem shaped_ints (ns : List Int) : SeqAt.shaped (.list (ns.map PyData.int)) = true := by
  have h1 : ∀ ns : List Int, PyData.canLayAll0 (ns.map PyData.int) = true := by
    intro ns
    induction ns with
    | nil => simp only [List.map_nil, PyData.canLayAll0]
    | cons n ns ih => simp only [List.map_cons, PyData.canLayAll0, PyData.canLay0, ih, Bool.and_self]
  have h2 : PyData.depthAll (ns.map PyData.int) = 0 := PySem.W.depth_ints ns
  show ((PyData.list _).canLay0 && decide ((PyData.list _).depth ≤ 64)) = true
  simp only [PyData.canLay0, PyData.depth, h1, h2]
  rfl
theorem dp_ints {K : PySem.W.Frag} {H : Hp} {a : Addr} {ns : List Int} (h : SqL K H a (ns.map V.int)) : Dp K H (.ref a) (.list (ns.map PyData.int)) := .lst h ((DaL.ints (H := H) ns).dp _ _)
theorem eqv_nil (ns : List Int) : PyData.eqv (.list (ns.map PyData.int)) (.list []) = ns.isEmpty := by
  cases ns with
  | nil => simp [PyData.eqv, PyData.eqvAll]
  | cons n ns => simp [PyData.eqv, PyData.eqvAll]
section
variable {P : Program} {w : World} {K : PySem.W.Frag} {mg : Str → Option Value} {base : Heap}
def spNeed (K : PySem.W.Frag) : Sp := fun vs H Q E => ∃ S n, vs = [.ref S.p, .int n] ∧ ShelfAt K S H ∧ (Has S.es n → Q .non H) ∧ ((∀ e ∈ S.es, e.n ≠ n) → errN K "NoTwig" n H E)
theorem sc_need : FnScope ["self", "number"] ["self", "number"] d_m_need.scope := ⟨rfl, rfl, rfl, by decide +kernel, rfl, by decide +kernel, by decide +kernel⟩
theorem ok_need (T : Tx K mg) : Okd P w K mg base (L2.CX P w) 4 d_m_need ["self", "number"] (spNeed K) := by
  refine okdX T in_m_need sc_need (fun _ _ _ _ _ _ us hl => match us, hl with | [_, _], _ => rfl) (fun vs H Q E h => ?_) (fun cdv A outer s H vs Q E hr h => ?_)
  · obtain ⟨S, n, rfl, _⟩ := h
    rfl
  · obtain ⟨S, n, rfl, A1, k1, k2⟩ := h
    have hu := hu_of hr
    refine ⟨_, pss_one (ps_if (pt_cmp (pc_dnotin hu (pv 1) (pe_fld (pv 0) rfl))) (pss_one (ps_raN takesD (ok_eT T) rfl T.exs.2.1 (T.g "NoTwig") hr (pv 1))) pss_nil), ?_⟩
    refine ⟨_, rfl, A1.fk T rfl ⟨S.k, _, rfl, DGet.k (k := Sum.inl n) A1.ke, _, rfl, ?_⟩⟩
    rcases has_dec S.es n with hn | hn
    · obtain ⟨e, he, rfl⟩ := id hn
      rw [valV_dict A1.inc he]
      exact iteF (k1 hn)
    · rw [valV_no hn]
      exact iteT ⟨_, rfl, k2 hn⟩
def spOut (K : PySem.W.Frag) : Sp := fun vs H Q E => ∃ S n, vs = [.ref S.p, .int n] ∧ ShelfAt K S H ∧ (∀ e ∈ S.es, e.n = n → Q (.int e.hd) H) ∧ ((∀ e ∈ S.es, e.n ≠ n) → errN K "NoTwig" n H E)
theorem sc_out : FnScope ["self", "number"] ["self", "number"] d_m_outside.scope := ⟨rfl, rfl, rfl, by decide +kernel, rfl, by decide +kernel, by decide +kernel⟩
theorem ok_out (T : Tx K mg) : Okd P w K mg base (L2.CX P w) 5 d_m_outside ["self", "number"] (spOut K) := by
  refine okdX T in_m_outside sc_out (fun _ _ _ _ _ _ us hl => match us, hl with | [_, _], _ => rfl) (fun vs H Q E h => ?_) (fun cdv A outer s H vs Q E hr h => ?_)
  · obtain ⟨S, n, rfl, _⟩ := h
    rfl
  · obtain ⟨S, n, rfl, A1, k1, k2⟩ := h
    have hu := hu_of hr
    refine ⟨_, pss_cons (ps_expr (pml (ok_need T) hr passD (pv 0) T.cl T.me_need (pa_cons (pv 1) pa_nil))) (pss_one (ps_ret (pe_dget hu (pe_fld (pv 0) rfl) (pv 1) (fun _ _ => rfl)))), ?_⟩
    refine ⟨_, rfl, S.p, _, _, rfl, A1.ob, rfl, _, rfl, S, n, rfl, A1, fun ⟨e, he, en⟩ => ?_, k2⟩
    subst en
    exact A1.gf T rfl rfl he (k1 e he rfl)
def spHol (K : PySem.W.Frag) : Sp := fun vs H Q E => ∃ S n, vs = [.ref S.p, .int n] ∧ ShelfAt K S H ∧ (∀ e ∈ S.es, e.n = n → Q (.int ((e.up.length : Int) + e.hd)) H) ∧ ((∀ e ∈ S.es, e.n ≠ n) → errN K "NoTwig" n H E)
theorem sc_hol : FnScope ["self", "number"] ["self", "number"] d_m_holders.scope := ⟨rfl, rfl, rfl, by decide +kernel, rfl, by decide +kernel, by decide +kernel⟩
theorem ok_hol (T : Tx K mg) : Okd P w K mg base (L2.CX P w) 5 d_m_holders ["self", "number"] (spHol K) := by
  refine okdX T in_m_holders sc_hol (fun _ _ _ _ _ _ us hl => match us, hl with | [_, _], _ => rfl) (fun vs H Q E h => ?_) (fun cdv A outer s H vs Q E hr h => ?_)
  · obtain ⟨S, n, rfl, _⟩ := h
    rfl
  · obtain ⟨S, n, rfl, A1, k1, k2⟩ := h
    have hu := hu_of hr
    refine ⟨_, pss_cons (ps_expr (pml (ok_need T) hr passD (pv 0) T.cl T.me_need (pa_cons (pv 1) pa_nil))) (pss_one (ps_ret (pe_op op_add (pe_callB call_len_seq (by rfl) (T.f "len") PySem.boot_len (pa_cons (pe_dget hu (pe_fld (pv 0) rfl) (pv 1) (fun _ _ => rfl)) pa_nil))
      (pe_dget hu (pe_fld (pv 0) rfl) (pv 1) (fun _ _ => rfl))))), ?_⟩
    refine ⟨_, rfl, S.p, _, _, rfl, A1.ob, rfl, _, rfl, S, n, rfl, A1, fun ⟨e, he, en⟩ => ?_, k2⟩
    subst en
    refine A1.gA T rfl rfl he ⟨e.ab, _, rfl, .inl (SqL.of (A1.ab e he)), A1.gf T rfl rfl he ⟨_, _, rfl, rfl, ?_⟩⟩
    rw [List.length_map]
    exact k1 e he rfl
/-- nobody holds a twig of ours beside the one -/
def spSha (K : PySem.W.Frag) : Sp := fun vs H Q _ => ∃ S n c, vs = [.ref S.p, .int n] ∧ ShelfAt K S H ∧ Good S.es S.g c ∧ Has S.es n ∧ ∀ H', Same H H' → Q .non H'
theorem sc_sha : FnScope ["self", "number", "here"] ["self", "number"] d_m_shared_above.scope := ⟨rfl, rfl, rfl, by decide +kernel, rfl, by decide +kernel, by decide +kernel⟩
theorem ok_sha (T : Tx K mg) : Okd P w K mg base CX0 6 d_m_shared_above ["self", "number"] (spSha K) := by
  refine okd0 T in_m_shared_above sc_sha (fun _ _ _ _ _ _ us hl => match us, hl with | [_, _], _ => rfl) (fun vs H Q E h => ?_) (fun cdv A outer s H vs Q E hr h => ?_)
  · obtain ⟨S, n, c, rfl, _⟩ := h
    rfl
  · obtain ⟨S, n, c, rfl, A1, G, ⟨e, he, rfl⟩, k⟩ := h
    have hu := hu_of hr
    refine ⟨_, pss_cons (ps_set (i := 2) sc_sha.nd rfl (Or.inl rfl) (pv 1))
      (pss_cons (ps_while PassesOwn.never (pt_cmpR op_eq (pml (ok_hol T) hr passL (pv 0) T.cl T.me_holders (pa_cons (pv 2) pa_nil)) pe_int (nomark _))
        (pss_cons (ps_if (pt_cmpR (op_eqD hr.units) (pe_dget hu (pe_fld (pv 0) rfl) (pv 2) (fun _ _ => rfl)) (pe_lst pa_nil) (nomark _)) (pss_one (ps_ret pe_non)) pss_nil)
        (pss_one (ps_set (i := 2) sc_sha.nd rfl (Or.inl rfl) (pe_ix ix_list (pe_dget hu (pe_fld (pv 0) rfl) (pv 2) (fun _ _ => rfl)) pe_int (fun _ _ => rfl))))))
      (pss_one ps_never)), ?_⟩
    refine ⟨_, rfl, fun m σ H2 => ∃ e2 ∈ S.es, σ = [some (.ref S.p), some (.int e.n), some (.int e2.n)] ∧ Same H H2 ∧ (S.g - e2.n).toNat = m, ⟨_, e, he, rfl, Same.refl H, rfl⟩, ?_⟩
    rintro m σ H2 ⟨e2, he2, rfl, s2, rfl⟩
    have A2 := A1.same s2
    refine ⟨_, rfl, S.p, _, _, rfl, A2.ob, rfl, _, rfl, S, e2.n, rfl, A2, fun e3 he3 e32 => ?_, fun q => absurd rfl (q e2 he2)⟩
    have e3e := mem_inj A2.inc he3 he2 e32
    subst e3e
    refine ⟨rfl, ?_⟩
    have h1 : ((e3.up.length : Int) + e3.hd) = 1 := by
      rcases G.one e3 he3 with ⟨a, b⟩ | ⟨s', a, b⟩
      · rw [a, b]; rfl
      · rw [a, b]; rfl
    rw [h1]
    refine ⟨_, rfl, iteT ⟨fun σ' H' => ∃ e4 ∈ S.es, e3.n < e4.n ∧ σ' = [some (.ref S.p), some (.int e.n), some (.int e4.n)] ∧ Same H H', fun σ' H' ⟨e4, he4, lt, eσ, s'⟩ => ⟨_, ?_, e4, he4, eσ, s', rfl⟩, ?_⟩⟩
    · have := G.rng e3 he3
      have := G.rng e4 he4
      omega
    refine A2.gA T rfl rfl he3 ⟨Nat.zero_le _, fun q hq => ?_⟩
    have s3 : Same H2 (upd H2 q (.lst [])) := same_upd hq
    have A3 := A2.same s3
    refine ⟨.list (e3.up.map PyData.int), .list [], dp_ints (SqL.of (A3.ab e3 he3)), .lst (SqL.of upd_same) .nil, shaped_ints _, shaped_ints [], _, rfl, ?_⟩
    rw [eqv_nil]
    rcases G.one e3 he3 with ⟨a, b⟩ | ⟨s', a, b⟩
    · rw [a]
      exact iteT (k _ (s2.trans s3))
    · rw [a]
      obtain ⟨e4, he4, e4n, lt⟩ := stem_above G he3 a
      refine iteF (A3.gA T rfl rfl he3 ⟨e3.ab, _, 0, .int s', rfl, rfl, SqL.of (A3.ab e3 he3), atI_nat (j := 0) (by rw [a]; rfl), e4, he4, lt, ?_, s2.trans s3⟩)
      rw [e4n]
      rfl
def spAlo (K : PySem.W.Frag) : Sp := fun vs H Q E => ∃ S n c, vs = [.ref S.p, .int n] ∧ ShelfAt K S H ∧ Good S.es S.g c ∧ (Has S.es n → ∀ H', Same H H' → Q (.bl true) H') ∧ ((∀ e ∈ S.es, e.n ≠ n) → errN K "NoTwig" n H E)
theorem sc_alo : FnScope ["self", "number"] ["self", "number"] d_m_alone.scope := ⟨rfl, rfl, rfl, by decide +kernel, rfl, by decide +kernel, by decide +kernel⟩
theorem ok_alo (T : Tx K mg) : Okd P w K mg base (L2.CX P w) 7 d_m_alone ["self", "number"] (spAlo K) := by
  refine okdX T in_m_alone sc_alo (fun _ _ _ _ _ _ us hl => match us, hl with | [_, _], _ => rfl) (fun vs H Q E h => ?_) (fun cdv A outer s H vs Q E hr h => ?_)
  · obtain ⟨S, n, c, rfl, _⟩ := h
    rfl
  · obtain ⟨S, n, c, rfl, A1, G, k1, k2⟩ := h
    refine ⟨_, pss_cons (ps_expr (pml (ok_need T) hr passD (pv 0) T.cl T.me_need (pa_cons (pv 1) pa_nil))) (pss_one (ps_ret (pe_cmpR op_isN (pml (ok_sha T) hr pass0 (pv 0) T.cl T.me_shared_above (pa_cons (pv 1) pa_nil)) pe_non (nomark _)))), ?_⟩
    refine ⟨_, rfl, S.p, _, _, rfl, A1.ob, rfl, _, rfl, S, n, rfl, A1, fun hn => ?_, k2⟩
    exact ⟨_, rfl, S.p, _, _, rfl, A1.ob, rfl, _, rfl, S, n, c, rfl, A1, G, hn, fun H' s' => ⟨rfl, k1 hn H' s'⟩⟩
def spNal (K : PySem.W.Frag) : Sp := spSha K
theorem sc_nal : FnScope ["self", "number", "found"] ["self", "number"] d_m_need_alone.scope := ⟨rfl, rfl, rfl, by decide +kernel, rfl, by decide +kernel, by decide +kernel⟩
theorem ok_nal (T : Tx K mg) : Okd P w K mg base CX0 7 d_m_need_alone ["self", "number"] (spSha K) := by
  refine okd0 T in_m_need_alone sc_nal (fun _ _ _ _ _ _ us hl => match us, hl with | [_, _], _ => rfl) (fun vs H Q E h => ?_) (fun cdv A outer s H vs Q E hr h => ?_)
  · obtain ⟨S, n, c, rfl, _⟩ := h
    rfl
  · obtain ⟨S, n, c, rfl, A1, G, hn, k⟩ := h
    refine ⟨_, pss_cons (ps_set (i := 2) sc_nal.nd rfl (Or.inl rfl) (pml (ok_sha T) hr pass0 (pv 0) T.cl T.me_shared_above (pa_cons (pv 1) pa_nil)))
      (pss_one (ps_if (pt_cmpR op_notN (pv 2) pe_non (nomark _)) (pss_one ps_never) pss_nil)), ?_⟩
    exact ⟨_, rfl, S.p, _, _, rfl, A1.ob, rfl, _, rfl, S, n, c, rfl, A1, G, hn, fun H' s' => ⟨_, rfl, rfl, _, rfl, iteF (k H' s')⟩⟩
end
end Tw

namespace Tw
open PySem PySem.Spec PyProof.Rows L2 He
/-- p's own objects -/
def Sh.M5 (S : Sh) : Addr → Prop := fun b => b = S.p ∨ b = S.k ∨ b = S.t ∨ b = S.a ∨ b = S.f
theorem Sh.M5_M {S : Sh} {b : Addr} (h : S.M5 b) : S.M b := by
  rcases h with h | h | h | h | h
  · exact .inl h
  · exact .inr (.inl h)
  · exact .inr (.inr (.inl h))
  · exact .inr (.inr (.inr (.inl h)))
  · exact .inr (.inr (.inr (.inr (.inl h))))
structure Apart (S : Sh) : Prop where
  pk : S.p ≠ S.k
  pt : S.p ≠ S.t
  pa : S.p ≠ S.a
  pf : S.p ≠ S.f
  kt : S.k ≠ S.t
  ka : S.k ≠ S.a
  kf : S.k ≠ S.f
  ta : S.t ≠ S.a
  tf : S.t ≠ S.f
  af : S.a ≠ S.f
  ps : S.p ≠ S.sn
  ks : S.k ≠ S.sn
  ts : S.t ≠ S.sn
  as_ : S.a ≠ S.sn
  fs : S.f ≠ S.sn
section
variable {P : Program} {w : World} {K : PySem.W.Frag} {mg : Str → Option Value} {base : Heap} {S : Sh} {H : Hp}
theorem ShelfAt.apart (A : ShelfAt K S H) : Apart S := by
  have nd := A.nd
  simp only [List.nodup_cons, List.mem_cons, List.not_mem_nil, or_false, not_or, List.nodup_nil, and_true, not_false_eq_true] at nd
  obtain ⟨⟨h1, h2, h3⟩, ⟨h4, h5⟩, h6⟩ := nd
  exact ⟨ne_of A.ob A.ke (fun z => nomatch z), ne_of A.ob A.ta (fun z => nomatch z), ne_of A.ob A.av (fun z => nomatch z), ne_of A.ob A.fr (fun z => nomatch z), h1, h2, h3, h4, h5, h6, ne_of A.ob A.se (fun z => nomatch z), ne_of A.ke A.se (fun z => nomatch z), ne_of A.ta A.se (fun z => nomatch z), ne_of A.av A.se (fun z => nomatch z), ne_of A.fr A.se (fun z => nomatch z)⟩
/-- a list's address is none of the five -/
theorem ShelfAt.not5 (A : ShelfAt K S H) {b : Addr} {xs : List V} (h : H b = some (.lst xs)) : ¬ S.M5 b := by
  rintro (q | q | q | q | q)
  · exact ne_of h A.ob (fun z => nomatch z) q
  · exact ne_of h A.ke (fun z => nomatch z) q
  · exact ne_of h A.ta (fun z => nomatch z) q
  · exact ne_of h A.av (fun z => nomatch z) q
  · exact ne_of h A.fr (fun z => nomatch z) q
/-- a new twig -/
def spSD (K : PySem.W.Frag) : Sp := fun vs H Q _ => ∃ S a xs tga tw lb rw sz, vs = [.ref S.p, .str tw.kind, .ref a, .ref tga] ∧ ShelfAt K S H ∧ SqL K H a xs ∧ DaL H xs tw.items ∧ Da H (.ref tga) lb.D ∧ (∀ e ∈ S.es, e.n < S.g) ∧ S.es.length < 50 ∧
  ∀ H' kt ab, H ab = none → ShelfAt K { S with g := S.g + 1, es := S.es ++ [⟨S.g, tw, 1, [], lb, rw, sz, kt, tga, ab⟩] } H' → Fr S.M5 H H' → Q (.int S.g) H'
theorem sc_sd : FnScope ["self", "kind", "what", "tag", "number"] ["self", "kind", "what", "tag"] d_m_set_down.scope := ⟨rfl, rfl, rfl, by decide +kernel, rfl, by decide +kernel, by decide +kernel⟩
theorem ok_sd (T : Tx K mg) : Okd P w K mg base CX0 1 d_m_set_down ["self", "kind", "what", "tag"] (spSD K) := by
  refine okd0 T in_m_set_down sc_sd (fun _ _ _ _ _ _ us hl => match us, hl with | [_, _, _, _], _ => rfl) (fun vs H Q E h => ?_) (fun cdv A outer s H vs Q E hr h => ?_)
  · obtain ⟨S, a, xs, tga, tw, lb, rw, sz, rfl, _⟩ := h
    rfl
  · obtain ⟨S, a, xs, tga, tw, lb, rw, sz, rfl, A1, hxs, hda, htg, hlt, h50, k⟩ := h
    have hu := hu_of hr
    have ap := A1.apart
    refine ⟨_, pss_cons (ps_set (i := 4) sc_sd.nd rfl (Or.inl rfl) (pe_fld (pv 0) rfl))
      (pss_cons (ps_fld (pv 0) (pe_op op_add (pe_fld (pv 0) rfl) pe_int) rfl)
      (pss_cons (ps_dput hu (pe_fld (pv 0) rfl) (pv 4) (pe_tup (pa_cons (pv 1) (pa_cons (pe_callTy call_tuple_of (by rfl) (T.f "tuple") (by decide +kernel) (pa_cons (pv 2) pa_nil)) pa_nil))) rfl)
      (pss_cons (ps_dput hu (pe_fld (pv 0) rfl) (pv 4) (pv 3) rfl)
      (pss_cons (ps_dput hu (pe_fld (pv 0) rfl) (pv 4) (pe_lst pa_nil) rfl)
      (pss_cons (ps_dput hu (pe_fld (pv 0) rfl) (pv 4) pe_int rfl)
      (pss_one (ps_ret (pv 4)))))))), ?_⟩
    have no : ∀ e ∈ S.es, e.n ≠ S.g := fun e he z => by have := hlt e he; omega
    refine ⟨_, rfl, S.p, _, S.dx, _, _, rfl, A1.ob, T.cl, T.na_given, fl_given S, ?_⟩
    refine ⟨_, rfl, S.p, _, S.dx, _, _, rfl, A1.ob, T.cl, T.na_given, fl_given S, _, _, rfl, rfl, _, rfl, S.p, _, S.dx, _, rfl, A1.ob, T.cl, T.na_given, fl_len S, ?_⟩
    rw [fl_putg]
    -- H1
    have F1 : Fr S.M5 H (upd H S.p (.ins (ga K "Shelf") S.dx (flds { S with g := S.g + 1 }))) := (Fr.refl H).put (.inl rfl) A1.ob True.intro
    have p1 : (upd H S.p (.ins (ga K "Shelf") S.dx (flds { S with g := S.g + 1 }))) S.p = some (.ins (ga K "Shelf") S.dx (flds { S with g := S.g + 1 })) := upd_same
    have k1 : (upd H S.p (.ins (ga K "Shelf") S.dx (flds { S with g := S.g + 1 }))) S.k = _ := (upd_ne ap.pk.symm).trans A1.ke
    have t1 : (upd H S.p (.ins (ga K "Shelf") S.dx (flds { S with g := S.g + 1 }))) S.t = _ := (upd_ne ap.pt.symm).trans A1.ta
    have a1 : (upd H S.p (.ins (ga K "Shelf") S.dx (flds { S with g := S.g + 1 }))) S.a = _ := (upd_ne ap.pa.symm).trans A1.av
    have f1 : (upd H S.p (.ins (ga K "Shelf") S.dx (flds { S with g := S.g + 1 }))) S.f = _ := (upd_ne ap.pf.symm).trans A1.fr
    generalize upd H S.p (.ins (ga K "Shelf") S.dx (flds { S with g := S.g + 1 })) = H1 at F1 p1 k1 t1 a1 f1 ⊢
    have hxs1 : SqL K H1 a xs := by
      rcases hxs with (q | ⟨o, q⟩) | q
      · exact .inl (.inl (F1.at (A1.not5 q) q))
      · exact .inl (.inr ⟨o, F1.imm (fun z => z) q⟩)
      · exact .inr q
    refine ⟨_, rfl, _, rfl, a, xs, rfl, .inl ⟨hxs1, fun l hl => ⟨small100 (by simp), fun q hq => ?_⟩⟩⟩
    -- H3
    have s12 : Same H1 (upd H1 l (.tup xs)) := same_upd hl
    have s23 : Same (upd H1 l (.tup xs)) (upd (upd H1 l (.tup xs)) q (.tup [.str tw.kind, .ref l])) := same_upd hq
    have dkt : Da (upd (upd H1 l (.tup xs)) q (.tup [.str tw.kind, .ref l])) (.ref q) tw.D := .tup upd_same (.cons (.str _) (.cons (.tup (s23 _ _ upd_same) ((hda.fr F1).same (s12.trans s23))) .nil))
    have F3 : Fr S.M5 H (upd (upd H1 l (.tup xs)) q (.tup [.str tw.kind, .ref l])) := F1.trans (Fr.of (s12.trans s23))
    have s13 := s12.trans s23
    have p3 := s13 _ _ p1
    have k3 := s13 _ _ k1
    have t3 := s13 _ _ t1
    have a3 := s13 _ _ a1
    have f3 := s13 _ _ f1
    generalize upd (upd H1 l (.tup xs)) q (.tup [.str tw.kind, .ref l]) = H3 at dkt F3 p3 k3 t3 a3 f3 ⊢
    refine ⟨_, rfl, S.p, _, _, _, _, rfl, p3, T.cl, T.na_kept, fl_kept _, _, rfl, S.k, _, rfl, DPut.k (k := Sum.inl S.g) k3 (by rw [dict_len, sizeLine_eq]; omega), ?_⟩
    rw [putK_snoc (F := fun e => V.ref e.kt) (e := ⟨S.g, tw, 1, [], lb, rw, sz, q, tga, 0⟩) no rfl]
    have F4 : Fr S.M5 H (upd H3 S.k (.dK (dict (fun e => V.ref e.kt) (S.es ++ [⟨S.g, tw, 1, [], lb, rw, sz, q, tga, 0⟩])))) := F3.put (.inr (.inl rfl)) k3 True.intro
    have p4 := (upd_ne (o := .dK (dict (fun e => V.ref e.kt) (S.es ++ [⟨S.g, tw, 1, [], lb, rw, sz, q, tga, 0⟩]))) ap.pk).trans p3
    have k4 : (upd H3 S.k (.dK (dict (fun e => V.ref e.kt) (S.es ++ [⟨S.g, tw, 1, [], lb, rw, sz, q, tga, 0⟩])))) S.k = _ := upd_same
    have t4 := (upd_ne (o := .dK (dict (fun e => V.ref e.kt) (S.es ++ [⟨S.g, tw, 1, [], lb, rw, sz, q, tga, 0⟩]))) ap.kt.symm).trans t3
    have a4 := (upd_ne (o := .dK (dict (fun e => V.ref e.kt) (S.es ++ [⟨S.g, tw, 1, [], lb, rw, sz, q, tga, 0⟩]))) ap.ka.symm).trans a3
    have f4 := (upd_ne (o := .dK (dict (fun e => V.ref e.kt) (S.es ++ [⟨S.g, tw, 1, [], lb, rw, sz, q, tga, 0⟩]))) ap.kf.symm).trans f3
    have d4 := Da.ext (H' := upd H3 S.k (.dK (dict (fun e => V.ref e.kt) (S.es ++ [⟨S.g, tw, 1, [], lb, rw, sz, q, tga, 0⟩])))) (fun b xs e => (upd_ne (ne_of e k3 fun z => nomatch z)).trans e) _ _ dkt
    generalize upd H3 S.k (.dK (dict (fun e => V.ref e.kt) (S.es ++ [⟨S.g, tw, 1, [], lb, rw, sz, q, tga, 0⟩]))) = H4 at F4 p4 k4 t4 a4 f4 d4 ⊢
    -- tags
    refine ⟨_, rfl, _, rfl, S.p, _, _, _, _, rfl, p4, T.cl, T.na_tags, fl_tags _, _, rfl, S.t, _, rfl, DPut.k (k := Sum.inl S.g) t4 (by rw [dict_len, sizeLine_eq]; omega), ?_⟩
    rw [putK_snoc (F := fun e => V.ref e.tg) (e := ⟨S.g, tw, 1, [], lb, rw, sz, q, tga, 0⟩) no rfl]
    have F5 : Fr S.M5 H (upd H4 S.t (.dK (dict (fun e => V.ref e.tg) (S.es ++ [⟨S.g, tw, 1, [], lb, rw, sz, q, tga, 0⟩])))) := F4.put (.inr (.inr (.inl rfl))) t4 True.intro
    have p5 := (upd_ne (o := .dK (dict (fun e => V.ref e.tg) (S.es ++ [⟨S.g, tw, 1, [], lb, rw, sz, q, tga, 0⟩]))) ap.pt).trans p4
    have k5 := (upd_ne (o := .dK (dict (fun e => V.ref e.tg) (S.es ++ [⟨S.g, tw, 1, [], lb, rw, sz, q, tga, 0⟩]))) ap.kt).trans k4
    have t5 : (upd H4 S.t (.dK (dict (fun e => V.ref e.tg) (S.es ++ [⟨S.g, tw, 1, [], lb, rw, sz, q, tga, 0⟩])))) S.t = _ := upd_same
    have a5 := (upd_ne (o := .dK (dict (fun e => V.ref e.tg) (S.es ++ [⟨S.g, tw, 1, [], lb, rw, sz, q, tga, 0⟩]))) ap.ta.symm).trans a4
    have f5 := (upd_ne (o := .dK (dict (fun e => V.ref e.tg) (S.es ++ [⟨S.g, tw, 1, [], lb, rw, sz, q, tga, 0⟩]))) ap.tf.symm).trans f4
    have d5 := Da.ext (H' := upd H4 S.t (.dK (dict (fun e => V.ref e.tg) (S.es ++ [⟨S.g, tw, 1, [], lb, rw, sz, q, tga, 0⟩])))) (fun b xs e => (upd_ne (ne_of e t4 fun z => nomatch z)).trans e) _ _ d4
    generalize upd H4 S.t (.dK (dict (fun e => V.ref e.tg) (S.es ++ [⟨S.g, tw, 1, [], lb, rw, sz, q, tga, 0⟩]))) = H5 at F5 p5 k5 t5 a5 f5 d5 ⊢
    -- above
    refine ⟨Nat.zero_le _, fun ab hab => ?_⟩
    have s56 : Same H5 (upd H5 ab (.lst [])) := same_upd hab
    have F6 : Fr S.M5 H (upd H5 ab (.lst [])) := F5.trans (Fr.of s56)
    have nab : H ab = none := F5.free (fun z => by
      rcases z with z | z | z | z | z
      · rw [z, p5] at hab; cases hab
      · rw [z, k5] at hab; cases hab
      · rw [z, t5] at hab; cases hab
      · rw [z, a5] at hab; cases hab
      · rw [z, f5] at hab; cases hab) hab
    have p6 := s56 _ _ p5
    have k6 := s56 _ _ k5
    have t6 := s56 _ _ t5
    have a6 := s56 _ _ a5
    have f6 := s56 _ _ f5
    have d6 := d5.same s56
    have b6 : (upd H5 ab (.lst [])) ab = some (.lst []) := upd_same
    generalize upd H5 ab (.lst []) = H6 at F6 p6 k6 t6 a6 f6 d6 b6 ⊢
    refine ⟨_, rfl, S.p, _, _, _, _, rfl, p6, T.cl, T.na_above, fl_above _, _, rfl, S.a, _, rfl, DPut.k (k := Sum.inl S.g) a6 (by rw [dict_len, sizeLine_eq]; omega), ?_⟩
    rw [putK_snoc (F := fun e => V.ref e.ab) (e := ⟨S.g, tw, 1, [], lb, rw, sz, q, tga, ab⟩) no rfl]
    have nba : ab ≠ S.a := ne_of b6 a6 fun z => nomatch z
    have F7 : Fr S.M5 H (upd H6 S.a (.dK (dict (fun e => V.ref e.ab) (S.es ++ [⟨S.g, tw, 1, [], lb, rw, sz, q, tga, ab⟩])))) := F6.put (.inr (.inr (.inr (.inl rfl)))) a6 True.intro
    have p7 := (upd_ne (o := .dK (dict (fun e => V.ref e.ab) (S.es ++ [⟨S.g, tw, 1, [], lb, rw, sz, q, tga, ab⟩]))) ap.pa).trans p6
    have k7 := (upd_ne (o := .dK (dict (fun e => V.ref e.ab) (S.es ++ [⟨S.g, tw, 1, [], lb, rw, sz, q, tga, ab⟩]))) ap.ka).trans k6
    have t7 := (upd_ne (o := .dK (dict (fun e => V.ref e.ab) (S.es ++ [⟨S.g, tw, 1, [], lb, rw, sz, q, tga, ab⟩]))) ap.ta).trans t6
    have a7 : (upd H6 S.a (.dK (dict (fun e => V.ref e.ab) (S.es ++ [⟨S.g, tw, 1, [], lb, rw, sz, q, tga, ab⟩])))) S.a = _ := upd_same
    have f7 := (upd_ne (o := .dK (dict (fun e => V.ref e.ab) (S.es ++ [⟨S.g, tw, 1, [], lb, rw, sz, q, tga, ab⟩]))) ap.af.symm).trans f6
    have b7 := (upd_ne (o := .dK (dict (fun e => V.ref e.ab) (S.es ++ [⟨S.g, tw, 1, [], lb, rw, sz, q, tga, ab⟩]))) nba).trans b6
    have d7 := Da.ext (H' := upd H6 S.a (.dK (dict (fun e => V.ref e.ab) (S.es ++ [⟨S.g, tw, 1, [], lb, rw, sz, q, tga, ab⟩])))) (fun b xs e => (upd_ne (ne_of e a6 fun z => nomatch z)).trans e) _ _ d6
    generalize upd H6 S.a (.dK (dict (fun e => V.ref e.ab) (S.es ++ [⟨S.g, tw, 1, [], lb, rw, sz, q, tga, ab⟩]))) = H7 at F7 p7 k7 t7 a7 f7 b7 d7 ⊢
    -- freely
    refine ⟨_, rfl, S.p, _, _, _, _, rfl, p7, T.cl, T.na_freely, fl_freely _, _, rfl, S.f, _, rfl, DPut.k (k := Sum.inl S.g) f7 (by rw [dict_len, sizeLine_eq]; omega), ?_⟩
    rw [putK_snoc (F := fun e => V.int e.hd) (e := ⟨S.g, tw, 1, [], lb, rw, sz, q, tga, ab⟩) no rfl]
    have nbf : ab ≠ S.f := ne_of b7 f7 fun z => nomatch z
    have F8 : Fr S.M5 H (upd H7 S.f (.dK (dict (fun e => V.int e.hd) (S.es ++ [⟨S.g, tw, 1, [], lb, rw, sz, q, tga, ab⟩])))) := F7.put (.inr (.inr (.inr (.inr rfl)))) f7 True.intro
    have p8 := (upd_ne (o := .dK (dict (fun e => V.int e.hd) (S.es ++ [⟨S.g, tw, 1, [], lb, rw, sz, q, tga, ab⟩]))) ap.pf).trans p7
    have k8 := (upd_ne (o := .dK (dict (fun e => V.int e.hd) (S.es ++ [⟨S.g, tw, 1, [], lb, rw, sz, q, tga, ab⟩]))) ap.kf).trans k7
    have t8 := (upd_ne (o := .dK (dict (fun e => V.int e.hd) (S.es ++ [⟨S.g, tw, 1, [], lb, rw, sz, q, tga, ab⟩]))) ap.tf).trans t7
    have a8 := (upd_ne (o := .dK (dict (fun e => V.int e.hd) (S.es ++ [⟨S.g, tw, 1, [], lb, rw, sz, q, tga, ab⟩]))) ap.af).trans a7
    have b8 := (upd_ne (o := .dK (dict (fun e => V.int e.hd) (S.es ++ [⟨S.g, tw, 1, [], lb, rw, sz, q, tga, ab⟩]))) nbf).trans b7
    have f8 : (upd H7 S.f (.dK (dict (fun e => V.int e.hd) (S.es ++ [⟨S.g, tw, 1, [], lb, rw, sz, q, tga, ab⟩])))) S.f = _ := upd_same
    have d8 := Da.ext (H' := upd H7 S.f (.dK (dict (fun e => V.int e.hd) (S.es ++ [⟨S.g, tw, 1, [], lb, rw, sz, q, tga, ab⟩])))) (fun b xs e => (upd_ne (ne_of e f7 fun z => nomatch z)).trans e) _ _ d7
    generalize upd H7 S.f (.dK (dict (fun e => V.int e.hd) (S.es ++ [⟨S.g, tw, 1, [], lb, rw, sz, q, tga, ab⟩]))) = H8 at F8 p8 k8 t8 a8 f8 b8 d8 ⊢
    refine ⟨_, rfl, k H8 q ab nab ?_ F8⟩
    have memE : ∀ {e : En}, e ∈ S.es ++ [⟨S.g, tw, 1, [], lb, rw, sz, q, tga, ab⟩] → e ∈ S.es ∨ e = ⟨S.g, tw, 1, [], lb, rw, sz, q, tga, ab⟩ := fun h => (List.mem_append.mp h).imp id List.mem_singleton.mp
    refine ⟨p8, F8.at (A1.not5 A1.se) A1.se, by rw [k8]; unfold dict; simp only [List.map_append, List.map_cons, List.map_nil], by rw [t8]; unfold dict; simp only [List.map_append, List.map_cons, List.map_nil], a8, f8, A1.nd, fun e he => ?_, fun e he => ?_, fun e he => ?_, ?_, fun e he => ?_, ?_, ?_⟩
    · rcases memE he with h | rfl
      · exact (A1.kt e h).fr F8
      · exact d8
    · rcases memE he with h | rfl
      · exact (A1.tg e h).fr F8
      · exact htg.fr F8
    · rcases memE he with h | rfl
      · exact F8.at (A1.not5 (A1.ab e h)) (A1.ab e h)
      · exact b8
    · show (List.map En.ab (S.es ++ [_])).Nodup
      rw [List.map_append]
      refine nd_snoc A1.nab fun z => ?_
      obtain ⟨e, he, ee⟩ := List.mem_map.mp z
      have q2 := A1.ab e he
      rw [show e.ab = ab from ee, nab] at q2
      cases q2
    · rcases memE he with h | rfl
      · exact A1.sab e h
      · exact fun z => by
          have q2 := A1.se
          rw [← show ab = S.sn from z, nab] at q2
          cases q2
    · show (S.es ++ [_]).Pairwise _
      rw [List.pairwise_append]
      exact ⟨A1.inc, List.pairwise_singleton _ _, fun x hx y hy => by rw [List.mem_singleton.mp hy]; exact hlt x hx⟩
    · refine ⟨?_, A1.small.2⟩
      show (S.es ++ [_]).length ≤ 50
      rw [List.length_append]
      show S.es.length + 1 ≤ 50
      omega
end
end Tw

namespace Tw
open PySem PySem.Spec PyProof.Rows L2 He
/-! ### the first one that .. -/
theorem nodup_inj {α β : Type} {f : α → β} : ∀ {xs : List α}, (xs.map f).Nodup → ∀ {a b : α}, a ∈ xs → b ∈ xs → f a = f b → a = b
  | [], _, _, _, h, _, _ => nomatch h
  | x :: xs, hn, a, b, ha, hb, e => by
    rw [List.map_cons, List.nodup_cons] at hn
    rcases List.mem_cons.mp ha with p | p
    · rcases List.mem_cons.mp hb with q | q
      · rw [p, q]
      · exact absurd (List.mem_map.mpr ⟨b, q, by rw [← e, p]⟩) hn.1
    · rcases List.mem_cons.mp hb with q | q
      · exact absurd (List.mem_map.mpr ⟨a, p, by rw [e, q]⟩) hn.1
      · exact nodup_inj hn.2 p q e
theorem find_none_step {α : Type} {p : α → Bool} {xs : List α} {i : Nat} {x : α} (h : (xs.take i).find? p = none) (e : xs[i]? = some x) (hp : p x = false) : (xs.take (i + 1)).find? p = none := by
  rw [List.take_add_one, e, List.find?_append, h]
  simp [hp]
theorem find_some_step {α : Type} {p : α → Bool} {xs : List α} {i : Nat} {x : α} (h : (xs.take i).find? p = none) (e : xs[i]? = some x) (hp : p x = true) : xs.find? p = some x := by
  have q : xs = xs.take i ++ x :: xs.drop (i + 1) := by
    have hi := (List.getElem?_eq_some_iff.mp e).1
    have ee := (List.getElem?_eq_some_iff.mp e).2
    rw [← ee, ← List.drop_eq_getElem_cons hi, List.take_append_drop]
  rw [q, List.find?_append, h]
  simp [hp]
def hasB (es : List En) (n : Int) : Bool := es.any fun e => decide (e.n = n)
theorem hasB_iff {es : List En} {n : Int} : hasB es n = true ↔ Has es n := by
  unfold hasB Has
  rw [List.any_eq_true]
  exact ⟨fun ⟨e, he, q⟩ => ⟨e, he, of_decide_eq_true q⟩, fun ⟨e, he, q⟩ => ⟨e, he, decide_eq_true q⟩⟩
theorem hasB_no {es : List En} {n : Int} (h : hasB es n = false) : ∀ e ∈ es, e.n ≠ n := fun e he q => by
  have := hasB_iff.mpr ⟨e, he, q⟩
  rw [h] at this
  cases this
/-- has it no hold from without -/
def unB (es : List En) (n : Int) : Bool := es.any fun e => decide (e.n = n) && decide (e.hd = 0)
theorem unB_of {es : List En} (hp : es.Pairwise fun x y => x.n < y.n) {e : En} (he : e ∈ es) : unB es e.n = decide (e.hd = 0) := by
  unfold unB
  by_cases z : e.hd = 0
  · rw [decide_eq_true z, List.any_eq_true]
    exact ⟨e, he, by rw [decide_eq_true rfl, decide_eq_true z]; rfl⟩
  · rw [decide_eq_false z, List.any_eq_false]
    intro x hx q
    rw [Bool.and_eq_true, decide_eq_true_eq, decide_eq_true_eq] at q
    have := mem_inj hp hx he q.1
    subst this
    exact z q.2
section
variable {P : Program} {w : World} {K : PySem.W.Frag} {mg : Str → Option Value} {base : Heap}
def spNH (K : PySem.W.Frag) : Sp := fun vs H Q E => ∃ (S : Sh) (a : Addr) (ns : List Int), vs = [.ref S.p, .ref a] ∧ ShelfAt K S H ∧ SqL K H a (ns.map V.int) ∧ (∀ n ∈ ns, Has S.es n) ∧
  (ns.find? (unB S.es) = none → Q .non H) ∧ (∀ m, ns.find? (unB S.es) = some m → errN K "NotHeld" m H E)
theorem sc_nh : FnScope ["self", "branches", "branch"] ["self", "branches"] d_m_need_held.scope := ⟨rfl, rfl, rfl, by decide +kernel, rfl, by decide +kernel, by decide +kernel⟩
theorem ints_at {ns : List Int} {i : Nat} {x : V} (h : (ns.map V.int)[i]? = some x) : ∃ n, ns[i]? = some n ∧ x = .int n := by
  rw [List.getElem?_map] at h
  cases q : ns[i]? with
  | none => rw [q] at h; cases h
  | some n => rw [q] at h; exact ⟨n, rfl, (Option.some.inj h).symm⟩
theorem ok_nh (T : Tx K mg) : Okd P w K mg base (L2.CX P w) 4 d_m_need_held ["self", "branches"] (spNH K) := by
  refine okdX T in_m_need_held sc_nh (fun _ _ _ _ _ _ us hl => match us, hl with | [_, _], _ => rfl) (fun vs H Q E h => ?_) (fun cdv A outer s H vs Q E hr h => ?_)
  · obtain ⟨S, a, ns, rfl, _⟩ := h
    rfl
  · obtain ⟨S, a, ns, rfl, A1, hns, hh, k1, k2⟩ := h
    have hu := hu_of hr
    refine ⟨_, pss_one (ps_for (passes_of rfl) rfl (pi_list (pv 1)) (pg_name (i := 2) sc_nh.nd rfl (Or.inl rfl))
      (pss_one (ps_if (pt_cmpR op_eq (pe_dget hu (pe_fld (pv 0) rfl) (pv 2) (fun _ _ => rfl)) pe_int (nomark _)) (pss_one (ps_raN takesD (ok_eH T) rfl T.exs.2.2.1 (T.g "NotHeld") hr (pv 2))) pss_nil))), ?_⟩
    refine ⟨_, rfl, a, rfl, ⟨_, hns⟩, for_it walk_list (fun i σ H2 => ∃ z, σ = [some (.ref S.p), some (.ref a), z] ∧ H2 = H ∧ (ns.take i).find? (unB S.es) = none) ⟨_, rfl, rfl, rfl⟩ (fun i σ H2 _ ⟨_, _, e, _⟩ => by rw [e]; exact hns) ?_ ?_⟩
    · rintro i x σ H2 H3 hi ⟨z, rfl, rfl, hf⟩ ⟨rfl, hx⟩
      obtain ⟨n, en, rfl⟩ := ints_at hx
      obtain ⟨e, he, rfl⟩ := hh n (List.mem_of_getElem? en)
      refine A1.gf T rfl rfl he ⟨rfl, _, rfl, ?_⟩
      have ub := unB_of A1.inc he
      by_cases z : e.hd = 0
      · rw [show decide (V.int e.hd = V.int 0) = true from decide_eq_true (by rw [z])]
        exact iteT ⟨_, rfl, k2 _ (find_some_step hf en (by rw [ub]; exact decide_eq_true z))⟩
      · rw [show decide (V.int e.hd = V.int 0) = false from decide_eq_false (fun q => z (V.int.inj q))]
        exact iteF ⟨_, rfl, rfl, find_none_step hf en (by rw [ub]; exact decide_eq_false z)⟩
    · rintro σ H2 ⟨z, rfl, rfl, hf⟩
      refine k1 ?_
      rw [List.length_map, List.take_of_length_le (Nat.le_refl _)] at hf
      exact hf
/-! ### a stem takes its branches over -/
def upE (m : Int) (e : En) : En := { e with hd := e.hd - 1, up := e.up ++ [m] }
def hov (ns : List Int) (m : Int) (es : List En) : List En := es.map fun e => if ns.contains e.n then upE m e else e
theorem map_inc {es : List En} (f : En → En) (hf : ∀ e, (f e).n = e.n) (h : es.Pairwise fun x y => x.n < y.n) : (es.map f).Pairwise fun x y => x.n < y.n := by
  rw [List.pairwise_map]
  exact h.imp fun {a b} q => by rw [hf, hf]; exact q
/-- the mutable parts of a hand-over -/
def Sh.Mh (S : Sh) : Addr → Prop := fun b => b = S.f ∨ ∃ e ∈ S.es, b = e.ab
theorem Sh.Mh_M {S : Sh} {b : Addr} (h : S.Mh b) : S.M b := by
  rcases h with h | h
  · exact .inr (.inr (.inr (.inr (.inl h))))
  · exact .inr (.inr (.inr (.inr (.inr (.inr h)))))
theorem one_over {S : Sh} {H : Hp} {e : En} (A : ShelfAt K S H) (he : e ∈ S.es) (m : Int) :
    ShelfAt K { S with es := S.es.map fun x => if x.n = e.n then upE m x else x } (upd (upd H S.f (.dK (putK (dict (fun e => .int e.hd) S.es) (Sum.inl e.n) (.int (e.hd - 1))))) e.ab (.lst (e.up.map V.int ++ [.int m]))) := by
  have ap := A.apart
  have hb := A.ab e he
  have nb : ∀ {b : Addr} {o : HO}, H b = some o → (∀ xs, o ≠ .lst xs) → b ≠ e.ab := fun {b o} q hn z => by
    rw [z, hb] at q
    exact hn _ (Option.some.inj q).symm
  have nf : ∀ {b : Addr} {o : HO}, H b = some o → (∀ xs, o ≠ .dK xs) → b ≠ S.f := fun {b o} q hn z => by
    rw [z, A.fr] at q
    exact hn _ (Option.some.inj q).symm
  have eqn : ∀ {x : En}, x ∈ S.es → x.n = e.n → x = e := fun hx q => mem_inj A.inc hx he q
  have mm : ∀ {x : En}, x ∈ (S.es.map fun x => if x.n = e.n then upE m x else x) → ∃ y ∈ S.es, x = if y.n = e.n then upE m y else y := fun h => by
    obtain ⟨y, hy, q⟩ := List.mem_map.mp h
    exact ⟨y, hy, q.symm⟩
  have dt : ∀ {v : V} {d : PyData}, Da H v d → Da (upd (upd H S.f (.dK (putK (dict (fun e => .int e.hd) S.es) (Sum.inl e.n) (.int (e.hd - 1))))) e.ab (.lst (e.up.map V.int ++ [.int m]))) v d := fun h =>
    Da.ext (fun b xs q => by rw [upd_ne (nb q fun _ z => nomatch z), upd_ne (nf q fun _ z => nomatch z)]; exact q) _ _ h
  have dm : ∀ (F : En → V), (∀ x, F (upE m x) = F x) → dict F (S.es.map fun x => if x.n = e.n then upE m x else x) = dict F S.es := fun F hF => by
    unfold dict
    rw [List.map_map]
    refine List.map_congr_left fun x _ => ?_
    show (Sum.inl (if x.n = e.n then upE m x else x).n, F (if x.n = e.n then upE m x else x)) = _
    split
    · rw [hF]; rfl
    · rfl
  refine ⟨?_, ?_, ?_, ?_, ?_, ?_, A.nd, fun x hx => ?_, fun x hx => ?_, fun x hx => ?_, ?_, fun x hx => ?_, ?_, ?_⟩
  · rw [upd_ne (nb A.ob fun _ z => nomatch z), upd_ne ap.pf]
    exact A.ob
  · rw [upd_ne (A.sab e he).symm, upd_ne ap.fs.symm]
    exact A.se
  · rw [dm _ fun _ => rfl, upd_ne (nb A.ke fun _ z => nomatch z), upd_ne ap.kf]
    exact A.ke
  · rw [dm _ fun _ => rfl, upd_ne (nb A.ta fun _ z => nomatch z), upd_ne ap.tf]
    exact A.ta
  · rw [dm _ fun _ => rfl, upd_ne (nb A.av fun _ z => nomatch z), upd_ne ap.af]
    exact A.av
  · rw [upd_ne (nb A.fr fun _ z => nomatch z), upd_same, putK_dict A.inc he]
    congr 2
    unfold dict
    rw [List.map_map]
    refine List.map_congr_left fun x hx => ?_
    show (Sum.inl x.n, if x.n = e.n then V.int (e.hd - 1) else V.int x.hd) = (Sum.inl (if x.n = e.n then upE m x else x).n, V.int (if x.n = e.n then upE m x else x).hd)
    by_cases z : x.n = e.n
    · rw [if_pos z, if_pos z, eqn hx z]
      rfl
    · rw [if_neg z, if_neg z]
  · obtain ⟨y, hy, rfl⟩ := mm hx
    have q := dt (A.kt y hy)
    split <;> exact q
  · obtain ⟨y, hy, rfl⟩ := mm hx
    have q := dt (A.tg y hy)
    split <;> exact q
  · obtain ⟨y, hy, rfl⟩ := mm hx
    by_cases z : y.n = e.n
    · rw [if_pos z, eqn hy z]
      show upd _ e.ab _ e.ab = some (.lst ((e.up ++ [m]).map V.int))
      rw [upd_same, List.map_append]
      rfl
    · rw [if_neg z, upd_ne, upd_ne (nf (A.ab y hy) fun _ z => nomatch z)]
      · exact A.ab y hy
      · intro q
        exact z (by
          have := nodup_inj A.nab hy he q
          rw [this])
  · show (List.map En.ab (S.es.map _)).Nodup
    rw [List.map_map]
    have : (En.ab ∘ fun x => if x.n = e.n then upE m x else x) = En.ab := by
      funext x
      show (if x.n = e.n then upE m x else x).ab = x.ab
      split <;> rfl
    rw [this]
    exact A.nab
  · obtain ⟨y, hy, rfl⟩ := mm hx
    have q := A.sab y hy
    split <;> exact q
  · exact map_inc _ (fun x => by split <;> rfl) A.inc
  · refine ⟨?_, A.small.2⟩
    show (S.es.map _).length ≤ 50
    rw [List.length_map]
    exact A.small.1
end
end Tw

namespace Tw
open PySem PySem.Spec PyProof.Rows L2 He
section
variable {P : Program} {w : World} {K : PySem.W.Frag} {mg : Str → Option Value} {base : Heap}
theorem hov_step {ns : List Int} {m n : Int} {i : Nat} {es : List En} (e : ns[i]? = some n) (hn : n ∉ ns.take i) : ((hov (ns.take i) m es).map fun x => if x.n = n then upE m x else x) = hov (ns.take (i + 1)) m es := by
  unfold hov
  rw [List.map_map, List.take_add_one, e]
  refine List.map_congr_left fun x _ => ?_
  show (if (if (ns.take i).contains x.n then upE m x else x).n = n then upE m (if (ns.take i).contains x.n then upE m x else x) else (if (ns.take i).contains x.n then upE m x else x)) = if (ns.take i ++ [n]).contains x.n then upE m x else x
  have hc : (ns.take i ++ [n]).contains x.n = ((ns.take i).contains x.n || (x.n == n)) := by
    rw [List.contains_eq_any_beq, List.any_append, ← List.contains_eq_any_beq]
    simp
  rw [hc]
  by_cases h : (ns.take i).contains x.n = true
  · have hx : x.n ≠ n := fun z => hn (by rw [← z]; simpa using h)
    rw [if_pos h, h, if_neg (show ¬ (upE m x).n = n from hx)]
    rfl
  · rw [if_neg h]
    have h' := Bool.eq_false_iff.mpr h
    rw [h', Bool.false_or]
    by_cases hx : x.n = n
    · rw [if_pos hx, if_pos (by simp [hx])]
    · rw [if_neg hx, if_neg (by simp [hx])]
theorem hov_mem {ns : List Int} {m : Int} {es : List En} {e : En} (he : e ∈ es) (hn : e.n ∉ ns) : e ∈ hov ns m es := by
  unfold hov
  refine List.mem_map.mpr ⟨e, he, ?_⟩
  rw [if_neg (by simpa using hn)]
theorem hov_nil (m : Int) (es : List En) : hov [] m es = es := by
  unfold hov
  simp
def spHO (K : PySem.W.Frag) : Sp := fun vs H Q _ => ∃ (S : Sh) (a : Addr) (ns : List Int) (m : Int), vs = [.ref S.p, .ref a, .int m] ∧ ShelfAt K S H ∧ H a = some (.lst (ns.map V.int)) ∧ (∀ e ∈ S.es, e.ab ≠ a) ∧ ns.Nodup ∧ (∀ n ∈ ns, Has S.es n) ∧ (∀ e ∈ S.es, e.up.length ≤ 1) ∧
  ∀ H', ShelfAt K { S with es := hov ns m S.es } H' → Fr S.Mh H H' → Q .non H'
theorem sc_ho : FnScope ["self", "branches", "number", "branch"] ["self", "branches", "number"] d_m_hand_over.scope := ⟨rfl, rfl, rfl, by decide +kernel, rfl, by decide +kernel, by decide +kernel⟩
theorem ok_ho (T : Tx K mg) : Okd P w K mg base CX0 1 d_m_hand_over ["self", "branches", "number"] (spHO K) := by
  refine okd0 T in_m_hand_over sc_ho (fun _ _ _ _ _ _ us hl => match us, hl with | [_, _, _], _ => rfl) (fun vs H Q E h => ?_) (fun cdv A outer s H vs Q E hr h => ?_)
  · obtain ⟨S, a, ns, m, rfl, _⟩ := h
    rfl
  · obtain ⟨S, a, ns, m, rfl, A1, hns, hna, hnd, hh, hup, k⟩ := h
    have hu := hu_of hr
    refine ⟨_, pss_one (ps_for PassesOwn.never rfl (pi_list (pv 1)) (pg_name (i := 3) sc_ho.nd rfl (Or.inl rfl))
      (pss_cons (ps_dput hu (pe_fld (pv 0) rfl) (pv 3) (pe_op op_sub (pe_dget hu (pe_fld (pv 0) rfl) (pv 3) (fun _ _ => rfl)) pe_int) rfl)
      (pss_one (ps_expr (pe_bm PySem.F.plainAttrs_list PySem.F.slot_list_append PySem.F.type_list_append mt_append (pe_dget hu (pe_fld (pv 0) rfl) (pv 3) (fun _ _ => rfl)) (pa_cons (pv 2) pa_nil)))))), ?_⟩
    have hmh : ¬ S.Mh a := by
      rintro (q | ⟨e, he, q⟩)
      · exact ne_of hns A1.fr (fun z => nomatch z) q
      · exact hna e he q.symm
    refine ⟨_, rfl, a, rfl, ⟨_, SqL.of hns⟩, for_it walk_list (fun i σ H2 => ∃ z, σ = [some (.ref S.p), some (.ref a), some (.int m), z] ∧ ShelfAt K { S with es := hov (ns.take i) m S.es } H2 ∧ Fr S.Mh H H2)
      ⟨_, rfl, by rw [List.take_zero, hov_nil]; exact A1, Fr.refl H⟩ (fun i σ H2 _ ⟨_, _, _, f2⟩ => SqL.of (f2.at hmh hns)) ?_ ?_⟩
    · rintro i x σ H2 H3 hi ⟨z, rfl, A2, F2⟩ ⟨rfl, hx⟩
      obtain ⟨n, en, rfl⟩ := ints_at hx
      obtain ⟨e, he, rfl⟩ := hh n (List.mem_of_getElem? en)
      have hnt : e.n ∉ ns.take i := by
        intro q
        obtain ⟨j, hj, ej⟩ := List.mem_iff_getElem.mp q
        rw [List.length_take] at hj
        rw [List.getElem_take] at ej
        have hi2 := (List.getElem?_eq_some_iff.mp en).1
        have e2 := (List.getElem?_eq_some_iff.mp en).2
        have := (List.getElem_inj hnd).mp (ej.trans e2.symm)
        omega
      have he2 := hov_mem (m := m) he hnt
      have ap := A2.apart
      refine A2.gf T rfl rfl he2 ⟨_, _, rfl, rfl, ?_⟩
      refine A2.ff T rfl ⟨_, rfl, S.f, _, rfl, DPut.k (k := Sum.inl e.n) A2.fr (by rw [dict_len]; exact Nat.lt_of_le_of_lt A2.small.1 (by rw [sizeLine_eq]; decide)), ?_⟩
      have O := one_over A2 he2 m
      have p3 : (upd H3 S.f (.dK (putK (dict (fun e => .int e.hd) (hov (ns.take i) m S.es)) (Sum.inl e.n) (.int (e.hd - 1))))) S.p = _ := (upd_ne ap.pf).trans A2.ob
      have a3 : (upd H3 S.f (.dK (putK (dict (fun e => .int e.hd) (hov (ns.take i) m S.es)) (Sum.inl e.n) (.int (e.hd - 1))))) S.a = _ := (upd_ne ap.af).trans A2.av
      have b3 : (upd H3 S.f (.dK (putK (dict (fun e => .int e.hd) (hov (ns.take i) m S.es)) (Sum.inl e.n) (.int (e.hd - 1))))) e.ab = _ := (upd_ne (ne_of (A2.ab e he2) A2.fr fun z => nomatch z)).trans (A2.ab e he2)
      have F3 : Fr S.Mh H (upd H3 S.f (.dK (putK (dict (fun e => .int e.hd) (hov (ns.take i) m S.es)) (Sum.inl e.n) (.int (e.hd - 1))))) := F2.put (.inl rfl) A2.fr True.intro
      refine ⟨_, rfl, S.p, _, S.dx, _, _, rfl, p3, T.cl, T.na_above, fl_above _, _, rfl, S.a, .ref e.ab, rfl, ?_, .inl ⟨rfl, _, SqL.of b3⟩, _, rfl, e.ab, _, .int m, rfl, rfl, b3, ?_, ?_⟩
      · rw [← valV_dict (F := fun e => V.ref e.ab) A2.inc he2]
        exact DGet.k (k := Sum.inl e.n) a3
      · rw [List.length_map]
        exact Nat.lt_of_le_of_lt (hup e he) (by rw [sizeLine_eq]; decide)
      · refine ⟨_, rfl, ?_, F3.put (.inr ⟨e, he, rfl⟩) b3 True.intro⟩
        rw [← hov_step en hnt]
        exact O
    · rintro σ H2 ⟨z, rfl, A2, F2⟩
      rw [List.length_map, List.take_of_length_le (Nat.le_refl _)] at A2
      exact k H2 A2 F2
/-! ### a leaf is put -/
def labR : List Row → Lab
  | [] => ⟨0, .none, .none, 0⟩
  | r :: rs => ⟨0, r.1, (lastR r rs).1, (rs.length : Int) + 1⟩
def spPL (K : PySem.W.Frag) : Sp := fun vs H Q _ => ∃ (S : Sh) (a : Addr) (xs : List V) (rs : List Row), vs = [.ref S.p, .ref a] ∧ ShelfAt K S H ∧ SqL K H a xs ∧ DaL H xs (rs.map rowD) ∧ (∀ r ∈ rs, okK r) ∧ 1 ≤ rs.length ∧ rs.length ≤ 4 ∧ Ris rs ∧ (∀ e ∈ S.es, e.n < S.g) ∧ S.es.length < 50 ∧
  ∀ H' kt tg ab, H ab = none → ShelfAt K { S with g := S.g + 1, es := S.es ++ [⟨S.g, .leaf rs, 1, [], labR rs, rs, 1, kt, tg, ab⟩] } H' → Fr S.M5 H H' → Q (.int S.g) H'
theorem sc_pl : FnScope ["self", "rows", "found"] ["self", "rows"] d_m_put_leaf.scope := ⟨rfl, rfl, rfl, by decide +kernel, rfl, by decide +kernel, by decide +kernel⟩
theorem okK_sm {r : Row} (h : okK r) : smD r.1 = true ∧ smD r.2 = true := ⟨kd_sm 3 _ (isW_kd 3 _ h.1), kd_sm 3 _ (isW_kd 3 _ h.2)⟩
theorem ok_pl (T : Tx K mg) : Okd P w K mg base CX0 9 d_m_put_leaf ["self", "rows"] (spPL K) := by
  refine okd0 T in_m_put_leaf sc_pl (fun _ _ _ _ _ _ us hl => match us, hl with | [_, _], _ => rfl) (fun vs H Q E h => ?_) (fun cdv A outer s H vs Q E hr h => ?_)
  · obtain ⟨S, a, xs, rs, rfl, _⟩ := h
    rfl
  · obtain ⟨S, a, xs, rs, rfl, A1, hxs, hda, hok, l1, l4, hri, hlt, h50, k⟩ := h
    obtain ⟨tb, hb⟩ := T.s_LEAF
    refine ⟨_, pss_cons (ps_set (i := 2) sc_pl.nd rfl (Or.inl rfl) (pcl (ok_cr T) hr passL (pa_cons (pv 1) pa_nil) (T.g "checked_rows")))
      (pss_one (ps_ret (pml (ok_sd T) hr pass0 (pv 0) T.cl T.me_set_down (pa_cons (pe_glob (v := .str "leaf") rfl hb ⟨_, rfl⟩) (pa_cons (pv 2) (pa_cons (pcl (ok_lr T) hr pass0 (pa_cons (pv 2) pa_nil) (T.g "label_of_rows")) pa_nil)))))), ?_⟩
    refine ⟨_, rfl, a, xs, rs, rfl, hxs, hda, fun r hr => okK_sm (hok r hr), by omega, fun ⟨r, h1, h2⟩ => absurd (hok r h1) h2, fun _ h => ?_, fun _ _ _ _ H1 p ys s1 hp hp1 hy1 => ?_⟩
    · rcases h with h | h | h
      · omega
      · omega
      · exact absurd hri h
    obtain ⟨r, rs', rfl⟩ : ∃ r rs', rs = r :: rs' := by
      cases rs with
      | nil => cases l1
      | cons r rs' => exact ⟨r, rs', rfl⟩
    have A2 := A1.same s1
    refine ⟨_, rfl, S.p, _, _, rfl, A2.ob, rfl, _, rfl, _, rfl, p, ys, r, rs', rfl, SqL.of hp1, hy1, by simp at l4; omega, fun H2 v s2 hv => ?_⟩
    obtain ⟨tga, x, y, rfl, ht, _, _⟩ := lab_of hv
    refine ⟨S, p, ys, tga, .leaf (r :: rs'), labR (r :: rs'), r :: rs', 1, rfl, A2.same s2, SqL.of (s2 _ _ hp1), hy1.same s2, hv, hlt, h50, fun H3 kt ab hab A3 F3 => k H3 kt tga ab ((Fr.of (M := M0) (s1.trans s2)).free (fun z => z) hab) A3 ((Fr.of (s1.trans s2)).trans F3)⟩
/-! ### looks -/
def spLook (K : PySem.W.Frag) : Sp := fun vs H Q E => ∃ (S : Sh) (n : Int), vs = [.ref S.p, .int n] ∧ ShelfAt K S H ∧ S.seen.length < 100 ∧
  (∀ e ∈ S.es, e.n = n → ∀ H' r l xs, H r = none → H l = none → r ≠ l → H' r = some (.tup [.str e.tw.kind, .ref l]) → H' l = some (.lst xs) → DaL H' xs e.tw.items → ShelfAt K { S with seen := S.seen ++ [n] } H' → Fr (fun b => b = S.sn) H H' → Q (.ref r) H') ∧
  ((∀ e ∈ S.es, e.n ≠ n) → errN K "NoTwig" n H E)
theorem sc_look : FnScope ["self", "number", "kind", "what"] ["self", "number"] d_m_look.scope := ⟨rfl, rfl, rfl, by decide +kernel, rfl, by decide +kernel, by decide +kernel⟩
theorem ok_look (T : Tx K mg) : Okd P w K mg base (L2.CX P w) 5 d_m_look ["self", "number"] (spLook K) := by
  refine okdX T in_m_look sc_look (fun _ _ _ _ _ _ us hl => match us, hl with | [_, _], _ => rfl) (fun vs H Q E h => ?_) (fun cdv A outer s H vs Q E hr h => ?_)
  · obtain ⟨S, n, rfl, _⟩ := h
    rfl
  · obtain ⟨S, n, rfl, A1, h100, k1, k2⟩ := h
    have hu := hu_of hr
    refine ⟨_, pss_cons (ps_expr (pml (ok_need T) hr passD (pv 0) T.cl T.me_need (pa_cons (pv 1) pa_nil)))
      (pss_cons (ps_expr (pe_bm PySem.F.plainAttrs_list PySem.F.slot_list_append PySem.F.type_list_append mt_append (pe_fld (pv 0) rfl) (pa_cons (pv 1) pa_nil)))
      (pss_cons (ps_asg (pe_dget hu (pe_fld (pv 0) rfl) (pv 1) (fun _ _ => rfl)) (pg_tup rfl (pgs_cons (pg_name (i := 2) sc_look.nd rfl (Or.inl rfl)) (pgs_cons (pg_name (i := 3) sc_look.nd rfl (Or.inl rfl)) pgs_nil))))
      (pss_one (ps_ret (pe_tup (pa_cons (pv 2) (pa_cons (pe_callTy call_list_of (by rfl) (T.f "list") (by decide +kernel) (pa_cons (pv 3) pa_nil)) pa_nil))))))), ?_⟩
    refine ⟨_, rfl, S.p, _, _, rfl, A1.ob, rfl, _, rfl, S, n, rfl, A1, fun ⟨e, he, en⟩ => ?_, k2⟩
    subst en
    refine ⟨_, rfl, S.p, _, S.dx, _, _, rfl, A1.ob, T.cl, T.na_seen, fl_seen S, .inl ⟨rfl, _, SqL.of A1.se⟩, _, rfl, S.sn, _, .int e.n, rfl, rfl, A1.se, by rw [List.length_map, sizeLine_eq]; omega, ?_⟩
    have ap := A1.apart
    have F1 : Fr (fun b => b = S.sn) H (upd H S.sn (.lst (S.seen.map V.int ++ [.int e.n]))) := (Fr.refl H).put rfl A1.se True.intro
    have A2 : ShelfAt K { S with seen := S.seen ++ [e.n] } (upd H S.sn (.lst (S.seen.map V.int ++ [.int e.n]))) :=
      ⟨(upd_ne ap.ps).trans A1.ob, by rw [upd_same, List.map_append]; rfl, (upd_ne ap.ks).trans A1.ke, (upd_ne ap.ts).trans A1.ta, (upd_ne ap.as_).trans A1.av, (upd_ne ap.fs).trans A1.fr, A1.nd, fun x hx => (A1.kt x hx).fr F1, fun x hx => (A1.tg x hx).fr F1, fun x hx => (upd_ne (A1.sab x hx)).trans (A1.ab x hx), A1.nab, A1.sab, A1.inc, A1.small.1, by
        show (S.seen ++ [e.n]).length ≤ 100
        rw [List.length_append]
        show S.seen.length + 1 ≤ 100
        omega⟩
    refine A2.gk T rfl rfl he ?_
    obtain ⟨kt, xs, ek, hkt, hx⟩ := (A2.kt e he).tup_of
    cases hx with
    | cons h1 h2 =>
      cases h2 with
      | cons h2 h3 =>
        cases h3
        obtain ⟨wt, ws, rfl, hwt, hw⟩ := h2.tup_of
        rw [h1.str_of] at hkt
        refine ⟨kt, _, ek, SqT.of hkt, rfl, _, _, rfl, _, _, rfl, rfl, ?_⟩
        refine ⟨_, rfl, _, rfl, wt, ws, rfl, .inr (SqT.of hwt), fun l hl => ⟨small100 (by simp), fun r hr => ?_⟩⟩
        have s1 : Same (upd H S.sn (.lst (S.seen.map V.int ++ [.int e.n]))) (upd (upd H S.sn (.lst (S.seen.map V.int ++ [.int e.n]))) l (.lst ws)) := same_upd hl
        have s2 : Same (upd (upd H S.sn (.lst (S.seen.map V.int ++ [.int e.n]))) l (.lst ws)) (upd (upd (upd H S.sn (.lst (S.seen.map V.int ++ [.int e.n]))) l (.lst ws)) r (.tup [.str e.tw.kind, .ref l])) := same_upd hr
        have nl : H l = none := by
          by_cases z : l = S.sn
          · rw [z, upd_same] at hl; cases hl
          · rw [upd_ne z] at hl; exact hl
        have nr : r ≠ l := fun z => by rw [z, upd_same] at hr; cases hr
        have nr2 : H r = none := by
          rw [upd_ne nr] at hr
          by_cases z : r = S.sn
          · rw [z, upd_same] at hr; cases hr
          · rw [upd_ne z] at hr; exact hr
        exact k1 e he rfl _ r l ws nr2 nl nr upd_same (s2 _ _ upd_same) (hw.same (s1.trans s2)) (A2.same (s1.trans s2)) (F1.trans (Fr.of (s1.trans s2)))
def spLab (K : PySem.W.Frag) : Sp := fun vs H Q E => ∃ (S : Sh) (n : Int), vs = [.ref S.p, .int n] ∧ ShelfAt K S H ∧ (∀ e ∈ S.es, e.n = n → Q (.ref e.tg) H) ∧ ((∀ e ∈ S.es, e.n ≠ n) → errN K "NoTwig" n H E)
theorem sc_lab : FnScope ["self", "number"] ["self", "number"] d_m_label.scope := ⟨rfl, rfl, rfl, by decide +kernel, rfl, by decide +kernel, by decide +kernel⟩
theorem ok_lab (T : Tx K mg) : Okd P w K mg base (L2.CX P w) 5 d_m_label ["self", "number"] (spLab K) := by
  refine okdX T in_m_label sc_lab (fun _ _ _ _ _ _ us hl => match us, hl with | [_, _], _ => rfl) (fun vs H Q E h => ?_) (fun cdv A outer s H vs Q E hr h => ?_)
  · obtain ⟨S, n, rfl, _⟩ := h
    rfl
  · obtain ⟨S, n, rfl, A1, k1, k2⟩ := h
    have hu := hu_of hr
    refine ⟨_, pss_cons (ps_expr (pml (ok_need T) hr passD (pv 0) T.cl T.me_need (pa_cons (pv 1) pa_nil))) (pss_one (ps_ret (pe_dget hu (pe_fld (pv 0) rfl) (pv 1) (fun _ _ => rfl)))), ?_⟩
    refine ⟨_, rfl, S.p, _, _, rfl, A1.ob, rfl, _, rfl, S, n, rfl, A1, fun ⟨e, he, en⟩ => ?_, k2⟩
    subst en
    exact A1.gt T rfl rfl he (k1 e he rfl)
/-- a number that no twig has -/
def spHold (K : PySem.W.Frag) : Sp := fun vs H Q E => ∃ (S : Sh) (n : Int), vs = [.ref S.p, .int n] ∧ ShelfAt K S H ∧ (∀ e ∈ S.es, e.n ≠ n) ∧ errN K "NoTwig" n H E
theorem sc_hold : FnScope ["self", "number"] ["self", "number"] d_m_hold.scope := ⟨rfl, rfl, rfl, by decide +kernel, rfl, by decide +kernel, by decide +kernel⟩
theorem ok_hold (T : Tx K mg) : Okd P w K mg base (L2.CX P w) 5 d_m_hold ["self", "number"] (spHold K) := by
  refine okdX T in_m_hold sc_hold (fun _ _ _ _ _ _ us hl => match us, hl with | [_, _], _ => rfl) (fun vs H Q E h => ?_) (fun cdv A outer s H vs Q E hr h => ?_)
  · obtain ⟨S, n, rfl, _⟩ := h
    rfl
  · obtain ⟨S, n, rfl, A1, hn, k2⟩ := h
    refine ⟨_, pss_cons (ps_expr (pml (ok_need T) hr passD (pv 0) T.cl T.me_need (pa_cons (pv 1) pa_nil))) (pss_one ps_never), ?_⟩
    exact ⟨_, rfl, S.p, _, _, rfl, A1.ob, rfl, _, rfl, S, n, rfl, A1, fun ⟨e, he, en⟩ => absurd en (hn e he), fun _ => k2⟩
def spLooked (K : PySem.W.Frag) : Sp := fun vs H Q _ => ∃ S : Sh, vs = [.ref S.p] ∧ ShelfAt K S H ∧ ∀ l, H l = none → Q (.ref l) (upd H l (.lst (S.seen.map V.int)))
theorem sc_looked : FnScope ["self"] ["self"] d_m_looked.scope := ⟨rfl, rfl, rfl, by decide +kernel, rfl, by decide +kernel, by decide +kernel⟩
theorem ok_looked (T : Tx K mg) : Okd P w K mg base CX0 1 d_m_looked ["self"] (spLooked K) := by
  refine okd0 T in_m_looked sc_looked (fun _ _ _ _ _ _ us hl => match us, hl with | [_], _ => rfl) (fun vs H Q E h => ?_) (fun cdv A outer s H vs Q E hr h => ?_)
  · obtain ⟨S, rfl, _⟩ := h
    rfl
  · obtain ⟨S, rfl, A1, k⟩ := h
    refine ⟨_, pss_one (ps_ret (pe_callTy call_list_of (by rfl) (T.f "list") (by decide +kernel) (pa_cons (pe_fld (pv 0) rfl) pa_nil))), ?_⟩
    exact ⟨_, rfl, S.p, _, S.dx, _, _, rfl, A1.ob, T.cl, T.na_seen, fl_seen S, S.sn, _, rfl, .inl (SqL.of A1.se), k⟩
def spForget (K : PySem.W.Frag) : Sp := fun vs H Q _ => ∃ S : Sh, vs = [.ref S.p] ∧ ShelfAt K S H ∧ ∀ H' sn, H sn = none → ShelfAt K { S with sn := sn, seen := [] } H' → Fr (fun b => b = S.p) H H' → Q .non H'
theorem sc_forget : FnScope ["self"] ["self"] d_m_forget.scope := ⟨rfl, rfl, rfl, by decide +kernel, rfl, by decide +kernel, by decide +kernel⟩
theorem ok_forget (T : Tx K mg) : Okd P w K mg base CX0 1 d_m_forget ["self"] (spForget K) := by
  refine okd0 T in_m_forget sc_forget (fun _ _ _ _ _ _ us hl => match us, hl with | [_], _ => rfl) (fun vs H Q E h => ?_) (fun cdv A outer s H vs Q E hr h => ?_)
  · obtain ⟨S, rfl, _⟩ := h
    rfl
  · obtain ⟨S, rfl, A1, k⟩ := h
    refine ⟨_, pss_one (ps_fld (pv 0) (pe_lst pa_nil) rfl), ?_⟩
    refine ⟨Nat.zero_le _, fun sn hsn => ?_⟩
    have s1 : Same H (upd H sn (.lst [])) := same_upd hsn
    have A2 := A1.same s1
    have ap := A1.apart
    refine ⟨_, rfl, S.p, _, S.dx, _, rfl, A2.ob, T.cl, T.na_seen, fl_len S, ?_⟩
    rw [fl_puts S sn []]
    have F1 : Fr (fun b => b = S.p) H (upd (upd H sn (.lst [])) S.p (.ins (ga K "Shelf") S.dx (flds { S with sn := sn, seen := [] }))) := (Fr.of s1).put rfl A2.ob True.intro
    have ne : ∀ {b : Addr} {o : HO}, H b = some o → b ≠ sn := fun q => ne_of_none q hsn
    refine k _ sn hsn ⟨upd_same, ?_, (upd_ne ap.pk.symm).trans A2.ke, (upd_ne ap.pt.symm).trans A2.ta, (upd_ne ap.pa.symm).trans A2.av, (upd_ne ap.pf.symm).trans A2.fr, A1.nd, fun x hx => (A1.kt x hx).fr F1, fun x hx => (A1.tg x hx).fr F1, fun x hx => F1.at (ne_of (A1.ab x hx) A1.ob fun z => nomatch z) (A1.ab x hx), A1.nab, fun x hx => ne (A1.ab x hx), A1.inc, A1.small.1, Nat.zero_le _⟩ F1
    show upd _ S.p _ sn = _
    rw [upd_ne (ne A1.ob).symm, upd_same]
    rfl
def spNums (K : PySem.W.Frag) : Sp := fun vs H Q _ => ∃ S : Sh, vs = [.ref S.p] ∧ ShelfAt K S H ∧ ∀ l, H l = none → Q (.ref l) (upd H l (.lst ((S.es.map En.n).map V.int)))
theorem sc_nums : FnScope ["self"] ["self"] d_m_numbers.scope := ⟨rfl, rfl, rfl, by decide +kernel, rfl, by decide +kernel, by decide +kernel⟩
theorem nums_sorted {es : List En} (h : es.Pairwise fun x y => x.n < y.n) {ys : List Int} (hp : ys.Perm (es.map En.n)) (hs : ys.Pairwise (· ≤ ·)) : ys = es.map En.n :=
  PySem.W.ksm_same hp hs (by rw [List.pairwise_map]; exact h.imp fun q => Int.le_of_lt q)
theorem ok_nums (T : Tx K mg) : Okd P w K mg base CX0 1 d_m_numbers ["self"] (spNums K) := by
  refine okd0 T in_m_numbers sc_nums (fun _ _ _ _ _ _ us hl => match us, hl with | [_], _ => rfl) (fun vs H Q E h => ?_) (fun cdv A outer s H vs Q E hr h => ?_)
  · obtain ⟨S, rfl, _⟩ := h
    rfl
  · obtain ⟨S, rfl, A1, k⟩ := h
    refine ⟨_, pss_one (ps_ret (pe_callB (call_sortedDI rfl) (by rfl) (T.f "sorted") (by decide +kernel) (pa_cons (pe_fld (pv 0) rfl) pa_nil))), ?_⟩
    refine ⟨_, rfl, S.p, _, S.dx, _, _, rfl, A1.ob, T.cl, T.na_kept, fl_kept S, S.k, _, S.es.map En.n, rfl, .inl A1.ke, dict_keys _ _, ?_, fun ys p hp hs hn => ?_⟩
    · rw [List.length_map]
      have := A1.small.1
      omega
    · rw [nums_sorted A1.inc hp hs]
      exact k p hn
def spMany (K : PySem.W.Frag) : Sp := fun vs H Q _ => ∃ S : Sh, vs = [.ref S.p] ∧ ShelfAt K S H ∧ Q (.int S.es.length) H
theorem sc_many : FnScope ["self"] ["self"] d_m_many.scope := ⟨rfl, rfl, rfl, by decide +kernel, rfl, by decide +kernel, by decide +kernel⟩
theorem ok_many (T : Tx K mg) : Okd P w K mg base CX0 1 d_m_many ["self"] (spMany K) := by
  refine okd0 T in_m_many sc_many (fun _ _ _ _ _ _ us hl => match us, hl with | [_], _ => rfl) (fun vs H Q E h => ?_) (fun cdv A outer s H vs Q E hr h => ?_)
  · obtain ⟨S, rfl, _⟩ := h
    rfl
  · obtain ⟨S, rfl, A1, k⟩ := h
    refine ⟨_, pss_one (ps_ret (pe_callB call_lenD (by rfl) (T.f "len") PySem.boot_len (pa_cons (pe_fld (pv 0) rfl) pa_nil))), ?_⟩
    refine ⟨_, rfl, S.p, _, S.dx, _, _, rfl, A1.ob, T.cl, T.na_kept, fl_kept S, S.k, _, rfl, A1.ke, ?_⟩
    rw [dict_len]
    exact k
end
end Tw

namespace Tw
open PySem PySem.Spec PyProof.Rows L2 He
/-- the entries of numbers that are all there -/
theorem ents_of {es : List En} : ∀ {ns : List Int}, (∀ n ∈ ns, Has es n) → ∃ bs : List En, bs.map En.n = ns ∧ ∀ b ∈ bs, b ∈ es
  | [], _ => ⟨[], rfl, fun b hb => nomatch hb⟩
  | n :: ns, h => by
    obtain ⟨bs, h1, h2⟩ := ents_of (ns := ns) fun m hm => h m (List.mem_cons_of_mem _ hm)
    obtain ⟨e, he, en⟩ := h n List.mem_cons_self
    refine ⟨e :: bs, by rw [List.map_cons, h1, en], fun b hb => ?_⟩
    rcases List.mem_cons.mp hb with q | q
    · rw [q]; exact he
    · exact h2 b q
theorem find_no_has {es : List En} {ns : List Int} (h : ns.find? (fun n => !hasB es n) = none) : ∀ n ∈ ns, Has es n := fun n hn => by
  have q := List.find?_eq_none.mp h n hn
  simp at q
  exact hasB_iff.mp q
/-- of labels one behind the other each one's greatest key is ahead of each later one's least -/
theorem okl_far {ls : List Lab} (h : OkL ls) (hk : ∀ l ∈ ls, ahe l.lo l.hi) : ∀ (d i : Nat) (a b : Lab), ls[i]? = some a → ls[i + 1 + d]? = some b → ah a.hi b.lo = true
  | 0, i, a, b, ea, eb => by
    have h0 : 0 < ls.length := by have := h.two; omega
    exact (h.adj i a b _ ea eb (List.getElem?_eq_getElem h0)).2
  | d + 1, i, a, b, ea, eb => by
    have h0 : 0 < ls.length := by have := h.two; omega
    have hb := (List.getElem?_eq_some_iff.mp eb).1
    have hm : i + 1 + d < ls.length := by omega
    have q := okl_far h hk d i a _ ea (List.getElem?_eq_getElem hm)
    have q2 := (h.adj (i + 1 + d) _ b _ (List.getElem?_eq_getElem hm) (by rw [show i + 1 + d + 1 = i + 1 + (d + 1) by omega]; exact eb) (List.getElem?_eq_getElem h0)).2
    exact ah_trans (ah_ahe q (hk _ (List.getElem_mem hm))) q2
theorem okl_nodup {es : List En} {bs : List En} {g : Int} {c : Nat} (G : Good es g c) (hp : es.Pairwise fun x y => x.n < y.n) (hb : ∀ b ∈ bs, b ∈ es) (h : OkL (bs.map En.lab)) : (bs.map En.n).Nodup := by
  have hk : ∀ l ∈ bs.map En.lab, ahe l.lo l.hi := fun l hl => by
    obtain ⟨b, hb2, rfl⟩ := List.mem_map.mp hl
    exact (G.kd b (hb b hb2)).2.2
  rw [List.nodup_iff_pairwise_ne, List.pairwise_iff_getElem]
  intro i j hi hj hij e
  rw [List.length_map] at hi hj
  rw [List.getElem_map, List.getElem_map] at e
  have ee := mem_inj hp (hb _ (List.getElem_mem hi)) (hb _ (List.getElem_mem hj)) e
  have q := okl_far h hk (j - i - 1) i (bs[i]).lab (bs[j]).lab (by rw [List.getElem?_map, List.getElem?_eq_getElem hi]; rfl) (by rw [show i + 1 + (j - i - 1) = j by omega, List.getElem?_map, List.getElem?_eq_getElem hj]; rfl)
  rw [ee] at q
  have q2 := ah_ahe q (G.kd _ (hb _ (List.getElem_mem hj))).2.2
  rw [ah_irr] at q2
  cases q2
theorem hov_snoc {ns : List Int} {m : Int} {es : List En} {e : En} (h : e.n ∉ ns) : hov ns m (es ++ [e]) = hov ns m es ++ [e] := by
  unfold hov
  rw [List.map_append]
  show _ ++ [if ns.contains e.n = true then _ else _] = _
  rw [if_neg (by simpa using h)]
def newS (S : Sh) (bs : List En) (kt tg ab : Addr) : En := ⟨S.g, .stem (bs.map En.n), 1, [], overL (bs.map En.lab), bs.flatMap En.rw, 1 + (bs.map En.sz).sum, kt, tg, ab⟩
section
variable {P : Program} {w : World} {K : PySem.W.Frag} {mg : Str → Option Value} {base : Heap}
def spPS (K : PySem.W.Frag) : Sp := fun vs H Q E => ∃ (S : Sh) (c : Nat) (a : Addr) (ns : List Int), vs = [.ref S.p, .ref a] ∧ ShelfAt K S H ∧ Good S.es S.g c ∧ SqL K H a (ns.map V.int) ∧ ns.length ≤ 100 ∧ S.es.length < 50 ∧
  (∀ m, ns.find? (fun n => !hasB S.es n) = some m → errN K "NoTwig" m H E) ∧
  (∀ bs, bs.map En.n = ns → (∀ b ∈ bs, b ∈ S.es) → (¬ OkL (bs.map En.lab) → err0 K "NoStem" H E) ∧
    (OkL (bs.map En.lab) → ∀ m, ns.find? (unB S.es) = some m → errN K "NotHeld" m H E) ∧
    (OkL (bs.map En.lab) → ns.find? (unB S.es) = none → ∀ H' kt tg ab, H ab = none → ShelfAt K { S with g := S.g + 1, es := hov ns S.g S.es ++ [newS S bs kt tg ab] } H' → Fr (fun b => S.M5 b ∨ S.Mh b) H H' → Q (.int S.g) H'))
theorem sc_ps : FnScope ["self", "numbers", "some", "branch", "tag", "number"] ["self", "numbers"] d_m_put_stem.scope := ⟨rfl, rfl, rfl, by decide +kernel, rfl, by decide +kernel, by decide +kernel⟩
theorem ok_ps (T : Tx K mg) : Okd P w K mg base (L2.CX P w) 7 d_m_put_stem ["self", "numbers"] (spPS K) := by
  refine okdX T in_m_put_stem sc_ps (fun _ _ _ _ _ _ us hl => match us, hl with | [_, _], _ => rfl) (fun vs H Q E h => ?_) (fun cdv A outer s H vs Q E hr h => ?_)
  · obtain ⟨S, c, a, ns, rfl, _⟩ := h
    rfl
  · obtain ⟨S, c, a, ns, rfl, A1, G, hns, hlen, h50, k1, k2⟩ := h
    have hu := hu_of hr
    obtain ⟨tb, hb⟩ := T.s_STEM
    refine ⟨_, pss_cons (ps_set (i := 2) sc_ps.nd rfl (Or.inl rfl) (pe_callTy call_list_of (by rfl) (T.f "list") (by decide +kernel) (pa_cons (pv 1) pa_nil)))
      (pss_cons (ps_for (passes_of rfl) rfl (pi_list (pv 2)) (pg_name (i := 3) sc_ps.nd rfl (Or.inl rfl)) (pss_one (ps_expr (pml (ok_need T) hr passD (pv 0) T.cl T.me_need (pa_cons (pv 3) pa_nil)))))
      (pss_cons (ps_set (i := 4) sc_ps.nd rfl (Or.inl rfl) (pcl (ok_lo T) hr passD (pa_cons (pe_lc (own := [("branch", 3)]) (g := gName 3) (tt := tYes) (te := tDGet (tFld K (tVar 0) "tags") (tVar 3)) rfl sc_ps.nd (pi_list (pv 2))
          (blkOk_by (own := [("branch", 3)]) (N := ["self", "numbers", "some", "branch", "tag", "number"]) (sc := d_m_put_stem.scope) (by decide +kernel)) (fun _ _ _ _ _ => pg_name (i := 3) sc_ps.nd rfl (Or.inl rfl)) (fun _ _ _ _ _ => pts_nil)
          (fun _ _ _ _ _ => by exact pe_dget hu (pe_fld (pv 0) rfl) (pv 3) (fun _ _ => rfl))) pa_nil) (T.g "label_over")))
      (pss_cons (ps_expr (pml (ok_nh T) hr passD (pv 0) T.cl T.me_need_held (pa_cons (pv 2) pa_nil)))
      (pss_cons (ps_set (i := 5) sc_ps.nd rfl (Or.inl rfl) (pml (ok_sd T) hr pass0 (pv 0) T.cl T.me_set_down (pa_cons (pe_glob (v := .str "stem") rfl hb ⟨_, rfl⟩) (pa_cons (pv 2) (pa_cons (pv 4) pa_nil)))))
      (pss_cons (ps_expr (pml (ok_ho T) hr pass0 (pv 0) T.cl T.me_hand_over (pa_cons (pv 2) (pa_cons (pv 5) pa_nil))))
      (pss_one (ps_ret (pv 5)))))))), ?_⟩
    refine ⟨_, rfl, a, _, rfl, .inl hns, fun l hl => ?_⟩
    have s1 : Same H (upd H l (.lst (ns.map V.int))) := same_upd hl
    have l1 : (upd H l (.lst (ns.map V.int))) l = some (.lst (ns.map V.int)) := upd_same
    generalize upd H l (.lst (ns.map V.int)) = H1 at s1 l1 ⊢
    have A2 := A1.same s1
    refine ⟨_, rfl, l, rfl, ⟨_, SqL.of l1⟩, for_it walk_list (fun i σ H2 => ∃ z, σ = [some (.ref S.p), some (.ref a), some (.ref l), z, none, none] ∧ H2 = H1 ∧ (ns.take i).find? (fun n => !hasB S.es n) = none)
      ⟨_, rfl, rfl, rfl⟩ (fun i σ H2 _ ⟨_, _, e, _⟩ => by rw [e]; exact SqL.of l1) ?_ ?_⟩
    · rintro i x σ H2 H3 hi ⟨z, rfl, rfl, hf⟩ ⟨rfl, hx⟩
      obtain ⟨n, en, rfl⟩ := ints_at hx
      refine ⟨_, rfl, S.p, _, _, rfl, A2.ob, rfl, _, rfl, S, n, rfl, A2, fun hn => ⟨_, rfl, rfl, find_none_step hf en (by rw [hasB_iff.mpr hn]; rfl)⟩, fun hn => ?_⟩
      have hf2 := find_some_step hf en (by
        cases q : hasB S.es n with
        | false => rfl
        | true => obtain ⟨e, he, ee⟩ := hasB_iff.mp q; exact absurd ee (hn e he))
      intro H' d sd hd
      exact k1 n hf2 H' d (s1.trans sd) hd
    · rintro σ H2 ⟨z, rfl, rfl, hf⟩
      rw [List.length_map, List.take_of_length_le (Nat.le_refl _)] at hf
      have hh := find_no_has hf
      obtain ⟨bs, eb, hbs⟩ := ents_of hh
      obtain ⟨k21, k22, k23⟩ := k2 bs eb hbs
      subst eb
      refine ⟨_, rfl, l, rfl, ⟨_, SqL.of l1⟩, fun D hD => lc_it walk_list (fun i H4 => Same H2 H4 ∧ ∃ ys, H4 D = some (.lst ys) ∧ DaL H4 ys (((bs.take i).map En.lab).map Lab.D)) ⟨same_upd hD, [], upd_same, .nil⟩ (fun i H4 _ q => SqL.of (q.1 _ _ l1)) ?_ ?_⟩
      · rintro i y H4 H5 hi ⟨s4, ys, hD4, hy4⟩ ⟨rfl, hy⟩
        obtain ⟨n, en, rfl⟩ := ints_at hy
        rw [List.getElem?_map] at en
        obtain ⟨b, eb, rfl⟩ : ∃ b, bs[i]? = some b ∧ b.n = n := by
          cases q : bs[i]? with
          | none => rw [q] at en; cases en
          | some b => rw [q] at en; exact ⟨b, rfl, Option.some.inj en⟩
        have hbm := hbs b (List.mem_of_getElem? eb)
        have A4 := A2.same s4
        refine ⟨rfl, A4.gt T rfl rfl hbm ⟨ys, hD4, ?_, grow_same s4 hD, ys ++ [.ref b.tg], upd_same, ?_⟩⟩
        · have q := hy4.length
          rw [List.length_map, List.length_map, List.length_take] at q
          rw [List.length_map] at hlen
          rw [q, sizeLine_eq]
          omega
        · rw [List.take_add_one, eb, List.map_append, List.map_append]
          exact DaL.updl hD4 (DaL.app hy4 (.cons (A4.tg b hbm) .nil))
      · rintro H4 ⟨s4, ys, hD4, hy4⟩
        rw [List.length_map, List.length_map, List.take_of_length_le (Nat.le_refl _)] at hy4
        have hkd : ∀ l ∈ bs.map En.lab, kdB 3 l.lo = true ∧ kdB 3 l.hi = true := fun l hl => by
          obtain ⟨b, hb2, rfl⟩ := List.mem_map.mp hl
          exact ⟨(G.kd b (hbs b hb2)).1, (G.kd b (hbs b hb2)).2.1⟩
        refine ⟨D, ys, bs.map En.lab, rfl, SqL.of hD4, hy4, hkd, by rw [List.length_map] at hlen ⊢; exact hlen, fun no H5 s5 => k21 no H5 (s1.trans (s4.trans s5)), fun ok H5 v s5 hv => ?_⟩
        obtain ⟨tga, x, y, rfl, _, _, _⟩ := lab_of hv
        have s25 := s4.trans s5
        have A5 := A2.same s25
        have l5 := s25 _ _ l1
        refine ⟨_, rfl, S.p, _, _, rfl, A5.ob, rfl, _, rfl, S, l, _, rfl, A5, SqL.of l5, hh, fun hf2 => ?_, fun m hf2 H6 d s6 hd => k22 ok m hf2 H6 d (s1.trans (s25.trans s6)) hd⟩
        refine ⟨_, rfl, S.p, _, _, rfl, A5.ob, rfl, _, rfl, _, rfl, S, l, _, tga, .stem (bs.map En.n), overL (bs.map En.lab), bs.flatMap En.rw, 1 + (bs.map En.sz).sum, rfl, A5, SqL.of l5, DaL.ints _, hv, fun e he => (G.rng e he).2, h50, fun H6 kt ab hab A6 F6 => ?_⟩
        have no : S.g ∉ bs.map En.n := fun q => by
          obtain ⟨e, he, ee⟩ := hh _ q
          have := (G.rng e he).2
          omega
        have l6 : H6 l = some (.lst ((bs.map En.n).map V.int)) := F6.at (A5.not5 l5) l5
        refine ⟨_, rfl, S.p, _, _, rfl, A6.ob, rfl, _, rfl, _, rfl, { S with g := S.g + 1, es := S.es ++ [newS S bs kt tga ab] }, l, _, S.g, rfl, A6, l6, fun e he => ?_, okl_nodup G A1.inc hbs ok, fun n hn => ?_, fun e he => ?_, fun H7 A7 F7 => ?_⟩
        · rcases List.mem_append.mp he with q | q
          · exact ne_of_none (A1.ab e q) hl
          · rw [List.mem_singleton.mp q]
            intro z
            have z2 : ab = l := z
            rw [z2, l5] at hab
            cases hab
        · obtain ⟨e, he, ee⟩ := hh n hn
          exact ⟨e, List.mem_append_left _ he, ee⟩
        · rcases List.mem_append.mp he with q | q
          · rcases G.one e q with ⟨h1, _⟩ | ⟨s', h1, _⟩
            · rw [h1]; exact Nat.zero_le _
            · rw [h1]; exact Nat.le_refl _
          · rw [List.mem_singleton.mp q]
            exact Nat.zero_le _
        · have ho := hov_snoc (ns := bs.map En.n) (m := S.g) (es := S.es) (e := newS S bs kt tga ab) no
          have s05 := s1.trans s25
          refine ⟨_, rfl, k23 ok hf2 H7 kt tga ab ((Fr.of (M := M0) s05).free (fun z => z) hab) (by rw [← ho]; exact A7) ?_⟩
          refine (((Fr.of s05).trans F6).mono fun b o _ z => .inl z).and F7 fun b o hbo z => ?_
          rcases z with z | ⟨e, he, z⟩
          · exact .inr (.inl z)
          · rcases List.mem_append.mp he with q | q
            · exact .inr (.inr ⟨e, q, z⟩)
            · exfalso
              rw [List.mem_singleton.mp q] at z
              have z2 : b = ab := z
              rw [z2] at hbo
              rw [s05 _ _ hbo] at hab
              cases hab
end
end Tw

namespace Tw
open PySem PySem.Spec PyProof.Rows L2 He
section
variable {P : Program} {w : World} {K : PySem.W.Frag} {mg : Str → Option Value} {base : Heap}
def outE (es : List En) (n : Int) : List En := es.filter fun e => decide (e.n ≠ n)
theorem outE_mem {es : List En} {n : Int} {e : En} (h : e ∈ outE es n) : e ∈ es := (List.mem_filter.mp h).1
def spSW (K : PySem.W.Frag) : Sp := fun vs H Q _ => ∃ (S : Sh) (e : En) (rs : List Row), vs = [.ref S.p, .int e.n] ∧ ShelfAt K S H ∧ e ∈ S.es ∧ e.tw = .leaf rs ∧ e.up = [] ∧ e.hd = 0 ∧
  ∀ H', ShelfAt K { S with es := outE S.es e.n } H' → Fr S.M5 H H' → Q .non H'
theorem sc_sw : FnScope ["self", "number", "todo", "here", "kind", "what", "branch"] ["self", "number"] d_m_sweep.scope := ⟨rfl, rfl, rfl, by decide +kernel, rfl, by decide +kernel, by decide +kernel⟩
theorem ok_sw (T : Tx K mg) : Okd P w K mg base CX0 1 d_m_sweep ["self", "number"] (spSW K) := by
  refine okd0 T in_m_sweep sc_sw (fun _ _ _ _ _ _ us hl => match us, hl with | [_, _], _ => rfl) (fun vs H Q E h => ?_) (fun cdv A outer s H vs Q E hr h => ?_)
  · obtain ⟨S, e, rs, rfl, _⟩ := h
    rfl
  · obtain ⟨S, e, rs, rfl, A1, he, htw, hup, hhd, k⟩ := h
    have hu := hu_of hr
    obtain ⟨tb, hb⟩ := T.s_STEM
    refine ⟨_, pss_cons (ps_set (i := 2) sc_sw.nd rfl (Or.inl rfl) (pe_lst (pa_cons (pv 1) pa_nil)))
      (pss_one (ps_while PassesOwn.never (pt_cmpR (op_neD hr.units) (pv 2) (pe_lst pa_nil) (nomark _))
        (pss_cons (ps_set (i := 3) sc_sw.nd rfl (Or.inl rfl) (pe_bm0 PySem.F.plainAttrs_list PySem.F.slot_list_pop PySem.F.type_list_pop mt_pop (pv 2)))
        (pss_one (ps_if (PW.pt (pw_and (pt_cmp (pc_din hu (pv 3) (pe_fld (pv 0) rfl))) (pw_and (pt_cmpR op_eq (pe_dget hu (pe_fld (pv 0) rfl) (pv 3) (fun _ _ => rfl)) pe_int (nomark _))
            (pw_and1 (pt_cmpR (op_eqD hr.units) (pe_dget hu (pe_fld (pv 0) rfl) (pv 3) (fun _ _ => rfl)) (pe_lst pa_nil) (nomark _))))))
          (pss_cons (ps_asg (pe_dpop1 (pe_fld (pv 0) rfl) (pv 3) ⟨rfl, rfl, rfl, rfl⟩) (pg_tup rfl (pgs_cons (pg_name (i := 4) sc_sw.nd rfl (Or.inl rfl)) (pgs_cons (pg_name (i := 5) sc_sw.nd rfl (Or.inl rfl)) pgs_nil))))
          (pss_cons (ps_expr (pe_dpop1 (pe_fld (pv 0) rfl) (pv 3) ⟨rfl, rfl, rfl, rfl⟩))
          (pss_cons (ps_expr (pe_dpop1 (pe_fld (pv 0) rfl) (pv 3) ⟨rfl, rfl, rfl, rfl⟩))
          (pss_cons (ps_expr (pe_dpop1 (pe_fld (pv 0) rfl) (pv 3) ⟨rfl, rfl, rfl, rfl⟩))
          (pss_one (ps_if (pt_cmpR op_eq (pv 4) (pe_glob (v := .str "stem") rfl hb ⟨_, rfl⟩) (nomark _)) (pss_one ps_never) pss_nil)))))) pss_nil))))), ?_⟩
    refine ⟨_, rfl, small100 (by simp), fun l hl => ?_⟩
    have s1 : Same H (upd H l (.lst [.int e.n])) := same_upd hl
    refine ⟨fun m σ H2 => (m = 1 ∧ σ = [some (.ref S.p), some (.int e.n), some (.ref l), none, none, none, none] ∧ Same H H2 ∧ H2 l = some (.lst [.int e.n])) ∨
      (m = 0 ∧ ∃ u v x, σ = [some (.ref S.p), some (.int e.n), some (.ref l), u, v, x, none] ∧ H2 l = some (.lst []) ∧ ShelfAt K { S with es := outE S.es e.n } H2 ∧ Fr S.M5 H H2), ⟨1, .inl ⟨rfl, rfl, s1, upd_same⟩⟩, ?_⟩
    rintro m σ H2 (⟨rfl, rfl, s2, l2⟩ | ⟨rfl, u, v, x, rfl, l2, A2, F2⟩)
    · refine ⟨_, rfl, Nat.zero_le _, fun q hq => ?_⟩
      have s3 : Same H2 (upd H2 q (.lst [])) := same_upd hq
      refine ⟨.list (([e.n] : List Int).map PyData.int), .list [], dp_ints (SqL.of (s3 _ _ l2)), .lst (SqL.of upd_same) .nil, shaped_ints _, shaped_ints [], _, rfl, ?_⟩
      rw [eqv_nil]
      refine iteT ⟨fun σ' H' => ∃ u v x, σ' = [some (.ref S.p), some (.int e.n), some (.ref l), u, v, x, none] ∧ H' l = some (.lst []) ∧ ShelfAt K { S with es := outE S.es e.n } H' ∧ Fr S.M5 H H', fun σ' H' h => ⟨0, by decide, .inr ⟨rfl, h⟩⟩, ?_⟩
      have l3 := s3 _ _ l2
      have s23 := s2.trans s3
      generalize upd H2 q (.lst []) = H3 at l3 s23 ⊢
      refine ⟨_, rfl, .inl ⟨rfl, _, SqL.of l3⟩, l, [.int e.n], .int e.n, rfl, rfl, l3, rfl, ?_⟩
      have l4 : (upd H3 l (.lst ([V.int e.n] : List V).dropLast)) l = some (.lst []) := upd_same
      have s4 : Same H (upd H3 l (.lst ([V.int e.n] : List V).dropLast)) := grow_same s23 hl
      generalize upd H3 l (.lst ([V.int e.n] : List V).dropLast) = H4 at l4 s4 ⊢
      have A4 := A1.same s4
      refine ⟨_, rfl, A4.fk T rfl ⟨S.k, _, rfl, DGet.k (k := Sum.inl e.n) A4.ke, _, rfl, ?_⟩⟩
      rw [valV_dict A4.inc he]
      refine iteT (A4.gf T rfl rfl he ⟨rfl, _, rfl, ?_⟩)
      rw [hhd]
      refine iteT (A4.gA T rfl rfl he ⟨Nat.zero_le _, fun r hr2 => ?_⟩)
      have s5 : Same H4 (upd H4 r (.lst [])) := same_upd hr2
      have A5 := A4.same s5
      refine ⟨.list (e.up.map PyData.int), .list [], dp_ints (SqL.of (A5.ab e he)), .lst (SqL.of upd_same) .nil, shaped_ints _, shaped_ints [], _, rfl, ?_⟩
      rw [eqv_nil, hup]
      refine iteT ?_
      have l5 := s5 _ _ l4
      have s45 := s4.trans s5
      generalize upd H4 r (.lst []) = H5 at l5 s45 A5 ⊢
      have F5 : Fr S.M5 H5 H5 := Fr.refl H5
      have ap := A5.apart
      refine ⟨_, rfl, S.p, _, S.dx, _, _, rfl, A5.ob, T.cl, T.na_kept, fl_kept S, S.k, rfl, .inl ⟨_, .inl A5.ke⟩, _, rfl, _, Sum.inl e.n, _, A5.ke, rfl, valV_dict A5.inc he, ?_⟩
      rw [dropK_dict]
      have F6 : Fr S.M5 H5 (upd H5 S.k (.dK (dict (fun e => V.ref e.kt) (outE S.es e.n)))) := F5.put (.inr (.inl rfl)) A5.ke True.intro
      have p6 := (upd_ne (o := .dK (dict (fun e => V.ref e.kt) (outE S.es e.n))) ap.pk).trans A5.ob
      have k6 : (upd H5 S.k (.dK (dict (fun e => V.ref e.kt) (outE S.es e.n)))) S.k = _ := upd_same
      have t6 := (upd_ne (o := .dK (dict (fun e => V.ref e.kt) (outE S.es e.n))) ap.kt.symm).trans A5.ta
      have a6 := (upd_ne (o := .dK (dict (fun e => V.ref e.kt) (outE S.es e.n))) ap.ka.symm).trans A5.av
      have f6 := (upd_ne (o := .dK (dict (fun e => V.ref e.kt) (outE S.es e.n))) ap.kf.symm).trans A5.fr
      have d6 := (A5.kt e he).fr F6
      unfold outE at F6 p6 k6 t6 a6 f6 d6 ⊢
      generalize upd H5 S.k (.dK (dict (fun e => V.ref e.kt) (S.es.filter fun x => decide (x.n ≠ e.n)))) = H6 at F6 p6 k6 t6 a6 f6 d6 ⊢
      obtain ⟨kt, xs, ek, hkt, hx⟩ := d6.tup_of
      cases hx with
      | cons h1 h2 =>
      cases h2 with
      | cons h2 h3 =>
      cases h3
      rw [h1.str_of] at hkt
      refine ⟨kt, _, ek, SqT.of hkt, rfl, _, _, rfl, _, _, rfl, rfl, ?_⟩
      refine ⟨_, rfl, S.p, _, S.dx, _, _, rfl, p6, T.cl, T.na_tags, fl_tags S, S.t, rfl, .inl ⟨_, .inl t6⟩, _, rfl, _, Sum.inl e.n, _, t6, rfl, valV_dict A5.inc he, ?_⟩
      rw [dropK_dict]
      have F7 : Fr S.M5 H5 (upd H6 S.t (.dK (dict (fun e => V.ref e.tg) (S.es.filter fun x => decide (x.n ≠ e.n))))) := F6.put (.inr (.inr (.inl rfl))) t6 True.intro
      have p7 := (upd_ne (o := .dK (dict (fun e => V.ref e.tg) (S.es.filter fun x => decide (x.n ≠ e.n)))) ap.pt).trans p6
      have k7 := (upd_ne (o := .dK (dict (fun e => V.ref e.tg) (S.es.filter fun x => decide (x.n ≠ e.n)))) ap.kt).trans k6
      have t7 : (upd H6 S.t (.dK (dict (fun e => V.ref e.tg) (S.es.filter fun x => decide (x.n ≠ e.n))))) S.t = _ := upd_same
      have a7 := (upd_ne (o := .dK (dict (fun e => V.ref e.tg) (S.es.filter fun x => decide (x.n ≠ e.n)))) ap.ta.symm).trans a6
      have f7 := (upd_ne (o := .dK (dict (fun e => V.ref e.tg) (S.es.filter fun x => decide (x.n ≠ e.n)))) ap.tf.symm).trans f6
      generalize upd H6 S.t (.dK (dict (fun e => V.ref e.tg) (S.es.filter fun x => decide (x.n ≠ e.n)))) = H7 at F7 p7 k7 t7 a7 f7 ⊢
      refine ⟨_, rfl, S.p, _, S.dx, _, _, rfl, p7, T.cl, T.na_above, fl_above S, S.a, rfl, .inl ⟨_, .inl a7⟩, _, rfl, _, Sum.inl e.n, _, a7, rfl, valV_dict A5.inc he, ?_⟩
      rw [dropK_dict]
      have F8 : Fr S.M5 H5 (upd H7 S.a (.dK (dict (fun e => V.ref e.ab) (S.es.filter fun x => decide (x.n ≠ e.n))))) := F7.put (.inr (.inr (.inr (.inl rfl)))) a7 True.intro
      have p8 := (upd_ne (o := .dK (dict (fun e => V.ref e.ab) (S.es.filter fun x => decide (x.n ≠ e.n)))) ap.pa).trans p7
      have k8 := (upd_ne (o := .dK (dict (fun e => V.ref e.ab) (S.es.filter fun x => decide (x.n ≠ e.n)))) ap.ka).trans k7
      have t8 := (upd_ne (o := .dK (dict (fun e => V.ref e.ab) (S.es.filter fun x => decide (x.n ≠ e.n)))) ap.ta).trans t7
      have a8 : (upd H7 S.a (.dK (dict (fun e => V.ref e.ab) (S.es.filter fun x => decide (x.n ≠ e.n))))) S.a = _ := upd_same
      have f8 := (upd_ne (o := .dK (dict (fun e => V.ref e.ab) (S.es.filter fun x => decide (x.n ≠ e.n)))) ap.af.symm).trans f7
      generalize upd H7 S.a (.dK (dict (fun e => V.ref e.ab) (S.es.filter fun x => decide (x.n ≠ e.n)))) = H8 at F8 p8 k8 t8 a8 f8 ⊢
      refine ⟨_, rfl, S.p, _, S.dx, _, _, rfl, p8, T.cl, T.na_freely, fl_freely S, S.f, rfl, .inl ⟨_, .inl f8⟩, _, rfl, _, Sum.inl e.n, _, f8, rfl, valV_dict A5.inc he, ?_⟩
      rw [dropK_dict]
      have F9 : Fr S.M5 H5 (upd H8 S.f (.dK (dict (fun e => V.int e.hd) (S.es.filter fun x => decide (x.n ≠ e.n))))) := F8.put (.inr (.inr (.inr (.inr rfl)))) f8 True.intro
      have p9 := (upd_ne (o := .dK (dict (fun e => V.int e.hd) (S.es.filter fun x => decide (x.n ≠ e.n)))) ap.pf).trans p8
      have k9 := (upd_ne (o := .dK (dict (fun e => V.int e.hd) (S.es.filter fun x => decide (x.n ≠ e.n)))) ap.kf).trans k8
      have t9 := (upd_ne (o := .dK (dict (fun e => V.int e.hd) (S.es.filter fun x => decide (x.n ≠ e.n)))) ap.tf).trans t8
      have a9 := (upd_ne (o := .dK (dict (fun e => V.int e.hd) (S.es.filter fun x => decide (x.n ≠ e.n)))) ap.af).trans a8
      have f9 : (upd H8 S.f (.dK (dict (fun e => V.int e.hd) (S.es.filter fun x => decide (x.n ≠ e.n))))) S.f = _ := upd_same
      generalize upd H8 S.f (.dK (dict (fun e => V.int e.hd) (S.es.filter fun x => decide (x.n ≠ e.n)))) = H9 at F9 p9 k9 t9 a9 f9 ⊢
      refine ⟨_, rfl, rfl, _, rfl, ?_⟩
      have ek : decide (V.str e.tw.kind = V.str "stem") = false := by rw [htw]; exact (by decide +kernel : decide (V.str "leaf" = V.str "stem") = false)
      rw [ek]
      refine iteF ⟨_, _, _, rfl, F9.at (A5.not5 l5) l5, ?_, (Fr.of s45).trans F9⟩
      refine ⟨p9, F9.at (A5.not5 A5.se) A5.se, k9, t9, a9, f9, A5.nd, fun x hx => (A5.kt x (outE_mem hx)).fr F9, fun x hx => (A5.tg x (outE_mem hx)).fr F9, fun x hx => F9.at (A5.not5 (A5.ab x (outE_mem hx))) (A5.ab x (outE_mem hx)), ?_, fun x hx => A5.sab x (outE_mem hx), A5.inc.filter _, Nat.le_trans (List.length_filter_le _ _) A5.small.1, A5.small.2⟩
      exact List.Nodup.sublist (List.Sublist.map _ List.filter_sublist) A5.nab
    · refine ⟨_, rfl, Nat.zero_le _, fun q hq => ?_⟩
      have s3 : Same H2 (upd H2 q (.lst [])) := same_upd hq
      refine ⟨.list (([] : List Int).map PyData.int), .list [], dp_ints (SqL.of (s3 _ _ l2)), .lst (SqL.of upd_same) .nil, shaped_ints _, shaped_ints [], _, rfl, ?_⟩
      rw [eqv_nil]
      exact iteF (k _ (A2.same s3) (F2.trans (Fr.of s3)))
/-! ### one hold from without less -/
def hdE (n h : Int) (es : List En) : List En := es.map fun x => if x.n = n then { x with hd := h } else x
theorem hd_at {S : Sh} {H : Hp} {e : En} (A : ShelfAt K S H) (he : e ∈ S.es) (h : Int) :
    ShelfAt K { S with es := hdE e.n h S.es } (upd H S.f (.dK (putK (dict (fun e => .int e.hd) S.es) (Sum.inl e.n) (.int h)))) := by
  have ap := A.apart
  have nf : ∀ {b : Addr} {o : HO}, H b = some o → (∀ xs, o ≠ .dK xs) → b ≠ S.f := fun {b o} q hn z => by
    rw [z, A.fr] at q
    exact hn _ (Option.some.inj q).symm
  have mm : ∀ {x : En}, x ∈ hdE e.n h S.es → ∃ y ∈ S.es, x = if y.n = e.n then { y with hd := h } else y := fun q => by
    obtain ⟨y, hy, z⟩ := List.mem_map.mp q
    exact ⟨y, hy, z.symm⟩
  have dt : ∀ {v : V} {d : PyData}, Da H v d → Da (upd H S.f (.dK (putK (dict (fun e => .int e.hd) S.es) (Sum.inl e.n) (.int h)))) v d := fun q =>
    Da.ext (fun b xs z => by rw [upd_ne (nf z fun _ y => nomatch y)]; exact z) _ _ q
  have dm : ∀ (F : En → V), (∀ x : En, F { x with hd := h } = F x) → dict F (hdE e.n h S.es) = dict F S.es := fun F hF => by
    unfold dict hdE
    rw [List.map_map]
    refine List.map_congr_left fun x _ => ?_
    show (Sum.inl (if x.n = e.n then { x with hd := h } else x).n, F (if x.n = e.n then { x with hd := h } else x)) = _
    split
    · rw [hF]
    · rfl
  refine ⟨(upd_ne ap.pf).trans A.ob, (upd_ne ap.fs.symm).trans A.se, ?_, ?_, ?_, ?_, A.nd, fun x hx => ?_, fun x hx => ?_, fun x hx => ?_, ?_, fun x hx => ?_, ?_, ?_⟩
  · rw [dm _ fun _ => rfl]
    exact (upd_ne ap.kf).trans A.ke
  · rw [dm _ fun _ => rfl]
    exact (upd_ne ap.tf).trans A.ta
  · rw [dm _ fun _ => rfl]
    exact (upd_ne ap.af).trans A.av
  · show upd H S.f _ S.f = _
    rw [upd_same, putK_dict A.inc he]
    congr 2
    unfold dict hdE
    rw [List.map_map]
    refine List.map_congr_left fun x hx => ?_
    show (Sum.inl x.n, if x.n = e.n then V.int h else V.int x.hd) = (Sum.inl (if x.n = e.n then { x with hd := h } else x).n, V.int (if x.n = e.n then { x with hd := h } else x).hd)
    split <;> rfl
  · obtain ⟨y, hy, rfl⟩ := mm hx
    have q := dt (A.kt y hy)
    split <;> exact q
  · obtain ⟨y, hy, rfl⟩ := mm hx
    have q := dt (A.tg y hy)
    split <;> exact q
  · obtain ⟨y, hy, rfl⟩ := mm hx
    have q := (upd_ne (o := .dK (putK (dict (fun e => .int e.hd) S.es) (Sum.inl e.n) (.int h))) (nf (A.ab y hy) fun _ z => nomatch z)).trans (A.ab y hy)
    split <;> exact q
  · show (List.map En.ab (S.es.map _)).Nodup
    rw [List.map_map]
    have : (En.ab ∘ fun x => if x.n = e.n then { x with hd := h } else x) = En.ab := by
      funext x
      show (if x.n = e.n then { x with hd := h } else x).ab = x.ab
      split <;> rfl
    rw [this]
    exact A.nab
  · obtain ⟨y, hy, rfl⟩ := mm hx
    have q := A.sab y hy
    split <;> exact q
  · exact map_inc _ (fun x => by split <;> rfl) A.inc
  · refine ⟨?_, A.small.2⟩
    show (S.es.map _).length ≤ 50
    rw [List.length_map]
    exact A.small.1
theorem out_hd (n h : Int) (es : List En) : outE (hdE n h es) n = outE es n := by
  unfold outE hdE
  induction es with
  | nil => rfl
  | cons x es ih =>
    rw [List.map_cons, List.filter_cons, List.filter_cons, ih]
    by_cases z : x.n = n
    · rw [if_pos z]
      have h1 : decide (({ x with hd := h } : En).n ≠ n) = false := decide_eq_false fun q => q z
      rw [h1]
      rfl
    · rw [if_neg z]
def spLG (K : PySem.W.Frag) : Sp := fun vs H Q E => ∃ (S : Sh) (n : Int), vs = [.ref S.p, .int n] ∧ ShelfAt K S H ∧ ((∀ e ∈ S.es, e.n ≠ n) → errN K "NoTwig" n H E) ∧ (∀ e ∈ S.es, e.n = n → e.hd = 0 → errN K "NotHeld" n H E) ∧
  (∀ e ∈ S.es, e.n = n → e.hd ≠ 0 → e.hd = 1 ∧ e.up = [] ∧ (∃ rs, e.tw = .leaf rs) ∧ ∀ H', ShelfAt K { S with es := outE S.es n } H' → Fr S.M5 H H' → Q .non H')
theorem sc_lg : FnScope ["self", "number"] ["self", "number"] d_m_let_go.scope := ⟨rfl, rfl, rfl, by decide +kernel, rfl, by decide +kernel, by decide +kernel⟩
theorem ok_lg (T : Tx K mg) : Okd P w K mg base (L2.CX P w) 5 d_m_let_go ["self", "number"] (spLG K) := by
  refine okdX T in_m_let_go sc_lg (fun _ _ _ _ _ _ us hl => match us, hl with | [_, _], _ => rfl) (fun vs H Q E h => ?_) (fun cdv A outer s H vs Q E hr h => ?_)
  · obtain ⟨S, n, rfl, _⟩ := h
    rfl
  · obtain ⟨S, n, rfl, A1, k1, k2, k3⟩ := h
    have hu := hu_of hr
    refine ⟨_, pss_cons (ps_expr (pml (ok_need T) hr passD (pv 0) T.cl T.me_need (pa_cons (pv 1) pa_nil)))
      (pss_cons (ps_if (pt_cmpR op_eq (pe_dget hu (pe_fld (pv 0) rfl) (pv 1) (fun _ _ => rfl)) pe_int (nomark _)) (pss_one (ps_raN takesD (ok_eH T) rfl T.exs.2.2.1 (T.g "NotHeld") hr (pv 1))) pss_nil)
      (pss_cons (ps_dput hu (pe_fld (pv 0) rfl) (pv 1) (pe_op op_sub (pe_dget hu (pe_fld (pv 0) rfl) (pv 1) (fun _ _ => rfl)) pe_int) rfl)
      (pss_one (ps_expr (pml (ok_sw T) hr pass0 (pv 0) T.cl T.me_sweep (pa_cons (pv 1) pa_nil)))))), ?_⟩
    refine ⟨_, rfl, S.p, _, _, rfl, A1.ob, rfl, _, rfl, S, n, rfl, A1, fun ⟨e, he, en⟩ => ?_, k1⟩
    subst en
    refine A1.gf T rfl rfl he ⟨rfl, _, rfl, ?_⟩
    by_cases z : e.hd = 0
    · rw [show decide (V.int e.hd = V.int 0) = true from decide_eq_true (by rw [z])]
      exact iteT ⟨_, rfl, k2 e he rfl z⟩
    · rw [show decide (V.int e.hd = V.int 0) = false from decide_eq_false (fun q => z (V.int.inj q))]
      obtain ⟨h1, h2, ⟨rs, h3⟩, k⟩ := k3 e he rfl z
      have O := hd_at A1 he (e.hd - 1)
      refine iteF (A1.gf T rfl rfl he ⟨_, _, rfl, rfl, ?_⟩)
      refine A1.ff T rfl ⟨_, rfl, S.f, _, rfl, DPut.k (k := Sum.inl e.n) A1.fr (by rw [dict_len]; exact Nat.lt_of_le_of_lt A1.small.1 (by rw [sizeLine_eq]; decide)), ?_⟩
      refine ⟨_, rfl, S.p, _, _, rfl, O.ob, rfl, _, rfl, { S with es := hdE e.n (e.hd - 1) S.es }, { e with hd := e.hd - 1 }, rs, rfl, O, ?_, h3, h2, by show e.hd - 1 = 0; omega, fun H' A2 F2 => ?_⟩
      · exact List.mem_map.mpr ⟨e, he, by rw [if_pos rfl]⟩
      · refine k H' ?_ (((Fr.refl H).put (.inr (.inr (.inr (.inr rfl)))) A1.fr True.intro).trans F2)
        have : outE (hdE e.n (e.hd - 1) S.es) e.n = outE S.es e.n := out_hd _ _ _
        rw [← this]
        exact A2
end
end Tw

namespace Tw
open PySem PySem.Spec PyProof.Rows L2 He
section
variable {P : Program} {w : World} {K : PySem.W.Frag} {mg : Str → Option Value} {base : Heap}
/-- the kind in self.kept[n] -/
theorem kind_at {S : Sh} {H : Hp} {e : En} (A : ShelfAt K S H) (he : e ∈ S.es) : ∃ l, H e.kt = some (.tup [.str e.tw.kind, .ref l]) ∧ ∃ ws, H l = some (.tup ws) ∧ DaL H ws e.tw.items := by
  obtain ⟨kt, xs, ek, hkt, hx⟩ := (A.kt e he).tup_of
  cases ek
  cases hx with
  | cons h1 h2 =>
  cases h2 with
  | cons h2 h3 =>
  cases h3
  rw [h1.str_of] at hkt
  obtain ⟨l, ws, rfl, hl, hw⟩ := h2.tup_of
  exact ⟨l, hkt, ws, hl, hw⟩
/-- bad rows for a leaf -/
def spCL (K : PySem.W.Frag) : Sp := fun vs H Q E => ∃ (S : Sh) (c : Nat) (n : Int) (a : Addr) (xs : List V) (rs : List Row), vs = [.ref S.p, .int n, .ref a] ∧ ShelfAt K S H ∧ Good S.es S.g c ∧ SqL K H a xs ∧ DaL H xs (rs.map rowD) ∧ (∀ r ∈ rs, smD r.1 = true ∧ smD r.2 = true) ∧ rs.length ≤ 100 ∧
  ¬ ((∀ r ∈ rs, okK r) ∧ 1 ≤ rs.length ∧ rs.length ≤ 4 ∧ Ris rs) ∧
  ((∀ e ∈ S.es, e.n ≠ n) → errN K "NoTwig" n H E) ∧
  (∀ e ∈ S.es, e.n = n → (∀ ns, e.tw = .stem ns → err0 K "NoLeaf" H E) ∧ (∀ qs, e.tw = .leaf qs → ((∃ r ∈ rs, ¬ okK r) → err0 K "NoKey" H E) ∧ ((∀ r ∈ rs, okK r) → err0 K "NoLeaf" H E)))
theorem sc_cl : FnScope ["self", "number", "rows", "found", "tags"] ["self", "number", "rows"] d_m_change_leaf.scope := ⟨rfl, rfl, rfl, by decide +kernel, rfl, by decide +kernel, by decide +kernel⟩
theorem ok_cl (T : Tx K mg) : Okd P w K mg base (L2.CX P w) 9 d_m_change_leaf ["self", "number", "rows"] (spCL K) := by
  refine okdX T in_m_change_leaf sc_cl (fun _ _ _ _ _ _ us hl => match us, hl with | [_, _, _], _ => rfl) (fun vs H Q E h => ?_) (fun cdv A outer s H vs Q E hr h => ?_)
  · obtain ⟨S, c, n, a, xs, rs, rfl, _⟩ := h
    rfl
  · obtain ⟨S, c, n, a, xs, rs, rfl, A1, G, hxs, hda, hsm, hlen, hbad, k1, k2⟩ := h
    have hu := hu_of hr
    obtain ⟨tb, hb⟩ := T.s_LEAF
    refine ⟨_, pss_cons (ps_expr (pml (ok_need T) hr passD (pv 0) T.cl T.me_need (pa_cons (pv 1) pa_nil)))
      (pss_cons (ps_if (pt_cmpR op_ne (pe_ix ix_tup (pe_dget hu (pe_fld (pv 0) rfl) (pv 1) (fun _ _ => rfl)) pe_int (fun _ _ => rfl)) (pe_glob (v := .str "leaf") rfl hb ⟨_, rfl⟩) (nomark _))
        (pss_one (ps_ra0 takesD T.ex_NoLeaf (T.g "NoLeaf"))) pss_nil)
      (pss_cons (ps_expr (pml (ok_nal T) hr pass0 (pv 0) T.cl T.me_need_alone (pa_cons (pv 1) pa_nil)))
      (pss_cons (ps_set (i := 3) sc_cl.nd rfl (Or.inl rfl) (pcl (ok_cr T) hr passD (pa_cons (pv 2) pa_nil) (T.g "checked_rows")))
      (pss_cons ps_never (pss_cons ps_never (pss_one ps_never)))))), ?_⟩
    refine ⟨_, rfl, S.p, _, _, rfl, A1.ob, rfl, _, rfl, S, n, rfl, A1, fun ⟨e, he, en⟩ => ?_, k1⟩
    subst en
    obtain ⟨l, hkt, _⟩ := kind_at A1 he
    obtain ⟨k21, k22⟩ := k2 e he rfl
    refine A1.gk T rfl rfl he ⟨e.kt, _, 0, _, rfl, rfl, SqT.of hkt, atI_nat (j := 0) rfl, rfl, _, rfl, ?_⟩
    cases ht : e.tw with
    | stem ns =>
      rw [show (!decide (V.str (Twg.stem ns).kind = V.str "leaf")) = true from (by decide +kernel : (!decide (V.str "stem" = V.str "leaf")) = true)]
      exact iteT (k21 ns ht H (Same.refl H))
    | leaf qs =>
      rw [show (!decide (V.str (Twg.leaf qs).kind = V.str "leaf")) = false from (by decide +kernel : (!decide (V.str "leaf" = V.str "leaf")) = false)]
      obtain ⟨k3, k4⟩ := k22 qs ht
      refine iteF ⟨_, rfl, S.p, _, _, rfl, A1.ob, rfl, _, rfl, S, e.n, c, rfl, A1, G, ⟨e, he, rfl⟩, fun H2 s2 => ?_⟩
      refine ⟨_, rfl, a, xs, rs, rfl, s2.seq hxs, hda.same s2, hsm, hlen, fun h H3 s3 => k3 h H3 (s2.trans s3), fun h _ H3 s3 => k4 h H3 (s2.trans s3), fun h1 h2 h3 h4 => absurd ⟨h1, h2, h3, h4⟩ hbad⟩
/-- bad branches for a stem -/
def spCS (K : PySem.W.Frag) : Sp := fun vs H Q E => ∃ (S : Sh) (c : Nat) (n : Int) (a : Addr) (ns : List Int), vs = [.ref S.p, .int n, .ref a] ∧ ShelfAt K S H ∧ Good S.es S.g c ∧ SqL K H a (ns.map V.int) ∧ ns.length ≤ 100 ∧
  ((∀ m ∈ ns, Has S.es m) → ns.length < 2) ∧
  ((∀ e ∈ S.es, e.n ≠ n) → errN K "NoTwig" n H E) ∧
  (∀ e ∈ S.es, e.n = n → (∀ qs, e.tw = .leaf qs → err0 K "NoStem" H E) ∧ (∀ qs, e.tw = .stem qs → (∀ m, ns.find? (fun n => !hasB S.es n) = some m → errN K "NoTwig" m H E) ∧ (ns.find? (fun n => !hasB S.es n) = none → err0 K "NoStem" H E)))
theorem sc_cs : FnScope ["self", "number", "numbers", "some", "branch", "tag", "tags", "old", "new"] ["self", "number", "numbers"] d_m_change_stem.scope := ⟨rfl, rfl, rfl, by decide +kernel, rfl, by decide +kernel, by decide +kernel⟩
theorem ok_cs (T : Tx K mg) : Okd P w K mg base (L2.CX P w) 8 d_m_change_stem ["self", "number", "numbers"] (spCS K) := by
  refine okdX T in_m_change_stem sc_cs (fun _ _ _ _ _ _ us hl => match us, hl with | [_, _, _], _ => rfl) (fun vs H Q E h => ?_) (fun cdv A outer s H vs Q E hr h => ?_)
  · obtain ⟨S, c, n, a, ns, rfl, _⟩ := h
    rfl
  · obtain ⟨S, c, n, a, ns, rfl, A1, G, hns, hlen, hbad, k1, k2⟩ := h
    have hu := hu_of hr
    obtain ⟨tb, hb⟩ := T.s_STEM
    refine ⟨_, pss_cons (ps_expr (pml (ok_need T) hr passD (pv 0) T.cl T.me_need (pa_cons (pv 1) pa_nil)))
      (pss_cons (ps_if (pt_cmpR op_ne (pe_ix ix_tup (pe_dget hu (pe_fld (pv 0) rfl) (pv 1) (fun _ _ => rfl)) pe_int (fun _ _ => rfl)) (pe_glob (v := .str "stem") rfl hb ⟨_, rfl⟩) (nomark _))
        (pss_one (ps_ra0 takesD T.ex_NoStem (T.g "NoStem"))) pss_nil)
      (pss_cons (ps_expr (pml (ok_nal T) hr pass0 (pv 0) T.cl T.me_need_alone (pa_cons (pv 1) pa_nil)))
      (pss_cons (ps_set (i := 3) sc_cs.nd rfl (Or.inl rfl) (pe_callTy call_list_of (by rfl) (T.f "list") (by decide +kernel) (pa_cons (pv 2) pa_nil)))
      (pss_cons (ps_for (passes_of rfl) rfl (pi_list (pv 3)) (pg_name (i := 4) sc_cs.nd rfl (Or.inl rfl)) (pss_one (ps_expr (pml (ok_need T) hr passD (pv 0) T.cl T.me_need (pa_cons (pv 4) pa_nil)))))
      (pss_cons (ps_set (i := 5) sc_cs.nd rfl (Or.inl rfl) (pcl (ok_lo T) hr passD (pa_cons (pe_lc (own := [("branch", 4)]) (g := gName 4) (tt := tYes) (te := tDGet (tFld K (tVar 0) "tags") (tVar 4)) rfl sc_cs.nd (pi_list (pv 3))
          (blkOk_by (own := [("branch", 4)]) (N := ["self", "number", "numbers", "some", "branch", "tag", "tags", "old", "new"]) (sc := d_m_change_stem.scope) (by decide +kernel)) (fun _ _ _ _ _ => pg_name (i := 4) sc_cs.nd rfl (Or.inl rfl)) (fun _ _ _ _ _ => pts_nil)
          (fun _ _ _ _ _ => by exact pe_dget hu (pe_fld (pv 0) rfl) (pv 4) (fun _ _ => rfl))) pa_nil) (T.g "label_over")))
      (pss_cons ps_never (pss_cons ps_never (pss_cons ps_never (pss_cons ps_never (pss_cons ps_never (pss_cons ps_never (pss_cons ps_never (pss_cons ps_never (pss_one ps_never)))))))))))))), ?_⟩
    refine ⟨_, rfl, S.p, _, _, rfl, A1.ob, rfl, _, rfl, S, n, rfl, A1, fun ⟨e, he, en⟩ => ?_, k1⟩
    subst en
    obtain ⟨l0, hkt, _⟩ := kind_at A1 he
    obtain ⟨k21, k22⟩ := k2 e he rfl
    refine A1.gk T rfl rfl he ⟨e.kt, _, 0, _, rfl, rfl, SqT.of hkt, atI_nat (j := 0) rfl, rfl, _, rfl, ?_⟩
    cases ht : e.tw with
    | leaf qs =>
      rw [show (!decide (V.str (Twg.leaf qs).kind = V.str "stem")) = true from (by decide +kernel : (!decide (V.str "leaf" = V.str "stem")) = true)]
      exact iteT (k21 qs ht H (Same.refl H))
    | stem qs =>
      rw [show (!decide (V.str (Twg.stem qs).kind = V.str "stem")) = false from (by decide +kernel : (!decide (V.str "stem" = V.str "stem")) = false)]
      obtain ⟨k3, k4⟩ := k22 qs ht
      refine iteF ⟨_, rfl, S.p, _, _, rfl, A1.ob, rfl, _, rfl, S, e.n, c, rfl, A1, G, ⟨e, he, rfl⟩, fun H0 s0 => ?_⟩
      refine ⟨_, rfl, a, _, rfl, .inl (s0.seq hns), fun l hl => ?_⟩
      have s1 : Same H (upd H0 l (.lst (ns.map V.int))) := s0.trans (same_upd hl)
      have l1 : (upd H0 l (.lst (ns.map V.int))) l = some (.lst (ns.map V.int)) := upd_same
      generalize upd H0 l (.lst (ns.map V.int)) = H1 at s1 l1 ⊢
      have A2 := A1.same s1
      refine ⟨_, rfl, l, rfl, ⟨_, SqL.of l1⟩, for_it walk_list (fun i σ H2 => ∃ z, σ = [some (.ref S.p), some (.int e.n), some (.ref a), some (.ref l), z, none, none, none, none] ∧ H2 = H1 ∧ (ns.take i).find? (fun n => !hasB S.es n) = none)
        ⟨_, rfl, rfl, rfl⟩ (fun i σ H2 _ ⟨_, _, e, _⟩ => by rw [e]; exact SqL.of l1) ?_ ?_⟩
      · rintro i x σ H2 H3 hi ⟨z, rfl, rfl, hf⟩ ⟨rfl, hx⟩
        obtain ⟨n, en, rfl⟩ := ints_at hx
        refine ⟨_, rfl, S.p, _, _, rfl, A2.ob, rfl, _, rfl, S, n, rfl, A2, fun hn => ⟨_, rfl, rfl, find_none_step hf en (by rw [hasB_iff.mpr hn]; rfl)⟩, fun hn => ?_⟩
        have hf2 := find_some_step hf en (by
          cases q : hasB S.es n with
          | false => rfl
          | true => obtain ⟨e, he, ee⟩ := hasB_iff.mp q; exact absurd ee (hn e he))
        intro H' d sd hd
        exact k3 n hf2 H' d (s1.trans sd) hd
      · rintro σ H2 ⟨z, rfl, rfl, hf⟩
        rw [List.length_map, List.take_of_length_le (Nat.le_refl _)] at hf
        have hh := find_no_has hf
        have k5 := k4 hf
        have h2 := hbad hh
        obtain ⟨bs, eb, hbs⟩ := ents_of hh
        subst eb
        refine ⟨_, rfl, l, rfl, ⟨_, SqL.of l1⟩, fun D hD => lc_it walk_list (fun i H4 => Same H2 H4 ∧ ∃ ys, H4 D = some (.lst ys) ∧ DaL H4 ys (((bs.take i).map En.lab).map Lab.D)) ⟨same_upd hD, [], upd_same, .nil⟩ (fun i H4 _ q => SqL.of (q.1 _ _ l1)) ?_ ?_⟩
        · rintro i y H4 H5 hi ⟨s4, ys, hD4, hy4⟩ ⟨rfl, hy⟩
          obtain ⟨n, en, rfl⟩ := ints_at hy
          rw [List.getElem?_map] at en
          obtain ⟨b, eb, rfl⟩ : ∃ b, bs[i]? = some b ∧ b.n = n := by
            cases q : bs[i]? with
            | none => rw [q] at en; cases en
            | some b => rw [q] at en; exact ⟨b, rfl, Option.some.inj en⟩
          have hbm := hbs b (List.mem_of_getElem? eb)
          have A4 := A2.same s4
          refine ⟨rfl, A4.gt T rfl rfl hbm ⟨ys, hD4, ?_, grow_same s4 hD, ys ++ [.ref b.tg], upd_same, ?_⟩⟩
          · have q := hy4.length
            rw [List.length_map, List.length_map, List.length_take] at q
            rw [List.length_map] at hlen
            rw [q, sizeLine_eq]
            omega
          · rw [List.take_add_one, eb, List.map_append, List.map_append]
            exact DaL.updl hD4 (DaL.app hy4 (.cons (A4.tg b hbm) .nil))
        · rintro H4 ⟨s4, ys, hD4, hy4⟩
          rw [List.length_map, List.length_map, List.take_of_length_le (Nat.le_refl _)] at hy4
          have hkd : ∀ l ∈ bs.map En.lab, kdB 3 l.lo = true ∧ kdB 3 l.hi = true := fun l hl => by
            obtain ⟨b, hb2, rfl⟩ := List.mem_map.mp hl
            exact ⟨(G.kd b (hbs b hb2)).1, (G.kd b (hbs b hb2)).2.1⟩
          refine ⟨D, ys, bs.map En.lab, rfl, SqL.of hD4, hy4, hkd, by rw [List.length_map] at hlen ⊢; exact hlen, fun no H5 s5 => k5 H5 (s1.trans (s4.trans s5)), fun ok => ?_⟩
          exfalso
          have q := ok.two
          rw [List.length_map] at q h2
          omega
/-- a new shelf -/
def Sh.new (p dx k t a f sn : Addr) : Sh := ⟨p, dx, k, t, a, f, sn, [], 0, []⟩
def spInit (K : PySem.W.Frag) : Sp := fun vs H Q _ => ∃ (p dx : Addr), vs = [.ref p] ∧ H p = some (.ins (ga K "Shelf") dx []) ∧ ∀ H' k t a f sn, ShelfAt K (Sh.new p dx k t a f sn) H' → Fr (fun b => b = p) H H' → (∀ b, (Sh.new p dx k t a f sn).M b → b = p ∨ H b = none) → Q .non H'
theorem sc_init : FnScope ["self"] ["self"] d_m_init.scope := ⟨rfl, rfl, rfl, by decide +kernel, rfl, by decide +kernel, by decide +kernel⟩
theorem ok_init (T : Tx K mg) : Okd P w K mg base CX0 1 d_m_init ["self"] (spInit K) := by
  refine okd0 T in_m_init sc_init (fun _ _ _ _ _ _ us hl => match us, hl with | [_], _ => rfl) (fun vs H Q E h => ?_) (fun cdv A outer s H vs Q E hr h => ?_)
  · obtain ⟨p, dx, rfl, _⟩ := h
    rfl
  · obtain ⟨p, dx, rfl, hp, k⟩ := h
    refine ⟨_, pss_cons (ps_fld (pv 0) pe_dnewK rfl) (pss_cons (ps_fld (pv 0) pe_dnewK rfl) (pss_cons (ps_fld (pv 0) pe_dnewK rfl) (pss_cons (ps_fld (pv 0) pe_dnewK rfl)
      (pss_cons (ps_fld (pv 0) (pe_lst pa_nil) rfl) (pss_one (ps_fld (pv 0) pe_int rfl)))))), ?_⟩
    intro d1 h1
    have n1 : p ≠ d1 := ne_of_none hp h1
    refine ⟨_, rfl, p, _, dx, _, rfl, (upd_ne n1).trans hp, T.cl, T.na_kept, (show 0 < 1000 by decide), ?_⟩
    have F1 : Fr (fun b => b = p) H (upd (upd H d1 (.dK [])) p (.ins (ga K "Shelf") dx (putF "kept" (.ref d1) []))) := (Fr.of (M := fun b => b = p) (same_upd h1)).put rfl ((upd_ne n1).trans hp) True.intro
    have p1 : (upd (upd H d1 (.dK [])) p (.ins (ga K "Shelf") dx (putF "kept" (.ref d1) []))) p = some (.ins (ga K "Shelf") dx [("kept", .ref d1)]) := upd_same
    have e1 : (upd (upd H d1 (.dK [])) p (.ins (ga K "Shelf") dx (putF "kept" (.ref d1) []))) d1 = some (.dK []) := (upd_ne n1.symm).trans upd_same
    generalize upd (upd H d1 (.dK [])) p (.ins (ga K "Shelf") dx (putF "kept" (.ref d1) [])) = H1 at F1 p1 e1 ⊢
    intro d2 h2
    have n2 : p ≠ d2 := ne_of_none p1 h2
    have n12 : d1 ≠ d2 := ne_of_none e1 h2
    refine ⟨_, rfl, p, _, dx, _, rfl, (upd_ne n2).trans p1, T.cl, T.na_tags, (show 1 < 1000 by decide), ?_⟩
    have F2 : Fr (fun b => b = p) H (upd (upd H1 d2 (.dK [])) p (.ins (ga K "Shelf") dx (putF "tags" (.ref d2) [("kept", .ref d1)]))) := (F1.trans (Fr.of (same_upd h2))).put rfl ((upd_ne n2).trans p1) True.intro
    have p2 : (upd (upd H1 d2 (.dK [])) p (.ins (ga K "Shelf") dx (putF "tags" (.ref d2) [("kept", .ref d1)]))) p = some (.ins (ga K "Shelf") dx [("kept", .ref d1), ("tags", .ref d2)]) := upd_same
    have e12 : (upd (upd H1 d2 (.dK [])) p (.ins (ga K "Shelf") dx (putF "tags" (.ref d2) [("kept", .ref d1)]))) d1 = some (.dK []) := (upd_ne n1.symm).trans ((upd_ne n12).trans e1)
    have e2 : (upd (upd H1 d2 (.dK [])) p (.ins (ga K "Shelf") dx (putF "tags" (.ref d2) [("kept", .ref d1)]))) d2 = some (.dK []) := (upd_ne n2.symm).trans upd_same
    have f2 := F1.free (l := d2) (fun z => n2 z.symm) h2
    generalize upd (upd H1 d2 (.dK [])) p (.ins (ga K "Shelf") dx (putF "tags" (.ref d2) [("kept", .ref d1)])) = H2 at F2 p2 e12 e2 ⊢
    intro d3 h3
    have n3 : p ≠ d3 := ne_of_none p2 h3
    have n13 : d1 ≠ d3 := ne_of_none e12 h3
    have n23 : d2 ≠ d3 := ne_of_none e2 h3
    refine ⟨_, rfl, p, _, dx, _, rfl, (upd_ne n3).trans p2, T.cl, T.na_above, (show 2 < 1000 by decide), ?_⟩
    have F3 : Fr (fun b => b = p) H (upd (upd H2 d3 (.dK [])) p (.ins (ga K "Shelf") dx (putF "above" (.ref d3) [("kept", .ref d1), ("tags", .ref d2)]))) := (F2.trans (Fr.of (same_upd h3))).put rfl ((upd_ne n3).trans p2) True.intro
    have p3 : (upd (upd H2 d3 (.dK [])) p (.ins (ga K "Shelf") dx (putF "above" (.ref d3) [("kept", .ref d1), ("tags", .ref d2)]))) p = some (.ins (ga K "Shelf") dx [("kept", .ref d1), ("tags", .ref d2), ("above", .ref d3)]) := upd_same
    have e13 : (upd (upd H2 d3 (.dK [])) p (.ins (ga K "Shelf") dx (putF "above" (.ref d3) [("kept", .ref d1), ("tags", .ref d2)]))) d1 = some (.dK []) := (upd_ne n1.symm).trans ((upd_ne n13).trans e12)
    have e23 : (upd (upd H2 d3 (.dK [])) p (.ins (ga K "Shelf") dx (putF "above" (.ref d3) [("kept", .ref d1), ("tags", .ref d2)]))) d2 = some (.dK []) := (upd_ne n2.symm).trans ((upd_ne n23).trans e2)
    have e3 : (upd (upd H2 d3 (.dK [])) p (.ins (ga K "Shelf") dx (putF "above" (.ref d3) [("kept", .ref d1), ("tags", .ref d2)]))) d3 = some (.dK []) := (upd_ne n3.symm).trans upd_same
    have f3 := F2.free (l := d3) (fun z => n3 z.symm) h3
    generalize upd (upd H2 d3 (.dK [])) p (.ins (ga K "Shelf") dx (putF "above" (.ref d3) [("kept", .ref d1), ("tags", .ref d2)])) = H3 at F3 p3 e13 e23 e3 ⊢
    intro d4 h4
    have n4 : p ≠ d4 := ne_of_none p3 h4
    have n14 : d1 ≠ d4 := ne_of_none e13 h4
    have n24 : d2 ≠ d4 := ne_of_none e23 h4
    have n34 : d3 ≠ d4 := ne_of_none e3 h4
    refine ⟨_, rfl, p, _, dx, _, rfl, (upd_ne n4).trans p3, T.cl, T.na_freely, (show 3 < 1000 by decide), ?_⟩
    have F4 : Fr (fun b => b = p) H (upd (upd H3 d4 (.dK [])) p (.ins (ga K "Shelf") dx (putF "freely" (.ref d4) [("kept", .ref d1), ("tags", .ref d2), ("above", .ref d3)]))) := (F3.trans (Fr.of (same_upd h4))).put rfl ((upd_ne n4).trans p3) True.intro
    have p4 : (upd (upd H3 d4 (.dK [])) p (.ins (ga K "Shelf") dx (putF "freely" (.ref d4) [("kept", .ref d1), ("tags", .ref d2), ("above", .ref d3)]))) p = some (.ins (ga K "Shelf") dx [("kept", .ref d1), ("tags", .ref d2), ("above", .ref d3), ("freely", .ref d4)]) := upd_same
    have e14 : (upd (upd H3 d4 (.dK [])) p (.ins (ga K "Shelf") dx (putF "freely" (.ref d4) [("kept", .ref d1), ("tags", .ref d2), ("above", .ref d3)]))) d1 = some (.dK []) := (upd_ne n1.symm).trans ((upd_ne n14).trans e13)
    have e24 : (upd (upd H3 d4 (.dK [])) p (.ins (ga K "Shelf") dx (putF "freely" (.ref d4) [("kept", .ref d1), ("tags", .ref d2), ("above", .ref d3)]))) d2 = some (.dK []) := (upd_ne n2.symm).trans ((upd_ne n24).trans e23)
    have e34 : (upd (upd H3 d4 (.dK [])) p (.ins (ga K "Shelf") dx (putF "freely" (.ref d4) [("kept", .ref d1), ("tags", .ref d2), ("above", .ref d3)]))) d3 = some (.dK []) := (upd_ne n3.symm).trans ((upd_ne n34).trans e3)
    have e4 : (upd (upd H3 d4 (.dK [])) p (.ins (ga K "Shelf") dx (putF "freely" (.ref d4) [("kept", .ref d1), ("tags", .ref d2), ("above", .ref d3)]))) d4 = some (.dK []) := (upd_ne n4.symm).trans upd_same
    have f4 := F3.free (l := d4) (fun z => n4 z.symm) h4
    generalize upd (upd H3 d4 (.dK [])) p (.ins (ga K "Shelf") dx (putF "freely" (.ref d4) [("kept", .ref d1), ("tags", .ref d2), ("above", .ref d3)])) = H4 at F4 p4 e14 e24 e34 e4 ⊢
    refine ⟨Nat.zero_le _, fun d5 h5 => ?_⟩
    have n5 : p ≠ d5 := ne_of_none p4 h5
    have n15 : d1 ≠ d5 := ne_of_none e14 h5
    have n25 : d2 ≠ d5 := ne_of_none e24 h5
    have n35 : d3 ≠ d5 := ne_of_none e34 h5
    have n45 : d4 ≠ d5 := ne_of_none e4 h5
    refine ⟨_, rfl, p, _, dx, _, rfl, (upd_ne n5).trans p4, T.cl, T.na_seen, (show 4 < 1000 by decide), ?_⟩
    have f5 := F4.free (l := d5) (fun z => n5 z.symm) h5
    have F5 : Fr (fun b => b = p) H (upd (upd H4 d5 (.lst [])) p (.ins (ga K "Shelf") dx (putF "seen" (.ref d5) [("kept", .ref d1), ("tags", .ref d2), ("above", .ref d3), ("freely", .ref d4)]))) := (F4.trans (Fr.of (same_upd h5))).put rfl ((upd_ne n5).trans p4) True.intro
    refine ⟨_, rfl, p, _, dx, _, rfl, upd_same, T.cl, T.na_given, (show 5 < 1000 by decide), ?_⟩
    refine k _ d1 d2 d3 d4 d5 ⟨upd_same, ?_, ?_, ?_, ?_, ?_, ?_, (fun e he => nomatch he), (fun e he => nomatch he), (fun e he => nomatch he), List.nodup_nil, (fun e he => nomatch he), List.Pairwise.nil, ⟨Nat.zero_le _, Nat.zero_le _⟩⟩ (F5.put rfl upd_same True.intro) ?_
    · exact (upd_ne n5.symm).trans ((upd_ne n5.symm).trans upd_same)
    · exact (upd_ne n1.symm).trans ((upd_ne n1.symm).trans ((upd_ne n15).trans e14))
    · exact (upd_ne n2.symm).trans ((upd_ne n2.symm).trans ((upd_ne n25).trans e24))
    · exact (upd_ne n3.symm).trans ((upd_ne n3.symm).trans ((upd_ne n35).trans e34))
    · exact (upd_ne n4.symm).trans ((upd_ne n4.symm).trans ((upd_ne n45).trans e4))
    · show [d1, d2, d3, d4].Nodup
      simp only [List.nodup_cons, List.mem_cons, List.not_mem_nil, or_false, not_or, List.nodup_nil, and_true, not_false_eq_true]
      exact ⟨⟨n12, n13, n14⟩, ⟨n23, n24⟩, n34⟩
    · rintro b (z | z | z | z | z | z | ⟨e, he, _⟩)
      · exact .inl z
      · exact .inr (by rw [z]; exact h1)
      · exact .inr (by rw [z]; exact f2)
      · exact .inr (by rw [z]; exact f3)
      · exact .inr (by rw [z]; exact f4)
      · exact .inr (by rw [z]; exact f5)
      · cases he
end
end Tw

namespace Tw
open PySem PySem.Spec PyProof.Rows L2 He
/-! ### list(reversed(a list)) -/
section
variable {prog : Program} {w : World} {A : Around} {E : Value → Shared → Prop} {s : Shared}
theorem ext_rev {R : Result → Shared → Prop} {it l : Addr} {items : Array Value} (hh : A.handled = none) (hit : s.heap.IsRevIter it l ((items.size : Int) - 1)) (hl : s.heap.IsList l items) (hne : l ≠ it) (hn : items.size ≤ sizeLine) (S : Addr) (hSi : S ≠ it) (hSl : S ≠ l) (res : Value) (c₀ : Nat)
    (hS : s.heap.get? S = some { cls := .type "list", data := .seq #[] c₀ })
    (hR : ∀ (h' : Heap) (tk : Nat) (acc : Array Value) (c' : Nat), (∀ b o, b ≠ S → b ≠ it → s.heap.get? b = some o → h'.get? b = some o) → h'.get? S = some { cls := .type "list", dict := none, data := .seq acc c', slots := #[] } → ItemsOf (fun i v => items[items.size - 1 - i]? = some v) acc items.size → R (.ok (.ret res)) { s with heap := h', toks := tk }) :
    wpAny (model prog w) A.in1 (Builtin.List.listExtendWith (.ref S) (.ref it) res)
      (fun fin s' => match fin with | .done f => R (.ok f) s' | .again c' => c'.quiet = true ∧ codeAny (model prog w) A c' R s') (fun e s' => R (.error e) s') s := by
  have W := (Walks.listRev (prog := prog) (w := w) (A := A.in1) hh it l hne items).toS
  have hSf : S ∉ [it, l] := by simp only [List.mem_cons, List.not_mem_nil, or_false, not_or]; exact ⟨hSi, hSl⟩
  have hT : s.TypeIs (.ref it) "list_reverseiterator" := hit.typeIs
  have h1 : Builtin.List.listSameRef (.ref S) (.ref it) = false := by simp [Builtin.List.listSameRef, hSi]
  unfold Builtin.List.listExtendWith
  refine wpAny_bind (wpAny_typeOf hT ?_)
  rw [if_neg (by rw [h1]; decide)]
  refine wpAny_bind (wpAny_pyIter_revIter hit ?_)
  refine wpAny_bind (wpAny_holding ?_)
  unfold Builtin.List.listLengthHint
  refine wpAny_bind (wpAny_specialOf hT RT.nolen_lri ?_)
  show wpAny _ A.in1 (specialOf (Value.ref it) (Str.ofString "__length_hint__") >>= _) _ _ _
  refine wpAny_bind (wpAny_specialOf hT RT.hint_lri ?_)
  generalize hid : ("list_reverseiterator.__length_hint__" : String) = id0
  wp_delta
  rw [show splitId id0 = some ("list_reverseiterator", "__length_hint__") from by subst hid; decide +kernel]
  subst hid
  refine wpAny_bind (wpAny_isInstance (b := true) hT (by rw [isSubtype_type]; kernel_rfl) ?_)
  refine wpAny_pure ?_
  rw [if_neg (by decide)]
  have e0 : ((items.size : Nat) : Int) - 1 - ((0 : Nat) : Int) = (items.size : Int) - 1 := by omega
  refine wpAny_pure ⟨plainId_quiet F.plain_extend_loop _, codeAny_extend_loopS W hn _ hSf _ items.size 0 _ _ _ rfl (Nat.zero_le _) ⟨Nat.zero_le _, by rw [e0]; exact hit, hl⟩ hS (ItemsOf.nil _) fun s' acc' c' hm hS' hacc => ?_⟩
  rw [Moved.eq_with hm]
  refine hR s'.heap s'.toks acc' c' (fun b o hb hb2 e => hm.heap b o (fun hmem => ?_) e) hS' hacc
  rcases List.mem_cons.mp hmem with e' | hmem
  · exact hb e'
  · exact hb2 (List.mem_singleton.mp hmem)
theorem init_rev {R : Result → Shared → Prop} {it l : Addr} {items : Array Value} (hh : A.handled = none) (hit : s.heap.IsRevIter it l ((items.size : Int) - 1)) (hl : s.heap.IsList l items) (hne : l ≠ it) (hn : items.size ≤ sizeLine) (S : Addr) (hSi : S ≠ it) (hSl : S ≠ l)
    (hS : s.heap.get? S = some { cls := .type "list", data := .seq #[] })
    (hR : ∀ (h' : Heap) (tk : Nat) (acc : Array Value) (c' : Nat), (∀ b o, b ≠ S → b ≠ it → s.heap.get? b = some o → h'.get? b = some o) → h'.get? S = some { cls := .type "list", dict := none, data := .seq acc c', slots := #[] } → ItemsOf (fun i v => items[items.size - 1 - i]? = some v) acc items.size → R (.ok (.ret .none)) { s with heap := h', toks := tk }) :
    wpAny (model prog w) A.in1 (Builtin.«list.__init__» ⟨[.ref S, .ref it], []⟩)
      (fun fin s' => match fin with | .done f => R (.ok f) s' | .again c' => c'.quiet = true ∧ codeAny (model prog w) A c' R s') (fun e s' => R (.error e) s') s := by
  show wpAny _ _ (do let old ← Builtin.List.listItems (.ref S); Builtin.List.listUpdate (.ref S) (fun _ => #[]); letGo old.toList.reverse; Builtin.List.listExtendWith (.ref S) (.ref it) .none) _ _ s
  refine wpAny_bind ?_
  unfold Builtin.List.listItems
  refine wpAny_bind (wpAny_seqItems hS rfl (wpAny_pure ?_))
  show wpAny _ _ (updateSeq S (fun _ => #[]) >>= fun _ => letGo (#[] : Array Value).toList.reverse >>= fun _ => Builtin.List.listExtendWith (.ref S) (.ref it) .none) _ _ s
  refine wpAny_bind (wpAny_updateSeq hS rfl ?_)
  have hS₂ := Heap.get?_update_self (Obj.mapSeq (fun _ => (#[] : Array Value))) hS rfl
  have oth : ∀ b o, b ≠ S → s.heap.get? b = some o → (s.heap.update S (Obj.mapSeq (fun _ => (#[] : Array Value)))).get? b = some o :=
    fun b o hb e => (Heap.get?_update_other _ _ (Ne.symm hb)).trans e
  refine wpAny_bind (wpAny_letGo ?_)
  refine ext_rev hh (hit.at fun o e => oth it o hSi.symm e) ?_ hne hn S hSi hSl .none _ hS₂ fun h' tk acc' c' hk hS' hacc => ?_
  · obtain ⟨o, e, x⟩ := hl
    exact ⟨o, oth l o hSl.symm e, x⟩
  · exact hR h' tk acc' c' (fun b o hb hb2 e => hk b o hb hb2 (oth b o hb e)) hS' hacc
theorem call_list_rev {it l : Addr} {items : Array Value} {Q : Value → Shared → Prop} (hh : A.handled = none) (hit : s.heap.IsRevIter it l ((items.size : Int) - 1)) (hl : s.heap.IsList l items) (hne : l ≠ it) (hn : items.size ≤ sizeLine)
    (hQ : ∀ (h' : Heap) (tk : Nat) (acc : Array Value) (c' : Nat), (∀ b o, b ≠ it → s.heap.get? b = some o → h'.get? b = some o) → h'.get? s.heap.objs.size = some { cls := .type "list", dict := none, data := .seq acc c', slots := #[] } → ItemsOf (fun i v => items[items.size - 1 - i]? = some v) acc items.size →
      Q (.ref s.heap.objs.size) { s with heap := h', toks := tk }) :
    wpAny (model prog w) A (call (.type "list") [.ref it]) Q E s := by
  obtain ⟨oi, hoi, _⟩ := id hit
  obtain ⟨ol, hol, _⟩ := id hl
  refine callType_codes (Q₁ := fun obj s₁ => obj = .ref s.heap.objs.size ∧ s₁ = { s with heap := s.heap.push { cls := .type "list", data := .seq #[] } }) F.called_list (F.typeCall_list_1 _) F.entry_list_init
    (code_list_new _ ⟨rfl, rfl⟩) fun obj s₁ h₁ => ?_
  obtain ⟨rfl, rfl⟩ := h₁
  have hS : (s.heap.push { cls := .type "list", data := .seq #[] }).get? s.heap.objs.size = some { cls := .type "list", data := .seq #[] } := Heap.get?_push_size _ rfl
  refine ⟨⟨_, hS, rfl⟩, F.args_list_init_2 _ _, init_rev (A := A.in1) hh (hit.at fun o e => Heap.get?_push_of_some _ e) (hl.push _) hne hn _ (Nat.ne_of_gt (Heap.lt_size hoi)) (Nat.ne_of_gt (Heap.lt_size hol)) hS fun h' tk acc' c' hk hS' hacc => ?_⟩
  exact ⟨rfl, hQ h' tk acc' c' (fun b o hb e => hk b o (Nat.ne_of_lt (Heap.lt_size e)) hb (Heap.get?_push_of_some _ e)) hS' hacc⟩
end
def tLstRev (K : PySem.W.Frag) (te : TE) : TE := fun σ H Q => te σ H fun v H1 => ∃ (a : Addr) (xs : List V), v = .ref a ∧ SqL K H1 a xs ∧ ∀ q, H1 q = none → Q (.ref q) (upd H1 q (.lst xs.reverse))
theorem pe_lstRev {X : Cx} {e : Expr} {te : TE} {p p2 pos pos2 : Pos} (hc : X.calm = true) (hg : Gl X "list") (hm : X.mg "list" = none) (hg2 : Gl X "reversed") (hm2 : X.mg "reversed" = none) (he : PE X e te)
    (hs : starEach [e] X.env = (false, eval e X.env) :: starEach [] X.env := by rfl)
    (hs2 : starEach [.Call (.Name "reversed" p2) [e] [] pos2] X.env = (false, eval (.Call (.Name "reversed" p2) [e] [] pos2) X.env) :: starEach [] X.env := by rfl) :
    PE X (.Call (.Name "list" p) [.Call (.Name "reversed" p2) [e] [] pos2] [] pos) (tLstRev X.K te) := by
  refine ⟨fun pins s σ H Q I h => ?_⟩
  refine Call_ (ld_blt I hg hm boot_list (PyProof.Rows.callWith_type1 (args_cons (Call_ (ld_blt I hg2 hm2 PyProof.Rows.boot_reversed (PyProof.Rows.callWith_type1 (args_cons (thn (he.run pins s σ H _ I h) fun u s1 ⟨v, H1, I1, r1, q1⟩ => args_nil ?_) hs) hs rfl))) hs2) hs2 rfl))
  obtain ⟨a, xs, ev, hq, q⟩ := q1
  subst ev
  obtain rfl : u = Value.ref a := r1
  obtain ⟨its, rv, p', hz⟩ := I1.list hq
  refine call_reversed_list p'.isList (args_nil ?_)
  have k0 : ∀ b o, s1.heap.get? b = some o → (s1.heap.push (revObj a ((its.toArray.size : Int) - 1))).get? b = some o := fun b o e => Heap.get?_push_of_some _ e
  have I2 : Inv X pins σ H1 { s1 with heap := s1.heap.push (revObj a ((its.toArray.size : Int) - 1)) } := I1.kept (t' := s1.toks) k0
  obtain ⟨f0, f1, f2, f3, f4, f5⟩ := I1.fpOk (H' := H1) (b := s1.heap.objs.size) (Nat.le_refl _) (I1.hok.fresh (Nat.le_refl _))
  have hl := p'.isList
  obtain ⟨ol, hol, _⟩ := id hl
  have hne : a ≠ s1.heap.objs.size := Nat.ne_of_lt (Heap.lt_size hol)
  have hn : its.toArray.size ≤ sizeLine := by rw [List.size_toArray, ← rv.length]; exact hz
  refine call_list_rev (s := { s1 with heap := s1.heap.push (revObj a ((its.toArray.size : Int) - 1)) }) (I1.ok.hd hc) ⟨_, Heap.get?_push_size _ rfl, rfl, rfl⟩ (hl.push _) hne hn fun h' tk acc c' hk hD hi => ?_
  have k1 : ∀ b o, s1.heap.get? b = some o → h'.get? b = some o := fun b o e => hk b o (Nat.ne_of_lt (Heap.lt_size e)) (k0 b o e)
  have hle : s1.heap.objs.size ≤ (s1.heap.push (revObj a ((its.toArray.size : Int) - 1))).objs.size := by
    show _ ≤ (s1.heap.objs.push _).size
    rw [Array.size_push]
    exact Nat.le_succ _
  refine ⟨.ref (s1.heap.push (revObj a ((its.toArray.size : Int) - 1))).objs.size, upd H1 (s1.heap.push (revObj a ((its.toArray.size : Int) - 1))).objs.size (.lst xs.reverse), I1.laid k1 hle (show ObjOk X.prog X.w _ _ _ (.lst xs.reverse) from ⟨by rw [List.length_reverse]; exact hz, acc.toList, c', RT.vals_rev rv hi, ?_⟩), rfl, q _ (I1.hok.fresh hle)⟩
  rw [Array.toArray_toList]
  exact hD
end Tw

namespace Tw
open PySem PySem.Spec PyProof.Rows L2 He
/-! ### (x,) * 0, (x,) * 1, "a" * 0, "a" * 1 -/
theorem tuple_mul0 (l : Addr) (items : Array Value) (n : Nat) (dd : Option Addr) (sl : Array (Option Value)) (u : Tok) (c1 : items.isEmpty = false) :
    Meets (Builtin.«tuple.__mul__» ⟨[.ref l, .int 0 u], []⟩) (fun _ R s => s.heap.get? l = some { cls := .type "tuple", dict := dd, data := .seq items n, slots := sl } ∧
      R (.ok (.ret (Value.ref s.heap.objs.size))) { s with heap := s.heap.push { cls := Value.type "tuple", data := Data.seq #[] }, toks := s.toks }) :=
  .of_wp fun prog w A R s h => by
    obtain ⟨hp, g, d, tk, os⟩ := s
    obtain ⟨hl, h⟩ := h
    have f1 := AutoSeq1.idx_int
    have c2 : (items.isEmpty || (0 : Int) == 1) = false := by rw [c1]; rfl
    wp_walk using wpAny_loadPart' hl
    repeat (first
      | (refine wpAny_ite_false (decide_eq_false (by decide)) ?_; wp_walk using wpAny_loadPart' hl)
      | (refine wpAny_ite_false (decide_eq_false (by rw [c2]; exact Bool.false_ne_true)) ?_; wp_walk using wpAny_loadPart' hl)
      | (refine wpAny_ite_true (decide_eq_true (by rfl)) ?_; wp_walk using wpAny_loadPart' hl))
    exact ⟨_, rfl, h⟩
theorem tuple_mul1 (l : Addr) (items : Array Value) (n : Nat) (dd : Option Addr) (sl : Array (Option Value)) (u : Tok) :
    Meets (Builtin.«tuple.__mul__» ⟨[.ref l, .int 1 u], []⟩) (fun _ R s => s.heap.get? l = some { cls := .type "tuple", dict := dd, data := .seq items n, slots := sl } ∧
      R (.ok (.ret (Value.ref l))) s) :=
  .of_wp fun prog w A R s h => by
    obtain ⟨hp, g, d, tk, os⟩ := s
    obtain ⟨hl, h⟩ := h
    have f1 := AutoSeq1.idx_int
    have c2 : (items.isEmpty || (1 : Int) == 1) = true := by simp
    wp_walk using wpAny_loadPart' hl
    repeat (first
      | (refine wpAny_ite_false (decide_eq_false (by decide)) ?_; wp_walk using wpAny_loadPart' hl)
      | (refine wpAny_ite_true (decide_eq_true (by rw [c2])) ?_; wp_walk using wpAny_loadPart' hl))
    exact ⟨_, rfl, h⟩
def rRep01 (K : PySem.W.Frag) : R2 := fun x y H Q => ∃ l k xs, x = .ref l ∧ y = .int k ∧ SqT K H l xs ∧ xs ≠ [] ∧ ((k = 0 ∧ ∀ p, H p = none → Q (.ref p) (upd H p (.tup []))) ∨ (k = 1 ∧ Q (.ref l) H))
section
variable {X : Cx}
theorem op_rep01 : OpR X (binaryOp .Mult) (rRep01 X.K) := by
  intro pins s σ H x y v u Q I rx ry h
  obtain ⟨l, k, xs, rfl, rfl, hT, hne, h⟩ := h
  cases rx
  obtain ⟨t, rfl⟩ := ry
  obtain ⟨its, r, ⟨⟨cls, dd, data, sl⟩, ho, hc, n, hd⟩, hs⟩ := I.tuple hT
  simp only at hc hd
  subst hc hd
  have hle : its.length = xs.length := r.length.symm
  have hn : its ≠ [] := fun e => hne (by
    rw [e] at hle
    exact List.eq_nil_of_length_eq_zero hle.symm)
  have hi : its.toArray.isEmpty = false := by
    cases its with
    | nil => exact absurd rfl hn
    | cons a b => rfl
  rcases h with ⟨rfl, q⟩ | ⟨rfl, q⟩
  · refine wpAny_binaryOp_repeat_ref (T := "tuple") (U := "int") (by decide) ⟨_, ho, rfl⟩ (fun s' => typeIs_int s' 0 t) noFill_tuple_mul F.fills_int_mul F.slot_int_rmul repeat_tuple F.slot_int_index.lookup
      (call_meets F.slot_int_rmul (typeIs_int s 0 t) F.entry_int_rmul (F.args_int_rmul_2 _ _) (int_rmul_tuple 0 t l its.toArray n dd sl)
        ⟨ho, rfl, ⟨_, ho, rfl⟩, call_meets F.slot_tuple_mul ⟨_, ho, rfl⟩ F.entry_tuple_mul (F.args_tuple_mul_2 _ _) (tuple_mul0 l its.toArray n dd sl t hi) ⟨ho, ?_⟩⟩)
    refine ⟨.ref s.heap.objs.size, _, I.laid (t' := s.toks) (o := .tup []) (fun b ob q => Heap.get?_push_of_some _ q) (Nat.le_refl _) ?_, rfl, q _ (I.hok.fresh (Nat.le_refl _))⟩
    exact ⟨Nat.zero_le _, [], .nil, IsTup.new _ _⟩
  · refine wpAny_binaryOp_repeat_ref (T := "tuple") (U := "int") (by decide) ⟨_, ho, rfl⟩ (fun s' => typeIs_int s' 1 t) noFill_tuple_mul F.fills_int_mul F.slot_int_rmul repeat_tuple F.slot_int_index.lookup
      (call_meets F.slot_int_rmul (typeIs_int s 1 t) F.entry_int_rmul (F.args_int_rmul_2 _ _) (int_rmul_tuple 1 t l its.toArray n dd sl)
        ⟨ho, rfl, ⟨_, ho, rfl⟩, call_meets F.slot_tuple_mul ⟨_, ho, rfl⟩ F.entry_tuple_mul (F.args_tuple_mul_2 _ _) (tuple_mul1 l its.toArray n dd sl t) ⟨ho, ?_⟩⟩)
    exact ⟨.ref l, H, I, rfl, q⟩
def rRepS : R2 := fun x y H Q => ∃ z k, x = .str z ∧ y = .int k ∧ ((k = 0 ∧ Q (.str Str.empty) H) ∨ (k = 1 ∧ Q (.str z) H))
theorem op_repS : OpR X (binaryOp .Mult) rRepS := by
  intro pins s σ H x y v u Q I rx ry h
  obtain ⟨z, k, rfl, rfl, h⟩ := h
  obtain ⟨t0, rfl⟩ := rx
  obtain ⟨t, rfl⟩ := ry
  rcases h with ⟨rfl, q⟩ | ⟨rfl, q⟩
  · exact P.mul_str_none (by decide) (by decide) ⟨.str Str.empty, H, I.tok _, ⟨_, rfl⟩, q⟩
  · exact P.mul_str (by decide) (fun _ h => absurd h (by simp)) (fun _ h => absurd h (by simp)) (by
      rw [if_neg (by decide), if_pos (by simp)]
      exact ⟨.str z, H, I, ⟨_, rfl⟩, q⟩)
/-! ### max(a list of ints, default=-1) -/
theorem reads_int {h : Heap} {v : Value} {n : Int} {as : List Addr} (r : Reads h v (.int n) as) : ∃ t, v = .int n t := by
  cases r
  exact ⟨_, rfl⟩
def rMaxD (K : PySem.W.Frag) : List V → List V → Hp → VK → Prop := fun xs zs H Q => ∃ (a : Addr) (ns : List Int) (d : Int), xs = [.ref a] ∧ zs = [.int d] ∧ SqL K H a (ns.map V.int) ∧ (ns = [] → Q (.int d) H) ∧ ∀ m, m ∈ ns → (∀ y, y ∈ ns → y ≤ m) → Q (.int m) H
theorem alike_ints (ns : List Int) : PySem.W.AlikeAll (ns.map PyData.int) := ⟨fun x hx y hy => by
    obtain ⟨i, _, rfl⟩ := List.mem_map.mp hx
    obtain ⟨j, _, rfl⟩ := List.mem_map.mp hy
    exact al_int i j, fun x hx => by
    obtain ⟨i, _, rfl⟩ := List.mem_map.mp hx
    exact fun z => nomatch z⟩
theorem foldl_max_mem : ∀ (ns : List Int) (n : Int), ns.foldl max n ∈ n :: ns ∧ ∀ y ∈ n :: ns, y ≤ ns.foldl max n
  | [], n => ⟨List.mem_singleton.mpr rfl, fun y hy => by rw [List.mem_singleton.mp hy]; exact Int.le_refl _⟩
  | k :: ns, n => by
    obtain ⟨h1, h2⟩ := foldl_max_mem ns (max n k)
    refine ⟨?_, fun y hy => ?_⟩
    · show ns.foldl max (max n k) ∈ _
      rcases List.mem_cons.mp h1 with q | q
      · rw [q]
        rcases Int.le_total n k with z | z
        · rw [Int.max_eq_right z]; simp
        · rw [Int.max_eq_left z]; simp
      · exact List.mem_cons_of_mem _ (List.mem_cons_of_mem _ q)
    · show y ≤ ns.foldl max (max n k)
      have h3 := h2 (max n k) List.mem_cons_self
      rcases List.mem_cons.mp hy with q | q
      · rw [q]; exact Int.le_trans (Int.le_max_left _ _) h3
      · rcases List.mem_cons.mp q with q | q
        · rw [q]; exact Int.le_trans (Int.le_max_right _ _) h3
        · exact h2 y (List.mem_cons_of_mem _ q)
theorem cr_maxDef (hc : X.calm = true) (hu : X.A.units + 1 < cLine) : CallRK X (.builtin "max") [Str.ofString "default"] (rMaxD X.K) := by
  intro pins s σ H vs zs us ws Q I r rz h
  obtain ⟨a, ns, d, rfl, rfl, hs, q0, q⟩ := h
  obtain ⟨its, rv, hl, _⟩ := I.list hs
  rw [Vals.ref1 r]
  obtain ⟨w1, rfl, e1⟩ := vals1 rz
  obtain ⟨t1, rfl⟩ := e1
  obtain ⟨as, hr⟩ := Dp.readsAll I (ns.map PyData.int) _ _ ((DaL.ints (H := H) ns).dp _ _) rv
  refine PySem.W.max_list_default (as := as) (I.ok.hd hc) hl.isList (by exact hr) (alike_ints ns) (by rw [PySem.W.depth_ints]; exact hu) (fun e h' tk hk => ?_) (fun y ys i v h' tk bs e hv hr' hk => ?_)
  · have e' : ns = [] := by
      cases ns with
      | nil => rfl
      | cons n ns => cases e
    exact ⟨.int d, H, I.kept (t' := tk) hk, ⟨_, rfl⟩, q0 e'⟩
  · cases ns with
    | nil => cases e
    | cons n ns =>
      cases e
      rw [PySem.W.maxD_ints] at hr'
      obtain ⟨t, rfl⟩ := reads_int hr'
      obtain ⟨m1, m2⟩ := foldl_max_mem ns n
      exact ⟨.int _, H, I.kept (t' := tk) hk, ⟨_, rfl⟩, q _ m1 m2⟩
end
end Tw

namespace Tw
open PySem PySem.Spec PyProof.Rows L2 He
/-! ### the well -/
def WellAt (wl : Addr) (H : Hp) : Prop := ∃ a b c d : Int, H wl = some (.lst [.int a, .int b, .int c, .int d]) ∧ 0 ≤ a ∧ a < 4294967296 ∧ 0 ≤ b ∧ 0 ≤ c ∧ 0 ≤ d ∧ b + d ≤ 1000000
theorem WellAt.sq {K : PySem.W.Frag} {wl : Addr} {H : Hp} (h : WellAt wl H) : ∃ xs, H wl = some (.lst xs) := by
  obtain ⟨a, b, c, d, e, _⟩ := h
  exact ⟨_, e⟩
theorem WellAt.fr {M : Addr → Prop} {wl : Addr} {H H' : Hp} (h : WellAt wl H) (k : Fr M H H') (hm : ¬ M wl) : WellAt wl H' := by
  obtain ⟨a, b, c, d, e, r⟩ := h
  exact ⟨a, b, c, d, k.at hm e, r⟩
theorem WellAt.same {wl : Addr} {H H' : Hp} (h : WellAt wl H) (k : Same H H') : WellAt wl H' := h.fr (M := M0) (Fr.of k) fun z => z
section
variable {P : Program} {w : World} {K : PySem.W.Frag} {mg : Str → Option Value} {base : Heap}
def spPull : Sp := fun vs H Q _ => ∃ (wl : Addr) (m : Int), vs = [.ref wl, .int m] ∧ WellAt wl H ∧ 1 ≤ m ∧ m ≤ 1000000 ∧ ∀ r H', 0 ≤ r → r < m → WellAt wl H' → Fr (fun b => b = wl) H H' → Q (.int r) H'
theorem sc_pull : FnScope ["_law_well_here", "_law_many", "_law_found", "_law_first", "_law_second"] ["_law_well_here", "_law_many"] d_l_pull.scope := ⟨rfl, rfl, rfl, by decide +kernel, rfl, by decide +kernel, by decide +kernel⟩
theorem ok_pull (T : Tx K mg) : Okd P w K mg base CX0 1 d_l_pull ["_law_well_here", "_law_many"] spPull := by
  refine okd0 T in_l_pull sc_pull (fun _ _ _ _ _ _ us hl => match us, hl with | [_, _], _ => rfl) (fun vs H Q E h => ?_) (fun cdv A outer s H vs Q E hr h => ?_)
  · obtain ⟨wl, m, rfl, _⟩ := h
    rfl
  · obtain ⟨wl, m, rfl, ⟨a, b, c, d, hw, ha, ha2, hb, hc, hd, hbd⟩, hm1, hm2, k⟩ := h
    refine ⟨_, pss_cons (ps_if (pt_cmpR op_eq (pe_ix ix_list (pv 0) pe_int (fun _ _ => rfl)) pe_int (nomark _)) (pss_one (ps_ret pe_int)) pss_nil)
      (pss_cons (ps_asg (pe_op op_sub (pe_ix ix_list (pv 0) pe_int (fun _ _ => rfl)) pe_int) (pg_sub (pv 0) pe_int set_list))
      (pss_cons (ps_if (pt_cmpR op_gt (pe_ix ix_list (pv 0) pe_int (fun _ _ => rfl)) pe_int (nomark _))
        (pss_cons (ps_set (i := 2) sc_pull.nd rfl (Or.inl rfl) (pe_op op_mod (pe_ix ix_list (pv 0) pe_int (fun _ _ => rfl)) (pv 1)))
        (pss_cons (ps_asg (pe_op op_fdiv (pe_ix ix_list (pv 0) pe_int (fun _ _ => rfl)) (pv 1)) (pg_sub (pv 0) pe_int set_list))
        (pss_one (ps_ret (pv 2))))) pss_nil)
      (pss_cons (ps_asg (pe_op op_add (pe_ix ix_list (pv 0) pe_int (fun _ _ => rfl)) pe_int) (pg_sub (pv 0) pe_int set_list))
      (pss_cons (ps_set (i := 3) sc_pull.nd rfl (Or.inl rfl) (pe_op op_mod (pe_op op_mul (pe_op op_add (pe_ix ix_list (pv 0) pe_int (fun _ _ => rfl)) pe_int) (pe_op op_add pe_int (pe_op op_mul pe_int (pe_ix ix_list (pv 0) pe_int (fun _ _ => rfl))))) pe_int))
      (pss_cons (ps_set (i := 4) sc_pull.nd rfl (Or.inl rfl) (pe_op op_mod (pe_op op_mul (pe_op op_add (pe_op op_fdiv (pv 3) pe_int) pe_int) (pe_op op_add (pe_op op_mod (pv 3) pe_int) pe_int)) pe_int))
      (pss_one (ps_ret (pe_op op_mod (pe_op op_fdiv (pv 4) pe_int) (pv 1))))))))), ?_⟩
    refine ⟨_, rfl, wl, _, 3, .int d, rfl, rfl, SqL.of hw, rfl, rfl, _, rfl, ?_⟩
    by_cases z : d = 0
    · rw [show decide (V.int d = V.int 0) = true from decide_eq_true (by rw [z])]
      exact iteT (k 0 H (by omega) (by omega) ⟨a, b, c, d, hw, ha, ha2, hb, hc, hd, hbd⟩ (Fr.refl H))
    rw [show decide (V.int d = V.int 0) = false from decide_eq_false (fun q => z (V.int.inj q))]
    refine iteF ⟨_, rfl, wl, _, 3, .int d, rfl, rfl, SqL.of hw, rfl, _, _, rfl, rfl, ?_⟩
    refine ⟨_, rfl, wl, _, 3, 3, rfl, rfl, hw, rfl, ?_⟩
    have F1 : Fr (fun b => b = wl) H (upd H wl (.lst (([.int a, .int b, .int c, .int d] : List V).set 3 (.int (d - 1))))) := (Fr.refl H).put rfl hw True.intro
    have w1 : (upd H wl (.lst (([.int a, .int b, .int c, .int d] : List V).set 3 (.int (d - 1))))) wl = some (.lst [.int a, .int b, .int c, .int (d - 1)]) := upd_same
    generalize upd H wl (.lst (([.int a, .int b, .int c, .int d] : List V).set 3 (.int (d - 1)))) = H1 at F1 w1 ⊢
    refine ⟨_, rfl, wl, _, 2, .int c, rfl, rfl, SqL.of w1, rfl, _, _, rfl, rfl, _, rfl, ite2 (fun h1 => ?_) (fun h1 => ?_)⟩
    · have hc1 : 0 < c := of_decide_eq_true h1
      refine ⟨_, rfl, wl, _, 2, .int c, rfl, rfl, SqL.of w1, rfl, _, rfl, _, _, rfl, rfl, show 0 < m by omega, ?_⟩
      refine ⟨_, rfl, wl, _, 2, .int c, rfl, rfl, SqL.of w1, rfl, _, rfl, _, _, rfl, rfl, ⟨show 0 < m by omega, show m < 1073741824 by omega⟩, _, rfl, wl, _, 2, 2, rfl, rfl, w1, rfl, ?_⟩
      refine ⟨_, rfl, k _ _ (Int.emod_nonneg c (by omega)) (Int.emod_lt_of_pos c (by omega)) ⟨a, b, c / m, d - 1, upd_same, ha, ha2, hb, Int.ediv_nonneg (by omega) (by omega), by omega, by omega⟩ (F1.put rfl w1 True.intro)⟩
    · refine ⟨_, rfl, wl, _, 1, .int b, rfl, rfl, SqL.of w1, rfl, _, _, rfl, rfl, _, rfl, wl, _, 1, 1, rfl, rfl, w1, rfl, ?_⟩
      have F2 : Fr (fun b => b = wl) H (upd H1 wl (.lst (([.int a, .int b, .int c, .int (d - 1)] : List V).set 1 (.int (b + 1))))) := F1.put rfl w1 True.intro
      have w2 : (upd H1 wl (.lst (([.int a, .int b, .int c, .int (d - 1)] : List V).set 1 (.int (b + 1))))) wl = some (.lst [.int a, .int (b + 1), .int c, .int (d - 1)]) := upd_same
      generalize upd H1 wl (.lst (([.int a, .int b, .int c, .int (d - 1)] : List V).set 1 (.int (b + 1)))) = H2 at F2 w2 ⊢
      refine ⟨_, rfl, wl, _, 0, .int a, rfl, rfl, SqL.of w2, rfl, _, _, rfl, rfl, _, rfl, wl, _, 1, .int (b + 1), rfl, rfl, SqL.of w2, rfl, _, _, rfl, rfl, .inl ⟨by omega, by omega⟩, _, _, rfl, rfl, _, _, rfl, rfl, .inl ⟨by omega, by omega⟩, _, _, rfl, rfl, (show (0 : Int) < 2147483629 by decide), ?_⟩
      refine ⟨_, rfl, _, _, rfl, rfl, ⟨by decide, by decide⟩, _, _, rfl, rfl, _, rfl, _, _, rfl, rfl, (show (0 : Int) < 1009 by decide), _, _, rfl, rfl, _, _, rfl, rfl, .inl ?_, _, _, rfl, rfl, (show (0 : Int) < 1000000007 by decide), ?_⟩
      · have q1 := Int.emod_nonneg ((a + 1) * (48271 + 7919 * (b + 1))) (show (2147483629 : Int) ≠ 0 by decide)
        have q2 := Int.emod_lt_of_pos ((a + 1) * (48271 + 7919 * (b + 1))) (show (0 : Int) < 2147483629 by decide)
        exact ⟨by omega, by omega⟩
      · refine ⟨_, rfl, _, _, rfl, rfl, ⟨by decide, by decide⟩, _, rfl, _, _, rfl, rfl, show 0 < m by omega, ?_⟩
        exact k _ _ (Int.emod_nonneg _ (by omega)) (Int.emod_lt_of_pos _ (by omega)) ⟨a, b + 1, c, d - 1, w2, ha, ha2, by omega, hc, by omega, by omega⟩ F2
def spPick : Sp := fun vs H Q _ => ∃ (wl l : Addr) (ns : List Int), vs = [.ref wl, .ref l] ∧ WellAt wl H ∧ H l = some (.lst (ns.map V.int)) ∧ l ≠ wl ∧ 1 ≤ ns.length ∧ ns.length ≤ 1000 ∧ ∀ n H', n ∈ ns → WellAt wl H' → Fr (fun b => b = wl) H H' → Q (.int n) H'
theorem sc_pick : FnScope ["_law_well_here", "_law_some"] ["_law_well_here", "_law_some"] d_l_picked.scope := ⟨rfl, rfl, rfl, by decide +kernel, rfl, by decide +kernel, by decide +kernel⟩
theorem ok_pick (T : Tx K mg) : Okd P w K mg base CX0 2 d_l_picked ["_law_well_here", "_law_some"] spPick := by
  refine okd0 T in_l_picked sc_pick (fun _ _ _ _ _ _ us hl => match us, hl with | [_, _], _ => rfl) (fun vs H Q E h => ?_) (fun cdv A outer s H vs Q E hr h => ?_)
  · obtain ⟨wl, l, ns, rfl, _⟩ := h
    rfl
  · obtain ⟨wl, l, ns, rfl, W, hl, hne, h1, h2, k⟩ := h
    refine ⟨_, pss_one (ps_ret (pe_ix ix_list (pv 1) (pcl (ok_pull T) hr pass0 (pa_cons (pv 0) (pa_cons (pe_callB call_len_seq (by rfl) (T.f "len") PySem.boot_len (pa_cons (pv 1) pa_nil)) pa_nil)) (T.g "_law_pull")) (fun _ _ => rfl))), ?_⟩
    refine ⟨_, rfl, _, rfl, _, rfl, l, _, rfl, .inl (SqL.of hl), wl, _, rfl, W, by rw [List.length_map]; omega, by rw [List.length_map]; omega, fun r H' r0 rm W' F' => ?_⟩
    rw [List.length_map] at rm
    obtain ⟨j, rfl⟩ := Int.eq_ofNat_of_zero_le r0
    have hj : j < ns.length := by omega
    refine ⟨l, _, _, .int ns[j], rfl, rfl, SqL.of (F'.at hne hl), atI_nat (by rw [List.getElem?_map, List.getElem?_eq_getElem hj]; rfl), k _ _ (List.getElem_mem hj) W' F'⟩
end
end Tw

namespace Tw
open PySem PySem.Spec PyProof.Rows L2 He
/-! ### the law's state -/
structure LS where
  S : Sh
  aT : Addr
  aH : Addr
  aG : Addr
  aL : Addr
  tl : List Int
  gd : List PyData
  lt : Int → Addr
  ll : Int → Addr
/-- all stays but lists, dicts, instances at M, and tables -/
def FrN (M : Addr → Prop) (H H' : Hp) : Prop := ∀ b o, H b = some o → (∀ ps, o ≠ .tbl ps) → H' b = some o ∨ (M b ∧ Mt o)
theorem Fr.n {M : Addr → Prop} {H H' : Hp} (h : Fr M H H') : FrN M H H' := fun b o e _ => h b o e
theorem FrN.of {M : Addr → Prop} {H H' : Hp} (h : LamX.ExtN H H') : FrN M H H' := fun b o e n => .inl (h b o e n)
theorem FrN.refl {M : Addr → Prop} (H : Hp) : FrN M H H := fun _ _ h _ => .inl h
theorem FrN.trans {M : Addr → Prop} {H H1 H2 : Hp} (a : FrN M H H1) (b : FrN M H1 H2) : FrN M H H2 := fun c o h n => by
  rcases a c o h n with h1 | h1
  · exact b c o h1 n
  · exact .inr h1
theorem FrN.mono {M N : Addr → Prop} {H H' : Hp} (h : FrN M H H') (k : ∀ b o, H b = some o → M b → N b) : FrN N H H' := fun b o e n => (h b o e n).imp id fun z => ⟨k b o e z.1, z.2⟩
theorem FrN.and {M N : Addr → Prop} {H H1 H2 : Hp} (a : FrN M H H1) (b : FrN N H1 H2) (k : ∀ c o, H c = some o → N c → M c) : FrN M H H2 := fun c o h n => by
  rcases a c o h n with h1 | h1
  · exact (b c o h1 n).imp id fun z => ⟨k c o h z.1, z.2⟩
  · exact .inr h1
theorem FrN.at {M : Addr → Prop} {H H' : Hp} (h : FrN M H H') {b : Addr} {o : HO} (hm : ¬ M b) (e : H b = some o) (n : ∀ ps, o ≠ .tbl ps) : H' b = some o := (h b o e n).resolve_right fun z => hm z.1
theorem FrN.tup {M : Addr → Prop} {H H' : Hp} (h : FrN M H H') {b : Addr} {xs : List V} (e : H b = some (.tup xs)) : H' b = some (.tup xs) := (h b _ e fun _ z => nomatch z).resolve_right fun z => z.2
theorem FrN.lst {M : Addr → Prop} {H H' : Hp} (h : FrN M H H') {b : Addr} {xs : List V} (hm : ¬ M b) (e : H b = some (.lst xs)) : H' b = some (.lst xs) := h.at hm e fun _ z => nomatch z
theorem FrN.dK {M : Addr → Prop} {H H' : Hp} (h : FrN M H H') {b : Addr} {kv : List (Key × V)} (hm : ¬ M b) (e : H b = some (.dK kv)) : H' b = some (.dK kv) := h.at hm e fun _ z => nomatch z
theorem Da.frn {M : Addr → Prop} {H H' : Hp} (k : FrN M H H') {d : PyData} {v : V} (h : Da H v d) : Da H' v d := Da.ext (fun _ _ e => k.tup e) d v h
theorem DaL.frn {M : Addr → Prop} {H H' : Hp} (k : FrN M H H') {ds : List PyData} {vs : List V} (h : DaL H vs ds) : DaL H' vs ds := DaL.ext (fun _ _ e => k.tup e) ds vs h
theorem ShelfAt.of_frn {K : PySem.W.Frag} {S : Sh} {M : Addr → Prop} {H H' : Hp} (A : ShelfAt K S H) (k : FrN M H H') (hm : ∀ b, S.M b → ¬ M b) : ShelfAt K S H' where
  ob := k.at (hm _ (.inl rfl)) A.ob fun _ z => nomatch z
  se := k.lst (hm _ (.inr (.inr (.inr (.inr (.inr (.inl rfl))))))) A.se
  ke := k.dK (hm _ (.inr (.inl rfl))) A.ke
  ta := k.dK (hm _ (.inr (.inr (.inl rfl)))) A.ta
  av := k.dK (hm _ (.inr (.inr (.inr (.inl rfl))))) A.av
  fr := k.dK (hm _ (.inr (.inr (.inr (.inr (.inl rfl)))))) A.fr
  nd := A.nd
  kt := fun e he => (A.kt e he).frn k
  tg := fun e he => (A.tg e he).frn k
  ab := fun e he => k.lst (hm _ (.inr (.inr (.inr (.inr (.inr (.inr ⟨e, he, rfl⟩))))))) (A.ab e he)
  nab := A.nab
  sab := A.sab
  inc := A.inc
  small := A.small
theorem WellAt.frn {M : Addr → Prop} {wl : Addr} {H H' : Hp} (h : WellAt wl H) (k : FrN M H H') (hm : ¬ M wl) : WellAt wl H' := by
  obtain ⟨a, b, c, d, e, r⟩ := h
  exact ⟨a, b, c, d, k.lst hm e, r⟩
structure LawAt (K : PySem.W.Frag) (L : LS) (H : Hp) : Prop where
  sh : ShelfAt K L.S H
  tw : H L.aT = some (.dK (dict (fun e => .ref (L.lt e.n)) L.S.es))
  hl : H L.aH = some (.dK (dict (fun e => .int e.hd) L.S.es))
  tp : ∀ e ∈ L.S.es, H (L.lt e.n) = some (.tup [.str e.tw.kind, .ref (L.ll e.n)])
  li : ∀ e ∈ L.S.es, ∃ xs, H (L.ll e.n) = some (.lst xs) ∧ DaL H xs e.tw.items
  gr : ∃ xs, H L.aG = some (.lst xs) ∧ DaL H xs L.gd
  to : H L.aL = some (.lst (L.tl.map V.int))
  nT : ¬ L.S.M L.aT
  nH : ¬ L.S.M L.aH
  nG : ¬ L.S.M L.aG
  nL : ¬ L.S.M L.aL
  nl : ∀ e ∈ L.S.es, ¬ L.S.M (L.ll e.n)
  TH : L.aT ≠ L.aH
  GL : L.aG ≠ L.aL
  lL : ∀ e ∈ L.S.es, L.ll e.n ≠ L.aL
def LS.M (L : LS) : Addr → Prop := fun b => L.S.M b ∨ b = L.aT ∨ b = L.aH ∨ b = L.aG ∨ b = L.aL ∨ ∃ e ∈ L.S.es, b = L.ll e.n
section
variable {K : PySem.W.Frag} {L : LS} {H H' : Hp}
theorem LawAt.of_frn {M : Addr → Prop} (A : LawAt K L H) (k : FrN M H H') (hm : ∀ b, L.M b → ¬ M b) : LawAt K L H' where
  sh := A.sh.of_frn k fun b hb => hm b (.inl hb)
  tw := k.dK (hm _ (.inr (.inl rfl))) A.tw
  hl := k.dK (hm _ (.inr (.inr (.inl rfl)))) A.hl
  tp := fun e he => k.tup (A.tp e he)
  li := fun e he => by
    obtain ⟨xs, h1, h2⟩ := A.li e he
    exact ⟨xs, k.lst (hm _ (.inr (.inr (.inr (.inr (.inr ⟨e, he, rfl⟩)))))) h1, h2.frn k⟩
  gr := by
    obtain ⟨xs, h1, h2⟩ := A.gr
    exact ⟨xs, k.lst (hm _ (.inr (.inr (.inr (.inl rfl))))) h1, h2.frn k⟩
  to := k.lst (hm _ (.inr (.inr (.inr (.inr (.inl rfl)))))) A.to
  nT := A.nT
  nH := A.nH
  nG := A.nG
  nL := A.nL
  nl := A.nl
  TH := A.TH
  GL := A.GL
  lL := A.lL
theorem LawAt.of_fr {M : Addr → Prop} (A : LawAt K L H) (k : Fr M H H') (hm : ∀ b, L.M b → ¬ M b) : LawAt K L H' := A.of_frn k.n hm
theorem LawAt.same (A : LawAt K L H) (k : Same H H') : LawAt K L H' := A.of_fr (M := M0) (Fr.of k) fun _ _ z => z
/-- what M is, is there -/
theorem LawAt.there (A : LawAt K L H) {b : Addr} (h : L.M b) : ∃ o, H b = some o := by
  rcases h with h | h | h | h | h | ⟨e, he, h⟩
  · have S := A.sh
    rcases h with h | h | h | h | h | h | ⟨e, he, h⟩
    · exact ⟨_, by rw [h]; exact S.ob⟩
    · exact ⟨_, by rw [h]; exact S.ke⟩
    · exact ⟨_, by rw [h]; exact S.ta⟩
    · exact ⟨_, by rw [h]; exact S.av⟩
    · exact ⟨_, by rw [h]; exact S.fr⟩
    · exact ⟨_, by rw [h]; exact S.se⟩
    · exact ⟨_, by rw [h]; exact S.ab e he⟩
  · exact ⟨_, by rw [h]; exact A.tw⟩
  · exact ⟨_, by rw [h]; exact A.hl⟩
  · obtain ⟨xs, h1, _⟩ := A.gr
    exact ⟨_, by rw [h]; exact h1⟩
  · exact ⟨_, by rw [h]; exact A.to⟩
  · obtain ⟨xs, h1, _⟩ := A.li e he
    exact ⟨_, by rw [h]; exact h1⟩
theorem LawAt.no (A : LawAt K L H) {b : Addr} (h : H b = none) : ¬ L.M b := fun z => by
  obtain ⟨o, e⟩ := A.there z
  rw [h] at e
  cases e
/-- twigs[n] -/
theorem LawAt.gT (A : LawAt K L H) {e : En} (he : e ∈ L.S.es) : DGet H L.aT (.int e.n) (some (.ref (L.lt e.n))) := by
  rw [← valV_dict (F := fun e => V.ref (L.lt e.n)) A.sh.inc he]
  exact DGet.k (k := Sum.inl e.n) A.tw
theorem LawAt.gH (A : LawAt K L H) {e : En} (he : e ∈ L.S.es) : DGet H L.aH (.int e.n) (some (.int e.hd)) := by
  rw [← valV_dict (F := fun e => V.int e.hd) A.sh.inc he]
  exact DGet.k (k := Sum.inl e.n) A.hl
end
/-! ### the rows under a twig -/
theorem neqv_nil (ns : List Int) : (!PyData.eqv (.list (ns.map PyData.int)) (.list [])) = !ns.isEmpty := by rw [eqv_nil]
theorem ints_of {H : Hp} : ∀ {ns : List Int} {xs : List V}, DaL H xs (ns.map PyData.int) → xs = ns.map V.int
  | [], _, h => by cases h; rfl
  | n :: ns, _, h => by
    cases h with
    | cons h1 h2 => rw [h1.int_of, ints_of h2]; rfl
theorem sz_sum_pos {es : List En} {g : Int} {c : Nat} (G : Good es g c) : ∀ {bs : List En}, (∀ b ∈ bs, b ∈ es) → bs.length ≤ (bs.map En.sz).sum
  | [], _ => Nat.le_refl _
  | b :: bs, h => by
    have h1 := sz_sum_pos G (bs := bs) fun x hx => h x (List.mem_cons_of_mem _ hx)
    have h2 : 1 ≤ b.sz := by
      have hb := h b List.mem_cons_self
      cases ht : b.tw with
      | leaf rs => rw [(G.lf b hb rs ht).2.2.2.2.2]; exact Nat.le_refl _
      | stem ns =>
        obtain ⟨qs, _, _, _, _, _, _, q⟩ := G.st b hb ns ht
        rw [q]
        omega
    show bs.length + 1 ≤ b.sz + (bs.map En.sz).sum
    omega
theorem pow_le9 {h : Int} {c : Nat} (h1 : 0 ≤ h) (h2 : h ≤ c) (hc : c ≤ 8) : 4 ^ (h.toNat + 1) ≤ 262144 := by
  have : h.toNat ≤ 8 := by omega
  exact Nat.le_trans (Nat.pow_le_pow_right (by decide) (show h.toNat + 1 ≤ 9 by omega)) (by decide)
section
variable {P : Program} {w : World} {K : PySem.W.Frag} {mg : Str → Option Value} {base : Heap}
def spRows (K : PySem.W.Frag) : Sp := fun vs H Q _ => ∃ (L : LS) (c : Nat) (e : En), vs = [.ref L.aT, .int e.n] ∧ LawAt K L H ∧ Good L.S.es L.S.g c ∧ c ≤ 8 ∧ e ∈ L.S.es ∧
  ∀ H' p xs, Same H H' → H p = none → H' p = some (.lst xs) → DaL H' xs (e.rw.map rowD) → Q (.ref p) H'
theorem sc_rows : FnScope ["_law_twigs", "_law_number", "_law_todo", "_law_found", "_law_kind", "_law_what"] ["_law_twigs", "_law_number"] d_l_rows_of.scope := ⟨rfl, rfl, rfl, by decide +kernel, rfl, by decide +kernel, by decide +kernel⟩
theorem ok_rows (T : Tx K mg) : Okd P w K mg base CX0 1 d_l_rows_of ["_law_twigs", "_law_number"] (spRows K) := by
  refine okd0 T in_l_rows_of sc_rows (fun _ _ _ _ _ _ us hl => match us, hl with | [_, _], _ => rfl) (fun vs H Q E h => ?_) (fun cdv A outer s H vs Q E hr h => ?_)
  · obtain ⟨L, c, e, rfl, _⟩ := h
    rfl
  · obtain ⟨L, c, e, rfl, A1, G, hc, he, k⟩ := h
    have hu := hu_of hr
    refine ⟨_, pss_cons (ps_set (i := 2) sc_rows.nd rfl (Or.inl rfl) (pe_lst (pa_cons (pv 1) pa_nil)))
      (pss_cons (ps_set (i := 3) sc_rows.nd rfl (Or.inl rfl) (pe_lst pa_nil))
      (pss_cons (ps_while PassesOwn.never (pt_cmpR (op_neD hr.units) (pv 2) (pe_lst pa_nil) (nomark _))
        (pss_cons (ps_asg (pe_dget hu (pv 0) (pe_bm0 PySem.F.plainAttrs_list PySem.F.slot_list_pop PySem.F.type_list_pop mt_pop (pv 2)) (fun _ _ => rfl)) (pg_tup rfl (pgs_cons (pg_name (i := 4) sc_rows.nd rfl (Or.inl rfl)) (pgs_cons (pg_name (i := 5) sc_rows.nd rfl (Or.inl rfl)) pgs_nil))))
        (pss_one (ps_if (pt_cmpR op_eq (pv 4) pe_str (nomark _))
          (pss_one (ps_set (i := 3) sc_rows.nd rfl (Or.inl rfl) (pe_op op_cat (pv 3) (pe_callTy call_list_of (by rfl) (T.f "list") (by decide +kernel) (pa_cons (pv 5) pa_nil)))))
          (pss_one (ps_set (i := 2) sc_rows.nd rfl (Or.inl rfl) (pe_op op_cat (pv 2) (pe_lstRev rfl (by rfl) (T.f "list") (by rfl) (T.f "reversed") (pv 5)))))))))
      (pss_one (ps_ret (pv 3))))), ?_⟩
    refine ⟨_, rfl, small100 (by simp), fun t0 ht0 => ⟨Nat.zero_le _, fun f0 hf0 => ?_⟩⟩
    have s1 : Same H (upd H t0 (.lst [.int e.n])) := same_upd ht0
    have hf00 : H f0 = none := (Fr.of (M := M0) s1).free (fun z => z) hf0
    have s2 : Same H (upd (upd H t0 (.lst [.int e.n])) f0 (.lst [])) := s1.trans (same_upd hf0)
    have t2 : (upd (upd H t0 (.lst [.int e.n])) f0 (.lst [])) t0 = some (.lst [.int e.n]) := (upd_ne (ne_of_none (o := .lst [.int e.n]) upd_same hf0)).trans upd_same
    have f2 : (upd (upd H t0 (.lst [.int e.n])) f0 (.lst [])) f0 = some (.lst []) := upd_same
    generalize upd (upd H t0 (.lst [.int e.n])) f0 (.lst []) = H2 at s2 t2 f2 ⊢
    have hbd := G.bd e he
    have hp9 := pow_le9 hbd.1 hbd.2.1 hc
    refine ⟨fun m σ H3 => ∃ (bs : List En) (dn : List Row) (ys : List V) (tt ff : Addr) (u v : Option V), σ = [some (.ref L.aT), some (.int e.n), some (.ref tt), some (.ref ff), u, v] ∧ Same H H3 ∧ H tt = none ∧ H ff = none ∧ tt ≠ ff ∧ H3 tt = some (.lst ((bs.map En.n).map V.int)) ∧ H3 ff = some (.lst ys) ∧
      DaL H3 ys (dn.map rowD) ∧ (∀ b ∈ bs, b ∈ L.S.es) ∧ dn ++ bs.reverse.flatMap En.rw = e.rw ∧ (bs.map En.sz).sum = m ∧ m ≤ e.sz, ⟨_, [e], [], [], t0, f0, none, none, rfl, s2, ht0, hf00, ne_of t2 f2 (fun z => by cases z), t2, f2, .nil, fun b hb => by rw [List.mem_singleton.mp hb]; exact he, by simp, by simp, Nat.le_refl _⟩, ?_⟩
    rintro m σ H3 ⟨bs, dn, ys, tt, ff, u, v, rfl, s3, htt, hff, hne, h3t, h3f, hda, hbs, hrw, hm, hme⟩
    refine ⟨_, rfl, Nat.zero_le _, fun q hq => ?_⟩
    have s34 : Same H3 (upd H3 q (.lst [])) := same_upd hq
    refine ⟨.list ((bs.map En.n).map PyData.int), .list [], dp_ints (SqL.of (s34 _ _ h3t)), .lst (SqL.of upd_same) .nil, shaped_ints _, shaped_ints [], _, rfl, ?_⟩
    rw [neqv_nil]
    have h4t := s34 _ _ h3t
    have h4f := s34 _ _ h3f
    have hda4 := hda.same s34
    have s4 := s3.trans s34
    generalize upd H3 q (.lst []) = H4 at h4t h4f hda4 s4 ⊢
    rcases List.eq_nil_or_concat bs with hb | ⟨bs0, b, hb⟩
    · subst hb
      refine iteF ⟨_, rfl, k _ ff ys s4 hff h4f ?_⟩
      rw [← hrw]
      simpa using hda4
    · rw [List.concat_eq_append] at hb
      subst hb
      rw [show (!((bs0 ++ [b]).map En.n).isEmpty) = true by simp]
      have hb : b ∈ L.S.es := hbs b (by simp)
      have hbs0 : ∀ x ∈ bs0, x ∈ L.S.es := fun x hx => hbs x (by simp [hx])
      have hm2 : (bs0.map En.sz).sum + b.sz = m := by rw [← hm]; simp
      have hszb : 1 ≤ b.sz := by
        have := sz_sum_pos G (bs := [b]) fun x hx => by rw [List.mem_singleton.mp hx]; exact hb
        simpa using this
      have hrw2 : dn ++ (b.rw ++ bs0.reverse.flatMap En.rw) = e.rw := by rw [← hrw]; simp
      refine iteT ⟨_, fun σ' H' h => h, ?_⟩
      have A4 := A1.same s4
      have dl : (((bs0 ++ [b]).map En.n).map V.int).dropLast = (bs0.map En.n).map V.int := by simp
      have s5 : Same H (upd H4 tt (.lst (((bs0 ++ [b]).map En.n).map V.int).dropLast)) := grow_same s4 htt
      have t5 : (upd H4 tt (.lst (((bs0 ++ [b]).map En.n).map V.int).dropLast)) tt = some (.lst ((bs0.map En.n).map V.int)) := by rw [upd_same, dl]
      have f5 : (upd H4 tt (.lst (((bs0 ++ [b]).map En.n).map V.int).dropLast)) ff = some (.lst ys) := (upd_ne hne.symm).trans h4f
      have d5 : DaL (upd H4 tt (.lst (((bs0 ++ [b]).map En.n).map V.int).dropLast)) ys (dn.map rowD) := DaL.ext (fun x zs z => (upd_ne (ne_of z h4t fun q => nomatch q)).trans z) _ _ hda4
      have lastq : ((((bs0 ++ [b]).map En.n).map V.int))[((((bs0 ++ [b]).map En.n).map V.int)).length - 1]? = some (.int b.n) := by simp
      refine ⟨_, rfl, _, rfl, .inl ⟨rfl, _, SqL.of h4t⟩, tt, _, .int b.n, rfl, rfl, h4t, lastq, ?_⟩
      generalize upd H4 tt (.lst (((bs0 ++ [b]).map En.n).map V.int).dropLast) = H5 at s5 t5 f5 d5 ⊢
      have A5 := A1.same s5
      refine ⟨L.aT, _, rfl, A5.gT hb, L.lt b.n, _, rfl, SqT.of (A5.tp b hb), rfl, _, _, rfl, _, _, rfl, rfl, ?_⟩
      obtain ⟨xs, hxs, hdx⟩ := A5.li b hb
      refine ⟨_, rfl, rfl, _, rfl, ?_⟩
      have lys := d5.length
      rw [List.length_map] at lys
      have hrl : dn.length + b.rw.length ≤ e.rw.length := by rw [← hrw2, List.length_append, List.length_append]; omega
      have hrb := hbd.2.2.1
      have hsb := hbd.2.2.2
      cases ht : b.tw with
      | leaf rs =>
        rw [show decide (V.str (Twg.leaf rs).kind = V.str "leaf") = true from (by decide +kernel : decide (V.str "leaf" = V.str "leaf") = true)]
        rw [ht] at hdx
        have hrs := (G.lf b hb rs ht).2.2.2.2.1
        have lxs := hdx.length
        have lxs2 : xs.length = rs.length := by rw [lxs]; exact List.length_map ..
        refine iteT ⟨_, rfl, _, rfl, L.ll b.n, xs, rfl, .inl (SqL.of hxs), fun l hl => ?_⟩
        have s6 : Same H5 (upd H5 l (.lst xs)) := same_upd hl
        refine ⟨ff, l, ys, xs, rfl, rfl, s6 _ _ f5, upd_same, by rw [lys, lxs2, ← hrs, sizeLine_eq]; omega, fun p hp => ?_⟩
        have s7 : Same H5 (upd (upd H5 l (.lst xs)) p (.lst (ys ++ xs))) := s6.trans (same_upd hp)
        have hpn : H p = none := (Fr.of (M := M0) (s5.trans s6)).free (fun z => z) hp
        refine ⟨(bs0.map En.sz).sum, by omega, bs0, dn ++ rs, ys ++ xs, tt, p, _, _, rfl, s5.trans s7, htt, hpn, ne_of_none (s6 _ _ t5) hp, s7 _ _ t5, upd_same, ?_, hbs0, ?_, rfl, by omega⟩
        · rw [List.map_append]
          exact DaL.app (d5.same s7) (hdx.same s7)
        · rw [← hrs, List.append_assoc]
          exact hrw2
      | stem ns =>
        rw [show decide (V.str (Twg.stem ns).kind = V.str "leaf") = false from (by decide +kernel : decide (V.str "stem" = V.str "leaf") = false)]
        rw [ht] at hdx
        have exs := ints_of hdx
        subst exs
        obtain ⟨bs', e1, e2, e3, e4, e5, e6, e7⟩ := G.st b hb ns ht
        have hl1 := sz_sum_pos G hbs0
        have lns : ns.length = bs'.length := by rw [← e1]; exact List.length_map ..
        refine iteF ⟨_, rfl, _, rfl, L.ll b.n, _, rfl, SqL.of hxs, fun l hl => ?_⟩
        have s6 : Same H5 (upd H5 l (.lst (ns.map V.int).reverse)) := same_upd hl
        refine ⟨tt, l, _, _, rfl, rfl, s6 _ _ t5, upd_same, by rw [List.length_map, List.length_map, List.length_reverse, List.length_map, lns, sizeLine_eq]; omega, fun p hp => ?_⟩
        have s7 : Same H5 (upd (upd H5 l (.lst (ns.map V.int).reverse)) p (.lst ((bs0.map En.n).map V.int ++ (ns.map V.int).reverse))) := s6.trans (same_upd hp)
        have hpn : H p = none := (Fr.of (M := M0) (s5.trans s6)).free (fun z => z) hp
        have em : (bs'.reverse.map En.sz).sum = (bs'.map En.sz).sum := by rw [List.map_reverse, List.sum_reverse]
        refine ⟨((bs0 ++ bs'.reverse).map En.sz).sum, ?_, bs0 ++ bs'.reverse, dn, ys, p, ff, _, _, rfl, s5.trans s7, hpn, hff, (ne_of_none (s6 _ _ f5) hp).symm, ?_, s7 _ _ f5, d5.same s7, fun x hx => ?_, ?_, rfl, ?_⟩
        · rw [List.map_append, List.sum_append, em]
          omega
        · rw [upd_same, ← e1, List.map_append, List.map_append, List.map_reverse, List.map_reverse]
        · rcases List.mem_append.mp hx with z | z
          · exact hbs0 x z
          · exact e2 x (by simpa using z)
        · rw [List.reverse_append, List.reverse_reverse, List.flatMap_append, ← e6]
          exact hrw2
        · rw [List.map_append, List.sum_append, em]
          omega
end
end Tw

namespace Tw
open PySem PySem.Spec PyProof.Rows L2 He
section
variable {P : Program} {w : World} {K : PySem.W.Frag} {mg : Str → Option Value} {base : Heap}
theorem qcast {α : Sort _} {P : α → Hp → Prop} {b a : α} {H : Hp} (h : P b H) (e : b = a) : P a H := e ▸ h
theorem lf_h {es : List En} {g : Int} {c : Nat} (G : Good es g c) {e : En} (he : e ∈ es) {rs : List Row} (h : e.tw = .leaf rs) : e.lab.h = 0 := (G.lf e he rs h).2.2.2.1
theorem st_first {es : List En} {g : Int} {c : Nat} (G : Good es g c) {e : En} (he : e ∈ es) {ns : List Int} (h : e.tw = .stem ns) : ∃ b ∈ es, ∃ r, ns = b.n :: r ∧ b.lab.h + 1 = e.lab.h := by
  obtain ⟨bs, e1, e2, e3, e4, e5, e6, e7⟩ := G.st e he ns h
  cases bs with
  | nil => simp at e3
  | cons b bs => exact ⟨b, e2 b List.mem_cons_self, bs.map En.n, e1.symm, e5 b List.mem_cons_self⟩
def spLbl (K : PySem.W.Frag) : Sp := fun vs H Q _ => ∃ (L : LS) (c : Nat) (e : En), vs = [.ref L.aT, .int e.n] ∧ LawAt K L H ∧ Good L.S.es L.S.g c ∧ c ≤ 8 ∧ e ∈ L.S.es ∧ ∀ H' v, Same H H' → Da H' v e.lab.D → Q v H'
theorem sc_lbl : FnScope ["_law_twigs", "_law_number", "_law_here", "_law_high", "_law_rows"] ["_law_twigs", "_law_number"] d_l_label.scope := ⟨rfl, rfl, rfl, by decide +kernel, rfl, by decide +kernel, by decide +kernel⟩
theorem ok_lbl (T : Tx K mg) : Okd P w K mg base CX0 2 d_l_label ["_law_twigs", "_law_number"] (spLbl K) := by
  refine okd0 T in_l_label sc_lbl (fun _ _ _ _ _ _ us hl => match us, hl with | [_, _], _ => rfl) (fun vs H Q E h => ?_) (fun cdv A outer s H vs Q E hr h => ?_)
  · obtain ⟨L, c, e, rfl, _⟩ := h
    rfl
  · obtain ⟨L, c, e, rfl, A1, G, hc, he, k⟩ := h
    have hu := hu_of hr
    refine ⟨_, pss_cons (ps_set (i := 2) sc_lbl.nd rfl (Or.inl rfl) (pv 1))
      (pss_cons (ps_set (i := 3) sc_lbl.nd rfl (Or.inl rfl) pe_int)
      (pss_cons (ps_while PassesOwn.never (pt_cmpR op_eq (pe_ix ix_tup (pe_dget hu (pv 0) (pv 2) (fun _ _ => rfl)) pe_int (fun _ _ => rfl)) pe_str (nomark _))
        (pss_cons (ps_set (i := 2) sc_lbl.nd rfl (Or.inl rfl) (pe_ix ix_list (pe_ix ix_tup (pe_dget hu (pv 0) (pv 2) (fun _ _ => rfl)) pe_int (fun _ _ => rfl)) pe_int (fun _ _ => rfl)))
        (pss_one (ps_set (i := 3) sc_lbl.nd rfl (Or.inl rfl) (pe_op op_add (pv 3) pe_int)))))
      (pss_cons (ps_set (i := 4) sc_lbl.nd rfl (Or.inl rfl) (pcl (ok_rows T) hr pass0 (pa_cons (pv 0) (pa_cons (pv 1) pa_nil)) (T.g "_law_rows_of")))
      (pss_one (ps_ret (pe_tup (pa_cons (pv 3) (pa_cons (pe_ix ix_tup (pe_ix ix_list (pv 4) pe_int (fun _ _ => rfl)) pe_int (fun _ _ => rfl))
        (pa_cons (pe_ix ix_tup (pe_ix ix_list (pv 4) (pe_un un_neg pe_int) (fun _ _ => rfl)) pe_int (fun _ _ => rfl)) (pa_cons (pe_callB call_len_seq (by rfl) (T.f "len") PySem.boot_len (pa_cons (pv 4) pa_nil)) pa_nil)))))))))), ?_⟩
    refine ⟨_, rfl, fun m σ H2 => ∃ e2 ∈ L.S.es, ∃ i : Int, σ = [some (.ref L.aT), some (.int e.n), some (.int e2.n), some (.int i), none] ∧ H2 = H ∧ i + e2.lab.h = e.lab.h ∧ e2.lab.h.toNat = m, ⟨_, e, he, 0, rfl, rfl, by omega, rfl⟩, ?_⟩
    rintro m σ H2 ⟨e2, he2, i, rfl, rfl, hi, rfl⟩
    refine ⟨_, rfl, _, rfl, L.aT, _, rfl, A1.gT he2, L.lt e2.n, _, 0, _, rfl, rfl, SqT.of (A1.tp e2 he2), atI_nat (j := 0) rfl, rfl, _, rfl, ?_⟩
    cases ht : e2.tw with
    | stem ns =>
      rw [show decide (V.str (Twg.stem ns).kind = V.str "stem") = true from (by decide +kernel : decide (V.str "stem" = V.str "stem") = true)]
      obtain ⟨b, hb, r, en, hbh⟩ := st_first G he2 ht
      obtain ⟨xs, hxs, hdx⟩ := A1.li e2 he2
      rw [ht] at hdx
      have exs := ints_of hdx
      subst exs
      subst en
      have h0 := (G.bd b hb).1
      refine iteT ⟨_, fun σ' H' h => h, ?_⟩
      refine ⟨_, rfl, _, rfl, L.aT, _, rfl, A1.gT he2, L.lt e2.n, _, 1, _, rfl, rfl, SqT.of (A1.tp e2 he2), atI_nat (j := 1) rfl, L.ll e2.n, _, 0, _, rfl, rfl, SqL.of hxs, atI_nat (j := 0) rfl, ?_⟩
      exact ⟨_, rfl, _, _, rfl, rfl, b.lab.h.toNat, by omega, b, hb, i + 1, rfl, rfl, by omega, rfl⟩
    | leaf rs =>
      rw [show decide (V.str (Twg.leaf rs).kind = V.str "stem") = false from (by decide +kernel : decide (V.str "leaf" = V.str "stem") = false)]
      have h0 := lf_h G he2 ht
      have ei : i = e.lab.h := by omega
      subst ei
      refine iteF ⟨_, rfl, _, rfl, L, c, e, rfl, A1, G, hc, he, fun H3 p xs s3 hp hp3 hdx => ?_⟩
      obtain ⟨r, rs', erw, elo, ehi, en⟩ := G.lb e he
      rw [erw] at hdx
      have lx := hdx.length
      rw [List.length_map] at lx
      obtain ⟨y1, e1, d1⟩ := rows_get (i := 0) hdx rfl
      obtain ⟨y2, e2', d2⟩ := rows_get hdx (last_get r rs')
      obtain ⟨t1, a1, b1, rfl, ht1, da1, _⟩ := row_of d1
      obtain ⟨t2, a2, b2, rfl, ht2, da2, _⟩ := row_of d2
      rw [← lx] at e2'
      refine ⟨_, rfl, _, rfl, p, xs, 0, .ref t1, rfl, rfl, SqL.of hp3, atI_nat (j := 0) e1, t1, _, 0, a1, rfl, rfl, SqT.of ht1, atI_nat (j := 0) rfl, ?_⟩
      refine ⟨_, rfl, 1, rfl, p, xs, -1, .ref t2, rfl, rfl, SqL.of hp3, atI_m1 e2', t2, _, 0, a2, rfl, rfl, SqT.of ht2, atI_nat (j := 0) rfl, ?_⟩
      refine ⟨_, rfl, p, xs, rfl, .inl (SqL.of hp3), small100 (by simp), fun q hq => ?_⟩
      have s4 : Same H3 (upd H3 q (.tup [.int e.lab.h, a1, a2, .int (xs.length : Int)])) := same_upd hq
      refine k _ _ (s3.trans s4) (.tup upd_same (.cons (.int _) (.cons ?_ (.cons ?_ (.cons ?_ .nil)))))
      · rw [elo]; exact da1.same s4
      · rw [ehi]; exact da2.same s4
      · rw [lx, en]; exact .int _
/-! ### the stems above -/
def spAbv (K : PySem.W.Frag) : Sp := fun vs H Q _ => ∃ (L : LS) (n : Int), vs = [.ref L.aT, .int n] ∧ LawAt K L H ∧ ∀ H' p, Same H H' → H p = none → H' p = some (.lst (((L.S.es.filter fun s => s.tw.has n).map En.n).map V.int)) → Q (.ref p) H'
theorem sc_abv : FnScope ["_law_twigs", "_law_number", "_law_one"] ["_law_twigs", "_law_number"] d_l_above.scope := ⟨rfl, rfl, rfl, by decide +kernel, rfl, by decide +kernel, by decide +kernel⟩
theorem inV_ints (n : Int) (ns : List Int) : inV (.int n) (ns.map V.int) = ns.contains n := by
  unfold inV
  rw [List.any_map, List.contains_eq_any_beq]
  congr 1
  funext x
  show (x == n) = (n == x)
  exact BEq.comm
theorem flat_ints (ns : List Int) : (ns.map V.int).all flatV = true := by
  rw [List.all_map, List.all_eq_true]
  intro x _
  rfl
theorem ok_abv (T : Tx K mg) : Okd P w K mg base CX0 1 d_l_above ["_law_twigs", "_law_number"] (spAbv K) := by
  refine okd0 T in_l_above sc_abv (fun _ _ _ _ _ _ us hl => match us, hl with | [_, _], _ => rfl) (fun vs H Q E h => ?_) (fun cdv A outer s H vs Q E hr h => ?_)
  · obtain ⟨L, n, rfl, _⟩ := h
    rfl
  · obtain ⟨L, n, rfl, A1, k⟩ := h
    have hu := hu_of hr
    refine ⟨_, pss_one (ps_ret (pe_lc (own := [("_law_one", 2)]) (g := gName 2) (tt := tAnd (tTest (tOp rEq (tOp (rIxT K) (tDGet (tVar 0) (tVar 2)) (tC (.int 0))) (tC (.str "stem")))) (tTest (tOp (rIn K false) (tVar 1) (tOp (rIxT K) (tDGet (tVar 0) (tVar 2)) (tC (.int 1)))))) (te := tVar 2) rfl sc_abv.nd
        (pi_list (pe_callB (call_sortedDI rfl) (by rfl) (T.f "sorted") (by decide +kernel) (pa_cons (pv 0) pa_nil)))
        (blkOk_by (own := [("_law_one", 2)]) (N := ["_law_twigs", "_law_number", "_law_one"]) (sc := d_l_above.scope) (by decide +kernel)) (fun _ _ _ _ _ => pg_name (i := 2) sc_abv.nd rfl (Or.inl rfl))
        (fun _ _ _ _ _ => by exact pts_one (PW.pt (pw_and (pt_cmpR op_eq (pe_ix ix_tup (pe_dget hu (pv 0) (pv 2) (fun _ _ => rfl)) pe_int (fun _ _ => rfl)) pe_str (nomark _)) (pw_and1 (pt_cmpR op_in_seq (pv 1) (pe_ix ix_tup (pe_dget hu (pv 0) (pv 2) (fun _ _ => rfl)) pe_int (fun _ _ => rfl)) (by rfl))))))
        (fun _ _ _ _ _ => by exact pv 2))), ?_⟩
    refine ⟨_, rfl, L.aT, _, L.S.es.map En.n, rfl, .inl A1.tw, dict_keys _ _, ?_, fun ys p hp hs hn => ?_⟩
    · rw [List.length_map]
      have := A1.sh.small.1
      omega
    rw [nums_sorted A1.sh.inc hp hs]
    have s1 : Same H (upd H p (.lst ((L.S.es.map En.n).map V.int))) := same_upd hn
    refine ⟨p, rfl, ⟨_, SqL.of upd_same⟩, fun D hD => lc_it walk_list (fun i H2 => Same (upd H p (.lst ((L.S.es.map En.n).map V.int))) H2 ∧ H2 D = some (.lst ((((L.S.es.take i).filter fun s => s.tw.has n).map En.n).map V.int))) ⟨same_upd hD, by rw [upd_same]; rfl⟩ (fun i H2 _ q => SqL.of (q.1 _ _ upd_same)) ?_ ?_⟩
    · rintro i y H2 H3 hi ⟨s2, hD2⟩ ⟨rfl, hy⟩
      obtain ⟨m, em, rfl⟩ := ints_at hy
      rw [List.getElem?_map] at em
      obtain ⟨b, eb, rfl⟩ : ∃ b, L.S.es[i]? = some b ∧ b.n = m := by
        cases q : L.S.es[i]? with
        | none => rw [q] at em; cases em
        | some b => rw [q] at em; exact ⟨b, rfl, Option.some.inj em⟩
      have hb : b ∈ L.S.es := List.mem_of_getElem? eb
      have A3 := A1.same (s1.trans s2)
      have stp : ∀ q : Bool, b.tw.has n = q → ((L.S.es.take (i + 1)).filter fun s => s.tw.has n) = ((L.S.es.take i).filter fun s => s.tw.has n) ++ (if q then [b] else []) := fun q e => by
        rw [List.take_add_one, eb, List.filter_append]
        congr 1
        show [b].filter _ = _
        rw [List.filter_cons, e]
        cases q <;> rfl
      refine ⟨rfl, _, rfl, _, rfl, L.aT, _, rfl, A3.gT hb, L.lt b.n, _, 0, _, rfl, rfl, SqT.of (A3.tp b hb), atI_nat (j := 0) rfl, rfl, _, rfl, ?_⟩
      cases ht : b.tw with
      | leaf rs =>
        rw [show decide (V.str (Twg.leaf rs).kind = V.str "stem") = false from (by decide +kernel : decide (V.str "leaf" = V.str "stem") = false)]
        refine iteF (iteF ⟨s2, ?_⟩)
        rw [stp false (by rw [ht]; rfl), hD2]
        simp
      | stem ns =>
        rw [show decide (V.str (Twg.stem ns).kind = V.str "stem") = true from (by decide +kernel : decide (V.str "stem" = V.str "stem") = true)]
        obtain ⟨xs, hxs, hdx⟩ := A3.li b hb
        rw [ht] at hdx
        have exs := ints_of hdx
        subst exs
        refine iteT ⟨_, rfl, _, rfl, _, rfl, L.aT, _, rfl, A3.gT hb, L.lt b.n, _, 1, _, rfl, rfl, SqT.of (A3.tp b hb), atI_nat (j := 1) rfl, L.ll b.n, _, rfl, .inl (SqL.of hxs), rfl, flat_ints ns, _, rfl, ?_⟩
        show (if inV (.int n) (ns.map V.int) = true then _ else _)
        rw [inV_ints]
        cases hcn : ns.contains n with
        | true =>
          refine iteT ⟨_, rfl, _, hD2, ?_, grow_same s2 hD, ?_⟩
          · rw [List.length_map, List.length_map, sizeLine_eq]
            have h1 : ((L.S.es.take i).filter fun s => s.tw.has n).length ≤ (L.S.es.take i).length := List.length_filter_le _ _
            have h2 := A1.sh.small.1
            rw [List.length_take] at h1
            omega
          · rw [upd_same, stp true (by rw [ht]; exact hcn), List.map_append, List.map_append]
            rfl
        | false =>
          refine iteF ⟨s2, ?_⟩
          rw [stp false (by rw [ht]; exact hcn), hD2]
          simp
    · rintro H2 ⟨s2, hD2⟩
      rw [List.length_map, List.length_map, List.take_of_length_le (Nat.le_refl _)] at hD2
      exact k H2 D (s1.trans s2) ((Fr.of (M := M0) s1).free (fun z => z) hD) hD2
/-! ### who is shared: nobody -/
def spShr (K : PySem.W.Frag) : Sp := fun vs H Q _ => ∃ (L : LS) (c : Nat) (e : En), vs = [.ref L.aT, .ref L.aH, .int e.n] ∧ LawAt K L H ∧ Good L.S.es L.S.g c ∧ e ∈ L.S.es ∧ ∀ H', Same H H' → Q .non H'
theorem sc_shr : FnScope ["_law_twigs", "_law_holds", "_law_number", "_law_here", "_law_stems"] ["_law_twigs", "_law_holds", "_law_number"] d_l_shared.scope := ⟨rfl, rfl, rfl, by decide +kernel, rfl, by decide +kernel, by decide +kernel⟩
theorem ok_shr (T : Tx K mg) : Okd P w K mg base CX0 2 d_l_shared ["_law_twigs", "_law_holds", "_law_number"] (spShr K) := by
  refine okd0 T in_l_shared sc_shr (fun _ _ _ _ _ _ us hl => match us, hl with | [_, _, _], _ => rfl) (fun vs H Q E h => ?_) (fun cdv A outer s H vs Q E hr h => ?_)
  · obtain ⟨L, c, e, rfl, _⟩ := h
    rfl
  · obtain ⟨L, c, e, rfl, A1, G, he, k⟩ := h
    have hu := hu_of hr
    refine ⟨_, pss_cons (ps_set (i := 3) sc_shr.nd rfl (Or.inl rfl) (pv 2))
      (pss_one (ps_while PassesOwn.never (pt_val pe_bl)
        (pss_cons (ps_set (i := 4) sc_shr.nd rfl (Or.inl rfl) (pcl (ok_abv T) hr pass0 (pa_cons (pv 0) (pa_cons (pv 3) pa_nil)) (T.g "_law_above")))
        (pss_cons (ps_if (pt_cmpR op_ne (pe_op op_add (pe_callB call_len_seq (by rfl) (T.f "len") PySem.boot_len (pa_cons (pv 4) pa_nil)) (pe_dget hu (pv 1) (pv 3) (fun _ _ => rfl))) pe_int (nomark _)) (pss_one (ps_ret (pv 3))) pss_nil)
        (pss_cons (ps_if (pt_cmpR (op_eqD hr.units) (pv 4) (pe_lst pa_nil) (nomark _)) (pss_one (ps_ret pe_non)) pss_nil)
        (pss_one (ps_set (i := 3) sc_shr.nd rfl (Or.inl rfl) (pe_ix ix_list (pv 4) pe_int (fun _ _ => rfl))))))))), ?_⟩
    refine ⟨_, rfl, fun m σ H2 => ∃ e2 ∈ L.S.es, ∃ u, σ = [some (.ref L.aT), some (.ref L.aH), some (.int e.n), some (.int e2.n), u] ∧ Same H H2 ∧ (L.S.g - e2.n).toNat = m, ⟨_, e, he, _, rfl, Same.refl H, rfl⟩, ?_⟩
    rintro m σ H2 ⟨e2, he2, u, rfl, s2, rfl⟩
    refine ⟨true, rfl, iteT ⟨_, fun σ' H' h => h, ?_⟩⟩
    have A2 := A1.same s2
    refine ⟨_, rfl, _, rfl, L, e2.n, rfl, A2, fun H3 p s3 hp hp3 => ?_⟩
    have A3 := A2.same s3
    rw [← G.upm e2 he2] at hp3
    have h1 : ((e2.up.length : Int) + e2.hd) = 1 := by
      rcases G.one e2 he2 with ⟨a, b⟩ | ⟨s', a, b⟩
      · rw [a, b]; rfl
      · rw [a, b]; rfl
    refine ⟨_, rfl, p, _, rfl, .inl (SqL.of hp3), _, rfl, _, rfl, L.aH, _, rfl, A3.gH he2, _, _, rfl, rfl, rfl, false, ?_, ?_⟩
    · show V.bl (!decide (V.int (((e2.up.map V.int).length : Int) + e2.hd) = V.int 1)) = V.bl false
      rw [List.length_map, h1]
      rfl
    refine iteF ⟨_, rfl, Nat.zero_le _, fun q hq => ?_⟩
    have s4 : Same H3 (upd H3 q (.lst [])) := same_upd hq
    refine ⟨.list (e2.up.map PyData.int), .list [], dp_ints (SqL.of (s4 _ _ hp3)), .lst (SqL.of upd_same) .nil, shaped_ints _, shaped_ints [], _, rfl, ?_⟩
    rw [eqv_nil]
    rcases G.one e2 he2 with ⟨a, b⟩ | ⟨s', a, b⟩
    · rw [a]
      exact iteT (k _ (s2.trans (s3.trans s4)))
    · rw [a] at hp3 ⊢
      obtain ⟨e4, he4, e4n, lt⟩ := stem_above G he2 a
      have h2 := G.rng e2 he2
      have h4 := G.rng e4 he4
      refine iteF ⟨_, rfl, p, _, 0, .int s', rfl, rfl, SqL.of (s4 _ _ hp3), atI_nat (j := 0) rfl, (L.S.g - e4.n).toNat, by omega, e4, he4, some (.ref p), ?_, s2.trans (s3.trans s4), rfl⟩
      rw [← e4n]
      rfl
/-! ### counts, alike things -/
def spCnt : Sp := fun vs H Q _ => ∃ n : Int, vs = [.int n, .int n] ∧ Q (.bl true) H
theorem sc_cnt : FnScope ["_law_found", "_law_due"] ["_law_found", "_law_due"] d_l_count.scope := ⟨rfl, rfl, rfl, by decide +kernel, rfl, by decide +kernel, by decide +kernel⟩
theorem ok_cnt (T : Tx K mg) : Okd P w K mg base CX0 1 d_l_count ["_law_found", "_law_due"] spCnt := by
  refine okd0 T in_l_count sc_cnt (fun _ _ _ _ _ _ us hl => match us, hl with | [_, _], _ => rfl) (fun vs H Q E h => ?_) (fun cdv A outer s H vs Q E hr h => ?_)
  · obtain ⟨n, rfl, _⟩ := h
    rfl
  · obtain ⟨n, rfl, k⟩ := h
    refine ⟨_, pss_one (ps_ret (pe_and (pe_is "int" (T.f "isinstance") (T.f "int") (pv 0)) (pe_and (pe_not (pe_is "bool" (T.f "isinstance") (T.f "bool") (pv 0))) (pe_one (pe_cmpR op_eq (pv 0) (pv 1) (nomark _)))))), ?_⟩
    refine ⟨_, rfl, _, "int", "int", true, rfl, .int n, by decide +kernel, true, rfl, iteT ?_⟩
    refine ⟨_, rfl, _, "bool", "int", false, rfl, .int n, by decide +kernel, false, rfl, true, rfl, iteT ?_⟩
    refine ⟨_, rfl, _, rfl, rfl, qb k ?_⟩
    exact (decide_eq_true rfl).symm
end
end Tw

namespace Tw
open PySem PySem.Spec PyProof.Rows L2 He
section
variable {P : Program} {w : World} {K : PySem.W.Frag} {mg : Str → Option Value} {base : Heap}
/-- numbers, texts, tuples of them within n -/
def clD : Nat → PyData → Bool
  | _, .int _ => true
  | _, .str _ => true
  | n + 1, .tuple ds => decide (ds.length ≤ 1000) && ds.all (clD n)
  | _, _ => false
theorem cl_tup {n : Nat} {ds : List PyData} (h : clD n (.tuple ds) = true) : ∃ m, n = m + 1 ∧ ds.length ≤ 1000 ∧ ∀ d ∈ ds, clD m d = true := by
  cases n with
  | zero => cases h
  | succ m =>
    have h' : (decide (ds.length ≤ 1000) && ds.all (clD m)) = true := h
    rw [Bool.and_eq_true, decide_eq_true_eq, List.all_eq_true] at h'
    exact ⟨m, rfl, h'.1, h'.2⟩
theorem cl_of_tup {n : Nat} {ds : List PyData} (h1 : ds.length ≤ 1000) (h2 : ∀ d ∈ ds, clD n d = true) : clD (n + 1) (.tuple ds) = true := by
  show (decide _ && _) = true
  rw [Bool.and_eq_true, decide_eq_true_eq, List.all_eq_true]
  exact ⟨h1, h2⟩
theorem cl_int (n : Nat) (i : Int) : clD n (.int i) = true := by cases n <;> rfl
theorem cl_str (n : Nat) (x : Str) : clD n (.str x) = true := by cases n <;> rfl
theorem kd_cl : ∀ (n : Nat) (d : PyData), kdB n d = true → clD n d = true
  | n, .int i, _ => cl_int n i
  | n, .str x, _ => cl_str n x
  | 0, .tuple _, h => nomatch h
  | n + 1, .tuple ds, h => by
    obtain ⟨m, e, h1, h2⟩ := kd_tup h
    cases e
    exact cl_of_tup (by omega) fun d hd => kd_cl n d (h2 d hd)
  | 0, .none, h => nomatch h
  | n + 1, .none, h => nomatch h
  | 0, .bool _, h => nomatch h
  | n + 1, .bool _, h => nomatch h
  | 0, .list _, h => nomatch h
  | n + 1, .list _, h => nomatch h
  | 0, .dict _, h => nomatch h
  | n + 1, .dict _, h => nomatch h
def spAlk (r : Nat) : Sp := fun vs H Q _ => ∃ (v u : V) (d : PyData), vs = [v, u] ∧ Da H v d ∧ Da H u d ∧ clD r d = true ∧ ∀ H', Same H H' → Q (.bl true) H'
theorem sc_alk : FnScope ["_law_found", "_law_due", "_law_j"] ["_law_found", "_law_due"] d_l_alike.scope := ⟨rfl, rfl, rfl, by decide +kernel, rfl, by decide +kernel, by decide +kernel⟩
theorem ok_alk (T : Tx K mg) : ∀ r : Nat, Okd P w K mg base CX0 (r + 1) d_l_alike ["_law_found", "_law_due"] (spAlk r) := by
  intro r
  induction r with
  | zero =>
    refine okd0 T in_l_alike sc_alk (fun _ _ _ _ _ _ us hl => match us, hl with | [_, _], _ => rfl) (fun vs H Q E h => ?_) (fun cdv A outer s H vs Q E hr h => ?_)
    · obtain ⟨v, u, d, rfl, _⟩ := h
      rfl
    · obtain ⟨v, u, d, rfl, hv, hu2, hk, k⟩ := h
      refine ⟨_, pss_cons (ps_if (pt_val (pe_is "tuple" (T.f "isinstance") (T.f "tuple") (pv 1))) (pss_cons ps_never (pss_one ps_never)) pss_nil)
        (pss_cons (ps_if (pt_val (pe_is "str" (T.f "isinstance") (T.f "str") (pv 1))) (pss_one (ps_ret (pe_and (pe_is "str" (T.f "isinstance") (T.f "str") (pv 0)) (pe_one (pe_cmpR op_eq (pv 0) (pv 1) (nomark _)))))) pss_nil)
        (pss_one (ps_ret (pe_and (pe_is "int" (T.f "isinstance") (T.f "int") (pv 0)) (pe_and (pe_not (pe_is "bool" (T.f "isinstance") (T.f "bool") (pv 0))) (pe_one (pe_cmpR op_eq (pv 0) (pv 1) (nomark _)))))))), ?_⟩
      cases d with
      | int i =>
        rw [hv.int_of, hu2.int_of]
        refine ⟨_, rfl, _, "tuple", "int", false, rfl, .int i, by decide +kernel, false, rfl, iteF ⟨_, rfl, _, "str", "int", false, rfl, .int i, by decide +kernel, false, rfl, iteF ?_⟩⟩
        refine ⟨_, rfl, _, "int", "int", true, rfl, .int i, by decide +kernel, true, rfl, iteT ⟨_, rfl, _, "bool", "int", false, rfl, .int i, by decide +kernel, false, rfl, true, rfl, iteT ⟨_, rfl, _, rfl, rfl, qb (k H (Same.refl H)) ?_⟩⟩⟩
        exact (decide_eq_true rfl).symm
      | str x =>
        rw [hv.str_of, hu2.str_of]
        refine ⟨_, rfl, _, "tuple", "str", false, rfl, .str x, by decide +kernel, false, rfl, iteF ⟨_, rfl, _, "str", "str", true, rfl, .str x, by decide +kernel, true, rfl, iteT ?_⟩⟩
        refine ⟨_, rfl, _, "str", "str", true, rfl, .str x, by decide +kernel, true, rfl, iteT ⟨_, rfl, _, rfl, rfl, qb (k H (Same.refl H)) ?_⟩⟩
        exact (decide_eq_true rfl).symm
      | _ => cases hk
  | succ r ih =>
    refine okd0 T in_l_alike sc_alk (fun _ _ _ _ _ _ us hl => match us, hl with | [_, _], _ => rfl) (fun vs H Q E h => ?_) (fun cdv A outer s H vs Q E hr h => ?_)
    · obtain ⟨v, u, d, rfl, _⟩ := h
      rfl
    · obtain ⟨v, u, d, rfl, hv, hu2, hk, k⟩ := h
      refine ⟨_, pss_cons (ps_if (pt_val (pe_is "tuple" (T.f "isinstance") (T.f "tuple") (pv 1)))
          (pss_cons (ps_if (PW.pt (pw_or (pt_not (pt_val (pe_is "tuple" (T.f "isinstance") (T.f "tuple") (pv 0)))) (pw_or1 (pt_cmpR op_ne (pe_callB call_len_seq (by rfl) (T.f "len") PySem.boot_len (pa_cons (pv 0) pa_nil)) (pe_callB call_len_seq (by rfl) (T.f "len") PySem.boot_len (pa_cons (pv 1) pa_nil)) (nomark _))))) (pss_one (ps_ret pe_bl)) pss_nil)
          (pss_one (ps_ret (pe_callB (cr_all rfl) (by rfl) (T.f "all") (by decide +kernel) (pa_cons (pe_lc (own := [("_law_j", 2)]) (g := gName 2) (tt := tYes) (te := tCall (spAlk r) [] E0 (tCons (tOp (rIxT K) (tVar 0) (tVar 2)) (tCons (tOp (rIxT K) (tVar 1) (tVar 2)) tNil))) rfl sc_alk.nd
            (pi_range1 (by rfl) (T.f "range") (pa_cons (pe_callB call_len_seq (by rfl) (T.f "len") PySem.boot_len (pa_cons (pv 1) pa_nil)) pa_nil))
            (blkOk_by (own := [("_law_j", 2)]) (N := ["_law_found", "_law_due", "_law_j"]) (sc := d_l_alike.scope) (by decide +kernel)) (fun _ _ _ _ _ => pg_name (i := 2) sc_alk.nd rfl (Or.inl rfl)) (fun _ _ _ _ _ => pts_nil)
            (fun _ _ _ _ _ => by exact pcl ih hr pass0 (pa_cons (pe_ix ix_tup (pv 0) (pv 2) (fun _ _ => rfl)) (pa_cons (pe_ix ix_tup (pv 1) (pv 2) (fun _ _ => rfl)) pa_nil)) (T.g "_law_alike") (by omega))) pa_nil))))) pss_nil)
        (pss_cons (ps_if (pt_val (pe_is "str" (T.f "isinstance") (T.f "str") (pv 1))) (pss_one (ps_ret (pe_and (pe_is "str" (T.f "isinstance") (T.f "str") (pv 0)) (pe_one (pe_cmpR op_eq (pv 0) (pv 1) (nomark _)))))) pss_nil)
        (pss_one (ps_ret (pe_and (pe_is "int" (T.f "isinstance") (T.f "int") (pv 0)) (pe_and (pe_not (pe_is "bool" (T.f "isinstance") (T.f "bool") (pv 0))) (pe_one (pe_cmpR op_eq (pv 0) (pv 1) (nomark _)))))))), ?_⟩
      cases d with
      | int i =>
        rw [hv.int_of, hu2.int_of]
        refine ⟨_, rfl, _, "tuple", "int", false, rfl, .int i, by decide +kernel, false, rfl, iteF ⟨_, rfl, _, "str", "int", false, rfl, .int i, by decide +kernel, false, rfl, iteF ?_⟩⟩
        refine ⟨_, rfl, _, "int", "int", true, rfl, .int i, by decide +kernel, true, rfl, iteT ⟨_, rfl, _, "bool", "int", false, rfl, .int i, by decide +kernel, false, rfl, true, rfl, iteT ⟨_, rfl, _, rfl, rfl, qb (k H (Same.refl H)) ?_⟩⟩⟩
        exact (decide_eq_true rfl).symm
      | str x =>
        rw [hv.str_of, hu2.str_of]
        refine ⟨_, rfl, _, "tuple", "str", false, rfl, .str x, by decide +kernel, false, rfl, iteF ⟨_, rfl, _, "str", "str", true, rfl, .str x, by decide +kernel, true, rfl, iteT ?_⟩⟩
        refine ⟨_, rfl, _, "str", "str", true, rfl, .str x, by decide +kernel, true, rfl, iteT ⟨_, rfl, _, rfl, rfl, qb (k H (Same.refl H)) ?_⟩⟩
        exact (decide_eq_true rfl).symm
      | tuple ds =>
        obtain ⟨m, em, hl4, hk2⟩ := cl_tup hk
        cases em
        obtain ⟨a, xs, rfl, ha, hx⟩ := hv.tup_of
        obtain ⟨b, ys, rfl, hb, hy⟩ := hu2.tup_of
        have lx := hx.length
        have ly := hy.length
        refine ⟨_, rfl, _, "tuple", "tuple", true, rfl, .tup hb, by decide +kernel, true, rfl, iteT ?_⟩
        refine ⟨_, rfl, _, "tuple", "tuple", true, rfl, .tup ha, by decide +kernel, true, rfl, iteF ⟨_, rfl, a, xs, rfl, .inr (SqT.of ha), _, rfl, b, ys, rfl, .inr (SqT.of hb), rfl, false, ?_, ?_⟩⟩
        · show V.bl (!decide (V.int (xs.length : Int) = V.int (ys.length : Int))) = V.bl false
          rw [lx, ly, decide_eq_true rfl]
          rfl
        refine iteF ⟨_, rfl, b, ys, rfl, .inr (SqT.of hb), (ys.length : Int), rfl, by omega, by omega, fun D hD => lc_it walk_range (fun i H2 => Same H H2 ∧ H2 D = some (.lst ((List.replicate i true).map V.bl))) ⟨same_upd hD, upd_same⟩ (fun _ _ _ _ => True.intro) ?_ ?_⟩
        · rintro i y H2 H3 hi ⟨s2, hD2⟩ ⟨rfl, rfl⟩
          have hi1 : i < ds.length := by omega
          obtain ⟨y1, e1, d1⟩ := hx.get (List.getElem?_eq_getElem hi1)
          obtain ⟨y2, e2, d2⟩ := hy.get (List.getElem?_eq_getElem hi1)
          have ei : V.int (0 + (i : Int)) = V.int (i : Int) := by rw [show 0 + (i : Int) = (i : Int) by omega]
          refine ⟨rfl, _, rfl, _, rfl, a, xs, (i : Int), y1, rfl, ei, SqT.of (s2 _ _ ha), atI_nat e1, _, rfl, _, rfl, b, ys, (i : Int), y2, rfl, ei, SqT.of (s2 _ _ hb), atI_nat e2, ?_⟩
          refine ⟨y1, y2, ds[i], rfl, d1.same s2, d2.same s2, hk2 _ (List.getElem_mem hi1), fun H4 s4 => ⟨_, s4 _ _ hD2, ?_, grow_same (s2.trans s4) hD, ?_⟩⟩
          · rw [List.length_map, List.length_replicate, sizeLine_eq]
            omega
          · rw [upd_same, List.replicate_succ', List.map_append]
            rfl
        · rintro H2 ⟨s2, hD2⟩
          refine ⟨D, List.replicate (ys.length : Int).toNat true, rfl, SqL.of hD2, qb (k H2 s2) ?_⟩
          have : ∀ n, (List.replicate n true).all (fun b => b) = true := fun n => by
            induction n with
            | zero => rfl
            | succ n ih => rw [List.replicate_succ, List.all_cons, ih]; rfl
          exact (this _).symm
      | _ => cases hk
end
end Tw

namespace Tw
open PySem PySem.Spec PyProof.Rows L2 He
section
variable {P : Program} {w : World} {K : PySem.W.Frag} {mg : Str → Option Value} {base : Heap}
theorem valV_has {F : En → V} {es : List En} {n : Int} (hp : es.Pairwise fun x y => x.n < y.n) : (valV (dict F es) (Sum.inl n)).isSome = hasB es n := by
  rcases has_dec es n with h | h
  · obtain ⟨e, he, rfl⟩ := id h
    rw [valV_dict hp he, hasB_iff.mpr h]
    rfl
  · rw [valV_no h]
    cases q : hasB es n with
    | false => rfl
    | true => obtain ⟨e, he, ee⟩ := hasB_iff.mp q; exact absurd ee (h e he)
abbrev outT (x : Str) (n : Int) (H : Hp) (Q : VK) : Prop := ∀ H' p, Same H H' → H p = none → H' p = some (.tup [.str x, .int n]) → Q (.ref p) H'
abbrev out0 (x : Str) (H : Hp) (Q : VK) : Prop := ∀ H' p, Same H H' → H p = none → H' p = some (.tup [.str x]) → Q (.ref p) H'
def spWrg (K : PySem.W.Frag) : Sp := fun vs H Q _ => ∃ (L : LS) (c : Nat) (a : Addr) (ns : List Int), vs = [.ref L.aT, .ref a, .non] ∧ LawAt K L H ∧ Good L.S.es L.S.g c ∧ c ≤ 8 ∧ H a = some (.lst (ns.map V.int)) ∧ ns.length ≤ 100 ∧
  (∀ m, ns.find? (fun n => !hasB L.S.es n) = some m → outT "twig" m H Q) ∧
  (∀ bs : List En, bs.map En.n = ns → (∀ b ∈ bs, b ∈ L.S.es) → (¬ OkL (bs.map En.lab) → out0 "stem" H Q) ∧ (OkL (bs.map En.lab) → ∀ H', Same H H' → Q .non H'))
theorem sc_wrg : FnScope ["_law_twigs", "_law_numbers", "_law_high", "_law_number", "_law_labels", "_law_j"] ["_law_twigs", "_law_numbers", "_law_high"] d_l_wrong.scope := ⟨rfl, rfl, rfl, by decide +kernel, rfl, by decide +kernel, by decide +kernel⟩
theorem ok_wrg (T : Tx K mg) : Okd P w K mg base CX0 6 d_l_wrong ["_law_twigs", "_law_numbers", "_law_high"] (spWrg K) := by
  refine okd0 T in_l_wrong sc_wrg (fun _ _ _ _ _ _ us hl => match us, hl with | [_, _, _], _ => rfl) (fun vs H Q E h => ?_) (fun cdv A outer s H vs Q E hr h => ?_)
  · obtain ⟨L, c, a, ns, rfl, _⟩ := h
    rfl
  · obtain ⟨L, c, a, ns, rfl, A1, G, hc, hns, hlen, k1, k2⟩ := h
    have hu := hu_of hr
    refine ⟨_, pss_cons (ps_for PassesOwn.never rfl (pi_list (pv 1)) (pg_name (i := 3) sc_wrg.nd rfl (Or.inl rfl)) (pss_one (ps_if (pt_cmp (pc_dnotin hu (pv 3) (pv 0))) (pss_one (ps_ret (pe_tup (pa_cons pe_str (pa_cons (pv 3) pa_nil))))) pss_nil)))
      (pss_cons (ps_setLc (i := 4) (own := [("_law_number", 3)]) (g := gName 3) (tt := tYes) (te := tCall (spLbl K) [] E0 (tCons (tVar 0) (tCons (tVar 3) tNil))) rfl sc_wrg.nd rfl rfl (by rfl) (pi_list (pv 1))
          (blkOk_by (own := [("_law_number", 3)]) (N := ["_law_twigs", "_law_numbers", "_law_high", "_law_number", "_law_labels", "_law_j"]) (sc := d_l_wrong.scope) (by decide +kernel)) (fun _ _ _ _ _ => pg_name (i := 3) sc_wrg.nd rfl (Or.inl rfl)) (fun _ _ _ _ _ => pts_nil)
          (fun _ _ _ _ _ => by exact pcl (ok_lbl T) hr pass0 (pa_cons (pv 0) (pa_cons (pv 3) pa_nil)) (T.g "_law_label")))
      (pss_cons (ps_if (PW.pt (pw_or (pt_not (pt_chain op_le op_le pe_int (pe_callB call_len_seq (by rfl) (T.f "len") PySem.boot_len (pa_cons (pv 4) pa_nil)) pe_int))
          (pw_or1 (PW.pt (pw_and (pt_cmpR op_notN (pv 2) pe_non (nomark _)) (pw_and1 (pt_cmpR op_ne (pe_op op_add (pe_ix ix_tup (pe_ix ix_list (pv 4) pe_int (fun _ _ => rfl)) pe_int (fun _ _ => rfl)) pe_int) (pv 2) (nomark _))))))))
        (pss_one (ps_ret (pe_tup (pa_cons pe_str pa_nil)))) pss_nil)
      (pss_cons (ps_for PassesOwn.never rfl (pi_range2 (by rfl) (T.f "range") (pa_cons pe_int (pa_cons (pe_callB call_len_seq (by rfl) (T.f "len") PySem.boot_len (pa_cons (pv 4) pa_nil)) pa_nil))) (pg_name (i := 5) sc_wrg.nd rfl (Or.inl rfl))
        (pss_one (ps_if (PW.pt (pw_or (pt_cmpR op_ne (pe_ix ix_tup (pe_ix ix_list (pv 4) (pv 5) (fun _ _ => rfl)) pe_int (fun _ _ => rfl)) (pe_ix ix_tup (pe_ix ix_list (pv 4) pe_int (fun _ _ => rfl)) pe_int (fun _ _ => rfl)) (nomark _))
            (pw_or1 (pt_not (pt_val (pcl (ok_l_less T) hr pass0 (pa_cons (pe_ix ix_tup (pe_ix ix_list (pv 4) (pe_op op_sub (pv 5) pe_int) (fun _ _ => rfl)) pe_int (fun _ _ => rfl)) (pa_cons (pe_ix ix_tup (pe_ix ix_list (pv 4) (pv 5) (fun _ _ => rfl)) pe_int (fun _ _ => rfl)) pa_nil)) (T.g "_law_less")))))))
          (pss_one (ps_ret (pe_tup (pa_cons pe_str pa_nil)))) pss_nil)))
      (pss_one (ps_ret pe_non))))), ?_⟩
    refine ⟨_, rfl, a, rfl, ⟨_, SqL.of hns⟩, for_it walk_list (fun i σ H2 => ∃ z, σ = [some (.ref L.aT), some (.ref a), some .non, z, none, none] ∧ H2 = H ∧ (ns.take i).find? (fun n => !hasB L.S.es n) = none)
      ⟨_, rfl, rfl, rfl⟩ (fun i σ H2 _ ⟨_, _, e, _⟩ => by rw [e]; exact SqL.of hns) ?_ ?_⟩
    · rintro i x σ H2 H3 hi ⟨z, rfl, rfl, hf⟩ ⟨rfl, hx⟩
      obtain ⟨n, en, rfl⟩ := ints_at hx
      refine ⟨_, rfl, _, rfl, L.aT, _, rfl, DGet.k (k := Sum.inl n) A1.tw, _, rfl, ?_⟩
      rw [valV_has A1.sh.inc]
      cases q : hasB L.S.es n with
      | true => exact iteF ⟨_, rfl, rfl, find_none_step hf en (by rw [q]; rfl)⟩
      | false => exact iteT ⟨_, rfl, small100 (by simp), fun p hp => k1 n (find_some_step hf en (by rw [q]; rfl)) _ p (same_upd hp) hp upd_same⟩
    · rintro σ H2 ⟨z, rfl, rfl, hf⟩
      rw [List.length_map, List.take_of_length_le (Nat.le_refl _)] at hf
      have hh := find_no_has hf
      obtain ⟨bs, eb, hbs⟩ := ents_of hh
      obtain ⟨k21, k22⟩ := k2 bs eb hbs
      subst eb
      rw [List.length_map] at hlen
      refine ⟨_, rfl, a, rfl, ⟨_, SqL.of hns⟩, fun D hD => lc_it walk_list (fun i H4 => Same H2 H4 ∧ ∃ ys, H4 D = some (.lst ys) ∧ DaL H4 ys (((bs.take i).map En.lab).map Lab.D)) ⟨same_upd hD, [], upd_same, .nil⟩ (fun i H4 _ q => SqL.of (q.1 _ _ hns)) ?_ ?_⟩
      · rintro i y H4 H5 hi ⟨s4, ys, hD4, hy4⟩ ⟨rfl, hy⟩
        obtain ⟨n, en, rfl⟩ := ints_at hy
        rw [List.getElem?_map] at en
        obtain ⟨b, eb, rfl⟩ : ∃ b, bs[i]? = some b ∧ b.n = n := by
          cases q : bs[i]? with
          | none => rw [q] at en; cases en
          | some b => rw [q] at en; exact ⟨b, rfl, Option.some.inj en⟩
        have hbm := hbs b (List.mem_of_getElem? eb)
        have A4 := A1.same s4
        refine ⟨rfl, _, rfl, _, rfl, L, c, b, rfl, A4, G, hc, hbm, fun H6 v s6 hv => ⟨ys, s6 _ _ hD4, ?_, grow_same (s4.trans s6) hD, ys ++ [v], upd_same, ?_⟩⟩
        · have q := hy4.length
          rw [List.length_map, List.length_map, List.length_take] at q
          rw [q, sizeLine_eq]
          omega
        · rw [List.take_add_one, eb, List.map_append, List.map_append]
          exact DaL.updl (s6 _ _ hD4) (DaL.app (hy4.same s6) (.cons hv .nil))
      · rintro H4 ⟨s4, ys, hD4, hy4⟩
        rw [List.length_map, List.length_map, List.take_of_length_le (Nat.le_refl _)] at hy4
        have hkd : ∀ l ∈ bs.map En.lab, kdB 3 l.lo = true ∧ kdB 3 l.hi = true := fun l hl => by
          obtain ⟨b, hb2, rfl⟩ := List.mem_map.mp hl
          exact ⟨(G.kd b (hbs b hb2)).1, (G.kd b (hbs b hb2)).2.1⟩
        have lbs : (bs.map En.lab).length = bs.length := List.length_map ..
        generalize bs.map En.lab = ls at hy4 hkd k21 k22 lbs
        have lx := hy4.length
        rw [List.length_map] at lx
        have sxs := SqL.of (K := K) hD4
        have oS : ¬ OkL ls → ∀ H' p, Same H2 H' → H' p = none → out0 "stem" H2 Q → Q (.ref p) (upd H' p (.tup [.str "stem"])) := fun _ H' p s' hp o =>
          o _ p (s'.trans (same_upd hp)) ((Fr.of (M := M0) s').free (fun z => z) hp) upd_same
        by_cases h2 : 2 ≤ ls.length
        case neg =>
          refine ⟨_, rfl, D, ys, rfl, .inl sxs, _, _, rfl, rfl, false, ?_, iteF ⟨false, rfl, iteT (iteT ⟨small100 (by simp), fun p hp => ?_⟩)⟩⟩
          · show V.bl (decide ((2 : Int) ≤ (ys.length : Int))) = V.bl false
            rw [decide_eq_false (by omega)]
          · have no : ¬ OkL ls := fun o => h2 o.two
            exact oS no _ p s4 hp (k21 no)
        case pos =>
        by_cases h4 : ls.length ≤ 4
        case neg =>
          refine ⟨_, rfl, D, ys, rfl, .inl sxs, _, _, rfl, rfl, true, ?_, iteT ⟨_, _, rfl, rfl, false, ?_, iteT (iteT ⟨small100 (by simp), fun p hp => ?_⟩)⟩⟩
          · show V.bl (decide ((2 : Int) ≤ (ys.length : Int))) = V.bl true
            rw [decide_eq_true (by omega)]
          · show V.bl (decide ((ys.length : Int) ≤ (4 : Int))) = V.bl false
            rw [decide_eq_false (by omega)]
          · have no : ¬ OkL ls := fun o => h4 o.four
            exact oS no _ p s4 hp (k21 no)
        case pos =>
        have hi0 : 0 < ls.length := by omega
        refine ⟨_, rfl, D, ys, rfl, .inl sxs, _, _, rfl, rfl, true, ?_, iteT ⟨_, _, rfl, rfl, true, ?_, iteF ⟨_, rfl, rfl, false, rfl, iteF (iteF ?_)⟩⟩⟩
        · show V.bl (decide ((2 : Int) ≤ (ys.length : Int))) = V.bl true
          rw [decide_eq_true (by omega)]
        · show V.bl (decide ((ys.length : Int) ≤ (4 : Int))) = V.bl true
          rw [decide_eq_true (by omega)]
        refine ⟨_, rfl, D, ys, rfl, .inl sxs, 1, (ys.length : Int), rfl, ⟨by decide, by decide, by omega, by omega⟩, ?_⟩
        have en : ((ys.length : Int) - 1).toNat = ls.length - 1 := by omega
        rw [en]
        obtain ⟨y0, e0, d0⟩ := labs_get hy4 (List.getElem?_eq_getElem hi0)
        obtain ⟨t0, a0, b0, rfl, ht0, da0, db0⟩ := lab_of d0
        refine for_it walk_range (fun i σ H3 => ∃ z u, σ = [some (.ref L.aT), some (.ref a), some .non, z, some (.ref D), u] ∧ Same H4 H3 ∧ ∀ k a b f, k < i → ls[k]? = some a → ls[k + 1]? = some b → ls[0]? = some f → b.h = f.h ∧ ah a.hi b.lo = true)
            ⟨_, _, rfl, Same.refl _, fun k _ _ _ hk => absurd hk (Nat.not_lt_zero k)⟩ (fun _ _ _ _ _ => True.intro) ?_ ?_
        · rintro i x σ H3 H5 hi ⟨z, u, rfl, s3, ha3⟩ ⟨rfl, rfl⟩
          have hi1 : i < ls.length := by omega
          have hi2 : i + 1 < ls.length := by omega
          obtain ⟨y1, e1, d1⟩ := labs_get hy4 (List.getElem?_eq_getElem hi1)
          obtain ⟨y2, e2, d2⟩ := labs_get hy4 (List.getElem?_eq_getElem hi2)
          obtain ⟨t1, a1, b1, rfl, ht1, da1, db1⟩ := lab_of d1
          obtain ⟨t2, a2, b2, rfl, ht2, da2, db2⟩ := lab_of d2
          have ei : V.int (1 + (i : Int)) = V.int ((i + 1 : Nat) : Int) := by rw [show 1 + (i : Int) = ((i + 1 : Nat) : Int) by omega]
          have ei2 : V.int (1 + (i : Int) - 1) = V.int (i : Int) := by rw [show 1 + (i : Int) - 1 = (i : Int) by omega]
          have sx := s3.seq sxs
          refine ⟨_, rfl, _, rfl, D, ys, _, .ref t2, rfl, ei, sx, atI_nat e2, t2, _, 0, _, rfl, rfl, SqT.of (s3 _ _ ht2), atI_nat (j := 0) rfl, ?_⟩
          refine ⟨_, rfl, D, ys, 0, .ref t0, rfl, rfl, sx, atI_nat (j := 0) e0, t0, _, 0, _, rfl, rfl, SqT.of (s3 _ _ ht0), atI_nat (j := 0) rfl, rfl, _, rfl, ?_⟩
          have bad : ¬ ((ls[i + 1]).h = (ls[0]).h ∧ ah (ls[i]).hi (ls[i + 1]).lo = true) → ¬ OkL ls := fun q o => q (o.adj i _ _ _ (List.getElem?_eq_getElem hi1) (List.getElem?_eq_getElem hi2) (List.getElem?_eq_getElem hi0))
          by_cases eh : (ls[i + 1]).h = (ls[0]).h
          · rw [show (!decide (V.int (ls[i + 1]).h = V.int (ls[0]).h)) = false by rw [eh]; simp]
            refine iteF ?_
            refine ⟨_, rfl, _, rfl, _, _, rfl, rfl, D, ys, _, .ref t1, rfl, ei2, sx, atI_nat e1, t1, _, 2, _, rfl, rfl, SqT.of (s3 _ _ ht1), atI_nat (j := 2) rfl, ?_⟩
            refine ⟨_, rfl, _, rfl, D, ys, _, .ref t2, rfl, ei, sx, atI_nat e2, t2, _, 1, _, rfl, rfl, SqT.of (s3 _ _ ht2), atI_nat (j := 1) rfl, ?_⟩
            refine ⟨b1, a2, _, _, rfl, db1.same s3, da2.same s3, (hkd _ (List.getElem_mem hi1)).2, (hkd _ (List.getElem_mem hi2)).1, fun H6 s6 => ⟨_, rfl, ?_⟩⟩
            cases e : ah (ls[i]).hi (ls[i + 1]).lo with
            | false =>
              have no := bad fun q => by rw [e] at q; cases q.2
              exact iteT ⟨small100 (by simp), fun p hp => oS no _ p (s4.trans (s3.trans s6)) hp (k21 no)⟩
            | true =>
              refine iteF ⟨_, _, rfl, s3.trans s6, fun k a b f hk ea eb ef => ?_⟩
              by_cases hk2 : k < i
              · exact ha3 k a b f hk2 ea eb ef
              · have ek : k = i := by omega
                subst ek
                rw [List.getElem?_eq_getElem hi1] at ea
                rw [List.getElem?_eq_getElem hi2] at eb
                rw [List.getElem?_eq_getElem hi0] at ef
                cases ea
                cases eb
                cases ef
                exact ⟨eh, e⟩
          · rw [show (!decide (V.int (ls[i + 1]).h = V.int (ls[0]).h)) = true by rw [decide_eq_false (fun z => eh (V.int.inj z))]; rfl]
            have no := bad fun q => eh q.1
            exact iteT (iteT ⟨small100 (by simp), fun p hp => oS no _ p (s4.trans s3) hp (k21 no)⟩)
        · rintro σ H3 ⟨z, u, rfl, s3, ha3⟩
          exact k22 ⟨h2, h4, fun k a b f ea eb ef => ha3 k a b f (by have := (List.getElem?_eq_some_iff.mp eb).1; omega) ea eb ef⟩ H3 (s4.trans s3)
def spUnh : Sp := fun vs H Q _ => ∃ (K : PySem.W.Frag) (L : LS) (a : Addr) (ns : List Int), vs = [.ref L.aH, .ref a] ∧ LawAt K L H ∧ H a = some (.lst (ns.map V.int)) ∧ (∀ n ∈ ns, Has L.S.es n) ∧
  (ns.find? (unB L.S.es) = none → Q .non H) ∧ (∀ m, ns.find? (unB L.S.es) = some m → outT "held" m H Q)
theorem sc_unh : FnScope ["_law_holds", "_law_numbers", "_law_number"] ["_law_holds", "_law_numbers"] d_l_unheld.scope := ⟨rfl, rfl, rfl, by decide +kernel, rfl, by decide +kernel, by decide +kernel⟩
theorem ok_unh (T : Tx K mg) : Okd P w K mg base CX0 1 d_l_unheld ["_law_holds", "_law_numbers"] spUnh := by
  refine okd0 T in_l_unheld sc_unh (fun _ _ _ _ _ _ us hl => match us, hl with | [_, _], _ => rfl) (fun vs H Q E h => ?_) (fun cdv A outer s H vs Q E hr h => ?_)
  · obtain ⟨K', L, a, ns, rfl, _⟩ := h
    rfl
  · obtain ⟨K', L, a, ns, rfl, A1, hns, hh, k1, k2⟩ := h
    have hu := hu_of hr
    refine ⟨_, pss_cons (ps_for PassesOwn.never rfl (pi_list (pv 1)) (pg_name (i := 2) sc_unh.nd rfl (Or.inl rfl))
      (pss_one (ps_if (pt_cmpR op_eq (pe_dget hu (pv 0) (pv 2) (fun _ _ => rfl)) pe_int (nomark _)) (pss_one (ps_ret (pe_tup (pa_cons pe_str (pa_cons (pv 2) pa_nil))))) pss_nil))) (pss_one (ps_ret pe_non)), ?_⟩
    refine ⟨_, rfl, a, rfl, ⟨_, SqL.of hns⟩, for_it walk_list (fun i σ H2 => ∃ z, σ = [some (.ref L.aH), some (.ref a), z] ∧ H2 = H ∧ (ns.take i).find? (unB L.S.es) = none) ⟨_, rfl, rfl, rfl⟩ (fun i σ H2 _ ⟨_, _, e, _⟩ => by rw [e]; exact SqL.of hns) ?_ ?_⟩
    · rintro i x σ H2 H3 hi ⟨z, rfl, rfl, hf⟩ ⟨rfl, hx⟩
      obtain ⟨n, en, rfl⟩ := ints_at hx
      obtain ⟨e, he, rfl⟩ := hh n (List.mem_of_getElem? en)
      refine ⟨_, rfl, _, rfl, L.aH, _, rfl, A1.gH he, rfl, _, rfl, ?_⟩
      have ub := unB_of A1.sh.inc he
      by_cases z : e.hd = 0
      · rw [show decide (V.int e.hd = V.int 0) = true from decide_eq_true (by rw [z])]
        exact iteT ⟨_, rfl, small100 (by simp), fun p hp => k2 _ (find_some_step hf en (by rw [ub]; exact decide_eq_true z)) _ p (same_upd hp) hp upd_same⟩
      · rw [show decide (V.int e.hd = V.int 0) = false from decide_eq_false (fun q => z (V.int.inj q))]
        exact iteF ⟨_, rfl, rfl, find_none_step hf en (by rw [ub]; exact decide_eq_false z)⟩
    · rintro σ H2 ⟨z, rfl, rfl, hf⟩
      refine k1 ?_
      rw [List.length_map, List.take_of_length_le (Nat.le_refl _)] at hf
      exact hf
end
end Tw

namespace Tw
open PySem PySem.Spec PyProof.Rows L2 He
section
variable {P : Program} {w : World} {K : PySem.W.Frag} {mg : Str → Option Value} {base : Heap}
/-! ### a new well -/
def spWell (K : PySem.W.Frag) : Sp := fun vs H Q _ => ∃ (a : Addr) (ns : List Int) (k : Int), vs = [.ref a, .int k] ∧ SqL K H a (ns.map V.int) ∧ ns.length ≤ 100 ∧ 0 ≤ k ∧ k ≤ 100 ∧ ∀ H' p, Same H H' → H p = none → WellAt p H' → Q (.ref p) H'
theorem sc_well : FnScope ["_law_script", "_law_k", "_law_left", "_law_cell", "_law_digits"] ["_law_script", "_law_k"] d_l_well.scope := ⟨rfl, rfl, rfl, by decide +kernel, rfl, by decide +kernel, by decide +kernel⟩
theorem ok_well (T : Tx K mg) : Okd P w K mg base CX0 1 d_l_well ["_law_script", "_law_k"] (spWell K) := by
  refine okd0 T in_l_well sc_well (fun _ _ _ _ _ _ us hl => match us, hl with | [_, _], _ => rfl) (fun vs H Q E h => ?_) (fun cdv A outer s H vs Q E hr h => ?_)
  · obtain ⟨a, ns, k, rfl, _⟩ := h
    rfl
  · obtain ⟨a, ns, k, rfl, hns, hlen, hk0, hk1, kk⟩ := h
    refine ⟨_, pss_cons (ps_set (i := 2) sc_well.nd rfl (Or.inl rfl) (pe_ix ix_list (pe_lst (pa_cons pe_int (pa_cons pe_int pa_nil))) (pe_callTy call_int1 (by rfl) (T.f "int") (by decide +kernel) (pa_cons (pe_cmpR op_eq (pv 1) pe_int (nomark _)) pa_nil)) (fun _ _ => rfl)))
      (pss_cons (ps_set (i := 3) sc_well.nd rfl (Or.inl rfl) (pe_ix ix_list (pe_op op_cat (pe_callTy call_list_of (by rfl) (T.f "list") (by decide +kernel) (pa_cons (pv 0) pa_nil)) (pe_lst (pa_cons pe_int pa_nil)))
          (pe_op op_mod (pv 1) (pe_callB (call_max2 rfl) (by rfl) (T.f "max") (by decide +kernel) (pa_cons pe_int (pa_cons (pe_callB call_len_seq (by rfl) (T.f "len") PySem.boot_len (pa_cons (pv 0) pa_nil)) pa_nil)))) (fun _ _ => rfl)))
      (pss_cons (ps_set (i := 4) sc_well.nd rfl (Or.inl rfl) (pe_op op_mul (pe_callB call_abs (by rfl) (T.f "abs") (by decide +kernel) (pa_cons (pv 3) pa_nil))
          (pe_callTy call_int1 (by rfl) (T.f "int") (by decide +kernel) (pa_cons (pe_and (pe_cmpR op_ge (pe_callB call_abs (by rfl) (T.f "abs") (by decide +kernel) (pa_cons (pv 3) pa_nil)) (pe_op op_pow pe_int pe_int) (nomark _)) (pe_one (pe_cmpR op_lt (pv 1) (pe_callB call_len_seq (by rfl) (T.f "len") PySem.boot_len (pa_cons (pv 0) pa_nil)) (nomark _)))) pa_nil))))
      (pss_one (ps_ret (pe_lst (pa_cons (pe_op op_mod (pv 3) pe_int) (pa_cons (pe_op op_mul pe_int (pv 1)) (pa_cons (pv 4) (pa_cons (pv 2) pa_nil))))))))), ?_⟩
    refine ⟨small100 (by simp), fun l1 hl1 => ?_⟩
    have s1 : Same H (upd H l1 (.lst [.int 240, .int 2400])) := same_upd hl1
    have e1 : (upd H l1 (.lst [.int 240, .int 2400])) l1 = some (.lst [.int 240, .int 2400]) := upd_same
    generalize upd H l1 (.lst [.int 240, .int 2400]) = H1 at s1 e1 ⊢
    have main : ∀ left : Int, 0 ≤ left → left ≤ 2400 → ∀ D : VK, (∀ H' p, Same H H' → H p = none → WellAt p H' → D (.ref p) H') → True := fun _ _ _ _ _ => True.intro
    have hleft : ∃ (i left : Int), (if decide (V.int k = V.int 0) = true then (1 : Int) else 0) = i ∧ atI ([.int 240, .int 2400] : List V) i = some (.int left) ∧ 0 ≤ left ∧ left ≤ 2400 := by
      by_cases z : k = 0
      · exact ⟨1, 2400, by rw [if_pos (decide_eq_true (by rw [z]))], rfl, by decide, by decide⟩
      · exact ⟨0, 240, by rw [if_neg (by rw [decide_eq_false fun q => z (V.int.inj q)]; exact Bool.false_ne_true)], rfl, by decide, by decide⟩
    obtain ⟨i, left, ei, eat, hl0, hl2⟩ := hleft
    refine ⟨_, rfl, rfl, .inr ⟨_, rfl, l1, _, i, .int left, rfl, by rw [← ei], SqL.of e1, eat, ?_⟩⟩
    refine ⟨_, rfl, a, _, rfl, .inl (s1.seq hns), fun l2 hl2 => ⟨small100 (by simp), fun l3 hl3 => ?_⟩⟩
    have s2 : Same H1 (upd H1 l2 (.lst (ns.map V.int))) := same_upd hl2
    have s3 : Same (upd H1 l2 (.lst (ns.map V.int))) (upd (upd H1 l2 (.lst (ns.map V.int))) l3 (.lst [.int 0])) := same_upd hl3
    refine ⟨l2, l3, _, _, rfl, rfl, s3 _ _ upd_same, upd_same, ?_, fun l4 hl4 => ?_⟩
    · rw [List.length_map, sizeLine_eq]
      show ns.length + 1 ≤ _
      omega
    have s4 : Same H1 (upd (upd (upd H1 l2 (.lst (ns.map V.int))) l3 (.lst [.int 0])) l4 (.lst (ns.map V.int ++ [.int 0]))) := s2.trans (s3.trans (same_upd hl4))
    have e4 : (upd (upd (upd H1 l2 (.lst (ns.map V.int))) l3 (.lst [.int 0])) l4 (.lst (ns.map V.int ++ [.int 0]))) l4 = some (.lst (ns.map V.int ++ [.int 0])) := upd_same
    generalize upd (upd (upd H1 l2 (.lst (ns.map V.int))) l3 (.lst [.int 0])) l4 (.lst (ns.map V.int ++ [.int 0])) = H4 at s4 e4 ⊢
    have s14 := s1.trans s4
    refine ⟨_, rfl, _, rfl, a, _, rfl, .inl (s14.seq hns), _, _, rfl, ?_⟩
    rw [List.length_map]
    have hmx : ∃ mx : Int, (if (ns.length : Int) > 1 then (ns.length : Int) else 1) = mx ∧ 0 < mx ∧ mx ≤ ns.length + 1 := by
      by_cases z : (ns.length : Int) > 1
      · exact ⟨_, by rw [if_pos z], by omega, by omega⟩
      · exact ⟨1, by rw [if_neg z], by omega, by omega⟩
    obtain ⟨mx, emx, hm0, hm1⟩ := hmx
    rw [emx]
    have hj0 := Int.emod_nonneg k (show mx ≠ 0 by omega)
    have hj1 := Int.emod_lt_of_pos k hm0
    obtain ⟨j, ej⟩ := Int.eq_ofNat_of_zero_le hj0
    have hj2 : j < (ns ++ [0]).length := by rw [List.length_append]; simp; omega
    have ecell : (ns.map V.int ++ [V.int 0])[j]? = some (.int (ns ++ [0])[j]) := by
      have : ns.map V.int ++ [V.int 0] = (ns ++ [0]).map V.int := by rw [List.map_append]; rfl
      rw [this, List.getElem?_map, List.getElem?_eq_getElem hj2]
      rfl
    generalize (ns ++ [0])[j] = cell at ecell
    refine ⟨_, _, rfl, rfl, hm0, l4, _, (j : Int), .int cell, rfl, by rw [← ej], SqL.of e4, atI_nat ecell, ?_⟩
    have habs : ∀ i : Int, 0 ≤ (if i < 0 then -i else i) := fun i => by split <;> omega
    refine ⟨_, rfl, _, rfl, _, rfl, _, rfl, _, _, rfl, rfl, ⟨by decide, by decide, by decide⟩, _, _, rfl, rfl, ?_⟩
    have fin : ∀ (b : Bool) (z : Int), z = (if b then 1 else 0) → CMul (if cell < 0 then -cell else cell) z ∧ 0 ≤ (if cell < 0 then -cell else cell) * z := fun b z ez => by
      have h0 := habs cell
      cases b with
      | true =>
        have ez : z = 1 := ez
        subst ez
        exact ⟨.inr ⟨by decide, by decide⟩, by rw [Int.mul_one]; exact h0⟩
      | false =>
        have ez : z = 0 := ez
        subst ez
        exact ⟨.inr ⟨by decide, by decide⟩, by rw [Int.mul_zero]; exact Int.le_refl _⟩
    have last : ∀ (z : Int), CMul (if cell < 0 then -cell else cell) z ∧ 0 ≤ (if cell < 0 then -cell else cell) * z → ∀ p, H4 p = none → Q (.ref p) (upd H4 p (.lst [.int (cell % 2147483647), .int (1000 * k), .int ((if cell < 0 then -cell else cell) * z), .int left])) := fun z hz p hp => by
      have q1 := Int.emod_nonneg cell (show (2147483647 : Int) ≠ 0 by decide)
      have q2 := Int.emod_lt_of_pos cell (show (0 : Int) < 2147483647 by decide)
      exact kk _ p (s14.trans (same_upd hp)) ((Fr.of (M := M0) s14).free (fun z => z) hp) ⟨_, _, _, _, upd_same, q1, by omega, by omega, hz.2, hl0, by omega⟩
    have c1000 : CMul 1000 k := .inl ⟨by decide, by decide⟩
    refine ⟨_, rfl, ite2 (fun h1 => ?_) (fun h1 => ?_)⟩
    · exact ⟨_, rfl, _, rfl, a, _, rfl, .inl (s14.seq hns), _, _, rfl, rfl, .inr ⟨_, rfl, _, _, rfl, rfl, (fin _ _ rfl).1, _, rfl, _, _, rfl, rfl, (show (0 : Int) < 2147483647 by decide), _, rfl, _, _, rfl, rfl, c1000, _, rfl, _, rfl, small100 (by simp), fun p hp => last _ (fin _ _ rfl) p hp⟩⟩
    · exact .inr ⟨_, rfl, _, _, rfl, rfl, (fin _ _ rfl).1, _, rfl, _, _, rfl, rfl, (show (0 : Int) < 2147483647 by decide), _, rfl, _, _, rfl, rfl, c1000, _, rfl, _, rfl, small100 (by simp), fun p hp => last _ (fin _ _ rfl) p hp⟩
/-! ### what is due for bad rows -/
def nbD : PyData → Bool
  | .none => true
  | .bool _ => true
  | _ => false
def spDue (K : PySem.W.Frag) : Sp := fun vs H Q _ => ∃ (a : Addr) (xs : List V) (rs : List Row), vs = [.ref a] ∧ H a = some (.lst xs) ∧ DaL H xs (rs.map rowD) ∧ rs.length ≤ 100 ∧
  ((∃ r ∈ rs, nbD r.1 = true ∨ nbD r.2 = true) → out0 "key" H Q) ∧
  ((∀ r ∈ rs, nbD r.1 = false ∧ nbD r.2 = false) → (∀ r ∈ rs, kdB 3 r.1 = true) ∧ (rs.length < 1 ∨ 4 < rs.length ∨ ¬ Ris rs) ∧ out0 "leaf" H Q)
theorem sc_due : FnScope ["_law_rows", "_law_row", "_law_thing", "_law_j"] ["_law_rows"] d_l_rows_due.scope := ⟨rfl, rfl, rfl, by decide +kernel, rfl, by decide +kernel, by decide +kernel⟩
def noneB : PyData → Bool
  | .none => true
  | _ => false
theorem nb_is {H : Hp} {v : V} {d : PyData} (h : Da H v d) : decide (v = .non) = noneB d := by
  cases h <;> rfl
theorem nb_of_ty {d : PyData} (h : tyD d = "bool") : nbD d = true := by
  cases d <;> first | rfl | (simp [tyD] at h)
theorem nb_of_no {d : PyData} (h1 : noneB d = false) (h2 : ¬ tyD d = "bool") : nbD d = false := by
  cases d with
  | none => cases h1
  | bool b => exact absurd rfl h2
  | _ => rfl
theorem nb_of_none {d : PyData} (h1 : noneB d = true) : nbD d = true := by
  cases d with
  | none => rfl
  | _ => cases h1
theorem ok_due (T : Tx K mg) : Okd P w K mg base CX0 6 d_l_rows_due ["_law_rows"] (spDue K) := by
  refine okd0 T in_l_rows_due sc_due (fun _ _ _ _ _ _ us hl => match us, hl with | [_], _ => rfl) (fun vs H Q E h => ?_) (fun cdv A outer s H vs Q E hr h => ?_)
  · obtain ⟨a, xs, rs, rfl, _⟩ := h
    rfl
  · obtain ⟨a, xs, rs, rfl, hxs, hda, hlen, k1, k2⟩ := h
    have lx := hda.length
    rw [List.length_map] at lx
    refine ⟨_, pss_cons (ps_for PassesOwn.never rfl (pi_list (pv 0)) (pg_name (i := 1) sc_due.nd rfl (Or.inl rfl))
        (pss_one (ps_for PassesOwn.never rfl (pi_tup (pv 1)) (pg_name (i := 2) sc_due.nd rfl (Or.inl rfl))
          (pss_one (ps_if (PW.pt (pw_or (pt_cmpR op_isN (pv 2) pe_non (nomark _)) (pw_or1 (pt_val (pe_is "bool" (T.f "isinstance") (T.f "bool") (pv 2)))))) (pss_one (ps_ret (pe_tup (pa_cons pe_str pa_nil)))) pss_nil)))))
      (pss_cons (ps_if (pt_not (pt_chain op_le op_le pe_int (pe_callB call_len_seq (by rfl) (T.f "len") PySem.boot_len (pa_cons (pv 0) pa_nil)) pe_int)) (pss_one (ps_ret (pe_tup (pa_cons pe_str pa_nil)))) pss_nil)
      (pss_cons (ps_for PassesOwn.never rfl (pi_range2 (by rfl) (T.f "range") (pa_cons pe_int (pa_cons (pe_callB call_len_seq (by rfl) (T.f "len") PySem.boot_len (pa_cons (pv 0) pa_nil)) pa_nil))) (pg_name (i := 3) sc_due.nd rfl (Or.inl rfl))
        (pss_one (ps_if (pt_not (pt_val (pcl (ok_l_less T) hr pass0 (pa_cons (pe_ix ix_tup (pe_ix ix_list (pv 0) (pe_op op_sub (pv 3) pe_int) (fun _ _ => rfl)) pe_int (fun _ _ => rfl)) (pa_cons (pe_ix ix_tup (pe_ix ix_list (pv 0) (pv 3) (fun _ _ => rfl)) pe_int (fun _ _ => rfl)) pa_nil)) (T.g "_law_less"))))
          (pss_one (ps_ret (pe_tup (pa_cons pe_str pa_nil)))) pss_nil)))
      (pss_one (ps_ret pe_non)))), ?_⟩
    have oS : ∀ {x : Str} {H' : Hp}, Same H H' → out0 x H Q → ∀ p, H' p = none → Q (.ref p) (upd H' p (.tup [.str x])) := fun s' o p hp =>
      o _ p (s'.trans (same_upd hp)) ((Fr.of (M := M0) s').free (fun z => z) hp) upd_same
    have sxs := SqL.of (K := K) hxs
    refine ⟨_, rfl, a, rfl, ⟨_, sxs⟩, for_it walk_list (fun i σ H2 => ∃ u v, σ = [some (.ref a), u, v, none] ∧ H2 = H ∧ ∀ r ∈ rs.take i, nbD r.1 = false ∧ nbD r.2 = false) ⟨_, _, rfl, rfl, fun r hr => by simp at hr⟩ (fun i σ H2 _ ⟨_, _, _, e, _⟩ => by rw [e]; exact sxs) ?_ ?_⟩
    · rintro i x σ H2 H3 hi ⟨u, v, rfl, rfl, hn⟩ ⟨rfl, hx⟩
      obtain ⟨r, er, hr1⟩ := rows_at hda hx
      obtain ⟨t, x1, x2, rfl, ht, d1, d2⟩ := row_of hr1
      have hm : r ∈ rs := List.mem_of_getElem? er
      refine ⟨_, rfl, t, rfl, ⟨_, SqT.of ht⟩, for_it walk_tup (fun j σ H4 => ∃ v, σ = [some (.ref a), some (.ref t), v, none] ∧ H4 = H3 ∧ (0 < j → nbD r.1 = false) ∧ (1 < j → nbD r.2 = false)) ⟨_, rfl, rfl, fun z => absurd z (Nat.lt_irrefl 0), fun z => absurd z (by decide)⟩ (fun j σ H4 _ ⟨_, _, e, _⟩ => by rw [e]; exact SqT.of ht) ?_ ?_⟩
      · rintro j y σ H4 H5 hj ⟨v, rfl, rfl, n1, n2⟩ ⟨rfl, hy⟩
        have key : ∃ d, Da H5 y d ∧ (nbD d = true → nbD r.1 = true ∨ nbD r.2 = true) ∧ (nbD d = false → (0 < j + 1 → nbD r.1 = false) ∧ (1 < j + 1 → nbD r.2 = false)) := by
          match j, hj, hy with
          | 0, _, hy =>
            obtain rfl : x1 = y := by simpa using hy
            exact ⟨r.1, d1, .inl, fun z => ⟨fun _ => z, fun q => absurd q (by decide)⟩⟩
          | 1, _, hy =>
            obtain rfl : x2 = y := by simpa using hy
            exact ⟨r.2, d2, .inr, fun z => ⟨fun _ => n1 (by decide), fun _ => z⟩⟩
        obtain ⟨d, hd, kt, kf⟩ := key
        refine ⟨_, rfl, rfl, _, rfl, ?_⟩
        rw [nb_is hd]
        cases z : noneB d with
        | true =>
          exact iteT (iteT ⟨small100 (by simp), fun p hp => oS (Same.refl _) (k1 ⟨r, hm, kt (nb_of_none z)⟩) p hp⟩)
        | false =>
          refine iteF ⟨_, rfl, _, "bool", tyD d, decide (tyD d = "bool"), rfl, hd.ty, kt_bool d, _, rfl, ?_⟩
          by_cases z2 : tyD d = "bool"
          · rw [decide_eq_true z2]
            refine iteT ⟨small100 (by simp), fun p hp => oS (Same.refl _) (k1 ⟨r, hm, kt (nb_of_ty z2)⟩) p hp⟩
          · rw [decide_eq_false z2]
            have : nbD d = false := nb_of_no z z2
            exact iteF ⟨_, rfl, rfl, kf this⟩
      · rintro σ H4 ⟨v, rfl, rfl, n1, n2⟩
        refine ⟨_, _, rfl, rfl, fun r' hr' => ?_⟩
        rw [List.take_add_one, er] at hr'
        rcases List.mem_append.mp hr' with q | q
        · exact hn r' q
        · rw [List.mem_singleton.mp q]
          exact ⟨n1 (show 0 < 2 by decide), n2 (show 1 < 2 by decide)⟩
    · rintro σ H2 ⟨u, v, rfl, rfl, hn⟩
      rw [lx, List.take_of_length_le (Nat.le_refl _)] at hn
      obtain ⟨hkd, hbad, k3⟩ := k2 hn
      by_cases h1 : 1 ≤ rs.length
      case neg =>
        refine ⟨_, rfl, a, xs, rfl, .inl sxs, _, _, rfl, rfl, false, ?_, iteF ⟨false, rfl, iteT ⟨small100 (by simp), fun p hp => oS (Same.refl _) k3 p hp⟩⟩⟩
        show V.bl (decide ((1 : Int) ≤ (xs.length : Int))) = V.bl false
        rw [decide_eq_false (by omega)]
      case pos =>
      by_cases h4 : rs.length ≤ 4
      case neg =>
        refine ⟨_, rfl, a, xs, rfl, .inl sxs, _, _, rfl, rfl, true, ?_, iteT ⟨_, _, rfl, rfl, false, ?_, iteT ⟨small100 (by simp), fun p hp => oS (Same.refl _) k3 p hp⟩⟩⟩
        · show V.bl (decide ((1 : Int) ≤ (xs.length : Int))) = V.bl true
          rw [decide_eq_true (by omega)]
        · show V.bl (decide ((xs.length : Int) ≤ (4 : Int))) = V.bl false
          rw [decide_eq_false (by omega)]
      case pos =>
      refine ⟨_, rfl, a, xs, rfl, .inl sxs, _, _, rfl, rfl, true, ?_, iteT ⟨_, _, rfl, rfl, true, ?_, iteF ?_⟩⟩
      · show V.bl (decide ((1 : Int) ≤ (xs.length : Int))) = V.bl true
        rw [decide_eq_true (by omega)]
      · show V.bl (decide ((xs.length : Int) ≤ (4 : Int))) = V.bl true
        rw [decide_eq_true (by omega)]
      refine ⟨_, rfl, a, xs, rfl, .inl sxs, 1, (xs.length : Int), rfl, ⟨by decide, by decide, by omega, by omega⟩, ?_⟩
      have en : ((xs.length : Int) - 1).toNat = rs.length - 1 := by omega
      rw [en]
      refine for_it walk_range (fun i σ H3 => ∃ u v z, σ = [some (.ref a), u, v, z] ∧ Same H2 H3 ∧ ∀ k a b, k < i → rs[k]? = some a → rs[k + 1]? = some b → ah a.1 b.1 = true)
        ⟨_, _, _, rfl, Same.refl _, fun k _ _ hk => absurd hk (Nat.not_lt_zero k)⟩ (fun _ _ _ _ _ => True.intro) ?_ ?_
      · rintro i x σ H3 H4 hi ⟨u, v, z, rfl, s3, ha3⟩ ⟨rfl, rfl⟩
        have hi1 : i < rs.length := by omega
        have hi2 : i + 1 < rs.length := by omega
        obtain ⟨y1, e1, d1⟩ := rows_get hda (List.getElem?_eq_getElem hi1)
        obtain ⟨y2, e2, d2⟩ := rows_get hda (List.getElem?_eq_getElem hi2)
        obtain ⟨t1, a1, b1, rfl, ht1, da1, _⟩ := row_of d1
        obtain ⟨t2, a2, b2, rfl, ht2, da2, _⟩ := row_of d2
        refine ⟨_, rfl, _, rfl, _, _, rfl, rfl, a, xs, (i : Int), .ref t1, rfl, ?_, s3.seq sxs, atI_nat e1, ?_⟩
        · show V.int (1 + (i : Int) - 1) = V.int (i : Int)
          rw [show 1 + (i : Int) - 1 = (i : Int) by omega]
        refine ⟨t1, _, 0, a1, rfl, rfl, SqT.of (s3 _ _ ht1), atI_nat (j := 0) rfl, ?_⟩
        refine ⟨_, rfl, _, rfl, a, xs, ((i + 1 : Nat) : Int), .ref t2, rfl, ?_, s3.seq sxs, atI_nat e2, ?_⟩
        · show V.int (1 + (i : Int)) = V.int ((i + 1 : Nat) : Int)
          rw [show 1 + (i : Int) = ((i + 1 : Nat) : Int) by omega]
        refine ⟨t2, _, 0, a2, rfl, rfl, SqT.of (s3 _ _ ht2), atI_nat (j := 0) rfl, ?_⟩
        refine ⟨a1, a2, _, _, rfl, da1.same s3, da2.same s3, hkd _ (List.getElem_mem hi1), hkd _ (List.getElem_mem hi2), fun H5 s5 => ⟨_, rfl, ?_⟩⟩
        cases e : ah (rs[i]).1 (rs[i + 1]).1 with
        | false => exact iteT ⟨small100 (by simp), fun p hp => oS (s3.trans s5) k3 p hp⟩
        | true =>
          refine iteF ⟨_, _, _, rfl, s3.trans s5, fun k a b hk ea eb => ?_⟩
          by_cases hk2 : k < i
          · exact ha3 k a b hk2 ea eb
          · have ek : k = i := by omega
            subst ek
            rw [List.getElem?_eq_getElem hi1] at ea
            rw [List.getElem?_eq_getElem hi2] at eb
            cases ea
            cases eb
            exact e
      · rintro σ H3 ⟨u, v, z, rfl, s3, ha3⟩
        exfalso
        rcases hbad with q | q | q
        · omega
        · omega
        · exact q fun k a b ea eb => ha3 k a b (by have := (List.getElem?_eq_some_iff.mp eb).1; omega) ea eb
end
end Tw

namespace Tw
open PySem PySem.Spec PyProof.Rows L2 He
/-! ### keys can be laid, are shallow -/
theorem canAll_of {ds : List PyData} (h : ∀ d ∈ ds, d.canLay0 = true) : PyData.canLayAll0 ds = true := by
  induction ds with
  | nil => simp only [PyData.canLayAll0]
  | cons d ds ih =>
    simp only [PyData.canLayAll0, Bool.and_eq_true]
    exact ⟨h d List.mem_cons_self, ih fun e he => h e (List.mem_cons_of_mem _ he)⟩
theorem txt_ok {x : Str} (h : isTxt (.str x) = true) : (PyData.str x).canLay0 = true := by
  have h' : (decide (x.length ≤ 40) && x.cps.toList.all okC) = true := h
  rw [Bool.and_eq_true, List.all_eq_true] at h'
  show x.cps.all _ = true
  rw [← Array.all_toList, List.all_eq_true]
  intro c hc
  have q := h'.2 c hc
  unfold okC at q
  rw [Bool.and_eq_true, decide_eq_true_eq, decide_eq_true_eq] at q
  exact decide_eq_true (by omega)
theorem isW_lay : ∀ (r : Nat) (d : PyData), isW r d = true → d.canLay0 = true ∧ d.depth ≤ r
  | 0, d, h => by
    have h' : (isNum d || isTxt d) = true := h
    rw [Bool.or_eq_true] at h'
    rcases h' with h' | h'
    · obtain ⟨i, rfl⟩ := isNum_int h'
      exact ⟨by simp only [PyData.canLay0], by simp only [PyData.depth]; omega⟩
    · obtain ⟨x, rfl, hx⟩ := isTxt_str h'
      exact ⟨txt_ok h', by simp only [PyData.depth]; omega⟩
  | r + 1, d, h => by
    cases d with
    | int i => exact ⟨by simp only [PyData.canLay0], by simp only [PyData.depth]; omega⟩
    | str x =>
      have h' : (false || (isTxt (.str x)) || false) = true := h
      rw [Bool.false_or, Bool.or_false] at h'
      exact ⟨txt_ok h', by simp only [PyData.depth]; omega⟩
    | tuple ds =>
      rw [isW_tup, Bool.and_eq_true, List.all_eq_true] at h
      refine ⟨?_, ?_⟩
      · simp only [PyData.canLay0]
        exact canAll_of fun d hd => (isW_lay r d (h.2 d hd)).1
      · rw [depth_tup]
        have := depthAll_le (n := r) fun d hd => (isW_lay r d (h.2 d hd)).2
        omega
    | none => cases h
    | bool b => cases h
    | list xs => cases h
    | dict xs => cases h
theorem shaped_of {d : PyData} (h1 : d.canLay0 = true) (h2 : d.depth ≤ 64) : SeqAt.shaped d = true := by
  show (_ && decide _) = true
  rw [h1, decide_eq_true h2]
  rfl
theorem depth_lst (ds : List PyData) : (PyData.list ds).depth = PyData.depthAll ds + 1 := by simp only [PyData.depth]
theorem shaped_keys {ds : List PyData} (h : ∀ d ∈ ds, isW 3 d = true) : SeqAt.shaped (.list ds) = true := by
  refine shaped_of ?_ ?_
  · simp only [PyData.canLay0]
    exact canAll_of fun d hd => (isW_lay 3 d (h d hd)).1
  · rw [depth_lst]
    have := depthAll_le (n := 3) fun d hd => (isW_lay 3 d (h d hd)).2
    omega
theorem shaped_rows {rs : List Row} (h : ∀ r ∈ rs, okK r) : SeqAt.shaped (.list (rs.map rowD)) = true := by
  have q : ∀ d ∈ rs.map rowD, d.canLay0 = true ∧ d.depth ≤ 4 := fun d hd => by
    obtain ⟨r, hr, rfl⟩ := List.mem_map.mp hd
    obtain ⟨a1, a2⟩ := isW_lay 3 _ (h r hr).1
    obtain ⟨b1, b2⟩ := isW_lay 3 _ (h r hr).2
    refine ⟨?_, ?_⟩
    · unfold rowD
      simp only [PyData.canLay0, PyData.canLayAll0, a1, b1, Bool.and_self]
    · unfold rowD
      simp only [depth_tup, PyData.depthAll]
      omega
  refine shaped_of ?_ ?_
  · simp only [PyData.canLay0]
    exact canAll_of fun d hd => (q d hd).1
  · rw [depth_lst]
    have := depthAll_le (n := 4) fun d hd => (q d hd).2
    omega
theorem eqv_rows (rs : List Row) : PyData.eqv (.list (rs.map rowD)) (.list []) = rs.isEmpty := by
  cases rs with
  | nil => simp [PyData.eqv, PyData.eqvAll]
  | cons n ns => simp [PyData.eqv, PyData.eqvAll]
/-- keys that rise -/
def RiG (gd : List PyData) : Prop := ∀ (i j : Nat) (a b : PyData), i < j → gd[i]? = some a → gd[j]? = some b → ah a b = true
theorem ris_snoc {rs : List Row} {r : Row} (h : Ris rs) (k : ∀ q ∈ rs, ah q.1 r.1 = true) : Ris (rs ++ [r]) := fun i a b ea eb => by
  by_cases h1 : i + 1 < rs.length
  · rw [List.getElem?_append_left (by omega)] at ea
    rw [List.getElem?_append_left h1] at eb
    exact h i a b ea eb
  · by_cases h2 : i + 1 = rs.length
    · rw [List.getElem?_append_left (by omega)] at ea
      rw [List.getElem?_append_right (by omega), show i + 1 - rs.length = 0 by omega] at eb
      simp at eb
      subst eb
      exact k a (List.mem_of_getElem? ea)
    · rw [List.getElem?_eq_none (by rw [List.length_append]; simp; omega)] at eb
      cases eb
section
variable {P : Program} {w : World} {K : PySem.W.Frag} {mg : Str → Option Value} {base : Heap}
/-- what is written in the rows' second places -/
def valsD : List PyData := [.int 0, .int 1, .str "v", .str "", .tuple [], .tuple [.int 1, .str "a"]]
theorem vals_ok : ∀ d ∈ valsD, isW 3 d = true := by decide +kernel
theorem w_ok : isW 3 (.str "w") = true := by decide +kernel
def spLR4 (K : PySem.W.Frag) : Sp := fun vs H Q _ => ∃ (wl aG : Addr) (xs : List V) (gd : List PyData) (bl : Int), vs = [.ref wl, .ref aG, .int bl] ∧ WellAt wl H ∧ H aG = some (.lst xs) ∧ DaL H xs gd ∧ aG ≠ wl ∧ gd.length = 64 ∧ RiG gd ∧ (∀ k ∈ gd, isW 3 k = true) ∧ 0 ≤ bl ∧ bl ≤ 15 ∧
  ∀ H' p ys rs, H p = none → H' p = some (.lst ys) → DaL H' ys (rs.map rowD) → 1 ≤ rs.length → rs.length ≤ 4 → (∀ r ∈ rs, okK r) → Ris rs → (∀ r ∈ rs, r.1 ∈ gd) → WellAt wl H' → Fr (fun b => b = wl) H H' → Q (.ref p) H'
theorem sc_lr4 : FnScope ["_law_well_here", "_law_grid_here", "_law_block", "_law_rows", "_law_j"] ["_law_well_here", "_law_grid_here", "_law_block"] d_l_leaf_rows.scope := ⟨rfl, rfl, rfl, by decide +kernel, rfl, by decide +kernel, by decide +kernel⟩
theorem ok_lr4 (T : Tx K mg) : Okd P w K mg base CX0 2 d_l_leaf_rows ["_law_well_here", "_law_grid_here", "_law_block"] (spLR4 K) := by
  refine okd0 T in_l_leaf_rows sc_lr4 (fun _ _ _ _ _ _ us hl => match us, hl with | [_, _, _], _ => rfl) (fun vs H Q E h => ?_) (fun cdv A outer s H vs Q E hr h => ?_)
  · obtain ⟨wl, aG, xs, gd, bl, rfl, _⟩ := h
    rfl
  · obtain ⟨wl, aG, xs, gd, bl, rfl, W, hG, hgd, hne, h64, hri, hok, hb0, hb15, k⟩ := h
    have lx := hgd.length
    refine ⟨_, pss_cons (ps_set (i := 3) sc_lr4.nd rfl (Or.inl rfl) (pe_lst pa_nil))
      (pss_cons (ps_for PassesOwn.never rfl (pi_range1 (by rfl) (T.f "range") (pa_cons pe_int pa_nil)) (pg_name (i := 4) sc_lr4.nd rfl (Or.inl rfl))
        (pss_one (ps_if (pt_cmpR op_gt (pcl (ok_pull T) hr pass0 (pa_cons (pv 0) (pa_cons pe_int pa_nil)) (T.g "_law_pull")) pe_int (nomark _))
          (pss_one (ps_expr (pe_bm PySem.F.plainAttrs_list PySem.F.slot_list_append PySem.F.type_list_append mt_append (pv 3) (pa_cons (pe_tup (pa_cons (pe_ix ix_list (pv 1) (pe_op op_add (pe_op op_mul pe_int (pv 2)) (pv 4)) (fun _ _ => rfl))
            (pa_cons (pe_ix ix_list (pe_lst (pa_cons pe_int (pa_cons pe_int (pa_cons pe_str (pa_cons pe_str (pa_cons (pe_tup pa_nil) (pa_cons (pe_tup (pa_cons pe_int (pa_cons pe_str pa_nil))) pa_nil))))))) (pcl (ok_pull T) hr pass0 (pa_cons (pv 0) (pa_cons pe_int pa_nil)) (T.g "_law_pull")) (fun _ _ => rfl)) pa_nil))) pa_nil)))) pss_nil)))
      (pss_cons (ps_if (pt_cmpR (op_eqD hr.units) (pv 3) (pe_lst pa_nil) (nomark _))
        (pss_one (ps_expr (pe_bm PySem.F.plainAttrs_list PySem.F.slot_list_append PySem.F.type_list_append mt_append (pv 3) (pa_cons (pe_tup (pa_cons (pe_ix ix_list (pv 1) (pe_op op_add (pe_op op_mul pe_int (pv 2)) (pcl (ok_pull T) hr pass0 (pa_cons (pv 0) (pa_cons pe_int pa_nil)) (T.g "_law_pull"))) (fun _ _ => rfl)) (pa_cons pe_str pa_nil))) pa_nil)))) pss_nil)
      (pss_one (ps_ret (pv 3))))), ?_⟩
    refine ⟨Nat.zero_le _, fun p hp => ?_⟩
    have F1 : Fr (fun b => b = wl) H (upd H p (.lst [])) := Fr.of (same_upd hp)
    have hpw : p ≠ wl := fun z => by
      obtain ⟨_, e⟩ := W.sq (K := K)
      rw [z, e] at hp
      cases hp
    have hGp : aG ≠ p := ne_of_none hG hp
    -- a key of the block
    have kat : ∀ (j : Int), 0 ≤ j → j < 4 → ∃ (n : Nat) (y : V) (d : PyData), 4 * bl + j = (n : Int) ∧ xs[n]? = some y ∧ gd[n]? = some d ∧ Da H y d := fun j h0 h4 => by
      obtain ⟨n, en⟩ := Int.eq_ofNat_of_zero_le (show 0 ≤ 4 * bl + j by omega)
      have hn : n < gd.length := by omega
      obtain ⟨y, e1, e2⟩ := hgd.get (List.getElem?_eq_getElem hn)
      exact ⟨n, y, _, en, e1, List.getElem?_eq_getElem hn, e2⟩
    refine ⟨_, rfl, by decide, by decide, for_it walk_range (fun i σ H2 => ∃ ys rs z, σ = [some (.ref wl), some (.ref aG), some (.int bl), some (.ref p), z] ∧ WellAt wl H2 ∧ Fr (fun b => b = wl) H H2 ∧ H2 p = some (.lst ys) ∧ DaL H2 ys (rs.map rowD) ∧ rs.length ≤ i ∧ (∀ r ∈ rs, okK r) ∧ Ris rs ∧ (∀ r ∈ rs, ∃ n : Nat, (n : Int) < 4 * bl + i ∧ gd[n]? = some r.1))
      ⟨[], [], none, rfl, W.fr (M := M0) (Fr.of (same_upd hp)) (fun z => z), F1, upd_same, .nil, Nat.le_refl _, (fun r hr => nomatch hr), (fun i a b ea => nomatch ea), (fun r hr => nomatch hr)⟩ (fun _ _ _ _ _ => True.intro) ?_ ?_⟩
    · rintro i x σ H2 H3 hi ⟨ys, rs, z, rfl, W2, F2, hp2, hy2, hl2, ok2, ri2, key2⟩ ⟨rfl, rfl⟩
      have hi4 : i < 4 := hi
      refine ⟨_, rfl, wl, 3, rfl, W2, by decide, by decide, fun r1 H4 r10 r13 W4 F4 => ?_⟩
      have F24 : Fr (fun b => b = wl) H H4 := F2.trans F4
      have hp4 := F4.at hpw hp2
      have hy4 := hy2.fr F4
      refine ⟨_, _, rfl, rfl, _, rfl, ite2 (fun h1 => ?_) (fun h1 => ?_)⟩
      · obtain ⟨n, y, d, en, e1, e2, e3⟩ := kat (0 + (i : Int)) (by omega) (by omega)
        refine ⟨_, rfl, .inl ⟨rfl, _, SqL.of hp4⟩, _, rfl, _, rfl, _, _, rfl, rfl, .inl ⟨by decide, by decide⟩, _, rfl, _, _, rfl, rfl, aG, xs, (n : Int), y, rfl, congrArg V.int en, SqL.of (F24.at hne hG), atI_nat e1, ?_⟩
        refine ⟨Nat.zero_le _, fun t0 ht0 => ⟨small100 (by simp), fun t1 ht1 => ⟨small100 (by simp), fun l hl => ?_⟩⟩⟩
        have s5 : Same H4 (upd (upd (upd H4 t0 (.tup [])) t1 (.tup [.int 1, .str "a"])) l (.lst [.int 0, .int 1, .str "v", .str "", .ref t0, .ref t1])) := (same_upd ht0).trans ((same_upd ht1).trans (same_upd hl))
        have l5 : (upd (upd (upd H4 t0 (.tup [])) t1 (.tup [.int 1, .str "a"])) l (.lst [.int 0, .int 1, .str "v", .str "", .ref t0, .ref t1])) l = some (.lst [.int 0, .int 1, .str "v", .str "", .ref t0, .ref t1]) := upd_same
        have v5 : DaL (upd (upd (upd H4 t0 (.tup [])) t1 (.tup [.int 1, .str "a"])) l (.lst [.int 0, .int 1, .str "v", .str "", .ref t0, .ref t1])) [.int 0, .int 1, .str "v", .str "", .ref t0, .ref t1] valsD := by
          have a1 : (upd (upd (upd H4 t0 (.tup [])) t1 (.tup [.int 1, .str "a"])) l (.lst [.int 0, .int 1, .str "v", .str "", .ref t0, .ref t1])) t0 = some (.tup []) := (same_upd hl) _ _ ((same_upd ht1) _ _ upd_same)
          have a2 : (upd (upd (upd H4 t0 (.tup [])) t1 (.tup [.int 1, .str "a"])) l (.lst [.int 0, .int 1, .str "v", .str "", .ref t0, .ref t1])) t1 = some (.tup [.int 1, .str "a"]) := (same_upd hl) _ _ upd_same
          exact .cons (.int 0) (.cons (.int 1) (.cons (.str _) (.cons (.str _) (.cons (.tup a1 .nil) (.cons (.tup a2 (.cons (.int 1) (.cons (.str _) .nil))) .nil)))))
        have sa : Same H4 (upd H4 t0 (.tup [])) := same_upd ht0
        have sb : Same (upd H4 t0 (.tup [])) (upd (upd H4 t0 (.tup [])) t1 (.tup [.int 1, .str "a"])) := same_upd ht1
        have hlw : l ≠ wl := fun z => by
          obtain ⟨_, e⟩ := W4.sq (K := K)
          have e' := sb _ _ (sa _ _ e)
          rw [z, e'] at hl
          cases hl
        have hlH : H l = none := (F24.trans (Fr.of (sa.trans sb))).free hlw hl
        generalize upd (upd (upd H4 t0 (.tup [])) t1 (.tup [.int 1, .str "a"])) l (.lst [.int 0, .int 1, .str "v", .str "", .ref t0, .ref t1]) = H5 at s5 l5 v5 ⊢
        refine ⟨_, rfl, wl, 6, rfl, W4.same s5, by decide, by decide, fun r2 H6 r20 r26 W6 F6 => ?_⟩
        obtain ⟨m, rfl⟩ := Int.eq_ofNat_of_zero_le r20
        have hm : m < valsD.length := by show m < 6; omega
        obtain ⟨y2, f1, f2⟩ := (v5.fr F6).get (List.getElem?_eq_getElem hm)
        refine ⟨l, _, (m : Int), y2, rfl, rfl, SqL.of (F6.at hlw l5), atI_nat f1, small100 (by simp), fun q hq => ?_⟩
        have F46 : Fr (fun b => b = wl) H4 H6 := (Fr.of s5).trans F6
        have F26 := F24.trans F46
        have hp6 := F46.at hpw hp4
        have s7 : Same H6 (upd H6 q (.tup [y, y2])) := same_upd hq
        have hp7 := s7 _ _ hp6
        refine ⟨p, ys, .ref q, rfl, rfl, hp7, ?_, ys ++ [.ref q], rs ++ [(d, valsD[m])], _, rfl, ?_, ?_, upd_same, ?_, ?_, ?_, ?_, ?_⟩
        · have := hy4.length
          rw [List.length_map] at this
          rw [this, sizeLine_eq]
          omega
        · exact (W6.same s7).fr (M := fun b => b = p) ((Fr.refl _).put rfl hp7 True.intro) hpw.symm
        · exact (F26.trans (Fr.of s7)).lay hp
        · rw [List.map_append]
          refine DaL.updl hp7 (DaL.app ((hy4.fr F46).same s7) (.cons (.tup upd_same (.cons ((e3.fr F26).same s7) (.cons (f2.same s7) .nil))) .nil))
        · rw [List.length_append]
          simp
          omega
        · intro r hr
          rcases List.mem_append.mp hr with q | q
          · exact ok2 r q
          · rw [List.mem_singleton.mp q]
            exact ⟨hok d (List.mem_of_getElem? e2), vals_ok _ (List.getElem_mem hm)⟩
        · refine ris_snoc ri2 fun r hr => ?_
          obtain ⟨n', hn', en'⟩ := key2 r hr
          exact hri n' n r.1 d (by omega) en' e2
        · intro r hr
          rcases List.mem_append.mp hr with q | q
          · obtain ⟨n', hn', en'⟩ := key2 r q
            exact ⟨n', by omega, en'⟩
          · rw [List.mem_singleton.mp q]
            exact ⟨n, by omega, e2⟩
      · refine ⟨ys, rs, _, rfl, W4, F24, hp4, hy4, by omega, ok2, ri2, fun r hr => ?_⟩
        obtain ⟨n', hn', en'⟩ := key2 r hr
        exact ⟨n', by omega, en'⟩
    · rintro σ H2 ⟨ys, rs, z, rfl, W2, F2, hp2, hy2, hl2, ok2, ri2, key2⟩
      have hl4 : rs.length ≤ 4 := hl2
      refine ⟨_, rfl, Nat.zero_le _, fun q hq => ?_⟩
      have s3 : Same H2 (upd H2 q (.lst [])) := same_upd hq
      refine ⟨.list (rs.map rowD), .list [], .lst (SqL.of (s3 _ _ hp2)) ((hy2.same s3).dp _ _), .lst (SqL.of upd_same) .nil, shaped_rows ok2, shaped_ints [], _, rfl, ?_⟩
      rw [eqv_rows]
      have hp3 := s3 _ _ hp2
      have hy3 := hy2.same s3
      have W3 := W2.same s3
      have F3 : Fr (fun b => b = wl) H (upd H2 q (.lst [])) := F2.trans (Fr.of s3)
      generalize upd H2 q (.lst []) = H3 at hp3 hy3 W3 F3 ⊢
      have kin : ∀ {rs : List Row}, (∀ r ∈ rs, ∃ n : Nat, (n : Int) < 4 * bl + 4 ∧ gd[n]? = some r.1) → ∀ r ∈ rs, r.1 ∈ gd := fun h r hr => by
        obtain ⟨n', _, en'⟩ := h r hr
        exact List.mem_of_getElem? en'
      cases rs with
      | cons r rs' =>
        exact iteF ⟨_, rfl, k H3 p ys _ hp hp3 hy3 (by simp) hl4 ok2 ri2 (kin key2) W3 F3⟩
      | nil =>
        cases hy3
        refine iteT ⟨_, rfl, .inl ⟨rfl, _, SqL.of hp3⟩, _, rfl, _, rfl, _, _, rfl, rfl, .inl ⟨by decide, by decide⟩, _, rfl, wl, 4, rfl, W3, by decide, by decide, fun r1 H4 r10 r14 W4 F4 => ?_⟩
        obtain ⟨n, y, d, en, e1, e2, e3⟩ := kat r1 r10 r14
        have F34 := F3.trans F4
        have hp4 := F4.at hpw hp3
        refine ⟨_, _, rfl, rfl, aG, xs, (n : Int), y, rfl, congrArg V.int en, SqL.of (F34.at hne hG), atI_nat e1, small100 (by simp), fun t ht => ?_⟩
        have s5 : Same H4 (upd H4 t (.tup [y, .str "w"])) := same_upd ht
        have hp5 := s5 _ _ hp4
        refine ⟨p, [], .ref t, rfl, rfl, hp5, by rw [sizeLine_eq]; decide, _, rfl, k _ p [.ref t] [(d, .str "w")] hp upd_same ?_ (by simp) (by simp) ?_ ?_ ?_ ?_ ?_⟩
        · exact DaL.updl hp5 (.cons (.tup upd_same (.cons ((e3.fr F34).same s5) (.cons (.str _) .nil))) .nil)
        · intro r hr
          rw [List.mem_singleton.mp hr]
          exact ⟨hok d (List.mem_of_getElem? e2), w_ok⟩
        · intro i a b ea eb
          simp at eb
        · intro r hr
          rw [List.mem_singleton.mp hr]
          exact List.mem_of_getElem? e2
        · exact (W4.same s5).fr (M := fun b => b = p) ((Fr.refl _).put rfl hp5 True.intro) hpw.symm
        · exact (F34.trans (Fr.of s5)).lay hp
end
end Tw

namespace Tw
open PySem PySem.Spec PyProof.Rows L2 He
/-! ### the grid's keys -/
def sgS : Str := "!#$&()*+,-./0123456789:;<=>?@ABCDEFGHIJKLMNOPQRSTUVWXYZ"
def sgL : List Nat := sgS.cps.toList
def sgc (i : Nat) : Nat := sgL.getD i 0
theorem sg_len : sgL.length = 55 := by decide +kernel
theorem sg_lt : ∀ j < 54, ∀ i < j, sgc i < sgc j := by decide +kernel
theorem sg_ok : ∀ j < 54, okC (sgc j) = true := by decide +kernel
def tailS (j : Nat) : Str := if j % 2 = 1 then "a" else Str.empty
def keyS (j : Nat) (s : Int) : Str := (("k" ++ (⟨#[sgc (s / 50).toNat]⟩ : Str)) ++ (⟨#[sgc (s % 50).toNat]⟩ : Str)) ++ tailS j
def tailT (j : Nat) : List PyData := if j % 2 = 1 then [.int 0] else []
def gkD (one two : Int) (j : Nat) (s : Int) : PyData := if (j : Int) < one then .int (s - 700) else if (j : Int) < two then .str (keyS j s) else .tuple (.str "" :: .int s :: tailT j)
theorem cps_app (a b : Str) : (a ++ b).cps.toList = a.cps.toList ++ b.cps.toList := by
  show (a.cps ++ b.cps).toList = _
  simp
theorem cps_one (c : Nat) : (⟨#[c]⟩ : Str).cps.toList = [c] := rfl
theorem key_cps (j : Nat) (s : Int) : (keyS j s).cps.toList = 107 :: sgc (s / 50).toNat :: sgc (s % 50).toNat :: (tailS j).cps.toList := by
  unfold keyS
  rw [cps_app, cps_app, cps_app, cps_one, cps_one]
  rfl
theorem key_lt {n i : Nat} {s s' : Int} (h0 : 0 ≤ s) (h : s < s') (h1 : s' ≤ 1300) : (keyS n s).cps.toList < (keyS i s').cps.toList := by
  rw [key_cps, key_cps]
  refine List.Lex.cons ?_
  by_cases z : s / 50 < s' / 50
  · exact List.Lex.rel (sg_lt _ (by omega) _ (by omega))
  · have e : s / 50 = s' / 50 := by omega
    rw [e]
    refine List.Lex.cons (List.Lex.rel (sg_lt _ (by omega) _ (by omega)))
theorem gk_lt {one two : Int} {n i : Nat} {s s' : Int} (hni : n < i) (h0 : 0 ≤ s) (h : s < s') (h1 : s' ≤ 1300) (h12 : one ≤ two) : ah (gkD one two n s) (gkD one two i s') = true := by
  unfold gkD
  by_cases a1 : (n : Int) < one
  · rw [if_pos a1]
    by_cases b1 : (i : Int) < one
    · rw [if_pos b1]
      exact ah_int (by omega)
    · rw [if_neg b1]
      by_cases b2 : (i : Int) < two
      · rw [if_pos b2]
        exact ah_int_str _ _
      · rw [if_neg b2]
        exact ah_int_tup _ _
  · rw [if_neg a1, if_neg (show ¬ (i : Int) < one by omega)]
    by_cases a2 : (n : Int) < two
    · rw [if_pos a2]
      by_cases b2 : (i : Int) < two
      · rw [if_pos b2]
        exact ah_str (key_lt h0 h h1)
      · rw [if_neg b2]
        exact ah_str_tup _ _
    · rw [if_neg a2, if_neg (show ¬ (i : Int) < two by omega)]
      exact ah_tup h
theorem gk_ok {one two : Int} {j : Nat} {s : Int} (h0 : 0 ≤ s) (h1 : s ≤ 1300) : isW 3 (gkD one two j s) = true := by
  unfold gkD
  have num : ∀ (r : Nat) (i : Int), -2000 < i → i < 2000 → isW r (.int i) = true := fun r i a b => isW_base r _ (by
    show (decide _ && decide _ || false) = true
    rw [decide_eq_true (by omega), decide_eq_true (by omega)]
    rfl)
  by_cases a1 : (j : Int) < one
  · rw [if_pos a1]
    exact num 3 _ (by omega) (by omega)
  · rw [if_neg a1]
    by_cases a2 : (j : Int) < two
    · rw [if_pos a2]
      refine isW_base 3 _ ?_
      show (false || (decide ((keyS j s).cps.size ≤ 40) && (keyS j s).cps.toList.all okC)) = true
      rw [← Array.length_toList, key_cps, Bool.false_or, Bool.and_eq_true]
      have ht : (tailS j).cps.toList.length ≤ 1 ∧ (tailS j).cps.toList.all okC = true := by
        unfold tailS
        split
        · exact ⟨by decide +kernel, by decide +kernel⟩
        · exact ⟨by decide +kernel, by decide +kernel⟩
      refine ⟨decide_eq_true (by simp only [List.length_cons]; omega), ?_⟩
      rw [List.all_cons, List.all_cons, List.all_cons, ht.2, sg_ok _ (by omega), sg_ok _ (by omega)]
      rfl
    · rw [if_neg a2, isW_tup]
      have ht : (tailT j).length ≤ 1 ∧ ∀ d ∈ tailT j, d = .int 0 := by
        unfold tailT
        split
        · exact ⟨by simp, fun d hd => List.mem_singleton.mp hd⟩
        · exact ⟨by simp, fun d hd => nomatch hd⟩
      rw [Bool.and_eq_true, List.all_eq_true]
      refine ⟨decide_eq_true (by simp only [List.length_cons]; omega), fun d hd => ?_⟩
      rcases List.mem_cons.mp hd with q | hd
      · rw [q]; decide +kernel
      · rcases List.mem_cons.mp hd with q | hd
        · rw [q]; exact num 2 _ (by omega) (by omega)
        · rw [ht.2 d hd]; exact num 2 _ (by decide) (by decide)
theorem len_app (a b : Str) : (a ++ b).length = a.length + b.length := by
  show (a.cps ++ b.cps).size = a.cps.size + b.cps.size
  simp
theorem len_k : ("k" : Str).length = 1 := by decide +kernel
theorem len_a : ("a" : Str).length = 1 := by decide +kernel
theorem len_1 (c : Nat) : (⟨#[c]⟩ : Str).length = 1 := rfl
theorem len_0 : Str.empty.length = 0 := by decide +kernel
theorem sg_at {i : Int} (h0 : 0 ≤ i) (h1 : i < 55) : atI sgS.cps.toList i = some (sgc i.toNat) := by
  obtain ⟨j, rfl⟩ := Int.eq_ofNat_of_zero_le h0
  refine atI_nat ?_
  have hj : j < sgL.length := by rw [sg_len]; omega
  show sgL[j]? = some (sgL.getD j 0)
  rw [List.getD_eq_getElem?_getD, List.getElem?_eq_getElem hj]
  rfl
theorem rig_snoc {gd : List PyData} {k : PyData} (h : RiG gd) (q : ∀ (n : Nat) (d : PyData), gd[n]? = some d → ah d k = true) : RiG (gd ++ [k]) := fun i j a b hij ea eb => by
  by_cases h1 : j < gd.length
  · rw [List.getElem?_append_left (by omega)] at ea
    rw [List.getElem?_append_left h1] at eb
    exact h i j a b hij ea eb
  · by_cases h2 : j = gd.length
    · rw [List.getElem?_append_left (by omega)] at ea
      rw [List.getElem?_append_right (by omega), show j - gd.length = 0 by omega] at eb
      simp at eb
      subst eb
      exact q i a ea
    · rw [List.getElem?_eq_none (by rw [List.length_append]; simp; omega)] at eb
      cases eb
section
variable {P : Program} {w : World} {K : PySem.W.Frag} {mg : Str → Option Value} {base : Heap}
def spGrid : Sp := fun vs H Q _ => ∃ (wl : Addr), vs = [.ref wl] ∧ WellAt wl H ∧
  ∀ H' p xs gd, H p = none → H' p = some (.lst xs) → DaL H' xs gd → gd.length = 64 → RiG gd → (∀ k ∈ gd, isW 3 k = true) → WellAt wl H' → Fr (fun b => b = wl) H H' → Q (.ref p) H'
theorem sc_grid : FnScope ["_law_well_here", "_law_signs", "_law_found", "_law_size", "_law_one", "_law_two", "_law_j"] ["_law_well_here"] d_l_grid.scope := ⟨rfl, rfl, rfl, by decide +kernel, rfl, by decide +kernel, by decide +kernel⟩
theorem ok_grid (T : Tx K mg) : Okd P w K mg base CX0 2 d_l_grid ["_law_well_here"] spGrid := by
  refine okd0 T in_l_grid sc_grid (fun _ _ _ _ _ _ us hl => match us, hl with | [_], _ => rfl) (fun vs H Q E h => ?_) (fun cdv A outer s H vs Q E hr h => ?_)
  · obtain ⟨wl, rfl, _⟩ := h
    rfl
  · obtain ⟨wl, rfl, W, k⟩ := h
    refine ⟨_, pss_cons (ps_set (i := 1) sc_grid.nd rfl (Or.inl rfl) pe_str)
      (pss_cons (ps_set (i := 2) sc_grid.nd rfl (Or.inl rfl) (pe_lst pa_nil))
      (pss_cons (ps_set (i := 3) sc_grid.nd rfl (Or.inl rfl) pe_int)
      (pss_cons (ps_set (i := 4) sc_grid.nd rfl (Or.inl rfl) (pcl (ok_pull T) hr pass0 (pa_cons (pv 0) (pa_cons pe_int pa_nil)) (T.g "_law_pull")))
      (pss_cons (ps_set (i := 5) sc_grid.nd rfl (Or.inl rfl) (pe_op op_add (pv 4) (pcl (ok_pull T) hr pass0 (pa_cons (pv 0) (pa_cons (pe_op op_sub pe_int (pv 4)) pa_nil)) (T.g "_law_pull"))))
      (pss_cons (ps_for PassesOwn.never rfl (pi_range1 (by rfl) (T.f "range") (pa_cons pe_int pa_nil)) (pg_name (i := 6) sc_grid.nd rfl (Or.inl rfl))
        (pss_cons (ps_set (i := 3) sc_grid.nd rfl (Or.inl rfl) (pe_op op_add (pe_op op_add (pv 3) pe_int) (pcl (ok_pull T) hr pass0 (pa_cons (pv 0) (pa_cons pe_int pa_nil)) (T.g "_law_pull"))))
        (pss_one (ps_if (pt_cmpR op_lt (pv 6) (pv 4) (nomark _))
          (pss_one (ps_expr (pe_bm PySem.F.plainAttrs_list PySem.F.slot_list_append PySem.F.type_list_append mt_append (pv 2) (pa_cons (pe_op op_sub (pv 3) pe_int) pa_nil))))
          (pss_one (ps_if (pt_cmpR op_lt (pv 6) (pv 5) (nomark _))
            (pss_one (ps_expr (pe_bm PySem.F.plainAttrs_list PySem.F.slot_list_append PySem.F.type_list_append mt_append (pv 2) (pa_cons (pe_op op_add_str (pe_op op_add_str (pe_op op_add_str pe_str (pe_ix ix_str (pv 1) (pe_op op_fdiv (pv 3) pe_int) (fun _ _ => rfl))) (pe_ix ix_str (pv 1) (pe_op op_mod (pv 3) pe_int) (fun _ _ => rfl))) (pe_op op_repS pe_str (pe_op op_mod (pv 6) pe_int))) pa_nil))))
            (pss_one (ps_expr (pe_bm PySem.F.plainAttrs_list PySem.F.slot_list_append PySem.F.type_list_append mt_append (pv 2) (pa_cons (pe_op op_catA (pe_tup (pa_cons pe_str (pa_cons (pv 3) pa_nil))) (pe_op op_rep01 (pe_tup (pa_cons pe_int pa_nil)) (pe_op op_mod (pv 6) pe_int))) pa_nil))))))))))
      (pss_one (ps_ret (pv 2)))))))), ?_⟩
    refine ⟨Nat.zero_le _, fun p hp => ?_⟩
    have s1 : Same H (upd H p (.lst [])) := same_upd hp
    have hpw : p ≠ wl := fun z => by
      obtain ⟨_, e⟩ := W.sq (K := K)
      rw [z, e] at hp
      cases hp
    have p1 : (upd H p (.lst [])) p = some (.lst []) := upd_same
    have W1 := W.same s1
    have F1 : Fr (fun b => b = wl) H (upd H p (.lst [])) := Fr.of s1
    generalize upd H p (.lst []) = H1 at p1 W1 F1 ⊢
    refine ⟨_, rfl, wl, 65, rfl, W1, by decide, by decide, fun one H2 o0 o65 W2 F2 => ?_⟩
    refine ⟨_, rfl, _, rfl, _, rfl, _, _, rfl, rfl, wl, 65 - one, rfl, W2, by omega, by omega, fun r2 H3 r20 r2m W3 F3 => ⟨_, _, rfl, rfl, ?_⟩⟩
    have h12 : one ≤ (one + r2) := by omega
    have F13 := F1.trans (F2.trans F3)
    have p3 := F3.at hpw (F2.at hpw p1)
    refine ⟨_, rfl, by decide, by decide, for_it walk_range (fun i σ H4 => ∃ (ys : List V) (gd : List PyData) (sz : Int) (z : Option V), σ = [some (.ref wl), some (.str sgS), some (.ref p), some (.int sz), some (.int one), some (.int (one + r2)), z] ∧ WellAt wl H4 ∧ Fr (fun b => b = wl) H H4 ∧ H4 p = some (.lst ys) ∧ DaL H4 ys gd ∧ gd.length = i ∧ RiG gd ∧ (∀ k ∈ gd, isW 3 k = true) ∧ 0 ≤ sz ∧ sz ≤ 20 * i ∧ ∀ (n : Nat) (d : PyData), gd[n]? = some d → ∃ s, 0 ≤ s ∧ s ≤ sz ∧ d = gkD one (one + r2) n s)
      ⟨[], [], 0, none, rfl, W3, F13, p3, .nil, rfl, (fun _ _ _ _ _ z => nomatch z), (fun _ z => nomatch z), by decide, by decide, (fun _ _ z => nomatch z)⟩ (fun _ _ _ _ _ => True.intro) ?_ ?_⟩
    · rintro i x σ H4 H5 hi ⟨ys, gd, sz, z, rfl, W4, F4, p4, y4, l4, ri4, ok4, z0, z1, at4⟩ ⟨rfl, rfl⟩
      have hi64 : i < 64 := hi
      refine ⟨_, rfl, _, _, rfl, rfl, _, rfl, wl, 20, rfl, W4, by decide, by decide, fun r H6 r0 r20 W6 F6 => ⟨_, _, rfl, rfl, ?_⟩⟩
      have hz1 : sz < (sz + 1 + r) := by omega
      have hz2 : (sz + 1 + r) ≤ 20 * (i + 1 : Nat) := by omega
      have F46 := F4.trans F6
      have p6 := F6.at hpw p4
      have y6 := y4.fr F6
      have ly := y6.length
      have step : ∀ (H7 : Hp) (v : V), Same H6 H7 → Da H7 v (gkD one (one + r2) i (sz + 1 + r)) → WellAt wl (upd H7 p (.lst (ys ++ [v]))) ∧ Fr (fun b => b = wl) H (upd H7 p (.lst (ys ++ [v]))) ∧ DaL (upd H7 p (.lst (ys ++ [v]))) (ys ++ [v]) (gd ++ [gkD one (one + r2) i (sz + 1 + r)]) := fun H7 v s7 hv =>
        ⟨(W6.same s7).fr (M := fun b => b = p) ((Fr.refl _).put rfl (s7 _ _ p6) True.intro) hpw.symm, (F46.trans (Fr.of s7)).lay hp, DaL.updl (s7 _ _ p6) (DaL.app (y6.same s7) (.cons hv .nil))⟩
      have pure1 : (gd ++ [gkD one (one + r2) i (sz + 1 + r)]).length = i + 1 ∧ RiG (gd ++ [gkD one (one + r2) i (sz + 1 + r)]) ∧ (∀ k ∈ gd ++ [gkD one (one + r2) i (sz + 1 + r)], isW 3 k = true) ∧ 0 ≤ (sz + 1 + r) ∧ (sz + 1 + r) ≤ 20 * (i + 1 : Nat) ∧ ∀ (n : Nat) (d : PyData), (gd ++ [gkD one (one + r2) i (sz + 1 + r)])[n]? = some d → ∃ s, 0 ≤ s ∧ s ≤ (sz + 1 + r) ∧ d = gkD one (one + r2) n s := by
        refine ⟨by rw [List.length_append, l4]; rfl, rig_snoc ri4 fun n d e => ?_, fun k hk => ?_, by omega, hz2, fun n d e => ?_⟩
        · obtain ⟨s, a, b, rfl⟩ := at4 n d e
          have := (List.getElem?_eq_some_iff.mp e).1
          exact gk_lt (by omega) a (by omega) (by omega) h12
        · rcases List.mem_append.mp hk with q | q
          · exact ok4 k q
          · rw [List.mem_singleton.mp q]
            exact gk_ok (by omega) (by omega)
        · by_cases hn : n < gd.length
          · rw [List.getElem?_append_left hn] at e
            obtain ⟨s, a, b, c⟩ := at4 n d e
            exact ⟨s, a, by omega, c⟩
          · by_cases hn2 : n = gd.length
            · rw [List.getElem?_append_right (by omega), show n - gd.length = 0 by omega] at e
              simp at e
              exact ⟨(sz + 1 + r), by omega, Int.le_refl _, by rw [← e, show n = i by omega]⟩
            · rw [List.getElem?_eq_none (by rw [List.length_append]; simp; omega)] at e
              cases e
      obtain ⟨q1, q2, q3, q4, q5, q6⟩ := pure1
      have hfull : ys.length < sizeLine := by rw [ly, l4, sizeLine_eq]; omega
      have ei : (0 : Int) + (i : Int) = (i : Int) := by omega
      refine ⟨_, rfl, _, rfl, _, _, rfl, rfl, _, rfl, ?_⟩
      rw [ei]
      by_cases a1 : (i : Int) < one
      · rw [decide_eq_true a1]
        have eg : gkD one (one + r2) i (sz + 1 + r) = .int ((sz + 1 + r) - 700) := by unfold gkD; rw [if_pos a1]
        obtain ⟨g1, g2, g3⟩ := step H6 (.int ((sz + 1 + r) - 700)) (Same.refl _) (by rw [eg]; exact .int _)
        refine iteT ⟨_, rfl, .inl ⟨rfl, _, SqL.of p6⟩, _, rfl, _, _, rfl, rfl, p, ys, _, rfl, rfl, p6, hfull, _, _, (sz + 1 + r), _, rfl, g1, g2, upd_same, g3, q1, q2, q3, q4, q5, q6⟩
      · rw [decide_eq_false a1]
        refine iteF ⟨_, rfl, _, rfl, _, _, rfl, rfl, _, rfl, ?_⟩
        rw [ei]
        have h01 : (i : Int) % 2 = 0 ∨ (i : Int) % 2 = 1 := by omega
        by_cases a2 : (i : Int) < (one + r2)
        · rw [decide_eq_true a2]
          have eg : gkD one (one + r2) i (sz + 1 + r) = .str (keyS i (sz + 1 + r)) := by unfold gkD; rw [if_neg a1, if_pos a2]
          obtain ⟨g1, g2, g3⟩ := step H6 (.str (keyS i (sz + 1 + r))) (Same.refl _) (by rw [eg]; exact .str _)
          have at1 := sg_at (i := (sz + 1 + r) / 50) (by omega) (by omega)
          have at2 := sg_at (i := (sz + 1 + r) % 50) (by omega) (by omega)
          have lsg : sgS.length ≤ sizeLine := small100 (by decide +kernel)
          refine iteT ⟨_, rfl, .inl ⟨rfl, _, SqL.of p6⟩, _, rfl, _, rfl, _, _, rfl, rfl, ⟨by decide, by decide⟩, sgS, _, _, rfl, rfl, lsg, at1, _, _, rfl, rfl, small100 (by rw [len_k, len_1]; decide), ?_⟩
          refine ⟨_, rfl, _, rfl, _, _, rfl, rfl, (show (0 : Int) < 50 by decide), sgS, _, _, rfl, rfl, lsg, at2, _, _, rfl, rfl, small100 (by rw [len_app, len_k, len_1, len_1]; decide), ?_⟩
          have ck : keyS i (sz + 1 + r) = (("k" ++ (⟨#[sgc ((sz + 1 + r) / 50).toNat]⟩ : Str)) ++ (⟨#[sgc ((sz + 1 + r) % 50).toNat]⟩ : Str)) ++ tailS i := rfl
          refine ⟨_, rfl, _, _, rfl, rfl, (show (0 : Int) < 2 by decide), _, _, rfl, rfl, ?_⟩
          rcases h01 with h | h
          · have et : tailS i = Str.empty := by unfold tailS; rw [if_neg (by omega)]
            rw [ck, et] at g1 g2 g3
            refine .inl ⟨by omega, _, _, rfl, rfl, small100 (by rw [len_app, len_app, len_k, len_1, len_1, len_0]; decide), p, ys, _, rfl, rfl, p6, hfull, _, _, (sz + 1 + r), _, rfl, g1, g2, upd_same, g3, q1, q2, q3, q4, q5, q6⟩
          · have et : tailS i = "a" := by unfold tailS; rw [if_pos (by omega)]
            rw [ck, et] at g1 g2 g3
            refine .inr ⟨by omega, _, _, rfl, rfl, small100 (by rw [len_app, len_app, len_k, len_1, len_1, len_a]; decide), p, ys, _, rfl, rfl, p6, hfull, _, _, (sz + 1 + r), _, rfl, g1, g2, upd_same, g3, q1, q2, q3, q4, q5, q6⟩
        · rw [decide_eq_false a2]
          have eg : gkD one (one + r2) i (sz + 1 + r) = .tuple (.str "" :: .int (sz + 1 + r) :: tailT i) := by unfold gkD; rw [if_neg a1, if_neg a2]
          refine iteF ⟨_, rfl, .inl ⟨rfl, _, SqL.of p6⟩, _, rfl, small100 (by simp), fun t0 ht0 => ⟨small100 (by simp), fun t1 ht1 => ?_⟩⟩
          have s0 : Same H6 (upd H6 t0 (.tup [.str "", .int (sz + 1 + r)])) := same_upd ht0
          have s1 : Same (upd H6 t0 (.tup [.str "", .int (sz + 1 + r)])) (upd (upd H6 t0 (.tup [.str "", .int (sz + 1 + r)])) t1 (.tup [.int 0])) := same_upd ht1
          have e0 := s1 _ _ (show (upd H6 t0 (.tup [.str "", .int (sz + 1 + r)])) t0 = some (.tup [.str "", .int (sz + 1 + r)]) from upd_same)
          have e1 : (upd (upd H6 t0 (.tup [.str "", .int (sz + 1 + r)])) t1 (.tup [.int 0])) t1 = some (.tup [.int 0]) := upd_same
          have s01 := s0.trans s1
          generalize upd (upd H6 t0 (.tup [.str "", .int (sz + 1 + r)])) t1 (.tup [.int 0]) = H7 at e0 e1 s01 ⊢
          refine ⟨_, rfl, _, _, rfl, rfl, (show (0 : Int) < 2 by decide), t1, _, _, rfl, rfl, SqT.of e1, (fun z => nomatch z), ?_⟩
          rcases h01 with h | h
          · have et : tailT i = [] := by unfold tailT; rw [if_neg (by omega)]
            refine .inl ⟨by omega, fun t2 ht2 => ⟨t0, t2, _, [], rfl, rfl, SqT.of (same_upd ht2 _ _ e0), SqT.of upd_same, small100 (show 2 + 0 ≤ 100 by decide), (fun z => nomatch z), fun _ _ => ?_, fun _ z => absurd rfl z⟩⟩
            have s2 : Same H7 (upd H7 t2 (.tup [])) := same_upd ht2
            obtain ⟨g1, g2, g3⟩ := step _ (.ref t0) (s01.trans s2) (by rw [eg, et]; exact .tup (s2 _ _ e0) (.cons (.str _) (.cons (.int _) .nil)))
            exact ⟨p, ys, _, rfl, rfl, s2 _ _ (s01 _ _ p6), hfull, _, _, (sz + 1 + r), _, rfl, g1, g2, upd_same, g3, q1, q2, q3, q4, q5, q6⟩
          · have et : tailT i = [.int 0] := by unfold tailT; rw [if_pos (by omega)]
            refine .inr ⟨by omega, t0, t1, _, _, rfl, rfl, SqT.of e0, SqT.of e1, small100 (show 2 + 1 ≤ 100 by decide), (fun z => nomatch z), (fun _ z => nomatch z), fun _ _ t2 ht2 => ?_⟩
            have s2 : Same H7 (upd H7 t2 (.tup ([.str "", .int (sz + 1 + r)] ++ [.int 0]))) := same_upd ht2
            obtain ⟨g1, g2, g3⟩ := step _ (.ref t2) (s01.trans s2) (by rw [eg, et]; exact .tup upd_same (.cons (.str _) (.cons (.int _) (.cons (.int _) .nil))))
            exact ⟨p, ys, _, rfl, rfl, s2 _ _ (s01 _ _ p6), hfull, _, _, (sz + 1 + r), _, rfl, g1, g2, upd_same, g3, q1, q2, q3, q4, q5, q6⟩
    · rintro σ H4 ⟨ys, gd, sz, z, rfl, W4, F4, p4, y4, l4, ri4, ok4, z0, z1, at4⟩
      exact ⟨_, rfl, k H4 p ys gd hp p4 y4 l4 ri4 ok4 W4 F4⟩
end
end Tw

namespace Tw
open PySem PySem.Spec PySem.Calls PyProof.Rows PySem.W
/-! ### isinstance of a caught error that has a dict -/
section
variable {prog : Program} {w : World} {A : Around} {E : Value → Shared → Prop} {s : Shared} {K : Frag} {x D : Addr} {ox : Obj} {od : Option Obj}
theorem findObj_dataE {C : Addr} {name : Str} {a g : Value} (hc : (clsIn K C).isSome = true) (ha : findIn K (.ref C) name = some (some a)) (hg : specialIn K a "__get__" = some (some g)) (ht : takesIn K a = some true) : findObj K C od name = some (.bind g a) := by
  obtain ⟨cd, hc⟩ := Option.isSome_iff_exists.mp hc
  unfold findObj
  rw [hc, Option.bind_some, ha, Option.bind_some]
  simp [hg, ht]
theorem kin_classF {Q : Option Value → Shared → Prop} (hga : findIn K (.ref D) "__getattribute__" = some (some (.builtin "BaseException.__getattribute__"))) (hgt : findIn K (.ref D) "__getattr__" = some none) (hsub : subIn K (.ref D) (.type "BaseException") = some true)
    (hdct : hasDictIn K D = true) (ha : findIn K (.ref D) "__class__" = some (some (.builtin "object.__class__")))
    (hn : specialIn K (.builtin "object.__class__") "__get__" = some (some (.builtin "getset_descriptor.__get__"))) (htk : takesIn K (.builtin "object.__class__") = some true) (hm : mroIn K D (.type "object") = some true)
    (X : K.In s.heap) (I : PySem.W.InstAt s.heap x ox D od) (h : Q (some (.ref D)) { s with toks := s.toks + 1 }) : wpAny (model prog w) A (getAttr? (.ref x) "__class__") Q E s := by
  have hf : findObj K D od "__class__" = some (.bind (.builtin "getset_descriptor.__get__") (.builtin "object.__class__")) := findObj_dataE (by obtain ⟨cd, hc, _⟩ := any_some hdct; rw [hc]; rfl) ha hn htk
  obtain ⟨hp, g, d, t, os⟩ := s
  have L0 := I.type (M := model prog w)
  have L1 := looks_findIn (M := model prog w) X hga
  have L2 := looks_findIn (M := model prog w) X hgt
  have L3 := looks_find (M := model prog w) X I hf
  have sub : Looks (model prog w) hp (isInstance (.ref x) (.type "BaseException")) true := L0.andThen (looks_subIn X hsub)
  have hx0 : (false && onTheHeap (Value.builtin "BaseException.__getattribute__")) = false := rfl
  have hx2 : (Value.builtin "BaseException.__getattribute__" == Value.builtin "object.__getattribute__") = false := by decide +kernel
  have hx1 : (onTheHeap (Value.ref D) && Value.builtin "BaseException.__getattribute__" == Value.builtin "object.__getattribute__") = false := by rw [hx2]; rfl
  unfold getAttr? getAttrBy? getAttrBy
  refine wpAny_bind (wpAny_mkText (wpAny_bind (wpAny_attempt (wpAny_holding (wpAny_bind (L0.at (wpAny_bind (L1.at ?_))))))))
  show wpAny _ _ (if (onTheHeap (Value.ref D) && Value.builtin "BaseException.__getattribute__" == Value.builtin "object.__getattribute__") = true then _ else _) _ _ _
  rw [hx1, if_neg Bool.false_ne_true]
  unfold getAttrByItsOwn hookBefore
  refine wpAny_bind ?_
  rw [if_pos (show onTheHeap (Value.ref D) = true from rfl)]
  refine L2.at ?_
  refine wpAny_bind (wpAny_attempt (wpAny_holding ?_))
  unfold callGetattribute
  rw [hx0, if_neg Bool.false_ne_true]
  unfold boundAndCalled
  rw [PySem.F.excAttr_ValueError.ga.bind (.ref x)]
  refine wpAny_bind (wpAny_pure ?_)
  show wpAny _ _ (call (.builtin "BaseException.__getattribute__") [.ref x, .str "__class__" t]) _ _ _
  refine wpAny_call (codeAny_call_builtin PySem.F.excAttr_ValueError.ga.plain PySem.F.entry_bexc_ga ?_)
  refine @check_slot (model prog w) _ _ ⟨hp, g, d, t + 1, os⟩ "BaseException.__getattribute__" "BaseException" "__getattribute__" (.ref x) [.str "__class__" t] [] _ (by decide +kernel) (by decide +kernel) sub (PySem.F.args_bexc_ga (.ref x) (.str "__class__" t)) ?_
  unfold Builtin.«object.__getattribute__»
  refine wpAny_bind (wpAny_of_eq (a := ((Value.ref x : Value), [Value.str "__class__" t])) (by first | rfl | (simp only [slotArgs]; rfl)) ?_)
  refine wpAny_bind (wpAny_pure (wpAny_bind (L0.at (wpAny_bind (L3.at ?_)))))
  show wpAny _ _ (holding [Value.builtin "object.__class__"] (call (.builtin "getset_descriptor.__get__") [.builtin "object.__class__", .ref x, .ref D]) >>= ret) _ _ _
  refine wpAny_bind (wpAny_holding (wpAny_call (class_get (s := ⟨hp, g, d, t + 1, os⟩) (ox := ox) (od := od) X I hm ?_)))
  refine wpAny_pure ?_
  show wpAny _ _ (handedOut (.ref D)) _ _ _
  rw [handedOut_of (v := .ref D) rfl]
  first
    | exact wpAny_pure (wpAny_pure h)
    | exact wpAny_pure h
    | exact wpAny_pure (wpAny_bind (wpAny_pure (wpAny_pure h)))
theorem kitx_excF (hga : findIn K (.ref D) "__getattribute__" = some (some (.builtin "BaseException.__getattribute__"))) (hgt : findIn K (.ref D) "__getattr__" = some none) (hsub : subIn K (.ref D) (.type "BaseException") = some true) (hdct : hasDictIn K D = true) (ha : findIn K (.ref D) "__class__" = some (some (.builtin "object.__class__")))
    (hn : specialIn K (.builtin "object.__class__") "__get__" = some (some (.builtin "getset_descriptor.__get__"))) (htk : takesIn K (.builtin "object.__class__") = some true) (hm : mroIn K D (.type "object") = some true) :
    KitX K (.ref x) (.ref D) (fun h => ∃ od, PySem.W.InstAt h x ox D od) where
  ty := fun _ _ _ ⟨_, I⟩ => I.type
  it := fun _ _ X _ => by
    obtain ⟨cdD, hcD, _⟩ := any_some hdct
    unfold clsIn at hcD
    split at hcD
    · rename_i c' d' cd' sl' ho
      intro A' Q' E' s' k q
      unfold isType loadHead
      exact wpAny_bind (wpAny_loadPart (k _ _ (X _ _ ho)) (wpAny_pure q))
    · cases hcD
  ne := fun h tp dd its n sl X htp => by
    obtain ⟨cdD, hcD, _⟩ := any_some hdct
    refine Bool.eq_false_iff.mpr fun q => ?_
    have e : D = tp := Value.ref.inj (beq_iff_eq.mp q)
    subst e
    unfold clsIn at hcD
    split at hcD
    · rename_i c' d' cd' sl' ho
      have z := (X _ _ ho).symm.trans htp
      cases z
    · cases hcD
  ca := fun X ⟨_, I⟩ k => kin_classF hga hgt hsub hdct ha hn htk hm X I k
end
end Tw
namespace Tw
open PySem PySem.Spec PyProof.Rows L2 He
/-- isinstance(e, c), e the exception that the suite holds; its dict, if any, is known -/
def rIsF (K : PySem.W.Frag) (a : Addr) (cls : Value) (d : Option Addr) : List V → Hp → VK → Prop := fun xs H Q => ∃ (D : Addr) (c : V) (cv : Value) (b : Bool), cls = .ref D ∧ ExcC K D ∧ xs = [.ref a, c] ∧ (∀ u, RelV c u → u = cv) ∧ PySem.W.kitOne K (.ref D) cv = some b ∧ (d = none ∨ ∃ dd fs, d = some dd ∧ H dd = some (.xd fs)) ∧ Q (.bl b) H
theorem call_isF {X : Cx} {a : Addr} {cls : Value} {d : Option Addr} {oe : Obj} {pn : List (Addr × Obj)} (hz : Zc cls d oe) (hf : ∃ vs, oe.data = .fields vs) : CallR (X.suite a ((a, oe) :: pn)) (.builtin "isinstance") (rIsF X.K a cls d) := by
  intro pins s σ H xs us Q I r h
  obtain ⟨D, c, cv, b, rfl, C, rfl, hcv, e, hdd, q⟩ := h
  cases r with
  | cons rx rr =>
    cases rr with
    | cons rt rr =>
      cases rr
      cases rx
      have ec := hcv _ rt
      subst ec
      obtain ⟨hget, _⟩ := I.pin (a, oe) (List.mem_append.mpr (.inl List.mem_cons_self))
      obtain ⟨vs, hv⟩ := hf
      have J : ∃ od, PySem.W.InstAt s.heap a oe D od := by
        rcases hdd with rfl | ⟨dd, fs, rfl, ea⟩
        · refine ⟨none, ?_⟩
          obtain ⟨oc, od, oda, osl⟩ := oe
          obtain ⟨h1, h2⟩ := hz
          dsimp only at h1 h2 hv
          subst h1 h2 hv
          exact ⟨hget, rfl, rfl, trivial⟩
        · obtain ⟨mA, hns, hr⟩ := (show ObjOk X.prog X.w H s.heap dd (.xd fs) from I.hok dd _ ea)
          obtain ⟨od, ho, hl⟩ := lookIn_ns hns
          exact ⟨some od, hget, hz.1, by unfold PySem.W.notCls; rw [hv] <;> rfl, by rw [hz.2]; exact ho⟩
      exact PySem.W.kia_one (kitx_excF C.hg C.hk C.hs C.hd C.ha C.hn C.ht C.hm) I.kIn J e (fun z => nomatch z) fun tk => ⟨.bl b, H, I.kept (t' := tk) fun _ _ z => z, rfl, q⟩
/-! ### list.count of flat values -/
section
variable {X : Cx}
theorem count_eqU {x : V} : ∀ {xs : List V} {us : List Value}, Vals xs us → xs.all flatV = true → us.countP (eqU x) = xs.countP fun y => eqV y x
  | _, _, .nil, _ => rfl
  | y :: xs, u :: us, .cons r t, f => by
    rw [List.all_cons, Bool.and_eq_true] at f
    rw [List.countP_cons, List.countP_cons, eqU_of r f.1, count_eqU t f.2]
def rCntF (K : PySem.W.Frag) : V → List V → Hp → VK → Prop := fun x xs H Q => ∃ (p : Addr) (ys : List V) (y : V), x = .ref p ∧ xs = [y] ∧ SqL K H p ys ∧ flatV y = true ∧ ys.all flatV = true ∧ Q (.int ((ys.countP fun z => eqV z y : Nat) : Int)) H
theorem mt_lcountF : MtR X "list.count" (rCntF X.K) := by
  intro pins s σ H x xs v us Q I rx rxs h
  obtain ⟨p, ys, y, rfl, rfl, hs, fy, fys, q⟩ := h
  cases rx
  cases rxs with
  | cons ry rt =>
    rename_i uy ut
    cases rt
    obtain ⟨its, rv, ⟨⟨cls, dd, data, sl⟩, n, ho, hc, hdn, hd⟩, hlen⟩ := I.list hs
    simp only at hc hd
    subst hc hd
    refine call_meets PySem.F.slot_list_count ⟨_, ho, rfl⟩ PySem.F.entry_list_count (PySem.F.args_list_count_2 _ _)
      (SeqAt.list_countAt p its.toArray n dd sl uy (eqU y)) ⟨ho, fun u' hu' => mem_eqAt ry fy rv fys u' (by simpa using hu'), ?_⟩
    have ec : its.toArray.toList.countP (eqU y) = ys.countP fun z => eqV z y := count_eqU rv fys
    refine ⟨.int ((ys.countP fun z => eqV z y : Nat) : Int), H, I.tok _, ⟨s.toks, ?_⟩, q⟩
    show Value.int ((its.toArray.toList.countP (eqU y) : Nat) : Int) s.toks = Value.int ((ys.countP fun z => eqV z y : Nat) : Int) s.toks
    rw [ec]
end
end Tw

namespace Tw
open PySem PySem.Spec PyProof.Rows L2 He
/-- e.n, e the caught exception, its class known in the reading -/
def tXfF (K : PySem.W.Frag) (a : Addr) (cls : Value) (d : Option Addr) (f : Str) (te : TE) : TE := fun σ H Q => te σ H fun x H1 => x = .ref a ∧ ∃ C : Addr, cls = .ref C ∧ XfC K C ∧ PySem.W.findIn K (.ref C) f = some none ∧ ∃ (dd : Addr) (fs : List (Str × V)) (v : V), d = some dd ∧ H1 dd = some (.xd fs) ∧ fs.lookup f = some v ∧ Q v H1
theorem pe_xfF {X : Cx} {a : Addr} {oe : Obj} {cls : Value} {d : Option Addr} {pn : List (Addr × Obj)} {e : Expr} {te : TE} {pos : Pos} {n : Str}
    (hz : Zc cls d oe) (hf : ∃ vs, oe.data = .fields vs) (he : PE (X.suite a ((a, oe) :: pn)) e te) (hb : attributeBase e n X.env (eval e X.env) = eval e X.env := by rfl) :
    PE (X.suite a ((a, oe) :: pn)) (.Attribute e n pos) (tXfF X.K a cls d n te) := by
  refine ⟨fun pins s σ H Q I h => ?_⟩
  refine attr_of hb (thn (he.run pins s σ H _ I h) fun u s1 hh => ?_)
  obtain ⟨x, H1, I1, rx, ex, C, ec, T, hno, dd, fs, v, ed, ea, l, q⟩ := hh
  subst ex
  obtain rfl : u = Value.ref a := rx
  subst ec
  subst ed
  obtain ⟨ha, _⟩ := I1.pin (a, oe) (List.mem_append_left _ List.mem_cons_self)
  obtain ⟨vs, hd⟩ := hf
  have hx : ObjOk X.prog X.w H1 s1.heap dd (.xd fs) := I1.hok dd _ ea
  obtain ⟨mA, hns, hr⟩ := hx
  obtain ⟨od, ho, hl⟩ := lookIn_ns hns
  obtain ⟨u, hu, ru⟩ := RelO.some_of (v := v) (o := mA n) (by rw [← l]; exact hr n)
  have J : PySem.W.InstAt s1.heap a oe C (some od) := ⟨ha, hz.1, by unfold PySem.W.notCls; rw [hd] <;> rfl, by rw [hz.2]; exact ho⟩
  exact HandSPX.exc_get I1.kIn J T.ga T.gg T.exC (PySem.W.findObj_own T.hdC hno rfl (by rw [hl, hu])) (handed_of ru) ⟨v, H1, I1.tok _, ru, q⟩
/-- the state's length may be taken as known -/
theorem takes_len {X : Cx} {W : WX} (t : Takes X W) : Takes X (fun cls d σ H => σ.length = X.N.length → W cls d σ H) := fun u s' ⟨a, B, sI, pins, σ, H, cls, d, e, I, nb, up, sky, na, os, ag, w⟩ =>
  t u s' ⟨a, B, sI, pins, σ, H, cls, d, e, I, nb, up, sky, na, os, ag, w I.len⟩
/-! ### what asked says -/
def AskV (Q : VK) : VK := fun v H1 => ∀ p, H1 p = none → Q (.ref p) (upd H1 p (.tup [.str "told", v]))
def AskE (K : PySem.W.Frag) (Q : VK) : XK := fun cls d H1 =>
  (cls = .ref (ga K "NoKey") ∧ d = none ∧ out0 "key" H1 Q) ∨ (cls = .ref (ga K "NoLeaf") ∧ d = none ∧ out0 "leaf" H1 Q) ∨ (cls = .ref (ga K "NoStem") ∧ d = none ∧ out0 "stem" H1 Q) ∨
  (cls = .ref (ga K "NoTwig") ∧ ∃ (dd : Addr) (n : Int), d = some dd ∧ H1 dd = some (.xd [("number", .int n)]) ∧ outT "twig" n H1 Q) ∨ (cls = .ref (ga K "NotHeld") ∧ ∃ (dd : Addr) (n : Int), d = some dd ∧ H1 dd = some (.xd [("number", .int n)]) ∧ outT "held" n H1 Q)
def TA (K : PySem.W.Frag) : (XK → Hp → VK → Prop) → Hp → VK → Prop := fun tl H Q => tl (AskE K Q) H (AskV Q)
abbrev askN : List Str := ["_law_call_here", "_law_found", "e", "_law_flags", "_law_at"]
theorem sc_ask : FnScope askN ["_law_call_here"] d_l_asked.scope := ⟨rfl, rfl, rfl, by decide +kernel, rfl, by decide +kernel, by decide +kernel⟩
section
variable {X : Cx}
theorem asked_gives (T : Tx X.K X.mg) {q : Str} {g : Addr} {cdg : Value} : LamX.GivesTo X askN "_law_asked" d_l_asked.scope g cdg d_l_asked.body "_law_call_here" q (TA X.K) := by
  intro f c' s H Q tl act hc h
  have sc := sc_ask
  obtain ⟨t_exc, t_iT, t_iH, _, t_kits, t_kitV⟩ := T.exs
  have eC : ∀ x ∈ excL, ExcC X.K (ga X.K x) := fun x hx => excB_ok (t_exc x hx)
  have kt : ∀ x ∈ excL, ∀ y ∈ askL, PySem.W.kitOne X.K (.ref (ga X.K x)) (.ref (ga X.K y)) = some (decide (x = y)) := fun x hx y hy => of_decide_eq_true (List.all_eq_true.mp (List.all_eq_true.mp t_kits x hx) y hy)
  have kv : ∀ x ∈ excL, PySem.W.kitOne X.K (.ref (ga X.K x)) (.type "ValueError") = some true := fun x hx => of_decide_eq_true (List.all_eq_true.mp t_kitV x hx)
  refine ⟨_, pss_cons (ps_set (i := 1) sc.nd rfl (Or.inl rfl) pe_non) (pss_cons (ps_try_as (X := (cxOf C8.CX0 X.prog X.w X.K X.mg X.base askN "_law_asked" d_l_asked.scope g cdg X.A X.stack s H C8.E0).nox) (c := .ref (ga X.K "TwigError")) (i := 2)
      (tb := fun W D σ H => ∃ (Ech : XK) (Q0 : VK), (∀ cls d σ' H', Ech cls d H' → σ'.length = 5 → W cls d σ' H') ∧ σ[0]? = some (some (.ref f)) ∧ H c' = some (LamX.CodeO c' q) ∧ tl Ech H Q0 ∧ ∀ v H1, Q0 v H1 → D.nx (σ.set 1 (some v)) H1)
      rfl rfl sc.nd rfl rfl ⟨rfl, by decide, .inl (T.g "TwigError")⟩ LamX.takes0 (fun W pn xe tk _ => ?_) (fun a oe cls d pn hz hf =>
        pss_cons (ps_set (i := 3) sc.nd rfl (Or.inl rfl) (pe_lst
            (pa_cons (pe_callB (r := rIsF X.K a cls d) (call_isF hz hf) (by rfl) (T.f "isinstance") (by decide +kernel) (pa_cons (pv 2) (pa_cons (pe_glob (v := .ref (ga X.K "NoKey")) rfl (T.g "NoKey") rfl) pa_nil)))
            (pa_cons (pe_callB (r := rIsF X.K a cls d) (call_isF hz hf) (by rfl) (T.f "isinstance") (by decide +kernel) (pa_cons (pv 2) (pa_cons (pe_glob (v := .ref (ga X.K "NoLeaf")) rfl (T.g "NoLeaf") rfl) pa_nil)))
            (pa_cons (pe_callB (r := rIsF X.K a cls d) (call_isF hz hf) (by rfl) (T.f "isinstance") (by decide +kernel) (pa_cons (pv 2) (pa_cons (pe_glob (v := .ref (ga X.K "NoStem")) rfl (T.g "NoStem") rfl) pa_nil)))
            (pa_cons (pe_callB (r := rIsF X.K a cls d) (call_isF hz hf) (by rfl) (T.f "isinstance") (by decide +kernel) (pa_cons (pv 2) (pa_cons (pe_glob (v := .ref (ga X.K "NoTwig")) rfl (T.g "NoTwig") rfl) pa_nil))) pa_nil))))))
        (pss_cons (ps_set (i := 3) sc.nd rfl (Or.inl rfl) (pe_op op_cat (pv 3) (pe_lst
            (pa_cons (pe_callB (r := rIsF X.K a cls d) (call_isF hz hf) (by rfl) (T.f "isinstance") (by decide +kernel) (pa_cons (pv 2) (pa_cons (pe_glob (v := .ref (ga X.K "NotHeld")) rfl (T.g "NotHeld") rfl) pa_nil)))
            (pa_cons (pe_callB (r := rIsF X.K a cls d) (call_isF hz hf) (by rfl) (T.f "isinstance") (by decide +kernel) (pa_cons (pv 2) (pa_cons (pe_glob (v := .ref (ga X.K "Shared")) rfl (T.g "Shared") rfl) pa_nil))) pa_nil)))))
        (pss_cons (ps_if (PW.pt (pw_or (pt_cmpR op_ne (show PE _ _ (tBM X.K "list" (rCntF X.K) (tVar 3) (tCons (tC (.bl true)) tNil)) from pe_bm PySem.F.plainAttrs_list PySem.F.slot_list_count PySem.F.type_list_count mt_lcountF (pv 3) (pa_cons pe_bl pa_nil)) pe_int (nomark _))
            (pw_or1 (pt_not (pt_val (pe_callB (r := rIsF X.K a cls d) (call_isF hz hf) (by rfl) (T.f "isinstance") (by decide +kernel) (pa_cons (pv 2) (pa_cons (pe_bltn (v := .ty "ValueError") (by rfl) (T.f "ValueError") (by decide +kernel) rfl (by decide) (by decide)) pa_nil))))))))
          (pss_one (ps_ret (pe_tup (pa_cons pe_str pa_nil)))) pss_nil)
        (pss_cons (ps_set (i := 4) sc.nd rfl (Or.inl rfl) (show PE _ _ (tBM X.K "list" (rIndex X.K) (tVar 3) (tCons (tC (.bl true)) tNil)) from pe_bm PySem.F.plainAttrs_list PySem.F.slot_list_index PySem.F.type_list_index mt_index (pv 3) (pa_cons pe_bl pa_nil)))
        (pss_cons (ps_if (pt_cmpR op_lt (pv 4) pe_int (nomark _)) (pss_one (ps_ret (pe_tup (pa_cons (pe_ix (r := rIxL X.K) ix_list (pe_lst (pa_cons pe_str (pa_cons pe_str (pa_cons pe_str pa_nil)))) (pv 4) (fun _ _ => rfl)) pa_nil)))) pss_nil)
        (pss_one (ps_ret (pe_tup (pa_cons (pe_ix (r := rIxL X.K) ix_list (pe_lst (pa_cons pe_str (pa_cons pe_str (pa_cons pe_str pa_nil)))) (pe_op op_sub (pv 4) pe_int) (fun _ _ => rfl)) (pa_cons (show PE _ _ (tXfF X.K a cls d "number" (tVar 2)) from pe_xfF hz hf (pv 2)) pa_nil))))))))))
      ) (pss_one (ps_ret (pe_tup (pa_cons pe_str (pa_cons (pv 1) pa_nil)))))), ?_⟩
  · refine ⟨fun pins s' σ H' D I h' => ?_⟩
    obtain ⟨Ech, Q0, hW, h1, h2, h3, h4⟩ := h'
    have tk2 : Takes _ (fun cls d σ' H' => σ'.length = 5 → W cls d σ' H') := takes_len tk
    exact (pss_one (ps_set (i := 1) sc.nd rfl (Or.inl rfl) (pe_mo (act _ pn xe Ech _ _ tk2 hW)))).run pins s' σ H' D I ⟨Q0, ⟨h1, h2, h3⟩, h4⟩
  · refine ⟨AskE X.K Q, AskV Q, fun cls d σ' H1 hE hl => ?_, rfl, hc, h, fun v H1 hv => ⟨_, rfl, small100 (by simp), fun p hp => hv p hp⟩⟩
    obtain ⟨v0, v1, v2, v3, v4, rfl⟩ : ∃ v0 v1 v2 v3 v4, σ' = [v0, v1, v2, v3, v4] := by
      match σ', hl with
      | [v0, v1, v2, v3, v4], _ => exact ⟨v0, v1, v2, v3, v4, rfl⟩
    have oS : ∀ {y : Str} {H' : Hp}, Same H1 H' → out0 y H1 Q → ∀ p, H' p = none → Q (.ref p) (upd H' p (.tup [.str y])) := fun s' o p hp =>
      o _ p (s'.trans (same_upd hp)) ((Fr.of (M := M0) s').free (fun z => z) hp) upd_same
    have oT : ∀ {y : Str} {n : Int} {H' : Hp}, Same H1 H' → outT y n H1 Q → ∀ p, H' p = none → Q (.ref p) (upd H' p (.tup [.str y, .int n])) := fun s' o p hp =>
      o _ p (s'.trans (same_upd hp)) ((Fr.of (M := M0) s').free (fun z => z) hp) upd_same
    have ktb : ∀ (x : Str) (hx : x ∈ excL) (y : Str) (hy : y ∈ askL) (b : Bool), decide (x = y) = b → PySem.W.kitOne X.K (.ref (ga X.K x)) (.ref (ga X.K y)) = some b := fun x hx y hy b hb => by rw [← hb]; exact kt x hx y hy
    rcases hE with ⟨rfl, rfl, o⟩ | ⟨rfl, rfl, o⟩ | ⟨rfl, rfl, o⟩ | ⟨rfl, dd, n, rfl, hdd, o⟩ | ⟨rfl, dd, n, rfl, hdd, o⟩
    · refine ⟨true, T.em_NoKey, fun _ a ha => ?_, fun z => nomatch z⟩
      refine ⟨_, rfl, _, .ref (ga X.K "NoKey"), .ref (ga X.K "NoKey"), true, rfl, eC "NoKey" (by decide +kernel), rfl, (fun u hu => hu), ktb "NoKey" (by decide +kernel) "NoKey" (by decide +kernel) true (by decide +kernel), .inl rfl, _, rfl, _, .ref (ga X.K "NoLeaf"), .ref (ga X.K "NoLeaf"), false, rfl, eC "NoKey" (by decide +kernel), rfl, (fun u hu => hu), ktb "NoKey" (by decide +kernel) "NoLeaf" (by decide +kernel) false (by decide +kernel), .inl rfl, _, rfl, _, .ref (ga X.K "NoStem"), .ref (ga X.K "NoStem"), false, rfl, eC "NoKey" (by decide +kernel), rfl, (fun u hu => hu), ktb "NoKey" (by decide +kernel) "NoStem" (by decide +kernel) false (by decide +kernel), .inl rfl, _, rfl, _, .ref (ga X.K "NoTwig"), .ref (ga X.K "NoTwig"), false, rfl, eC "NoKey" (by decide +kernel), rfl, (fun u hu => hu), ktb "NoKey" (by decide +kernel) "NoTwig" (by decide +kernel) false (by decide +kernel), .inl rfl, small100 (by simp), fun l1 hl1 => ?_⟩
      have s1 : Same H1 (upd H1 l1 (.lst [.bl true, .bl false, .bl false, .bl false])) := same_upd hl1
      have e1 : (upd H1 l1 (.lst [.bl true, .bl false, .bl false, .bl false])) l1 = some (.lst [.bl true, .bl false, .bl false, .bl false]) := upd_same
      generalize upd H1 l1 (.lst [.bl true, .bl false, .bl false, .bl false]) = H2 at s1 e1 ⊢
      refine ⟨_, rfl, _, rfl, _, .ref (ga X.K "NotHeld"), .ref (ga X.K "NotHeld"), false, rfl, eC "NoKey" (by decide +kernel), rfl, (fun u hu => hu), ktb "NoKey" (by decide +kernel) "NotHeld" (by decide +kernel) false (by decide +kernel), .inl rfl, _, rfl, _, .ref (ga X.K "Shared"), .ref (ga X.K "Shared"), false, rfl, eC "NoKey" (by decide +kernel), rfl, (fun u hu => hu), ktb "NoKey" (by decide +kernel) "Shared" (by decide +kernel) false (by decide +kernel), .inl rfl, small100 (by simp), fun l2 hl2 => ?_⟩
      have s2 : Same H2 (upd H2 l2 (.lst [.bl false, .bl false])) := same_upd hl2
      refine ⟨l1, l2, _, _, rfl, rfl, s2 _ _ e1, upd_same, small100 (by simp), fun l3 hl3 => ?_⟩
      have s3 : Same H2 (upd (upd H2 l2 (.lst [.bl false, .bl false])) l3 (.lst ([.bl true, .bl false, .bl false, .bl false] ++ [.bl false, .bl false]))) := s2.trans (same_upd hl3)
      have e3 : (upd (upd H2 l2 (.lst [.bl false, .bl false])) l3 (.lst ([.bl true, .bl false, .bl false, .bl false] ++ [.bl false, .bl false]))) l3 = some (.lst [.bl true, .bl false, .bl false, .bl false, .bl false, .bl false]) := upd_same
      generalize upd (upd H2 l2 (.lst [.bl false, .bl false])) l3 (.lst ([.bl true, .bl false, .bl false, .bl false] ++ [.bl false, .bl false])) = H3 at s3 e3 ⊢
      have s13 := s1.trans s3
      refine ⟨_, rfl, .inl ⟨rfl, _, SqL.of e3⟩, l3, _, .bl true, rfl, rfl, SqL.of e3, rfl, rfl, rfl, false, by decide +kernel, iteF ?_⟩
      refine ⟨_, rfl, _, .ty "ValueError", .type "ValueError", true, rfl, eC "NoKey" (by decide +kernel), rfl, (fun u hu => hu), kv "NoKey" (by decide +kernel), .inl rfl, true, rfl, iteF ?_⟩
      refine ⟨_, rfl, .inl ⟨rfl, _, SqL.of e3⟩, l3, _, .bl true, 0, .bl true, rfl, rfl, SqL.of e3, rfl, rfl, rfl, rfl, ?_, ?_⟩
      · intro m z' hm hz
        exact absurd hm (Nat.not_lt_zero m)
      refine ⟨_, rfl, _, _, rfl, rfl, true, by decide +kernel, iteT ⟨small100 (by simp), fun l4 hl4 => ?_⟩⟩
      have s4 : Same H3 (upd H3 l4 (.lst [.str "key", .str "leaf", .str "stem"])) := same_upd hl4
      exact ⟨_, rfl, l4, _, (0 : Nat), .str "key", rfl, rfl, SqL.of upd_same, atI_nat (j := 0) rfl, small100 (by simp), fun p hp => oS (s13.trans s4) o p hp⟩
    · refine ⟨true, T.em_NoLeaf, fun _ a ha => ?_, fun z => nomatch z⟩
      refine ⟨_, rfl, _, .ref (ga X.K "NoKey"), .ref (ga X.K "NoKey"), false, rfl, eC "NoLeaf" (by decide +kernel), rfl, (fun u hu => hu), ktb "NoLeaf" (by decide +kernel) "NoKey" (by decide +kernel) false (by decide +kernel), .inl rfl, _, rfl, _, .ref (ga X.K "NoLeaf"), .ref (ga X.K "NoLeaf"), true, rfl, eC "NoLeaf" (by decide +kernel), rfl, (fun u hu => hu), ktb "NoLeaf" (by decide +kernel) "NoLeaf" (by decide +kernel) true (by decide +kernel), .inl rfl, _, rfl, _, .ref (ga X.K "NoStem"), .ref (ga X.K "NoStem"), false, rfl, eC "NoLeaf" (by decide +kernel), rfl, (fun u hu => hu), ktb "NoLeaf" (by decide +kernel) "NoStem" (by decide +kernel) false (by decide +kernel), .inl rfl, _, rfl, _, .ref (ga X.K "NoTwig"), .ref (ga X.K "NoTwig"), false, rfl, eC "NoLeaf" (by decide +kernel), rfl, (fun u hu => hu), ktb "NoLeaf" (by decide +kernel) "NoTwig" (by decide +kernel) false (by decide +kernel), .inl rfl, small100 (by simp), fun l1 hl1 => ?_⟩
      have s1 : Same H1 (upd H1 l1 (.lst [.bl false, .bl true, .bl false, .bl false])) := same_upd hl1
      have e1 : (upd H1 l1 (.lst [.bl false, .bl true, .bl false, .bl false])) l1 = some (.lst [.bl false, .bl true, .bl false, .bl false]) := upd_same
      generalize upd H1 l1 (.lst [.bl false, .bl true, .bl false, .bl false]) = H2 at s1 e1 ⊢
      refine ⟨_, rfl, _, rfl, _, .ref (ga X.K "NotHeld"), .ref (ga X.K "NotHeld"), false, rfl, eC "NoLeaf" (by decide +kernel), rfl, (fun u hu => hu), ktb "NoLeaf" (by decide +kernel) "NotHeld" (by decide +kernel) false (by decide +kernel), .inl rfl, _, rfl, _, .ref (ga X.K "Shared"), .ref (ga X.K "Shared"), false, rfl, eC "NoLeaf" (by decide +kernel), rfl, (fun u hu => hu), ktb "NoLeaf" (by decide +kernel) "Shared" (by decide +kernel) false (by decide +kernel), .inl rfl, small100 (by simp), fun l2 hl2 => ?_⟩
      have s2 : Same H2 (upd H2 l2 (.lst [.bl false, .bl false])) := same_upd hl2
      refine ⟨l1, l2, _, _, rfl, rfl, s2 _ _ e1, upd_same, small100 (by simp), fun l3 hl3 => ?_⟩
      have s3 : Same H2 (upd (upd H2 l2 (.lst [.bl false, .bl false])) l3 (.lst ([.bl false, .bl true, .bl false, .bl false] ++ [.bl false, .bl false]))) := s2.trans (same_upd hl3)
      have e3 : (upd (upd H2 l2 (.lst [.bl false, .bl false])) l3 (.lst ([.bl false, .bl true, .bl false, .bl false] ++ [.bl false, .bl false]))) l3 = some (.lst [.bl false, .bl true, .bl false, .bl false, .bl false, .bl false]) := upd_same
      generalize upd (upd H2 l2 (.lst [.bl false, .bl false])) l3 (.lst ([.bl false, .bl true, .bl false, .bl false] ++ [.bl false, .bl false])) = H3 at s3 e3 ⊢
      have s13 := s1.trans s3
      refine ⟨_, rfl, .inl ⟨rfl, _, SqL.of e3⟩, l3, _, .bl true, rfl, rfl, SqL.of e3, rfl, rfl, rfl, false, by decide +kernel, iteF ?_⟩
      refine ⟨_, rfl, _, .ty "ValueError", .type "ValueError", true, rfl, eC "NoLeaf" (by decide +kernel), rfl, (fun u hu => hu), kv "NoLeaf" (by decide +kernel), .inl rfl, true, rfl, iteF ?_⟩
      refine ⟨_, rfl, .inl ⟨rfl, _, SqL.of e3⟩, l3, _, .bl true, 1, .bl true, rfl, rfl, SqL.of e3, rfl, rfl, rfl, rfl, ?_, ?_⟩
      · intro m z' hm hz
        match m, hm, hz with
        | 0, _, hz => cases hz; rfl
      refine ⟨_, rfl, _, _, rfl, rfl, true, by decide +kernel, iteT ⟨small100 (by simp), fun l4 hl4 => ?_⟩⟩
      have s4 : Same H3 (upd H3 l4 (.lst [.str "key", .str "leaf", .str "stem"])) := same_upd hl4
      exact ⟨_, rfl, l4, _, (1 : Nat), .str "leaf", rfl, rfl, SqL.of upd_same, atI_nat (j := 1) rfl, small100 (by simp), fun p hp => oS (s13.trans s4) o p hp⟩
    · refine ⟨true, T.em_NoStem, fun _ a ha => ?_, fun z => nomatch z⟩
      refine ⟨_, rfl, _, .ref (ga X.K "NoKey"), .ref (ga X.K "NoKey"), false, rfl, eC "NoStem" (by decide +kernel), rfl, (fun u hu => hu), ktb "NoStem" (by decide +kernel) "NoKey" (by decide +kernel) false (by decide +kernel), .inl rfl, _, rfl, _, .ref (ga X.K "NoLeaf"), .ref (ga X.K "NoLeaf"), false, rfl, eC "NoStem" (by decide +kernel), rfl, (fun u hu => hu), ktb "NoStem" (by decide +kernel) "NoLeaf" (by decide +kernel) false (by decide +kernel), .inl rfl, _, rfl, _, .ref (ga X.K "NoStem"), .ref (ga X.K "NoStem"), true, rfl, eC "NoStem" (by decide +kernel), rfl, (fun u hu => hu), ktb "NoStem" (by decide +kernel) "NoStem" (by decide +kernel) true (by decide +kernel), .inl rfl, _, rfl, _, .ref (ga X.K "NoTwig"), .ref (ga X.K "NoTwig"), false, rfl, eC "NoStem" (by decide +kernel), rfl, (fun u hu => hu), ktb "NoStem" (by decide +kernel) "NoTwig" (by decide +kernel) false (by decide +kernel), .inl rfl, small100 (by simp), fun l1 hl1 => ?_⟩
      have s1 : Same H1 (upd H1 l1 (.lst [.bl false, .bl false, .bl true, .bl false])) := same_upd hl1
      have e1 : (upd H1 l1 (.lst [.bl false, .bl false, .bl true, .bl false])) l1 = some (.lst [.bl false, .bl false, .bl true, .bl false]) := upd_same
      generalize upd H1 l1 (.lst [.bl false, .bl false, .bl true, .bl false]) = H2 at s1 e1 ⊢
      refine ⟨_, rfl, _, rfl, _, .ref (ga X.K "NotHeld"), .ref (ga X.K "NotHeld"), false, rfl, eC "NoStem" (by decide +kernel), rfl, (fun u hu => hu), ktb "NoStem" (by decide +kernel) "NotHeld" (by decide +kernel) false (by decide +kernel), .inl rfl, _, rfl, _, .ref (ga X.K "Shared"), .ref (ga X.K "Shared"), false, rfl, eC "NoStem" (by decide +kernel), rfl, (fun u hu => hu), ktb "NoStem" (by decide +kernel) "Shared" (by decide +kernel) false (by decide +kernel), .inl rfl, small100 (by simp), fun l2 hl2 => ?_⟩
      have s2 : Same H2 (upd H2 l2 (.lst [.bl false, .bl false])) := same_upd hl2
      refine ⟨l1, l2, _, _, rfl, rfl, s2 _ _ e1, upd_same, small100 (by simp), fun l3 hl3 => ?_⟩
      have s3 : Same H2 (upd (upd H2 l2 (.lst [.bl false, .bl false])) l3 (.lst ([.bl false, .bl false, .bl true, .bl false] ++ [.bl false, .bl false]))) := s2.trans (same_upd hl3)
      have e3 : (upd (upd H2 l2 (.lst [.bl false, .bl false])) l3 (.lst ([.bl false, .bl false, .bl true, .bl false] ++ [.bl false, .bl false]))) l3 = some (.lst [.bl false, .bl false, .bl true, .bl false, .bl false, .bl false]) := upd_same
      generalize upd (upd H2 l2 (.lst [.bl false, .bl false])) l3 (.lst ([.bl false, .bl false, .bl true, .bl false] ++ [.bl false, .bl false])) = H3 at s3 e3 ⊢
      have s13 := s1.trans s3
      refine ⟨_, rfl, .inl ⟨rfl, _, SqL.of e3⟩, l3, _, .bl true, rfl, rfl, SqL.of e3, rfl, rfl, rfl, false, by decide +kernel, iteF ?_⟩
      refine ⟨_, rfl, _, .ty "ValueError", .type "ValueError", true, rfl, eC "NoStem" (by decide +kernel), rfl, (fun u hu => hu), kv "NoStem" (by decide +kernel), .inl rfl, true, rfl, iteF ?_⟩
      refine ⟨_, rfl, .inl ⟨rfl, _, SqL.of e3⟩, l3, _, .bl true, 2, .bl true, rfl, rfl, SqL.of e3, rfl, rfl, rfl, rfl, ?_, ?_⟩
      · intro m z' hm hz
        match m, hm, hz with
        | 0, _, hz => cases hz; rfl
        | 1, _, hz => cases hz; rfl
      refine ⟨_, rfl, _, _, rfl, rfl, true, by decide +kernel, iteT ⟨small100 (by simp), fun l4 hl4 => ?_⟩⟩
      have s4 : Same H3 (upd H3 l4 (.lst [.str "key", .str "leaf", .str "stem"])) := same_upd hl4
      exact ⟨_, rfl, l4, _, (2 : Nat), .str "stem", rfl, rfl, SqL.of upd_same, atI_nat (j := 2) rfl, small100 (by simp), fun p hp => oS (s13.trans s4) o p hp⟩
    · refine ⟨true, T.em_NoTwig, fun _ a ha => ?_, fun z => nomatch z⟩
      refine ⟨_, rfl, _, .ref (ga X.K "NoKey"), .ref (ga X.K "NoKey"), false, rfl, eC "NoTwig" (by decide +kernel), rfl, (fun u hu => hu), ktb "NoTwig" (by decide +kernel) "NoKey" (by decide +kernel) false (by decide +kernel), .inr ⟨dd, _, rfl, hdd⟩, _, rfl, _, .ref (ga X.K "NoLeaf"), .ref (ga X.K "NoLeaf"), false, rfl, eC "NoTwig" (by decide +kernel), rfl, (fun u hu => hu), ktb "NoTwig" (by decide +kernel) "NoLeaf" (by decide +kernel) false (by decide +kernel), .inr ⟨dd, _, rfl, hdd⟩, _, rfl, _, .ref (ga X.K "NoStem"), .ref (ga X.K "NoStem"), false, rfl, eC "NoTwig" (by decide +kernel), rfl, (fun u hu => hu), ktb "NoTwig" (by decide +kernel) "NoStem" (by decide +kernel) false (by decide +kernel), .inr ⟨dd, _, rfl, hdd⟩, _, rfl, _, .ref (ga X.K "NoTwig"), .ref (ga X.K "NoTwig"), true, rfl, eC "NoTwig" (by decide +kernel), rfl, (fun u hu => hu), ktb "NoTwig" (by decide +kernel) "NoTwig" (by decide +kernel) true (by decide +kernel), .inr ⟨dd, _, rfl, hdd⟩, small100 (by simp), fun l1 hl1 => ?_⟩
      have s1 : Same H1 (upd H1 l1 (.lst [.bl false, .bl false, .bl false, .bl true])) := same_upd hl1
      have e1 : (upd H1 l1 (.lst [.bl false, .bl false, .bl false, .bl true])) l1 = some (.lst [.bl false, .bl false, .bl false, .bl true]) := upd_same
      generalize upd H1 l1 (.lst [.bl false, .bl false, .bl false, .bl true]) = H2 at s1 e1 ⊢
      have hd2 := s1 _ _ hdd
      refine ⟨_, rfl, _, rfl, _, .ref (ga X.K "NotHeld"), .ref (ga X.K "NotHeld"), false, rfl, eC "NoTwig" (by decide +kernel), rfl, (fun u hu => hu), ktb "NoTwig" (by decide +kernel) "NotHeld" (by decide +kernel) false (by decide +kernel), .inr ⟨dd, _, rfl, hd2⟩, _, rfl, _, .ref (ga X.K "Shared"), .ref (ga X.K "Shared"), false, rfl, eC "NoTwig" (by decide +kernel), rfl, (fun u hu => hu), ktb "NoTwig" (by decide +kernel) "Shared" (by decide +kernel) false (by decide +kernel), .inr ⟨dd, _, rfl, hd2⟩, small100 (by simp), fun l2 hl2 => ?_⟩
      have s2 : Same H2 (upd H2 l2 (.lst [.bl false, .bl false])) := same_upd hl2
      refine ⟨l1, l2, _, _, rfl, rfl, s2 _ _ e1, upd_same, small100 (by simp), fun l3 hl3 => ?_⟩
      have s3 : Same H2 (upd (upd H2 l2 (.lst [.bl false, .bl false])) l3 (.lst ([.bl false, .bl false, .bl false, .bl true] ++ [.bl false, .bl false]))) := s2.trans (same_upd hl3)
      have e3 : (upd (upd H2 l2 (.lst [.bl false, .bl false])) l3 (.lst ([.bl false, .bl false, .bl false, .bl true] ++ [.bl false, .bl false]))) l3 = some (.lst [.bl false, .bl false, .bl false, .bl true, .bl false, .bl false]) := upd_same
      generalize upd (upd H2 l2 (.lst [.bl false, .bl false])) l3 (.lst ([.bl false, .bl false, .bl false, .bl true] ++ [.bl false, .bl false])) = H3 at s3 e3 ⊢
      have s13 := s1.trans s3
      have hd3 := s13 _ _ hdd
      refine ⟨_, rfl, .inl ⟨rfl, _, SqL.of e3⟩, l3, _, .bl true, rfl, rfl, SqL.of e3, rfl, rfl, rfl, false, by decide +kernel, iteF ?_⟩
      refine ⟨_, rfl, _, .ty "ValueError", .type "ValueError", true, rfl, eC "NoTwig" (by decide +kernel), rfl, (fun u hu => hu), kv "NoTwig" (by decide +kernel), .inr ⟨dd, _, rfl, hd3⟩, true, rfl, iteF ?_⟩
      refine ⟨_, rfl, .inl ⟨rfl, _, SqL.of e3⟩, l3, _, .bl true, 3, .bl true, rfl, rfl, SqL.of e3, rfl, rfl, rfl, rfl, ?_, ?_⟩
      · intro m z' hm hz
        match m, hm, hz with
        | 0, _, hz => cases hz; rfl
        | 1, _, hz => cases hz; rfl
        | 2, _, hz => cases hz; rfl
      refine ⟨_, rfl, _, _, rfl, rfl, false, by decide +kernel, iteF ⟨small100 (by simp), fun l4 hl4 => ?_⟩⟩
      have s4 : Same H3 (upd H3 l4 (.lst [.str "twig", .str "held", .str "shared"])) := same_upd hl4
      obtain ⟨o1, o2, _⟩ := initB_ok t_iT
      refine ⟨_, rfl, _, _, rfl, rfl, l4, _, (0 : Nat), .str "twig", rfl, rfl, SqL.of upd_same, atI_nat (j := 0) rfl, ?_⟩
      exact ⟨_, rfl, rfl, _, rfl, xfB_ok (ba (t_exc "NoTwig" (by decide +kernel))).1, o2, dd, _, .int n, rfl, s4 _ _ hd3, rfl, small100 (by simp), fun p hp => oT (s13.trans s4) o p hp⟩
    · refine ⟨true, T.em_NotHeld, fun _ a ha => ?_, fun z => nomatch z⟩
      refine ⟨_, rfl, _, .ref (ga X.K "NoKey"), .ref (ga X.K "NoKey"), false, rfl, eC "NotHeld" (by decide +kernel), rfl, (fun u hu => hu), ktb "NotHeld" (by decide +kernel) "NoKey" (by decide +kernel) false (by decide +kernel), .inr ⟨dd, _, rfl, hdd⟩, _, rfl, _, .ref (ga X.K "NoLeaf"), .ref (ga X.K "NoLeaf"), false, rfl, eC "NotHeld" (by decide +kernel), rfl, (fun u hu => hu), ktb "NotHeld" (by decide +kernel) "NoLeaf" (by decide +kernel) false (by decide +kernel), .inr ⟨dd, _, rfl, hdd⟩, _, rfl, _, .ref (ga X.K "NoStem"), .ref (ga X.K "NoStem"), false, rfl, eC "NotHeld" (by decide +kernel), rfl, (fun u hu => hu), ktb "NotHeld" (by decide +kernel) "NoStem" (by decide +kernel) false (by decide +kernel), .inr ⟨dd, _, rfl, hdd⟩, _, rfl, _, .ref (ga X.K "NoTwig"), .ref (ga X.K "NoTwig"), false, rfl, eC "NotHeld" (by decide +kernel), rfl, (fun u hu => hu), ktb "NotHeld" (by decide +kernel) "NoTwig" (by decide +kernel) false (by decide +kernel), .inr ⟨dd, _, rfl, hdd⟩, small100 (by simp), fun l1 hl1 => ?_⟩
      have s1 : Same H1 (upd H1 l1 (.lst [.bl false, .bl false, .bl false, .bl false])) := same_upd hl1
      have e1 : (upd H1 l1 (.lst [.bl false, .bl false, .bl false, .bl false])) l1 = some (.lst [.bl false, .bl false, .bl false, .bl false]) := upd_same
      generalize upd H1 l1 (.lst [.bl false, .bl false, .bl false, .bl false]) = H2 at s1 e1 ⊢
      have hd2 := s1 _ _ hdd
      refine ⟨_, rfl, _, rfl, _, .ref (ga X.K "NotHeld"), .ref (ga X.K "NotHeld"), true, rfl, eC "NotHeld" (by decide +kernel), rfl, (fun u hu => hu), ktb "NotHeld" (by decide +kernel) "NotHeld" (by decide +kernel) true (by decide +kernel), .inr ⟨dd, _, rfl, hd2⟩, _, rfl, _, .ref (ga X.K "Shared"), .ref (ga X.K "Shared"), false, rfl, eC "NotHeld" (by decide +kernel), rfl, (fun u hu => hu), ktb "NotHeld" (by decide +kernel) "Shared" (by decide +kernel) false (by decide +kernel), .inr ⟨dd, _, rfl, hd2⟩, small100 (by simp), fun l2 hl2 => ?_⟩
      have s2 : Same H2 (upd H2 l2 (.lst [.bl true, .bl false])) := same_upd hl2
      refine ⟨l1, l2, _, _, rfl, rfl, s2 _ _ e1, upd_same, small100 (by simp), fun l3 hl3 => ?_⟩
      have s3 : Same H2 (upd (upd H2 l2 (.lst [.bl true, .bl false])) l3 (.lst ([.bl false, .bl false, .bl false, .bl false] ++ [.bl true, .bl false]))) := s2.trans (same_upd hl3)
      have e3 : (upd (upd H2 l2 (.lst [.bl true, .bl false])) l3 (.lst ([.bl false, .bl false, .bl false, .bl false] ++ [.bl true, .bl false]))) l3 = some (.lst [.bl false, .bl false, .bl false, .bl false, .bl true, .bl false]) := upd_same
      generalize upd (upd H2 l2 (.lst [.bl true, .bl false])) l3 (.lst ([.bl false, .bl false, .bl false, .bl false] ++ [.bl true, .bl false])) = H3 at s3 e3 ⊢
      have s13 := s1.trans s3
      have hd3 := s13 _ _ hdd
      refine ⟨_, rfl, .inl ⟨rfl, _, SqL.of e3⟩, l3, _, .bl true, rfl, rfl, SqL.of e3, rfl, rfl, rfl, false, by decide +kernel, iteF ?_⟩
      refine ⟨_, rfl, _, .ty "ValueError", .type "ValueError", true, rfl, eC "NotHeld" (by decide +kernel), rfl, (fun u hu => hu), kv "NotHeld" (by decide +kernel), .inr ⟨dd, _, rfl, hd3⟩, true, rfl, iteF ?_⟩
      refine ⟨_, rfl, .inl ⟨rfl, _, SqL.of e3⟩, l3, _, .bl true, 4, .bl true, rfl, rfl, SqL.of e3, rfl, rfl, rfl, rfl, ?_, ?_⟩
      · intro m z' hm hz
        match m, hm, hz with
        | 0, _, hz => cases hz; rfl
        | 1, _, hz => cases hz; rfl
        | 2, _, hz => cases hz; rfl
        | 3, _, hz => cases hz; rfl
      refine ⟨_, rfl, _, _, rfl, rfl, false, by decide +kernel, iteF ⟨small100 (by simp), fun l4 hl4 => ?_⟩⟩
      have s4 : Same H3 (upd H3 l4 (.lst [.str "twig", .str "held", .str "shared"])) := same_upd hl4
      obtain ⟨o1, o2, _⟩ := initB_ok t_iH
      refine ⟨_, rfl, _, _, rfl, rfl, l4, _, (1 : Nat), .str "held", rfl, rfl, SqL.of upd_same, atI_nat (j := 1) rfl, ?_⟩
      exact ⟨_, rfl, rfl, _, rfl, xfB_ok (ba (t_exc "NotHeld" (by decide +kernel))).1, o2, dd, _, .int n, rfl, s4 _ _ hd3, rfl, small100 (by simp), fun p hp => oT (s13.trans s4) o p hp⟩
end
end Tw

namespace Tw
open PySem PySem.Spec PyProof.Rows L2 He
/-! ### sorted(a list of triples of ints) -/
def TriD (d : PyData) : Prop := ∃ i j k : Int, d = .tuple [.int i, .int j, .int k]
def rSortedT (K : PySem.W.Frag) : List V → Hp → VK → Prop := fun vs H Q => ∃ (a : Addr) (xs : List V) (ds : List PyData), vs = [V.ref a] ∧ SqL K H a xs ∧ DaL H xs ds ∧ (∀ d ∈ ds, TriD d) ∧ xs.length ≤ 1000 ∧
  ∀ (ys : List V) (p : Addr), ys.length = xs.length → (∀ y ∈ ys, y ∈ xs) → H p = none → Q (.ref p) (upd H p (.lst ys))
section
variable {X : Cx}
theorem each_back {P : Value → Prop} {β : Type} {xs : List V} : ∀ {us : List Value} {bs : List β}, PySem.W.EachIs (fun v _ => ∃ x ∈ xs, RelV x v) us bs → ∃ ys : List V, Vals ys us ∧ ys.length = bs.length ∧ ∀ y ∈ ys, y ∈ xs
  | _, _, .nil => ⟨[], .nil, rfl, fun _ h => nomatch h⟩
  | _, _, .cons ⟨x, hx, r⟩ t => by
    obtain ⟨ys, h1, h2, h3⟩ := each_back (P := P) t
    exact ⟨x :: ys, .cons r h1, by rw [List.length_cons, List.length_cons, h2], fun y hy => by
      rcases List.mem_cons.mp hy with q | q
      · rw [q]; exact hx
      · exact h3 y q⟩
theorem each_of {pins : List (Addr × Obj)} {s : Shared} {σ : L2.St} {H : Hp} {xs0 : List V} (I : Inv X pins σ H s) : ∀ {xs : List V} {us : List Value} {ds : List PyData}, (∀ x ∈ xs, x ∈ xs0) → Vals xs us → DaL H xs ds →
    PySem.W.EachIs (fun v (_ : PyData) => ∃ x ∈ xs0, RelV x v) us ds ∧ PySem.W.EachIs (fun v b => ∃ as, Reads s.heap v b as) us ds
  | [], _, _, _, r, h => by
    cases h
    cases r
    exact ⟨.nil, .nil⟩
  | x :: xs, _, _, hx, r, h => by
    cases h with
    | cons h1 h2 =>
      cases r with
      | cons r1 r2 =>
        obtain ⟨a, b⟩ := each_of I (fun y hy => hx y (List.mem_cons_of_mem _ hy)) r2 h2
        exact ⟨.cons ⟨x, hx x List.mem_cons_self, r1⟩ a, .cons (Dp.reads I _ _ _ (h1.dp (K := X.K) _ _) r1) b⟩
theorem tri_alike {d e : PyData} (h1 : TriD d) (h2 : TriD e) : PySem.W.alike d e = true := by
  obtain ⟨i, j, k, rfl⟩ := h1
  obtain ⟨i', j', k', rfl⟩ := h2
  simp only [PySem.W.alike, PySem.W.alikeAll, Bool.and_self]
theorem tri_depth {d : PyData} (h : TriD d) : d.depth ≤ 1 := by
  obtain ⟨i, j, k, rfl⟩ := h
  simp only [PyData.depth, PyData.depthAll]
  omega
theorem cr_sortedT (hu : X.A.units + 64 < cLine) : CallR X (.builtin "sorted") (rSortedT X.K) := by
  intro pins s σ H vs us Q I r h
  obtain ⟨a, xs, ds, rfl, hs, hd, htri, hlen, q⟩ := h
  obtain ⟨its, rv, hl, hz⟩ := I.list hs
  rw [Vals.ref1 r]
  obtain ⟨e1, e2⟩ := each_of (xs0 := xs) I (fun x hx => hx) rv hd
  have lds := hd.length
  refine PySem.W.sorted_data (enc := fun d => d) (bs := ds) hl.isList e1 e2 (fun d h1 d' h2 => ?_) (.inl fun d h1 => ?_) (by rw [sizeLine_eq]; omega) (fun b hb => ?_) fun out ho eo => ?_
  · rw [List.map_id'] at h1 h2
    exact tri_alike (htri d h1) (htri d' h2)
  · rw [List.map_id'] at h1
    obtain ⟨i, j, k, e⟩ := htri d h1
    exact ⟨_, _, e⟩
  · have := tri_depth (htri b hb)
    omega
  · obtain ⟨ys, h1, h2, h3⟩ := each_back (P := fun _ => True) eo
    rw [List.length_mergeSort] at h2
    obtain ⟨ep, he'⟩ := PyProof.Rows.sortedAll_at s.heap its (List.toArray out)
    refine ⟨.ref _, upd H (s.heap.objs.size + 1) (.lst ys), I.laid (t' := s.toks) (fun _ _ => PyProof.Rows.sortedAll_old) (Nat.le_succ _) ⟨?_, out, ep, h1, he'⟩, rfl, q ys _ (by rw [h2, lds]) h3 (I.hok.fresh (Nat.le_succ _))⟩
    rw [h2, ← lds, sizeLine_eq]
    omega
end
end Tw

namespace Tw
open PySem PySem.Spec PyProof.Rows L2 He
/-! ### equal keys are the same -/
mutual
theorem kd_eqv : ∀ (a b : PyData) (n m : Nat), kdB n a = true → kdB m b = true → PyData.eqv a b = true → a = b
  | .int i, .int j, _, _, _, _, h => by
    rw [eqv_int] at h
    rw [of_decide_eq_true h]
  | .int _, .str _, _, _, _, _, h => by simp [PyData.eqv] at h
  | .int _, .tuple _, _, _, _, _, h => by simp [PyData.eqv] at h
  | .str x, .str y, _, _, _, _, h => by
    have : x = y := by simpa [PyData.eqv] using h
    rw [this]
  | .str _, .int _, _, _, _, _, h => by simp [PyData.eqv] at h
  | .str _, .tuple _, _, _, _, _, h => by simp [PyData.eqv] at h
  | .tuple _, .int _, _, _, _, _, h => by simp [PyData.eqv] at h
  | .tuple _, .str _, _, _, _, _, h => by simp [PyData.eqv] at h
  | .tuple xs, .tuple ys, _, _, ha, hb, h => by
    obtain ⟨_, _, _, h1⟩ := kd_tup ha
    obtain ⟨_, _, _, h2⟩ := kd_tup hb
    have q : PyData.eqvAll xs ys = true := by simpa [PyData.eqv] using h
    rw [kd_eqvs xs ys _ _ h1 h2 q]
  | .none, _, n, _, h, _, _ => by cases n <;> cases h
  | .bool _, _, n, _, h, _, _ => by cases n <;> cases h
  | .list _, _, n, _, h, _, _ => by cases n <;> cases h
  | .dict _, _, n, _, h, _, _ => by cases n <;> cases h
  | .int _, .none, _, m, _, h, _ => by cases m <;> cases h
  | .int _, .bool _, _, m, _, h, _ => by cases m <;> cases h
  | .int _, .list _, _, m, _, h, _ => by cases m <;> cases h
  | .int _, .dict _, _, m, _, h, _ => by cases m <;> cases h
  | .str _, .none, _, m, _, h, _ => by cases m <;> cases h
  | .str _, .bool _, _, m, _, h, _ => by cases m <;> cases h
  | .str _, .list _, _, m, _, h, _ => by cases m <;> cases h
  | .str _, .dict _, _, m, _, h, _ => by cases m <;> cases h
  | .tuple _, .none, _, m, _, h, _ => by cases m <;> cases h
  | .tuple _, .bool _, _, m, _, h, _ => by cases m <;> cases h
  | .tuple _, .list _, _, m, _, h, _ => by cases m <;> cases h
  | .tuple _, .dict _, _, m, _, h, _ => by cases m <;> cases h
theorem kd_eqvs : ∀ (xs ys : List PyData) (n m : Nat), (∀ d ∈ xs, kdB n d = true) → (∀ d ∈ ys, kdB m d = true) → PyData.eqvAll xs ys = true → xs = ys
  | [], [], _, _, _, _, _ => rfl
  | [], _ :: _, _, _, _, _, h => by simp [PyData.eqvAll] at h
  | _ :: _, [], _, _, _, _, h => by simp [PyData.eqvAll] at h
  | x :: xs, y :: ys, n, m, h1, h2, h => by
    have q : PyData.eqv x y = true ∧ PyData.eqvAll xs ys = true := by simpa [PyData.eqvAll] using h
    rw [kd_eqv x y n m (h1 x List.mem_cons_self) (h2 y List.mem_cons_self) q.1, kd_eqvs xs ys n m (fun d hd => h1 d (List.mem_cons_of_mem _ hd)) (fun d hd => h2 d (List.mem_cons_of_mem _ hd)) q.2]
end
/-- what holds of the law's state, in plain -/
structure LawOk (L : LS) (c : Nat) : Prop where
  gd : Good L.S.es L.S.g c
  c8 : c ≤ 8
  ri : RiG L.gd
  gk : ∀ k ∈ L.gd, isW 3 k = true
  g64 : L.gd.length = 64
  ks : ∀ e ∈ L.S.es, e.lab.lo ∈ L.gd ∧ e.lab.hi ∈ L.gd
  tl : ∀ t ∈ L.tl, t < L.S.g
  mem : ∀ e ∈ L.S.es, e.n ∈ L.tl
  sn : L.S.seen = []
  g0 : 0 ≤ L.S.g
section
variable {K : PySem.W.Frag} {L : LS} {H : Hp}
/-- grid.index(key) -/
theorem idx_at {c : Nat} (A : LawAt K L H) (O : LawOk L c) {y : V} {d : PyData} (hd : Da H y d) (hm : d ∈ L.gd) : ∃ j : Nat, Dp K H (.ref L.aG) (.list L.gd) ∧ Dp K H y d ∧ SeqAt.shaped (.list L.gd) = true ∧ SeqAt.shaped d = true ∧ L.gd[j]? = some d ∧ PyData.eqv d d = true ∧ (∀ (m : Nat) (z' : PyData), m < j → L.gd[m]? = some z' → PyData.eqv z' d = false) := by
  obtain ⟨j, hj, e⟩ := List.mem_iff_getElem.mp hm
  obtain ⟨xs, h1, h2⟩ := A.gr
  have ej : L.gd[j]? = some d := by rw [List.getElem?_eq_getElem hj, e]
  have dk := isW_kd 3 d (O.gk d hm)
  have lay := isW_lay 3 d (O.gk d hm)
  refine ⟨j, .lst (SqL.of h1) (h2.dp _ _), hd.dp _ _, shaped_keys O.gk, shaped_of lay.1 (by omega), ej, ?_, fun m z' hmj hz => ?_⟩
  · exact SeqAt.eqv_refl d lay.1
  · cases q2 : PyData.eqv z' d with
    | false => rfl
    | true =>
      have e2 := kd_eqv z' d 3 3 (isW_kd 3 z' (O.gk z' (List.mem_of_getElem? hz))) dk q2
      have r := O.ri m j z' d hmj hz ej
      rw [e2, ah_irr] at r
      cases r
end
end Tw

namespace Tw
open PySem PySem.Spec PyProof.Rows L2 He
/-- a statement behind which a thing is known -/
def tJoin (t : TS) : TS := fun D σ H => ∃ N : L2.St → Hp → Prop, t { D with nx := N } σ H ∧ ∀ σ' H', N σ' H' → D.nx σ' H'
theorem ps_join {X : Cx} {st : Stmt} {t : TS} (h : PS X st t) : PS X st (tJoin t) := by
  refine ⟨fun pins s σ H D I q => ?_⟩
  obtain ⟨N, q1, q2⟩ := q
  refine wpAny_mono (h.run pins s σ H { D with nx := N } I q1) (fun f s' hs => ?_) fun e s' z => z
  cases f with
  | next =>
    obtain ⟨σ', H', J, n⟩ := hs
    exact ⟨σ', H', J, q2 σ' H' n⟩
  | brk => exact hs
  | cont => exact hs
  | ret u => exact hs
section
variable {P : Program} {w : World} {K : PySem.W.Frag} {mg : Str → Option Value} {base : Heap}
theorem units65 {k : Nat} {A : Around} (r : Room k A) : A.units + 65 < cLine := by have := r.un; omega
def pairL (b : En) : PyData := .tuple [b.lab.D, .int b.n]
def TriB (es : List En) (d : PyData) : Prop := ∃ (i j : Int) (b : En), b ∈ es ∧ d = .tuple [.int i, .int j, .int b.n]
abbrev runN : List Str := ["_law_well_here", "_law_twigs", "_law_holds", "_law_grid_here", "_law_number", "_law_some", "_law_run_here", "_law_last", "_law_at", "_law_most", "_law_labels", "_law_low", "_law_top", "_law_label_here"]
theorem sc_run : FnScope runN ["_law_well_here", "_law_twigs", "_law_holds", "_law_grid_here"] d_l_run.scope := ⟨rfl, rfl, rfl, by decide +kernel, rfl, by decide +kernel, by decide +kernel⟩
def spRun (K : PySem.W.Frag) : Sp := fun vs H Q _ => ∃ (wl : Addr) (L : LS) (c : Nat), vs = [.ref wl, .ref L.aT, .ref L.aH, .ref L.aG] ∧ WellAt wl H ∧ ¬ L.M wl ∧ LawAt K L H ∧ LawOk L c ∧ 1 ≤ L.S.es.length ∧
  ∀ (H' : Hp) (p : Addr) (ns : List Int), H p = none → H' p = some (.lst (ns.map V.int)) → (∀ n ∈ ns, Has L.S.es n) → ns.length ≤ 30 → WellAt wl H' → Fr (fun b => b = wl) H H' → Q (.ref p) H'
theorem ok_run (T : Tx K mg) : Okd P w K mg base CX0 3 d_l_run ["_law_well_here", "_law_twigs", "_law_holds", "_law_grid_here"] (spRun K) := by
  refine okd0 T in_l_run sc_run (fun _ _ _ _ _ _ us hl => match us, hl with | [_, _, _, _], _ => rfl) (fun vs H Q E h => ?_) (fun cdv A outer s H vs Q E hr h => ?_)
  · obtain ⟨wl, L, c, rfl, _⟩ := h
    rfl
  · obtain ⟨wl, L, c, rfl, W, hwl, A1, O, h1, k⟩ := h
    have hu := hu_of hr
    have hu64 := hr.units
    refine ⟨_, pss_cons (ps_setLc (i := 5) (own := [("_law_number", 4)]) (g := gName 4) (tt := tTest (tOp (rI0 fun i j => .bl (decide (j < i))) (tDGet (tVar 2) (tVar 4)) (tC (.int 0)))) (te := tVar 4) rfl sc_run.nd rfl rfl (by rfl)
        (pi_list (pe_callB (call_sortedDI rfl) (by rfl) (T.f "sorted") (by decide +kernel) (pa_cons (pv 1) pa_nil)))
        (blkOk_by (own := [("_law_number", 4)]) (N := runN) (sc := d_l_run.scope) (by decide +kernel)) (fun _ _ _ _ _ => pg_name (i := 4) sc_run.nd rfl (Or.inl rfl))
        (fun _ _ _ _ _ => by exact pts_one (pt_cmpR op_gt (pe_dget hu (pv 2) (pv 4) (fun _ _ => rfl)) pe_int (nomark _))) (fun _ _ _ _ _ => by exact pv 4))
      (pss_cons (ps_join (ps_if (PW.pt (pw_or (pt_cmpR op_eq (pcl (ok_pull T) hr pass0 (pa_cons (pv 0) (pa_cons pe_int pa_nil)) (T.g "_law_pull")) pe_int (nomark _)) (pw_or1 (pt_cmpR (op_eqD hr.units) (pv 5) (pe_lst pa_nil) (nomark _)))))
        (pss_one (ps_set (i := 5) sc_run.nd rfl (Or.inl rfl) (pe_callB (call_sortedDI rfl) (by rfl) (T.f "sorted") (by decide +kernel) (pa_cons (pv 1) pa_nil)))) pss_nil))
      (pss_cons (ps_set (i := 6) sc_run.nd rfl (Or.inl rfl) (pe_lst (pa_cons (pcl (ok_pick T) hr pass0 (pa_cons (pv 0) (pa_cons (pv 5) pa_nil)) (T.g "_law_picked")) pa_nil)))
      (pss_cons (ps_set (i := 7) sc_run.nd rfl (Or.inr rfl) (pcl (ok_lbl T) hr pass0 (pa_cons (pv 1) (pa_cons (pe_ix ix_list (pv 6) pe_int (fun _ _ => rfl)) pa_nil)) (T.g "_law_label")))
      (pss_cons (ps_set (i := 8) sc_run.nd rfl (Or.inl rfl) (pe_bm PySem.F.plainAttrs_list PySem.F.slot_list_index PySem.F.type_list_index (mt_indexD (units65 hr)) (pv 3) (pa_cons (pe_ix ix_tup (pv 7) pe_int (fun _ _ => rfl)) pa_nil)))
      (pss_cons (ps_set (i := 9) sc_run.nd rfl (Or.inl rfl) (pe_op op_add pe_int (pcl (ok_pull T) hr pass0 (pa_cons (pv 0) (pa_cons pe_int pa_nil)) (T.g "_law_pull"))))
      (pss_cons (ps_setLc (i := 10) (own := [("_law_number", 4)]) (g := gName 4) (tt := tYes) (te := tTup (tCons (tCall (spLbl K) [] E0 (tCons (tVar 1) (tCons (tVar 4) tNil))) (tCons (tVar 4) tNil))) rfl sc_run.nd rfl rfl (by rfl)
        (pi_list (pv 5)) (blkOk_by (own := [("_law_number", 4)]) (N := runN) (sc := d_l_run.scope) (by decide +kernel)) (fun _ _ _ _ _ => pg_name (i := 4) sc_run.nd rfl (Or.inl rfl)) (fun _ _ _ _ _ => pts_nil)
        (fun _ _ _ _ _ => by exact pe_tup (pa_cons (pcl (ok_lbl T) hr pass0 (pa_cons (pv 1) (pa_cons (pv 4) pa_nil)) (T.g "_law_label")) (pa_cons (pv 4) pa_nil))))
      (pss_cons (ps_setLc (i := 5) (own := [("_law_label_here", 13), ("_law_number", 4)]) (g := gTup K 2 (gCons (gName 13) (gCons (gName 4) gNil))) (tt := tTest (tOp rEq (tOp (rIxT K) (tVar 13) (tC (.int 0))) (tOp (rIxT K) (tVar 7) (tC (.int 0)))))
          (te := tTup (tCons (tBM K "list" (rIndexD K) (tVar 3) (tCons (tOp (rIxT K) (tVar 13) (tC (.int 1))) tNil)) (tCons (tBM K "list" (rIndexD K) (tVar 3) (tCons (tOp (rIxT K) (tVar 13) (tC (.int 2))) tNil)) (tCons (tVar 4) tNil)))) rfl sc_run.nd rfl rfl (by rfl)
        (pi_list (pv 10)) (blkOk_by (own := [("_law_label_here", 13), ("_law_number", 4)]) (N := runN) (sc := d_l_run.scope) (by decide +kernel)) (fun _ _ _ _ _ => by exact pg_tup rfl (pgs_cons (pg_name (i := 13) sc_run.nd rfl (Or.inl rfl)) (pgs_cons (pg_name (i := 4) sc_run.nd rfl (Or.inl rfl)) pgs_nil)))
        (fun _ _ _ _ _ => by exact pts_one (pt_cmpR op_eq (pe_ix ix_tup (pv 13) pe_int (fun _ _ => rfl)) (pe_ix ix_tup (pv 7) pe_int (fun _ _ => rfl)) (nomark _)))
        (fun _ _ _ _ _ => by exact pe_tup (pa_cons (pe_bm PySem.F.plainAttrs_list PySem.F.slot_list_index PySem.F.type_list_index (mt_indexD (units65 hr)) (pv 3) (pa_cons (pe_ix ix_tup (pv 13) pe_int (fun _ _ => rfl)) pa_nil)) (pa_cons (pe_bm PySem.F.plainAttrs_list PySem.F.slot_list_index PySem.F.type_list_index (mt_indexD (units65 hr)) (pv 3) (pa_cons (pe_ix ix_tup (pv 13) pe_int (fun _ _ => rfl)) pa_nil)) (pa_cons (pv 4) pa_nil)))))
      (pss_cons (ps_for PassesOwn.never rfl (pi_list (pe_callB (cr_sortedT hr.units) (by rfl) (T.f "sorted") (by decide +kernel) (pa_cons (pv 5) pa_nil))) (pg_tup rfl (pgs_cons (pg_name (i := 11) sc_run.nd rfl (Or.inl rfl)) (pgs_cons (pg_name (i := 12) sc_run.nd rfl (Or.inl rfl)) (pgs_cons (pg_name (i := 4) sc_run.nd rfl (Or.inl rfl)) pgs_nil))))
        (pss_one (ps_if (PW.pt (pw_and (pt_cmpR op_gt (pv 11) (pv 8) (nomark _)) (pw_and1 (pt_cmpR op_lt (pe_callB call_len_seq (by rfl) (T.f "len") PySem.boot_len (pa_cons (pv 6) pa_nil)) (pv 9) (nomark _)))))
          (pss_cons (ps_expr (pe_bm PySem.F.plainAttrs_list PySem.F.slot_list_append PySem.F.type_list_append mt_append (pv 6) (pa_cons (pv 4) pa_nil))) (pss_one (ps_set (i := 8) sc_run.nd rfl (Or.inl rfl) (pv 12)))) pss_nil)))
      (pss_one (ps_ret (pv 6))))))))))), ?_⟩
    have es50 := A1.sh.small.1
    have wlL : ∀ {H' : Hp}, Fr (fun b => b = wl) H H' → LawAt K L H' := fun F => A1.of_fr F fun b hb z => hwl (by rw [← z]; exact hb)
    -- 1. those with a hold
    refine ⟨_, rfl, L.aT, _, L.S.es.map En.n, rfl, .inl A1.tw, dict_keys _ _, by rw [List.length_map]; omega, fun ys p hp hs hn => ?_⟩
    rw [nums_sorted A1.sh.inc hp hs]
    have s1 : Same H (upd H p (.lst ((L.S.es.map En.n).map V.int))) := same_upd hn
    have p1 : (upd H p (.lst ((L.S.es.map En.n).map V.int))) p = some (.lst ((L.S.es.map En.n).map V.int)) := upd_same
    generalize upd H p (.lst ((L.S.es.map En.n).map V.int)) = H1 at s1 p1 ⊢
    refine ⟨p, rfl, ⟨_, SqL.of p1⟩, fun D hD => lc_it walk_list (fun i H2 => Same H1 H2 ∧ ∃ bs : List En, (∀ b ∈ bs, b ∈ L.S.es) ∧ bs.length ≤ i ∧ H2 D = some (.lst ((bs.map En.n).map V.int))) ⟨same_upd hD, [], (fun _ z => nomatch z), Nat.le_refl _, upd_same⟩ (fun i H2 _ q => SqL.of (q.1 _ _ p1)) ?_ ?_⟩
    · rintro i y H2 H3 hi ⟨s2, bs, hbs, hbl, hD2⟩ ⟨rfl, hy⟩
      obtain ⟨m, em, rfl⟩ := ints_at hy
      rw [List.getElem?_map] at em
      obtain ⟨b, eb, rfl⟩ : ∃ b, L.S.es[i]? = some b ∧ b.n = m := by
        cases q : L.S.es[i]? with
        | none => rw [q] at em; cases em
        | some b => rw [q] at em; exact ⟨b, rfl, Option.some.inj em⟩
      have hb : b ∈ L.S.es := List.mem_of_getElem? eb
      have A3 := A1.same (s1.trans s2)
      rw [List.length_map, List.length_map] at hi
      refine ⟨rfl, _, rfl, _, rfl, L.aH, _, rfl, A3.gH hb, _, _, rfl, rfl, _, rfl, ite2 (fun h2 => ?_) (fun h2 => ?_)⟩
      · refine ⟨_, rfl, _, hD2, ?_, grow_same s2 hD, bs ++ [b], fun x hx => ?_, by rw [List.length_append]; simp; omega, ?_⟩
        · rw [List.length_map, List.length_map, sizeLine_eq]
          omega
        · rcases List.mem_append.mp hx with q | q
          · exact hbs x q
          · rw [List.mem_singleton.mp q]; exact hb
        · rw [upd_same, List.map_append, List.map_append]
          rfl
      · exact ⟨s2, bs, hbs, by omega, hD2⟩
    rintro H2 ⟨s2, bs0, hbs0, hbl0, hD2⟩
    rw [List.length_map, List.length_map] at hbl0
    have hDH : H D = none := (Fr.of (M := M0) s1).free (fun z => z) hD
    have s12 := s1.trans s2
    have wlNe : ∀ {b : Addr}, H b = none → b ≠ wl := fun {b} hb z => by
      obtain ⟨_, e⟩ := W.sq (K := K)
      rw [z, e] at hb
      cases hb
    have F2 : Fr (fun b => b = wl) H H2 := Fr.of s12
    -- 2. the pull; all of them
    refine ⟨fun σ' H' => ∃ (l : Addr) (bs : List En), σ' = [some (.ref wl), some (.ref L.aT), some (.ref L.aH), some (.ref L.aG), none, some (.ref l), none, none, none, none, none, none, none, none] ∧ H l = none ∧ H' l = some (.lst ((bs.map En.n).map V.int)) ∧ (∀ b ∈ bs, b ∈ L.S.es) ∧ bs.length ≤ 50 ∧ 1 ≤ bs.length ∧ WellAt wl H' ∧ Fr (fun b => b = wl) H H', ?_, ?_⟩
    · refine ⟨_, rfl, wl, 8, rfl, W.same s12, by decide, by decide, fun r1 H3 r10 r18 W3 F3 => ⟨rfl, _, rfl, ?_⟩⟩
      have F3' := F2.trans F3
      have hD3 := F3.at (wlNe hDH) hD2
      have all : ∀ (H4 : Hp), WellAt wl H4 → Fr (fun b => b = wl) H H4 → tAsg (tCB (fun xs H Q => ∃ (a : Addr) (kvs : List (Key × V)) (ks : List Int), xs = [.ref a] ∧ Rd H a (.dK kvs) ∧ kvs.map (·.1) = ks.map Sum.inl ∧ ks.length < 64 ∧ ∀ (ys : List Int) (p : Addr), ys.Perm ks → ys.Pairwise (· ≤ ·) → H p = none → Q (.ref p) (upd H p (.lst (ys.map V.int)))) (tCons (tVar 1) tNil)) (gName 5) { nx := fun σ' H' => ∃ (l : Addr) (bs : List En), σ' = [some (.ref wl), some (.ref L.aT), some (.ref L.aH), some (.ref L.aG), none, some (.ref l), none, none, none, none, none, none, none, none] ∧ H l = none ∧ H' l = some (.lst ((bs.map En.n).map V.int)) ∧ (∀ b ∈ bs, b ∈ L.S.es) ∧ bs.length ≤ 50 ∧ 1 ≤ bs.length ∧ WellAt wl H' ∧ Fr (fun b => b = wl) H H', rt := Q } [some (.ref wl), some (.ref L.aT), some (.ref L.aH), some (.ref L.aG), none, some (.ref D), none, none, none, none, none, none, none, none] H4 := fun H4 W4 F4 => by
        have A4 := wlL F4
        refine ⟨_, rfl, L.aT, _, L.S.es.map En.n, rfl, .inl A4.tw, dict_keys _ _, by rw [List.length_map]; omega, fun ys p hp hs hn => ?_⟩
        rw [nums_sorted A4.sh.inc hp hs]
        have s5 : Same H4 (upd H4 p (.lst ((L.S.es.map En.n).map V.int))) := same_upd hn
        have hpw : p ≠ wl := fun z => by
          obtain ⟨_, e⟩ := W4.sq (K := K)
          rw [z, e] at hn
          cases hn
        exact ⟨p, L.S.es, rfl, F4.free hpw hn, upd_same, fun b hb => hb, es50, h1, W4.same s5, F4.trans (Fr.of s5)⟩
      by_cases z : r1 = 7
      · rw [show decide (V.int r1 = V.int 7) = true from decide_eq_true (by rw [z])]
        exact iteT (iteT (all H3 W3 F3'))
      · rw [show decide (V.int r1 = V.int 7) = false from decide_eq_false (fun q => z (V.int.inj q))]
        refine iteF ⟨_, rfl, Nat.zero_le _, fun q hq => ?_⟩
        have s4 : Same H3 (upd H3 q (.lst [])) := same_upd hq
        refine ⟨.list ((bs0.map En.n).map PyData.int), .list [], dp_ints (SqL.of (s4 _ _ hD3)), .lst (SqL.of upd_same) .nil, shaped_ints _, shaped_ints [], _, rfl, ?_⟩
        rw [eqv_nil]
        cases bs0 with
        | nil => exact iteT (all _ (W3.same s4) (F3'.trans (Fr.of s4)))
        | cons b bs1 => exact iteF ⟨D, b :: bs1, rfl, hDH, s4 _ _ hD3, hbs0, by omega, by simp, W3.same s4, F3'.trans (Fr.of s4)⟩
    · rintro σ4 H4 ⟨l, bs, rfl, hl0, hl4, hbs, hb50, hb1, W4, F4⟩
      have A4 := wlL F4
      have hlw := wlNe hl0
      have lbs : (bs.map En.n).length = bs.length := List.length_map ..
      -- 3. the run's first
      refine ⟨_, rfl, _, rfl, wl, l, bs.map En.n, rfl, W4, hl4, hlw, by omega, by omega, fun n0 H5 hn0 W5 F5 => ⟨small100 (by simp), fun r0 hr0 => ?_⟩⟩
      obtain ⟨e0, he0, rfl⟩ := List.mem_map.mp hn0
      have he0 := hbs e0 he0
      have F45 := F4.trans F5
      have hr0w : r0 ≠ wl := fun z => by
        obtain ⟨_, e⟩ := W5.sq (K := K)
        rw [z, e] at hr0
        cases hr0
      have hr00 : H r0 = none := F45.free hr0w hr0
      have s6 : Same H5 (upd H5 r0 (.lst [.int e0.n])) := same_upd hr0
      have r6 : (upd H5 r0 (.lst [.int e0.n])) r0 = some (.lst ([e0.n].map V.int)) := upd_same
      have W6 := W5.same s6
      have F6 : Fr (fun b => b = wl) H (upd H5 r0 (.lst [.int e0.n])) := F45.trans (Fr.of s6)
      have l6 := s6 _ _ (F5.at hlw hl4)
      generalize upd H5 r0 (.lst [.int e0.n]) = H6 at r6 W6 F6 l6 ⊢
      have A6 := wlL F6
      have hlr : l ≠ r0 := fun z => by
        have e := F5.at hlw hl4
        rw [z, hr0] at e
        cases e
      -- 4. its label
      refine ⟨_, rfl, _, rfl, r0, _, 0, .int e0.n, rfl, rfl, SqL.of r6, atI_nat (j := 0) rfl, L, c, e0, rfl, A6, O.gd, O.c8, he0, fun H7 v7 s7 hv7 => ?_⟩
      obtain ⟨t7, x7, y7, rfl, ht7, hx7, hy7⟩ := lab_of hv7
      have A7 := A6.same s7
      obtain ⟨j7, a71, a72, a73, a74, a75, a76, a77⟩ := idx_at A7 O hy7 (O.ks e0 he0).2
      refine ⟨_, rfl, .inl ⟨rfl, _, SqL.of (A7.gr.choose_spec.1)⟩, _, rfl, t7, _, 2, y7, rfl, rfl, SqT.of ht7, atI_nat (j := 2) rfl, L.aG, y7, _, L.gd, j7, _, rfl, rfl, a71, a72, a73, a74, a75, a76, a77, ?_⟩
      -- 5. most
      refine ⟨_, rfl, wl, 3, rfl, W6.same s7, by decide, by decide, fun r8 H8 r80 r83 W8 F8 => ⟨_, _, rfl, rfl, ?_⟩⟩
      have F67 : Fr (fun b => b = wl) H H7 := F6.trans (Fr.of s7)
      have F8' := F67.trans F8
      have A8 := wlL F8'
      have l8 := F8.at hlw (s7 _ _ l6)
      have r8' := F8.at hr0w (s7 _ _ r6)
      have t8 := F8.tup ht7
      -- 6. labels
      refine ⟨_, rfl, l, rfl, ⟨_, SqL.of l8⟩, fun D2 hD2 => lc_it walk_list (fun i H9 => Same H8 H9 ∧ ∃ ys, H9 D2 = some (.lst ys) ∧ DaL H9 ys ((bs.take i).map pairL)) ⟨same_upd hD2, [], upd_same, .nil⟩ (fun i H9 _ q => SqL.of (q.1 _ _ l8)) ?_ ?_⟩
      · rintro i y H9 H10 hi ⟨s9, ys, hD9, hy9⟩ ⟨rfl, hy⟩
        obtain ⟨n, en, rfl⟩ := ints_at hy
        rw [List.getElem?_map] at en
        obtain ⟨b, eb, rfl⟩ : ∃ b, bs[i]? = some b ∧ b.n = n := by
          cases q : bs[i]? with
          | none => rw [q] at en; cases en
          | some b => rw [q] at en; exact ⟨b, rfl, Option.some.inj en⟩
        have hbm := hbs b (List.mem_of_getElem? eb)
        refine ⟨rfl, _, rfl, _, rfl, L, c, b, rfl, A8.same s9, O.gd, O.c8, hbm, fun H11 v s11 hv => ⟨_, rfl, small100 (by simp), fun q hq => ?_⟩⟩
        have s12 : Same H11 (upd H11 q (.tup [v, .int b.n])) := same_upd hq
        have d12 := (s11.trans s12) _ _ hD9
        refine ⟨ys, d12, ?_, grow_same (s9.trans (s11.trans s12)) hD2, ys ++ [.ref q], upd_same, ?_⟩
        · have q := hy9.length
          rw [List.length_map, List.length_take] at q
          rw [q, sizeLine_eq]
          omega
        · rw [List.take_add_one, eb, List.map_append]
          exact DaL.updl d12 (DaL.app (hy9.same (s11.trans s12)) (.cons (.tup upd_same (.cons (hv.same s12) (.cons (.int _) .nil))) .nil))
      rintro H9 ⟨s9, ys, hD9, hy9⟩
      rw [List.length_map, List.length_map, List.take_of_length_le (Nat.le_refl _)] at hy9
      have lys := hy9.length
      rw [List.length_map] at lys
      have A9 := A8.same s9
      have F9 : Fr (fun b => b = wl) H H9 := F8'.trans (Fr.of s9)
      have t9 := s9 _ _ t8
      have r9 := s9 _ _ r8'
      -- 7. the triples
      refine ⟨_, rfl, D2, rfl, ⟨_, SqL.of hD9⟩, fun D3 hD3 => lc_it walk_list (fun i H10 => Same H9 H10 ∧ ∃ zs ds, H10 D3 = some (.lst zs) ∧ DaL H10 zs ds ∧ (∀ d ∈ ds, TriB L.S.es d) ∧ zs.length ≤ i) ⟨same_upd hD3, [], [], upd_same, .nil, (fun _ z => nomatch z), Nat.le_refl _⟩ (fun i H10 _ q => SqL.of (q.1 _ _ hD9)) ?_ ?_⟩
      · rintro i y H10 H11 hi ⟨s10, zs, ds, hD10, hz10, htr, hzl⟩ ⟨rfl, hy⟩
        obtain ⟨d, e1, e2⟩ := hy9.getV hy
        rw [List.getElem?_map] at e1
        obtain ⟨b, eb, rfl⟩ : ∃ b, bs[i]? = some b ∧ pairL b = d := by
          cases q : bs[i]? with
          | none => rw [q] at e1; cases e1
          | some b => rw [q] at e1; exact ⟨b, rfl, Option.some.inj e1⟩
        have hbm := hbs b (List.mem_of_getElem? eb)
        have e2 := e2.same s10
        obtain ⟨tp, us, rfl, htp, hus⟩ := e2.tup_of
        cases hus with
        | cons u1 u2 =>
        cases u2 with
        | cons u2 u3 =>
        cases u3
        obtain ⟨tl, x1, y1, rfl, htl, hx1, hy1⟩ := lab_of u1
        rw [u2.int_of] at htp
        have A10 := A9.same s10
        refine ⟨tp, _, rfl, SqT.of htp, rfl, _, _, rfl, _, _, rfl, rfl, rfl, ?_⟩
        refine ⟨_, rfl, tl, _, 0, _, rfl, rfl, SqT.of htl, atI_nat (j := 0) rfl, _, rfl, t7, _, 0, _, rfl, rfl, SqT.of (s10 _ _ t9), atI_nat (j := 0) rfl, rfl, _, rfl, ite2 (fun h2 => ?_) (fun h2 => ⟨s10, zs, ds, hD10, hz10, htr, by omega⟩)⟩
        obtain ⟨j1, a11, a12, a13, a14, a15, a16, a17⟩ := idx_at A10 O hx1 (O.ks b hbm).1
        obtain ⟨j2, a21, a22, a23, a24, a25, a26, a27⟩ := idx_at A10 O hy1 (O.ks b hbm).2
        refine ⟨_, rfl, .inl ⟨rfl, _, SqL.of (A10.gr.choose_spec.1)⟩, _, rfl, tl, _, 1, x1, rfl, rfl, SqT.of htl, atI_nat (j := 1) rfl, L.aG, x1, _, L.gd, j1, _, rfl, rfl, a11, a12, a13, a14, a15, a16, a17, ?_⟩
        refine ⟨_, rfl, .inl ⟨rfl, _, SqL.of (A10.gr.choose_spec.1)⟩, _, rfl, tl, _, 2, y1, rfl, rfl, SqT.of htl, atI_nat (j := 2) rfl, L.aG, y1, _, L.gd, j2, _, rfl, rfl, a21, a22, a23, a24, a25, a26, a27, _, rfl, small100 (by simp), fun q hq => ?_⟩
        have s12 : Same _ (upd _ q (.tup [.int (j1 : Nat), .int (j2 : Nat), .int b.n])) := same_upd hq
        have d12 := s12 _ _ hD10
        refine ⟨zs, d12, by rw [sizeLine_eq]; omega, grow_same (s10.trans s12) hD3, zs ++ [.ref q], ds ++ [.tuple [.int (j1 : Nat), .int (j2 : Nat), .int b.n]], upd_same, ?_, fun d hd => ?_, by rw [List.length_append]; simp; omega⟩
        · exact DaL.updl d12 (DaL.app (hz10.same s12) (.cons (.tup upd_same (.cons (.int _) (.cons (.int _) (.cons (.int _) .nil)))) .nil))
        · rcases List.mem_append.mp hd with q | q
          · exact htr d q
          · rw [List.mem_singleton.mp q]
            exact ⟨_, _, b, hbm, rfl⟩
      rintro H10 ⟨s10, zs, ds, hD10, hz10, htr, hzl⟩
      rw [lys] at hzl
      have F10 : Fr (fun b => b = wl) H H10 := F9.trans (Fr.of s10)
      have r10 := s10 _ _ r9
      -- 8. the run
      refine ⟨_, rfl, D3, zs, ds, rfl, SqL.of hD10, hz10, (fun d hd => by obtain ⟨i, j, b, _, e⟩ := htr d hd; exact ⟨i, j, b.n, e⟩), by omega, fun qs p hq1 hq2 hp => ?_⟩
      have s11 : Same H10 (upd H10 p (.lst qs)) := same_upd hp
      have p11 : (upd H10 p (.lst qs)) p = some (.lst qs) := upd_same
      have r11 := s11 _ _ r10
      have F11 : Fr (fun b => b = wl) H (upd H10 p (.lst qs)) := F10.trans (Fr.of s11)
      have z11 := hz10.same s11
      have W11 : WellAt wl (upd H10 p (.lst qs)) := ((W8.same s9).same s10).same s11
      generalize upd H10 p (.lst qs) = H11 at p11 r11 F11 z11 W11 ⊢
      have hpr : p ≠ r0 := fun z => by
        rw [z, r10] at hp
        cases hp
      refine ⟨p, rfl, ⟨_, SqL.of p11⟩, for_it walk_list (fun i σ H12 => ∃ (at_ : Int) (rn : List Int) (a b c : Option V), σ = [some (.ref wl), some (.ref L.aT), some (.ref L.aH), some (.ref L.aG), a, some (.ref D3), some (.ref r0), some (.ref t7), some (.int at_), some (.int (2 + r8)), some (.ref D2), b, c, none] ∧ (∀ x o, H11 x = some o → x ≠ r0 → H12 x = some o) ∧ H12 r0 = some (.lst (rn.map V.int)) ∧ (∀ n ∈ rn, Has L.S.es n) ∧ rn.length ≤ 4 ∧ Fr (fun b => b = wl) H H12)
        ⟨_, [e0.n], none, none, none, rfl, (fun x o e _ => e), r11, (fun n hn => by rw [List.mem_singleton.mp hn]; exact ⟨e0, he0, rfl⟩), by simp, F11⟩ (fun i σ H12 _ ⟨_, _, _, _, _, _, e, _⟩ => SqL.of (e _ _ p11 hpr)) ?_ ?_⟩
      · rintro i y σ H12 H13 hi ⟨at_, rn, a, b, c', rfl, k12, r12, hrn, hrl, F12⟩ ⟨rfl, hy⟩
        have hmem := hq2 y (List.mem_of_getElem? hy)
        obtain ⟨m, hm, em⟩ := List.mem_iff_getElem.mp hmem
        obtain ⟨d, e1, e2⟩ := z11.getV (by rw [List.getElem?_eq_getElem hm, em])
        obtain ⟨i1, i2, b3, hb3, rfl⟩ := htr d (List.mem_of_getElem? e1)
        obtain ⟨tp, us, rfl, htp, hus⟩ := e2.tup_of
        cases hus with
        | cons u1 u2 =>
        cases u2 with
        | cons u2 u3 =>
        cases u3 with
        | cons u3 u4 =>
        cases u4
        rw [u1.int_of, u2.int_of, u3.int_of] at htp
        have htp2 := k12 _ _ htp (ne_of htp r11 fun z => nomatch z)
        refine ⟨tp, _, rfl, SqT.of htp2, rfl, _, _, rfl, _, _, rfl, _, _, rfl, rfl, ?_⟩
        refine ⟨_, rfl, _, rfl, _, _, rfl, rfl, _, rfl, ite2 (fun h2 => ?_) (fun h2 => iteF ⟨_, rn, _, _, _, rfl, k12, r12, hrn, hrl, F12⟩)⟩
        refine ⟨_, rfl, r0, _, rfl, .inl (SqL.of r12), _, rfl, _, _, rfl, rfl, _, rfl, ite2 (fun h3 => ?_) (fun h3 => ⟨_, rn, _, _, _, rfl, k12, r12, hrn, hrl, F12⟩)⟩
        have h3' := of_decide_eq_true h3
        rw [List.length_map] at h3'
        refine ⟨_, rfl, .inl ⟨rfl, _, SqL.of r12⟩, _, rfl, r0, _, .int b3.n, rfl, rfl, r12, by rw [List.length_map, sizeLine_eq]; omega, _, rfl, _, rn ++ [b3.n], _, _, _, rfl, (fun x o e hx => (upd_ne hx).trans (k12 x o e hx)), by rw [upd_same, List.map_append]; rfl, fun n hn => ?_, by rw [List.length_append]; simp; omega, F12.lay hr00⟩
        rcases List.mem_append.mp hn with q | q
        · exact hrn n q
        · rw [List.mem_singleton.mp q]; exact ⟨b3, hb3, rfl⟩
      · rintro σ H12 ⟨at_, rn, a, b, c', rfl, k12, r12, hrn, hrl, F12⟩
        have W12 : WellAt wl H12 := by
          obtain ⟨a, b, c, d, e, q⟩ := W11
          exact ⟨a, b, c, d, k12 _ _ e hr0w.symm, q⟩
        exact ⟨_, rfl, k H12 r0 rn hr00 r12 hrn (by omega) W12 F12⟩
end
end Tw

namespace Tw
open PySem PySem.Spec PyProof.Rows L2 He
section
variable {P : Program} {w : World} {K : PySem.W.Frag} {mg : Str → Option Value} {base : Heap}
theorem items_cl {es : List En} {g : Int} {c : Nat} (G : Good es g c) {e : En} (he : e ∈ es) : clD 5 (.tuple e.tw.items) = true := by
  cases ht : e.tw with
  | leaf rs =>
    obtain ⟨h1, h4, hk, _⟩ := G.lf e he rs ht
    refine cl_of_tup (by show (rs.map rowD).length ≤ 1000; rw [List.length_map]; omega) fun d hd => ?_
    obtain ⟨r, hr, rfl⟩ := List.mem_map.mp (show d ∈ rs.map rowD from hd)
    refine cl_of_tup (n := 3) (by simp) fun x hx => ?_
    rcases List.mem_cons.mp hx with q | hx
    · rw [q]; exact kd_cl 3 _ (isW_kd 3 _ (hk r hr).1)
    · rw [List.mem_singleton.mp hx]; exact kd_cl 3 _ (isW_kd 3 _ (hk r hr).2)
  | stem ns =>
    obtain ⟨bs, e1, _, _, h4, _⟩ := G.st e he ns ht
    have : ns.length = bs.length := by rw [← e1]; exact List.length_map ..
    refine cl_of_tup (by show (ns.map PyData.int).length ≤ 1000; rw [List.length_map]; omega) fun d hd => ?_
    obtain ⟨n, _, rfl⟩ := List.mem_map.mp (show d ∈ ns.map PyData.int from hd)
    exact cl_int _ _
theorem ints_cl (ns : List Int) (h : ns.length ≤ 1000) : clD 5 (.tuple (ns.map PyData.int)) = true :=
  cl_of_tup (by rw [List.length_map]; exact h) fun d hd => by
    obtain ⟨n, _, rfl⟩ := List.mem_map.mp hd
    exact cl_int _ _
theorem lab_cl {es : List En} {g : Int} {c : Nat} (G : Good es g c) {e : En} (he : e ∈ es) : clD 5 e.lab.D = true := by
  obtain ⟨k1, k2, _⟩ := G.kd e he
  refine cl_of_tup (n := 4) (by simp) fun x hx => ?_
  have up : ∀ (n : Nat) (d : PyData), clD n d = true → clD (n + 1) d = true := by
    intro n
    induction n with
    | zero =>
      intro d h
      cases d with
      | int i => exact cl_int _ _
      | str x => exact cl_str _ _
      | _ => cases h
    | succ n ih =>
      intro d h
      cases d with
      | int i => exact cl_int _ _
      | str x => exact cl_str _ _
      | tuple ds =>
        obtain ⟨m, em, h1, h2⟩ := cl_tup h
        cases em
        exact cl_of_tup h1 fun d hd => ih d (h2 d hd)
      | _ => cases h
  rcases List.mem_cons.mp hx with q | hx
  · rw [q]; exact cl_int _ _
  · rcases List.mem_cons.mp hx with q | hx
    · rw [q]; exact up 3 _ (kd_cl 3 _ k1)
    · rcases List.mem_cons.mp hx with q | hx
      · rw [q]; exact up 3 _ (kd_cl 3 _ k2)
      · rw [List.mem_singleton.mp hx]; exact cl_int _ _
/-- the shelf has looked, or forgot -/
def LS.see (L : LS) (sn : Addr) (xs : List Int) : LS := { L with S := { L.S with sn := sn, seen := xs } }
theorem LawAt.see {L : LS} {H H' : Hp} {xs : List Int} (A : LawAt K L H) (h : ShelfAt K (L.see L.S.sn xs).S H') (k : Fr (fun b => b = L.S.sn) H H') : LawAt K (L.see L.S.sn xs) H' := by
  have hm : ∀ {b : Addr}, ¬ L.S.M b → ¬ b = L.S.sn := fun {b} h z => h (.inr (.inr (.inr (.inr (.inr (.inl z))))))
  exact ⟨h, k.at (hm A.nT) A.tw, k.at (hm A.nH) A.hl, fun e he => k.tup (A.tp e he), fun e he => by
    obtain ⟨xs, h1, h2⟩ := A.li e he
    exact ⟨xs, k.at (hm (A.nl e he)) h1, h2.fr k⟩, by
    obtain ⟨xs, h1, h2⟩ := A.gr
    exact ⟨xs, k.at (hm A.nG) h1, h2.fr k⟩, k.at (hm A.nL) A.to, A.nT, A.nH, A.nG, A.nL, A.nl, A.TH, A.GL, A.lL⟩
theorem LawAt.forgot {L : LS} {H H' : Hp} {sn : Addr} (A : LawAt K L H) (hsn : H sn = none) (h : ShelfAt K (L.see sn []).S H') (k : Fr (fun b => b = L.S.p) H H') : LawAt K (L.see sn []) H' := by
  have hm : ∀ {b : Addr}, ¬ L.S.M b → ¬ b = L.S.p := fun {b} h z => h (.inl z)
  have nm : ∀ {b : Addr} {o : HO}, ¬ L.S.M b → H b = some o → ¬ (L.see sn []).S.M b := fun {b o} h e z => by
    rcases z with z | z | z | z | z | z | z
    · exact h (.inl z)
    · exact h (.inr (.inl z))
    · exact h (.inr (.inr (.inl z)))
    · exact h (.inr (.inr (.inr (.inl z))))
    · exact h (.inr (.inr (.inr (.inr (.inl z)))))
    · have z2 : b = sn := z
      rw [z2, hsn] at e
      cases e
    · exact h (.inr (.inr (.inr (.inr (.inr (.inr z))))))
  obtain ⟨gs, hg1, hg2⟩ := A.gr
  exact ⟨h, k.at (hm A.nT) A.tw, k.at (hm A.nH) A.hl, fun e he => k.tup (A.tp e he), fun e he => by
    obtain ⟨xs, h1, h2⟩ := A.li e he
    exact ⟨xs, k.at (hm (A.nl e he)) h1, h2.fr k⟩, ⟨gs, k.at (hm A.nG) hg1, hg2.fr k⟩, k.at (hm A.nL) A.to, nm A.nT A.tw, nm A.nH A.hl, nm A.nG hg1, nm A.nL A.to, fun e he => by
    obtain ⟨xs, h1, _⟩ := A.li e he
    exact nm (A.nl e he) h1, A.TH, A.GL, A.lL⟩
def spExa (K : PySem.W.Frag) : Sp := fun vs H Q _ => ∃ (L : LS) (c : Nat), vs = [.ref L.S.p, .ref L.aT, .ref L.aH] ∧ LawAt K L H ∧ LawOk L c ∧
  ∀ H' sn, H sn = none → LawAt K (L.see sn []) H' → Fr (fun b => b = L.S.sn ∨ b = L.S.p) H H' → Q (.bl true) H'
theorem sc_exa : FnScope ["_law_shelf", "_law_twigs", "_law_holds", "_law_numbers", "_law_number", "_law_kind", "_law_what", "_law_seen", "_law_found"] ["_law_shelf", "_law_twigs", "_law_holds"] d_l_exact.scope := ⟨rfl, rfl, rfl, by decide +kernel, rfl, by decide +kernel, by decide +kernel⟩
theorem ok_exa (T : Tx K mg) : Okd P w K mg base CX0 8 d_l_exact ["_law_shelf", "_law_twigs", "_law_holds"] (spExa K) := by
  refine okd0 T in_l_exact sc_exa (fun _ _ _ _ _ _ us hl => match us, hl with | [_, _, _], _ => rfl) (fun vs H Q E h => ?_) (fun cdv A outer s H vs Q E hr h => ?_)
  · obtain ⟨L, c, rfl, _⟩ := h
    rfl
  · obtain ⟨L, c, rfl, A1, O, k⟩ := h
    have hu := hu_of hr
    have G := O.gd
    refine ⟨_, pss_cons (ps_set (i := 3) sc_exa.nd rfl (Or.inl rfl) (pml0 (ok_nums T) hr pass0 (pv 0) T.cl T.me_numbers))
      (pss_cons (ps_if (PW.pt (pw_or (pt_not (pt_val (pe_is "list" (T.f "isinstance") (T.f "list") (pv 3)))) (pw_or1 (pt_not (pt_val (pcl (ok_alk T 5) hr pass0 (pa_cons (pe_callTy call_tuple_of (by rfl) (T.f "tuple") (by decide +kernel) (pa_cons (pv 3) pa_nil))
            (pa_cons (pe_callTy call_tuple_of (by rfl) (T.f "tuple") (by decide +kernel) (pa_cons (pe_callB (call_sortedDI rfl) (by rfl) (T.f "sorted") (by decide +kernel) (pa_cons (pv 1) pa_nil)) pa_nil)) pa_nil)) (T.g "_law_alike"))))))) (pss_one (ps_ret pe_bl)) pss_nil)
      (pss_cons (ps_if (pt_not (pt_val (pcl (ok_cnt T) hr pass0 (pa_cons (pml0 (ok_many T) hr pass0 (pv 0) T.cl T.me_many) (pa_cons (pe_callB call_lenD (by rfl) (T.f "len") PySem.boot_len (pa_cons (pv 1) pa_nil)) pa_nil)) (T.g "_law_count")))) (pss_one (ps_ret pe_bl)) pss_nil)
      (pss_cons (ps_for PassesOwn.never rfl (pi_list (pv 3)) (pg_name (i := 4) sc_exa.nd rfl (Or.inl rfl))
        (pss_cons (ps_asg (pe_dget hu (pv 1) (pv 4) (fun _ _ => rfl)) (pg_tup rfl (pgs_cons (pg_name (i := 5) sc_exa.nd rfl (Or.inl rfl)) (pgs_cons (pg_name (i := 6) sc_exa.nd rfl (Or.inl rfl)) pgs_nil))))
        (pss_cons (ps_set (i := 7) sc_exa.nd rfl (Or.inl rfl) (pml (ok_look T) hr passL (pv 0) T.cl T.me_look (pa_cons (pv 4) pa_nil)))
        (pss_cons (ps_if (PW.pt (pw_or (pt_not (pt_val (pe_is "tuple" (T.f "isinstance") (T.f "tuple") (pv 7)))) (pw_or (pt_cmpR op_ne (pe_callB call_len_seq (by rfl) (T.f "len") PySem.boot_len (pa_cons (pv 7) pa_nil)) pe_int (nomark _))
            (pw_or (pt_cmpR op_ne (pe_ix ix_tup (pv 7) pe_int (fun _ _ => rfl)) (pv 5) (nomark _)) (pw_or1 (pt_not (pt_val (pe_is "list" (T.f "isinstance") (T.f "list") (pe_ix ix_tup (pv 7) pe_int (fun _ _ => rfl)))))))))) (pss_one (ps_ret pe_bl)) pss_nil)
        (pss_cons (ps_if (pt_not (pt_val (pcl (ok_alk T 5) hr pass0 (pa_cons (pe_callTy call_tuple_of (by rfl) (T.f "tuple") (by decide +kernel) (pa_cons (pe_ix ix_tup (pv 7) pe_int (fun _ _ => rfl)) pa_nil)) (pa_cons (pe_callTy call_tuple_of (by rfl) (T.f "tuple") (by decide +kernel) (pa_cons (pv 6) pa_nil)) pa_nil)) (T.g "_law_alike")))) (pss_one (ps_ret pe_bl)) pss_nil)
        (pss_cons (ps_if (pt_not (pt_val (pcl (ok_alk T 5) hr pass0 (pa_cons (pml (ok_lab T) hr passL (pv 0) T.cl T.me_label (pa_cons (pv 4) pa_nil)) (pa_cons (pcl (ok_lbl T) hr pass0 (pa_cons (pv 1) (pa_cons (pv 4) pa_nil)) (T.g "_law_label")) pa_nil)) (T.g "_law_alike")))) (pss_one (ps_ret pe_bl)) pss_nil)
        (pss_cons (ps_expr (pe_bm0 PySem.F.plainAttrs_list PySem.F.slot_list_clear PySem.F.type_list_clear mt_clear (pe_ix ix_tup (pv 7) pe_int (fun _ _ => rfl))))
        (pss_cons (ps_if (pt_not (pt_val (pcl (ok_cnt T) hr pass0 (pa_cons (pml (ok_out T) hr passL (pv 0) T.cl T.me_outside (pa_cons (pv 4) pa_nil)) (pa_cons (pe_dget hu (pv 2) (pv 4) (fun _ _ => rfl)) pa_nil)) (T.g "_law_count")))) (pss_one (ps_ret pe_bl)) pss_nil)
        (pss_cons (ps_if (pt_not (pt_val (pcl (ok_cnt T) hr pass0 (pa_cons (pml (ok_hol T) hr passL (pv 0) T.cl T.me_holders (pa_cons (pv 4) pa_nil)) (pa_cons (pe_op op_add (pe_dget hu (pv 2) (pv 4) (fun _ _ => rfl)) (pe_callB call_len_seq (by rfl) (T.f "len") PySem.boot_len (pa_cons (pcl (ok_abv T) hr pass0 (pa_cons (pv 1) (pa_cons (pv 4) pa_nil)) (T.g "_law_above")) pa_nil))) pa_nil)) (T.g "_law_count")))) (pss_one (ps_ret pe_bl)) pss_nil)
        (pss_cons (ps_set (i := 8) sc_exa.nd rfl (Or.inl rfl) (pml (ok_alo T) hr passL (pv 0) T.cl T.me_alone (pa_cons (pv 4) pa_nil)))
        (pss_one (ps_if (PW.pt (pw_or (pt_not (pt_val (pe_is "bool" (T.f "isinstance") (T.f "bool") (pv 8)))) (pw_or1 (pt_cmpR op_ne (pv 8) (pe_cmpR op_isN (pcl (ok_shr T) hr pass0 (pa_cons (pv 1) (pa_cons (pv 2) (pa_cons (pv 4) pa_nil))) (T.g "_law_shared")) pe_non (nomark _)) (nomark _))))) (pss_one (ps_ret pe_bl)) pss_nil))))))))))))
      (pss_cons (ps_expr (pe_bm0 PySem.F.plainAttrs_list PySem.F.slot_list_clear PySem.F.type_list_clear mt_clear (pv 3)))
      (pss_cons (ps_expr (pml0 (ok_forget T) hr pass0 (pv 0) T.cl T.me_forget))
      (pss_one (ps_ret (pe_cmpR op_eq (pe_callB call_len_seq (by rfl) (T.f "len") PySem.boot_len (pa_cons (pml0 (ok_nums T) hr pass0 (pv 0) T.cl T.me_numbers) pa_nil)) (pe_callB call_lenD (by rfl) (T.f "len") PySem.boot_len (pa_cons (pv 1) pa_nil)) (nomark _))))))))), ?_⟩
    have es50 := A1.sh.small.1
    have eL : L.see L.S.sn [] = L := by
      have q := O.sn
      unfold LS.see
      rw [← q]
    have lns : (L.S.es.map En.n).length = L.S.es.length := List.length_map ..
    refine ⟨_, rfl, L.S.p, _, _, rfl, A1.sh.ob, rfl, L.S, rfl, A1.sh, fun p0 hp0 => ?_⟩
    have s1 : Same H (upd H p0 (.lst ((L.S.es.map En.n).map V.int))) := same_upd hp0
    have p1 : (upd H p0 (.lst ((L.S.es.map En.n).map V.int))) p0 = some (.lst ((L.S.es.map En.n).map V.int)) := upd_same
    generalize upd H p0 (.lst ((L.S.es.map En.n).map V.int)) = H1 at s1 p1 ⊢
    have A2 := A1.same s1
    refine ⟨_, rfl, _, "list", "list", true, rfl, .lst p1, by decide +kernel, true, rfl, iteF ?_⟩
    refine ⟨_, rfl, p0, _, rfl, .inl ⟨SqL.of p1, fun t1 ht1 => ?_⟩⟩
    have s2 : Same H1 (upd H1 t1 (.tup ((L.S.es.map En.n).map V.int))) := same_upd ht1
    have e2 : (upd H1 t1 (.tup ((L.S.es.map En.n).map V.int))) t1 = some (.tup ((L.S.es.map En.n).map V.int)) := upd_same
    generalize upd H1 t1 (.tup ((L.S.es.map En.n).map V.int)) = H2 at s2 e2 ⊢
    have A3 := A2.same s2
    refine ⟨_, rfl, L.aT, _, L.S.es.map En.n, rfl, .inl A3.tw, dict_keys _ _, by omega, fun ys p hp hs hn => ?_⟩
    rw [nums_sorted A1.sh.inc hp hs]
    have s3 : Same H2 (upd H2 p (.lst ((L.S.es.map En.n).map V.int))) := same_upd hn
    refine ⟨p, _, rfl, .inl ⟨SqL.of upd_same, fun t2 ht2 => ?_⟩⟩
    have s4 : Same H2 (upd (upd H2 p (.lst ((L.S.es.map En.n).map V.int))) t2 (.tup ((L.S.es.map En.n).map V.int))) := s3.trans (same_upd ht2)
    have e4 : (upd (upd H2 p (.lst ((L.S.es.map En.n).map V.int))) t2 (.tup ((L.S.es.map En.n).map V.int))) t2 = some (.tup ((L.S.es.map En.n).map V.int)) := upd_same
    generalize upd (upd H2 p (.lst ((L.S.es.map En.n).map V.int))) t2 (.tup ((L.S.es.map En.n).map V.int)) = H4 at s4 e4 ⊢
    refine ⟨.ref t1, .ref t2, .tuple ((L.S.es.map En.n).map PyData.int), rfl, .tup (s4 _ _ e2) (DaL.ints _), .tup e4 (DaL.ints _), ints_cl _ (by omega), fun H5 s5 => ⟨true, rfl, iteF ?_⟩⟩
    have s15 : Same H1 H5 := s2.trans (s4.trans s5)
    have A5 := A2.same s15
    -- how many
    refine ⟨_, rfl, L.S.p, _, _, rfl, A5.sh.ob, rfl, L.S, rfl, A5.sh, _, rfl, L.aT, _, rfl, A5.tw, (L.S.es.length : Int), (by show [V.int (L.S.es.length : Int), V.int ((dict (fun e => V.ref (L.lt e.n)) L.S.es).length : Int)] = _; rw [dict_len]), true, rfl, iteF ?_⟩
    have p5 := s15 _ _ p1
    have sn0 : ∀ {b : Addr}, H b = none → ¬ b = L.S.sn := fun {b} hb z => by
      rw [z, A1.sh.se] at hb
      cases hb
    have F5 : Fr (fun b => b = L.S.sn) H H5 := Fr.of (s1.trans s15)
    refine ⟨_, rfl, p0, rfl, ⟨_, SqL.of p5⟩, for_it walk_list (fun i σ H6 => ∃ (z a b d e : Option V), σ = [some (.ref L.S.p), some (.ref L.aT), some (.ref L.aH), some (.ref p0), z, a, b, d, e] ∧ LawAt K (L.see L.S.sn ((L.S.es.take i).map En.n)) H6 ∧ H6 p0 = some (.lst ((L.S.es.map En.n).map V.int)) ∧ Fr (fun b => b = L.S.sn) H H6)
      ⟨_, _, _, _, _, rfl, by rw [List.take_zero, List.map_nil, eL]; exact A5, p5, F5⟩ (fun i σ H6 _ ⟨_, _, _, _, _, _, _, q, _⟩ => SqL.of q) ?_ ?_⟩
    · rintro i x σ H6 H7 hi ⟨z, a, b0, d, e, rfl, A7, p7, F7⟩ ⟨rfl, hx⟩
      obtain ⟨n, en, rfl⟩ := ints_at hx
      rw [List.getElem?_map] at en
      obtain ⟨b, eb, rfl⟩ : ∃ b, L.S.es[i]? = some b ∧ b.n = n := by
        cases q : L.S.es[i]? with
        | none => rw [q] at en; cases en
        | some b => rw [q] at en; exact ⟨b, rfl, Option.some.inj en⟩
      have hb : b ∈ L.S.es := List.mem_of_getElem? eb
      have hi2 := (List.getElem?_eq_some_iff.mp eb).1
      have hHas : Has L.S.es b.n := ⟨b, hb, rfl⟩
      have uniq : ∀ {e : En}, e ∈ L.S.es → e.n = b.n → e = b := fun he q => mem_inj A1.sh.inc he hb q
      refine ⟨_, rfl, _, rfl, L.aT, _, rfl, A7.gT hb, L.lt b.n, _, rfl, SqT.of (A7.tp b hb), rfl, _, _, rfl, _, _, rfl, rfl, ?_⟩
      -- look
      refine ⟨_, rfl, L.S.p, _, _, rfl, A7.sh.ob, rfl, _, rfl, (L.see L.S.sn ((L.S.es.take i).map En.n)).S, b.n, rfl, A7.sh, ?_, fun e he eq H8 r l xs hr8 hl8 hne er el hxl Ash F8 => ?_, fun q => absurd rfl (q b hb)⟩
      · show ((L.S.es.take i).map En.n).length < 100
        rw [List.length_map, List.length_take]
        omega
      obtain rfl := uniq he eq
      have A8 : LawAt K (L.see L.S.sn ((L.S.es.take i).map En.n ++ [e.n])) H8 := LawAt.see (L := L.see L.S.sn ((L.S.es.take i).map En.n)) A7 Ash F8
      have p8 := F8.at (sn0 hp0) p7
      have F78 := F7.trans F8
      have hlM : ¬ L.M l := A7.no hl8
      have hlH : H l = none := F7.free (fun z => hlM (.inl (.inr (.inr (.inr (.inr (.inr (.inl z)))))))) hl8
      have hlp : l ≠ p0 := fun z => by
        rw [z, p7] at hl8
        cases hl8
      -- the tests
      refine ⟨_, rfl, _, "tuple", "tuple", true, rfl, .tup er, by decide +kernel, true, rfl, iteF ⟨_, rfl, r, _, rfl, .inr (SqT.of er), rfl, false, ?_, iteF ⟨_, rfl, r, _, 0, _, rfl, rfl, SqT.of er, atI_nat (j := 0) rfl, _, rfl, rfl, false, ?_, iteF ?_⟩⟩⟩
      · show V.bl (!decide (V.int ((2 : Nat) : Int) = V.int 2)) = V.bl false
        rfl
      · show V.bl (!decide (V.str e.tw.kind = V.str e.tw.kind)) = V.bl false
        rw [decide_eq_true rfl]
        rfl
      refine ⟨_, rfl, r, _, 1, _, rfl, rfl, SqT.of er, atI_nat (j := 1) rfl, _, "list", "list", true, rfl, .lst el, by decide +kernel, true, rfl, iteF ?_⟩
      -- what it holds
      obtain ⟨ws, hws, hdw⟩ := A8.li e hb
      refine ⟨_, rfl, r, _, 1, _, rfl, rfl, SqT.of er, atI_nat (j := 1) rfl, l, xs, rfl, .inl ⟨SqL.of el, fun t3 ht3 => ?_⟩⟩
      have s9 : Same H8 (upd H8 t3 (.tup xs)) := same_upd ht3
      refine ⟨_, rfl, L.ll e.n, ws, rfl, .inl ⟨SqL.of (s9 _ _ hws), fun t4 ht4 => ?_⟩⟩
      have s10 : Same (upd H8 t3 (.tup xs)) (upd (upd H8 t3 (.tup xs)) t4 (.tup ws)) := same_upd ht4
      refine ⟨.ref t3, .ref t4, .tuple e.tw.items, rfl, .tup (s10 _ _ upd_same) (hxl.same (s9.trans s10)), .tup upd_same (hdw.same (s9.trans s10)), items_cl G hb, fun H11 s11 => ⟨true, rfl, iteF ?_⟩⟩
      have s811 : Same H8 H11 := s9.trans (s10.trans s11)
      have A11 := A8.same s811
      have er11 := s811 _ _ er
      have el11 := s811 _ _ el
      have p11 := s811 _ _ p8
      have F11 := F78.trans (Fr.of s811)
      -- the label
      refine ⟨_, rfl, L.S.p, _, _, rfl, A11.sh.ob, rfl, _, rfl, (L.see L.S.sn ((L.S.es.take i).map En.n ++ [e.n])).S, e.n, rfl, A11.sh, (fun e' he' eq' => ?_), fun q => absurd rfl (q e hb)⟩
      obtain rfl := uniq he' eq'
      refine ⟨_, rfl, _, rfl, L.see L.S.sn ((L.S.es.take i).map En.n ++ [e'.n]), c, e', rfl, A11, G, O.c8, hb, fun H12 v s12 hv => ⟨.ref e'.tg, v, e'.lab.D, rfl, (A11.sh.tg e' hb).same s12, hv, lab_cl G hb, fun H13 s13 => ⟨true, rfl, iteF ?_⟩⟩⟩
      have s14 := s12.trans s13
      have A13 := A11.same s14
      -- clear
      refine ⟨_, rfl, r, _, 1, _, rfl, rfl, SqT.of (s14 _ _ er11), atI_nat (j := 1) rfl, .inl ⟨rfl, _, SqL.of (s14 _ _ el11)⟩, l, xs, rfl, rfl, s14 _ _ el11, ?_⟩
      have F14 : Fr (fun b => b = L.S.sn) H (upd H13 l (.lst [])) := (F11.trans (Fr.of s14)).lay hlH
      have A14 : LawAt K (L.see L.S.sn ((L.S.es.take i).map En.n ++ [e'.n])) (upd H13 l (.lst [])) := A13.of_fr (M := fun b => b = l) ((Fr.refl _).put rfl (s14 _ _ el11) True.intro) fun b hb z => hlM (by rw [← z]; exact hb)
      have p14 := (upd_ne (o := .lst []) hlp.symm).trans (s14 _ _ p11)
      generalize upd H13 l (.lst []) = H14 at F14 A14 p14 ⊢
      -- holds
      refine ⟨_, rfl, L.S.p, _, _, rfl, A14.sh.ob, rfl, _, rfl, (L.see L.S.sn ((L.S.es.take i).map En.n ++ [e'.n])).S, e'.n, rfl, A14.sh, (fun e2 he2 eq2 => ?_), fun q => absurd rfl (q e' hb)⟩
      obtain rfl := uniq he2 eq2
      refine ⟨_, rfl, _, rfl, L.aH, _, rfl, A14.gH hb, e2.hd, rfl, true, rfl, iteF ?_⟩
      refine ⟨_, rfl, L.S.p, _, _, rfl, A14.sh.ob, rfl, _, rfl, (L.see L.S.sn ((L.S.es.take i).map En.n ++ [e2.n])).S, e2.n, rfl, A14.sh, (fun e3 he3 eq3 => ?_), fun q => absurd rfl (q e2 hb)⟩
      obtain rfl := uniq he3 eq3
      refine ⟨_, rfl, _, rfl, L.aH, _, rfl, A14.gH hb, _, rfl, _, rfl, L.see L.S.sn ((L.S.es.take i).map En.n ++ [e3.n]), e3.n, rfl, A14, fun H15 q15 s15' hq15 hq => ?_⟩
      have A15 := A14.same s15'
      refine ⟨q15, _, rfl, .inl (SqL.of hq), _, _, rfl, rfl, ((e3.up.length : Int) + e3.hd), ?_, true, rfl, iteF ?_⟩
      · show [V.int ((e3.up.length : Int) + e3.hd), V.int (e3.hd + ((((L.S.es.filter fun s => s.tw.has e3.n).map En.n).map V.int).length : Int))] = [V.int ((e3.up.length : Int) + e3.hd), V.int ((e3.up.length : Int) + e3.hd)]
        rw [← G.upm e3 hb, List.length_map, Int.add_comm e3.hd]
      -- alone
      refine ⟨_, rfl, L.S.p, _, _, rfl, A15.sh.ob, rfl, _, rfl, (L.see L.S.sn ((L.S.es.take i).map En.n ++ [e3.n])).S, e3.n, c, rfl, A15.sh, G, (fun _ H16 s16 => ?_), fun q => absurd rfl (q e3 hb)⟩
      have A16 := A15.same s16
      refine ⟨_, rfl, _, "bool", "bool", true, rfl, .bl true, by decide +kernel, true, rfl, iteF ⟨_, rfl, _, rfl, _, rfl, _, rfl, L.see L.S.sn ((L.S.es.take i).map En.n ++ [e3.n]), c, e3, rfl, A16, G, hb, fun H17 s17 => ⟨rfl, rfl, false, by decide, iteF ?_⟩⟩⟩
      have sE := s15'.trans (s16.trans s17)
      refine ⟨_, _, _, _, _, rfl, ?_, sE _ _ p14, F14.trans (Fr.of sE)⟩
      rw [List.take_add_one, eb, List.map_append]
      exact A16.same s17
    · rintro σ H6 ⟨z, a, b, d, e, rfl, A6, p6, F6⟩
      have hp0M : ¬ L.M p0 := A1.no hp0
      rw [List.length_map, List.length_map, List.take_of_length_le (Nat.le_refl _)] at A6
      refine ⟨_, rfl, .inl ⟨rfl, _, SqL.of p6⟩, p0, _, rfl, rfl, p6, ?_⟩
      have F7 : Fr (fun b => b = L.S.sn) H (upd H6 p0 (.lst [])) := F6.lay hp0
      have A7 := A6.of_fr (M := fun b => b = p0) ((Fr.refl _).put (o := .lst []) rfl p6 True.intro) fun b hb z => hp0M (by rw [← z]; exact hb)
      generalize upd H6 p0 (.lst []) = H7 at F7 A7 ⊢
      refine ⟨_, rfl, L.S.p, _, _, rfl, A7.sh.ob, rfl, (L.see L.S.sn (L.S.es.map En.n)).S, rfl, A7.sh, fun H8 sn hsn Ash F8 => ?_⟩
      have hsnM : ¬ L.M sn := A7.no hsn
      have snH : H sn = none := F7.free (fun z => hsnM (.inl (.inr (.inr (.inr (.inr (.inr (.inl z)))))))) hsn
      have A8 : LawAt K (L.see sn []) H8 := LawAt.forgot (L := L.see L.S.sn (L.S.es.map En.n)) A7 hsn Ash F8
      refine ⟨_, rfl, L.S.p, _, _, rfl, A8.sh.ob, rfl, (L.see sn []).S, rfl, A8.sh, fun l hl => ?_⟩
      have s9 : Same H8 (upd H8 l (.lst ((L.S.es.map En.n).map V.int))) := same_upd hl
      refine ⟨l, _, rfl, .inl (SqL.of upd_same), _, rfl, L.aT, _, rfl, s9 _ _ A8.tw, rfl, qb (k _ sn snH (A8.same s9) ((F7.mono fun b o _ z => .inl z).and (F8.trans (Fr.of s9)) fun b o _ z => .inr z)) ?_⟩
      show true = decide (V.int ((((L.S.es.map En.n).map V.int).length : Nat) : Int) = V.int (((dict (fun e => V.ref (L.lt e.n)) L.S.es).length : Nat) : Int))
      rw [dict_len, List.length_map, List.length_map, decide_eq_true rfl]
end
end Tw

namespace Tw
open PySem PySem.Spec PyProof.Rows L2 He
theorem lastR_mem {α : Type} : ∀ (r : α) (rs : List α), lastR r rs ∈ r :: rs
  | _, [] => List.mem_singleton.mpr rfl
  | r, x :: rs => List.mem_cons_of_mem _ (lastR_mem x rs)
theorem ris_tail {r : Row} {rs : List Row} (h : Ris (r :: rs)) : Ris rs := fun k a b ea eb => h (k + 1) a b ea eb
theorem ris_ends : ∀ (r : Row) (rs : List Row), Ris (r :: rs) → ahe r.1 (lastR r rs).1
  | _, [], _ => .inl rfl
  | r, x :: rs, h => .inr (ah_ahe (h 0 r x rfl rfl) (ris_ends x rs (ris_tail h)))
theorem has_stem {es : List En} {g : Int} {c : Nat} (G : Good es g c) {s : En} (hs : s ∈ es) {n : Int} (h : s.tw.has n = true) : ∃ e ∈ es, e.n = n ∧ e.n < s.n := by
  cases ht : s.tw with
  | leaf rs => rw [ht] at h; cases h
  | stem ns =>
    rw [ht] at h
    exact G.sub s hs ns ht n (by simpa [Twg.has] using h)
theorem no_new {es : List En} {g : Int} {c : Nat} (G : Good es g c) : (es.filter fun s => s.tw.has g) = [] := by
  rw [List.filter_eq_nil_iff]
  intro s hs h
  obtain ⟨e, he, e1, _⟩ := has_stem G hs h
  have := (G.rng e he).2
  omega
theorem good_leaf {es : List En} {g : Int} {c : Nat} {rs : List Row} {kt tg ab : Addr} (G : Good es g c) (hg : 0 ≤ g) (h1 : 1 ≤ rs.length) (h4 : rs.length ≤ 4) (hk : ∀ r ∈ rs, okK r) (hr : Ris rs) :
    Good (es ++ [⟨g, .leaf rs, 1, [], labR rs, rs, 1, kt, tg, ab⟩]) (g + 1) c := by
  obtain ⟨r, rs', rfl⟩ : ∃ r rs', rs = r :: rs' := by
    cases rs with
    | nil => cases h1
    | cons r rs' => exact ⟨r, rs', rfl⟩
  have mem : ∀ {P : En → Prop}, (∀ e ∈ es, P e) → P ⟨g, .leaf (r :: rs'), 1, [], labR (r :: rs'), r :: rs', 1, kt, tg, ab⟩ → ∀ e ∈ es ++ [⟨g, .leaf (r :: rs'), 1, [], labR (r :: rs'), r :: rs', 1, kt, tg, ab⟩], P e := fun h1 h2 e he => by
    rcases List.mem_append.mp he with q | q
    · exact h1 e q
    · rw [List.mem_singleton.mp q]; exact h2
  have hlast := hk _ (lastR_mem r rs')
  have hfirst := hk r List.mem_cons_self
  refine ⟨mem (fun e he => ⟨(G.rng e he).1, by have := (G.rng e he).2; omega⟩) ⟨hg, by show g < g + 1; omega⟩, mem G.one (.inl ⟨rfl, rfl⟩), mem (fun e he => ?_) ?_, mem (fun s hs ns e b hb => ?_) (fun ns e => nomatch e), mem G.lf ?_, mem (fun e he ns en => ?_) (fun ns e => nomatch e), mem G.lb ?_, mem G.kd ?_, mem G.bd ?_, mem G.rk hk⟩
  · rw [List.filter_append, List.map_append]
    show e.up = _ ++ (List.filter _ [_]).map En.n
    rw [List.filter_cons]
    show e.up = _ ++ List.map En.n (if false = true then _ else _)
    rw [G.upm e he]
    simp
  · show [] = _
    rw [List.filter_append, no_new G, List.filter_cons]
    rfl
  · obtain ⟨e', he', h1, h2⟩ := G.sub s hs ns e b hb
    exact ⟨e', List.mem_append_left _ he', h1, h2⟩
  · intro qs e
    cases e
    exact ⟨h1, h4, hk, rfl, rfl, rfl⟩
  · obtain ⟨bs, a1, a2, a3⟩ := G.st e he ns en
    exact ⟨bs, a1, fun b hb => List.mem_append_left _ (a2 b hb), a3⟩
  · exact ⟨r, rs', rfl, rfl, rfl, rfl⟩
  · exact ⟨isW_kd 3 _ hfirst.1, isW_kd 3 _ hlast.1, ris_ends r rs' hr⟩
  · refine ⟨Int.le_refl _, by show (0 : Int) ≤ c; omega, ?_, ?_⟩
    · show (r :: rs').length ≤ 4 ^ (0 + 1)
      omega
    · show 3 * 1 + 1 ≤ 4 ^ (0 + 1)
      decide
/-! ### a stem is put -/
theorem lastR_app {α : Type} : ∀ (r : α) (rs : List α) (q : α) (qs : List α), lastR r (rs ++ q :: qs) = lastR q qs
  | _, [], _, _ => rfl
  | _, x :: rs, q, qs => lastR_app x rs q qs
theorem lastR_map {α β : Type} (f : α → β) : ∀ (r : α) (rs : List α), lastR (f r) (rs.map f) = f (lastR r rs)
  | _, [] => rfl
  | _, x :: rs => lastR_map f x rs
theorem flat_lb {es : List En} {g : Int} {c : Nat} (G : Good es g c) : ∀ (b : En) (bs : List En), (∀ x ∈ b :: bs, x ∈ es) → ∃ r rs, (b :: bs).flatMap En.rw = r :: rs ∧ b.lab.lo = r.1 ∧ (lastR b bs).lab.hi = (lastR r rs).1 ∧ ((b :: bs).map fun x => x.lab.n).sum = (rs.length : Int) + 1
  | b, [], h => by
    obtain ⟨r, rs, e1, e2, e3, e4⟩ := G.lb b (h b List.mem_cons_self)
    exact ⟨r, rs, by rw [List.flatMap_cons, List.flatMap_nil, List.append_nil, e1], e2, e3, by simp [e4]⟩
  | b, x :: bs, h => by
    obtain ⟨r, rs, e1, e2, e3, e4⟩ := G.lb b (h b List.mem_cons_self)
    obtain ⟨r', rs', f1, f2, f3, f4⟩ := flat_lb G x bs fun y hy => h y (List.mem_cons_of_mem _ hy)
    refine ⟨r, rs ++ r' :: rs', ?_, e2, ?_, ?_⟩
    · rw [List.flatMap_cons, f1, e1]
      rfl
    · rw [lastR_app]
      exact f3
    · rw [List.map_cons, List.sum_cons, f4, e4, List.length_append, List.length_cons]
      omega
theorem sum_le {α : Type} (f : α → Nat) (m : Nat) : ∀ (xs : List α), (∀ x ∈ xs, f x ≤ m) → (xs.map f).sum ≤ xs.length * m
  | [], _ => Nat.zero_le _
  | x :: xs, h => by
    have h1 := sum_le f m xs fun y hy => h y (List.mem_cons_of_mem _ hy)
    have h2 := h x List.mem_cons_self
    rw [List.map_cons, List.sum_cons, List.length_cons, Nat.add_mul, Nat.one_mul]
    omega
theorem flat_len (bs : List En) : (bs.flatMap En.rw).length = (bs.map fun b => b.rw.length).sum := by
  rw [List.length_flatMap]
/-- the entries behind a hand-over -/
def hovE (ns : List Int) (m : Int) (e : En) : En := if ns.contains e.n then upE m e else e
theorem hovE_n (ns : List Int) (m : Int) (e : En) : (hovE ns m e).n = e.n := by unfold hovE; split <;> rfl
theorem hovE_tw (ns : List Int) (m : Int) (e : En) : (hovE ns m e).tw = e.tw := by unfold hovE; split <;> rfl
theorem hovE_lab (ns : List Int) (m : Int) (e : En) : (hovE ns m e).lab = e.lab := by unfold hovE; split <;> rfl
theorem hovE_rw (ns : List Int) (m : Int) (e : En) : (hovE ns m e).rw = e.rw := by unfold hovE; split <;> rfl
theorem hovE_sz (ns : List Int) (m : Int) (e : En) : (hovE ns m e).sz = e.sz := by unfold hovE; split <;> rfl
theorem hov_eq (ns : List Int) (m : Int) (es : List En) : hov ns m es = es.map (hovE ns m) := rfl
theorem filt_hov (ns : List Int) (m : Int) (es : List En) (n : Int) : ((hov ns m es).filter fun s => s.tw.has n).map En.n = (es.filter fun s => s.tw.has n).map En.n := by
  rw [hov_eq]
  induction es with
  | nil => rfl
  | cons e es ih =>
    rw [List.map_cons, List.filter_cons, List.filter_cons, hovE_tw]
    cases e.tw.has n with
    | true =>
      simp only [if_true, List.map_cons, hovE_n]
      rw [ih]
    | false =>
      simp only [Bool.false_eq_true, if_false]
      exact ih
theorem good_stem {S : Sh} {bs : List En} {c : Nat} {kt tg ab : Addr} (G : Good S.es S.g c) (hg : 0 ≤ S.g) (hp : S.es.Pairwise fun x y => x.n < y.n) (hb : ∀ b ∈ bs, b ∈ S.es) (ok : OkL (bs.map En.lab)) (hh : ∀ b ∈ bs, b.hd ≠ 0) :
    Good (hov (bs.map En.n) S.g S.es ++ [newS S bs kt tg ab]) (S.g + 1) (c + 1) := by
  have no : S.g ∉ bs.map En.n := fun q => by
    obtain ⟨b, hb1, e⟩ := List.mem_map.mp q
    have := (G.rng b (hb b hb1)).2
    omega
  have mem : ∀ {P : En → Prop}, (∀ e ∈ S.es, P (hovE (bs.map En.n) S.g e)) → P (newS S bs kt tg ab) → ∀ e ∈ hov (bs.map En.n) S.g S.es ++ [newS S bs kt tg ab], P e := fun {P} h1 h2 e he => by
    rcases List.mem_append.mp he with q | q
    · rw [hov_eq] at q
      obtain ⟨x, hx, rfl⟩ := List.mem_map.mp q
      exact h1 x hx
    · rw [List.mem_singleton.mp q]; exact h2
  have inn : ∀ {e : En}, e ∈ S.es → hovE (bs.map En.n) S.g e ∈ hov (bs.map En.n) S.g S.es ++ [newS S bs kt tg ab] := fun {e} he => List.mem_append_left _ (List.mem_map.mpr ⟨e, he, rfl⟩)
  have two := ok.two
  have four := ok.four
  rw [List.length_map] at two four
  obtain ⟨b0, bs', rfl⟩ : ∃ b0 bs', bs = b0 :: bs' := by
    cases bs with
    | nil => simp at two
    | cons b0 bs' => exact ⟨b0, bs', rfl⟩
  have hb0 := hb b0 List.mem_cons_self
  have hbl := hb _ (lastR_mem b0 bs')
  have hts : ∀ b ∈ b0 :: bs', b.lab.h = b0.lab.h := fun b hbm => by
    obtain ⟨i, hi, e⟩ := List.mem_iff_getElem.mp hbm
    cases i with
    | zero => rw [← e]; rfl
    | succ i =>
      have := (ok.adj i _ b.lab b0.lab (by rw [List.getElem?_map, List.getElem?_eq_getElem (Nat.lt_of_succ_lt hi)]; rfl) (by rw [List.getElem?_map, List.getElem?_eq_getElem hi, e]; rfl) rfl).1
      exact this
  have eLb : (newS S (b0 :: bs') kt tg ab).lab = ⟨b0.lab.h + 1, b0.lab.lo, (lastR b0 bs').lab.hi, ((b0 :: bs').map fun x => x.lab.n).sum⟩ := by
    show overL ((b0 :: bs').map En.lab) = _
    show (⟨b0.lab.h + 1, b0.lab.lo, (lastR b0.lab (bs'.map En.lab)).hi, ((b0.lab :: bs'.map En.lab).map Lab.n).sum⟩ : Lab) = _
    rw [lastR_map En.lab, List.map_cons, List.map_map]
    rfl
  have bd0 := G.bd b0 hb0
  have tn : (b0.lab.h + 1).toNat = b0.lab.h.toNat + 1 := by omega
  refine ⟨mem (fun e he => ?_) ⟨hg, by show S.g < S.g + 1; omega⟩, mem (fun e he => ?_) (.inl ⟨rfl, rfl⟩), mem (fun e he => ?_) ?_, mem (fun s hs ns e b hbn => ?_) (fun ns e b hbn => ?_), mem (fun e he rs er => ?_) (fun rs e => nomatch e), mem (fun e he ns en => ?_) (fun ns en => ?_), mem (fun e he => ?_) ?_, mem (fun e he => ?_) ?_, mem (fun e he => ?_) ?_, mem (fun e he r hr => ?_) (fun r hr => ?_)⟩
  · rw [hovE_n]
    have := G.rng e he
    exact ⟨this.1, by omega⟩
  · unfold hovE
    split
    · rename_i hc
      have hm : e.n ∈ (b0 :: bs').map En.n := by simpa using hc
      obtain ⟨b, hb1, e1⟩ := List.mem_map.mp hm
      have := mem_inj hp (hb b hb1) he e1
      subst this
      rcases G.one b he with ⟨q1, q2⟩ | ⟨s', q1, q2⟩
      · exact .inr ⟨S.g, by show b.up ++ [S.g] = _; rw [q1]; rfl, by show b.hd - 1 = 0; omega⟩
      · exact absurd q2 (hh b hb1)
    · exact G.one e he
  · rw [hovE_n, List.filter_append, List.map_append, filt_hov, ← G.upm e he, List.filter_cons]
    show (hovE ((b0 :: bs').map En.n) S.g e).up = e.up ++ (if ((b0 :: bs').map En.n).contains e.n = true then _ else _ : List En).map En.n
    unfold hovE
    split
    · rfl
    · simp
  · show [] = _
    rw [List.filter_append, List.map_append, filt_hov]
    have q : (S.es.filter fun s => s.tw.has (newS S (b0 :: bs') kt tg ab).n) = [] := no_new G
    rw [q, List.filter_cons]
    show [] = [] ++ (if ((b0 :: bs').map En.n).contains S.g = true then _ else _ : List En).map En.n
    rw [if_neg (by simpa using no)]
    rfl
  · rw [hovE_tw] at e
    obtain ⟨e', he', h1, h2⟩ := G.sub s hs ns e b hbn
    exact ⟨_, inn he', by rw [hovE_n]; exact h1, by rw [hovE_n, hovE_n]; exact h2⟩
  · have e2 : (b0 :: bs').map En.n = ns := by injection e
    rw [← e2] at hbn
    obtain ⟨x, hx, e1⟩ := List.mem_map.mp hbn
    have hx2 := hb x hx
    exact ⟨_, inn hx2, by rw [hovE_n]; exact e1, by rw [hovE_n]; exact (G.rng x hx2).2⟩
  · rw [hovE_tw] at er
    have q := G.lf e he rs er
    rw [hovE_lab, hovE_rw, hovE_sz]
    exact q
  · rw [hovE_tw] at en
    obtain ⟨qs, a1, a2, a3, a4, a5, a6, a7⟩ := G.st e he ns en
    refine ⟨qs.map (hovE ((b0 :: bs').map En.n) S.g), ?_, fun b hbq => ?_, by rw [List.length_map]; exact a3, by rw [List.length_map]; exact a4, fun b hbq => ?_, ?_, ?_⟩
    · rw [List.map_map, ← a1]
      exact List.map_congr_left fun x _ => hovE_n _ _ _
    · obtain ⟨x, hx, rfl⟩ := List.mem_map.mp hbq
      exact inn (a2 x hx)
    · obtain ⟨x, hx, rfl⟩ := List.mem_map.mp hbq
      rw [hovE_lab, hovE_lab]
      exact a5 x hx
    · rw [hovE_rw, a6, List.flatMap_map]
      congr 1
      funext x
      exact (hovE_rw _ _ _).symm
    · rw [hovE_sz, a7, List.map_map]
      congr 2
      exact List.map_congr_left fun x _ => (hovE_sz _ _ _).symm
  · have e2 : (b0 :: bs').map En.n = ns := by injection en
    refine ⟨(b0 :: bs').map (hovE ((b0 :: bs').map En.n) S.g), ?_, fun b hbq => ?_, by rw [List.length_map]; exact two, by rw [List.length_map]; exact four, fun b hbq => ?_, ?_, ?_⟩
    · rw [List.map_map, ← e2]
      exact List.map_congr_left fun x _ => hovE_n _ _ _
    · obtain ⟨x, hx, rfl⟩ := List.mem_map.mp hbq
      exact inn (hb x hx)
    · obtain ⟨x, hx, rfl⟩ := List.mem_map.mp hbq
      rw [hovE_lab, eLb, hts x hx]
    · show (b0 :: bs').flatMap En.rw = _
      rw [List.flatMap_map]
      congr 1
      funext x
      exact (hovE_rw _ _ _).symm
    · show 1 + ((b0 :: bs').map En.sz).sum = _
      rw [List.map_map]
      congr 2
      exact List.map_congr_left fun x _ => (hovE_sz _ _ _).symm
  · rw [hovE_lab, hovE_rw]
    exact G.lb e he
  · obtain ⟨r, rs, f1, f2, f3, f4⟩ := flat_lb G b0 bs' hb
    rw [eLb]
    exact ⟨r, rs, f1, f2, f3, f4⟩
  · rw [hovE_lab]
    exact G.kd e he
  · rw [eLb]
    refine ⟨(G.kd b0 hb0).1, (G.kd _ hbl).2.1, ?_⟩
    have far := okl_far ok (fun l hl => by
      obtain ⟨b, hb2, rfl⟩ := List.mem_map.mp hl
      exact (G.kd b (hb b hb2)).2.2) (bs'.length - 1) 0 b0.lab (lastR b0 bs').lab rfl (by
        rw [List.getElem?_map]
        have q := last_get b0 bs'
        have e1 : 0 + 1 + (bs'.length - 1) = (b0 :: bs').length - 1 := by
          rw [List.length_cons] at two ⊢
          omega
        rw [e1, q]
        rfl)
    exact ahe_trans (G.kd b0 hb0).2.2 (.inr (ah_ahe far (G.kd _ hbl).2.2))
  · rw [hovE_lab, hovE_rw, hovE_sz]
    have := G.bd e he
    exact ⟨this.1, by have := this.2.1; omega, this.2.2⟩
  · rw [eLb]
    have pw : 4 ^ ((b0.lab.h + 1).toNat + 1) = 4 * 4 ^ (b0.lab.h.toNat + 1) := by rw [tn, Nat.pow_succ]; omega
    refine ⟨by show 0 ≤ b0.lab.h + 1; omega, by show b0.lab.h + 1 ≤ ((c + 1 : Nat) : Int); omega, ?_, ?_⟩
    · show ((b0 :: bs').flatMap En.rw).length ≤ 4 ^ ((b0.lab.h + 1).toNat + 1)
      rw [flat_len, pw]
      refine Nat.le_trans (sum_le _ (4 ^ (b0.lab.h.toNat + 1)) _ fun x hx => ?_) (Nat.mul_le_mul_right _ four)
      have := (G.bd x (hb x hx)).2.2.1
      rw [hts x hx] at this
      exact this
    · show 3 * (1 + ((b0 :: bs').map En.sz).sum) + 1 ≤ 4 ^ ((b0.lab.h + 1).toNat + 1)
      rw [pw]
      have h3 : ∀ x ∈ b0 :: bs', 3 * x.sz + 1 ≤ 4 ^ (b0.lab.h.toNat + 1) := fun x hx => by
        have := (G.bd x (hb x hx)).2.2.2
        rw [hts x hx] at this
        exact this
      generalize 4 ^ (b0.lab.h.toNat + 1) = M at h3 ⊢
      have hM : 1 ≤ M := by have := h3 b0 List.mem_cons_self; omega
      have key : ∀ xs : List En, (∀ x ∈ xs, 3 * x.sz + 1 ≤ M) → 3 * (xs.map En.sz).sum + xs.length ≤ xs.length * M := by
        intro xs
        induction xs with
        | nil => intro _; simp
        | cons x xs ih =>
          intro h
          have h1 := ih fun y hy => h y (List.mem_cons_of_mem _ hy)
          have h2 := h x List.mem_cons_self
          rw [List.map_cons, List.sum_cons, List.length_cons, Nat.add_mul, Nat.one_mul]
          omega
      have hk := key (b0 :: bs') h3
      generalize ((b0 :: bs').map En.sz).sum = z at hk ⊢
      generalize (b0 :: bs').length = n at hk two four
      have : n * M + (4 - n) * M = 4 * M := by rw [← Nat.add_mul]; congr 1; omega
      have h4 : (4 - n) * 1 ≤ (4 - n) * M := Nat.mul_le_mul_left _ hM
      omega
  · rw [hovE_rw] at hr
    exact G.rk e he r hr
  · obtain ⟨x, hx, hrx⟩ := List.mem_flatMap.mp hr
    exact G.rk x (hb x hx) r hrx
end Tw

namespace Tw
open PySem PySem.Spec PyProof.Rows L2 He
theorem dict_congr {F G : En → V} {es : List En} (h : ∀ e ∈ es, F e = G e) : dict F es = dict G es := by
  unfold dict
  exact List.map_congr_left fun e he => by rw [h e he]
theorem putK_snoc_v {F : En → V} {es : List En} {e : En} {m : Int} {v : V} (h : ∀ e ∈ es, e.n ≠ m) (he : e.n = m) (hv : v = F e) : putK (dict F es) (Sum.inl m) v = dict F (es ++ [e]) := by
  rw [hv]
  exact putK_snoc h he
/-- the state's tuple -/
def StAt (L : LS) (st : Addr) (H : Hp) : Prop := H st = some (.tup [.ref L.S.p, .ref L.aT, .ref L.aH, .ref L.aG, .ref L.aL])
/-- L' lies where L lies -/
structure Alike (L L' : LS) : Prop where
  p : L'.S.p = L.S.p
  aT : L'.aT = L.aT
  aH : L'.aH = L.aH
  aG : L'.aG = L.aG
  aL : L'.aL = L.aL
theorem Alike.st {L L' : LS} {st : Addr} {H : Hp} (a : Alike L L') (h : StAt L st H) : StAt L' st H := by
  unfold StAt at h ⊢
  rw [a.p, a.aT, a.aH, a.aG, a.aL]
  exact h
theorem Alike.trans {L L' L'' : LS} (a : Alike L L') (b : Alike L' L'') : Alike L L'' := ⟨b.p.trans a.p, b.aT.trans a.aT, b.aH.trans a.aH, b.aG.trans a.aG, b.aL.trans a.aL⟩
def LS.add (L : LS) (S' : Sh) (q rl : Addr) : LS := { L with S := S', tl := L.tl ++ [L.S.g], lt := fun n => if n = L.S.g then q else L.lt n, ll := fun n => if n = L.S.g then rl else L.ll n }
section
variable {P : Program} {w : World} {K : PySem.W.Frag} {mg : Str → Option Value} {base : Heap}
def spPL2 (K : PySem.W.Frag) : Sp := fun vs H Q _ => ∃ (wl st : Addr) (bl : Int) (L : LS) (c : Nat), vs = [.ref wl, .ref st, .int bl] ∧ StAt L st H ∧ WellAt wl H ∧ ¬ L.M wl ∧ LawAt K L H ∧ LawOk L c ∧ L.S.es.length < 40 ∧ L.tl.length ≤ 200 ∧ 0 ≤ bl ∧ bl ≤ 15 ∧
  ∀ H' L', LawAt K L' H' → LawOk L' c → Alike L L' → L'.S.es.length = L.S.es.length + 1 → L'.tl.length = L.tl.length + 1 → WellAt wl H' → (∀ x u, H x = some u → (∀ ps, u ≠ .tbl ps) → ¬ L.M x → ¬ L'.M x) → Fr (fun b => L.M b ∨ b = wl) H H' → Q (.bl true) H'
theorem sc_pl2 : FnScope ["_law_well_here", "_law_state", "_law_block", "_law_shelf", "_law_twigs", "_law_holds", "_law_grid_here", "_law_told", "_law_rows", "_law_number"] ["_law_well_here", "_law_state", "_law_block"] d_l_put_leaf.scope := ⟨rfl, rfl, rfl, by decide +kernel, rfl, by decide +kernel, by decide +kernel⟩
theorem ok_pl2 (T : Tx K mg) : Okd P w K mg base CX0 10 d_l_put_leaf ["_law_well_here", "_law_state", "_law_block"] (spPL2 K) := by
  refine okd0 T in_l_put_leaf sc_pl2 (fun _ _ _ _ _ _ us hl => match us, hl with | [_, _, _], _ => rfl) (fun vs H Q E h => ?_) (fun cdv A outer s H vs Q E hr h => ?_)
  · obtain ⟨wl, st, bl, L, c, rfl, _⟩ := h
    rfl
  · obtain ⟨wl, st, bl, L, c, rfl, hst, W, hwl, A1, O, h40, ht200, hb0, hb15, k⟩ := h
    have hu := hu_of hr
    refine ⟨_, pss_cons (ps_asg (pv 1) (pg_tup rfl (pgs_cons (pg_name (i := 3) sc_pl2.nd rfl (Or.inl rfl)) (pgs_cons (pg_name (i := 4) sc_pl2.nd rfl (Or.inl rfl)) (pgs_cons (pg_name (i := 5) sc_pl2.nd rfl (Or.inl rfl)) (pgs_cons (pg_name (i := 6) sc_pl2.nd rfl (Or.inl rfl)) (pgs_cons (pg_name (i := 7) sc_pl2.nd rfl (Or.inl rfl)) pgs_nil)))))))
      (pss_cons (ps_set (i := 8) sc_pl2.nd rfl (Or.inl rfl) (pcl (ok_lr4 T) hr pass0 (pa_cons (pv 0) (pa_cons (pv 6) (pa_cons (pv 2) pa_nil))) (T.g "_law_leaf_rows")))
      (pss_cons (ps_set (i := 9) sc_pl2.nd rfl (Or.inl rfl) (pml (ok_pl T) hr pass0 (pv 3) T.cl T.me_put_leaf (pa_cons (pe_callTy call_list_of (by rfl) (T.f "list") (by decide +kernel) (pa_cons (pv 8) pa_nil)) pa_nil)))
      (pss_cons (ps_if (PW.pt (pw_or (pt_not (pt_val (pe_is "int" (T.f "isinstance") (T.f "int") (pv 9)))) (pw_or (pt_val (pe_is "bool" (T.f "isinstance") (T.f "bool") (pv 9)))
          (pw_or1 (pt_cmpR op_le (pv 9) (pe_callBK (cr_maxDef rfl (by have := hr.units; exact Nat.lt_of_le_of_lt (Nat.add_le_add_left (show 1 ≤ 64 by decide) _) this)) (by rfl) (T.f "max") (by decide +kernel) (pa_cons (pv 7) pa_nil) (pk_cons (pe_un un_neg pe_int) pk_nil)) (nomark _)))))) (pss_one (ps_ret pe_bl)) pss_nil)
      (pss_cons (ps_expr (pe_bm PySem.F.plainAttrs_list PySem.F.slot_list_append PySem.F.type_list_append mt_append (pv 7) (pa_cons (pv 9) pa_nil)))
      (pss_cons (ps_dput hu (pv 4) (pv 9) (pe_tup (pa_cons pe_str (pa_cons (pv 8) pa_nil))) rfl)
      (pss_cons (ps_dput hu (pv 5) (pv 9) pe_int rfl)
      (pss_one (ps_ret pe_bl)))))))), ?_⟩
    obtain ⟨gx, hgx, hdg⟩ := A1.gr
    have es50 := A1.sh.small.1
    have wlne : ∀ {b : Addr}, H b = none → b ≠ wl := fun {b} hb z => by
      obtain ⟨_, e⟩ := W.sq (K := K)
      rw [z, e] at hb
      cases hb
    refine ⟨_, rfl, st, _, rfl, SqT.of hst, rfl, _, _, rfl, _, _, rfl, _, _, rfl, _, _, rfl, _, _, rfl, rfl, ?_⟩
    -- the rows
    refine ⟨_, rfl, _, rfl, _, rfl, wl, L.aG, gx, L.gd, bl, rfl, W, hgx, hdg, (fun z => hwl (.inr (.inr (.inr (.inl z.symm))))), O.g64, O.ri, O.gk, hb0, hb15, fun H1 rl ys rs hrl hrl1 hda l1 l4 hok hri hkeys W1 F1 => ?_⟩
    have wlL : ∀ {H' : Hp}, Fr (fun b => b = wl) H H' → LawAt K L H' := fun F => A1.of_fr F fun b hb z => hwl (by rw [← z]; exact hb)
    have A2 := wlL F1
    -- the leaf
    refine ⟨_, rfl, L.S.p, _, _, rfl, A2.sh.ob, rfl, _, rfl, rl, ys, rfl, .inl (SqL.of hrl1), fun l hl => ?_⟩
    have s2 : Same H1 (upd H1 l (.lst ys)) := same_upd hl
    have e2 : (upd H1 l (.lst ys)) l = some (.lst ys) := upd_same
    generalize upd H1 l (.lst ys) = H2 at s2 e2 ⊢
    have A3 := A2.same s2
    refine ⟨L.S, l, ys, rs, rfl, A3.sh, SqL.of e2, hda.same s2, hok, l1, l4, hri, fun e he => (O.gd.rng e he).2, by omega, fun H3 kt tg ab hab A4 F3 => ?_⟩
    have nM5 : ∀ {b : Addr}, ¬ L.S.M b → ¬ L.S.M5 b := fun h z => h (Sh.M5_M z)
    have F02 : Fr (fun b => b = wl) H H2 := F1.trans (Fr.of s2)
    have rlM : ¬ L.M rl := A1.no hrl
    have told3 := F3.at (nM5 A3.nL) A3.to
    have aT3 := F3.at (nM5 A3.nT) A3.tw
    have aH3 := F3.at (nM5 A3.nH) A3.hl
    have rl3 := F3.at (nM5 (fun z => rlM (.inl z))) (s2 _ _ hrl1)
    -- the tests
    have test : ∀ m : Int, m < L.S.g → decide (L.S.g ≤ m) = false := fun m h => decide_eq_false (by omega)
    have g0 := O.g0
    refine ⟨_, rfl, _, "int", "int", true, rfl, .int _, by decide +kernel, true, rfl, iteF ⟨_, rfl, _, "bool", "int", false, rfl, .int _, by decide +kernel, false, rfl, iteF ?_⟩⟩
    refine ⟨_, rfl, _, rfl, 1, rfl, L.aL, L.tl, -1, rfl, rfl, SqL.of told3, (fun _ => ⟨_, _, rfl, rfl, false, congrArg V.bl (test _ (by omega)), iteF ?_⟩), (fun m hm _ => ⟨_, _, rfl, rfl, false, congrArg V.bl (test _ (O.tl m hm)), iteF ?_⟩)⟩
    all_goals
      refine ⟨_, rfl, .inl ⟨rfl, _, SqL.of told3⟩, _, rfl, L.aL, _, .int L.S.g, rfl, rfl, told3, by rw [List.length_map, sizeLine_eq]; omega, ?_⟩
      refine ⟨_, rfl, small100 (by simp), fun q hq => ?_⟩
      have nTL : L.aT ≠ L.aL := ne_of A1.tw A1.to fun z => nomatch z
      have nHL : L.aH ≠ L.aL := ne_of A1.hl A1.to fun z => nomatch z
      have no : ∀ e ∈ L.S.es, e.n ≠ L.S.g := fun e he z => by
        have := (O.gd.rng e he).2
        omega
      have hTab : ∀ {b : Addr} {o : HO}, H2 b = some o → b ≠ ab := fun e => ne_of_none e hab
      -- the heaps
      have F4 : Fr (fun b => b = L.aL ∨ b = L.aT ∨ b = L.aH) H3 (upd H3 L.aL (.lst (L.tl.map V.int ++ [.int L.S.g]))) := (Fr.refl H3).put (.inl rfl) told3 True.intro
      have t4 : (upd H3 L.aL (.lst (L.tl.map V.int ++ [.int L.S.g]))) L.aL = some (.lst ((L.tl ++ [L.S.g]).map V.int)) := by rw [upd_same, List.map_append]; rfl
      have w4 := (upd_ne (o := .lst (L.tl.map V.int ++ [.int L.S.g])) nTL).trans aT3
      have h4 := (upd_ne (o := .lst (L.tl.map V.int ++ [.int L.S.g])) nHL).trans aH3
      have rlL : rl ≠ L.aL := fun z => rlM (.inr (.inr (.inr (.inr (.inl z)))))
      have r4 := (upd_ne (o := .lst (L.tl.map V.int ++ [.int L.S.g])) rlL).trans rl3
      generalize upd H3 L.aL (.lst (L.tl.map V.int ++ [.int L.S.g])) = H4 at F4 t4 w4 h4 r4 hq ⊢
      have s5 : Same H4 (upd H4 q (.tup [.str "leaf", .ref rl])) := same_upd hq
      have q5 : (upd H4 q (.tup [.str "leaf", .ref rl])) q = some (.tup [.str "leaf", .ref rl]) := upd_same
      have F5 := F4.trans (Fr.of s5)
      have t5 := s5 _ _ t4
      have w5 := s5 _ _ w4
      have h5 := s5 _ _ h4
      have r5 := s5 _ _ r4
      generalize upd H4 q (.tup [.str "leaf", .ref rl]) = H5 at F5 q5 t5 w5 h5 r5 ⊢
      refine ⟨_, rfl, _, rfl, L.aT, _, rfl, DPut.k (k := Sum.inl L.S.g) w5 (by rw [dict_len, sizeLine_eq]; omega), ?_⟩
      have ew : dict (fun e => V.ref (L.lt e.n)) L.S.es = dict (fun e => V.ref (if e.n = L.S.g then q else L.lt e.n)) L.S.es := dict_congr fun e he => by rw [if_neg (no e he)]
      rw [ew, putK_snoc_v (F := fun e => V.ref (if e.n = L.S.g then q else L.lt e.n)) (e := ⟨L.S.g, .leaf rs, 1, [], labR rs, rs, 1, kt, tg, ab⟩) no rfl (by rw [if_pos rfl])]
      have F6 : Fr (fun b => b = L.aL ∨ b = L.aT ∨ b = L.aH) H3 (upd H5 L.aT (.dK (dict (fun e => V.ref (if e.n = L.S.g then q else L.lt e.n)) (L.S.es ++ [⟨L.S.g, .leaf rs, 1, [], labR rs, rs, 1, kt, tg, ab⟩])))) := F5.put (.inr (.inl rfl)) w5 True.intro
      have w6 : (upd H5 L.aT (.dK (dict (fun e => V.ref (if e.n = L.S.g then q else L.lt e.n)) (L.S.es ++ [⟨L.S.g, .leaf rs, 1, [], labR rs, rs, 1, kt, tg, ab⟩])))) L.aT = _ := upd_same
      have t6 := (upd_ne (o := .dK (dict (fun e => V.ref (if e.n = L.S.g then q else L.lt e.n)) (L.S.es ++ [⟨L.S.g, .leaf rs, 1, [], labR rs, rs, 1, kt, tg, ab⟩]))) nTL.symm).trans t5
      have h6 := (upd_ne (o := .dK (dict (fun e => V.ref (if e.n = L.S.g then q else L.lt e.n)) (L.S.es ++ [⟨L.S.g, .leaf rs, 1, [], labR rs, rs, 1, kt, tg, ab⟩]))) A1.TH.symm).trans h5
      have q6 := (upd_ne (o := .dK (dict (fun e => V.ref (if e.n = L.S.g then q else L.lt e.n)) (L.S.es ++ [⟨L.S.g, .leaf rs, 1, [], labR rs, rs, 1, kt, tg, ab⟩]))) (ne_of q5 w5 fun z => nomatch z)).trans q5
      have r6 := (upd_ne (o := .dK (dict (fun e => V.ref (if e.n = L.S.g then q else L.lt e.n)) (L.S.es ++ [⟨L.S.g, .leaf rs, 1, [], labR rs, rs, 1, kt, tg, ab⟩]))) (ne_of r5 w5 fun z => nomatch z)).trans r5
      generalize upd H5 L.aT (.dK (dict (fun e => V.ref (if e.n = L.S.g then q else L.lt e.n)) (L.S.es ++ [⟨L.S.g, .leaf rs, 1, [], labR rs, rs, 1, kt, tg, ab⟩]))) = H6 at F6 w6 t6 h6 q6 r6 ⊢
      refine ⟨_, rfl, _, rfl, L.aH, _, rfl, DPut.k (k := Sum.inl L.S.g) h6 (by rw [dict_len, sizeLine_eq]; omega), ?_⟩
      rw [putK_snoc (F := fun e => V.int e.hd) (e := ⟨L.S.g, .leaf rs, 1, [], labR rs, rs, 1, kt, tg, ab⟩) no rfl]
      have F7 : Fr (fun b => b = L.aL ∨ b = L.aT ∨ b = L.aH) H3 (upd H6 L.aH (.dK (dict (fun e => V.int e.hd) (L.S.es ++ [⟨L.S.g, .leaf rs, 1, [], labR rs, rs, 1, kt, tg, ab⟩])))) := F6.put (.inr (.inr rfl)) h6 True.intro
      have h7 : (upd H6 L.aH (.dK (dict (fun e => V.int e.hd) (L.S.es ++ [⟨L.S.g, .leaf rs, 1, [], labR rs, rs, 1, kt, tg, ab⟩])))) L.aH = _ := upd_same
      have w7 := (upd_ne (o := .dK (dict (fun e => V.int e.hd) (L.S.es ++ [⟨L.S.g, .leaf rs, 1, [], labR rs, rs, 1, kt, tg, ab⟩]))) A1.TH).trans w6
      have t7 := (upd_ne (o := .dK (dict (fun e => V.int e.hd) (L.S.es ++ [⟨L.S.g, .leaf rs, 1, [], labR rs, rs, 1, kt, tg, ab⟩]))) nHL.symm).trans t6
      have q7 := (upd_ne (o := .dK (dict (fun e => V.int e.hd) (L.S.es ++ [⟨L.S.g, .leaf rs, 1, [], labR rs, rs, 1, kt, tg, ab⟩]))) (ne_of q6 h6 fun z => nomatch z)).trans q6
      have r7 := (upd_ne (o := .dK (dict (fun e => V.int e.hd) (L.S.es ++ [⟨L.S.g, .leaf rs, 1, [], labR rs, rs, 1, kt, tg, ab⟩]))) (ne_of r6 h6 fun z => nomatch z)).trans r6
      generalize upd H6 L.aH (.dK (dict (fun e => V.int e.hd) (L.S.es ++ [⟨L.S.g, .leaf rs, 1, [], labR rs, rs, 1, kt, tg, ab⟩]))) = H7 at F7 w7 t7 h7 q7 r7 ⊢
      -- what is known
      have SM : ∀ {b : Addr} {o : HO}, ¬ L.S.M b → H2 b = some o → ¬ ({ L.S with g := L.S.g + 1, es := L.S.es ++ [⟨L.S.g, .leaf rs, 1, [], labR rs, rs, 1, kt, tg, ab⟩] } : Sh).M b := fun {b o} h e z => by
        rcases z with z | z | z | z | z | z | ⟨x, hx, z⟩
        · exact h (.inl z)
        · exact h (.inr (.inl z))
        · exact h (.inr (.inr (.inl z)))
        · exact h (.inr (.inr (.inr (.inl z))))
        · exact h (.inr (.inr (.inr (.inr (.inl z)))))
        · exact h (.inr (.inr (.inr (.inr (.inr (.inl z))))))
        · rcases List.mem_append.mp hx with y | y
          · exact h (.inr (.inr (.inr (.inr (.inr (.inr ⟨x, y, z⟩))))))
          · rw [List.mem_singleton.mp y] at z
            exact hTab e z
      obtain ⟨gx2, hg2, hdg2⟩ := A3.gr
      have disj : ∀ b, ({ L.S with g := L.S.g + 1, es := L.S.es ++ [⟨L.S.g, .leaf rs, 1, [], labR rs, rs, 1, kt, tg, ab⟩] } : Sh).M b → ¬ (b = L.aL ∨ b = L.aT ∨ b = L.aH) := fun b z y => by
        rcases y with y | y | y
        · exact SM A1.nL A3.to (by rw [← y]; exact z)
        · exact SM A1.nT A3.tw (by rw [← y]; exact z)
        · exact SM A1.nH A3.hl (by rw [← y]; exact z)
      have F37 : Fr (fun b => L.S.M5 b ∨ b = L.aL ∨ b = L.aT ∨ b = L.aH) H2 H7 := (F3.mono fun b o _ z => .inl z).trans (F7.mono fun b o _ z => .inr z)
      have nm : ∀ {b : Addr} {o : HO}, ¬ L.S.M b → b ≠ L.aL → b ≠ L.aT → b ≠ L.aH → H2 b = some o → H7 b = some o := fun h1 h2 h3 h4 e => F37.at (fun z => by
        rcases z with z | z | z | z
        · exact nM5 h1 z
        · exact h2 z
        · exact h3 z
        · exact h4 z) e
      have lne : ∀ {b : Addr} {xs : List V}, H2 b = some (.lst xs) → b ≠ L.aT ∧ b ≠ L.aH := fun e => ⟨ne_of e A3.tw (fun z => nomatch z), ne_of e A3.hl (fun z => nomatch z)⟩
      have AF : LawAt K (L.add { L.S with g := L.S.g + 1, es := L.S.es ++ [⟨L.S.g, .leaf rs, 1, [], labR rs, rs, 1, kt, tg, ab⟩] } q rl) H7 := by
        refine ⟨A4.of_fr F7 disj, w7, h7, fun e he => ?_, fun e he => ?_, ⟨gx2, nm A1.nG A1.GL (lne hg2).1 (lne hg2).2 hg2, hdg2.fr F37⟩, t7, SM A1.nT A3.tw, SM A1.nH A3.hl, SM A1.nG hg2, SM A1.nL A3.to, fun e he => ?_, A1.TH, A1.GL, fun e he => ?_⟩
        · rcases List.mem_append.mp he with y | y
          · show H7 (if e.n = L.S.g then q else L.lt e.n) = some (.tup [.str e.tw.kind, .ref (if e.n = L.S.g then rl else L.ll e.n)])
            rw [if_neg (no e y), if_neg (no e y)]
            exact F37.tup (A3.tp e y)
          · rw [List.mem_singleton.mp y]
            show H7 (if L.S.g = L.S.g then q else _) = some (.tup [.str "leaf", .ref (if L.S.g = L.S.g then rl else _)])
            rw [if_pos rfl, if_pos rfl]
            exact q7
        · rcases List.mem_append.mp he with y | y
          · obtain ⟨xs, e1, e2⟩ := A3.li e y
            show ∃ xs, H7 (if e.n = L.S.g then rl else L.ll e.n) = some (.lst xs) ∧ DaL H7 xs e.tw.items
            rw [if_neg (no e y)]
            exact ⟨xs, nm (A1.nl e y) (A1.lL e y) (lne e1).1 (lne e1).2 e1, e2.fr F37⟩
          · rw [List.mem_singleton.mp y]
            show ∃ xs, H7 (if L.S.g = L.S.g then rl else _) = some (.lst xs) ∧ DaL H7 xs (rs.map rowD)
            rw [if_pos rfl]
            exact ⟨ys, r7, (hda.same s2).fr F37⟩
        · rcases List.mem_append.mp he with y | y
          · obtain ⟨xs, e1, e2⟩ := A3.li e y
            show ¬ Sh.M _ (if e.n = L.S.g then rl else L.ll e.n)
            rw [if_neg (no e y)]
            exact SM (A1.nl e y) e1
          · rw [List.mem_singleton.mp y]
            show ¬ Sh.M _ (if L.S.g = L.S.g then rl else _)
            rw [if_pos rfl]
            exact SM (fun z => rlM (.inl z)) (s2 _ _ hrl1)
        · rcases List.mem_append.mp he with y | y
          · show (if e.n = L.S.g then rl else L.ll e.n) ≠ L.aL
            rw [if_neg (no e y)]
            exact A1.lL e y
          · rw [List.mem_singleton.mp y]
            show (if L.S.g = L.S.g then rl else _) ≠ L.aL
            rw [if_pos rfl]
            exact rlL
      obtain ⟨r0, rs0, rfl⟩ : ∃ r0 rs0, rs = r0 :: rs0 := by
        cases rs with
        | nil => cases l1
        | cons r0 rs0 => exact ⟨r0, rs0, rfl⟩
      have OF : LawOk (L.add { L.S with g := L.S.g + 1, es := L.S.es ++ [⟨L.S.g, .leaf (r0 :: rs0), 1, [], labR (r0 :: rs0), r0 :: rs0, 1, kt, tg, ab⟩] } q rl) c := by
        refine ⟨good_leaf O.gd g0 l1 l4 hok hri, O.c8, O.ri, O.gk, O.g64, fun e he => ?_, fun x hx => ?_, fun e he => ?_, O.sn, by show 0 ≤ L.S.g + 1; omega⟩
        · rcases List.mem_append.mp he with y | y
          · exact O.ks e y
          · rw [List.mem_singleton.mp y]
            exact ⟨hkeys r0 List.mem_cons_self, hkeys _ (lastR_mem r0 rs0)⟩
        · rcases List.mem_append.mp hx with y | y
          · have := O.tl x y
            show x < L.S.g + 1
            omega
          · rw [List.mem_singleton.mp y]
            show L.S.g < L.S.g + 1
            omega
        · rcases List.mem_append.mp he with y | y
          · exact List.mem_append_left _ (O.mem e y)
          · rw [List.mem_singleton.mp y]
            exact List.mem_append_right _ List.mem_cons_self
      refine k H7 _ AF OF ⟨rfl, rfl, rfl, rfl, rfl⟩ (by show (L.S.es ++ [_]).length = _; rw [List.length_append]; rfl) (by show (L.tl ++ [_]).length = _; rw [List.length_append]; rfl) ?_ ?_ ?_
      · refine (W1.same s2).fr F37 fun z => ?_
        rcases z with z | z | z | z
        · exact hwl (.inl (Sh.M5_M z))
        · exact hwl (.inr (.inr (.inr (.inr (.inl z)))))
        · exact hwl (.inr (.inl z))
        · exact hwl (.inr (.inr (.inl z)))
      · intro x u hxu hun hxM
        obtain ⟨o, hwx⟩ : ∃ o, H2 x = some o := by
          by_cases z : x = wl
          · obtain ⟨xs, e⟩ := (W1.same s2).sq (K := K)
            exact ⟨_, by rw [z]; exact e⟩
          · exact ⟨u, F02.at z hxu⟩
        rintro (z | z | z | z | z | ⟨e, he, z⟩)
        · exact SM (fun y => hxM (.inl y)) hwx z
        · exact hxM (.inr (.inl z))
        · exact hxM (.inr (.inr (.inl z)))
        · exact hxM (.inr (.inr (.inr (.inl z))))
        · exact hxM (.inr (.inr (.inr (.inr (.inl z)))))
        · have z2 : x = (if e.n = L.S.g then rl else L.ll e.n) := z
          rcases List.mem_append.mp he with y | y
          · rw [if_neg (no e y)] at z2
            exact hxM (.inr (.inr (.inr (.inr (.inr ⟨e, y, z2⟩)))))
          · rw [List.mem_singleton.mp y] at z2
            have z3 : x = (if L.S.g = L.S.g then rl else L.ll L.S.g) := z2
            rw [if_pos rfl] at z3
            rw [z3, hrl] at hxu
            cases hxu
      · refine (F02.mono fun b o _ z => .inr z).trans (F37.mono fun b o _ z => .inl ?_)
        rcases z with z | z | z | z
        · exact .inl (Sh.M5_M z)
        · exact .inr (.inr (.inr (.inr (.inl z))))
        · exact .inr (.inl z)
        · exact .inr (.inr (.inl z))
end
end Tw

namespace Tw
open PySem PySem.Spec PyProof.Rows L2 He
/-! ### defs that make lambdas -/
section
variable {P : Program} {w : World} {K : PySem.W.Frag} {mg : Str → Option Value} {base : Heap} {d : DefD} {N ps : List Str} {k : Nat} {sp : Sp}
theorem okdL (T : Tx K mg) (hi : d ∈ fnL) (S : FnScope N ps d.scope) (hb : BindOk d ps) (len : ∀ vs H Q E, sp vs H Q E → vs.length = ps.length)
    (hbody : ∀ (A : Around) (outer : List Env) (s : Shared) (H : Hp) (vs : List V) (Q : VK) (E : XK), Room k (A.deeper (envOfC d.qual d.scope s.heap.objs.size (fAd K d.at_) (.ref (cT K d.at_).1))) → sp vs H Q E →
      ∃ t, PSs (cxOf CX0 P w K mg base N d.qual d.scope (fAd K d.at_) (.ref (cT K d.at_).1) A outer s H E).nox d.body t ∧ t { nx := fun _ H' => Q .non H', rt := Q } (start N vs) H)
    (h1 : d.dfl = [] := by rfl) (h2 : d.kwd = [] := by rfl) : Okd P w K mg base CX0 (k + 1) d ps sp := by
  obtain ⟨fd, F⟩ := T.fn d hi
  have e1 : d.dvs K = [] := by unfold DefD.dvs; rw [h1]; rfl
  have e2 : d.kws K = [] := by unfold DefD.kws; rw [h2]; rfl
  rw [e1, e2] at F
  have B := F.bindsN hb
  have kp := F.kp
  obtain ⟨oc, od, dV, kV, doc, pm, an, cdv, ct, osl, rfl, lk, hcd, _, _⟩ := F.ex
  obtain ⟨c, rfl⟩ := codeIn_ref hcd
  have ec : (cT K d.at_).1 = c := codeOf_eq lk rfl
  refine ⟨⟨_, fn_of lk hcd S len fun A outer s H vs Q E hr h => ?_, B⟩, kp⟩
  rw [← ec] at hr ⊢
  obtain ⟨t, h, q⟩ := hbody A outer s H vs Q E hr h
  exact ⟨t, h.nox, q⟩
end
/-- the tables of the defs that make lambdas -/
def lamQ (p : Defn) : Str := p.1 ++ ".<locals>." ++ "<lambda>"
def T0 (K : PySem.W.Frag) : List (Addr × Str) := tfL.map fun p => ((cT K p).2, lamQ p)
theorem T0_mem {K : PySem.W.Frag} {p : Defn} (h : p ∈ tfL) : ((cT K p).2, lamQ p) ∈ T0 K := List.mem_map.mpr ⟨p, h, rfl⟩
theorem T0_one {K : PySem.W.Frag} {mg : Str → Option Value} (T : Tx K mg) {p : Defn} (h : p ∈ tfL) : ∀ q ∈ T0 K, q.1 = (cT K p).2 → q.2 = lamQ p := fun q hq e => by
  obtain ⟨x, hx, rfl⟩ := List.mem_map.mp hq
  have nd : (tfL.map fun p => (cT K p).2).Nodup := of_decide_eq_true T.tn
  rw [nodup_inj nd hx h e]
theorem TabS.fr {M : Addr → Prop} {H H' : Hp} (k : Fr M H H') {P : Addr} {q : Str} (h : LamX.TabS H P q) : LamX.TabS H' P q := by
  obtain ⟨ps, h1, h2, h3⟩ := h
  refine ⟨ps, k.imm (fun z => z) h1, h2, fun pos cv hc => ?_⟩
  obtain ⟨c, e1, e2⟩ := h3 pos cv hc
  exact ⟨c, e1, k.imm (fun z => by unfold LamX.CodeO at z; exact z) e2⟩
theorem Tabs.fr {M : Addr → Prop} {H H' : Hp} (k : Fr M H H') {T : List (Addr × Str)} (h : LamX.Tabs T H) : LamX.Tabs T H' := fun p hp => TabS.fr k (h p hp)
section
variable {X : Cx}
/-- asked(lambda: body) -/
theorem pe_asked (T : Tx X.K X.mg) (B : ∀ x ∈ tfL, LamX.TabB X.base X.mg (cT X.K x).1 (cT X.K x).2) {p : Defn} (hp : p ∈ tfL) {k : Nat} {params : Arguments} {body : Expr} {scope : Scope} {t : XK → TE} {p1 lpos pos : Pos}
    (hg : Gl X "_law_asked") (hcode : X.env.code = .ref (cT X.K p).1) (hq : X.env.qual ++ "<lambda>" = lamQ p) (hr : Room (k + 2) X.A) (L : LamX.LamS X.env.scope scope) (hdef : defaultsOf params X.env = ([], []))
    (hbind : ∀ (q : Str) (cl : List (Str × Addr)) (pm cv ctv : Value), bindArgs (PySem.W.kla_fn "<lambda>" q params body scope cl pm cv ctv) ⟨[], []⟩ = pure [])
    (hbody : ∀ (A : Around) (outer : List Env) (s : Shared) (H : Hp) (E : XK) (f c' : Addr), Room k (A.deeper (LamX.lamEnv X scope s.heap.objs.size f c')) → PE (LamX.lamCx X A outer s H E scope f c') body (t E)) :
    PE X (.Call (.Name "_law_asked" p1) [.Lambda params body scope lpos] [] pos) (LamX.tLam (T0 X.K) (TA X.K) t) := by
  obtain ⟨fd, F⟩ := T.fn d_l_asked in_l_asked
  have hb : L2.Binds X.K fd ["_law_call_here"] [] := F.bindsN (fun _ _ _ _ _ _ us hl => match us, hl with | [_], _ => rfl)
  have kp := F.kp
  obtain ⟨oc, od, dV, kV, doc, pm, an, cdv, ct, osl, rfl, lk, hcd, _, _⟩ := F.ex
  exact LamX.pe_lamcall (Ng := askN) hg (T.g "_law_asked") kp lk hcd hb sc_ask rfl (Or.inl rfl) (asked_gives T) (B p hp) hcode (by rw [hq]; exact T0_mem hp) (by rw [hq]; exact T0_one T hp) hr L hdef hbind hbody
theorem passLam {A : Around} {outer : List Env} {s : Shared} {H : Hp} {E : XK} {scope : Scope} {f c' : Addr} : Passes (L2.CX X.prog X.w) (LamX.lamCx X A outer s H E scope f c') E :=
  passes_call (takes_of (X := LamX.lamCx X A outer s H E scope f c') rfl rfl rfl rfl) fun _ _ _ _ h => h
end
section
variable {X : Cx} {A : Around} {outer : List Env} {s : Shared} {H : Hp} {E : XK} {scope : Scope} {f c' : Addr}
/-- o.m(e, ..), x(e, ..) in a lambda -/
theorem pmlL {k j : Nat} {d : DefD} {ps : List Str} {sp : Sp} {m : Str} {pos apos : Pos} {e o : Expr} {es : List Expr} {ta : TE} {t : L2.TA} {pl : Sem Bool} (O : Okd X.prog X.w X.K X.mg X.base (L2.CX X.prog X.w) k d ps sp) (hr : Room j (A.deeper (LamX.lamEnv X scope s.heap.objs.size f c')))
    (he : PE (LamX.lamCx X A outer s H E scope f c') o ta) (c : Cls X.K (ga X.K "Shelf")) (hm : Meth X.K (ga X.K "Shelf") m (fAd X.K d.at_)) (ha : PA (LamX.lamCx X A outer s H E scope f c') (e :: es) t) (hk : k ≤ j := by decide)
    (hst : starEach (e :: es) (LamX.lamCx X A outer s H E scope f c').env = (false, eval e (LamX.lamCx X A outer s H E scope f c').env) :: starEach es (LamX.lamCx X A outer s H E scope f c').env := by rfl) (hpl : (backTo pos (starEach es (LamX.lamCx X A outer s H E scope f c').env)).any (·.1) = false := by rfl)
    (ht : eval (.Call (.Attribute o m apos) (e :: es) [] pos) (LamX.lamCx X A outer s H E scope f c').env = (do
      let ov ← eval o (LamX.lamCx X A outer s H E scope f c').env
      standAt apos.atName
      let (g, first) ← holding [ov] (getMethod ov m pl)
      callWith pos g first (backTo pos (starEach (e :: es) (LamX.lamCx X A outer s H E scope f c').env)) (backToKw pos (keywordEach [] (LamX.lamCx X A outer s H E scope f c').env))) := by rfl) :
    PE (LamX.lamCx X A outer s H E scope f c') (.Call (.Attribute o m apos) (e :: es) [] pos) (tMeth (ga X.K "Shelf") m sp [] E ta t) :=
  pml (X := LamX.lamCx X A outer s H E scope f c') O hr (passLam (X := X)) he c hm ha hk hst hpl ht
theorem pclL {k j : Nat} {d : DefD} {ps : List Str} {sp : Sp} {x : Str} {p pos : Pos} {e : Expr} {es : List Expr} {t : L2.TA} (O : Okd X.prog X.w X.K X.mg X.base (L2.CX X.prog X.w) k d ps sp) (hr : Room j (A.deeper (LamX.lamEnv X scope s.heap.objs.size f c')))
    (ha : PA (LamX.lamCx X A outer s H E scope f c') (e :: es) t) (hm : X.mg x = some (.ref (fAd X.K d.at_))) (hk : k ≤ j := by decide) (hg : Gl (LamX.lamCx X A outer s H E scope f c') x := by rfl)
    (hdb : (x == ("__debug__" : Str)) = false := by decide) (he : starEach (e :: es) (LamX.lamCx X A outer s H E scope f c').env = (false, eval e (LamX.lamCx X A outer s H E scope f c').env) :: starEach es (LamX.lamCx X A outer s H E scope f c').env := by rfl)
    (hpl : (backTo pos (starEach es (LamX.lamCx X A outer s H E scope f c').env)).any (·.1) = false := by rfl) :
    PE (LamX.lamCx X A outer s H E scope f c') (.Call (.Name x p) (e :: es) [] pos) (tCall sp [] E t) :=
  pcl (X := LamX.lamCx X A outer s H E scope f c') O hr (passLam (X := X)) ha hm hk hg hdb he hpl
end
end Tw

namespace Tw
open PySem PySem.Spec PyProof.Rows L2 He
section
variable {P : Program} {w : World} {K : PySem.W.Frag} {mg : Str → Option Value} {base : Heap}
theorem Good.up {es : List En} {g : Int} {c c' : Nat} (G : Good es g c) (h : c ≤ c') : Good es g c' :=
  ⟨G.rng, G.one, G.upm, G.sub, G.lf, G.st, G.lb, G.kd, fun e he => by have := G.bd e he; exact ⟨this.1, by have := this.2.1; omega, this.2.2⟩, G.rk⟩
theorem LawOk.up {L : LS} {c c' : Nat} (O : LawOk L c) (h : c ≤ c') (h8 : c' ≤ 8) : LawOk L c' :=
  ⟨O.gd.up h, h8, O.ri, O.gk, O.g64, O.ks, O.tl, O.mem, O.sn, O.g0⟩
abbrev ps2N : List Str := ["_law_well_here", "_law_state", "_law_twigs", "_law_holds", "_law_grid_here", "_law_told", "_law_numbers", "_law_some", "_law_due", "_law_found", "_law_number", "_law_handed", "_law_shelf", "_law_j"]
theorem sc_ps2 : FnScope ps2N ["_law_well_here", "_law_state"] d_l_put_stem.scope := ⟨rfl, rfl, rfl, by decide +kernel, rfl, by decide +kernel, by decide +kernel⟩
def spPS2 (K : PySem.W.Frag) : Sp := fun vs H Q _ => ∃ (wl st : Addr) (L : LS) (c : Nat), vs = [.ref wl, .ref st] ∧ StAt L st H ∧ WellAt wl H ∧ ¬ L.M wl ∧ LawAt K L H ∧ LawOk L c ∧ c < 8 ∧ 1 ≤ L.S.es.length ∧ L.S.es.length < 40 ∧ L.tl.length ≤ 200 ∧ LamX.Tabs (T0 K) H ∧
  ∀ H' L', LawAt K L' H' → LawOk L' (c + 1) → Alike L L' → L.S.es.length ≤ L'.S.es.length → L'.S.es.length ≤ L.S.es.length + 1 → L'.tl.length ≤ L.tl.length + 1 → WellAt wl H' → (∀ x u, H x = some u → (∀ ps, u ≠ .tbl ps) → ¬ L.M x → ¬ L'.M x) → FrN (fun b => L.M b ∨ b = wl) H H' → LamX.Tabs (T0 K) H' → Q (.bl true) H'
/-- the first refusal that is due for branches of a new stem; none -/
inductive Due (es : List En) (ns : List Int) : Option PyData → Prop
  | twig {m : Int} : ns.find? (fun n => !hasB es n) = some m → Due es ns (some (.tuple [.str "twig", .int m]))
  | stem {bs : List En} : bs.map En.n = ns → (∀ b ∈ bs, b ∈ es) → ¬ OkL (bs.map En.lab) → Due es ns (some (.tuple [.str "stem"]))
  | held {bs : List En} {m : Int} : bs.map En.n = ns → (∀ b ∈ bs, b ∈ es) → OkL (bs.map En.lab) → ns.find? (unB es) = some m → Due es ns (some (.tuple [.str "held", .int m]))
  | none {bs : List En} : bs.map En.n = ns → (∀ b ∈ bs, b ∈ es) → OkL (bs.map En.lab) → ns.find? (unB es) = none → Due es ns none
/-- how it stands in the heap -/
def DueV (H : Hp) (v : V) : Option PyData → Prop
  | some d => ∃ p, v = .ref p ∧ Da H v d
  | none => v = .non
theorem DueV.same {H H' : Hp} {v : V} (k : Same H H') : ∀ {o : Option PyData}, DueV H v o → DueV H' v o
  | some _, ⟨p, e, d⟩ => ⟨p, e, d.same k⟩
  | none, h => h
theorem DueV.frn {M : Addr → Prop} {H H' : Hp} {v : V} (k : FrN M H H') : ∀ {o : Option PyData}, DueV H v o → DueV H' v o
  | some _, ⟨p, e, d⟩ => ⟨p, e, d.frn k⟩
  | none, h => h
theorem ents_inj {es : List En} (hp : es.Pairwise fun x y => x.n < y.n) : ∀ {bs bs' : List En}, (∀ b ∈ bs, b ∈ es) → (∀ b ∈ bs', b ∈ es) → bs.map En.n = bs'.map En.n → bs = bs'
  | [], [], _, _, _ => rfl
  | [], _ :: _, _, _, e => by simp at e
  | _ :: _, [], _, _, e => by simp at e
  | b :: bs, b' :: bs', h1, h2, e => by
    rw [List.map_cons, List.map_cons] at e
    injection e with e1 e2
    rw [mem_inj hp (h1 b List.mem_cons_self) (h2 b' List.mem_cons_self) e1, ents_inj hp (fun x hx => h1 x (List.mem_cons_of_mem _ hx)) (fun x hx => h2 x (List.mem_cons_of_mem _ hx)) e2]
theorem ents_find {es bs : List En} {ns : List Int} (e : bs.map En.n = ns) (h : ∀ b ∈ bs, b ∈ es) : ns.find? (fun n => !hasB es n) = none := by
  rw [List.find?_eq_none]
  intro n hn
  rw [← e] at hn
  obtain ⟨b, hb, q⟩ := List.mem_map.mp hn
  rw [hasB_iff.mpr ⟨b, h b hb, q⟩]
  simp
section
variable {es bs : List En} {ns : List Int} {o : Option PyData}
theorem Due.twig_of {m : Int} (h : Due es ns o) (e : ns.find? (fun n => !hasB es n) = some m) : o = some (.tuple [.str "twig", .int m]) := by
  cases h with
  | twig q => rw [e] at q; cases q; rfl
  | stem a b _ => rw [ents_find a b] at e; cases e
  | held a b _ _ => rw [ents_find a b] at e; cases e
  | none a b _ _ => rw [ents_find a b] at e; cases e
theorem Due.stem_of (hp : es.Pairwise fun x y => x.n < y.n) (h : Due es ns o) (e : bs.map En.n = ns) (hb : ∀ b ∈ bs, b ∈ es) (no : ¬ OkL (bs.map En.lab)) : o = some (.tuple [.str "stem"]) := by
  cases h with
  | twig q => rw [ents_find e hb] at q; cases q
  | stem a b _ => rfl
  | held a b c _ => exact absurd (by rw [ents_inj hp hb b (e.trans a.symm)]; exact c) no
  | none a b c _ => exact absurd (by rw [ents_inj hp hb b (e.trans a.symm)]; exact c) no
theorem Due.held_of {m : Int} (hp : es.Pairwise fun x y => x.n < y.n) (h : Due es ns o) (e : bs.map En.n = ns) (hb : ∀ b ∈ bs, b ∈ es) (ok : OkL (bs.map En.lab)) (f : ns.find? (unB es) = some m) : o = some (.tuple [.str "held", .int m]) := by
  cases h with
  | twig q => rw [ents_find e hb] at q; cases q
  | stem a b c => exact absurd ok (by rw [ents_inj hp hb b (e.trans a.symm)]; exact c)
  | held a b c q => rw [f] at q; cases q; rfl
  | none a b c q => rw [f] at q; cases q
theorem Due.none_of (hp : es.Pairwise fun x y => x.n < y.n) (h : Due es ns o) (e : bs.map En.n = ns) (hb : ∀ b ∈ bs, b ∈ es) (ok : OkL (bs.map En.lab)) (f : ns.find? (unB es) = Option.none) : o = Option.none := by
  cases h with
  | twig q => rw [ents_find e hb] at q; cases q
  | stem a b c => exact absurd ok (by rw [ents_inj hp hb b (e.trans a.symm)]; exact c)
  | held a b c q => rw [f] at q; cases q
  | none a b c q => rfl
end
theorem dict_step {es : List En} {e : En} {m : Int} (hp : es.Pairwise fun x y => x.n < y.n) (he : e ∈ es) : putK (dict (fun e => V.int e.hd) es) (Sum.inl e.n) (.int (e.hd - 1)) = dict (fun e => V.int e.hd) (es.map fun x => if x.n = e.n then upE m x else x) := by
  rw [putK_dict hp he]
  unfold dict
  rw [List.map_map]
  refine List.map_congr_left fun x hx => ?_
  show (Sum.inl x.n, if x.n = e.n then V.int (e.hd - 1) else V.int x.hd) = (Sum.inl (if x.n = e.n then upE m x else x).n, V.int (if x.n = e.n then upE m x else x).hd)
  by_cases z : x.n = e.n
  · rw [if_pos z, if_pos z, mem_inj hp hx he z]
    rfl
  · rw [if_neg z, if_neg z]
theorem dict_hov {F : En → V} {G : Int → V} (h : ∀ e, F e = G e.n) (ns : List Int) (m : Int) (es : List En) : dict F (hov ns m es) = dict F es := by
  unfold dict
  rw [hov_eq, List.map_map]
  refine List.map_congr_left fun x _ => ?_
  show (Sum.inl (hovE ns m x).n, F (hovE ns m x)) = (Sum.inl x.n, F x)
  rw [h, h, hovE_n]
theorem hov_inc {es : List En} (hp : es.Pairwise fun x y => x.n < y.n) (ns : List Int) (m : Int) : (hov ns m es).Pairwise fun x y => x.n < y.n := map_inc _ (fun x => by split <;> rfl) hp
theorem eqv_ints_refl (ns : List Int) : PyData.eqv (.list (ns.map PyData.int)) (.list (ns.map PyData.int)) = true := SeqAt.eqv_refl _ (SeqAt.canLay_of_shaped (shaped_ints ns))
theorem due_cl {es : List En} {ns : List Int} {d : PyData} (h : Due es ns (some d)) : clD 5 d = true := by
  cases h <;> rfl
theorem ok_ps2 (T : Tx K mg) (B : ∀ x ∈ tfL, LamX.TabB base mg (cT K x).1 (cT K x).2) : Okd P w K mg base CX0 10 d_l_put_stem ["_law_well_here", "_law_state"] (spPS2 K) := by
  refine okdL T in_l_put_stem sc_ps2 (fun _ _ _ _ _ _ us hl => match us, hl with | [_, _], _ => rfl) (fun vs H Q E h => ?_) (fun A outer s H vs Q E hr h => ?_)
  · obtain ⟨wl, st, L, c, rfl, _⟩ := h
    rfl
  · obtain ⟨wl, st, L, c, rfl, hst, W, hwl, A1, O, hc8, h1, h40, ht200, hTab, k⟩ := h
    have hu := hu_of hr
    refine ⟨_, pss_cons (ps_asg (pv 1) (pg_tup rfl (pgs_cons (pg_name (i := 12) sc_ps2.nd rfl (Or.inr rfl)) (pgs_cons (pg_name (i := 2) sc_ps2.nd rfl (Or.inl rfl)) (pgs_cons (pg_name (i := 3) sc_ps2.nd rfl (Or.inl rfl)) (pgs_cons (pg_name (i := 4) sc_ps2.nd rfl (Or.inl rfl)) (pgs_cons (pg_name (i := 5) sc_ps2.nd rfl (Or.inl rfl)) pgs_nil)))))))
      (pss_cons (ps_set (i := 6) sc_ps2.nd rfl (Or.inl rfl) (pcl (ok_run T) hr pass0 (pa_cons (pv 0) (pa_cons (pv 2) (pa_cons (pv 3) (pa_cons (pv 4) pa_nil)))) (T.g "_law_run")))
      (pss_cons (ps_join (ps_if (pt_cmpR op_eq (pcl (ok_pull T) hr pass0 (pa_cons (pv 0) (pa_cons pe_int pa_nil)) (T.g "_law_pull")) pe_int (nomark _))
        (pss_cons (ps_set (i := 7) sc_ps2.nd rfl (Or.inr rfl) (pe_op op_cat (pe_callB (call_sortedDI rfl) (by rfl) (T.f "sorted") (by decide +kernel) (pa_cons (pv 2) pa_nil)) (pe_lst (pa_cons (pe_op op_add (pe_op op_add (pe_callB (cr_max rfl) (by rfl) (T.f "max") (by decide +kernel) (pa_cons (pv 5) pa_nil)) pe_int) (pcl (ok_pull T) hr pass0 (pa_cons (pv 0) (pa_cons pe_int pa_nil)) (T.g "_law_pull"))) pa_nil))))
        (pss_one (ps_setLc (i := 6) (own := [("_law_j", 13)]) (g := gName 13) (tt := tYes) (te := tCall spPick [] E0 (tCons (tVar 0) (tCons (tVar 7) tNil))) rfl sc_ps2.nd rfl rfl (by rfl)
          (pi_range1 (by rfl) (T.f "range") (pa_cons (pcl (ok_pull T) hr pass0 (pa_cons (pv 0) (pa_cons pe_int pa_nil)) (T.g "_law_pull")) pa_nil))
          (blkOk_by (own := [("_law_j", 13)]) (N := ps2N) (sc := d_l_put_stem.scope) (by decide +kernel)) (fun _ _ _ _ _ => pg_name (i := 13) sc_ps2.nd rfl (Or.inl rfl)) (fun _ _ _ _ _ => pts_nil)
          (fun _ _ _ _ _ => by exact pcl (ok_pick T) hr pass0 (pa_cons (pv 0) (pa_cons (pv 7) pa_nil)) (T.g "_law_picked"))))) pss_nil))
      (pss_cons (ps_join (ps_set (i := 8) sc_ps2.nd rfl (Or.inl rfl) (pcl (ok_wrg T) hr pass0 (pa_cons (pv 2) (pa_cons (pv 6) (pa_cons pe_non pa_nil))) (T.g "_law_wrong"))))
      (pss_cons (ps_join (ps_if (pt_cmpR op_isN (pv 8) pe_non (nomark _)) (pss_one (ps_set (i := 8) sc_ps2.nd rfl (Or.inl rfl) (pcl (ok_unh T) hr pass0 (pa_cons (pv 3) (pa_cons (pv 6) pa_nil)) (T.g "_law_unheld")))) pss_nil))
      (pss_cons (ps_set (i := 11) sc_ps2.nd rfl (Or.inr rfl) (pe_callTy call_list_of (by rfl) (T.f "list") (by decide +kernel) (pa_cons (pv 6) pa_nil)))
      (pss_cons (ps_join (ps_set (i := 9) sc_ps2.nd rfl (Or.inl rfl) (pe_asked T B (p := ("_law_put_stem", none)) (by decide +kernel) (k := 7) (t := fun E => tMeth (ga K "Shelf") "put_stem" (spPS K) [] E (tVar 12) (tCons (tVar 11) tNil)) (by rfl) rfl rfl hr (by exact (show LamX.LamS d_l_put_stem.scope _ from LamX.lamS_by (by decide +kernel))) (by rfl) (by exact fun _ _ _ _ _ => rfl)
          (by exact fun A outer s H E f c' hr2 => pmlL (ok_ps T) hr2 (pv 12) T.cl T.me_put_stem (pa_cons (pv 11) pa_nil)))))
      (pss_cons (ps_if (pt_cmpR (op_neD hr.units) (pv 11) (pv 6) (nomark _)) (pss_one (ps_ret pe_bl)) pss_nil)
      (pss_cons (ps_if (pt_cmpR op_notN (pv 8) pe_non (nomark _)) (pss_one (ps_ret (pcl (ok_alk T 5) hr pass0 (pa_cons (pv 9) (pa_cons (pv 8) pa_nil)) (T.g "_law_alike")))) pss_nil)
      (pss_cons (ps_expr (pe_bm0 PySem.F.plainAttrs_list PySem.F.slot_list_clear PySem.F.type_list_clear mt_clear (pv 11)))
      (pss_cons (ps_if (PW.pt (pw_or (pt_cmpR op_ne (pe_ix ix_tup (pv 9) pe_int (fun _ _ => rfl)) pe_str (nomark _)) (pw_or (pt_not (pt_val (pe_is "int" (T.f "isinstance") (T.f "int") (pe_ix ix_tup (pv 9) pe_int (fun _ _ => rfl))))) (pw_or (pt_val (pe_is "bool" (T.f "isinstance") (T.f "bool") (pe_ix ix_tup (pv 9) pe_int (fun _ _ => rfl))))
          (pw_or1 (pt_cmpR op_le (pe_ix ix_tup (pv 9) pe_int (fun _ _ => rfl)) (pe_callB (cr_max rfl) (by rfl) (T.f "max") (by decide +kernel) (pa_cons (pv 5) pa_nil)) (nomark _))))))) (pss_one (ps_ret pe_bl)) pss_nil)
      (pss_cons (ps_expr (pe_bm PySem.F.plainAttrs_list PySem.F.slot_list_append PySem.F.type_list_append mt_append (pv 5) (pa_cons (pe_ix ix_tup (pv 9) pe_int (fun _ _ => rfl)) pa_nil)))
      (pss_cons (ps_for PassesOwn.never rfl (pi_list (pv 6)) (pg_name (i := 10) sc_ps2.nd rfl (Or.inl rfl)) (pss_one (ps_dput hu (pv 3) (pv 10) (pe_op op_sub (pe_dget hu (pv 3) (pv 10) (fun _ _ => rfl)) pe_int) rfl)))
      (pss_cons (ps_dput hu (pv 2) (pe_ix ix_tup (pv 9) pe_int (fun _ _ => rfl)) (pe_tup (pa_cons pe_str (pa_cons (pv 6) pa_nil))) rfl)
      (pss_cons (ps_dput hu (pv 3) (pe_ix ix_tup (pv 9) pe_int (fun _ _ => rfl)) pe_int rfl)
      (pss_one (ps_ret pe_bl)))))))))))))))), ?_⟩
    have es50 := A1.sh.small.1
    have lens : (L.S.es.map En.n).length = L.S.es.length := List.length_map ..
    have wlL : ∀ {H' : Hp}, Fr (fun b => b = wl) H H' → LawAt K L H' := fun F => A1.of_fr F fun b hb z => hwl (by rw [← z]; exact hb)
    have wlne : ∀ {b : Addr}, H b = none → b ≠ wl := fun {b} hb z => by
      obtain ⟨_, e⟩ := W.sq (K := K)
      rw [z, e] at hb
      cases hb
    refine ⟨_, rfl, st, _, rfl, SqT.of hst, rfl, _, _, rfl, _, _, rfl, _, _, rfl, _, _, rfl, _, _, rfl, rfl, ?_⟩
    refine ⟨_, rfl, _, rfl, _, rfl, _, rfl, wl, L, c, rfl, W, hwl, A1, O, h1, fun H1 l0 ns0 hl0 hl01 hns0 hlen0 W1 F1 => ?_⟩
    -- perhaps other numbers
    refine ⟨fun σ' H' => ∃ (l : Addr) (ns : List Int) (sm : Option V), σ' = [some (.ref wl), some (.ref st), some (.ref L.aT), some (.ref L.aH), some (.ref L.aG), some (.ref L.aL), some (.ref l), sm, none, none, none, none, some (.ref L.S.p), none] ∧ H l = none ∧ H' l = some (.lst (ns.map V.int)) ∧ ns.length ≤ 30 ∧ WellAt wl H' ∧ Fr (fun b => b = wl) H H', ?_, ?_⟩
    · refine ⟨_, rfl, wl, 5, rfl, W1, by decide, by decide, fun r1 H2 r10 r15 W2 F2 => ⟨rfl, _, rfl, ?_⟩⟩
      have F12 := F1.trans F2
      by_cases z : r1 = 4
      · rw [show decide (V.int r1 = V.int 4) = true from decide_eq_true (by rw [z])]
        have A2 := wlL F12
        refine iteT ⟨_, rfl, L.aT, _, L.S.es.map En.n, rfl, .inl A2.tw, dict_keys _ _, by omega, fun ys p hp hs hn => ?_⟩
        rw [nums_sorted A2.sh.inc hp hs]
        have s3 : Same H2 (upd H2 p (.lst ((L.S.es.map En.n).map V.int))) := same_upd hn
        have p3 : (upd H2 p (.lst ((L.S.es.map En.n).map V.int))) p = some (.lst ((L.S.es.map En.n).map V.int)) := upd_same
        have pw : p ≠ wl := fun z => by
          obtain ⟨_, e⟩ := W2.sq (K := K)
          rw [z, e] at hn
          cases hn
        have W3 := W2.same s3
        have F3 : Fr (fun b => b = wl) H (upd H2 p (.lst ((L.S.es.map En.n).map V.int))) := F12.trans (Fr.of s3)
        generalize upd H2 p (.lst ((L.S.es.map En.n).map V.int)) = H3 at p3 W3 F3 ⊢
        have A3 := wlL F3
        have tlp : 0 < L.tl.length := by
          cases q : L.S.es with
          | nil => rw [q] at h1; simp at h1
          | cons e es =>
            have := O.mem e (by rw [q]; exact List.mem_cons_self)
            exact List.length_pos_of_mem this
        refine ⟨_, rfl, L.aL, L.tl, rfl, SqL.of A3.to, tlp, fun m hm1 hm2 => ⟨_, _, rfl, rfl, _, rfl, wl, 3, rfl, W3, by decide, by decide, fun r2 H4 r20 r23 W4 F4 => ⟨_, _, rfl, rfl, small100 (by simp), fun q hq => ?_⟩⟩⟩
        have F34 := F3.trans F4
        have p4 := F4.at pw p3
        have s5 : Same H4 (upd H4 q (.lst [.int (m + 1 + r2)])) := same_upd hq
        refine ⟨p, q, _, _, rfl, rfl, s5 _ _ p4, upd_same, by rw [List.length_map, sizeLine_eq]; show (L.S.es.map En.n).length + 1 ≤ _; omega, fun s hs5 => ?_⟩
        have s6 : Same H4 (upd (upd H4 q (.lst [.int (m + 1 + r2)])) s (.lst ((L.S.es.map En.n).map V.int ++ [.int (m + 1 + r2)]))) := s5.trans (same_upd hs5)
        have e6 : (upd (upd H4 q (.lst [.int (m + 1 + r2)])) s (.lst ((L.S.es.map En.n).map V.int ++ [.int (m + 1 + r2)]))) s = some (.lst ((L.S.es.map En.n ++ [m + 1 + r2]).map V.int)) := by rw [upd_same, List.map_append]; rfl
        have W6 := W4.same s6
        have F6 : Fr (fun b => b = wl) H (upd (upd H4 q (.lst [.int (m + 1 + r2)])) s (.lst ((L.S.es.map En.n).map V.int ++ [.int (m + 1 + r2)]))) := F34.trans (Fr.of s6)
        have sw : s ≠ wl := fun z => by
          obtain ⟨_, e⟩ := (W4.same s5).sq (K := K)
          rw [z, e] at hs5
          cases hs5
        generalize upd (upd H4 q (.lst [.int (m + 1 + r2)])) s (.lst ((L.S.es.map En.n).map V.int ++ [.int (m + 1 + r2)])) = H6 at e6 W6 F6 ⊢
        have lks : (L.S.es.map En.n ++ [m + 1 + r2]).length = L.S.es.length + 1 := by rw [List.length_append, lens]; rfl
        generalize L.S.es.map En.n ++ [m + 1 + r2] = ks at e6 lks
        refine ⟨_, rfl, wl, 6, rfl, W6, by decide, by decide, fun r3 H7 r30 r36 W7 F7 => ⟨r3, rfl, by omega, by omega, fun D hD => ?_⟩⟩
        have F67 := F6.trans F7
        have e7 := F7.at sw e6
        have Dw : D ≠ wl := fun z => by
          obtain ⟨_, e⟩ := W7.sq (K := K)
          rw [z, e] at hD
          cases hD
        have s8 : Same H7 (upd H7 D (.lst [])) := same_upd hD
        refine lc_it walk_range (fun i H8 => ∃ ns : List Int, ns.length ≤ i ∧ H8 D = some (.lst (ns.map V.int)) ∧ H8 s = some (.lst (ks.map V.int)) ∧ WellAt wl H8 ∧ Fr (fun b => b = wl) H H8) ⟨[], Nat.le_refl _, upd_same, s8 _ _ e7, W7.same s8, F67.trans (Fr.of s8)⟩ (fun _ _ _ _ => True.intro) ?_ ?_
        · rintro i y H8 H9 hi ⟨ns, hn1, hn2, hn3, W8, F8⟩ ⟨rfl, rfl⟩
          refine ⟨rfl, _, rfl, _, rfl, wl, s, ks, rfl, W8, hn3, sw, by omega, by omega, fun n H10 hnk W10 F10 => ?_⟩
          have d10 := F10.at Dw hn2
          refine ⟨_, d10, ?_, ns ++ [n], by rw [List.length_append]; simp; omega, by rw [upd_same, List.map_append]; rfl, ?_, ?_, ?_⟩
          · rw [List.length_map, sizeLine_eq]
            omega
          · exact (upd_ne (ne_of_none e7 hD)).trans (F10.at sw hn3)
          · exact W10.fr (M := fun b => b = D) ((Fr.refl _).put rfl d10 True.intro) Dw.symm
          · exact (F8.trans F10).lay (F67.free Dw hD)
        · rintro H8 ⟨ns, hn1, hn2, hn3, W8, F8⟩
          exact ⟨D, ns, _, rfl, F67.free Dw hD, hn2, by omega, W8, F8⟩
      · rw [show decide (V.int r1 = V.int 4) = false from decide_eq_false (fun q => z (V.int.inj q))]
        exact iteF ⟨l0, ns0, _, rfl, hl0, F2.at (wlne hl0) hl01, hlen0, W2, F12⟩
    rintro σ3 H3 ⟨l, ns, sm, rfl, hl, hl3, hlen, W3, F3⟩
    have A3 := wlL F3
    -- what is due
    refine ⟨fun σ' H' => ∃ (v : V), σ' = [some (.ref wl), some (.ref st), some (.ref L.aT), some (.ref L.aH), some (.ref L.aG), some (.ref L.aL), some (.ref l), sm, some v, none, none, none, some (.ref L.S.p), none] ∧ Same H3 H' ∧
      ((∃ m, ns.find? (fun n => !hasB L.S.es n) = some m ∧ DueV H' v (some (.tuple [.str "twig", .int m]))) ∨ (∃ bs : List En, bs.map En.n = ns ∧ (∀ b ∈ bs, b ∈ L.S.es) ∧ ((¬ OkL (bs.map En.lab) ∧ DueV H' v (some (.tuple [.str "stem"]))) ∨ (OkL (bs.map En.lab) ∧ v = .non)))), ?_, ?_⟩
    · refine ⟨_, rfl, _, rfl, L, c, l, ns, rfl, A3, O.gd, O.c8, hl3, by omega, fun m hm H' p s' hp hp' => ?_, fun bs eb hbs => ⟨fun no H' p s' hp hp' => ?_, fun ok H' s' => ?_⟩⟩
      · exact ⟨.ref p, rfl, s', .inl ⟨m, hm, p, rfl, .tup hp' (.cons (.str _) (.cons (.int _) .nil))⟩⟩
      · exact ⟨.ref p, rfl, s', .inr ⟨bs, eb, hbs, .inl ⟨no, p, rfl, .tup hp' (.cons (.str _) .nil)⟩⟩⟩
      · exact ⟨.non, rfl, s', .inr ⟨bs, eb, hbs, .inr ⟨ok, rfl⟩⟩⟩
    rintro σ4 H4 ⟨v, rfl, s34, hdue⟩
    refine ⟨fun σ' H' => ∃ (v : V) (o : Option PyData), σ' = [some (.ref wl), some (.ref st), some (.ref L.aT), some (.ref L.aH), some (.ref L.aG), some (.ref L.aL), some (.ref l), sm, some v, none, none, none, some (.ref L.S.p), none] ∧ Same H3 H' ∧ Due L.S.es ns o ∧ DueV H' v o, ?_, ?_⟩
    · refine ⟨_, rfl, rfl, ?_⟩
      rcases hdue with ⟨m, hm, p, rfl, hd⟩ | ⟨bs, eb, hbs, ⟨no, p, rfl, hd⟩ | ⟨ok, rfl⟩⟩
      · exact ⟨false, rfl, iteF ⟨_, _, rfl, s34, .twig hm, p, rfl, hd⟩⟩
      · exact ⟨false, rfl, iteF ⟨_, _, rfl, s34, .stem eb hbs no, p, rfl, hd⟩⟩
      · have hh : ∀ n ∈ ns, Has L.S.es n := fun n hn => by
          rw [← eb] at hn
          obtain ⟨b, hb, e⟩ := List.mem_map.mp hn
          exact ⟨b, hbs b hb, e⟩
        refine ⟨true, rfl, iteT ⟨_, rfl, _, rfl, K, L, l, ns, rfl, A3.same s34, s34 _ _ hl3, hh, fun hf => ?_, fun m hf H' p s' hp hp' => ?_⟩⟩
        · exact ⟨.non, none, rfl, s34, .none eb hbs ok hf, rfl⟩
        · exact ⟨.ref p, _, rfl, s34.trans s', .held eb hbs ok hf, p, rfl, .tup hp' (.cons (.str _) (.cons (.int _) .nil))⟩
    clear hdue
    rintro σ5 H5 ⟨v, o, rfl, s35, hdue, hdv⟩
    -- handed
    have l5 := s35 _ _ hl3
    refine ⟨_, rfl, l, _, rfl, .inl (SqL.of l5), fun lh hlh => ?_⟩
    have s6 : Same H5 (upd H5 lh (.lst (ns.map V.int))) := same_upd hlh
    have h6 : (upd H5 lh (.lst (ns.map V.int))) lh = some (.lst (ns.map V.int)) := upd_same
    have llh : l ≠ lh := ne_of_none l5 hlh
    generalize upd H5 lh (.lst (ns.map V.int)) = H6 at s6 h6 ⊢
    have s36 := s35.trans s6
    have A6 := A3.same s36
    have hdv6 := hdv.same s6
    have F6 : Fr (fun b => b = wl) H H6 := F3.trans (Fr.of s36)
    have hlh0 : H lh = none := (F3.trans (Fr.of s35)).free (fun z => by
      obtain ⟨_, e⟩ := (W3.same s35).sq (K := K)
      rw [z, e] at hlh
      cases hlh) hlh
    have l6 := s36 _ _ hl3
    have W6 := W3.same s36
    have lM : ¬ L.M l := A1.no hl
    have lhM : ¬ L.M lh := A1.no hlh0
    have T6 := Tabs.fr F6 hTab
    have hh : ∀ {bs : List En}, bs.map En.n = ns → (∀ b ∈ bs, b ∈ L.S.es) → ∀ n ∈ ns, Has L.S.es n := fun {bs} eb hbs n hn => by
      rw [← eb] at hn
      obtain ⟨b, hb, e⟩ := List.mem_map.mp hn
      exact ⟨b, hbs b hb, e⟩
    refine ⟨fun σ' H' => ∃ (fp : Addr), σ' = [some (.ref wl), some (.ref st), some (.ref L.aT), some (.ref L.aH), some (.ref L.aG), some (.ref L.aL), some (.ref l), sm, some v, some (.ref fp), none, some (.ref lh), some (.ref L.S.p), none] ∧ LamX.Tabs (T0 K) H' ∧
      ((∃ d, o = some d ∧ Da H' (.ref fp) d ∧ LawAt K L H' ∧ DueV H' v o ∧ FrN (fun b => b = wl) H H' ∧ WellAt wl H' ∧ H' l = some (.lst (ns.map V.int)) ∧ H' lh = some (.lst (ns.map V.int))) ∨
       (o = none ∧ H' fp = some (.tup [.str "told", .int L.S.g]) ∧ ∃ (bs : List En) (kt tg ab : Addr), bs.map En.n = ns ∧ (∀ b ∈ bs, b ∈ L.S.es) ∧ OkL (bs.map En.lab) ∧ ns.find? (unB L.S.es) = none ∧ (∀ b u, H6 b = some u → (∀ ps, u ≠ .tbl ps) → b ≠ ab) ∧
          ShelfAt K { L.S with g := L.S.g + 1, es := hov ns L.S.g L.S.es ++ [newS L.S bs kt tg ab] } H' ∧ FrN (fun b => L.S.M5 b ∨ L.S.Mh b) H6 H')), ?_, ?_⟩
    · refine ⟨T6, fun H7 eN T7 => ?_⟩
      have F7 : FrN (fun b => b = wl) H H7 := F6.n.trans (FrN.of eN)
      have F67 : FrN M0 H6 H7 := FrN.of eN
      have A7 := A6.of_frn F67 (fun _ _ z => z)
      have l7 := F67.lst (fun z => z) l6
      have lh7 := F67.lst (fun z => z) h6
      have W7 := W6.frn F67 (fun z => z)
      have dv7 := hdv6.frn F67
      have inc := A1.sh.inc
      show tMeth (ga K "Shelf") "put_stem" (spPS K) [] (AskE K _) (tVar 12) (tCons (tVar 11) tNil) _ H7 (AskV _)
      refine ⟨_, rfl, L.S.p, _, _, rfl, A7.sh.ob, rfl, _, rfl, L.S, c, lh, ns, rfl, A7.sh, O.gd, SqL.of lh7, by omega, by omega, fun m hm H8 d8 s8 hd8 => ?_, fun bs eb hbs => ⟨fun no H8 s8 => ?_, fun ok m hf H8 d8 s8 hd8 => ?_, fun ok hf H8 kt tg ab hab A8 F8 => ?_⟩⟩
      · have eo := hdue.twig_of hm
        refine .inr (.inr (.inr (.inl ⟨rfl, d8, m, rfl, hd8, fun H9 p s9 hp hp9 => ?_⟩)))
        have s79 := s8.trans s9
        exact ⟨p, rfl, T7.ext s79, .inl ⟨_, eo, .tup hp9 (.cons (.str _) (.cons (.int _) .nil)), A7.same s79, dv7.same s79, F7.trans (Fr.of s79).n, W7.same s79, s79 _ _ l7, s79 _ _ lh7⟩⟩
      · have eo := hdue.stem_of inc eb hbs no
        refine .inr (.inr (.inl ⟨rfl, rfl, fun H9 p s9 hp hp9 => ?_⟩))
        have s79 := s8.trans s9
        exact ⟨p, rfl, T7.ext s79, .inl ⟨_, eo, .tup hp9 (.cons (.str _) .nil), A7.same s79, dv7.same s79, F7.trans (Fr.of s79).n, W7.same s79, s79 _ _ l7, s79 _ _ lh7⟩⟩
      · have eo := hdue.held_of inc eb hbs ok hf
        refine .inr (.inr (.inr (.inr ⟨rfl, d8, m, rfl, hd8, fun H9 p s9 hp hp9 => ?_⟩)))
        have s79 := s8.trans s9
        exact ⟨p, rfl, T7.ext s79, .inl ⟨_, eo, .tup hp9 (.cons (.str _) (.cons (.int _) .nil)), A7.same s79, dv7.same s79, F7.trans (Fr.of s79).n, W7.same s79, s79 _ _ l7, s79 _ _ lh7⟩⟩
      · have eo := hdue.none_of inc eb hbs ok hf
        intro p hp
        have s9 : Same H8 (upd H8 p (.tup [.str "told", .int L.S.g])) := same_upd hp
        have ab6 : ∀ b u, H6 b = some u → (∀ ps, u ≠ .tbl ps) → b ≠ ab := fun b u e hu z => by
          have := F67.at (fun z => z) e hu
          rw [z, hab] at this
          cases this
        exact ⟨p, rfl, (Tabs.fr F8 T7).ext s9, .inr ⟨eo, upd_same, bs, kt, tg, ab, eb, hbs, ok, hf, ab6, A8.same s9, F67.mono (fun _ _ _ z => nomatch z) |>.trans (F8.trans (Fr.of s9)).n⟩⟩
    rintro σ8 H8 ⟨fp, rfl, T8, hcase⟩
    have neq : V.bl (!PyData.eqv (.list (ns.map PyData.int)) (.list (ns.map PyData.int))) = V.bl false := by rw [eqv_ints_refl]; rfl
    rcases hcase with ⟨d, rfl, hfp, A8, dv8, F8, W8, l8, lh8⟩ | ⟨rfl, hfp, bs, kt, tg, ab, rfl, hbs, ok, hf, hab, A8, F8⟩
    · -- refused
      refine ⟨_, rfl, _, rfl, .list (ns.map PyData.int), .list (ns.map PyData.int), dp_ints (SqL.of lh8), dp_ints (SqL.of l8), shaped_ints _, shaped_ints _, false, neq, iteF ?_⟩
      obtain ⟨q, rfl, hdq⟩ := dv8
      refine ⟨_, rfl, rfl, true, rfl, iteT ⟨_, rfl, _, rfl, .ref fp, .ref q, d, rfl, hfp, hdq, due_cl hdue, fun H9 s9 => ?_⟩⟩
      exact k H9 L (A8.same s9) (O.up (Nat.le_succ c) (by omega)) ⟨rfl, rfl, rfl, rfl, rfl⟩ (Nat.le_refl _) (by omega) (by omega) (W8.same s9) (fun _ _ _ _ h => h) ((F8.trans (Fr.of s9).n).mono fun b o _ z => .inr z) (T8.ext s9)
    · -- told
      obtain rfl : v = .non := hdv6
      have nM : ∀ {b : Addr}, ¬ L.S.M b → ¬ (L.S.M5 b ∨ L.S.Mh b) := fun h z => h (z.elim Sh.M5_M Sh.Mh_M)
      have lS : ¬ L.S.M l := fun z => lM (.inl z)
      have lhS : ¬ L.S.M lh := fun z => lhM (.inl z)
      have l8 := F8.lst (nM lS) l6
      have lh8 := F8.lst (nM lhS) h6
      have to8 := F8.lst (nM A1.nL) A6.to
      have aT8 := F8.dK (nM A1.nT) A6.tw
      have aH8 := F8.dK (nM A1.nH) A6.hl
      have lhL : lh ≠ L.aL := fun z => lhM (.inr (.inr (.inr (.inr (.inl z)))))
      have lL : l ≠ L.aL := fun z => lM (.inr (.inr (.inr (.inr (.inl z)))))
      have nTL : L.aT ≠ L.aL := ne_of A1.tw A1.to fun z => nomatch z
      have nHL : L.aH ≠ L.aL := ne_of A1.hl A1.to fun z => nomatch z
      have no : ∀ e ∈ L.S.es, e.n ≠ L.S.g := fun e he z => by
        have := (O.gd.rng e he).2
        omega
      refine ⟨_, rfl, _, rfl, .list (((bs.map En.n)).map PyData.int), .list (((bs.map En.n)).map PyData.int), dp_ints (SqL.of lh8), dp_ints (SqL.of l8), shaped_ints _, shaped_ints _, false, neq, iteF ?_⟩
      refine ⟨_, rfl, rfl, false, rfl, iteF ?_⟩
      refine ⟨_, rfl, .inl ⟨rfl, _, SqL.of lh8⟩, lh, _, rfl, rfl, lh8, ?_⟩
      let N : Addr → Prop := fun b => b = lh ∨ b = L.aL ∨ b = L.aT ∨ b = L.aH
      have F9 : Fr N H8 (upd H8 lh (.lst [])) := (Fr.refl H8).put (.inl rfl) lh8 True.intro
      have l9 := (upd_ne (o := .lst []) llh).trans l8
      have to9 := (upd_ne (o := .lst []) lhL.symm).trans to8
      have aT9 := (upd_ne (o := .lst []) (ne_of aT8 lh8 fun z => nomatch z)).trans aT8
      have aH9 := (upd_ne (o := .lst []) (ne_of aH8 lh8 fun z => nomatch z)).trans aH8
      have fp9 := (upd_ne (o := .lst []) (ne_of hfp lh8 fun z => nomatch z)).trans hfp
      generalize upd H8 lh (.lst []) = H9 at F9 l9 to9 aT9 aH9 fp9 ⊢
      have tlp : 0 < L.tl.length := by
        cases q : L.S.es with
        | nil => rw [q] at h1; simp at h1
        | cons e es =>
          have := O.mem e (by rw [q]; exact List.mem_cons_self)
          exact List.length_pos_of_mem this
      refine ⟨_, rfl, fp, _, 0, _, rfl, rfl, SqT.of fp9, atI_nat (j := 0) rfl, rfl, false, by decide +kernel, iteF ?_⟩
      refine ⟨_, rfl, fp, _, 1, _, rfl, rfl, SqT.of fp9, atI_nat (j := 1) rfl, _, "int", "int", true, rfl, .int _, by decide +kernel, true, rfl, iteF ?_⟩
      refine ⟨_, rfl, fp, _, 1, _, rfl, rfl, SqT.of fp9, atI_nat (j := 1) rfl, _, "bool", "int", false, rfl, .int _, by decide +kernel, false, rfl, iteF ?_⟩
      refine ⟨_, rfl, fp, _, 1, _, rfl, rfl, SqT.of fp9, atI_nat (j := 1) rfl, _, rfl, L.aL, L.tl, rfl, SqL.of to9, tlp, fun m hm _ => ⟨_, _, rfl, rfl, false, congrArg V.bl (decide_eq_false (by have := O.tl m hm; omega)), iteF ?_⟩⟩
      refine ⟨_, rfl, .inl ⟨rfl, _, SqL.of to9⟩, _, rfl, fp, _, 1, _, rfl, rfl, SqT.of fp9, atI_nat (j := 1) rfl, L.aL, _, .int L.S.g, rfl, rfl, to9, by rw [List.length_map, sizeLine_eq]; omega, ?_⟩
      have F10 : Fr N H8 (upd H9 L.aL (.lst (L.tl.map V.int ++ [.int L.S.g]))) := F9.put (.inr (.inl rfl)) to9 True.intro
      have to10 : (upd H9 L.aL (.lst (L.tl.map V.int ++ [.int L.S.g]))) L.aL = some (.lst ((L.tl ++ [L.S.g]).map V.int)) := by rw [upd_same, List.map_append]; rfl
      have l10 := (upd_ne (o := .lst (L.tl.map V.int ++ [.int L.S.g])) lL).trans l9
      have aT10 := (upd_ne (o := .lst (L.tl.map V.int ++ [.int L.S.g])) nTL).trans aT9
      have aH10 := (upd_ne (o := .lst (L.tl.map V.int ++ [.int L.S.g])) nHL).trans aH9
      have fp10 := (upd_ne (o := .lst (L.tl.map V.int ++ [.int L.S.g])) (ne_of fp9 to9 fun z => nomatch z)).trans fp9
      generalize upd H9 L.aL (.lst (L.tl.map V.int ++ [.int L.S.g])) = H10 at F10 to10 l10 aT10 aH10 fp10 ⊢
      have inc := A1.sh.inc
      have hnd := okl_nodup O.gd inc hbs ok
      refine ⟨_, rfl, l, rfl, ⟨_, SqL.of l10⟩, for_it walk_list (fun i σ H11 => ∃ z, σ = [some (.ref wl), some (.ref st), some (.ref L.aT), some (.ref L.aH), some (.ref L.aG), some (.ref L.aL), some (.ref l), sm, some .non, some (.ref fp), z, some (.ref lh), some (.ref L.S.p), none] ∧
        H11 L.aH = some (.dK (dict (fun e => V.int e.hd) (hov ((bs.map En.n).take i) L.S.g L.S.es))) ∧ ∀ b u, H10 b = some u → b ≠ L.aH → H11 b = some u) ⟨_, rfl, by rw [List.take_zero, hov_nil]; exact aH10, fun b u e _ => e⟩ (fun i σ H11 _ ⟨_, _, _, q⟩ => SqL.of (q _ _ l10 (ne_of l10 aH10 fun z => nomatch z))) ?_ ?_⟩
      · rintro i x σ H11 H12 hi ⟨z, rfl, aH11, k11⟩ ⟨rfl, hx⟩
        obtain ⟨n, en, rfl⟩ := ints_at hx
        obtain ⟨e, he, rfl⟩ := hh rfl hbs n (List.mem_of_getElem? en)
        have hnt : e.n ∉ (bs.map En.n).take i := by
          intro q
          obtain ⟨j, hj, ej⟩ := List.mem_iff_getElem.mp q
          rw [List.length_take] at hj
          rw [List.getElem_take] at ej
          have hi2 := (List.getElem?_eq_some_iff.mp en).1
          have e2 := (List.getElem?_eq_some_iff.mp en).2
          have := (List.getElem_inj hnd).mp (ej.trans e2.symm)
          omega
        have he2 := hov_mem (m := L.S.g) he hnt
        have inc2 := hov_inc inc ((bs.map En.n).take i) L.S.g
        refine ⟨_, rfl, _, rfl, L.aH, .int e.hd, rfl, ?_, _, _, rfl, rfl, _, rfl, _, rfl, L.aH, _, rfl, DPut.k (k := Sum.inl e.n) aH11 ?_, ?_⟩
        · rw [← valV_dict (F := fun e => V.int e.hd) inc2 he2]
          exact DGet.k (k := Sum.inl e.n) aH11
        · rw [dict_len, hov_eq, List.length_map, sizeLine_eq]
          omega
        · refine ⟨_, rfl, ?_, fun b u e hb => (upd_ne hb).trans (k11 b u e hb)⟩
          rw [upd_same, dict_step (m := L.S.g) inc2 he2, hov_step en hnt]
      rintro σ H11 ⟨z, rfl, aH11, k11⟩
      rw [List.length_map, List.take_of_length_le (Nat.le_refl _)] at aH11
      have aT11 := k11 _ _ aT10 A1.TH
      have to11 := k11 _ _ to10 nHL.symm
      have l11 := k11 _ _ l10 (ne_of l10 aH10 fun z => nomatch z)
      have fp11 := k11 _ _ fp10 (ne_of fp10 aH10 fun z => nomatch z)
      have F11 : Fr N H8 H11 := F10.and (N := fun b => b = L.aH) (fun b u e => by
        by_cases z : b = L.aH
        · refine .inr ⟨z, ?_⟩
          rw [z, aH10] at e
          cases e
          exact True.intro
        · exact .inl (k11 b u e z)) fun b u _ z => .inr (.inr (.inr z))
      have hlen2 : (hov (bs.map En.n) L.S.g L.S.es).length = L.S.es.length := by rw [hov_eq]; exact List.length_map ..
      have noh : ∀ e ∈ hov (bs.map En.n) L.S.g L.S.es, e.n ≠ L.S.g := fun e he => by
        rw [hov_eq] at he
        obtain ⟨x, hx, rfl⟩ := List.mem_map.mp he
        rw [hovE_n]
        exact no x hx
      -- the twig is told
      refine ⟨_, rfl, small100 (by simp), fun q hq => ?_⟩
      have s12 : Same H11 (upd H11 q (.tup [.str "stem", .ref l])) := same_upd hq
      have q12 : (upd H11 q (.tup [.str "stem", .ref l])) q = some (.tup [.str "stem", .ref l]) := upd_same
      have F12 := F11.trans (Fr.of s12)
      have aT12 := s12 _ _ aT11
      have aH12 := s12 _ _ aH11
      have to12 := s12 _ _ to11
      have l12 := s12 _ _ l11
      have fp12 := s12 _ _ fp11
      generalize upd H11 q (.tup [.str "stem", .ref l]) = H12 at F12 q12 aT12 aH12 to12 l12 fp12 ⊢
      refine ⟨_, rfl, _, rfl, fp, _, 1, _, rfl, rfl, SqT.of fp12, atI_nat (j := 1) rfl, L.aT, _, rfl, DPut.k (k := Sum.inl L.S.g) aT12 (by rw [dict_len, sizeLine_eq]; omega), ?_⟩
      have ew : dict (fun e => V.ref (L.lt e.n)) L.S.es = dict (fun e => V.ref (if e.n = L.S.g then q else L.lt e.n)) (hov (bs.map En.n) L.S.g L.S.es) := by
        rw [dict_hov (F := fun e => V.ref (if e.n = L.S.g then q else L.lt e.n)) (G := fun n => V.ref (if n = L.S.g then q else L.lt n)) (fun _ => rfl)]
        exact dict_congr fun e he => by rw [if_neg (no e he)]
      rw [ew, putK_snoc_v (F := fun e => V.ref (if e.n = L.S.g then q else L.lt e.n)) (e := newS L.S bs kt tg ab) noh rfl (by show _ = V.ref (if L.S.g = L.S.g then q else _); rw [if_pos rfl])]
      generalize hd1 : dict (fun e => V.ref (if e.n = L.S.g then q else L.lt e.n)) (hov (bs.map En.n) L.S.g L.S.es ++ [newS L.S bs kt tg ab]) = D1
      have F13 : Fr N H8 (upd H12 L.aT (.dK D1)) := F12.put (.inr (.inr (.inl rfl))) aT12 True.intro
      have aT13 : (upd H12 L.aT (.dK D1)) L.aT = some (.dK D1) := upd_same
      have aH13 := (upd_ne (o := .dK D1) A1.TH.symm).trans aH12
      have to13 := (upd_ne (o := .dK D1) nTL.symm).trans to12
      have l13 := (upd_ne (o := .dK D1) (ne_of l12 aT12 fun z => nomatch z)).trans l12
      have q13 := (upd_ne (o := .dK D1) (ne_of q12 aT12 fun z => nomatch z)).trans q12
      have fp13 := (upd_ne (o := .dK D1) (ne_of fp12 aT12 fun z => nomatch z)).trans fp12
      generalize upd H12 L.aT (.dK D1) = H13 at F13 aT13 aH13 to13 l13 q13 fp13 ⊢
      refine ⟨_, rfl, _, rfl, fp, _, 1, _, rfl, rfl, SqT.of fp13, atI_nat (j := 1) rfl, L.aH, _, rfl, DPut.k (k := Sum.inl L.S.g) aH13 (by rw [dict_len, hlen2, sizeLine_eq]; omega), ?_⟩
      rw [putK_snoc_v (F := fun e => V.int e.hd) (e := newS L.S bs kt tg ab) noh rfl (v := V.int 1) rfl]
      generalize hd2 : dict (fun e => V.int e.hd) (hov (bs.map En.n) L.S.g L.S.es ++ [newS L.S bs kt tg ab]) = D2
      have F14 : Fr N H8 (upd H13 L.aH (.dK D2)) := F13.put (.inr (.inr (.inr rfl))) aH13 True.intro
      have aH14 : (upd H13 L.aH (.dK D2)) L.aH = some (.dK D2) := upd_same
      have aT14 := (upd_ne (o := .dK D2) A1.TH).trans aT13
      have to14 := (upd_ne (o := .dK D2) nHL.symm).trans to13
      have l14 := (upd_ne (o := .dK D2) (ne_of l13 aH13 fun z => nomatch z)).trans l13
      have q14 := (upd_ne (o := .dK D2) (ne_of q13 aH13 fun z => nomatch z)).trans q13
      generalize upd H13 L.aH (.dK D2) = H14 at F14 aH14 aT14 to14 l14 q14 ⊢
      subst hd1 hd2
      -- what is known
      have F614 : FrN (fun b => (L.S.M5 b ∨ L.S.Mh b) ∨ N b) H6 H14 := (F8.mono fun b o _ z => .inl z).trans (F14.n.mono fun b o _ z => .inr z)
      have SM : ∀ {b : Addr} {o : HO}, ¬ L.S.M b → H6 b = some o → (∀ ps, o ≠ .tbl ps) → ¬ ({ L.S with g := L.S.g + 1, es := hov (bs.map En.n) L.S.g L.S.es ++ [newS L.S bs kt tg ab] } : Sh).M b := fun {b o} h e ho z => by
        rcases z with z | z | z | z | z | z | ⟨x, hx, z⟩
        · exact h (.inl z)
        · exact h (.inr (.inl z))
        · exact h (.inr (.inr (.inl z)))
        · exact h (.inr (.inr (.inr (.inl z))))
        · exact h (.inr (.inr (.inr (.inr (.inl z)))))
        · exact h (.inr (.inr (.inr (.inr (.inr (.inl z))))))
        · rcases List.mem_append.mp hx with y | y
          · rw [hov_eq] at y
            obtain ⟨x', hx', rfl⟩ := List.mem_map.mp y
            refine h (.inr (.inr (.inr (.inr (.inr (.inr ⟨x', hx', ?_⟩))))))
            rw [z]
            unfold hovE
            split <;> rfl
          · rw [List.mem_singleton.mp y] at z
            exact hab b o e ho z
      have NM : ∀ {b : Addr}, ¬ L.S.M b → ¬ N b → ¬ ((L.S.M5 b ∨ L.S.Mh b) ∨ N b) := fun h1 h2 z => z.elim (nM h1) h2
      have nN : ∀ {b : Addr} {xs : List V}, H6 b = some (.lst xs) → b ≠ lh → b ≠ L.aL → ¬ N b := fun {b xs} e h1 h2 z => by
        rcases z with z | z | z | z
        · exact h1 z
        · exact h2 z
        · exact ne_of e A6.tw (fun z => nomatch z) z
        · exact ne_of e A6.hl (fun z => nomatch z) z
      have lhn : ∀ {b : Addr}, (∃ o, H b = some o) → b ≠ lh := fun {b} ⟨o, e⟩ => ne_of_none e hlh0
      obtain ⟨gx6, hg6, hdg6⟩ := A6.gr
      have thereM : ∀ {b : Addr}, L.M b → b ≠ lh := fun h => lhn (A1.there h)
      have memI : ∀ {e : En}, e ∈ L.S.es → hovE (bs.map En.n) L.S.g e ∈ hov (bs.map En.n) L.S.g L.S.es ++ [newS L.S bs kt tg ab] := fun {e} he => List.mem_append_left _ (List.mem_map.mpr ⟨e, he, rfl⟩)
      have mem : ∀ {P : En → Prop}, (∀ e ∈ L.S.es, P (hovE (bs.map En.n) L.S.g e)) → P (newS L.S bs kt tg ab) → ∀ e ∈ hov (bs.map En.n) L.S.g L.S.es ++ [newS L.S bs kt tg ab], P e := fun {P} h1 h2 e he => by
        rcases List.mem_append.mp he with q | q
        · rw [hov_eq] at q
          obtain ⟨x, hx, rfl⟩ := List.mem_map.mp q
          exact h1 x hx
        · rw [List.mem_singleton.mp q]; exact h2
      have nt : ∀ {xs : List V}, ∀ ps, HO.lst xs ≠ .tbl ps := fun ps z => nomatch z
      have AF : LawAt K (L.add { L.S with g := L.S.g + 1, es := hov (bs.map En.n) L.S.g L.S.es ++ [newS L.S bs kt tg ab] } q l) H14 := by
        refine ⟨A8.of_fr F14 fun b z y => ?_, aT14, aH14, mem (fun e he => ?_) ?_, mem (fun e he => ?_) ?_, ⟨gx6, F614.lst (NM A1.nG (nN hg6 (thereM (.inr (.inr (.inr (.inl rfl))))) A1.GL)) hg6, hdg6.frn F614⟩, to14, SM A1.nT A6.tw (fun ps z => nomatch z), SM A1.nH A6.hl (fun ps z => nomatch z), SM A1.nG hg6 nt, SM A1.nL A6.to nt, mem (fun e he => ?_) ?_, A1.TH, A1.GL, mem (fun e he => ?_) ?_⟩
        · rcases y with y | y | y | y
          · exact SM lhS h6 nt (by rw [← y]; exact z)
          · exact SM A1.nL A6.to nt (by rw [← y]; exact z)
          · exact SM A1.nT A6.tw (fun ps z => nomatch z) (by rw [← y]; exact z)
          · exact SM A1.nH A6.hl (fun ps z => nomatch z) (by rw [← y]; exact z)
        · show H14 (if (hovE _ _ e).n = L.S.g then q else L.lt (hovE _ _ e).n) = some (.tup [.str (hovE _ _ e).tw.kind, .ref (if (hovE _ _ e).n = L.S.g then l else L.ll (hovE _ _ e).n)])
          rw [hovE_n, hovE_tw, if_neg (no e he), if_neg (no e he)]
          exact F614.tup (A6.tp e he)
        · show H14 (if L.S.g = L.S.g then q else _) = some (.tup [.str "stem", .ref (if L.S.g = L.S.g then l else _)])
          rw [if_pos rfl, if_pos rfl]
          exact q14
        · obtain ⟨xs, e1, e2⟩ := A6.li e he
          show ∃ xs, H14 (if (hovE _ _ e).n = L.S.g then l else L.ll (hovE _ _ e).n) = some (.lst xs) ∧ DaL H14 xs (hovE _ _ e).tw.items
          rw [hovE_n, hovE_tw, if_neg (no e he)]
          exact ⟨xs, F614.lst (NM (A1.nl e he) (nN e1 (thereM (.inr (.inr (.inr (.inr (.inr ⟨e, he, rfl⟩)))))) (A1.lL e he))) e1, e2.frn F614⟩
        · show ∃ xs, H14 (if L.S.g = L.S.g then l else _) = some (.lst xs) ∧ DaL H14 xs ((bs.map En.n).map PyData.int)
          rw [if_pos rfl]
          exact ⟨_, l14, DaL.ints _⟩
        · obtain ⟨xs, e1, e2⟩ := A6.li e he
          show ¬ Sh.M _ (if (hovE _ _ e).n = L.S.g then l else L.ll (hovE _ _ e).n)
          rw [hovE_n, if_neg (no e he)]
          exact SM (A1.nl e he) e1 nt
        · show ¬ Sh.M _ (if L.S.g = L.S.g then l else _)
          rw [if_pos rfl]
          exact SM lS l6 nt
        · show (if (hovE _ _ e).n = L.S.g then l else L.ll (hovE _ _ e).n) ≠ L.aL
          rw [hovE_n, if_neg (no e he)]
          exact A1.lL e he
        · show (if L.S.g = L.S.g then l else _) ≠ L.aL
          rw [if_pos rfl]
          exact lL
      have g0 := O.g0
      have unh : ∀ b ∈ bs, b.hd ≠ 0 := fun b hb z => by
        have q := List.find?_eq_none.mp hf b.n (List.mem_map.mpr ⟨b, hb, rfl⟩)
        rw [unB_of inc (hbs b hb)] at q
        exact q (decide_eq_true z)
      obtain ⟨b0, bs0, ebs⟩ : ∃ b0 bs0, bs = b0 :: bs0 := by
        have := ok.two
        rw [List.length_map] at this
        cases bs with
        | nil => simp at this
        | cons b0 bs0 => exact ⟨b0, bs0, rfl⟩
      have ksn : (newS L.S bs kt tg ab).lab.lo ∈ L.gd ∧ (newS L.S bs kt tg ab).lab.hi ∈ L.gd := by
        subst ebs
        refine ⟨(O.ks b0 (hbs b0 List.mem_cons_self)).1, ?_⟩
        show (lastR b0.lab (bs0.map En.lab)).hi ∈ L.gd
        rw [lastR_map En.lab]
        exact (O.ks _ (hbs _ (lastR_mem b0 bs0))).2
      have OF : LawOk (L.add { L.S with g := L.S.g + 1, es := hov (bs.map En.n) L.S.g L.S.es ++ [newS L.S bs kt tg ab] } q l) (c + 1) := by
        refine ⟨good_stem O.gd g0 inc hbs ok unh, by omega, O.ri, O.gk, O.g64, mem (fun e he => by rw [hovE_lab]; exact O.ks e he) ksn, fun x hx => ?_, mem (fun e he => by rw [hovE_n]; exact List.mem_append_left _ (O.mem e he)) (List.mem_append_right _ List.mem_cons_self), O.sn, by show 0 ≤ L.S.g + 1; omega⟩
        rcases List.mem_append.mp hx with y | y
        · have := O.tl x y
          show x < L.S.g + 1
          omega
        · rw [List.mem_singleton.mp y]
          show L.S.g < L.S.g + 1
          omega
      have wlN : ¬ N wl := fun z => by
        rcases z with z | z | z | z
        · exact wlne hlh0 z.symm
        · exact hwl (.inr (.inr (.inr (.inr (.inl z)))))
        · exact hwl (.inr (.inl z))
        · exact hwl (.inr (.inr (.inl z)))
      refine k H14 _ AF OF ⟨rfl, rfl, rfl, rfl, rfl⟩ (by show _ ≤ (_ ++ [_]).length; rw [List.length_append, hlen2]; omega) (by show (_ ++ [_]).length ≤ _; rw [List.length_append, hlen2]; exact Nat.le_refl _) (by show (L.tl ++ [_]).length ≤ _; rw [List.length_append]; exact Nat.le_refl _) ?_ ?_ ?_ (Tabs.fr F14 T8)
      · exact W6.frn F614 (NM (fun z => hwl (.inl z)) wlN)
      · intro x u hxu hun hxM
        obtain ⟨o, hwx, hon⟩ : ∃ o, H6 x = some o ∧ ∀ ps, o ≠ .tbl ps := by
          by_cases z : x = wl
          · obtain ⟨xs, e⟩ := W6.sq (K := K)
            exact ⟨_, by rw [z]; exact e, nt⟩
          · exact ⟨u, F6.at z hxu, hun⟩
        rintro (z | z | z | z | z | ⟨e, he, z⟩)
        · exact SM (fun y => hxM (.inl y)) hwx hon z
        · exact hxM (.inr (.inl z))
        · exact hxM (.inr (.inr (.inl z)))
        · exact hxM (.inr (.inr (.inr (.inl z))))
        · exact hxM (.inr (.inr (.inr (.inr (.inl z)))))
        · have key : ∀ e ∈ hov (bs.map En.n) L.S.g L.S.es ++ [newS L.S bs kt tg ab], x ≠ (if e.n = L.S.g then l else L.ll e.n) := mem (fun e he => by
              rw [hovE_n, if_neg (no e he)]
              exact fun z => hxM (.inr (.inr (.inr (.inr (.inr ⟨e, he, z⟩)))))) (by
              show x ≠ (if L.S.g = L.S.g then l else _)
              rw [if_pos rfl]
              exact ne_of_none hxu hl)
          exact key e he z
      · refine (F6.n.mono fun b o _ z => .inr z).and F614 fun b o hb z => ?_
        rcases z with (z | z) | z | z | z | z
        · exact .inl (.inl (Sh.M5_M z))
        · exact .inl (.inl (Sh.Mh_M z))
        · rw [z, hlh0] at hb
          cases hb
        · exact .inl (.inr (.inr (.inr (.inr (.inl z)))))
        · exact .inl (.inr (.inl z))
        · exact .inl (.inr (.inr (.inl z)))
end
end Tw

namespace Tw
open PySem PySem.Spec PyProof.Rows L2 He
theorem FrN.and2 {M N : Addr → Prop} {H H1 H2 : Hp} (a : FrN M H H1) (b : FrN N H1 H2) (k : ∀ c o, H c = some o → (∀ ps, o ≠ .tbl ps) → N c → M c) : FrN M H H2 := fun c o h n => by
  rcases a c o h n with h1 | h1
  · exact (b c o h1 n).imp id fun z => ⟨k c o h n z.1, z.2⟩
  · exact .inr h1
section
variable {P : Program} {w : World} {K : PySem.W.Frag} {mg : Str → Option Value} {base : Heap}
/-! ### calls about a number that no twig has -/
def spCall (K : PySem.W.Frag) : Sp := fun vs H Q E => ∃ (S : Sh) (c : Nat) (way one : Int) (wr bad : Addr) (ns : List Int) (xs : List V) (rs : List Row), vs = [.ref S.p, .int way, .int one, .ref wr, .ref bad] ∧ ShelfAt K S H ∧ Good S.es S.g c ∧ S.es.length < 50 ∧ S.seen.length < 100 ∧ (∀ e ∈ S.es, e.n ≠ one) ∧ 0 ≤ way ∧ way ≤ 10 ∧
  H wr = some (.lst (ns.map V.int)) ∧ (∀ n ∈ ns, Has S.es n) ∧ ns.length ≤ 30 ∧ H bad = some (.lst xs) ∧ DaL H xs (rs.map rowD) ∧ (∀ r ∈ rs, smD r.1 = true ∧ smD r.2 = true) ∧ rs.length ≤ 100 ∧ ¬ ((∀ r ∈ rs, okK r) ∧ 1 ≤ rs.length ∧ rs.length ≤ 4 ∧ Ris rs) ∧ errN K "NoTwig" one H E
theorem sc_call : FnScope ["_law_shelf", "_law_way", "_law_one", "_law_wrong_here", "_law_bad"] ["_law_shelf", "_law_way", "_law_one", "_law_wrong_here", "_law_bad"] d_l_call.scope := ⟨rfl, rfl, rfl, by decide +kernel, rfl, by decide +kernel, by decide +kernel⟩
theorem find_app {ns : List Int} {es : List En} {one : Int} {r : List Int} (h : ∀ n ∈ ns, Has es n) (no : ∀ e ∈ es, e.n ≠ one) : (ns ++ one :: r).find? (fun n => !hasB es n) = some one := by
  have h0 : hasB es one = false := by
    cases q : hasB es one with
    | false => rfl
    | true => obtain ⟨e, he, ee⟩ := hasB_iff.mp q; exact absurd ee (no e he)
  rw [List.find?_append]
  have h1 : ns.find? (fun n => !hasB es n) = none := by
    rw [List.find?_eq_none]
    intro n hn
    rw [hasB_iff.mpr (h n hn)]
    simp
  rw [h1, List.find?_cons, h0]
  rfl
theorem ok_call (T : Tx K mg) : Okd P w K mg base (L2.CX P w) 10 d_l_call ["_law_shelf", "_law_way", "_law_one", "_law_wrong_here", "_law_bad"] (spCall K) := by
  refine okdX T in_l_call sc_call (fun _ _ _ _ _ _ us hl => match us, hl with | [_, _, _, _, _], _ => rfl) (fun vs H Q E h => ?_) (fun cdv A outer s H vs Q E hr h => ?_)
  · obtain ⟨S, c, way, one, wr, bad, ns, xs, rs, rfl, _⟩ := h
    rfl
  · obtain ⟨S, c, way, one, wr, bad, ns, xs, rs, rfl, A1, G, h50, h100, no, w0, w10, hwr, hns, hn30, hbad, hda, hsm, hrl, hnot, kE⟩ := h
    refine ⟨_, pss_cons (ps_if (pt_cmpR op_eq (pv 1) pe_int (nomark _)) (pss_one (ps_ret (pml (ok_hold T) hr passD (pv 0) T.cl T.me_hold (pa_cons (pv 2) pa_nil)))) pss_nil)
      (pss_cons (ps_if (pt_cmpR op_eq (pv 1) pe_int (nomark _)) (pss_one (ps_ret (pml (ok_lg T) hr passD (pv 0) T.cl T.me_let_go (pa_cons (pv 2) pa_nil)))) pss_nil)
      (pss_cons (ps_if (pt_cmpR op_eq (pv 1) pe_int (nomark _)) (pss_one (ps_ret (pml (ok_hol T) hr passD (pv 0) T.cl T.me_holders (pa_cons (pv 2) pa_nil)))) pss_nil)
      (pss_cons (ps_if (pt_cmpR op_eq (pv 1) pe_int (nomark _)) (pss_one (ps_ret (pml (ok_out T) hr passD (pv 0) T.cl T.me_outside (pa_cons (pv 2) pa_nil)))) pss_nil)
      (pss_cons (ps_if (pt_cmpR op_eq (pv 1) pe_int (nomark _)) (pss_one (ps_ret (pml (ok_alo T) hr passD (pv 0) T.cl T.me_alone (pa_cons (pv 2) pa_nil)))) pss_nil)
      (pss_cons (ps_if (pt_cmpR op_eq (pv 1) pe_int (nomark _)) (pss_one (ps_ret (pml (ok_lab T) hr passD (pv 0) T.cl T.me_label (pa_cons (pv 2) pa_nil)))) pss_nil)
      (pss_cons (ps_if (pt_cmpR op_eq (pv 1) pe_int (nomark _)) (pss_one (ps_ret (pml (ok_look T) hr passD (pv 0) T.cl T.me_look (pa_cons (pv 2) pa_nil)))) pss_nil)
      (pss_cons (ps_if (pt_cmpR op_eq (pv 1) pe_int (nomark _)) (pss_one (ps_ret (pml (ok_cl T) hr passD (pv 0) T.cl T.me_change_leaf (pa_cons (pv 2) (pa_cons (pv 4) pa_nil))))) pss_nil)
      (pss_cons (ps_if (pt_cmpR op_eq (pv 1) pe_int (nomark _)) (pss_one (ps_ret (pml (ok_cs T) hr passD (pv 0) T.cl T.me_change_stem (pa_cons (pv 2) (pa_cons (pe_lst pa_nil) pa_nil))))) pss_nil)
      (pss_cons (ps_if (pt_cmpR op_eq (pv 1) pe_int (nomark _)) (pss_one (ps_ret (pml (ok_ps T) hr passD (pv 0) T.cl T.me_put_stem (pa_cons (pe_op op_cat (pv 3) (pe_lst (pa_cons (pv 2) pa_nil))) pa_nil)))) pss_nil)
      (pss_one (ps_ret (pml (ok_ps T) hr passD (pv 0) T.cl T.me_put_stem (pa_cons (pe_op op_cat (pe_op op_cat (pe_lst (pa_cons (pv 2) pa_nil)) (pv 3)) (pe_lst (pa_cons (pe_op op_add (pv 2) pe_int) pa_nil))) pa_nil))))))))))))), ?_⟩
    have eqt : ∀ {k : Int}, way = k → decide (V.int way = V.int k) = true := fun h => decide_eq_true (by rw [h])
    have eqf : ∀ {k : Int}, way ≠ k → decide (V.int way = V.int k) = false := fun h => decide_eq_false fun q => h (V.int.inj q)
    have ab : ∀ {e : En} {R : Prop}, e ∈ S.es → e.n = one → R := fun he q => absurd q (no _ he)
    refine ⟨_, rfl, rfl, _, rfl, ?_⟩
    by_cases z0 : way = 0
    · rw [eqt z0]
      exact iteT ⟨_, rfl, S.p, _, _, rfl, A1.ob, rfl, _, rfl, S, one, rfl, A1, no, kE⟩
    rw [eqf z0]
    refine iteF ⟨_, rfl, rfl, _, rfl, ?_⟩
    by_cases z1 : way = 1
    · rw [eqt z1]
      exact iteT ⟨_, rfl, S.p, _, _, rfl, A1.ob, rfl, _, rfl, S, one, rfl, A1, fun _ => kE, fun e he q => ab he q, fun e he q => ab he q⟩
    rw [eqf z1]
    refine iteF ⟨_, rfl, rfl, _, rfl, ?_⟩
    by_cases z2 : way = 2
    · rw [eqt z2]
      exact iteT ⟨_, rfl, S.p, _, _, rfl, A1.ob, rfl, _, rfl, S, one, rfl, A1, fun e he q => ab he q, fun _ => kE⟩
    rw [eqf z2]
    refine iteF ⟨_, rfl, rfl, _, rfl, ?_⟩
    by_cases z3 : way = 3
    · rw [eqt z3]
      exact iteT ⟨_, rfl, S.p, _, _, rfl, A1.ob, rfl, _, rfl, S, one, rfl, A1, fun e he q => ab he q, fun _ => kE⟩
    rw [eqf z3]
    refine iteF ⟨_, rfl, rfl, _, rfl, ?_⟩
    by_cases z4 : way = 4
    · rw [eqt z4]
      exact iteT ⟨_, rfl, S.p, _, _, rfl, A1.ob, rfl, _, rfl, S, one, c, rfl, A1, G, fun ⟨e, he, q⟩ => ab he q, fun _ => kE⟩
    rw [eqf z4]
    refine iteF ⟨_, rfl, rfl, _, rfl, ?_⟩
    by_cases z5 : way = 5
    · rw [eqt z5]
      exact iteT ⟨_, rfl, S.p, _, _, rfl, A1.ob, rfl, _, rfl, S, one, rfl, A1, fun e he q => ab he q, fun _ => kE⟩
    rw [eqf z5]
    refine iteF ⟨_, rfl, rfl, _, rfl, ?_⟩
    by_cases z6 : way = 6
    · rw [eqt z6]
      exact iteT ⟨_, rfl, S.p, _, _, rfl, A1.ob, rfl, _, rfl, S, one, rfl, A1, h100, fun e he q => ab he q, fun _ => kE⟩
    rw [eqf z6]
    refine iteF ⟨_, rfl, rfl, _, rfl, ?_⟩
    by_cases z7 : way = 7
    · rw [eqt z7]
      exact iteT ⟨_, rfl, S.p, _, _, rfl, A1.ob, rfl, _, rfl, _, rfl, S, c, one, bad, xs, rs, rfl, A1, G, SqL.of hbad, hda, hsm, hrl, hnot, fun _ => kE, fun e he q => ab he q⟩
    rw [eqf z7]
    refine iteF ⟨_, rfl, rfl, _, rfl, ?_⟩
    by_cases z8 : way = 8
    · rw [eqt z8]
      refine iteT ⟨_, rfl, S.p, _, _, rfl, A1.ob, rfl, _, rfl, Nat.zero_le _, fun q hq => ?_⟩
      have s1 : Same H (upd H q (.lst [])) := same_upd hq
      exact ⟨S, c, one, q, [], rfl, A1.same s1, G, SqL.of upd_same, Nat.zero_le _, fun _ => by decide, fun _ H' d s' hd => kE H' d (s1.trans s') hd, fun e he q => ab he q⟩
    rw [eqf z8]
    refine iteF ⟨_, rfl, rfl, _, rfl, ?_⟩
    by_cases z9 : way = 9
    · rw [eqt z9]
      refine iteT ⟨_, rfl, S.p, _, _, rfl, A1.ob, rfl, _, rfl, _, rfl, small100 (by simp), fun q hq => ?_⟩
      have s1 : Same H (upd H q (.lst [.int one])) := same_upd hq
      refine ⟨wr, q, _, _, rfl, rfl, s1 _ _ hwr, upd_same, by rw [List.length_map, sizeLine_eq]; show ns.length + 1 ≤ _; omega, fun p hp => ?_⟩
      have s2 : Same H (upd (upd H q (.lst [.int one])) p (.lst (ns.map V.int ++ [.int one]))) := s1.trans (same_upd hp)
      have fa := find_app (r := []) hns no
      refine ⟨S, c, p, ns ++ [one], rfl, A1.same s2, G, SqL.of (by rw [upd_same, List.map_append]; rfl), by rw [List.length_append]; show ns.length + 1 ≤ _; omega, h50, fun m hm H' d s' hd => ?_, fun bs eb hbs => ?_⟩
      · rw [fa] at hm
        cases hm
        exact kE H' d (s2.trans s') hd
      · exact absurd (ents_find eb hbs) (by rw [fa]; exact fun z => nomatch z)
    rw [eqf z9]
    refine iteF ⟨_, rfl, S.p, _, _, rfl, A1.ob, rfl, _, rfl, small100 (by simp), fun q hq => ?_⟩
    have s1 : Same H (upd H q (.lst [.int one])) := same_upd hq
    refine ⟨_, rfl, q, wr, _, _, rfl, rfl, upd_same, s1 _ _ hwr, by rw [List.length_map, sizeLine_eq]; show 1 + ns.length ≤ _; omega, fun p hp => ?_⟩
    have s2 : Same H (upd (upd H q (.lst [.int one])) p (.lst ([.int one] ++ ns.map V.int))) := s1.trans (same_upd hp)
    have p2 : (upd (upd H q (.lst [.int one])) p (.lst ([.int one] ++ ns.map V.int))) p = some (.lst ([.int one] ++ ns.map V.int)) := upd_same
    generalize upd (upd H q (.lst [.int one])) p (.lst ([.int one] ++ ns.map V.int)) = H2 at s2 p2 ⊢
    refine ⟨_, rfl, _, _, rfl, rfl, small100 (by simp), fun r hr2 => ?_⟩
    have s3 : Same H2 (upd H2 r (.lst [.int (one + 1)])) := same_upd hr2
    refine ⟨p, r, _, _, rfl, rfl, s3 _ _ p2, upd_same, by rw [List.length_append, List.length_map, sizeLine_eq]; show 1 + ns.length + 1 ≤ _; omega, fun t ht => ?_⟩
    have s4 : Same H (upd (upd H2 r (.lst [.int (one + 1)])) t (.lst (([.int one] ++ ns.map V.int) ++ [.int (one + 1)]))) := s2.trans (s3.trans (same_upd ht))
    have fa := find_app (ns := []) (r := ns ++ [one + 1]) (fun n hn => nomatch hn) no
    refine ⟨S, c, t, one :: (ns ++ [one + 1]), rfl, A1.same s4, G, SqL.of (by rw [upd_same]; show some (HO.lst _) = some (HO.lst _); simp), by rw [List.length_cons, List.length_append]; show ns.length + 1 + 1 ≤ _; omega, h50, fun m hm H' d s' hd => ?_, fun bs eb hbs => ?_⟩
    · have fa2 : (one :: (ns ++ [one + 1])).find? (fun n => !hasB S.es n) = some one := fa
      rw [fa2] at hm
      cases hm
      exact kE H' d (s4.trans s') hd
    · have fa2 : (one :: (ns ++ [one + 1])).find? (fun n => !hasB S.es n) = some one := fa
      exact absurd (ents_find eb hbs) (by rw [fa2]; exact fun z => nomatch z)
end
end Tw

namespace Tw
open PySem PySem.Spec PyProof.Rows L2 He
section
variable {P : Program} {w : World} {K : PySem.W.Frag} {mg : Str → Option Value} {base : Heap}
/-- nothing of H is the law's -/
def FreshL (L : LS) (H : Hp) : Prop := ∀ x u, H x = some u → (∀ ps, u ≠ .tbl ps) → ¬ L.M x
theorem frn_new {L : LS} {H H1 H2 : Hp} {wl : Addr} (F : FrN (fun b => b = wl) H H1) (Z : FreshL L H) (k : FrN (fun b => L.M b ∨ b = wl) H1 H2) : FrN (fun b => b = wl) H H2 :=
  F.and2 k fun c o e n z => z.resolve_left (Z c o e n)
theorem fresh_step {L L' : LS} {H H1 : Hp} {wl : Addr} (F : FrN (fun b => b = wl) H H1) (W : WellAt wl H1) (Z : FreshL L H) (k : ∀ x u, H1 x = some u → (∀ ps, u ≠ .tbl ps) → ¬ L.M x → ¬ L'.M x) : FreshL L' H := fun x u e n => by
  by_cases z : x = wl
  · obtain ⟨a, b, c, d, q, _⟩ := W
    exact k x (.lst [.int a, .int b, .int c, .int d]) (by rw [z]; exact q) (fun ps z => nomatch z) (Z x u e n)
  · exact k x u (F.at z e n) n (Z x u e n)
def spBeg (K : PySem.W.Frag) : Sp := fun vs H Q _ => ∃ (wl : Addr), vs = [.ref wl, .int 12, .int 8] ∧ WellAt wl H ∧ LamX.Tabs (T0 K) H ∧
  ∀ H' st L, StAt L st H' → LawAt K L H' → LawOk L 8 → 1 ≤ L.S.es.length → L.S.es.length ≤ 20 → L.tl.length ≤ 20 → FreshL L H → FrN (fun b => b = wl) H H' → LamX.Tabs (T0 K) H' → Q (.ref st) H'
theorem sc_beg : FnScope ["_law_well_here", "_law_leaves", "_law_stems", "_law_state", "_law_j"] ["_law_well_here", "_law_leaves", "_law_stems"] d_l_begun.scope := ⟨rfl, rfl, rfl, by decide +kernel, rfl, by decide +kernel, by decide +kernel⟩
theorem ok_beg (T : Tx K mg) (B : ∀ x ∈ tfL, LamX.TabB base mg (cT K x).1 (cT K x).2) : Okd P w K mg base CX0 11 d_l_begun ["_law_well_here", "_law_leaves", "_law_stems"] (spBeg K) := by
  refine okd0 T in_l_begun sc_beg (fun _ _ _ _ _ _ us hl => match us, hl with | [_, _, _], _ => rfl) (fun vs H Q E h => ?_) (fun cdv A outer s H vs Q E hr h => ?_)
  · obtain ⟨wl, rfl, _⟩ := h
    rfl
  · obtain ⟨wl, rfl, W, hT, k⟩ := h
    obtain ⟨fdI, FI, bI⟩ := (ok_init (P := P) (w := w) (base := base) T).ex
    refine ⟨_, pss_cons (ps_set (i := 3) sc_beg.nd rfl (Or.inl rfl) (pe_tup (pa_cons (pe_make0 T.mkS FI (hr.mono (by decide)) (by rfl) (T.g "Shelf") bI .nil pass0) (pa_cons pe_dnewK (pa_cons pe_dnewK (pa_cons (pcl (ok_grid T) hr pass0 (pa_cons (pv 0) pa_nil) (T.g "_law_grid")) (pa_cons (pe_lst pa_nil) pa_nil)))))))
      (pss_cons (ps_for PassesOwn.never rfl (pi_range1 (by rfl) (T.f "range") (pa_cons (pv 1) pa_nil)) (pg_name (i := 4) sc_beg.nd rfl (Or.inl rfl)) (pss_one (ps_if (pt_not (pt_val (pcl (ok_pl2 T) hr pass0 (pa_cons (pv 0) (pa_cons (pv 3) (pa_cons (pv 4) pa_nil))) (T.g "_law_put_leaf")))) (pss_one (ps_ret pe_non)) pss_nil)))
      (pss_cons (ps_for PassesOwn.never rfl (pi_range1 (by rfl) (T.f "range") (pa_cons (pv 2) pa_nil)) (pg_name (i := 4) sc_beg.nd rfl (Or.inl rfl)) (pss_one (ps_if (pt_not (pt_val (pcl (ok_ps2 T B) hr pass0 (pa_cons (pv 0) (pa_cons (pv 3) pa_nil)) (T.g "_law_put_stem")))) (pss_one (ps_ret pe_non)) pss_nil)))
      (pss_one (ps_ret (pv 3))))), ?_⟩
    intro p dx hp hdx hpd
    have s1 : Same H (upd (upd H dx (.own p)) p (.ins (ga K "Shelf") dx [])) := fun b o e => by rw [upd_ne (ne_of_none e hp), upd_ne (ne_of_none e hdx)]; exact e
    refine ⟨p, dx, rfl, upd_same, fun H1 sk stt sa sf sn A1 F1 hM => ⟨rfl, fun aT haT aH haH => ?_⟩⟩
    have hM0 : ∀ b, (Sh.new p dx sk stt sa sf sn).M b → H b = none := fun b hb => by
      rcases hM b hb with z | z
      · rw [z]; exact hp
      · exact (Fr.of (M := M0) s1).free (fun z => z) z
    have F01 : Fr (fun b => b = p) H H1 := (Fr.of s1).trans F1
    have F01' : Fr M0 H H1 := fun b o e => .inl ((F01 b o e).resolve_right fun z => by rw [z.1, hp] at e; cases e)
    have s12 : Same H1 (upd H1 aT (.dK [])) := same_upd haT
    have s23 : Same (upd H1 aT (.dK [])) (upd (upd H1 aT (.dK [])) aH (.dK [])) := same_upd haH
    have aT0 : H aT = none := F01'.free (fun z => z) haT
    have aH0 : H aH = none := (F01'.trans (Fr.of s12)).free (fun z => z) haH
    have eT2 := s23 _ _ (show (upd H1 aT (.dK [])) aT = some (.dK []) from upd_same)
    have eH2 : (upd (upd H1 aT (.dK [])) aH (.dK [])) aH = some (.dK []) := upd_same
    have TH : aT ≠ aH := ne_of_none (o := .dK []) upd_same haH
    have s13 := s12.trans s23
    have F02 : Fr M0 H (upd (upd H1 aT (.dK [])) aH (.dK [])) := F01'.trans (Fr.of s13)
    have A2 := A1.same s13
    have nT2 : ¬ (Sh.new p dx sk stt sa sf sn).M aT := fun z => by
      have := hM aT z
      rcases z with z | z | z | z | z | z | ⟨e, he, _⟩
      · exact ne_of_none A1.ob haT z.symm
      · exact ne_of_none A1.ke haT z.symm
      · exact ne_of_none A1.ta haT z.symm
      · exact ne_of_none A1.av haT z.symm
      · exact ne_of_none A1.fr haT z.symm
      · exact ne_of_none A1.se haT z.symm
      · cases he
    have nn : ∀ {b : Addr} {Hx : Hp}, ShelfAt K (Sh.new p dx sk stt sa sf sn) Hx → Hx b = none → ¬ (Sh.new p dx sk stt sa sf sn).M b := fun {b Hx} AA hb z => by
      rcases z with z | z | z | z | z | z | ⟨e, he, _⟩
      · exact ne_of_none AA.ob hb z.symm
      · exact ne_of_none AA.ke hb z.symm
      · exact ne_of_none AA.ta hb z.symm
      · exact ne_of_none AA.av hb z.symm
      · exact ne_of_none AA.fr hb z.symm
      · exact ne_of_none AA.se hb z.symm
      · cases he
    have nH2 : ¬ (Sh.new p dx sk stt sa sf sn).M aH := nn (A1.same s12) haH
    generalize upd (upd H1 aT (.dK [])) aH (.dK []) = H2 at s13 F02 A2 eT2 eH2 ⊢
    have W2 : WellAt wl H2 := W.fr F02 (fun z => z)
    have wl0 : ∃ xs, H wl = some (.lst xs) := W.sq (K := K)
    obtain ⟨wx, hwx⟩ := wl0
    have wne : ∀ {b : Addr}, H b = none → b ≠ wl := fun hb => (ne_of_none hwx hb).symm
    have wM : ∀ {b : Addr}, (Sh.new p dx sk stt sa sf sn).M b → ¬ b = wl := fun hb => wne (hM0 _ hb)
    refine ⟨_, rfl, wl, rfl, W2, fun H3 aG gx gd haG hG3 hdg h64 hri hok W3 F3 => ⟨Nat.zero_le _, fun aL haL => ⟨small100 (by simp), fun st hst => ?_⟩⟩⟩
    have aG0 : H aG = none := F02.free (fun z => z) haG
    have A3 := A2.of_fr F3 fun b hb z => wM hb z
    have eT3 := F3.at (wne aT0) eT2
    have eH3 := F3.at (wne aH0) eH2
    have F03 : Fr (fun b => b = wl) H H3 := (F02.mono fun _ _ _ z => nomatch z).trans F3
    have aL0 : H aL = none := F03.free (fun z => by
      obtain ⟨_, e⟩ := W3.sq (K := K)
      rw [z, e] at haL
      cases haL) haL
    have s34 : Same H3 (upd H3 aL (.lst [])) := same_upd haL
    have s45 : Same (upd H3 aL (.lst [])) (upd (upd H3 aL (.lst [])) st (.tup [.ref p, .ref aT, .ref aH, .ref aG, .ref aL])) := same_upd hst
    have eL5 := s45 _ _ (show (upd H3 aL (.lst [])) aL = some (.lst []) from upd_same)
    have eS5 : (upd (upd H3 aL (.lst [])) st (.tup [.ref p, .ref aT, .ref aH, .ref aG, .ref aL])) st = some (.tup [.ref p, .ref aT, .ref aH, .ref aG, .ref aL]) := upd_same
    have s35 := s34.trans s45
    have nL3 : ¬ (Sh.new p dx sk stt sa sf sn).M aL := nn A3 haL
    have nG2 : ¬ (Sh.new p dx sk stt sa sf sn).M aG := nn A2 haG
    have GL : aG ≠ aL := ne_of_none hG3 haL
    generalize upd (upd H3 aL (.lst [])) st (.tup [.ref p, .ref aT, .ref aH, .ref aG, .ref aL]) = H5 at s35 eL5 eS5 ⊢
    have F05 : FrN (fun b => b = wl) H H5 := (F03.trans (Fr.of s35)).n
    let L0 : LS := ⟨Sh.new p dx sk stt sa sf sn, aT, aH, aG, aL, [], gd, fun _ => 0, fun _ => 0⟩
    have AL0 : LawAt K L0 H5 := ⟨A3.same s35, s35 _ _ eT3, s35 _ _ eH3, (fun e he => nomatch he), (fun e he => nomatch he), ⟨gx, s35 _ _ hG3, hdg.same s35⟩, eL5, nT2, nH2, nG2, nL3, (fun e he => nomatch he), TH, GL, (fun e he => nomatch he)⟩
    have OL0 : LawOk L0 0 := ⟨⟨(fun e he => nomatch he), (fun e he => nomatch he), (fun e he => nomatch he), (fun e he => nomatch he), (fun e he => nomatch he), (fun e he => nomatch he), (fun e he => nomatch he), (fun e he => nomatch he), (fun e he => nomatch he), (fun e he => nomatch he)⟩, by decide, hri, hok, h64, (fun e he => nomatch he), (fun e he => nomatch he), (fun e he => nomatch he), rfl, Int.le_refl _⟩
    have Z0 : FreshL L0 H := fun x u hx hu z => by
      have : H x = none := by
        rcases z with z | z | z | z | z | ⟨e, he, _⟩
        · exact hM0 x z
        · rw [z]; exact aT0
        · rw [z]; exact aH0
        · rw [z]; exact aG0
        · rw [z]; exact aL0
        · cases he
      rw [hx] at this
      cases this
    have T5 : LamX.Tabs (T0 K) H5 := Tabs.fr (F03.trans (Fr.of s35)) hT
    -- the leaves
    refine ⟨_, rfl, 12, rfl, by decide, by decide, for_it walk_range (fun i σ H6 => ∃ (L : LS) (z : Option V), σ = [some (.ref wl), some (.int 12), some (.int 8), some (.ref st), z] ∧ StAt L st H6 ∧ LawAt K L H6 ∧ LawOk L 0 ∧ L.S.es.length = i ∧ L.tl.length = i ∧ WellAt wl H6 ∧ FreshL L H ∧ FrN (fun b => b = wl) H H6 ∧ LamX.Tabs (T0 K) H6)
      ⟨L0, none, rfl, eS5, AL0, OL0, rfl, rfl, W3.same s35, Z0, F05, T5⟩ (fun _ _ _ _ _ => True.intro) ?_ ?_⟩
    · rintro i x σ H6 H7 hi ⟨L, z, rfl, hs, AL, OL, hl1, hl2, W6, Z6, F6, T6⟩ ⟨rfl, rfl⟩
      have hi12 : i < 12 := hi
      refine ⟨_, rfl, _, rfl, _, rfl, wl, st, 0 + (i : Int), L, 0, rfl, hs, W6, Z6 wl _ hwx (fun ps z => nomatch z), AL, OL, by omega, by omega, by omega, by omega, fun H8 L' AL' OL' al hl1' hl2' W8 hx8 F8 => ⟨true, rfl, iteF ?_⟩⟩
      exact ⟨L', _, rfl, al.st (show StAt L st H8 from F8.tup hs), AL', OL', by omega, by omega, W8, fresh_step F6 W6 Z6 hx8, frn_new F6 Z6 F8.n, Tabs.fr F8 T6⟩
    rintro σ H6 ⟨L, z, rfl, hs, AL, OL, hl1, hl2, W6, Z6, F6, T6⟩
    have hl1 : L.S.es.length = 12 := hl1
    have hl2 : L.tl.length = 12 := hl2
    -- the stems
    refine ⟨_, rfl, 8, rfl, by decide, by decide, for_it walk_range (fun i σ H6 => ∃ (L : LS) (z : Option V), σ = [some (.ref wl), some (.int 12), some (.int 8), some (.ref st), z] ∧ StAt L st H6 ∧ LawAt K L H6 ∧ LawOk L i ∧ 12 ≤ L.S.es.length ∧ L.S.es.length ≤ 12 + i ∧ L.tl.length ≤ 12 + i ∧ WellAt wl H6 ∧ FreshL L H ∧ FrN (fun b => b = wl) H H6 ∧ LamX.Tabs (T0 K) H6)
      ⟨L, z, rfl, hs, AL, OL, by omega, by omega, by omega, W6, Z6, F6, T6⟩ (fun _ _ _ _ _ => True.intro) ?_ ?_⟩
    · rintro i x σ H6 H7 hi ⟨L, z, rfl, hs, AL, OL, hl0, hl1, hl2, W6, Z6, F6, T6⟩ ⟨rfl, rfl⟩
      have hi8 : i < 8 := hi
      refine ⟨_, rfl, _, rfl, wl, st, L, i, rfl, hs, W6, Z6 wl _ hwx (fun ps z => nomatch z), AL, OL, hi8, by omega, by omega, by omega, T6, fun H8 L' AL' OL' al hl0' hl1' hl2' W8 hx8 F8 T8 => ⟨true, rfl, iteF ?_⟩⟩
      exact ⟨L', _, rfl, al.st (show StAt L st H8 from F8.tup hs), AL', OL', by omega, by omega, by omega, W8, fresh_step F6 W6 Z6 hx8, frn_new F6 Z6 F8, T8⟩
    rintro σ H6 ⟨L, z, rfl, hs, AL, OL, hl0, hl1, hl2, W6, Z6, F6, T6⟩
    have hl1 : L.S.es.length ≤ 20 := hl1
    have hl2 : L.tl.length ≤ 20 := hl2
    exact ⟨_, rfl, k H6 st L hs AL OL (by omega) hl1 hl2 Z6 F6 T6⟩
end
end Tw

namespace Tw
open PySem PySem.Spec PyProof.Rows L2 He
section
variable {P : Program} {w : World} {K : PySem.W.Frag} {mg : Str → Option Value} {base : Heap}
theorem five_ok : okK (.int 5, .int 5) := ⟨by decide +kernel, by decide +kernel⟩
theorem outE_snoc {es : List En} {e : En} (h : ∀ x ∈ es, x.n ≠ e.n) : outE (es ++ [e]) e.n = es := by
  unfold outE
  rw [List.filter_append, List.filter_eq_self.mpr fun x hx => decide_eq_true (h x hx), List.filter_cons, decide_eq_false fun q => q rfl]
  simp
/-- nothing new among the law's things -/
def Keeps (L L' : LS) (H : Hp) : Prop := ∀ x u, H x = some u → (∀ ps, u ≠ .tbl ps) → ¬ L.M x → ¬ L'.M x
def spStr (K : PySem.W.Frag) : Sp := fun vs H Q _ => ∃ (wl st : Addr) (L : LS) (c : Nat), vs = [.ref wl, .ref st] ∧ StAt L st H ∧ WellAt wl H ∧ ¬ L.M wl ∧ LawAt K L H ∧ LawOk L c ∧ 1 ≤ L.S.es.length ∧ L.S.es.length < 40 ∧ L.tl.length ≤ 200 ∧
  ∀ H' L' n, LawAt K L' H' → LawOk L' c → Alike L L' → L'.S.es = L.S.es → L'.tl.length ≤ L.tl.length + 1 → (∀ e ∈ L.S.es, e.n ≠ n) → WellAt wl H' → Keeps L L' H → Fr (fun b => L.M b ∨ b = wl) H H' → Q (.int n) H'
theorem sc_str : FnScope ["_law_well_here", "_law_state", "_law_shelf", "_law_twigs", "_law_holds", "_law_grid_here", "_law_told", "_law_way", "_law_number"] ["_law_well_here", "_law_state"] d_l_strange.scope := ⟨rfl, rfl, rfl, by decide +kernel, rfl, by decide +kernel, by decide +kernel⟩
theorem ok_str (T : Tx K mg) : Okd P w K mg base CX0 10 d_l_strange ["_law_well_here", "_law_state"] (spStr K) := by
  refine okd0 T in_l_strange sc_str (fun _ _ _ _ _ _ us hl => match us, hl with | [_, _], _ => rfl) (fun vs H Q E h => ?_) (fun cdv A outer s H vs Q E hr h => ?_)
  · obtain ⟨wl, st, L, c, rfl, _⟩ := h
    rfl
  · obtain ⟨wl, st, L, c, rfl, hst, W, hwl, A1, O, h1, h40, ht200, k⟩ := h
    refine ⟨_, pss_cons (ps_asg (pv 1) (pg_tup rfl (pgs_cons (pg_name (i := 2) sc_str.nd rfl (Or.inl rfl)) (pgs_cons (pg_name (i := 3) sc_str.nd rfl (Or.inl rfl)) (pgs_cons (pg_name (i := 4) sc_str.nd rfl (Or.inl rfl)) (pgs_cons (pg_name (i := 5) sc_str.nd rfl (Or.inl rfl)) (pgs_cons (pg_name (i := 6) sc_str.nd rfl (Or.inl rfl)) pgs_nil)))))))
      (pss_cons (ps_set (i := 7) sc_str.nd rfl (Or.inl rfl) (pcl (ok_pull T) hr pass0 (pa_cons (pv 0) (pa_cons pe_int pa_nil)) (T.g "_law_pull")))
      (pss_cons (ps_if (pt_cmpR op_eq (pv 7) pe_int (nomark _)) (pss_one (ps_ret (pe_op op_add (pe_op op_add (pe_callB (cr_max rfl) (by rfl) (T.f "max") (by decide +kernel) (pa_cons (pv 6) pa_nil)) pe_int) (pcl (ok_pull T) hr pass0 (pa_cons (pv 0) (pa_cons pe_int pa_nil)) (T.g "_law_pull"))))) pss_nil)
      (pss_cons (ps_if (pt_cmpR op_eq (pv 7) pe_int (nomark _)) (pss_one (ps_ret (pe_op op_sub (pe_un un_neg pe_int) (pcl (ok_pull T) hr pass0 (pa_cons (pv 0) (pa_cons (pe_op op_pow pe_int pe_int) pa_nil)) (T.g "_law_pull"))))) pss_nil)
      (pss_cons (ps_set (i := 8) sc_str.nd rfl (Or.inl rfl) (pml (ok_pl T) hr pass0 (pv 2) T.cl T.me_put_leaf (pa_cons (pe_lst (pa_cons (pe_tup (pa_cons pe_int (pa_cons pe_int pa_nil))) pa_nil)) pa_nil)))
      (pss_cons (ps_expr (pml (ok_lg T) hr passL (pv 2) T.cl T.me_let_go (pa_cons (pv 8) pa_nil)))
      (pss_cons (ps_expr (pe_bm PySem.F.plainAttrs_list PySem.F.slot_list_append PySem.F.type_list_append mt_append (pv 6) (pa_cons (pv 8) pa_nil)))
      (pss_one (ps_ret (pv 8))))))))), ?_⟩
    have es50 := A1.sh.small.1
    have wlL : ∀ {H' : Hp}, Fr (fun b => b = wl) H H' → LawAt K L H' := fun F => A1.of_fr F fun b hb z => hwl (by rw [← z]; exact hb)
    have tlp : 0 < L.tl.length := by
      cases q : L.S.es with
      | nil => rw [q] at h1; simp at h1
      | cons e es =>
        have := O.mem e (by rw [q]; exact List.mem_cons_self)
        exact List.length_pos_of_mem this
    refine ⟨_, rfl, st, _, rfl, SqT.of hst, rfl, _, _, rfl, _, _, rfl, _, _, rfl, _, _, rfl, _, _, rfl, rfl, ?_⟩
    refine ⟨_, rfl, wl, 3, rfl, W, by decide, by decide, fun r1 H1 r10 r13 W1 F1 => ?_⟩
    have A2 := wlL F1
    refine ⟨_, rfl, rfl, _, rfl, ?_⟩
    by_cases z0 : r1 = 0
    · rw [show decide (V.int r1 = V.int 0) = true from decide_eq_true (by rw [z0])]
      refine iteT ⟨_, rfl, L.aL, L.tl, rfl, SqL.of A2.to, tlp, fun m hm1 hm2 => ⟨_, _, rfl, rfl, _, rfl, wl, 5, rfl, W1, by decide, by decide, fun r2 H3 r20 r25 W3 F3 => ⟨_, _, rfl, rfl, ?_⟩⟩⟩
      exact k H3 L _ (wlL (F1.trans F3)) O ⟨rfl, rfl, rfl, rfl, rfl⟩ rfl (Nat.le_succ _) (fun e he z => by have := hm2 e.n (O.mem e he); omega) W3 (fun _ _ _ _ h => h) ((F1.trans F3).mono fun b o _ z => .inr z)
    rw [show decide (V.int r1 = V.int 0) = false from decide_eq_false (fun q => z0 (V.int.inj q))]
    refine iteF ⟨_, rfl, rfl, _, rfl, ?_⟩
    by_cases z1 : r1 = 1
    · rw [show decide (V.int r1 = V.int 1) = true from decide_eq_true (by rw [z1])]
      refine iteT ⟨1, rfl, _, rfl, _, _, rfl, rfl, ⟨by decide, by decide, by decide⟩, wl, 10 ^ (6 : Int).toNat, rfl, W1, by decide, by decide, fun r2 H3 r20 r25 W3 F3 => ⟨_, _, rfl, rfl, ?_⟩⟩
      exact k H3 L _ (wlL (F1.trans F3)) O ⟨rfl, rfl, rfl, rfl, rfl⟩ rfl (Nat.le_succ _) (fun e he z => by have := (O.gd.rng e he).1; omega) W3 (fun _ _ _ _ h => h) ((F1.trans F3).mono fun b o _ z => .inr z)
    rw [show decide (V.int r1 = V.int 1) = false from decide_eq_false (fun q => z1 (V.int.inj q))]
    -- a leaf that goes at once
    refine iteF ⟨_, rfl, L.S.p, _, _, rfl, A2.sh.ob, rfl, small100 (by simp), fun t ht => ⟨small100 (by simp), fun q hq => ?_⟩⟩
    have s2 : Same H1 (upd (upd H1 t (.tup [.int 5, .int 5])) q (.lst [.ref t])) := (same_upd ht).trans (same_upd hq)
    have t2 : (upd (upd H1 t (.tup [.int 5, .int 5])) q (.lst [.ref t])) t = some (.tup [.int 5, .int 5]) := (upd_ne (ne_of_none (o := .tup [.int 5, .int 5]) upd_same hq)).trans upd_same
    have q2 : (upd (upd H1 t (.tup [.int 5, .int 5])) q (.lst [.ref t])) q = some (.lst [.ref t]) := upd_same
    generalize upd (upd H1 t (.tup [.int 5, .int 5])) q (.lst [.ref t]) = H2 at s2 t2 q2 ⊢
    have A3 := A2.same s2
    have F02 : Fr (fun b => b = wl) H H2 := F1.trans (Fr.of s2)
    have g0 := O.g0
    have no : ∀ e ∈ L.S.es, e.n ≠ L.S.g := fun e he z => by have := (O.gd.rng e he).2; omega
    refine ⟨L.S, q, [.ref t], [(.int 5, .int 5)], rfl, A3.sh, SqL.of q2, .cons (.tup t2 (.cons (.int 5) (.cons (.int 5) .nil))) .nil, (fun r hr => by rw [List.mem_singleton.mp hr]; exact five_ok), by decide, by decide, (fun i a b ea eb => by simp at eb), fun e he => (O.gd.rng e he).2, by omega, fun H3 kt tg ab hab A4 F3 => ?_⟩
    refine ⟨_, rfl, L.S.p, _, _, rfl, A4.ob, rfl, _, rfl, { L.S with g := L.S.g + 1, es := L.S.es ++ [⟨L.S.g, .leaf [(.int 5, .int 5)], 1, [], labR [(.int 5, .int 5)], [(.int 5, .int 5)], 1, kt, tg, ab⟩] }, L.S.g, rfl, A4, (fun h => absurd rfl (h _ (List.mem_append_right _ (List.mem_singleton.mpr rfl)))), (fun e he en hd => ?_), fun e he en hd => ?_⟩
    · rcases List.mem_append.mp he with y | y
      · exact absurd en (no e y)
      · rw [List.mem_singleton.mp y] at hd
        exact absurd hd (show ¬ (1 : Int) = 0 by decide)
    · rcases List.mem_append.mp he with y | y
      · exact absurd en (no e y)
      obtain rfl := List.mem_singleton.mp y
      refine ⟨rfl, rfl, ⟨_, rfl⟩, fun H4 A5 F4 => ?_⟩
      have eo : outE (L.S.es ++ [⟨L.S.g, .leaf [(.int 5, .int 5)], 1, [], labR [(.int 5, .int 5)], [(.int 5, .int 5)], 1, kt, tg, ab⟩]) L.S.g = L.S.es := outE_snoc (e := ⟨L.S.g, .leaf [(.int 5, .int 5)], 1, [], labR [(.int 5, .int 5)], [(.int 5, .int 5)], 1, kt, tg, ab⟩) no
      have F24 : Fr L.S.M5 H2 H4 := F3.trans F4
      have nM5 : ∀ {b : Addr}, ¬ L.S.M b → ¬ L.S.M5 b := fun h z => h (Sh.M5_M z)
      have A6 : ShelfAt K { L.S with g := L.S.g + 1 } H4 := by
        have := A5
        rw [show outE _ _ = L.S.es from eo] at this
        exact this
      have to4 := F24.at (nM5 A3.nL) A3.to
      refine ⟨_, rfl, .inl ⟨rfl, _, SqL.of to4⟩, _, rfl, L.aL, _, .int L.S.g, rfl, rfl, to4, by rw [List.length_map, sizeLine_eq]; omega, _, rfl, ?_⟩
      have F5 : Fr (fun b => b = L.aL) H4 (upd H4 L.aL (.lst (L.tl.map V.int ++ [.int L.S.g]))) := (Fr.refl H4).put rfl to4 True.intro
      have to5 : (upd H4 L.aL (.lst (L.tl.map V.int ++ [.int L.S.g]))) L.aL = some (.lst ((L.tl ++ [L.S.g]).map V.int)) := by rw [upd_same, List.map_append]; rfl
      have nTL : L.aT ≠ L.aL := ne_of A1.tw A1.to fun z => nomatch z
      have nHL : L.aH ≠ L.aL := ne_of A1.hl A1.to fun z => nomatch z
      generalize upd H4 L.aL (.lst (L.tl.map V.int ++ [.int L.S.g])) = H5 at F5 to5 ⊢
      have F25 : Fr (fun b => L.S.M5 b ∨ b = L.aL) H2 H5 := (F24.mono fun b o _ z => .inl z).trans (F5.mono fun b o _ z => .inr z)
      have nn : ∀ {b : Addr}, ¬ L.S.M b → b ≠ L.aL → ¬ (L.S.M5 b ∨ b = L.aL) := fun h1 h2 z => z.elim (nM5 h1) h2
      obtain ⟨gx, hg1, hg2⟩ := A3.gr
      have AF : LawAt K { L with S := { L.S with g := L.S.g + 1 }, tl := L.tl ++ [L.S.g] } H5 :=
        ⟨A6.of_fr F5 fun b hb z => A1.nL (by rw [← z]; exact hb), F25.at (nn A1.nT nTL) A3.tw, F25.at (nn A1.nH nHL) A3.hl, fun e he => F25.tup (A3.tp e he), fun e he => by
          obtain ⟨xs, e1, e2⟩ := A3.li e he
          exact ⟨xs, F25.at (nn (A1.nl e he) (A1.lL e he)) e1, e2.fr F25⟩, ⟨gx, F25.at (nn A1.nG A1.GL) hg1, hg2.fr F25⟩, to5, A1.nT, A1.nH, A1.nG, A1.nL, A1.nl, A1.TH, A1.GL, A1.lL⟩
      have GG : Good L.S.es (L.S.g + 1) c := ⟨fun e he => ⟨(O.gd.rng e he).1, by have := (O.gd.rng e he).2; omega⟩, O.gd.one, O.gd.upm, O.gd.sub, O.gd.lf, O.gd.st, O.gd.lb, O.gd.kd, O.gd.bd, O.gd.rk⟩
      have OF : LawOk { L with S := { L.S with g := L.S.g + 1 }, tl := L.tl ++ [L.S.g] } c := ⟨GG, O.c8, O.ri, O.gk, O.g64, O.ks, fun x hx => by
          rcases List.mem_append.mp hx with y | y
          · have := O.tl x y
            show x < L.S.g + 1
            omega
          · rw [List.mem_singleton.mp y]
            show L.S.g < L.S.g + 1
            omega, fun e he => List.mem_append_left _ (O.mem e he), O.sn, by show 0 ≤ L.S.g + 1; omega⟩
      refine k H5 _ _ AF OF ⟨rfl, rfl, rfl, rfl, rfl⟩ rfl (by show (L.tl ++ [_]).length ≤ _; rw [List.length_append]; exact Nat.le_refl _) no ?_ (fun x u _ _ h => h) ?_
      · refine (W1.same s2).fr F25 fun z => ?_
        rcases z with z | z
        · exact hwl (.inl (Sh.M5_M z))
        · exact hwl (.inr (.inr (.inr (.inr (.inl z)))))
      · refine (F02.mono fun b o _ z => .inr z).trans (F25.mono fun b o _ z => .inl ?_)
        rcases z with z | z
        · exact .inl (Sh.M5_M z)
        · exact .inr (.inr (.inr (.inr (.inl z))))
end
end Tw

namespace Tw
open PySem PySem.Spec PyProof.Rows L2 He
/-! ### bad rows -/
def BadR (rs : List Row) : Prop := rs = [] ∨ rs = [(.bool true, .int 1)] ∨ rs = [(.int 1, .none)] ∨ rs = [(.int 2, .int 2), (.int 1, .int 1)]
theorem bool_no : isW 3 (.bool true) = false := by decide +kernel
theorem none_no : isW 3 .none = false := by decide +kernel
theorem one_w : isW 3 (.int 1) = true := by decide +kernel
theorem two_w : isW 3 (.int 2) = true := by decide +kernel
theorem not_ris : ¬ Ris [(.int 2, .int 2), (.int 1, .int 1)] := fun h => by
  have := h 0 _ _ rfl rfl
  have q := ah_int_not (i := 2) (j := 1) (by decide)
  have q2 : ah (.int 2) (.int 1) = true := this
  rw [q] at q2
  cases q2
theorem BadR.not {rs : List Row} (h : BadR rs) : ¬ ((∀ r ∈ rs, okK r) ∧ 1 ≤ rs.length ∧ rs.length ≤ 4 ∧ Ris rs) := fun ⟨h1, h2, _, h4⟩ => by
  rcases h with rfl | rfl | rfl | rfl
  · cases h2
  · have := (h1 _ List.mem_cons_self).1
    have q : isW 3 (.bool true) = true := this
    rw [bool_no] at q
    cases q
  · have := (h1 _ List.mem_cons_self).2
    have q : isW 3 .none = true := this
    rw [none_no] at q
    cases q
  · exact not_ris h4
theorem BadR.sm {rs : List Row} (h : BadR rs) : (∀ r ∈ rs, smD r.1 = true ∧ smD r.2 = true) ∧ rs.length ≤ 100 := by
  rcases h with rfl | rfl | rfl | rfl
  · exact ⟨(fun r hr => nomatch hr), by decide⟩
  · exact ⟨fun r hr => by rw [List.mem_singleton.mp hr]; exact ⟨rfl, rfl⟩, by decide⟩
  · exact ⟨fun r hr => by rw [List.mem_singleton.mp hr]; exact ⟨rfl, rfl⟩, by decide⟩
  · refine ⟨fun r hr => ?_, by decide⟩
    rcases List.mem_cons.mp hr with q | q
    · rw [q]; exact ⟨rfl, rfl⟩
    · rw [List.mem_singleton.mp q]; exact ⟨rfl, rfl⟩
/-- with a thing that is no key; without -/
theorem BadR.kind {rs : List Row} (h : BadR rs) : ((∃ r ∈ rs, ¬ okK r) ∧ (∃ r ∈ rs, nbD r.1 = true ∨ nbD r.2 = true)) ∨
    ((∀ r ∈ rs, okK r) ∧ (∀ r ∈ rs, nbD r.1 = false ∧ nbD r.2 = false) ∧ (rs.length < 1 ∨ 4 < rs.length ∨ ¬ Ris rs)) := by
  rcases h with rfl | rfl | rfl | rfl
  · exact .inr ⟨(fun r hr => nomatch hr), (fun r hr => nomatch hr), .inl (by decide)⟩
  · exact .inl ⟨⟨_, List.mem_cons_self, fun q => by have q1 : isW 3 (.bool true) = true := q.1; rw [bool_no] at q1; cases q1⟩, ⟨_, List.mem_cons_self, .inl rfl⟩⟩
  · exact .inl ⟨⟨_, List.mem_cons_self, fun q => by have q1 : isW 3 .none = true := q.2; rw [none_no] at q1; cases q1⟩, ⟨_, List.mem_cons_self, .inr rfl⟩⟩
  · refine .inr ⟨fun r hr => ?_, fun r hr => ?_, .inr (.inr not_ris)⟩
    · rcases List.mem_cons.mp hr with q | q
      · rw [q]; exact ⟨two_w, two_w⟩
      · rw [List.mem_singleton.mp q]; exact ⟨one_w, one_w⟩
    · rcases List.mem_cons.mp hr with q | q
      · rw [q]; exact ⟨rfl, rfl⟩
      · rw [List.mem_singleton.mp q]; exact ⟨rfl, rfl⟩
section
variable {P : Program} {w : World} {K : PySem.W.Frag} {mg : Str → Option Value} {base : Heap}
theorem bad_read {σ : L2.St} {H : Hp} {Q : VK} {wl : Addr} {E : XK} (h0 : σ[0]? = some (some (.ref wl))) (W : WellAt wl H)
    (k : ∀ H' a xs rs, BadR rs → H a = none → H' a = some (.lst xs) → DaL H' xs (rs.map rowD) → WellAt wl H' → Fr (fun b => b = wl) H H' → Q (.ref a) H') :
    tOp (rIxL K) (tLst (tCons (tLst tNil) (tCons (tLst (tCons (tTup (tCons (tC (.bl true)) (tCons (tC (.int 1)) tNil))) tNil)) (tCons (tLst (tCons (tTup (tCons (tC (.int 1)) (tCons (tC .non) tNil))) tNil)) (tCons (tLst (tCons (tTup (tCons (tC (.int 2)) (tCons (tC (.int 2)) tNil))) (tCons (tTup (tCons (tC (.int 1)) (tCons (tC (.int 1)) tNil))) tNil))) tNil)))))
      (tCall spPull [] E (tCons (tVar 0) (tCons (tC (.int 4)) tNil))) σ H Q := by
  refine ⟨Nat.zero_le _, fun q0 hq0 => ⟨small100 (by simp), fun t1 ht1 => ⟨small100 (by simp), fun q1 hq1 => ⟨small100 (by simp), fun t2 ht2 => ⟨small100 (by simp), fun q2 hq2 => ⟨small100 (by simp), fun t3 ht3 => ⟨small100 (by simp), fun t4 ht4 => ⟨small100 (by simp), fun q3 hq3 => ⟨small100 (by simp), fun l hl => ?_⟩⟩⟩⟩⟩⟩⟩⟩⟩
  have s0 : Same H (upd H q0 (.lst [])) := same_upd hq0
  have e0 : (upd H q0 (.lst [])) q0 = some (.lst []) := upd_same
  generalize upd H q0 (.lst []) = H0 at *
  have s1 : Same H0 (upd H0 t1 (.tup [.bl true, .int 1])) := same_upd ht1
  have e1 : (upd H0 t1 (.tup [.bl true, .int 1])) t1 = some (.tup [.bl true, .int 1]) := upd_same
  generalize upd H0 t1 (.tup [.bl true, .int 1]) = H1 at *
  have s2 : Same H1 (upd H1 q1 (.lst [.ref t1])) := same_upd hq1
  have e2 : (upd H1 q1 (.lst [.ref t1])) q1 = some (.lst [.ref t1]) := upd_same
  generalize upd H1 q1 (.lst [.ref t1]) = H2 at *
  have s3 : Same H2 (upd H2 t2 (.tup [.int 1, .non])) := same_upd ht2
  have e3 : (upd H2 t2 (.tup [.int 1, .non])) t2 = some (.tup [.int 1, .non]) := upd_same
  generalize upd H2 t2 (.tup [.int 1, .non]) = H3 at *
  have s4 : Same H3 (upd H3 q2 (.lst [.ref t2])) := same_upd hq2
  have e4 : (upd H3 q2 (.lst [.ref t2])) q2 = some (.lst [.ref t2]) := upd_same
  generalize upd H3 q2 (.lst [.ref t2]) = H4 at *
  have s5 : Same H4 (upd H4 t3 (.tup [.int 2, .int 2])) := same_upd ht3
  have e5 : (upd H4 t3 (.tup [.int 2, .int 2])) t3 = some (.tup [.int 2, .int 2]) := upd_same
  generalize upd H4 t3 (.tup [.int 2, .int 2]) = H5 at *
  have s6 : Same H5 (upd H5 t4 (.tup [.int 1, .int 1])) := same_upd ht4
  have e6 : (upd H5 t4 (.tup [.int 1, .int 1])) t4 = some (.tup [.int 1, .int 1]) := upd_same
  generalize upd H5 t4 (.tup [.int 1, .int 1]) = H6 at *
  have s7 : Same H6 (upd H6 q3 (.lst [.ref t3, .ref t4])) := same_upd hq3
  have e7 : (upd H6 q3 (.lst [.ref t3, .ref t4])) q3 = some (.lst [.ref t3, .ref t4]) := upd_same
  generalize upd H6 q3 (.lst [.ref t3, .ref t4]) = H7 at *
  have s8 : Same H7 (upd H7 l (.lst [.ref q0, .ref q1, .ref q2, .ref q3])) := same_upd hl
  have e8 : (upd H7 l (.lst [.ref q0, .ref q1, .ref q2, .ref q3])) l = some (.lst [.ref q0, .ref q1, .ref q2, .ref q3]) := upd_same
  generalize upd H7 l (.lst [.ref q0, .ref q1, .ref q2, .ref q3]) = H8 at *
  have s78 := s8
  have s68 := s7.trans s78
  have s58 := s6.trans s68
  have s48 := s5.trans s58
  have s38 := s4.trans s48
  have s28 := s3.trans s38
  have s18 := s2.trans s28
  have s08 := s1.trans s18
  have sH := s0.trans s08
  have fr : ∀ {x : Addr} {Hx : Hp}, Same H Hx → Hx x = none → H x = none := fun s h => (Fr.of (M := M0) s).free (fun z => z) h
  have g1 := s0.trans s1
  have g2 := g1.trans s2
  have g3 := g2.trans s3
  have g4 := g3.trans s4
  have g5 := g4.trans s5
  have g6 := g5.trans s6
  have g7 := g6.trans s7
  have n1 := fr g1 hq1
  have n2 := fr g3 hq2
  have n3 := fr g6 hq3
  have nl := fr g7 hl
  have W8 := W.same sH
  have ne : ∀ {x : Addr}, H x = none → x ≠ wl := fun hx z => by
    obtain ⟨_, e⟩ := W.sq (K := K)
    rw [z, e] at hx
    cases hx
  refine ⟨_, h0, wl, 4, rfl, W8, by decide, by decide, fun r H9 r0 r4 W9 F9 => ?_⟩
  have F := (Fr.of sH : Fr (fun b => b = wl) H H8).trans F9
  have l9 := F9.at (ne nl) e8
  have a0 := F9.at (ne hq0) (s08 _ _ e0)
  have a1 := F9.at (ne n1) (s28 _ _ e2)
  have a2 := F9.at (ne n2) (s48 _ _ e4)
  have a3 := F9.at (ne n3) (s78 _ _ e7)
  have b1 := F9.tup (s18 _ _ e1)
  have b2 := F9.tup (s38 _ _ e3)
  have b3 := F9.tup (s58 _ _ e5)
  have b4 := F9.tup (s68 _ _ e6)
  have hr : r = 0 ∨ r = 1 ∨ r = 2 ∨ r = 3 := by omega
  rcases hr with rfl | rfl | rfl | rfl
  · exact ⟨l, _, 0, .ref q0, rfl, rfl, SqL.of l9, atI_nat (j := 0) rfl, k H9 q0 _ [] (.inl rfl) hq0 a0 .nil W9 F⟩
  · exact ⟨l, _, 1, .ref q1, rfl, rfl, SqL.of l9, atI_nat (j := 1) rfl, k H9 q1 _ _ (.inr (.inl rfl)) n1 a1 (.cons (.tup b1 (.cons (.bl _) (.cons (.int _) .nil))) .nil) W9 F⟩
  · exact ⟨l, _, 2, .ref q2, rfl, rfl, SqL.of l9, atI_nat (j := 2) rfl, k H9 q2 _ _ (.inr (.inr (.inl rfl))) n2 a2 (.cons (.tup b2 (.cons (.int _) (.cons .non .nil))) .nil) W9 F⟩
  · exact ⟨l, _, 3, .ref q3, rfl, rfl, SqL.of l9, atI_nat (j := 3) rfl, k H9 q3 _ _ (.inr (.inr (.inr rfl))) n3 a3 (.cons (.tup b3 (.cons (.int _) (.cons (.int _) .nil))) (.cons (.tup b4 (.cons (.int _) (.cons (.int _) .nil))) .nil)) W9 F⟩
theorem see_M {L : LS} {sn x : Addr} {xs : List Int} (h : (L.see sn xs).M x) : L.M x ∨ x = sn := by
  rcases h with h | h
  · rcases h with z | z | z | z | z | z | z
    · exact .inl (.inl (.inl z))
    · exact .inl (.inl (.inr (.inl z)))
    · exact .inl (.inl (.inr (.inr (.inl z))))
    · exact .inl (.inl (.inr (.inr (.inr (.inl z)))))
    · exact .inl (.inl (.inr (.inr (.inr (.inr (.inl z))))))
    · exact .inr z
    · exact .inl (.inl (.inr (.inr (.inr (.inr (.inr (.inr z)))))))
  · exact .inl (.inr h)
abbrev unkN : List Str := ["_law_well_here", "_law_state", "_law_twigs", "_law_holds", "_law_grid_here", "_law_told", "_law_some", "_law_bad", "_law_one", "_law_shelf", "_law_way", "_law_wrong_here", "_law_j"]
theorem sc_unk : FnScope unkN ["_law_well_here", "_law_state"] d_l_unknown.scope := ⟨rfl, rfl, rfl, by decide +kernel, rfl, by decide +kernel, by decide +kernel⟩
def spUnk (K : PySem.W.Frag) : Sp := fun vs H Q _ => ∃ (wl st : Addr) (L : LS), vs = [.ref wl, .ref st] ∧ StAt L st H ∧ WellAt wl H ∧ ¬ L.M wl ∧ LawAt K L H ∧ LawOk L 8 ∧ 1 ≤ L.S.es.length ∧ L.S.es.length < 40 ∧ L.tl.length ≤ 200 ∧ LamX.Tabs (T0 K) H ∧
  ∀ H' L', LawAt K L' H' → LawOk L' 8 → Alike L L' → L'.S.es = L.S.es → L'.tl.length ≤ L.tl.length + 1 → WellAt wl H' → Keeps L L' H → FrN (fun b => L.M b ∨ b = wl) H H' → LamX.Tabs (T0 K) H' → Q (.bl true) H'
theorem ok_unk (T : Tx K mg) (B : ∀ x ∈ tfL, LamX.TabB base mg (cT K x).1 (cT K x).2) : Okd P w K mg base CX0 13 d_l_unknown ["_law_well_here", "_law_state"] (spUnk K) := by
  refine okdL T in_l_unknown sc_unk (fun _ _ _ _ _ _ us hl => match us, hl with | [_, _], _ => rfl) (fun vs H Q E h => ?_) (fun A outer s H vs Q E hr h => ?_)
  · obtain ⟨wl, st, L, rfl, _⟩ := h
    rfl
  · obtain ⟨wl, st, L, rfl, hst, W, hwl, A1, O, h1, h40, ht200, hTab, k⟩ := h
    refine ⟨_, pss_cons (ps_asg (pv 1) (pg_tup rfl (pgs_cons (pg_name (i := 9) sc_unk.nd rfl (Or.inr rfl)) (pgs_cons (pg_name (i := 2) sc_unk.nd rfl (Or.inl rfl)) (pgs_cons (pg_name (i := 3) sc_unk.nd rfl (Or.inl rfl)) (pgs_cons (pg_name (i := 4) sc_unk.nd rfl (Or.inl rfl)) (pgs_cons (pg_name (i := 5) sc_unk.nd rfl (Or.inl rfl)) pgs_nil)))))))
      (pss_cons (ps_set (i := 8) sc_unk.nd rfl (Or.inr rfl) (pcl (ok_str T) hr pass0 (pa_cons (pv 0) (pa_cons (pv 1) pa_nil)) (T.g "_law_strange")))
      (pss_cons (ps_set (i := 10) sc_unk.nd rfl (Or.inr rfl) (pcl (ok_pull T) hr pass0 (pa_cons (pv 0) (pa_cons pe_int pa_nil)) (T.g "_law_pull")))
      (pss_cons (ps_set (i := 6) sc_unk.nd rfl (Or.inr rfl) (pe_callB (call_sortedDI rfl) (by rfl) (T.f "sorted") (by decide +kernel) (pa_cons (pv 2) pa_nil)))
      (pss_cons (ps_set (i := 11) sc_unk.nd rfl (Or.inr rfl) (pe_lc (own := [("_law_j", 12)]) (g := gName 12) (tt := tYes) (te := tCall spPick [] E0 (tCons (tVar 0) (tCons (tVar 6) tNil))) rfl sc_unk.nd
          (pi_range1 (by rfl) (T.f "range") (pa_cons (pcl (ok_pull T) hr pass0 (pa_cons (pv 0) (pa_cons pe_int pa_nil)) (T.g "_law_pull")) pa_nil))
          (blkOk_by (own := [("_law_j", 12)]) (N := unkN) (sc := d_l_unknown.scope) (by decide +kernel)) (fun _ _ _ _ _ => pg_name (i := 12) sc_unk.nd rfl (Or.inl rfl)) (fun _ _ _ _ _ => pts_nil)
          (fun _ _ _ _ _ => by exact pcl (ok_pick T) hr pass0 (pa_cons (pv 0) (pa_cons (pv 6) pa_nil)) (T.g "_law_picked"))))
      (pss_cons (ps_set (i := 7) sc_unk.nd rfl (Or.inr rfl) (pe_ix ix_list (pe_lst (pa_cons (pe_lst pa_nil) (pa_cons (pe_lst (pa_cons (pe_tup (pa_cons pe_bl (pa_cons pe_int pa_nil))) pa_nil)) (pa_cons (pe_lst (pa_cons (pe_tup (pa_cons pe_int (pa_cons pe_non pa_nil))) pa_nil)) (pa_cons (pe_lst (pa_cons (pe_tup (pa_cons pe_int (pa_cons pe_int pa_nil))) (pa_cons (pe_tup (pa_cons pe_int (pa_cons pe_int pa_nil))) pa_nil))) pa_nil))))) (pcl (ok_pull T) hr pass0 (pa_cons (pv 0) (pa_cons pe_int pa_nil)) (T.g "_law_pull")) (fun _ _ => rfl)))
      (pss_cons (ps_expr (pml0 (ok_forget T) hr pass0 (pv 9) T.cl T.me_forget))
      (pss_cons (ps_if (pt_not (pt_val (pcl (ok_alk T 5) hr pass0 (pa_cons (pe_asked T B (p := ("_law_unknown", none)) (by decide +kernel) (k := 10) (t := fun E => tCall (spCall K) [] E (tCons (tVar 9) (tCons (tVar 10) (tCons (tVar 8) (tCons (tVar 11) (tCons (tVar 7) tNil)))))) (by rfl) rfl rfl hr (by exact (show LamX.LamS d_l_unknown.scope _ from LamX.lamS_by (by decide +kernel))) (by rfl) (by exact fun _ _ _ _ _ => rfl)
          (by exact fun A outer s H E f c' hr2 => pclL (ok_call T) hr2 (pa_cons (pv 9) (pa_cons (pv 10) (pa_cons (pv 8) (pa_cons (pv 11) (pa_cons (pv 7) pa_nil))))) (T.g "_law_call"))) (pa_cons (pe_tup (pa_cons pe_str (pa_cons (pv 8) pa_nil))) pa_nil)) (T.g "_law_alike")))) (pss_one (ps_ret pe_bl)) pss_nil)
      (pss_one (ps_ret (pe_or (pe_cmpR op_ne (pv 10) pe_int (nomark _)) (pe_one (pe_cmpR (op_eqD hr.units) (pml0 (ok_looked T) hr pass0 (pv 9) T.cl T.me_looked) (pe_lst pa_nil) (nomark _))))))))))))), ?_⟩
    refine ⟨_, rfl, st, _, rfl, SqT.of hst, rfl, _, _, rfl, _, _, rfl, _, _, rfl, _, _, rfl, _, _, rfl, rfl, ?_⟩
    refine ⟨_, rfl, _, rfl, wl, st, L, 8, rfl, hst, W, hwl, A1, O, h1, h40, ht200, fun H1 L1 one A2 O1 al es1 tl1 no W1 kp F1 => ?_⟩
    obtain ⟨ep, eT, eH, eG, eL⟩ := id al
    rw [← ep, ← eT, ← eH, ← eG, ← eL]
    rw [← es1] at no h1 h40
    have es50 := A2.sh.small.1
    have lens : (L1.S.es.map En.n).length = L1.S.es.length := List.length_map ..
    obtain ⟨wx, hwx⟩ := W.sq (K := K)
    have hwl1 : ¬ L1.M wl := kp wl _ hwx (fun ps z => nomatch z) hwl
    have wlL : ∀ {H' : Hp}, Fr (fun b => b = wl) H1 H' → LawAt K L1 H' := fun F => A2.of_fr F fun b hb z => hwl1 (by rw [← z]; exact hb)
    have wlne : ∀ {b : Addr} {Hx : Hp}, WellAt wl Hx → Hx b = none → b ≠ wl := fun {b Hx} W hb z => by
      obtain ⟨_, e⟩ := W.sq (K := K)
      rw [z, e] at hb
      cases hb
    refine ⟨_, rfl, wl, 11, rfl, W1, by decide, by decide, fun way H2 w0 w11 W2 F2 => ?_⟩
    have A3 := wlL F2
    refine ⟨_, rfl, L1.aT, _, L1.S.es.map En.n, rfl, .inl A3.tw, dict_keys _ _, by omega, fun ys p hp hs hn => ?_⟩
    rw [nums_sorted A3.sh.inc hp hs]
    have s3 : Same H2 (upd H2 p (.lst ((L1.S.es.map En.n).map V.int))) := same_upd hn
    have p3 : (upd H2 p (.lst ((L1.S.es.map En.n).map V.int))) p = some (.lst ((L1.S.es.map En.n).map V.int)) := upd_same
    have pw := wlne W2 hn
    have W3 := W2.same s3
    have F3 : Fr (fun b => b = wl) H1 (upd H2 p (.lst ((L1.S.es.map En.n).map V.int))) := F2.trans (Fr.of s3)
    generalize upd H2 p (.lst ((L1.S.es.map En.n).map V.int)) = H3 at p3 W3 F3 ⊢
    refine ⟨_, rfl, wl, 6, rfl, W3, by decide, by decide, fun r3 H4 r30 r36 W4 F4 => ⟨r3, rfl, by omega, by omega, fun D hD => ?_⟩⟩
    have F34 := F3.trans F4
    have p4 := F4.at pw p3
    have Dw := wlne W4 hD
    have s5 : Same H4 (upd H4 D (.lst [])) := same_upd hD
    refine lc_it walk_range (fun i H5 => ∃ ns : List Int, ns.length ≤ i ∧ (∀ n ∈ ns, Has L1.S.es n) ∧ H5 D = some (.lst (ns.map V.int)) ∧ H5 p = some (.lst ((L1.S.es.map En.n).map V.int)) ∧ WellAt wl H5 ∧ Fr (fun b => b = wl) H1 H5) ⟨[], Nat.le_refl _, (fun _ z => nomatch z), upd_same, s5 _ _ p4, W4.same s5, F34.trans (Fr.of s5)⟩ (fun _ _ _ _ => True.intro) ?_ ?_
    · rintro i y H5 H6 hi ⟨ns, hn1, hnh, hn2, hn3, W5, F5⟩ ⟨rfl, rfl⟩
      refine ⟨rfl, _, rfl, _, rfl, wl, p, L1.S.es.map En.n, rfl, W5, hn3, pw, by omega, by omega, fun n H7 hnk W7 F7 => ?_⟩
      have d7 := F7.at Dw hn2
      refine ⟨_, d7, ?_, ns ++ [n], by rw [List.length_append]; simp; omega, fun m hm => ?_, by rw [upd_same, List.map_append]; rfl, ?_, ?_, ?_⟩
      · rw [List.length_map, sizeLine_eq]
        omega
      · rcases List.mem_append.mp hm with q | q
        · exact hnh m q
        · rw [List.mem_singleton.mp q]
          obtain ⟨e, he, e1⟩ := List.mem_map.mp hnk
          exact ⟨e, he, e1⟩
      · exact (upd_ne (ne_of_none p4 hD)).trans (F7.at pw hn3)
      · exact W7.fr (M := fun b => b = D) ((Fr.refl _).put rfl d7 True.intro) Dw.symm
      · exact (F5.trans F7).lay (F34.free Dw hD)
    rintro H5 ⟨ns, hn1, hnh, hn2, hn3, W5, F5⟩
    -- bad rows
    refine bad_read rfl W5 fun H6 bd xs rs hbad hbd0 hbd hda W6 F6 => ?_
    have F16 := F5.trans F6
    have A6 := wlL F16
    have D6 := F6.at Dw hn2
    have D1 : H1 D = none := F34.free Dw hD
    have bd1 : H1 bd = none := F5.free (wlne W5 hbd0) hbd0
    -- nothing was looked at
    refine ⟨_, rfl, L1.S.p, _, _, rfl, A6.sh.ob, rfl, L1.S, rfl, A6.sh, fun H7 sn hsn Ash F7 => ?_⟩
    have A7 : LawAt K (L1.see sn []) H7 := LawAt.forgot A6 hsn Ash F7
    have M1D : ¬ L1.M D := A2.no D1
    have M1b : ¬ L1.M bd := A2.no bd1
    have D7 := F7.at (fun z => M1D (.inl (.inl z))) D6
    have bd7 := F7.at (fun z => M1b (.inl (.inl z))) hbd
    have hda7 := hda.fr F7
    have W7 : WellAt wl H7 := W6.fr F7 fun z => hwl1 (.inl (.inl z))
    have F17 : Fr (fun b => L1.M b ∨ b = wl) H1 H7 := (F16.mono fun b o _ z => .inr z).trans (F7.mono fun b o _ z => .inl (.inl (.inl z)))
    have T7 : LamX.Tabs (T0 K) H7 := Tabs.fr F17 (Tabs.fr F1 hTab)
    refine ⟨T7, fun H8 eN T8 => ?_⟩
    have F78 : FrN M0 H7 H8 := FrN.of eN
    have A8 := A7.of_frn F78 (fun _ _ z => z)
    have D8 := F78.lst (fun z => z) D7
    have bd8 := F78.lst (fun z => z) bd7
    have hda8 := hda7.frn F78
    have W8 := W7.frn F78 (fun z => z)
    obtain ⟨hsm, hrl⟩ := hbad.sm
    show tCall (spCall K) [] (AskE K _) (tCons (tVar 9) (tCons (tVar 10) (tCons (tVar 8) (tCons (tVar 11) (tCons (tVar 7) tNil))))) _ H8 (AskV _)
    refine ⟨_, rfl, _, rfl, _, rfl, _, rfl, _, rfl, (L1.see sn []).S, 8, way, one, D, bd, ns, xs, rs, rfl, A8.sh, O1.gd, by show L1.S.es.length < 50; omega, by show (0 : Nat) < 100; decide, no, w0, by omega, D8, hnh, by omega, bd8, hda8, hsm, hrl, hbad.not, fun H9 d9 s9 hd9 => ?_⟩
    refine .inr (.inr (.inr (.inl ⟨rfl, d9, one, rfl, hd9, fun H10 pf s10 hpf hp10 => ?_⟩)))
    refine ⟨_, rfl, small100 (by simp), fun q hq => ?_⟩
    have s11 : Same H10 (upd H10 q (.tup [.str "twig", .int one])) := same_upd hq
    refine ⟨.ref pf, .ref q, .tuple [.str "twig", .int one], rfl, .tup (s11 _ _ hp10) (.cons (.str _) (.cons (.int _) .nil)), .tup upd_same (.cons (.str _) (.cons (.int _) .nil)), rfl, fun H12 s12 => ⟨true, rfl, iteF ?_⟩⟩
    have s812 : Same H8 H12 := s9.trans (s10.trans (s11.trans s12))
    have A12 := A8.same s812
    have fin : ∀ H13, Same H12 H13 → Q (.bl true) H13 := fun H13 s13 => by
      have s813 := s812.trans s13
      have F813 : FrN M0 H7 H13 := F78.trans (Fr.of s813).n
      refine k H13 (L1.see sn []) (A8.same s813) ⟨O1.gd, O1.c8, O1.ri, O1.gk, O1.g64, O1.ks, O1.tl, O1.mem, rfl, O1.g0⟩ ⟨ep, eT, eH, eG, eL⟩ es1 tl1 (W8.same s813) (fun x u hx hu hxM z => ?_) ?_ (T8.ext s813)
      · rcases see_M z with y | y
        · exact kp x u hx hu hxM y
        · have hx1 : ∃ o, H1 x = some o ∧ ¬ L1.M x := by
            by_cases zz : x = wl
            · obtain ⟨xs, e⟩ := W1.sq (K := K)
              exact ⟨_, by rw [zz]; exact e, by rw [zz]; exact hwl1⟩
            · exact ⟨u, F1.at (fun h => h.elim hxM zz) hx, kp x u hx hu hxM⟩
          obtain ⟨o, ho, hoM⟩ := hx1
          by_cases zz : x = wl
          · obtain ⟨xs, e⟩ := W6.sq (K := K)
            rw [← y, zz, e] at hsn
            cases hsn
          · have := F16.at zz ho
            rw [y, hsn] at this
            cases this
      · refine (F1.n.and2 (F17.n.trans (F813.mono fun _ _ _ z => nomatch z)) fun x u hx hu z => ?_)
        rcases z with z | z
        · by_cases zz : L.M x
          · exact .inl zz
          · exact absurd z (kp x u hx hu zz)
        · exact .inr z
    by_cases z6 : way = 6
    · refine ⟨_, rfl, rfl, false, by rw [z6]; rfl, iteF ?_⟩
      refine ⟨_, rfl, L1.S.p, _, _, rfl, A12.sh.ob, rfl, (L1.see sn []).S, rfl, A12.sh, fun l hl => ⟨Nat.zero_le _, fun q2 hq2 => ?_⟩⟩
      have s13 : Same H12 (upd (upd H12 l (.lst (([] : List Int).map V.int))) q2 (.lst [])) := (same_upd hl).trans (same_upd hq2)
      have l13 : (upd (upd H12 l (.lst (([] : List Int).map V.int))) q2 (.lst [])) l = some (.lst (([] : List Int).map V.int)) := (upd_ne (ne_of_none (o := .lst (([] : List Int).map V.int)) upd_same hq2)).trans upd_same
      exact ⟨.list (([] : List Int).map PyData.int), .list [], dp_ints (SqL.of l13), .lst (SqL.of upd_same) .nil, shaped_ints [], shaped_ints [], qb (fin _ s13) (by rw [eqv_nil]; rfl)⟩
    · exact ⟨_, rfl, rfl, true, by rw [decide_eq_false fun q => z6 (V.int.inj q)]; rfl, iteT (fin _ (Same.refl _))⟩
end
end Tw

namespace Tw
open PySem PySem.Spec PyProof.Rows L2 He
/-! ### wrong branches -/
def WrR (n far : Int) (ns : List Int) : Prop := ns = [] ∨ ns = [n] ∨ ns = [far, far] ∨ ns = [n, far, n, n, n]
theorem WrR.kind {n far : Int} {ns : List Int} {es : List En} (h : WrR n far ns) (h1 : hasB es n = true) (h2 : hasB es far = false) :
    (ns.contains far = true ∧ ns.find? (fun n => !hasB es n) = some far) ∨ (ns.contains far = false ∧ ns.find? (fun n => !hasB es n) = none ∧ ns.length < 2) := by
  have hne : n ≠ far := fun z => by rw [z, h2] at h1; cases h1
  rcases h with rfl | rfl | rfl | rfl
  · exact .inr ⟨rfl, rfl, by decide⟩
  · refine .inr ⟨?_, ?_, (show 1 < 2 by decide)⟩
    · simp [hne.symm]
    · rw [List.find?_cons, h1]; rfl
  · refine .inl ⟨by simp, ?_⟩
    rw [List.find?_cons, h2]; rfl
  · refine .inl ⟨by simp, ?_⟩
    rw [List.find?_cons, h1]
    show [far, n, n, n].find? _ = _
    rw [List.find?_cons, h2]; rfl
section
variable {P : Program} {w : World} {K : PySem.W.Frag} {mg : Str → Option Value} {base : Heap}
theorem wr_read {σ : L2.St} {H : Hp} {Q : VK} {wl : Addr} {n far : Int} {E : XK} (h0 : σ[0]? = some (some (.ref wl))) (hn : σ[10]? = some (some (.int n))) (hf : σ[6]? = some (some (.int far))) (W : WellAt wl H)
    (k : ∀ H' a ns, WrR n far ns → H a = none → H' a = some (.lst (ns.map V.int)) → WellAt wl H' → Fr (fun b => b = wl) H H' → Q (.ref a) H') :
    tOp (rIxL K) (tLst (tCons (tLst tNil) (tCons (tLst (tCons (tVar 10) tNil)) (tCons (tLst (tCons (tVar 6) (tCons (tVar 6) tNil))) (tCons (tLst (tCons (tVar 10) (tCons (tVar 6) (tCons (tVar 10) (tCons (tVar 10) (tCons (tVar 10) tNil)))))) tNil)))))
      (tCall spPull [] E (tCons (tVar 0) (tCons (tC (.int 4)) tNil))) σ H Q := by
  refine ⟨Nat.zero_le _, fun q0 hq0 => ⟨_, hn, small100 (by simp), fun q1 hq1 => ⟨_, hf, _, hf, small100 (by simp), fun q2 hq2 => ⟨_, hn, _, hf, _, hn, _, hn, _, hn, small100 (by simp), fun q3 hq3 => ⟨small100 (by simp), fun l hl => ?_⟩⟩⟩⟩⟩
  have s0 : Same H (upd H q0 (.lst [])) := same_upd hq0
  have e0 : (upd H q0 (.lst [])) q0 = some (.lst []) := upd_same
  generalize upd H q0 (.lst []) = H0 at *
  have s1 : Same H0 (upd H0 q1 (.lst [.int n])) := same_upd hq1
  have e1 : (upd H0 q1 (.lst [.int n])) q1 = some (.lst [.int n]) := upd_same
  generalize upd H0 q1 (.lst [.int n]) = H1 at *
  have s2 : Same H1 (upd H1 q2 (.lst [.int far, .int far])) := same_upd hq2
  have e2 : (upd H1 q2 (.lst [.int far, .int far])) q2 = some (.lst [.int far, .int far]) := upd_same
  generalize upd H1 q2 (.lst [.int far, .int far]) = H2 at *
  have s3 : Same H2 (upd H2 q3 (.lst [.int n, .int far, .int n, .int n, .int n])) := same_upd hq3
  have e3 : (upd H2 q3 (.lst [.int n, .int far, .int n, .int n, .int n])) q3 = some (.lst [.int n, .int far, .int n, .int n, .int n]) := upd_same
  generalize upd H2 q3 (.lst [.int n, .int far, .int n, .int n, .int n]) = H3 at *
  have s4 : Same H3 (upd H3 l (.lst [.ref q0, .ref q1, .ref q2, .ref q3])) := same_upd hl
  have e4 : (upd H3 l (.lst [.ref q0, .ref q1, .ref q2, .ref q3])) l = some (.lst [.ref q0, .ref q1, .ref q2, .ref q3]) := upd_same
  generalize upd H3 l (.lst [.ref q0, .ref q1, .ref q2, .ref q3]) = H4 at *
  have s34 := s4
  have s24 := s3.trans s34
  have s14 := s2.trans s24
  have s04 := s1.trans s14
  have sH := s0.trans s04
  have fr : ∀ {x : Addr} {Hx : Hp}, Same H Hx → Hx x = none → H x = none := fun s h => (Fr.of (M := M0) s).free (fun z => z) h
  have g1 := s0.trans s1
  have g2 := g1.trans s2
  have g3 := g2.trans s3
  have n1 := fr s0 hq1
  have n2 := fr g1 hq2
  have n3 := fr g2 hq3
  have nl := fr g3 hl
  have ne : ∀ {x : Addr}, H x = none → x ≠ wl := fun hx z => by
    obtain ⟨_, e⟩ := W.sq (K := K)
    rw [z, e] at hx
    cases hx
  refine ⟨_, h0, wl, 4, rfl, W.same sH, by decide, by decide, fun r H9 r0 r4 W9 F9 => ?_⟩
  have F := (Fr.of sH : Fr (fun b => b = wl) H H4).trans F9
  have l9 := F9.at (ne nl) e4
  have a0 := F9.at (ne hq0) (s04 _ _ e0)
  have a1 := F9.at (ne n1) (s14 _ _ e1)
  have a2 := F9.at (ne n2) (s24 _ _ e2)
  have a3 := F9.at (ne n3) (s34 _ _ e3)
  have hr : r = 0 ∨ r = 1 ∨ r = 2 ∨ r = 3 := by omega
  rcases hr with rfl | rfl | rfl | rfl
  · exact ⟨l, _, 0, .ref q0, rfl, rfl, SqL.of l9, atI_nat (j := 0) rfl, k H9 q0 [] (.inl rfl) hq0 a0 W9 F⟩
  · exact ⟨l, _, 1, .ref q1, rfl, rfl, SqL.of l9, atI_nat (j := 1) rfl, k H9 q1 [n] (.inr (.inl rfl)) n1 a1 W9 F⟩
  · exact ⟨l, _, 2, .ref q2, rfl, rfl, SqL.of l9, atI_nat (j := 2) rfl, k H9 q2 [far, far] (.inr (.inr (.inl rfl))) n2 a2 W9 F⟩
  · exact ⟨l, _, 3, .ref q3, rfl, rfl, SqL.of l9, atI_nat (j := 3) rfl, k H9 q3 [n, far, n, n, n] (.inr (.inr (.inr rfl))) n3 a3 W9 F⟩
abbrev amsN : List Str := ["_law_well_here", "_law_state", "_law_twigs", "_law_holds", "_law_grid_here", "_law_told", "_law_far", "_law_first", "_law_due", "_law_bad", "_law_number", "_law_shelf", "_law_wrong_here"]
theorem sc_ams : FnScope amsN ["_law_well_here", "_law_state"] d_l_amiss.scope := ⟨rfl, rfl, rfl, by decide +kernel, rfl, by decide +kernel, by decide +kernel⟩
def spAms (K : PySem.W.Frag) : Sp := fun vs H Q _ => ∃ (wl st : Addr) (L : LS), vs = [.ref wl, .ref st] ∧ StAt L st H ∧ WellAt wl H ∧ ¬ L.M wl ∧ LawAt K L H ∧ LawOk L 8 ∧ 1 ≤ L.S.es.length ∧ LamX.Tabs (T0 K) H ∧
  ∀ H', LawAt K L H' → WellAt wl H' → FrN (fun b => b = wl) H H' → LamX.Tabs (T0 K) H' → Q (.bl true) H'
theorem ok_ams (T : Tx K mg) (B : ∀ x ∈ tfL, LamX.TabB base mg (cT K x).1 (cT K x).2) : Okd P w K mg base CX0 12 d_l_amiss ["_law_well_here", "_law_state"] (spAms K) := by
  refine okdL T in_l_amiss sc_ams (fun _ _ _ _ _ _ us hl => match us, hl with | [_, _], _ => rfl) (fun vs H Q E h => ?_) (fun A outer s H vs Q E hr h => ?_)
  · obtain ⟨wl, st, L, rfl, _⟩ := h
    rfl
  · obtain ⟨wl, st, L, rfl, hst, W, hwl, A1, O, h1, hTab, k⟩ := h
    have hu := hu_of hr
    refine ⟨_, pss_cons (ps_asg (pv 1) (pg_tup rfl (pgs_cons (pg_name (i := 11) sc_ams.nd rfl (Or.inr rfl)) (pgs_cons (pg_name (i := 2) sc_ams.nd rfl (Or.inl rfl)) (pgs_cons (pg_name (i := 3) sc_ams.nd rfl (Or.inl rfl)) (pgs_cons (pg_name (i := 4) sc_ams.nd rfl (Or.inl rfl)) (pgs_cons (pg_name (i := 5) sc_ams.nd rfl (Or.inl rfl)) pgs_nil)))))))
      (pss_cons (ps_set (i := 10) sc_ams.nd rfl (Or.inr rfl) (pcl (ok_pick T) hr pass0 (pa_cons (pv 0) (pa_cons (pe_callB (call_sortedDI rfl) (by rfl) (T.f "sorted") (by decide +kernel) (pa_cons (pv 2) pa_nil)) pa_nil)) (T.g "_law_picked")))
      (pss_cons (ps_set (i := 6) sc_ams.nd rfl (Or.inl rfl) (pe_op op_add (pe_callB (cr_max rfl) (by rfl) (T.f "max") (by decide +kernel) (pa_cons (pv 5) pa_nil)) pe_int))
      (pss_cons (ps_set (i := 7) sc_ams.nd rfl (Or.inl rfl) (pcl (ok_shr T) hr pass0 (pa_cons (pv 2) (pa_cons (pv 3) (pa_cons (pv 10) pa_nil))) (T.g "_law_shared")))
      (pss_cons (ps_set (i := 9) sc_ams.nd rfl (Or.inr rfl) (pe_ix ix_list (pe_lst (pa_cons (pe_lst pa_nil) (pa_cons (pe_lst (pa_cons (pe_tup (pa_cons pe_bl (pa_cons pe_int pa_nil))) pa_nil)) (pa_cons (pe_lst (pa_cons (pe_tup (pa_cons pe_int (pa_cons pe_non pa_nil))) pa_nil)) (pa_cons (pe_lst (pa_cons (pe_tup (pa_cons pe_int (pa_cons pe_int pa_nil))) (pa_cons (pe_tup (pa_cons pe_int (pa_cons pe_int pa_nil))) pa_nil))) pa_nil))))) (pcl (ok_pull T) hr pass0 (pa_cons (pv 0) (pa_cons pe_int pa_nil)) (T.g "_law_pull")) (fun _ _ => rfl)))
      (pss_cons (ps_set (i := 12) sc_ams.nd rfl (Or.inr rfl) (pe_ix ix_list (pe_lst (pa_cons (pe_lst pa_nil) (pa_cons (pe_lst (pa_cons (pv 10) pa_nil)) (pa_cons (pe_lst (pa_cons (pv 6) (pa_cons (pv 6) pa_nil))) (pa_cons (pe_lst (pa_cons (pv 10) (pa_cons (pv 6) (pa_cons (pv 10) (pa_cons (pv 10) (pa_cons (pv 10) pa_nil)))))) pa_nil))))) (pcl (ok_pull T) hr pass0 (pa_cons (pv 0) (pa_cons pe_int pa_nil)) (T.g "_law_pull")) (fun _ _ => rfl)))
      (pss_cons (ps_join (ps_if (PW.pt (pw_and (pt_cmpR op_eq (pcl (ok_pull T) hr pass0 (pa_cons (pv 0) (pa_cons pe_int pa_nil)) (T.g "_law_pull")) pe_int (nomark _)) (pw_and1 (pt_cmpR op_eq (pe_dget hu (pv 3) (pv 10) (fun _ _ => rfl)) pe_int (nomark _)))))
        (pss_one (ps_ret (pcl (ok_alk T 5) hr pass0 (pa_cons (pe_asked T B (p := ("_law_amiss", none)) (by decide +kernel) (k := 9) (t := fun E => tMeth (ga K "Shelf") "let_go" (spLG K) [] E (tVar 11) (tCons (tVar 10) tNil)) (by rfl) rfl rfl hr (by exact (show LamX.LamS d_l_amiss.scope _ from LamX.lamS_by (by decide +kernel))) (by rfl) (by exact fun _ _ _ _ _ => rfl)
          (by exact fun A outer s H E f c' hr2 => pmlL (ok_lg T) hr2 (pv 11) T.cl T.me_let_go (pa_cons (pv 10) pa_nil))) (pa_cons (pe_tup (pa_cons pe_str (pa_cons (pv 10) pa_nil))) pa_nil)) (T.g "_law_alike")))) pss_nil))
      (pss_cons (ps_if (pt_cmpR op_eq (pcl (ok_pull T) hr pass0 (pa_cons (pv 0) (pa_cons pe_int pa_nil)) (T.g "_law_pull")) pe_int (nomark _))
        (pss_cons (ps_join (ps_set (i := 8) sc_ams.nd rfl (Or.inl rfl) (pcl (ok_due T) hr pass0 (pa_cons (pv 9) pa_nil) (T.g "_law_rows_due"))))
        (pss_cons (ps_join (ps_if (pt_cmpR op_eq (pe_ix ix_tup (pe_dget hu (pv 2) (pv 10) (fun _ _ => rfl)) pe_int (fun _ _ => rfl)) pe_str (nomark _)) (pss_one (ps_set (i := 8) sc_ams.nd rfl (Or.inl rfl) (pe_tup (pa_cons pe_str pa_nil)))) (pss_one (ps_if (pt_cmpR op_notN (pv 7) pe_non (nomark _)) (pss_one (ps_set (i := 8) sc_ams.nd rfl (Or.inl rfl) (pe_tup (pa_cons pe_str (pa_cons (pv 7) pa_nil))))) pss_nil))))
        (pss_one (ps_ret (pcl (ok_alk T 5) hr pass0 (pa_cons (pe_asked T B (p := ("_law_amiss", none)) (by decide +kernel) (k := 9) (t := fun E => tMeth (ga K "Shelf") "change_leaf" (spCL K) [] E (tVar 11) (tCons (tVar 10) (tCons (tVar 9) tNil))) (by rfl) rfl rfl hr (by exact (show LamX.LamS d_l_amiss.scope _ from LamX.lamS_by (by decide +kernel))) (by rfl) (by exact fun _ _ _ _ _ => rfl)
          (by exact fun A outer s H E f c' hr2 => pmlL (ok_cl T) hr2 (pv 11) T.cl T.me_change_leaf (pa_cons (pv 10) (pa_cons (pv 9) pa_nil)))) (pa_cons (pv 8) pa_nil)) (T.g "_law_alike")))))) pss_nil)
      (pss_cons (ps_set (i := 8) sc_ams.nd rfl (Or.inl rfl) (pe_tup (pa_cons pe_str pa_nil)))
      (pss_cons (ps_join (ps_if (PW.pt (pw_and (pt_cmpR op_eq (pe_ix ix_tup (pe_dget hu (pv 2) (pv 10) (fun _ _ => rfl)) pe_int (fun _ _ => rfl)) pe_str (nomark _)) (pw_and1 (pt_cmpR op_notN (pv 7) pe_non (nomark _))))) (pss_one (ps_set (i := 8) sc_ams.nd rfl (Or.inl rfl) (pe_tup (pa_cons pe_str (pa_cons (pv 7) pa_nil)))))
        (pss_one (ps_if (PW.pt (pw_and (pt_cmpR op_eq (pe_ix ix_tup (pe_dget hu (pv 2) (pv 10) (fun _ _ => rfl)) pe_int (fun _ _ => rfl)) pe_str (nomark _)) (pw_and1 (pt_cmpR op_in_seq (pv 6) (pv 12) (by rfl))))) (pss_one (ps_set (i := 8) sc_ams.nd rfl (Or.inl rfl) (pe_tup (pa_cons pe_str (pa_cons (pv 6) pa_nil))))) pss_nil))))
      (pss_one (ps_ret (pcl (ok_alk T 5) hr pass0 (pa_cons (pe_asked T B (p := ("_law_amiss", none)) (by decide +kernel) (k := 9) (t := fun E => tMeth (ga K "Shelf") "change_stem" (spCS K) [] E (tVar 11) (tCons (tVar 10) (tCons (tVar 12) tNil))) (by rfl) rfl rfl hr (by exact (show LamX.LamS d_l_amiss.scope _ from LamX.lamS_by (by decide +kernel))) (by rfl) (by exact fun _ _ _ _ _ => rfl)
          (by exact fun A outer s H E f c' hr2 => pmlL (ok_cs T) hr2 (pv 11) T.cl T.me_change_stem (pa_cons (pv 10) (pa_cons (pv 12) pa_nil)))) (pa_cons (pv 8) pa_nil)) (T.g "_law_alike"))))))))))))), ?_⟩
    have es50 := A1.sh.small.1
    have lens : (L.S.es.map En.n).length = L.S.es.length := List.length_map ..
    have wlL : ∀ {H' : Hp}, Fr (fun b => b = wl) H H' → LawAt K L H' := fun F => A1.of_fr F fun b hb z => hwl (by rw [← z]; exact hb)
    have wlne : ∀ {b : Addr}, H b = none → b ≠ wl := fun {b} hb z => by
      obtain ⟨_, e⟩ := W.sq (K := K)
      rw [z, e] at hb
      cases hb
    have tlp : 0 < L.tl.length := by
      cases q : L.S.es with
      | nil => rw [q] at h1; simp at h1
      | cons e es =>
        have := O.mem e (by rw [q]; exact List.mem_cons_self)
        exact List.length_pos_of_mem this
    refine ⟨_, rfl, st, _, rfl, SqT.of hst, rfl, _, _, rfl, _, _, rfl, _, _, rfl, _, _, rfl, _, _, rfl, rfl, ?_⟩
    refine ⟨_, rfl, _, rfl, L.aT, _, L.S.es.map En.n, rfl, .inl A1.tw, dict_keys _ _, by omega, fun ys p hp hs hn => ?_⟩
    rw [nums_sorted A1.sh.inc hp hs]
    have s1 : Same H (upd H p (.lst ((L.S.es.map En.n).map V.int))) := same_upd hn
    refine ⟨wl, p, L.S.es.map En.n, rfl, W.same s1, upd_same, wlne hn, by omega, by omega, fun n H1 hnm W1 F1 => ?_⟩
    obtain ⟨e, he, rfl⟩ := List.mem_map.mp hnm
    have F01 : Fr (fun b => b = wl) H H1 := (Fr.of s1).trans F1
    have A2 := wlL F01
    refine ⟨_, rfl, L.aL, L.tl, rfl, SqL.of A2.to, tlp, fun m hm1 hm2 => ⟨_, _, rfl, rfl, ?_⟩⟩
    refine ⟨_, rfl, _, rfl, _, rfl, L, 8, e, rfl, A2, O.gd, he, fun H2 s2 => ?_⟩
    have F02 := F01.trans (Fr.of s2)
    refine bad_read rfl (W1.same s2) fun H3 bd xs rs hbad hbd0 hbd hda W3 F3 => ?_
    have F03 := F02.trans F3
    have bd0 : H bd = none := F02.free (fun z => by
      obtain ⟨_, q⟩ := (W1.same s2).sq (K := K)
      rw [z, q] at hbd0
      cases hbd0) hbd0
    refine wr_read rfl rfl rfl W3 fun H4 wr ns hwr hwr0 hwr4 W4 F4 => ?_
    have F04 := F03.trans F4
    have wr0 : H wr = none := F03.free (fun z => by
      obtain ⟨_, q⟩ := W3.sq (K := K)
      rw [z, q] at hwr0
      cases hwr0) hwr0
    have bd4 := F4.at (wlne bd0) hbd
    have hda4 := hda.fr F4
    have A4 := wlL F04
    have hHas : hasB L.S.es e.n = true := hasB_iff.mpr ⟨e, he, rfl⟩
    have hNo : hasB L.S.es (m + 1) = false := by
      cases q : hasB L.S.es (m + 1) with
      | false => rfl
      | true =>
        obtain ⟨x, hx, ex⟩ := hasB_iff.mp q
        have := hm2 x.n (O.mem x hx)
        omega
    have uniq : ∀ {x : En}, x ∈ L.S.es → x.n = e.n → x = e := fun hx q => mem_inj A1.sh.inc hx he q
    -- what an asked one gives
    have ask : ∀ {H5 H7 : Hp}, Fr (fun b => b = wl) H H5 → LamX.ExtN H5 H7 → LamX.Tabs (T0 K) H7 → WellAt wl H5 → LawAt K L H7 ∧ FrN M0 H5 H7 ∧ ∀ H8, Same H7 H8 → LawAt K L H8 ∧ WellAt wl H8 ∧ FrN (fun b => b = wl) H H8 ∧ LamX.Tabs (T0 K) H8 := fun {H5 H7} F5 eN T7 W5 => by
      have F57 : FrN M0 H5 H7 := FrN.of eN
      have A7 := (wlL F5).of_frn F57 (fun _ _ z => z)
      exact ⟨A7, F57, fun H8 s8 => ⟨A7.same s8, (W5.frn F57 (fun z => z)).same s8, (F5.n.trans (FrN.of eN)).trans (Fr.of s8).n, T7.ext s8⟩⟩
    have done : ∀ {H8 : Hp}, LawAt K L H8 ∧ WellAt wl H8 ∧ FrN (fun b => b = wl) H H8 ∧ LamX.Tabs (T0 K) H8 → Q (.bl true) H8 := fun ⟨a, b, c, d⟩ => k _ a b c d
    -- a hold let go that isn't there
    refine ⟨fun σ' H' => σ' = [some (.ref wl), some (.ref st), some (.ref L.aT), some (.ref L.aH), some (.ref L.aG), some (.ref L.aL), some (.int (m + 1)), some .non, none, some (.ref bd), some (.int e.n), some (.ref L.S.p), some (.ref wr)] ∧ WellAt wl H' ∧ Fr (fun b => b = wl) H H' ∧ H' bd = some (.lst xs) ∧ DaL H' xs (rs.map rowD) ∧ H' wr = some (.lst (ns.map V.int)), ?_, ?_⟩
    · refine ⟨_, rfl, wl, 4, rfl, W4, by decide, by decide, fun r1 H5 r10 r14 W5 F5 => ⟨rfl, _, rfl, ?_⟩⟩
      have F05 := F04.trans F5
      have A5 := wlL F05
      have keep : WellAt wl H5 ∧ Fr (fun b => b = wl) H H5 ∧ H5 bd = some (.lst xs) ∧ DaL H5 xs (rs.map rowD) ∧ H5 wr = some (.lst (ns.map V.int)) := ⟨W5, F05, F5.at (wlne bd0) bd4, hda4.fr F5, F5.at (wlne wr0) hwr4⟩
      by_cases z : r1 = 0
      · rw [show decide (V.int r1 = V.int 0) = true from decide_eq_true (by rw [z])]
        refine iteT ⟨_, rfl, _, rfl, L.aH, _, rfl, A5.gH he, rfl, _, rfl, ?_⟩
        by_cases z2 : e.hd = 0
        · rw [show decide (V.int e.hd = V.int 0) = true from decide_eq_true (by rw [z2])]
          refine iteT ⟨Tabs.fr F05 hTab, fun H7 eN T7 => ?_⟩
          obtain ⟨A7, F57, fin⟩ := ask F05 eN T7 W5
          show tMeth (ga K "Shelf") "let_go" (spLG K) [] (AskE K _) (tVar 11) (tCons (tVar 10) tNil) _ H7 (AskV _)
          refine ⟨_, rfl, L.S.p, _, _, rfl, A7.sh.ob, rfl, _, rfl, L.S, e.n, rfl, A7.sh, (fun h => absurd rfl (h e he)), (fun x hx ex hx0 H8 d8 s8 hd8 => ?_), fun x hx ex hx0 => absurd (by rw [uniq hx ex]; exact z2) hx0⟩
          refine .inr (.inr (.inr (.inr ⟨rfl, d8, e.n, rfl, hd8, fun H9 pf s9 hpf hp9 => ?_⟩)))
          refine ⟨_, rfl, small100 (by simp), fun q hq => ?_⟩
          have s10 : Same H9 (upd H9 q (.tup [.str "held", .int e.n])) := same_upd hq
          exact ⟨.ref pf, .ref q, .tuple [.str "held", .int e.n], rfl, .tup (s10 _ _ hp9) (.cons (.str _) (.cons (.int _) .nil)), .tup upd_same (.cons (.str _) (.cons (.int _) .nil)), rfl, fun H11 s11 => done (fin H11 (s8.trans (s9.trans (s10.trans s11))))⟩
        · rw [show decide (V.int e.hd = V.int 0) = false from decide_eq_false (fun q => z2 (V.int.inj q))]
          exact iteF ⟨rfl, keep⟩
      · rw [show decide (V.int r1 = V.int 0) = false from decide_eq_false (fun q => z (V.int.inj q))]
        exact iteF (iteF ⟨rfl, keep⟩)
    rintro σ5 H5 ⟨rfl, W5, F5, bd5, hda5, wr5⟩
    obtain ⟨hsm, hrl⟩ := hbad.sm
    refine ⟨_, rfl, wl, 2, rfl, W5, by decide, by decide, fun r1 H6 r10 r12 W6 F6 => ⟨rfl, _, rfl, ?_⟩⟩
    have F06 := F5.trans F6
    have A6 := wlL F06
    have bd6 := F6.at (wlne bd0) bd5
    have hda6 := hda5.fr F6
    have wr6 := F6.at (wlne wr0) wr5
    by_cases z : r1 = 0
    · rw [show decide (V.int r1 = V.int 0) = true from decide_eq_true (by rw [z])]
      refine iteT ?_
      -- rows for a leaf
      refine ⟨fun σ' H' => ∃ (v : V) (d : PyData), σ' = [some (.ref wl), some (.ref st), some (.ref L.aT), some (.ref L.aH), some (.ref L.aG), some (.ref L.aL), some (.int (m + 1)), some .non, some v, some (.ref bd), some (.int e.n), some (.ref L.S.p), some (.ref wr)] ∧ Same H6 H' ∧ DueV H' v (some d) ∧ (((∃ r ∈ rs, ¬ okK r) ∧ d = .tuple [.str "key"]) ∨ ((∀ r ∈ rs, okK r) ∧ d = .tuple [.str "leaf"])), ?_, ?_⟩
      · refine ⟨_, rfl, bd, xs, rs, rfl, bd6, hda6, hrl, fun hk H7 p s7 hp hp7 => ?_, fun hk => ?_⟩
        · refine ⟨.ref p, _, rfl, s7, ⟨p, rfl, .tup hp7 (.cons (.str _) .nil)⟩, .inl ⟨?_, rfl⟩⟩
          rcases hbad.kind with ⟨a, _⟩ | ⟨_, b, _⟩
          · exact a
          · obtain ⟨r, hr, q⟩ := hk
            have := b r hr
            rcases q with q | q
            · rw [this.1] at q; cases q
            · rw [this.2] at q; cases q
        · rcases hbad.kind with ⟨_, r, hr, q⟩ | ⟨a, _, c⟩
          · have := hk r hr
            rcases q with q | q
            · rw [this.1] at q; cases q
            · rw [this.2] at q; cases q
          · refine ⟨fun r hr => isW_kd 3 _ (a r hr).1, c, fun H7 p s7 hp hp7 => ?_⟩
            exact ⟨.ref p, _, rfl, s7, ⟨p, rfl, .tup hp7 (.cons (.str _) .nil)⟩, .inr ⟨a, rfl⟩⟩
      rintro σ7 H7 ⟨v, d, rfl, s7, hdv, hd⟩
      have A7 := A6.same s7
      refine ⟨fun σ' H' => ∃ (v : V) (d : PyData), σ' = [some (.ref wl), some (.ref st), some (.ref L.aT), some (.ref L.aH), some (.ref L.aG), some (.ref L.aL), some (.int (m + 1)), some .non, some v, some (.ref bd), some (.int e.n), some (.ref L.S.p), some (.ref wr)] ∧ Same H6 H' ∧ DueV H' v (some d) ∧
        (((∃ qs, e.tw = .stem qs) ∧ d = .tuple [.str "leaf"]) ∨ ((∃ qs, e.tw = .leaf qs) ∧ (∃ r ∈ rs, ¬ okK r) ∧ d = .tuple [.str "key"]) ∨ ((∃ qs, e.tw = .leaf qs) ∧ (∀ r ∈ rs, okK r) ∧ d = .tuple [.str "leaf"])), ?_, ?_⟩
      · refine ⟨_, rfl, _, rfl, L.aT, _, rfl, A7.gT he, L.lt e.n, _, 0, _, rfl, rfl, SqT.of (A7.tp e he), atI_nat (j := 0) rfl, rfl, _, rfl, ?_⟩
        cases ht : e.tw with
        | stem qs =>
          rw [show decide (V.str (Twg.stem qs).kind = V.str "stem") = true from (by decide +kernel : decide (V.str "stem" = V.str "stem") = true)]
          exact iteT ⟨small100 (by simp), fun p hp => ⟨.ref p, _, rfl, s7.trans (same_upd hp), ⟨p, rfl, .tup upd_same (.cons (.str _) .nil)⟩, .inl ⟨⟨qs, rfl⟩, rfl⟩⟩⟩
        | leaf qs =>
          rw [show decide (V.str (Twg.leaf qs).kind = V.str "stem") = false from (by decide +kernel : decide (V.str "leaf" = V.str "stem") = false)]
          refine iteF ⟨_, rfl, rfl, false, rfl, iteF ⟨v, d, rfl, s7, hdv, ?_⟩⟩
          rcases hd with ⟨a, b⟩ | ⟨a, b⟩
          · exact .inr (.inl ⟨⟨qs, rfl⟩, a, b⟩)
          · exact .inr (.inr ⟨⟨qs, rfl⟩, a, b⟩)
      clear hdv hd
      rintro σ8 H8 ⟨v, d, rfl, s8, ⟨q, rfl, hdq⟩, hd⟩
      have F08 : Fr (fun b => b = wl) H H8 := F06.trans (Fr.of s8)
      refine ⟨Tabs.fr F08 hTab, fun H9 eN T9 => ?_⟩
      obtain ⟨A9, F89, fin⟩ := ask F08 eN T9 (W6.same s8)
      have bd9 := F89.lst (fun z => z) (s8 _ _ bd6)
      have hda9 := (hda6.same s8).frn F89
      have hdq9 := hdq.frn F89
      have cl : clD 5 d = true := by
        rcases hd with ⟨_, rfl⟩ | ⟨_, _, rfl⟩ | ⟨_, _, rfl⟩ <;> rfl
      have end_ : ∀ {H10 : Hp} {pf : Addr}, Same H9 H10 → Da H10 (.ref pf) d → ∃ (v u : V) (d' : PyData), [V.ref pf, V.ref q] = [v, u] ∧ Da H10 v d' ∧ Da H10 u d' ∧ clD 5 d' = true ∧ ∀ H11, Same H10 H11 → Q (.bl true) H11 := fun s10 hdp => ⟨_, _, d, rfl, hdp, hdq9.same s10, cl, fun H11 s11 => done (fin H11 (s10.trans s11))⟩
      show tMeth (ga K "Shelf") "change_leaf" (spCL K) [] (AskE K _) (tVar 11) (tCons (tVar 10) (tCons (tVar 9) tNil)) _ H9 (AskV _)
      refine ⟨_, rfl, L.S.p, _, _, rfl, A9.sh.ob, rfl, _, rfl, _, rfl, L.S, 8, e.n, bd, xs, rs, rfl, A9.sh, O.gd, SqL.of bd9, hda9, hsm, hrl, hbad.not, (fun h => absurd rfl (h e he)), fun x hx ex => ?_⟩
      obtain rfl := uniq hx ex
      refine ⟨fun qs ht H10 s10 => ?_, fun qs ht => ⟨fun hk H10 s10 => ?_, fun hk H10 s10 => ?_⟩⟩
      · refine .inr (.inl ⟨rfl, rfl, fun H11 pf s11 hpf hp11 => ⟨_, rfl, ?_⟩⟩)
        refine end_ (s10.trans s11) ?_
        rcases hd with ⟨_, rfl⟩ | ⟨⟨q', h'⟩, _⟩ | ⟨⟨q', h'⟩, _⟩
        · exact .tup hp11 (.cons (.str _) .nil)
        · rw [ht] at h'; cases h'
        · rw [ht] at h'; cases h'
      · refine .inl ⟨rfl, rfl, fun H11 pf s11 hpf hp11 => ⟨_, rfl, ?_⟩⟩
        refine end_ (s10.trans s11) ?_
        rcases hd with ⟨⟨q', h'⟩, _⟩ | ⟨_, _, rfl⟩ | ⟨_, h', _⟩
        · rw [ht] at h'; cases h'
        · exact .tup hp11 (.cons (.str _) .nil)
        · obtain ⟨r, hr, hno⟩ := hk
          exact absurd (h' r hr) hno
      · refine .inr (.inl ⟨rfl, rfl, fun H11 pf s11 hpf hp11 => ⟨_, rfl, ?_⟩⟩)
        refine end_ (s10.trans s11) ?_
        rcases hd with ⟨_, rfl⟩ | ⟨_, ⟨r, hr, hno⟩, _⟩ | ⟨_, _, rfl⟩
        · exact .tup hp11 (.cons (.str _) .nil)
        · exact absurd (hk r hr) hno
        · exact .tup hp11 (.cons (.str _) .nil)
    · rw [show decide (V.int r1 = V.int 0) = false from decide_eq_false (fun q => z (V.int.inj q))]
      refine iteF ?_
      -- branches for a stem
      refine ⟨small100 (by simp), fun p0 hp0 => ?_⟩
      have s7 : Same H6 (upd H6 p0 (.tup [.str "stem"])) := same_upd hp0
      have p7 : (upd H6 p0 (.tup [.str "stem"])) p0 = some (.tup [.str "stem"]) := upd_same
      generalize upd H6 p0 (.tup [.str "stem"]) = H7 at s7 p7 ⊢
      have A7 := A6.same s7
      refine ⟨fun σ' H' => ∃ (v : V) (d : PyData), σ' = [some (.ref wl), some (.ref st), some (.ref L.aT), some (.ref L.aH), some (.ref L.aG), some (.ref L.aL), some (.int (m + 1)), some .non, some v, some (.ref bd), some (.int e.n), some (.ref L.S.p), some (.ref wr)] ∧ Same H6 H' ∧ DueV H' v (some d) ∧
        (((∃ qs, e.tw = .leaf qs) ∧ d = .tuple [.str "stem"]) ∨ ((∃ qs, e.tw = .stem qs) ∧ ns.contains (m + 1) = true ∧ d = .tuple [.str "twig", .int (m + 1)]) ∨ ((∃ qs, e.tw = .stem qs) ∧ ns.contains (m + 1) = false ∧ d = .tuple [.str "stem"])), ?_, ?_⟩
      · refine ⟨_, rfl, _, rfl, L.aT, _, rfl, A7.gT he, L.lt e.n, _, 0, _, rfl, rfl, SqT.of (A7.tp e he), atI_nat (j := 0) rfl, rfl, _, rfl, ?_⟩
        cases ht : e.tw with
        | leaf qs =>
          rw [show decide (V.str (Twg.leaf qs).kind = V.str "stem") = false from (by decide +kernel : decide (V.str "leaf" = V.str "stem") = false)]
          refine iteF (iteF ⟨_, rfl, _, rfl, L.aT, _, rfl, A7.gT he, L.lt e.n, _, 0, _, rfl, rfl, SqT.of (A7.tp e he), atI_nat (j := 0) rfl, rfl, false, ?_, iteF (iteF ⟨.ref p0, _, rfl, s7, ⟨p0, rfl, .tup p7 (.cons (.str _) .nil)⟩, .inl ⟨⟨qs, rfl⟩, rfl⟩⟩)⟩)
          rw [ht]
          exact (by decide +kernel : V.bl (decide (V.str "leaf" = V.str "stem")) = V.bl false)
        | stem qs =>
          rw [show decide (V.str (Twg.stem qs).kind = V.str "stem") = true from (by decide +kernel : decide (V.str "stem" = V.str "stem") = true)]
          refine iteT ⟨_, rfl, rfl, false, rfl, iteF ⟨_, rfl, _, rfl, L.aT, _, rfl, A7.gT he, L.lt e.n, _, 0, _, rfl, rfl, SqT.of (A7.tp e he), atI_nat (j := 0) rfl, rfl, true, ?_, iteT ⟨_, rfl, _, rfl, wr, _, rfl, .inl (SqL.of (s7 _ _ wr6)), rfl, flat_ints ns, ns.contains (m + 1), ?_, ?_⟩⟩⟩
          · rw [ht]
            exact (by decide +kernel : V.bl (decide (V.str "stem" = V.str "stem")) = V.bl true)
          · show V.bl (if false = true then !inV (.int (m + 1)) (ns.map V.int) else inV (.int (m + 1)) (ns.map V.int)) = _
            rw [if_neg (by decide), inV_ints]
          · cases hc : ns.contains (m + 1) with
            | true => exact iteT ⟨_, rfl, small100 (by simp), fun p hp => ⟨.ref p, _, rfl, s7.trans (same_upd hp), ⟨p, rfl, .tup upd_same (.cons (.str _) (.cons (.int _) .nil))⟩, .inr (.inl ⟨⟨qs, rfl⟩, rfl, rfl⟩)⟩⟩
            | false => exact iteF ⟨.ref p0, _, rfl, s7, ⟨p0, rfl, .tup p7 (.cons (.str _) .nil)⟩, .inr (.inr ⟨⟨qs, rfl⟩, rfl, rfl⟩)⟩
      rintro σ8 H8 ⟨v, d, rfl, s8, ⟨q, rfl, hdq⟩, hd⟩
      have F08 : Fr (fun b => b = wl) H H8 := F06.trans (Fr.of s8)
      refine ⟨Tabs.fr F08 hTab, fun H9 eN T9 => ?_⟩
      obtain ⟨A9, F89, fin⟩ := ask F08 eN T9 (W6.same s8)
      have wr9 := F89.lst (fun z => z) (s8 _ _ wr6)
      have hdq9 := hdq.frn F89
      have cl : clD 5 d = true := by
        rcases hd with ⟨_, rfl⟩ | ⟨_, _, rfl⟩ | ⟨_, _, rfl⟩ <;> rfl
      have end_ : ∀ {H10 : Hp} {pf : Addr}, Same H9 H10 → Da H10 (.ref pf) d → ∃ (v u : V) (d' : PyData), [V.ref pf, V.ref q] = [v, u] ∧ Da H10 v d' ∧ Da H10 u d' ∧ clD 5 d' = true ∧ ∀ H11, Same H10 H11 → Q (.bl true) H11 := fun s10 hdp => ⟨_, _, d, rfl, hdp, hdq9.same s10, cl, fun H11 s11 => done (fin H11 (s10.trans s11))⟩
      have hk := hwr.kind hHas hNo
      have lns : ns.length ≤ 100 := by
        rcases hwr with rfl | rfl | rfl | rfl <;> simp
      show tMeth (ga K "Shelf") "change_stem" (spCS K) [] (AskE K _) (tVar 11) (tCons (tVar 10) (tCons (tVar 12) tNil)) _ H9 (AskV _)
      refine ⟨_, rfl, L.S.p, _, _, rfl, A9.sh.ob, rfl, _, rfl, _, rfl, L.S, 8, e.n, wr, ns, rfl, A9.sh, O.gd, SqL.of wr9, lns, fun hall => ?_, (fun h => absurd rfl (h e he)), fun x hx ex => ?_⟩
      · rcases hk with ⟨a, b⟩ | ⟨_, _, c⟩
        · have := List.find?_some b
          have hmem := List.mem_of_find?_eq_some b
          rw [hasB_iff.mpr (hall _ hmem)] at this
          cases this
        · exact c
      obtain rfl := uniq hx ex
      refine ⟨fun qs ht H10 s10 => ?_, fun qs ht => ⟨fun m' hm' H10 d10 s10 hd10 => ?_, fun hno H10 s10 => ?_⟩⟩
      · refine .inr (.inr (.inl ⟨rfl, rfl, fun H11 pf s11 hpf hp11 => ⟨_, rfl, ?_⟩⟩))
        refine end_ (s10.trans s11) ?_
        rcases hd with ⟨_, rfl⟩ | ⟨⟨q', h'⟩, _⟩ | ⟨⟨q', h'⟩, _⟩
        · exact .tup hp11 (.cons (.str _) .nil)
        · rw [ht] at h'; cases h'
        · rw [ht] at h'; cases h'
      · refine .inr (.inr (.inr (.inl ⟨rfl, d10, m', rfl, hd10, fun H11 pf s11 hpf hp11 => ⟨_, rfl, ?_⟩⟩)))
        refine end_ (s10.trans s11) ?_
        rcases hk with ⟨a, b⟩ | ⟨a, b, _⟩
        · rw [b] at hm'
          cases hm'
          rcases hd with ⟨⟨q', h'⟩, _⟩ | ⟨_, _, rfl⟩ | ⟨_, h', _⟩
          · rw [ht] at h'; cases h'
          · exact .tup hp11 (.cons (.str _) (.cons (.int _) .nil))
          · rw [a] at h'; cases h'
        · rw [b] at hm'
          cases hm'
      · refine .inr (.inr (.inl ⟨rfl, rfl, fun H11 pf s11 hpf hp11 => ⟨_, rfl, ?_⟩⟩))
        refine end_ (s10.trans s11) ?_
        rcases hk with ⟨a, b⟩ | ⟨a, b, _⟩
        · rw [b] at hno
          cases hno
        · rcases hd with ⟨_, rfl⟩ | ⟨_, h', _⟩ | ⟨_, _, rfl⟩
          · exact .tup hp11 (.cons (.str _) .nil)
          · rw [a] at h'; cases h'
          · exact .tup hp11 (.cons (.str _) .nil)
end
end Tw

namespace Tw
open PySem PySem.Spec PyProof.Rows L2 He
/-- a test behind which a thing is known -/
def tJoinT (t : TT) : TT := fun σ H Q => ∃ N : Bool → Hp → Prop, t σ H N ∧ ∀ b H', N b H' → Q b H'
theorem pt_join {X : Cx} {e : Expr} {t : TT} (h : PT X e t) : PT X e (tJoinT t) := by
  refine ⟨fun pins s σ H Q I q => ?_⟩
  obtain ⟨N, q1, q2⟩ := q
  exact wpAny_mono (h.run pins s σ H N I q1) (fun b s' ⟨H', J, n⟩ => ⟨H', J, q2 b H' n⟩) fun e s' z => z
section
variable {P : Program} {w : World} {K : PySem.W.Frag} {mg : Str → Option Value} {base : Heap}
/-- the script's list: not among what changes -/
def ScrAt (K : PySem.W.Frag) (a : Addr) (xs : List V) (Mv : Addr → Prop) (H : Hp) : Prop := (H a = some (.lst xs) ∧ ¬ Mv a) ∨ (∃ o, H a = some (.frz o (.lst xs))) ∨ (∀ H, SqL K H a xs)
theorem ScrAt.sq {a : Addr} {xs : List V} {Mv : Addr → Prop} {H : Hp} (h : ScrAt K a xs Mv H) : SqL K H a xs := by
  rcases h with ⟨h, _⟩ | ⟨o, h⟩ | h
  · exact .inl (.inl h)
  · exact .inl (.inr ⟨o, h⟩)
  · exact h H
theorem ScrAt.step {a : Addr} {xs : List V} {Mv Mv' M : Addr → Prop} {H H' : Hp} (h : ScrAt K a xs Mv H) (F : FrN M H H') (hm : H a = some (.lst xs) → ¬ Mv a → ¬ M a ∧ ¬ Mv' a) : ScrAt K a xs Mv' H' := by
  rcases h with ⟨h, hM⟩ | ⟨o, h⟩ | h
  · exact .inl ⟨F.lst (hm h hM).1 h, (hm h hM).2⟩
  · exact .inr (.inl ⟨o, (F a _ h fun ps z => nomatch z).resolve_right fun z => z.2⟩)
  · exact .inr (.inr h)
/-- how things stand between two turns -/
structure Turn (K : PySem.W.Frag) (st a : Addr) (xs : List V) (L : LS) (H : Hp) (n : Nat) : Prop where
  st : StAt L st H
  at_ : LawAt K L H
  ok : LawOk L 8
  one : 1 ≤ L.S.es.length
  few : L.S.es.length ≤ 20
  tl : L.tl.length ≤ n
  scr : ScrAt K a xs L.M H
  tab : LamX.Tabs (T0 K) H
/-- the same within a turn, with its well -/
structure Mid (K : PySem.W.Frag) (st a wk : Addr) (xs : List V) (L : LS) (H : Hp) (n : Nat) : Prop where
  st : StAt L st H
  at_ : LawAt K L H
  ok : LawOk L 8
  one : 1 ≤ L.S.es.length
  few : L.S.es.length ≤ 20
  tl : L.tl.length ≤ n
  well : WellAt wk H
  nwk : ¬ L.M wk
  scr : ScrAt K a xs (fun b => L.M b ∨ b = wk) H
  tab : LamX.Tabs (T0 K) H
theorem Mid.turn {st a wk : Addr} {xs : List V} {L : LS} {H : Hp} {n : Nat} (U : Mid K st a wk xs L H n) : Turn K st a xs L H n := ⟨U.st, U.at_, U.ok, U.one, U.few, U.tl, U.scr.step (FrN.refl (M := M0) H) (fun _ h => ⟨fun z => z, fun z => h (.inl z)⟩), U.tab⟩
theorem Mid.begin {st a wk : Addr} {xs : List V} {L : LS} {H H' : Hp} {n : Nat} (U : Turn K st a xs L H n) (s : Same H H') (hwk : H wk = none) (W : WellAt wk H') : Mid K st a wk xs L H' n :=
  ⟨s _ _ U.st, U.at_.same s, U.ok, U.one, U.few, U.tl, W, U.at_.no hwk, U.scr.step (M := M0) (Fr.of s).n (fun e h => ⟨fun z => z, fun z => z.elim h fun y => by rw [y, hwk] at e; cases e⟩), U.tab.ext s⟩
theorem Mid.moved {st a wk : Addr} {xs : List V} {L : LS} {H H' : Hp} {n : Nat} (U : Mid K st a wk xs L H n) (F : FrN (fun b => b = wk) H H') (W : WellAt wk H') (T : LamX.Tabs (T0 K) H') : Mid K st a wk xs L H' n :=
  ⟨F.tup U.st, U.at_.of_frn F (fun b hb z => U.nwk (by rw [← z]; exact hb)), U.ok, U.one, U.few, U.tl, W, U.nwk, U.scr.step F (fun _ h => ⟨fun z => h (.inr z), h⟩), T⟩
theorem Mid.unk {st a wk : Addr} {xs : List V} {L L' : LS} {H H' : Hp} {n : Nat} (U : Mid K st a wk xs L H n) (A : LawAt K L' H') (O : LawOk L' 8) (al : Alike L L') (es : L'.S.es = L.S.es) (tl : L'.tl.length ≤ L.tl.length + 1) (W : WellAt wk H') (kp : Keeps L L' H) (F : FrN (fun b => L.M b ∨ b = wk) H H') (T : LamX.Tabs (T0 K) H') : Mid K st a wk xs L' H' (n + 1) := by
  have nw : ¬ L'.M wk := by
    obtain ⟨_, _, _, _, e, _⟩ := U.well
    exact kp wk _ e (fun ps z => nomatch z) U.nwk
  exact ⟨al.st (F.tup U.st), A, O, by rw [es]; exact U.one, by rw [es]; exact U.few, by have := U.tl; omega, W, nw, U.scr.step F (fun e h => ⟨h, fun z => z.elim (kp a _ e (fun ps z => nomatch z) fun y => h (.inl y)) fun y => h (.inr y)⟩), T⟩
theorem Mid.more {st a wk : Addr} {xs : List V} {L : LS} {H : Hp} {n : Nat} (U : Mid K st a wk xs L H n) : Mid K st a wk xs L H (n + 1) := ⟨U.st, U.at_, U.ok, U.one, U.few, by have := U.tl; omega, U.well, U.nwk, U.scr, U.tab⟩
def spLaw (K : PySem.W.Frag) : Sp := fun vs H Q _ => ∃ (a : Addr) (ns : List Int), vs = [.ref a] ∧ SqL K H a (ns.map V.int) ∧ ns.length ≤ 63 ∧ LamX.Tabs (T0 K) H ∧ ∀ H', Q (.bl true) H'
theorem sc_law : FnScope ["_law_script", "_law_state", "_law_k", "_law_well_here"] ["_law_script"] d_law.scope := ⟨rfl, rfl, rfl, by decide +kernel, rfl, by decide +kernel, by decide +kernel⟩
/-- a def that lets nothing out, at a given function -/
theorem okdF {d : DefD} {N ps : List Str} {k : Nat} {sp : Sp} {fd : FuncData} (F : FunD K d.name d.qual d.params d.body d.scope (d.dvs K) (d.kws K) (fAd K d.at_) fd) (S : FnScope N ps d.scope) (len : ∀ vs H Q E, sp vs H Q E → vs.length = ps.length)
    (hbody : ∀ (cdv : Value) (A : Around) (outer : List Env) (s : Shared) (H : Hp) (vs : List V) (Q : VK) (E : XK), Room k (A.deeper (envOfC d.qual d.scope s.heap.objs.size (fAd K d.at_) cdv)) → sp vs H Q E →
      ∃ t, PSs (cxOf CX0 P w K mg base N d.qual d.scope (fAd K d.at_) cdv A outer s H E).nox d.body t ∧ t { nx := fun _ H' => Q .non H', rt := Q } (start N vs) H)
    (h1 : d.dfl = [] := by rfl) (h2 : d.kwd = [] := by rfl) : FnOk P w K mg base CX0 (k + 1) (fAd K d.at_) fd ps sp := by
  have e1 : d.dvs K = [] := by unfold DefD.dvs; rw [h1]; rfl
  have e2 : d.kws K = [] := by unfold DefD.kws; rw [h2]; rfl
  rw [e1, e2] at F
  refine F.ok S len fun cdv A outer s H vs Q E hr h => ?_
  obtain ⟨t, h, q⟩ := hbody cdv A outer s H vs Q E hr h
  exact ⟨t, h.nox, q⟩
theorem ok_law (T : Tx K mg) (B : ∀ x ∈ tfL, LamX.TabB base mg (cT K x).1 (cT K x).2) {fd : FuncData} (F : FunD K d_law.name d_law.qual d_law.params d_law.body d_law.scope (d_law.dvs K) (d_law.kws K) (fAd K d_law.at_) fd) : FnOk P w K mg base CX0 14 (fAd K d_law.at_) fd ["_law_script"] (spLaw K) := by
  refine okdF F sc_law (fun vs H Q E h => ?_) (fun cdv A outer s H vs Q E hr h => ?_)
  · obtain ⟨a, ns, rfl, _⟩ := h
    rfl
  · obtain ⟨a, ns, rfl, hns, h63, hT, k⟩ := h
    refine ⟨_, pss_cons (ps_set (i := 1) sc_law.nd rfl (Or.inl rfl) (pcl (ok_beg T B) hr pass0 (pa_cons (pcl (ok_well T) hr pass0 (pa_cons (pv 0) (pa_cons pe_int pa_nil)) (T.g "_law_well")) (pa_cons pe_int (pa_cons pe_int pa_nil))) (T.g "_law_begun")))
      (pss_cons (ps_if (pt_cmpR op_isN (pv 1) pe_non (nomark _)) (pss_one (ps_ret pe_bl)) pss_nil)
      (pss_cons (ps_for PassesOwn.never rfl (pi_range2 (by rfl) (T.f "range") (pa_cons pe_int (pa_cons (pe_callB (call_max2 rfl) (by rfl) (T.f "max") (by decide +kernel) (pa_cons pe_int (pa_cons (pe_callB (call_min2 rfl) (by rfl) (T.f "min") (by decide +kernel) (pa_cons (pe_callB call_len_seq (by rfl) (T.f "len") PySem.boot_len (pa_cons (pv 0) pa_nil)) (pa_cons pe_int pa_nil))) pa_nil))) pa_nil))) (pg_name (i := 2) sc_law.nd rfl (Or.inl rfl))
        (pss_cons (ps_set (i := 3) sc_law.nd rfl (Or.inl rfl) (pcl (ok_well T) hr pass0 (pa_cons (pv 0) (pa_cons (pv 2) pa_nil)) (T.g "_law_well")))
        (pss_cons (ps_if (PW.pt (pw_or (pt_join (PW.pt (pw_and (pt_cmpR op_eq (pcl (ok_pull T) hr pass0 (pa_cons (pv 3) (pa_cons pe_int pa_nil)) (T.g "_law_pull")) pe_int (nomark _)) (pw_and1 (pt_not (pt_val (pcl (ok_unk T B) hr pass0 (pa_cons (pv 3) (pa_cons (pv 1) pa_nil)) (T.g "_law_unknown"))))))))
            (pw_or1 (pt_not (pt_val (pcl (ok_ams T B) hr pass0 (pa_cons (pv 3) (pa_cons (pv 1) pa_nil)) (T.g "_law_amiss"))))))) (pss_one (ps_ret pe_bl)) pss_nil)
        (pss_one (ps_if (PW.pt (pw_and (pt_cmpR op_eq (pe_op op_mod (pv 2) pe_int) pe_int (nomark _)) (pw_and1 (pt_not (pt_val (pcl (ok_exa T) hr pass0 (pa_cons (pe_ix ix_tup (pv 1) pe_int (fun _ _ => rfl)) (pa_cons (pe_ix ix_tup (pv 1) pe_int (fun _ _ => rfl)) (pa_cons (pe_ix ix_tup (pv 1) pe_int (fun _ _ => rfl)) pa_nil))) (T.g "_law_exact"))))))) (pss_one (ps_ret pe_bl)) pss_nil)))))
      (pss_one (ps_ret (pcl (ok_exa T) hr pass0 (pa_cons (pe_ix ix_tup (pv 1) pe_int (fun _ _ => rfl)) (pa_cons (pe_ix ix_tup (pv 1) pe_int (fun _ _ => rfl)) (pa_cons (pe_ix ix_tup (pv 1) pe_int (fun _ _ => rfl)) pa_nil))) (T.g "_law_exact")))))), ?_⟩
    -- the exact check: nothing is lost
    have exa : ∀ {L : LS} {H1 H2 : Hp} {sn st : Addr} {n : Nat}, Turn K st a (ns.map V.int) L H1 n → H1 sn = none → LawAt K (L.see sn []) H2 → Fr (fun b => b = L.S.sn ∨ b = L.S.p) H1 H2 → Turn K st a (ns.map V.int) (L.see sn []) H2 n := fun {L H1 H2 sn st n} U hsn A2 F => by
      have M2 : ∀ {b : Addr}, b = L.S.sn ∨ b = L.S.p → L.M b := fun h => by
        rcases h with z | z
        · exact .inl (.inr (.inr (.inr (.inr (.inr (.inl z))))))
        · exact .inl (.inl z)
      exact ⟨F.tup U.st, A2, ⟨U.ok.gd, U.ok.c8, U.ok.ri, U.ok.gk, U.ok.g64, U.ok.ks, U.ok.tl, U.ok.mem, rfl, U.ok.g0⟩, U.one, U.few, U.tl, U.scr.step F.n (fun e h => ⟨fun z => h (M2 z), fun z => (see_M z).elim h fun y => by rw [y, hsn] at e; cases e⟩), Tabs.fr F U.tab⟩
    refine ⟨_, rfl, a, ns, 0, rfl, hns, by omega, by decide, by decide, fun H1 wl s1 hwl0 W1 => ?_⟩
    refine ⟨wl, rfl, W1, hT.ext s1, fun H2 st L hst A2 O2 h1 h20 ht20 Z2 F2 T2 => ?_⟩
    have U0 : Turn K st a (ns.map V.int) L H2 20 := by
      refine ⟨hst, A2, O2, h1, h20, ht20, ?_, T2⟩
      have sc0 : (H a = some (.lst (ns.map V.int))) ∨ (∃ o, H a = some (.frz o (.lst (ns.map V.int)))) ∨ (∀ H, SqL K H a (ns.map V.int)) := by
        rcases hns with (q | ⟨o, q⟩) | q
        · exact .inl q
        · exact .inr (.inl ⟨o, q⟩)
        · exact .inr (.inr fun H => .inr q)
      rcases sc0 with q | ⟨o, q⟩ | q
      · have q1 := s1 _ _ q
        exact .inl ⟨F2.lst (fun z => by rw [z, hwl0] at q; cases q) q1, Z2 a _ q1 (fun ps z => nomatch z)⟩
      · exact .inr (.inl ⟨o, (F2 a _ (s1 _ _ q) fun ps z => nomatch z).resolve_right fun z => z.2⟩)
      · exact .inr (.inr q)
    refine ⟨_, rfl, rfl, false, rfl, iteF ?_⟩
    -- the turns
    have hN : ∃ N : Int, (if (if (41 : Int) < (((ns.map V.int).length : Nat) : Int) then (41 : Int) else (((ns.map V.int).length : Nat) : Int)) > 16 then (if (41 : Int) < (((ns.map V.int).length : Nat) : Int) then (41 : Int) else (((ns.map V.int).length : Nat) : Int)) else 16) = N ∧ 16 ≤ N ∧ N ≤ 41 := by
      refine ⟨_, rfl, ?_, ?_⟩
      · split <;> omega
      · split
        · split <;> omega
        · split <;> omega
    obtain ⟨N, eN, hN1, hN2⟩ := hN
    refine ⟨_, rfl, a, _, rfl, .inl U0.scr.sq, _, _, rfl, _, _, rfl, 1, N, by rw [← eN], ⟨by decide, by decide, by omega, by omega⟩, ?_⟩
    refine for_it walk_range (fun i σ H3 => ∃ (L : LS) (z z2 : Option V), σ = [some (.ref a), some (.ref st), z, z2] ∧ Turn K st a (ns.map V.int) L H3 (20 + i)) ⟨L, _, _, rfl, U0⟩ (fun _ _ _ _ _ => True.intro) ?_ ?_
    · rintro i x σ H3 H4 hi ⟨L, z, z2, rfl, U⟩ ⟨rfl, rfl⟩
      have hi41 : i < 40 := by omega
      refine ⟨_, rfl, _, rfl, a, ns, 1 + (i : Int), rfl, U.scr.sq, by omega, by omega, by omega, fun H5 wk s5 hwk W5 => ?_⟩
      have U5 := Mid.begin U s5 hwk W5
      refine ⟨fun b H' => b = false ∧ ∃ L', Mid K st a wk (ns.map V.int) L' H' (20 + (i + 1)), ?_, ?_⟩
      · refine ⟨_, rfl, wk, 2, rfl, U5.well, by decide, by decide, fun r H6 _ _ W6 F6 => ?_⟩
        have U6 := U5.moved F6.n W6 (Tabs.fr F6 U5.tab)
        refine ⟨rfl, _, rfl, ite2 (fun h2 => ?_) (fun h2 => ⟨rfl, _, U6.more⟩)⟩
        refine ⟨_, rfl, _, rfl, wk, st, L, rfl, U6.st, U6.well, U6.nwk, U6.at_, U6.ok, U6.one, by have := U6.few; omega, by have := U6.tl; omega, U6.tab, fun H7 L7 A7 O7 al7 es7 tl7 W7 kp7 F7 T7 => ⟨true, rfl, rfl, L7, U6.unk A7 O7 al7 es7 tl7 W7 kp7 F7 T7⟩⟩
      · rintro b H7 ⟨rfl, L7, U7⟩
        refine iteF ⟨_, rfl, _, rfl, wk, st, L7, rfl, U7.st, U7.well, U7.nwk, U7.at_, U7.ok, U7.one, U7.tab, fun H8 A8 W8 F8 T8 => ⟨true, rfl, iteF ?_⟩⟩
        have U8 := (U7.moved F8 W8 T8).turn
        refine ⟨_, rfl, _, _, rfl, rfl, (show (0 : Int) < 6 by decide), rfl, _, rfl, ite2 (fun h2 => ?_) (fun h2 => iteF ⟨L7, _, _, rfl, U8⟩)⟩
        refine ⟨_, rfl, st, _, 0, _, rfl, rfl, SqT.of U8.st, atI_nat (j := 0) rfl, _, rfl, st, _, 1, _, rfl, rfl, SqT.of U8.st, atI_nat (j := 1) rfl, _, rfl, st, _, 2, _, rfl, rfl, SqT.of U8.st, atI_nat (j := 2) rfl, L7, 8, rfl, U8.at_, U8.ok, fun H9 sn hsn A9 F9 => ⟨true, rfl, iteF ⟨_, _, _, rfl, exa U8 hsn A9 F9⟩⟩⟩
    · rintro σ H3 ⟨L, z, z2, rfl, U⟩
      exact ⟨_, rfl, st, _, 0, _, rfl, rfl, SqT.of U.st, atI_nat (j := 0) rfl, _, rfl, st, _, 1, _, rfl, rfl, SqT.of U.st, atI_nat (j := 1) rfl, _, rfl, st, _, 2, _, rfl, rfl, SqT.of U.st, atI_nat (j := 2) rfl, L, 8, rfl, U.at_, U.ok, fun H9 sn hsn A9 F9 => k H9⟩
end
end Tw

namespace Tw
open PySem PySem.Spec PyProof.Rows L2 He
theorem glo_mem : ∀ x ∈ gloL, Fa.glo x ∈ faL := by
  have e : gloL.all (fun x => faL.any fun f => match f with | .glo y => decide (y = x) | _ => false) = true := by decide +kernel
  intro x hx
  obtain ⟨f, hf, h⟩ := List.any_eq_true.mp (List.all_eq_true.mp e x hx)
  cases f <;> first | exact absurd (show false = true from h) Bool.false_ne_true | exact (of_decide_eq_true h) ▸ hf
theorem free_mem : ∀ x ∈ freeL, Fa.free x ∈ faL := by
  have e : freeL.all (fun x => faL.any fun f => match f with | .free y => decide (y = x) | _ => false) = true := by decide +kernel
  intro x hx
  obtain ⟨f, hf, h⟩ := List.any_eq_true.mp (List.all_eq_true.mp e x hx)
  cases f <;> first | exact absurd (show false = true from h) Bool.false_ne_true | exact (of_decide_eq_true h) ▸ hf
theorem tx {K : PySem.W.Frag} {h : Heap} {mg : Str → Option Value} (X : K.In h) (G : h.Ns mainGlobals mg) (c : SaysY h K) : Tx K mg where
  fa := fun _ hf => c.d.facts hf
  fn := fun _ hd => c.d.defs hd
  gl := fun x hx => He.glo_ok X G (c.d.facts (glo_mem x hx))
  fr := fun x hx => He.free_ok X G (c.d.facts (free_mem x hx))
  int := fun _ _ hx => He.int_ok X G (c.d.facts hx)
  str := fun _ _ hx => He.str_ok X G (c.d.facts hx)
  ex := c.ex
  hd := c.hd
  tn := c.tn
theorem lawS {l : PySem.W.OpenLaw} {w : World} {K : PySem.W.Frag} {h : Heap} {mg : Str → Option Value} {f : Addr} (X : K.In h) (G : h.Ns mainGlobals mg) (c : SaysY h K) (hmg : mg ("law" : Str) = some (.ref f)) : LamX.LawAtS l w K L2.CX0 14 63 "_law_script" mg f h := by
  have T := tx X G c
  have e := hmg.symm.trans (T.g "law")
  cases e
  obtain ⟨fd, F⟩ := T.fn _ in_law
  have b := FunD.bindsA (ps := ["_law_script"]) F fun _ _ _ _ _ _ us hl => match us, hl with | [_], _ => rfl
  refine ⟨fd, tfL.map (cT K), spLaw K, fun p hp => ?_, fun p hp => ?_, fun p hp => ?_, fun s v => b s [v] rfl, fun H a ns hl _ hT hS => ⟨a, ns, rfl, hS, hl, fun p hp => ?_, fun _ => rfl⟩, fun base _ _ B => ok_law T (fun x hx => B _ (List.mem_map_of_mem hx)) F⟩
  · obtain ⟨x, hx, rfl⟩ := List.mem_map.mp hp
    exact c.empty x hx
  · obtain ⟨x, hx, rfl⟩ := List.mem_map.mp hp
    exact c.out x hx
  · obtain ⟨x, hx, rfl⟩ := List.mem_map.mp hp
    exact PySem.W.codeHd_of_K X (c.hd x hx)
  · obtain ⟨x, hx, rfl⟩ := List.mem_map.mp hp
    exact LamX.TabS.nil (hT _ (List.mem_map_of_mem hx))
end Tw

open PySem PySem.W PySem.Calls PyProof.Rows
theorem PySem.Challenge.cw_twigmap_k23_refused_of_the_shelf_holds : PySem.Challenge.rw_twigmap_k23_refused_of_the_shelf.Holds := by
  w_on; o_law
  refine HandSHeadRun.head_any (r := OpenLaw.row PySem.Challenge.rw_twigmap_k23_refused_of_the_shelf) (q := view (OpenLaw.row PySem.Challenge.rw_twigmap_k23_refused_of_the_shelf).prog [58]) (H := Tw.hkY) (ob := Tw.obY) (M := 12000) (loose := Tw.loL) (d := HandSHeadRun.topDef (OpenLaw.row PySem.Challenge.rw_twigmap_k23_refused_of_the_shelf).prog 58) (kwd := []) Tw.obY_eq
    (by kernel_rfl) (fun s => by kernel_rfl) Tw.run (by kernel_rfl) (by kernel_rfl) (by kernel_rfl) (by rfl) (by first | assumption | decide +kernel) (by decide +kernel) ⟨rfl, rfl, rfl, rfl, rfl, by decide +kernel⟩ ?hw ?hc
  case hw => w_witness2
  case hc =>
    refine LamX.walk_ofTsE (l := PySem.Challenge.rw_twigmap_k23_refused_of_the_shelf) (n := 63) (k := 14) (x := "_law_script") (CX := fun _ => L2.CX0) rfl (by decide) (by kernel_rfl) ⟨rfl, by decide, by decide⟩ ?F (fun _ _ _ _ _ z => z)
    intro w mg fa h Y G hmg0
    obtain ⟨K, KX, c⟩ := Y
    have hmg : mg ("law" : PySem.Str) = some (.ref fa) := by
      have e : (HandSHeadRun.topDef (OpenLaw.row PySem.Challenge.rw_twigmap_k23_refused_of_the_shelf).prog 58).name = ("law" : PySem.Str) := by kernel_rfl
      rw [← e]
      exact hmg0
    exact ⟨K, KX, Tw.lawS KX G c hmg⟩
