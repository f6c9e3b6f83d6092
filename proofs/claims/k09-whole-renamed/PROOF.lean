import PyProof.Rows.All
import Wide.All
import OpenK.AllK
import Wide.FinOn
import KE.KStateDown
import HandS.Base
import HandS.Call
import HandS.Ends
import HandS.More
import HandS.Words
import HandS.WordsExc
import HandS.Defaults
import HandS.Head0
import HandS.Head1
import HandS.Head2
import HandS.HeadEnd
import HandS.HeadHook1
import HandS.HeadHook2
import HandS.ForMost
import HandS.Conv
import HandS.Deep
import HandS.IsInst
import HandS.Slots
import HandS.Star
import HandS.Zip
import HandS.DictComp
import HandS.Flow
import HandS.Style
import HandS.TupAny
import HandS.Walk
import HandS.Codes
import HandS.DeepEq
import KE.SortData
import KE.DataCmp
import KE.KEqNest
import PyProof.ReprRoads
import PyProof.P3In
import KE.Datum
import KE.GoesEnum
import KE.GoesMore
import HandS.SetFor
import HandS.TupSets
import KE.KDictZip
import KE.KDictLaw
import PyProof.ReprBulk
import HandS.NoneIn
import PySem.Challenge.RW_calledbest_k09_whole_renamed_and_reorder
/-! ## Hd -/
set_option Elab.async false
set_option linter.all false
set_option maxRecDepth 100000
set_option maxHeartbeats 0
namespace C9
open PySem PySem.Spec PyProof.Rows L2
def top (i : Nat) : Stmt := PySem.Challenge.pw_calledbest_k09_whole_renamed_and_reorder.main.body.getD i (.Pass ⟨0, 0, 0, 0⟩)
abbrev s_is_name : Stmt := top 13
abbrev s_is_tuple_of : Stmt := top 14
abbrev s_are_names : Stmt := top 15
abbrev s_in_order : Stmt := top 16
abbrev s_is_part : Stmt := top 17
abbrev s_is_house : Stmt := top 18
abbrev s_is_set : Stmt := top 19
abbrev s_is_kind : Stmt := top 20
abbrev s_is_call : Stmt := top 21
abbrev s_reordered : Stmt := top 23
abbrev s_renamed_house : Stmt := top 24
abbrev s_part_of : Stmt := top 25
abbrev s_taken_kind : Stmt := top 27
abbrev s_do_deed : Stmt := top 28
abbrev s_acted : Stmt := top 29
abbrev s_Store_init : Stmt := inClass (top 31) 1
abbrev s_Store_put : Stmt := inClass (top 31) 2
abbrev s_Store_first_of : Stmt := inClass (top 31) 3
abbrev s_Store_take : Stmt := inClass (top 31) 4
abbrev s_Store_drop : Stmt := inClass (top 31) 5
abbrev s_Store_there : Stmt := inClass (top 31) 6
abbrev s_do_row : Stmt := top 33
abbrev s_store_behind : Stmt := top 34
abbrev s_told_by : Stmt := top 35
abbrev s_there_at : Stmt := top 36
abbrev s_words_of : Stmt := top 39
abbrev s_said_lines : Stmt := top 40
abbrev s_check_texts : Stmt := top 41
abbrev s_deed_in : Stmt := top 42
abbrev s_row_in : Stmt := top 43
abbrev s_read_log : Stmt := top 44
abbrev s_line_of : Stmt := top 46
abbrev s_text_of : Stmt := top 47
abbrev s_line_of_deed : Stmt := top 48
abbrev s_show_log : Stmt := top 49
abbrev s_law_bag : Stmt := top 51
abbrev s_law_take : Stmt := top 52
abbrev s_law_one : Stmt := top 53
abbrev s_law_mixed : Stmt := top 54
abbrev s_law_alike : Stmt := top 55
abbrev s_law_house : Stmt := top 56
abbrev s_law_paths : Stmt := top 57
abbrev s_law_bent_call : Stmt := top 58
abbrev s_law_any_calls : Stmt := top 59
abbrev s_law_named : Stmt := top 60
abbrev s_law_forks : Stmt := top 61
abbrev s_law_amounts : Stmt := top 62
abbrev s_law_stretch : Stmt := top 63
abbrev s_law_thing_names : Stmt := top 64
abbrev s_law_log_of : Stmt := top 65
abbrev s_law_plain_log : Stmt := top 66
abbrev s_law_log : Stmt := top 67
abbrev s_law_row_to : Stmt := top 68
abbrev s_law_goes_along : Stmt := top 69
abbrev s_law_is_part_right : Stmt := top 70
abbrev s_law : Stmt := top 71
def d_is_name : He.DefD := ⟨("is_name", none), "is_name", "is_name", defArgs s_is_name, defBody s_is_name, defScope s_is_name, [], []⟩
def d_is_tuple_of : He.DefD := ⟨("is_tuple_of", none), "is_tuple_of", "is_tuple_of", defArgs s_is_tuple_of, defBody s_is_tuple_of, defScope s_is_tuple_of, [], []⟩
def d_are_names : He.DefD := ⟨("are_names", none), "are_names", "are_names", defArgs s_are_names, defBody s_are_names, defScope s_are_names, [], []⟩
def d_in_order : He.DefD := ⟨("in_order", none), "in_order", "in_order", defArgs s_in_order, defBody s_in_order, defScope s_in_order, [], []⟩
def d_is_part : He.DefD := ⟨("is_part", none), "is_part", "is_part", defArgs s_is_part, defBody s_is_part, defScope s_is_part, [], []⟩
def d_is_house : He.DefD := ⟨("is_house", none), "is_house", "is_house", defArgs s_is_house, defBody s_is_house, defScope s_is_house, [], []⟩
def d_is_set : He.DefD := ⟨("is_set", none), "is_set", "is_set", defArgs s_is_set, defBody s_is_set, defScope s_is_set, [], []⟩
def d_is_kind : He.DefD := ⟨("is_kind", none), "is_kind", "is_kind", defArgs s_is_kind, defBody s_is_kind, defScope s_is_kind, [], []⟩
def d_is_call : He.DefD := ⟨("is_call", none), "is_call", "is_call", defArgs s_is_call, defBody s_is_call, defScope s_is_call, [], []⟩
def d_reordered : He.DefD := ⟨("reordered", none), "reordered", "reordered", defArgs s_reordered, defBody s_reordered, defScope s_reordered, [], []⟩
def d_renamed_house : He.DefD := ⟨("renamed_house", none), "renamed_house", "renamed_house", defArgs s_renamed_house, defBody s_renamed_house, defScope s_renamed_house, [], []⟩
def d_part_of : He.DefD := ⟨("part_of", none), "part_of", "part_of", defArgs s_part_of, defBody s_part_of, defScope s_part_of, [], []⟩
def d_taken_kind : He.DefD := ⟨("taken_kind", none), "taken_kind", "taken_kind", defArgs s_taken_kind, defBody s_taken_kind, defScope s_taken_kind, [], []⟩
def d_do_deed : He.DefD := ⟨("do_deed", none), "do_deed", "do_deed", defArgs s_do_deed, defBody s_do_deed, defScope s_do_deed, [], []⟩
def d_acted : He.DefD := ⟨("acted", none), "acted", "acted", defArgs s_acted, defBody s_acted, defScope s_acted, [], []⟩
def d_Store_init : He.DefD := ⟨("Store", some "__init__"), "__init__", "Store.__init__", defArgs s_Store_init, defBody s_Store_init, defScope s_Store_init, [], []⟩
def d_Store_put : He.DefD := ⟨("Store", some "put"), "put", "Store.put", defArgs s_Store_put, defBody s_Store_put, defScope s_Store_put, [], []⟩
def d_Store_first_of : He.DefD := ⟨("Store", some "first_of"), "first_of", "Store.first_of", defArgs s_Store_first_of, defBody s_Store_first_of, defScope s_Store_first_of, [], []⟩
def d_Store_take : He.DefD := ⟨("Store", some "take"), "take", "Store.take", defArgs s_Store_take, defBody s_Store_take, defScope s_Store_take, [], []⟩
def d_Store_drop : He.DefD := ⟨("Store", some "drop"), "drop", "Store.drop", defArgs s_Store_drop, defBody s_Store_drop, defScope s_Store_drop, [], []⟩
def d_Store_there : He.DefD := ⟨("Store", some "there"), "there", "Store.there", defArgs s_Store_there, defBody s_Store_there, defScope s_Store_there, [], []⟩
def d_do_row : He.DefD := ⟨("do_row", none), "do_row", "do_row", defArgs s_do_row, defBody s_do_row, defScope s_do_row, [], []⟩
def d_store_behind : He.DefD := ⟨("store_behind", none), "store_behind", "store_behind", defArgs s_store_behind, defBody s_store_behind, defScope s_store_behind, [], []⟩
def d_told_by : He.DefD := ⟨("told_by", none), "told_by", "told_by", defArgs s_told_by, defBody s_told_by, defScope s_told_by, [], []⟩
def d_there_at : He.DefD := ⟨("there_at", none), "there_at", "there_at", defArgs s_there_at, defBody s_there_at, defScope s_there_at, [], []⟩
def d_words_of : He.DefD := ⟨("words_of", none), "words_of", "words_of", defArgs s_words_of, defBody s_words_of, defScope s_words_of, [], []⟩
def d_said_lines : He.DefD := ⟨("said_lines", none), "said_lines", "said_lines", defArgs s_said_lines, defBody s_said_lines, defScope s_said_lines, [], []⟩
def d_check_texts : He.DefD := ⟨("check_texts", none), "check_texts", "check_texts", defArgs s_check_texts, defBody s_check_texts, defScope s_check_texts, [], []⟩
def d_deed_in : He.DefD := ⟨("deed_in", none), "deed_in", "deed_in", defArgs s_deed_in, defBody s_deed_in, defScope s_deed_in, [], []⟩
def d_row_in : He.DefD := ⟨("row_in", none), "row_in", "row_in", defArgs s_row_in, defBody s_row_in, defScope s_row_in, [], []⟩
def d_read_log : He.DefD := ⟨("read_log", none), "read_log", "read_log", defArgs s_read_log, defBody s_read_log, defScope s_read_log, [], []⟩
def d_line_of : He.DefD := ⟨("line_of", none), "line_of", "line_of", defArgs s_line_of, defBody s_line_of, defScope s_line_of, [], []⟩
def d_text_of : He.DefD := ⟨("text_of", none), "text_of", "text_of", defArgs s_text_of, defBody s_text_of, defScope s_text_of, [], []⟩
def d_line_of_deed : He.DefD := ⟨("line_of_deed", none), "line_of_deed", "line_of_deed", defArgs s_line_of_deed, defBody s_line_of_deed, defScope s_line_of_deed, [], []⟩
def d_show_log : He.DefD := ⟨("show_log", none), "show_log", "show_log", defArgs s_show_log, defBody s_show_log, defScope s_show_log, [], []⟩
def d_law_bag : He.DefD := ⟨("_law_bag", none), "_law_bag", "_law_bag", defArgs s_law_bag, defBody s_law_bag, defScope s_law_bag, [], []⟩
def d_law_take : He.DefD := ⟨("_law_take", none), "_law_take", "_law_take", defArgs s_law_take, defBody s_law_take, defScope s_law_take, [], []⟩
def d_law_one : He.DefD := ⟨("_law_one", none), "_law_one", "_law_one", defArgs s_law_one, defBody s_law_one, defScope s_law_one, [], []⟩
def d_law_mixed : He.DefD := ⟨("_law_mixed", none), "_law_mixed", "_law_mixed", defArgs s_law_mixed, defBody s_law_mixed, defScope s_law_mixed, [], []⟩
def d_law_alike : He.DefD := ⟨("_law_alike", none), "_law_alike", "_law_alike", defArgs s_law_alike, defBody s_law_alike, defScope s_law_alike, [], []⟩
def d_law_house : He.DefD := ⟨("_law_house", none), "_law_house", "_law_house", defArgs s_law_house, defBody s_law_house, defScope s_law_house, [], []⟩
def d_law_paths : He.DefD := ⟨("_law_paths", none), "_law_paths", "_law_paths", defArgs s_law_paths, defBody s_law_paths, defScope s_law_paths, [], []⟩
def d_law_bent_call : He.DefD := ⟨("_law_bent_call", none), "_law_bent_call", "_law_bent_call", defArgs s_law_bent_call, defBody s_law_bent_call, defScope s_law_bent_call, [], []⟩
def d_law_any_calls : He.DefD := ⟨("_law_any_calls", none), "_law_any_calls", "_law_any_calls", defArgs s_law_any_calls, defBody s_law_any_calls, defScope s_law_any_calls, [], []⟩
def d_law_named : He.DefD := ⟨("_law_named", none), "_law_named", "_law_named", defArgs s_law_named, defBody s_law_named, defScope s_law_named, [], []⟩
def d_law_forks : He.DefD := ⟨("_law_forks", none), "_law_forks", "_law_forks", defArgs s_law_forks, defBody s_law_forks, defScope s_law_forks, [], []⟩
def d_law_amounts : He.DefD := ⟨("_law_amounts", none), "_law_amounts", "_law_amounts", defArgs s_law_amounts, defBody s_law_amounts, defScope s_law_amounts, [], []⟩
def d_law_stretch : He.DefD := ⟨("_law_stretch", none), "_law_stretch", "_law_stretch", defArgs s_law_stretch, defBody s_law_stretch, defScope s_law_stretch, [], []⟩
def d_law_thing_names : He.DefD := ⟨("_law_thing_names", none), "_law_thing_names", "_law_thing_names", defArgs s_law_thing_names, defBody s_law_thing_names, defScope s_law_thing_names, [], []⟩
def d_law_log_of : He.DefD := ⟨("_law_log_of", none), "_law_log_of", "_law_log_of", defArgs s_law_log_of, defBody s_law_log_of, defScope s_law_log_of, [], []⟩
def d_law_plain_log : He.DefD := ⟨("_law_plain_log", none), "_law_plain_log", "_law_plain_log", defArgs s_law_plain_log, defBody s_law_plain_log, defScope s_law_plain_log, [], []⟩
def d_law_log : He.DefD := ⟨("_law_log", none), "_law_log", "_law_log", defArgs s_law_log, defBody s_law_log, defScope s_law_log, [], []⟩
def d_law_row_to : He.DefD := ⟨("_law_row_to", none), "_law_row_to", "_law_row_to", defArgs s_law_row_to, defBody s_law_row_to, defScope s_law_row_to, [], []⟩
def d_law_goes_along : He.DefD := ⟨("_law_goes_along", none), "_law_goes_along", "_law_goes_along", defArgs s_law_goes_along, defBody s_law_goes_along, defScope s_law_goes_along, [], []⟩
def d_law_is_part_right : He.DefD := ⟨("_law_is_part_right", none), "_law_is_part_right", "_law_is_part_right", defArgs s_law_is_part_right, defBody s_law_is_part_right, defScope s_law_is_part_right, [], []⟩
def d_law : He.DefD := ⟨("law", none), "law", "law", defArgs s_law, defBody s_law, defScope s_law, [], []⟩
def fnA : List He.DefD := [d_is_name, d_is_tuple_of, d_are_names, d_in_order, d_is_part, d_is_house, d_is_set, d_is_kind, d_is_call, d_reordered, d_renamed_house, d_part_of, d_taken_kind, d_do_deed, d_acted, d_Store_init, d_Store_put, d_Store_first_of, d_Store_take, d_Store_drop, d_Store_there, d_do_row, d_store_behind, d_told_by, d_there_at, d_words_of, d_said_lines, d_check_texts, d_deed_in, d_row_in]
def fnB : List He.DefD := [d_read_log, d_line_of, d_text_of, d_line_of_deed, d_show_log, d_law_bag, d_law_take, d_law_one, d_law_mixed, d_law_alike, d_law_house, d_law_paths, d_law_bent_call, d_law_any_calls, d_law_named, d_law_forks, d_law_amounts, d_law_stretch, d_law_thing_names, d_law_log_of, d_law_plain_log, d_law_log, d_law_row_to, d_law_goes_along, d_law_is_part_right, d_law]
def fn : List He.DefD := fnA ++ fnB
def faA : List He.Fa := [.glo "is_name", .glo "is_tuple_of", .glo "are_names", .glo "in_order", .glo "is_part", .glo "is_house", .glo "is_set", .glo "is_kind", .glo "is_call", .glo "reordered", .glo "renamed_house", .glo "part_of", .glo "taken_kind", .glo "do_deed", .glo "acted", .glo "do_row", .glo "store_behind", .glo "told_by", .glo "there_at", .glo "words_of", .glo "said_lines", .glo "check_texts", .glo "deed_in", .glo "row_in", .glo "read_log", .glo "line_of", .glo "text_of", .glo "line_of_deed", .glo "show_log", .glo "_law_bag"]
def faB : List He.Fa := [.glo "_law_take", .glo "_law_one", .glo "_law_mixed", .glo "_law_alike", .glo "_law_house", .glo "_law_paths", .glo "_law_bent_call", .glo "_law_any_calls", .glo "_law_named", .glo "_law_forks", .glo "_law_amounts", .glo "_law_stretch", .glo "_law_thing_names", .glo "_law_log_of", .glo "_law_plain_log", .glo "_law_log", .glo "_law_row_to", .glo "_law_goes_along", .glo "_law_is_part_right", .glo "law"]
def faC : List He.Fa := [.free "isinstance", .free "str", .free "len", .free "all", .free "set", .free "tuple", .free "zip", .free "any", .free "sorted", .free "list", .free "enumerate", .free "repr", .free "int", .free "abs", .free "min", .free "range", .free "dict", .glo "Store", .str "LETTERS" "abcdefghijklmnopqrstuvwxyz", .int "MOST_SIGNS" 6, .int "MOST_KINDS" 6, .int "MOST_CALLS" 8, .str "LINE_FEED" "\n", .mkr "Store", .meth "Store" "put", .meth "Store" "first_of", .meth "Store" "take", .meth "Store" "drop", .meth "Store" "there"]
def fa : List He.Fa := faA ++ (faB ++ faC)
def loose0 : List Str := ["_wall", "CallError", "NoCall", "NoKind", "NoText", "Used", "Wrong", "LETTERS", "MOST_SIGNS", "MOST_KINDS", "MOST_CALLS", "is_name", "is_tuple_of", "are_names"]
def loose1 : List Str := ["in_order", "is_part", "is_house", "is_set", "is_kind", "is_call", "reordered", "renamed_house", "part_of", "taken_kind", "do_deed", "acted", "Store", "do_row"]
def loose2 : List Str := ["store_behind", "told_by", "there_at", "LINE_FEED", "words_of", "said_lines", "check_texts", "deed_in", "row_in", "read_log", "line_of", "text_of", "line_of_deed", "show_log"]
def loose3 : List Str := ["_law_bag", "_law_take", "_law_one", "_law_mixed", "_law_alike", "_law_house", "_law_paths", "_law_bent_call", "_law_any_calls", "_law_named", "_law_forks", "_law_amounts", "_law_stretch", "_law_thing_names"]
def loose4 : List Str := ["_law_log_of", "_law_plain_log", "_law_log", "_law_row_to", "_law_goes_along", "_law_is_part_right"]
def loose : List Str := loose0 ++ loose1 ++ loose2 ++ loose3 ++ loose4
abbrev R : PySem.W.OpenRow := PySem.W.OpenLaw.row PySem.Challenge.rw_calledbest_k09_whole_renamed_and_reorder
/-- a slot of the class Store -/
def slotB (K : PySem.W.Frag) (C : Addr) (f : Str) (i : Nat) : Bool := match PySem.W.findIn K (.ref C) f with
  | some (some (.ref p)) => He.eqO (PySem.W.specialIn K (.ref p) "__get__") (some (some (.builtin "member_descriptor.__get__"))) && (decide (PySem.W.takesIn K (.ref p) = some true) && (decide (PySem.W.typeIn K (.ref p) = some (.type "member_descriptor")) && decide (PySem.W.slotIn K p C = some i)))
  | _ => false
def slcB (K : PySem.W.Frag) (C : Addr) : Bool := PySem.W.plainGet K C Str.empty && (PySem.W.isClsIn K C && (PySem.W.plainOver K C && He.eqO (PySem.W.findIn K (.ref C) "__setattr__") (some (some (.builtin "object.__setattr__")))))
def ex (K : PySem.W.Frag) : Bool := slcB K (He.ga K "Store") && (slotB K (He.ga K "Store") "its_house" 0 && (slotB K (He.ga K "Store") "its_names" 1 && (slotB K (He.ga K "Store") "its_rows" 2 && (slotB K (He.ga K "Store") "its_things" 3 && (K.lookup sysModules).isSome))))
abbrev AlY : Type := He.AlD × Bool
def obsY (n : Nat) (g : Addr → Option Obj) : AlY := (He.obsD fa fn (He.frG g (sysModules :: He.asD g n)), ex (He.frG g (sysModules :: He.asD g n)))
def SaysY (K : PySem.W.Frag) : Prop := He.SaysD fa fn K ∧ ex K = true
def hk : PySem.W.Hook where
  α := AlY
  obs := fun s => obsY 5 s.heap.get?
  val := fun _ => (He.valD fn, true)
  says := fun _ h => ∃ K : PySem.W.Frag, K.In h ∧ SaysY K
  of := fun _ _ e => ⟨_, He.frG_in, congrArg (fun z : AlY => z.1) e, congrArg (fun z : AlY => z.2) e⟩
  keeps := fun _ _ _ ⟨K, hK, c⟩ k => ⟨K, PySem.W.Frag.In.keeps hK k, c⟩
def ob (s : PySem.W.SharedT) : AlY := obsY 5 (HandSHeadRun.getT s)
theorem ob_eq (s : PySem.W.SharedT) : ob s = hk.obs s.abs := by
  have e : HandSHeadRun.getT s = s.abs.heap.get? := funext (HandSHeadRun.getT_eq s)
  show obsY 5 (HandSHeadRun.getT s) = obsY 5 s.abs.heap.get?
  rw [e]
theorem run (w : World) : HandSHeadRun.RunEq R (PySem.W.view R.prog [71]) hk ob 20000 loose w := by
  intro os
  kernel_rfl
end C9
/-! ## R1 -/
set_option maxHeartbeats 4000000
namespace C9
open PySem PySem.Spec PyProof.Rows L2

section
variable {X : Cx}
/-! ### isinstance, always yes here -/
theorem isi_str : CallR X (.builtin "isinstance") (fun xs H Q => ∃ z : Str, xs = [.str z, .ty "str"] ∧ Q (.bl true) H) := by
  intro pins s σ H xs us Q I r h
  obtain ⟨z, e, q⟩ := h
  exact call_isi pins s σ H xs us Q I r ⟨.str z, .ty "str", .type "str", .type "str", true, e, .ty "str", .base (.str z), kit_ty (by decide +kernel), q⟩
theorem isi_tup : CallR X (.builtin "isinstance") (fun xs H Q => ∃ a ys, xs = [.ref a, .ty "tuple"] ∧ H a = some (.tup ys) ∧ Q (.bl true) H) := by
  intro pins s σ H xs us Q I r h
  obtain ⟨a, ys, e, ha, q⟩ := h
  exact call_isi pins s σ H xs us Q I r ⟨.ref a, .ty "tuple", .type "tuple", .type "tuple", true, e, .ty "tuple", .base (.tup ha), kit_ty (by decide +kernel), q⟩

/-! ### xs[i] read, for xs[i] += e -/
def rGetL (K : PySem.W.Frag) : V → V → Hp → VK → Prop := fun x y H Q => ∃ p xs i v, x = .ref p ∧ y = .int i ∧ 0 ≤ i ∧ SqL K H p xs ∧ xs[i.toNat]? = some v ∧ Q v H
theorem pget_list : PGet X (rGetL X.K) := by
  intro pins s σ H o i ov iv Q I ro ri h
  obtain ⟨p, xs, k, v, rfl, rfl, hk, hq, he, q⟩ := h
  cases ro
  obtain ⟨t, rfl⟩ := ri
  obtain ⟨its, r, pl, hz⟩ := I.list hq
  obtain ⟨u, eu, ru⟩ := r.get he
  have hlt : k.toNat < xs.length := (List.getElem?_eq_some_iff.mp he).1
  have hn := line63
  exact wpAny_getItem_list pl.isList hk (by omega) (by simpa using eu) ⟨v, H, I, ru, q⟩

/-! ### a dict just made is locked for good: what a comprehension walks -/
def tFrz (t : TE) : TE := fun σ H Q => t σ H fun x H1 => ∃ d u, x = .ref d ∧ H1 d = some u ∧ Mut (some u) ∧ ∀ od, Q (.ref d) (upd H1 d (.frz od u))
theorem pe_frz {e : Expr} {t : TE} (h : PE X e t) : PE X e (tFrz t) := by
  refine ⟨fun pins s σ H Q I hw => ?_⟩
  refine thn (h.run pins s σ H _ I hw) fun v s1 ⟨x, H1, I1, r, d, u, ex, hd, mu, q⟩ => ?_
  obtain ⟨od, I2⟩ := I1.lock hd mu
  exact ⟨.ref d, _, I2, ex ▸ r, q od⟩

/-! ### comparisons of data -/
open PySem.W in
def rLtD (K : PySem.W.Frag) : R2 := fun x y H Q => ∃ d e, Dp K H x d ∧ Dp K H y e ∧ alike d e = true ∧ d ≠ .none ∧ min d.depth e.depth ≤ 64 ∧ Q (.bl (dataLt d e)) H
theorem op_ltD {k : Nat} (hr : Room k X.A) : OpR X (compareOp .Lt) (rLtD X.K) := by
  intro pins s σ H x y v u Q I rx ry h
  obtain ⟨d, e, hd, he, al, hn, hm, q⟩ := h
  obtain ⟨as, r1⟩ := Dp.reads I d x v hd rx
  obtain ⟨bs, r2⟩ := Dp.reads I e y u he ry
  have hu := hr.units
  exact PySem.W.lt_data r1 r2 al hn (by omega) ⟨.bl _, H, I, rfl, q⟩
def rInT (K : PySem.W.Frag) : R2 := fun x y H Q => ∃ d ds, Dp K H x d ∧ Dp K H y (.tuple ds) ∧ SeqAt.shaped d = true ∧ SeqAt.shaped (.tuple ds) = true ∧ Q (.bl (ds.any fun z => PyData.eqv z d)) H
theorem op_inT {k : Nat} (hr : Room k X.A) : OpR X (compareOp .In) (rInT X.K) := by
  intro pins s σ H x y v u Q I rx ry h
  obtain ⟨d, ds, hd, he, sd, se, q⟩ := h
  obtain ⟨as, r1⟩ := Dp.reads I d x v hd rx
  obtain ⟨bs, r2⟩ := Dp.reads I (.tuple ds) y u he ry
  have hu := hr.un
  exact SeqAt.in_tuple_reads r2 r1 (SeqAt.canLay_of_shaped (show SeqAt.shaped (.list ds) = true from se)) (SeqAt.canLay_of_shaped sd) (room_in_shaped sd (by omega)) ⟨.bl _, H, I, rfl, q⟩
end
end C9
/-! ## R2 -/
set_option maxHeartbeats 4000000
namespace C9
open PySem PySem.Spec PyProof.Rows L2
open PySem.W (EachIs SortsAt AllAlike Sortable dataLe dataKind sortVals)

/-! ### sorted: any data of one form, out of a list or a tuple -/
section
variable {prog : Program} {w : World} {A : Around} {E : Value → Shared → Prop}
theorem grown_old {s : Shared} {vs out : List Value} {b : Addr} {o : Obj} (q : s.heap.get? b = some o) :
    (sortedHeap (s.heap.push (seqObj "list" vs.toArray 0)) s.heap.objs.size vs out.toArray).get? b = some o := by
  have hlt := Heap.lt_size q
  rw [sortedHeap_old (Nat.ne_of_lt hlt) (by rw [size_push']; exact Nat.lt_succ_of_lt hlt)]
  exact Heap.get?_push_of_some _ q
/-- behind the walk over what is sorted: the new list and its sort -/
theorem sort_behind {s : Shared} {vs : List Value} {κ : PyProof.Rows.KeyKind} {Q : PySem.Fin → Shared → Prop} (hL : vs.length ≤ sizeLine)
    (S : SortsAt prog w A.in1 { s with heap := PySem.W.sortingHeap (s.heap.push (seqObj "list" vs.toArray 0)) s.heap.objs.size vs } κ vs)
    (h : ∀ (c : Nat) (h' : Heap), (∀ b o, s.heap.get? b = some o → h'.get? b = some o) → h'.get? s.heap.objs.size = some (seqObj "list" (sortVals κ false vs vs).toArray c) → Q (.done (.ret (.ref s.heap.objs.size))) { s with heap := h' }) :
    wpAny (model prog w) A (do
      let l ← newList vs
      let _ ← holding [l] (call (.builtin "list.sort") [l] [])
      ret l) Q E s := by
  refine wpAny_bind (wpAny_newList ?_ hL)
  have hoL : (s.heap.push (seqObj "list" vs.toArray 0)).get? s.heap.objs.size = some (seqObj "list" vs.toArray 0) := Heap.get?_push_size _ rfl
  obtain ⟨c, hc⟩ := sortedHeap_at (vs := vs) (out := (sortVals κ false vs vs).toArray) hoL
  refine wpAny_bind (wpAny_holding (wpAny_call_entry slot_list_sort ⟨_, hoL, rfl⟩ entry_list_sort
    (PySem.W.list_sort_vals (s := { s with heap := s.heap.push (seqObj "list" vs.toArray 0) }) (κ := κ) hoL S hL ⟨_, rfl, ?_⟩) (args_list_sort _)))
  exact wpAny_pure (h c _ (fun b o q => grown_old q) hc)
end
/-- ys are xs sorted by what they read as -/
def sortedBy (xs : List V) (ds : List PyData) : List (V × PyData) := (xs.zip ds).mergeSort (dataLe false (fun b : V × PyData => b.2))
theorem each_of_vals : ∀ {xs : List V} {ds : List PyData} {us : List Value}, Vals xs us → xs.length = ds.length → EachIs (fun (u : Value) (b : V × PyData) => RelV b.1 u) us (xs.zip ds)
  | _, [], _, .nil, _ => .nil
  | _, d :: ds, _, .nil, h => by cases h
  | _, [], _, .cons r t, h => by cases h
  | _, d :: ds, _, .cons r t, h => .cons r (each_of_vals t (Nat.succ.inj h))
theorem vals_of_each : ∀ {bs : List (V × PyData)} {us : List Value}, EachIs (fun (u : Value) (b : V × PyData) => RelV b.1 u) us bs → Vals (bs.map (·.1)) us
  | [], _, e => by cases e; exact .nil
  | b :: bs, _, e => by
    cases e with
    | cons r t => exact .cons r (vals_of_each t)
theorem dpAll_length {K : PySem.W.Frag} {H : Hp} : ∀ {xs : List V} {ds : List PyData}, DpAll K H xs ds → xs.length = ds.length
  | _, _, .nil => rfl
  | _, _, .cons _ t => congrArg Nat.succ (dpAll_length t)
section
variable {X : Cx} {pins : List (Addr × Obj)} {σ : L2.St} {H : Hp} {s : Shared}
theorem each_reads (I : Inv X pins σ H s) : ∀ {xs : List V} {ds : List PyData} {us : List Value}, Vals xs us → DpAll X.K H xs ds → EachIs (fun (u : Value) (b : V × PyData) => ∃ as, Reads s.heap u b.2 as) us (xs.zip ds)
  | _, _, _, .nil, .nil => .nil
  | _, _, _, .cons r t, .cons h k => .cons (Dp.reads I _ _ _ h r) (each_reads I t k)
theorem zip_snd : ∀ {xs : List V} {ds : List PyData}, xs.length = ds.length → (xs.zip ds).map (·.2) = ds
  | [], [], _ => rfl
  | [], _ :: _, h => by cases h
  | _ :: _, [], h => by cases h
  | x :: xs, d :: ds, h => by
    rw [List.zip_cons_cons, List.map_cons, zip_snd (Nat.succ.inj h)]
def rSortedD (K : PySem.W.Frag) : List V → Hp → VK → Prop := fun vs H Q => ∃ (a : Addr) (xs : List V) (ds : List PyData), vs = [V.ref a] ∧ (SqL K H a xs ∨ SqT K H a xs) ∧ DpAll K H xs ds ∧ AllAlike ds ∧ Sortable ds ∧ (∀ d ∈ ds, d.depth ≤ 40) ∧
  ∀ p, H p = none → Q (.ref p) (upd H p (.lst ((sortedBy xs ds).map (·.1))))
theorem cr_sortedD {k : Nat} (hr : Room k X.A) : CallR X (.builtin "sorted") (rSortedD X.K) := by
  intro pins s σ H vs us Q I r h
  obtain ⟨a, xs, ds, rfl, hs, hd, hal, hk, hdp, q⟩ := h
  rw [Vals.ref1 r]
  have hu := hr.units
  have hlen := dpAll_length hd
  obtain ⟨its, rv, hz, o, ho, T, hT, hc, n, hdt⟩ : ∃ its : List Value, Vals xs its ∧ xs.length ≤ sizeLine ∧ ∃ o, s.heap.get? a = some o ∧ ∃ T, (T = "list" ∨ T = "tuple") ∧ o.cls = .type T ∧ ∃ n, o.data = .seq its.toArray n := by
    rcases hs with hs | hs
    · obtain ⟨its, rv, ⟨o, n, e, c, _, d⟩, hz⟩ := I.list hs
      exact ⟨its, rv, hz, o, e, _, .inl rfl, c, n, d⟩
    · obtain ⟨its, rv, ⟨o, e, c, n, d⟩, hz⟩ := I.tuple hs
      exact ⟨its, rv, hz, o, e, _, .inr rfl, c, n, d⟩
  have hL : its.length ≤ sizeLine := by rw [← rv.length]; exact hz
  refine Calls.call_function_entry kind_sorted plain_sorted entry_sorted (args_sorted1 _) ?_
  unfold Builtin.«sorted»
  refine wpAny_bind (m := checkCount "sorted" 1 1 _) (wpAny_pure ?_)
  show wpAny _ _ (collect (.ref a) >>= fun r => _) _ _ s
  refine wpAny_bind (wpAny_collect_seq a hT ho hc hdt (fun h1 hk1 => ?_) (by rw [List.size_toArray]; exact hL))
  have e1 : its.toArray.toList = its := by simp
  rw [e1]
  have er : ∀ h2 : Heap, (∀ b o, s.heap.get? b = some o → h2.get? b = some o) → EachIs (fun (u : Value) (b : V × PyData) => ∃ as, Reads h2 u b.2 as) its (xs.zip ds) := fun h2 k2 =>
    (each_reads I rv hd).mono fun _ _ ⟨as, r⟩ => ⟨as, PyProof.Rows.Reads.keeps (fun _ _ e => k2 _ _ e) r⟩
  have hal' : AllAlike ((xs.zip ds).map fun b => b.2) := by rw [zip_snd hlen]; exact hal
  have hk' : Sortable ((xs.zip ds).map fun b => b.2) := by rw [zip_snd hlen]; exact hk
  have k6 : ∀ b o, s.heap.get? b = some o → (PySem.W.sortingHeap (h1.push (seqObj "list" its.toArray 0)) h1.objs.size its).get? b = some o := fun b o e => by
    have q1 := hk1 b o e
    exact PySem.W.sortingHeap_old (Nat.ne_of_lt (Heap.lt_size q1)) (Heap.get?_push_of_some _ q1)
  have S : SortsAt X.prog X.w X.A.in1.in1 { s with heap := PySem.W.sortingHeap (h1.push (seqObj "list" its.toArray 0)) h1.objs.size its } (dataKind (PySem.W.sortingHeap (h1.push (seqObj "list" its.toArray 0)) h1.objs.size its) ((xs.zip ds).map fun b => b.2)) its :=
    SortsAt.data (s := { s with heap := PySem.W.sortingHeap (h1.push (seqObj "list" its.toArray 0)) h1.objs.size its })
      (PySem.W.each_map (R := fun v d => ∃ as, Reads (PySem.W.sortingHeap (h1.push (seqObj "list" its.toArray 0)) h1.objs.size its) v d as) (fun b : V × PyData => b.2) (er _ k6)) hal' hk' (fun d hm => by
        rw [zip_snd hlen] at hm
        have := hdp d hm
        show X.A.units + 1 + 1 + d.depth < cLine
        omega)
  refine sort_behind (s := { s with heap := h1 }) hL S fun c h' hk' hob => ?_
  have out : EachIs (fun (u : Value) (b : V × PyData) => RelV b.1 u) (sortVals (dataKind (PySem.W.sortingHeap (h1.push (seqObj "list" its.toArray 0)) h1.objs.size its) ((xs.zip ds).map fun b => b.2)) false its its) (sortedBy xs ds) :=
    PySem.W.sortVals_data (h' := PySem.W.sortingHeap (h1.push (seqObj "list" its.toArray 0)) h1.objs.size its) false (each_of_vals rv hlen) (er _ k6) hal'
  have rout := vals_of_each out
  have I1 : Inv X pins σ H { s with heap := h1 } := I.kept (t' := s.toks) hk1
  have hf : H h1.objs.size = none := I1.hok.fresh (Nat.le_refl _)
  have hll : ((sortedBy xs ds).map (·.1)).length ≤ sizeLine := by
    rw [List.length_map]
    unfold sortedBy
    rw [List.length_mergeSort, List.length_zip]
    exact Nat.le_trans (Nat.min_le_left _ _) hz
  exact ⟨_, rfl, .ref h1.objs.size, upd H h1.objs.size (.lst ((sortedBy xs ds).map (·.1))), I1.laid (t' := s.toks) hk' (Nat.le_refl _) ⟨hll, _, c, rout, hob⟩, rfl, q _ hf⟩
end
end C9
/-! ## R3 -/
set_option maxHeartbeats 4000000
namespace C9
open PySem PySem.Spec PyProof.Rows L2

/-! ### heaps that grow -/
theorem sm_new {H : Hp} {p : Addr} {o : HO} (h : H p = none) : Same H (upd H p o) := fun b x e => by
  rw [upd_ne (ne_of_none e h)]
  exact e
theorem sm_then {H H1 : Hp} {p : Addr} {o : HO} (s : Same H H1) (h : H1 p = none) : Same H (upd H1 p o) := s.trans (sm_new h)
/-- a thing that was not in H0 is changed: H0 still lies within -/
theorem sm_upd {H0 H : Hp} {p : Addr} {o : HO} (s : Same H0 H) (h : H0 p = none) : Same H0 (upd H p o) := fun b x e => by
  rw [upd_ne (ne_of_none e h)]
  exact s b x e
theorem sm_both {H0 H : Hp} {p : Addr} {o o' : HO} (s : Same (upd H0 p o) H) : Same (upd H0 p o') (upd H p o') := fun b x e => by
  by_cases hb : b = p
  · subst hb
    rw [upd_same] at e ⊢
    exact e
  · rw [upd_ne hb] at e ⊢
    exact s b x (by rw [upd_ne hb]; exact e)
/-- the tuples of H stand in H' -/
def TK (H H' : Hp) : Prop := ∀ b xs, H b = some (.tup xs) → H' b = some (.tup xs)
theorem TK.refl (H : Hp) : TK H H := fun _ _ h => h
theorem TK.trans {H H1 H2 : Hp} (a : TK H H1) (b : TK H1 H2) : TK H H2 := fun c o h => b c o (a c o h)
theorem TK.of {H H' : Hp} (s : Same H H') : TK H H' := fun b xs h => s b _ h
theorem TK.updO {H : Hp} {p : Addr} {o o' : HO} (h : H p = some o) (hn : ∀ xs, o ≠ .tup xs) : TK H (upd H p o') := fun b xs e => by
  rw [upd_ne]
  · exact e
  · intro q
    subst q
    rw [h] at e
    exact hn xs (Option.some.inj e)
theorem TK.updL {H : Hp} {p : Addr} {ys : List V} {o' : HO} (h : H p = some (.lst ys)) : TK H (upd H p o')   := TK.updO h (fun _ e => by cases e)
theorem TK.updD {H : Hp} {p : Addr} {kvs : List (Key × V)} {o' : HO} (h : H p = some (.dK kvs)) : TK H (upd H p o')   := TK.updO h (fun _ e => by cases e)
theorem TK.new {H : Hp} {p : Addr} {o : HO} (h : H p = none) : TK H (upd H p o) := .of (sm_new h)

/-! ### data of tuples -/
inductive Tp (H : Hp) : V → PyData → Prop
  | non : Tp H .non .none
  | bl (b : Bool) : Tp H (.bl b) (.bool b)
  | int (i : Int) : Tp H (.int i) (.int i)
  | str (x : Str) : Tp H (.str x) (.str x)
  | tup {a : Addr} {xs : List V} {ds : List PyData} : H a = some (.tup xs) → Paired (Tp H) xs ds → Tp H (.ref a) (.tuple ds)
abbrev TpAll (H : Hp) : List V → List PyData → Prop := Paired (Tp H)
mutual
theorem Tp.keep {H H' : Hp} (k : TK H H') : ∀ {d : PyData} {v : V}, Tp H v d → Tp H' v d
  | .none, _, h => by cases h; exact .non
  | .bool b, _, h => by cases h; exact .bl b
  | .int i, _, h => by cases h; exact .int i
  | .str x, _, h => by cases h; exact .str x
  | .tuple ds, _, h => by
    cases h with
    | tup e r => exact .tup (k _ _ e) (TpAll.keep k r)
  | .list ds, _, h => by cases h
  | .dict ds, _, h => by cases h
theorem TpAll.keep {H H' : Hp} (k : TK H H') : ∀ {ds : List PyData} {vs : List V}, TpAll H vs ds → TpAll H' vs ds
  | [], _, h => by cases h; exact .nil
  | d :: ds, _, h => by
    cases h with
    | cons a r => exact .cons (Tp.keep k a) (TpAll.keep k r)
end
theorem Tp.same {H H' : Hp} (k : Same H H') {d : PyData} {v : V} (h : Tp H v d) : Tp H' v d := h.keep (.of k)
theorem TpAll.same {H H' : Hp} (k : Same H H') {ds : List PyData} {vs : List V} (h : TpAll H vs ds) : TpAll H' vs ds := TpAll.keep (.of k) h
theorem Tp.tup_at {H : Hp} {v : V} {ds : List PyData} (h : Tp H v (.tuple ds)) : ∃ a xs, v = .ref a ∧ H a = some (.tup xs) ∧ TpAll H xs ds := by
  cases h with
  | tup e r => exact ⟨_, _, rfl, e, r⟩
theorem Tp.str_at {H : Hp} {v : V} {x : Str} (h : Tp H v (.str x)) : v = .str x := by cases h; rfl
theorem Tp.int_at {H : Hp} {v : V} {x : Int} (h : Tp H v (.int x)) : v = .int x := by cases h; rfl
theorem Tp.non_at {H : Hp} {v : V} (h : Tp H v .none) : v = .non := by cases h; rfl
theorem TpAll.length {H : Hp} : ∀ {xs : List V} {ds : List PyData}, TpAll H xs ds → xs.length = ds.length
  | _, _, .nil => rfl
  | _, _, .cons _ t => congrArg Nat.succ (TpAll.length t)
theorem TpAll.get {H : Hp} : ∀ {xs : List V} {ds : List PyData} {i : Nat} {x : V}, TpAll H xs ds → xs[i]? = some x → ∃ d, ds[i]? = some d ∧ Tp H x d
  | [], _, _, _, _, e => by simp at e
  | _ :: _, [], _, _, h, _ => by cases h
  | _ :: _, _ :: _, 0, _, .cons r _, e => ⟨_, rfl, by rw [← Option.some.inj e]; exact r⟩
  | _ :: xs, _ :: ds, i + 1, _, .cons _ t, e => TpAll.get (xs := xs) (ds := ds) (i := i) t e
theorem TpAll.at_ {H : Hp} : ∀ {xs : List V} {ds : List PyData} {i : Nat} {d : PyData}, TpAll H xs ds → ds[i]? = some d → ∃ x, xs[i]? = some x ∧ Tp H x d
  | _, [], _, _, _, e => by simp at e
  | [], _ :: _, _, _, h, _ => by cases h
  | _ :: _, _ :: _, 0, _, .cons r _, e => ⟨_, rfl, by rw [← Option.some.inj e]; exact r⟩
  | _ :: xs, _ :: ds, i + 1, _, .cons _ t, e => TpAll.at_ (xs := xs) (ds := ds) (i := i) t e
theorem TpAll.app {H : Hp} : ∀ {xs ys : List V} {ds es : List PyData}, TpAll H xs ds → TpAll H ys es → TpAll H (xs ++ ys) (ds ++ es)
  | _, _, _, _, .nil, s => s
  | _, _, _, _, .cons r t, s => .cons r (TpAll.app t s)
theorem TpAll.snoc {H : Hp} {xs : List V} {x : V} {ds : List PyData} {d : PyData} (h : TpAll H xs ds) (r : Tp H x d) : TpAll H (xs ++ [x]) (ds ++ [d]) := h.app (.cons r .nil)
theorem TpAll.take {H : Hp} : ∀ (n : Nat) {xs : List V} {ds : List PyData}, TpAll H xs ds → TpAll H (xs.take n) (ds.take n)
  | 0, _, _, _ => by rw [List.take_zero, List.take_zero]; exact .nil
  | n + 1, _, _, .nil => .nil
  | n + 1, _, _, .cons r t => .cons r (TpAll.take n t)
theorem TpAll.drop {H : Hp} : ∀ (n : Nat) {xs : List V} {ds : List PyData}, TpAll H xs ds → TpAll H (xs.drop n) (ds.drop n)
  | 0, _, _, h => h
  | n + 1, _, _, .nil => .nil
  | n + 1, _, _, .cons r t => TpAll.drop n t
theorem TpAll.rev {H : Hp} : ∀ {xs : List V} {ds : List PyData}, TpAll H xs ds → TpAll H xs.reverse ds.reverse
  | _, _, .nil => .nil
  | _, _, .cons r t => by
    rw [List.reverse_cons, List.reverse_cons]
    exact (TpAll.rev t).snoc r
theorem TpAll.strs {H : Hp} : ∀ {xs : List V} {ks : List Str}, TpAll H xs (ks.map .str) ↔ xs = ks.map V.str
  | [], [] => ⟨fun _ => rfl, fun _ => .nil⟩
  | [], k :: ks => ⟨fun h => (nomatch h), fun h => (nomatch h)⟩
  | x :: xs, [] => ⟨fun h => (nomatch h), fun h => (nomatch h)⟩
  | x :: xs, k :: ks => ⟨fun h => by
      cases h with
      | cons a r => rw [a.str_at, TpAll.strs.mp r]; rfl, fun h => by
      rw [List.map_cons] at h
      injection h with h1 h2
      subst h1
      exact .cons (.str k) (TpAll.strs.mpr h2)⟩
theorem TpAll.ints {H : Hp} : ∀ {xs : List V} {ks : List Int}, TpAll H xs (ks.map .int) ↔ xs = ks.map V.int
  | [], [] => ⟨fun _ => rfl, fun _ => .nil⟩
  | [], k :: ks => ⟨fun h => (nomatch h), fun h => (nomatch h)⟩
  | x :: xs, [] => ⟨fun h => (nomatch h), fun h => (nomatch h)⟩
  | x :: xs, k :: ks => ⟨fun h => by
      cases h with
      | cons a r => rw [a.int_at, TpAll.ints.mp r]; rfl, fun h => by
      rw [List.map_cons] at h
      injection h with h1 h2
      subst h1
      exact .cons (.int k) (TpAll.ints.mpr h2)⟩
theorem Tp.strs_at {H : Hp} {v : V} {ks : List Str} (h : Tp H v (.tuple (ks.map .str))) : ∃ a, v = .ref a ∧ H a = some (.tup (ks.map V.str)) := by
  obtain ⟨a, xs, rfl, e, r⟩ := h.tup_at
  rw [TpAll.strs.mp r] at e
  exact ⟨a, rfl, e⟩
theorem Tp.strs_of {H : Hp} {a : Addr} {ks : List Str} (h : H a = some (.tup (ks.map V.str))) : Tp H (.ref a) (.tuple (ks.map .str)) := .tup h (TpAll.strs.mpr rfl)
mutual
theorem Tp.dp {K : PySem.W.Frag} {H : Hp} : ∀ {d : PyData} {v : V}, Tp H v d → Dp K H v d
  | .none, _, h => by cases h; exact .non
  | .bool b, _, h => by cases h; exact .bl b
  | .int i, _, h => by cases h; exact .int i
  | .str x, _, h => by cases h; exact .str x
  | .tuple ds, _, h => by
    cases h with
    | tup e r => exact .tup (.of e) (TpAll.dp r)
  | .list ds, _, h => by cases h
  | .dict ds, _, h => by cases h
theorem TpAll.dp {K : PySem.W.Frag} {H : Hp} : ∀ {ds : List PyData} {vs : List V}, TpAll H vs ds → DpAll K H vs ds
  | [], _, h => by cases h; exact .nil
  | d :: ds, _, h => by
    cases h with
    | cons a r => exact .cons (Tp.dp a) (TpAll.dp r)
end
/-- a tuple of data just made -/
theorem Tp.mk {H : Hp} {p : Addr} {xs : List V} {ds : List PyData} (h : H p = none) (r : TpAll H xs ds) : Tp (upd H p (.tup xs)) (.ref p) (.tuple ds) := .tup upd_same (TpAll.keep (.new h) r)

/-! ### a list comprehension whose elements are data -/
/-- what holds of the list at D behind i turns: what was stands, and the list is read as ds, of which Rl tells -/
def LcI (H1 : Hp) (D : Addr) (Rl : Nat → List PyData → Prop) (i : Nat) (H : Hp) : Prop := Same H1 H ∧ ∃ acc ds, H D = some (.lst acc) ∧ TpAll H acc ds ∧ Rl i ds ∧ ds.length ≤ i
section
variable {J : It} {n : Nat} {G : Hp → Prop} {Y : Nat → Hp → V → Hp → Prop}
theorem lc_rel (w : Walk J n G Y) {g : TG} {tt : TT} {te : TE} {vs : List Nat} {σ : L2.St} {H1 : Hp} {D : Addr} {Qd : Hp → Prop} (hD : H1 D = none) (hn : n < sizeLine) (Rl : Nat → List PyData → Prop) (h0 : Rl 0 [])
    (hG : ∀ H, Same H1 H → G H)
    (hs : ∀ (i : Nat) (ds : List PyData) (x : V) (H H' : Hp) (Qe : VK) (Qs : Hp → Prop), i < n → Same H1 H → Rl i ds → Y i H x H' →
      (∀ y d H4, Same H H4 → Tp H4 y d → Rl (i + 1) (ds ++ [d]) → Qe y H4) → (∀ H3, Same H H3 → Rl (i + 1) ds → Qs H3) →
      g x (wipe σ vs) H' fun σ2 H2 => wipe σ2 vs = wipe σ vs ∧ tt σ2 H2 fun b H3 => if b = true then te σ2 H3 Qe else Qs H3)
    (hd : ∀ H acc ds, Same H1 H → H D = some (.lst acc) → TpAll H acc ds → Rl n ds → ds.length ≤ n → Qd H) :
    ∃ W : Nat → Nat → Hp → Prop, (∃ m, W 0 m (upd H1 D (.lst []))) ∧ ∀ i m H, W i m H →
      (J.stop i H ∧ Qd H) ∨ (J.go i H ∧ ∃ Nx : Hp → Prop, (∀ H', Nx H' → ∃ m', m' < m ∧ W (i + 1) m' H') ∧ ∀ x H', J.yld i H x H' → g x (wipe σ vs) H' fun σ2 H2 => wipe σ2 vs = wipe σ vs ∧ tt σ2 H2 fun b H3 =>
        if b = true then te σ2 H3 fun y H4 => ∃ acc, H4 D = some (.lst acc) ∧ acc.length < sizeLine ∧ Nx (upd H4 D (.lst (acc ++ [y]))) else Nx H3) := by
  refine lc_it w (LcI H1 D Rl) ⟨sm_new hD, [], [], upd_same, .nil, h0, Nat.le_refl _⟩ (fun i H _ h => hG H h.1) ?_ ?_
  · rintro i x H H' hi ⟨s1, acc, ds, e, r, rl, hl⟩ y
    refine hs i ds x H H' _ _ hi s1 rl y (fun y d H4 s4 td rd => ?_) (fun H3 s3 rd => ?_)
    · have e4 := s4 _ _ e
      refine ⟨acc, e4, ?_, sm_upd (s1.trans s4) hD, _, _, upd_same, TpAll.keep (.updL e4) ((TpAll.same s4 r).snoc td), rd, ?_⟩
      · rw [r.length]
        omega
      · rw [List.length_append]
        exact Nat.add_le_add_right hl 1
    · exact ⟨s1.trans s3, acc, ds, s3 _ _ e, TpAll.same s3 r, rd, Nat.le_succ_of_le hl⟩
  · rintro H ⟨s1, acc, ds, e, r, rl, hl⟩
    exact hd H acc ds s1 e r rl hl
end
/-- the commonest: every item of es gives an element or none, by a fixed function -/
def RlF {α : Type} (f : α → Option PyData) (es : List α) (i : Nat) (ds : List PyData) : Prop := ds = (es.take i).filterMap f
section
variable {α : Type} {f : α → Option PyData} {es : List α} {ds : List PyData} {i n : Nat} {e : α} {d : PyData}
theorem RlF.zero : RlF f es 0 [] := rfl
theorem RlF.put (h : RlF f es i ds) (he : es[i]? = some e) (hf : f e = some d) : RlF f es (i + 1) (ds ++ [d]) := by
  unfold RlF at *
  rw [List.take_add_one, he, List.filterMap_append, ← h]
  simp [hf]
theorem RlF.skip (h : RlF f es i ds) (he : es[i]? = some e) (hf : f e = none) : RlF f es (i + 1) ds := by
  unfold RlF at *
  rw [List.take_add_one, he, List.filterMap_append, ← h]
  simp [hf]
theorem RlF.all (h : RlF f es n ds) (hn : es.length ≤ n) : ds = es.filterMap f := by
  unfold RlF at h
  rw [h, List.take_of_length_le hn]
end
/-- every item gives one -/
def RlM {α : Type} (f : α → PyData) (es : List α) (i : Nat) (ds : List PyData) : Prop := ds = (es.take i).map f
section
variable {α : Type} {f : α → PyData} {es : List α} {ds : List PyData} {i n : Nat} {e : α} {d : PyData}
theorem RlM.zero : RlM f es 0 [] := rfl
theorem RlM.put (h : RlM f es i ds) (he : es[i]? = some e) : RlM f es (i + 1) (ds ++ [f e]) := by
  unfold RlM at *
  rw [List.take_add_one, he, List.map_append, ← h]
  rfl
theorem RlM.all (h : RlM f es n ds) (hn : es.length ≤ n) : ds = es.map f := by
  unfold RlM at h
  rw [h, List.take_of_length_le hn]
end
theorem filter_ite {α : Type} (p : α → Prop) [DecidablePred p] (g : α → PyData) : ∀ l : List α, l.filterMap (fun x => if p x then some (g x) else none) = (l.filter fun x => decide (p x)).map g
  | [] => rfl
  | x :: l => by
    by_cases h : p x
    · rw [List.filterMap_cons, if_pos h, List.filter_cons, if_pos (by simpa using h), List.map_cons, filter_ite p g l]
    · rw [List.filterMap_cons, if_neg h, List.filter_cons, if_neg (by simpa using h), filter_ite p g l]
/-- items of a list of data -/
theorem TpAll.nth {H : Hp} {α : Type} {g : α → PyData} {xs : List V} {es : List α} {i : Nat} {x : V} (h : TpAll H xs (es.map g)) (hx : xs[i]? = some x) : ∃ e, es[i]? = some e ∧ Tp H x (g e) := by
  obtain ⟨d, hd, t⟩ := h.get hx
  rw [List.getElem?_map] at hd
  cases he : es[i]? with
  | none => rw [he] at hd; cases hd
  | some e =>
    rw [he] at hd
    cases hd
    exact ⟨e, rfl, t⟩
theorem TpAll.len {H : Hp} {α : Type} {g : α → PyData} {xs : List V} {es : List α} (h : TpAll H xs (es.map g)) : xs.length = es.length := by
  rw [h.length, List.length_map]
def rTupOf (K : PySem.W.Frag) : List V → Hp → VK → Prop := fun xs H Q => ∃ p ys, xs = [.ref p] ∧ ((SqL K H p ys ∧ ∀ l, H l = none → Q (.ref l) (upd H l (.tup ys))) ∨ (SqT K H p ys ∧ Q (.ref p) H))
/-- tuple(l) of a list just made -/
theorem tuple_of {K : PySem.W.Frag} {H : Hp} {D : Addr} {acc : List V} {ds : List PyData} {Q : VK} (e : H D = some (.lst acc)) (r : TpAll H acc ds) (q : ∀ v H', Same H H' → Tp H' v (.tuple ds) → Q v H') : rTupOf K [.ref D] H Q :=
  ⟨D, acc, rfl, .inl ⟨.of e, fun l hl => q _ _ (sm_new hl) (.mk hl r)⟩⟩
/-- bools that are all true -/
def RlT (_ : Nat) (ds : List PyData) : Prop := ∀ d ∈ ds, d = .bool true
theorem RlT.zero : RlT 0 [] := fun _ h => by cases h
theorem RlT.put {i : Nat} {ds : List PyData} (h : RlT i ds) : RlT (i + 1) (ds ++ [.bool true]) := fun d m => by
  rcases List.mem_append.mp m with m | m
  · exact h d m
  · exact List.mem_singleton.mp m
theorem bools_true {H : Hp} : ∀ {acc : List V} {ds : List PyData}, TpAll H acc ds → (∀ d ∈ ds, d = .bool true) → ∃ bs : List Bool, acc = bs.map V.bl ∧ bs.all id = true
  | [], _, _, _ => ⟨[], rfl, rfl⟩
  | x :: acc, [], h, _ => by cases h
  | x :: acc, d :: ds, h, t => by
    cases h with
    | cons a r =>
      obtain ⟨bs, e, q⟩ := bools_true r fun d m => t d (List.mem_cons_of_mem _ m)
      rw [t d List.mem_cons_self] at a
      cases a
      exact ⟨true :: bs, by rw [e]; rfl, by simp only [List.all_cons, q]; rfl⟩
/-- all([..]) of elements that are all true -/
theorem all_true {K : PySem.W.Frag} {H : Hp} {D : Addr} {acc : List V} {ds : List PyData} {n : Nat} {Q : VK} (e : H D = some (.lst acc)) (r : TpAll H acc ds) (t : RlT n ds) (q : Q (.bl true) H) : rAll K [.ref D] H Q := by
  obtain ⟨bs, e1, e2⟩ := bools_true r t
  subst e1
  exact ⟨D, bs, rfl, .of e, by rw [e2]; exact q⟩
theorem Tp.two {H : Hp} {x : V} {d1 d2 : PyData} (h : Tp H x (.tuple [d1, d2])) : ∃ a v1 v2, x = .ref a ∧ H a = some (.tup [v1, v2]) ∧ Tp H v1 d1 ∧ Tp H v2 d2 := by
  obtain ⟨a, xs, rfl, e, r⟩ := h.tup_at
  cases r with
  | cons r1 r => cases r with
    | cons r2 r => cases r; exact ⟨a, _, _, rfl, e, r1, r2⟩
theorem Tp.three {H : Hp} {x : V} {d1 d2 d3 : PyData} (h : Tp H x (.tuple [d1, d2, d3])) : ∃ a v1 v2 v3, x = .ref a ∧ H a = some (.tup [v1, v2, v3]) ∧ Tp H v1 d1 ∧ Tp H v2 d2 ∧ Tp H v3 d3 := by
  obtain ⟨a, xs, rfl, e, r⟩ := h.tup_at
  cases r with
  | cons r1 r => cases r with
    | cons r2 r => cases r with
      | cons r3 r => cases r; exact ⟨a, _, _, _, rfl, e, r1, r2, r3⟩
theorem walk_zipT {K : PySem.W.Frag} {a b : Addr} {xs ys : List V} {n : Nat} (hn : n = min xs.length ys.length) : Walk (RZ.ItzT K a b) n (fun H => SqT K H a xs ∧ SqT K H b ys) (YPair (fun i => xs[i]?) (fun i => ys[i]?)) where
  goes := fun i H hi ⟨h1, h2⟩ => ⟨xs, ys, xs[i], ys[i], h1, h2, List.getElem?_eq_getElem (by omega), List.getElem?_eq_getElem (by omega)⟩
  stops := fun H ⟨h1, h2⟩ => ⟨xs, ys, h1, h2, by omega⟩
  yields := fun i H v H' hi ⟨h1, h2⟩ ⟨T, x, y, e, hT, eH, hx, hy⟩ => ⟨T, x, y, e, hT, eH, hx xs h1, hy ys h2⟩
/-! ### what a def gives back -/
def RetB (b : Bool) (H : Hp) (Q : VK) : Prop := ∀ H', Same H H' → Q (.bl b) H'
def RetD (d : PyData) (H : Hp) (Q : VK) : Prop := ∀ v H', Same H H' → Tp H' v d → Q v H'
abbrev dS (l : List Str) : PyData := .tuple (l.map .str)
abbrev dCs (l : List (List Str)) : PyData := .tuple (l.map dS)
abbrev dH (ks : List Str) (cs : List (List Str)) : PyData := .tuple [dS ks, dCs cs]
end C9
/-! ## R4 -/
set_option maxHeartbeats 4000000
namespace C9
open PySem PySem.Spec PyProof.Rows L2
open PySem.W (Datum Holds HoldAll Tup)
/-! ### == and in, by data of one Lean type -/
section
variable {X : Cx} {pins : List (Addr × Obj)} {σ : L2.St} {H : Hp} {s : Shared} {α : Type} [DecidableEq α] [Datum α]
theorem holds_dp (I : Inv X pins σ H s) {v : V} {u : Value} {a : α} (h : Dp X.K H v (Datum.toD a)) (r : RelV v u) : Holds s.heap u a := Dp.reads I _ _ _ h r
theorem holds_all (I : Inv X pins σ H s) {vs : List V} {us : List Value} {as : List α} (h : DpAll X.K H vs (as.map Datum.toD)) (r : Vals vs us) : HoldAll s.heap us as := Dp.readsAll I _ _ _ h r
end
def rEqA (α : Type) [DecidableEq α] [Datum α] (K : PySem.W.Frag) : R2 := fun x y H Q => ∃ a b : α, Dp K H x (Datum.toD a) ∧ Dp K H y (Datum.toD b) ∧ Q (.bl (decide (a = b))) H
def rNeA (α : Type) [DecidableEq α] [Datum α] (K : PySem.W.Frag) : R2 := fun x y H Q => ∃ a b : α, Dp K H x (Datum.toD a) ∧ Dp K H y (Datum.toD b) ∧ Q (.bl (!decide (a = b))) H
def rInA (α : Type) [DecidableEq α] [Datum α] (K : PySem.W.Frag) : R2 := fun x y H Q => ∃ (a : α) (bs : List α) (p : Addr) (xs : List V), Dp K H x (Datum.toD a) ∧ y = .ref p ∧ (SqL K H p xs ∨ SqT K H p xs) ∧ DpAll K H xs (bs.map Datum.toD) ∧ Q (.bl (decide (a ∈ bs))) H
def rNotInA (α : Type) [DecidableEq α] [Datum α] (K : PySem.W.Frag) : R2 := fun x y H Q => ∃ (a : α) (bs : List α) (p : Addr) (xs : List V), Dp K H x (Datum.toD a) ∧ y = .ref p ∧ (SqL K H p xs ∨ SqT K H p xs) ∧ DpAll K H xs (bs.map Datum.toD) ∧ Q (.bl (!decide (a ∈ bs))) H
def rRemoveA (α : Type) [DecidableEq α] [Datum α] (K : PySem.W.Frag) : V → List V → Hp → VK → Prop := fun x vs H Q => ∃ (l : Addr) (y : V) (xs : List V) (a : α) (bs : List α) (j : Nat), x = .ref l ∧ vs = [y] ∧ H l = some (.lst xs) ∧ DpAll K H xs (bs.map Datum.toD) ∧ Dp K H y (Datum.toD a) ∧
  bs[j]? = some a ∧ (∀ m, m < j → bs[m]? ≠ some a) ∧ Q .non (upd H l (.lst (xs.eraseIdx j)))
section
variable {X : Cx} {α : Type} [DecidableEq α] [Datum α] {k : Nat}
theorem op_eqA (hr : Room k X.A) (hd : Datum.depth α ≤ 40) : OpR X (compareOp .Eq) (rEqA α X.K) := by
  intro pins s σ H x y v u Q I rx ry ⟨a, b, da, db, q⟩
  have := hr.units
  exact PySem.W.eq_datum (holds_dp I da rx) (holds_dp I db ry) (by omega) ⟨.bl _, H, I, rfl, q⟩
theorem op_neA (hr : Room k X.A) (hd : Datum.depth α ≤ 40) : OpR X (compareOp .NotEq) (rNeA α X.K) := by
  intro pins s σ H x y v u Q I rx ry ⟨a, b, da, db, q⟩
  have := hr.units
  refine PySem.W.ne_datum (holds_dp I da rx) (holds_dp I db ry) (by omega) ⟨.bl _, H, I, ?_, q⟩
  show Value.bool (decide (a ≠ b)) = Value.bool (!decide (a = b))
  rw [← decide_not]
theorem op_inA (hr : Room k X.A) (hd : Datum.depth α ≤ 40) : OpR X (compareOp .In) (rInA α X.K) := by
  rintro pins s σ H x y v u Q I rx ry ⟨a, bs, p, xs, da, rfl, hs, db, q⟩
  have := hr.units
  cases ry
  rcases hs with hs | hs
  · obtain ⟨its, r, pl, _⟩ := I.list hs
    exact PySem.W.in_list_datum pl.isList (holds_all I db (by simpa using r)) (holds_dp I da rx) (by omega) ⟨.bl _, H, I, rfl, q⟩
  · obtain ⟨its, r, pl, _⟩ := I.tuple hs
    exact PySem.W.in_tuple_datum pl (holds_all I db (by simpa using r)) (holds_dp I da rx) (by omega) ⟨.bl _, H, I, rfl, q⟩
theorem op_notInA (hr : Room k X.A) (hd : Datum.depth α ≤ 40) : OpR X (compareOp .NotIn) (rNotInA α X.K) := by
  rintro pins s σ H x y v u Q I rx ry ⟨a, bs, p, xs, da, rfl, hs, db, q⟩
  have := hr.units
  cases ry
  have e : ∀ (s' : Shared), Inv X pins σ H s' → EP X pins σ Q (.bool (decide (a ∉ bs))) s' := fun s' I' => ⟨.bl _, H, I', by
    show Value.bool (decide (a ∉ bs)) = Value.bool (!decide (a ∈ bs))
    rw [← decide_not], q⟩
  rcases hs with hs | hs
  · obtain ⟨its, r, pl, _⟩ := I.list hs
    exact PySem.W.notIn_list_datum pl.isList (holds_all I db (by simpa using r)) (holds_dp I da rx) (by omega) (e _ I)
  · obtain ⟨its, r, pl, _⟩ := I.tuple hs
    exact PySem.W.notIn_tuple_datum pl (holds_all I db (by simpa using r)) (holds_dp I da rx) (by omega) (e _ I)
theorem mt_removeA (hr : Room k X.A) (hd : Datum.depth α ≤ 40) : MtR X "list.remove" (rRemoveA α X.K) := by
  rintro pins s σ H x vs v us Q I rx rv ⟨l, y, xs, a, bs, j, rfl, rfl, hH, db, da, hj, hno, q⟩
  have := hr.units
  cases rx
  obtain ⟨u, rfl, ru⟩ := rv.one
  obtain ⟨z, its, n, r, hl, e⟩ := I.lstM hH
  refine PySem.W.remove_list_datum (vs := its.toArray) ⟨_, e, rfl, n, rfl⟩ (holds_all I db (by simpa using r)) (holds_dp I da ru) (by omega) hj hno (by rw [List.size_toArray, ← hl]; exact z) ?_
  refine ⟨.non, _, I.lset (its' := its.eraseIdx j) (t' := s.toks) hH e ?_ (r.eraseIdx j) (Nat.le_trans (len_erase xs j) z), rfl, q⟩
  rw [List.eraseIdxIfInBounds_toArray]
end
end C9
/-! ## R5 -/
set_option maxHeartbeats 4000000
namespace C9
open PySem PySem.Spec PyProof.Rows L2
open PySem.W (Datum)
/-! ### rules with the fragment named (a comprehension's parts may not speak of its block) -/
def rLenK (K : PySem.W.Frag) : List V → Hp → VK → Prop := fun xs H Q => ∃ x n, xs = [x] ∧ LenV K x H n ∧ Q (.int n) H
def rListOf (K : PySem.W.Frag) : List V → Hp → VK → Prop := fun xs H Q => ∃ p ys, xs = [.ref p] ∧ (SqL K H p ys ∨ SqT K H p ys) ∧ ∀ l, H l = none → Q (.ref l) (upd H l (.lst ys))
def rDictP (K : PySem.W.Frag) : List V → Hp → VK → Prop := fun xs H Q => ∃ (a : Addr) (ps : List Addr) (kvs : List (Key × V)), xs = [.ref a] ∧ SqL K H a (ps.map V.ref) ∧ Paired (fun p kv => SqT K H p [kV kv.1, kv.2]) ps kvs ∧ ∀ p, H p = none → Q (.ref p) (upd H p (.dK (mergeK [] kvs)))
section
variable {X : Cx} (K : PySem.W.Frag) {α : Type} [DecidableEq α] [Datum α] {k : Nat}
theorem k_eqA (hr : Room k X.A) (hd : Datum.depth α ≤ 40) (hK : X.K = K := by rfl) : OpR X (compareOp .Eq) (rEqA α K) := by subst hK; exact op_eqA hr hd
theorem k_neA (hr : Room k X.A) (hd : Datum.depth α ≤ 40) (hK : X.K = K := by rfl) : OpR X (compareOp .NotEq) (rNeA α K) := by subst hK; exact op_neA hr hd
theorem k_inA (hr : Room k X.A) (hd : Datum.depth α ≤ 40) (hK : X.K = K := by rfl) : OpR X (compareOp .In) (rInA α K) := by subst hK; exact op_inA hr hd
theorem k_notInA (hr : Room k X.A) (hd : Datum.depth α ≤ 40) (hK : X.K = K := by rfl) : OpR X (compareOp .NotIn) (rNotInA α K) := by subst hK; exact op_notInA hr hd
theorem k_removeA (hr : Room k X.A) (hd : Datum.depth α ≤ 40) (hK : X.K = K := by rfl) : MtR X "list.remove" (rRemoveA α K) := by subst hK; exact mt_removeA hr hd
theorem k_eqD (hr : Room k X.A) (hK : X.K = K := by rfl) : OpR X (compareOp .Eq) (rEqD K) := by subst hK; exact op_eqD hr.units
theorem k_ltD (hr : Room k X.A) (hK : X.K = K := by rfl) : OpR X (compareOp .Lt) (rLtD K) := by subst hK; exact op_ltD hr
theorem k_in (hK : X.K = K := by rfl) : OpR X (compareOp .In) (rIn K false) := by subst hK; exact op_in_seq
theorem k_notIn (hK : X.K = K := by rfl) : OpR X (compareOp .NotIn) (rIn K true) := by subst hK; exact op_notIn_seq
theorem k_all (hc : X.calm = true) (hK : X.K = K := by rfl) : CallR X (.builtin "all") (rAll K) := by subst hK; exact cr_all hc
theorem k_any (hc : X.calm = true) (hK : X.K = K := by rfl) : CallR X (.builtin "any") (rAny K) := by subst hK; exact cr_any hc
theorem k_len (hK : X.K = K := by rfl) : CallR X (.builtin "len") (rLenK K) := by subst hK; exact call_len
theorem k_tuple (hK : X.K = K := by rfl) : CallR X (.type "tuple") (rTupOf K) := by subst hK; exact call_tuple_of
theorem k_list (hK : X.K = K := by rfl) : CallR X (.type "list") (rListOf K) := by subst hK; exact call_list_of
theorem k_dictP (hc : X.calm = true) (hK : X.K = K := by rfl) : CallR X (.type "dict") (rDictP K) := by subst hK; exact call_dictP hc
theorem k_sorted (hK : X.K = K := by rfl) : CallR X (.builtin "sorted") (rSorted K) := by subst hK; exact cr_sorted
theorem k_sortedD (hr : Room k X.A) (hK : X.K = K := by rfl) : CallR X (.builtin "sorted") (rSortedD K) := by subst hK; exact cr_sortedD hr
theorem k_ixT (hK : X.K = K := by rfl) : IxR X (rIxT K) := by subst hK; exact ix_tup
theorem k_ixL (hK : X.K = K := by rfl) : IxR X (rIxL K) := by subst hK; exact ix_list
theorem k_slT (hK : X.K = K := by rfl) : SlR X (rSlA K) := by subst hK; exact sl_tupA
theorem k_slL (hK : X.K = K := by rfl) : SlR X (rSlL K) := by subst hK; exact sl_list
theorem k_get (hK : X.K = K := by rfl) : PGet X (rGetL K) := by subst hK; exact pget_list
variable {tg it e : Expr} {es : List Expr} {te : TE} {t : TA} {f : Str}
theorem k_piT (h : PI X tg it (iTup X.K te)) (hK : X.K = K := by rfl) : PI X tg it (iTup K te) := by subst hK; exact h
theorem k_piL (h : PI X tg it (iList X.K te)) (hK : X.K = K := by rfl) : PI X tg it (iList K te) := by subst hK; exact h
theorem k_enum (h : PI X tg it (iEnum X.K t)) (hK : X.K = K := by rfl) : PI X tg it (iEnum K t) := by subst hK; exact h
theorem k_zip (h : PI X tg it (RZ.iZipA X.K t)) (hK : X.K = K := by rfl) : PI X tg it (RZ.iZipA K t) := by subst hK; exact h
theorem k_tup {n : Nat} {u : TGs} (h : PG X tg (gTup X.K n u)) (hK : X.K = K := by rfl) : PG X tg (gTup K n u) := by subst hK; exact h
theorem k_bm {T : String} {r : V → List V → Hp → VK → Prop} (h : PE X e (tBM X.K T r te t)) (hK : X.K = K := by rfl) : PE X e (tBM K T r te t) := by subst hK; exact h
theorem k_revL (h : PE X e (tRevL X.K te)) (hK : X.K = K := by rfl) : PE X e (tRevL K te) := by subst hK; exact h
theorem k_star (h : PA X es (StX.tStar X.K te t)) (hK : X.K = K := by rfl) : PA X es (StX.tStar K te t) := by subst hK; exact h
theorem k_sl (h : PE X e (SlX.tSl X.K te f)) (hK : X.K = K := by rfl) : PE X e (SlX.tSl K te f) := by subst hK; exact h
end
end C9
/-! ## R6 -/
set_option maxHeartbeats 4000000
namespace C9
open PySem PySem.Spec PyProof.Rows L2
/-! ### y = {k: v for ..}, y a plain local name -/
/-- what holds in each block of a comprehension -/
abbrev Blk (X : Cx) (scope : Scope) (F : Cx → Prop) : Prop := ∀ (s : Shared) (H : Hp) (C : Addr) (cl : List (Str × Addr)) (fp : List Addr), F (X.blk s H scope (compEnvC scope cl C X.env) fp)
section
variable {X : Cx} {i : Nat} {y : Str} {py : Pos} {kx vx tg iter : Expr} {scope : Scope} {own : List (Str × Nat)} {pos spos : Pos} {wi : TI} {g : TG} {tk tv : TE} {ifs : List Expr} {tt : TT}
theorem ps_setDc (hc : X.calm = true) (hN : X.N.Nodup) (hy : X.N[i]? = some y) (hyl : X.env.scope.names.lookup y = some .local)
    (hsw : swapsWith (.DictComp kx vx [⟨tg, iter, ifs, 0⟩] scope pos) (some (.Name y py)) spos.line X.env = pure true) (hi : PI X tg iter wi) (ok : BlkOk X.N X.env.scope scope own)
    (hg : Blk X scope fun Y => PG Y tg g) (ht : Blk X scope fun Y => PTs Y ifs tt) (hk : Blk X scope fun Y => PE Y kx tk) (he : Blk X scope fun Y => PE Y vx tv) (hs : ∀ x, foldedSetIterable iter X.env x = pure x := by intro _; rfl) :
    PS X (.Assign [.Name y py] (.DictComp kx vx [⟨tg, iter, ifs, 0⟩] scope pos) spos) (tAsg (tDc wi g tt tk tv (own.map (·.2))) (gName i)) := by
  refine ⟨fun pins s σ H D I h => ?_⟩
  rw [exec_Assign_Name_used _ _ _ _ hsw]
  refine wpAny_bind (wpAny_standAt (wpAny_bind ?_))
  show wpAny _ X.A (comprehension (.DictComp kx vx [⟨tg, iter, ifs, 0⟩] scope pos) scope X.env (firstIterPos [⟨tg, iter, ifs, 0⟩] pos) newDict false (eval iter X.env) (some (assign (.Name y py) X.env)) >>= fun _ => _) _ _ s
  have q0 : tDc wi g tt tk tv (own.map (·.2)) σ H (fun x H1 => gName i x σ H1 D.nx) := h
  refine wpAny_bind (thn (dc_core (Qf := fun _ s' => SP X pins D .next s') hc hN I hi ok hg ht hk he hs q0 fun L C s' m H' I' q hn ⟨f0, f1, f2, f3, f4, f5⟩ => ?_) fun _ s' r => wpAny_pure (wpAny_pure r))
  show wpAny _ _ (assign (.Name y py) X.env (.ref L)) _ _ _
  refine wpAny_assign_Name (store_ok2 (v := V.ref L) I' hN hy (.inl hyl) rfl (fun s2 I2 ⟨a, sb, ha⟩ => ?_) (.inr hyl))
  have ne : C ≠ a := by
    rcases ha with z | z
    · subst z
      exact f1
    · exact fun e => f4 y a z e.symm
  exact ⟨m, hn.sameBut sb ne, fun h3 sb3 => ⟨_, H', I2.turned (t' := s2.toks) (fun b o hb e => (sb3.2 b hb).trans e) f0 f1 f3 f4 f5, q⟩⟩
end
end C9
/-! ## R7 -/
set_option maxHeartbeats 4000000
namespace C9
open PySem PySem.Spec PyProof.Rows L2
/-! ### a slot as a target among others -/
def gSlot (K : PySem.W.Frag) (ta : TE) (f : Str) : TG := fun v σ H Q => ta σ H fun x H1 => ∃ a C dx p vs i, x = .ref a ∧ SlX.Slt H1 a C dx vs ∧ SlX.SCls K C ∧ SlX.Slot1 K C f p i ∧ Q σ (SlX.slH H1 a C dx (SlX.putS i v vs))
theorem pg_slot {X : Cx} {o : Expr} {f : Str} {pos : Pos} {ta : TE} (ho : PE X o ta) : PG X (.Attribute o f pos) (gSlot X.K ta f) := by
  refine ⟨fun pins s σ H v u Q I r h => ?_⟩
  rw [assign_Attribute]
  refine wpAny_bind (wpAny_holding (thn (ho.run pins s σ H _ I h) fun ov s1 ⟨x, H1, I1, rx, a, C, dx, p, vs, i, ex, hs, c, t, q⟩ => ?_))
  subst ex
  obtain rfl : ov = Value.ref a := rx
  refine wpAny_bind (wpAny_standAt (wpAny_bind (wpAny_holding (SlX.setslot_ok I1 hs c t r fun s3 I3 => ?_))))
  exact wpAny_release ⟨σ, _, I3, q⟩
theorem k_slot {X : Cx} (K : PySem.W.Frag) {tg : Expr} {te : TE} {f : Str} (h : PG X tg (gSlot X.K te f)) (hK : X.K = K := by rfl) : PG X tg (gSlot K te f) := by subst hK; exact h
theorem k_ssl {X : Cx} (K : PySem.W.Frag) {st : Stmt} {ta tv : TE} {f : Str} (h : PS X st (SlX.sSl X.K ta tv f)) (hK : X.K = K := by rfl) : PS X st (SlX.sSl K ta tv f) := by subst hK; exact h
end C9
/-! ## R8 -/
set_option maxHeartbeats 4000000
namespace C9
open PySem PySem.Spec PyProof.Rows L2
/-! ### enumerate(t), t a tuple -/
abbrev itO (t : Addr) : Obj := { cls := .type "tuple_iterator", data := .fields #[.ref t, .int 0 0] }
abbrev enO (i : Addr) : Obj := { cls := .type "enumerate", data := .fields #[.none, .bool false, .ref i, rawInt 0, .none, .none] }
theorem en_new {v : Value} {o : Obj} {F : Heap → Prop} (B : Begins v o F) : Meets (Builtin.«enumerate.__new__» ⟨[.type "enumerate", v], []⟩)
    (fun _ R s => F s.heap ∧ R (.ok (.ret (.ref (s.heap.push o).objs.size))) { s with heap := (s.heap.push o).push (enO s.heap.objs.size) }) := .of_wp fun prog w A R s ⟨h1, hR⟩ => by
  obtain ⟨hp, g, d, tk, os⟩ := s
  have isSub := sub_enumerate
  have go : ∀ {A' : Around} {E' : Value → Shared → Prop} {Q' : Value → Shared → Prop}, Q' (.ref hp.objs.size) ⟨hp.push o, g, d, tk, os⟩ → wpAny (model prog w) A' (pyIter v) Q' E' ⟨hp, g, d, tk, os⟩ := fun q => B.iter prog w _ _ ⟨hp, g, d, tk, os⟩ _ h1 q
  wp_walk using go
  refine wpAny_stack_any fun st => wpAny_pure ?_
  split
  · rename_i c _ _ _ _ _
    cases (c == Value.type "enumerate") <;> (wp_walk using go; exact ⟨_, rfl, hR⟩)
  · wp_walk using go
    exact ⟨_, rfl, hR⟩
section
variable {prog : Program} {w : World} {A : Around} {E : Value → Shared → Prop} {s : Shared}
theorem en_call {v : Value} {o : Obj} {G : Heap → Prop} {Q : Value → Shared → Prop} (B : Begins v o G) (h1 : G s.heap)
    (h : ∀ h', IsEnum h' (s.heap.objs.size + 1) s.heap.objs.size 0 .none → h'.get? s.heap.objs.size = some o → (∀ b ob, s.heap.get? b = some ob → h'.get? b = some ob) → Q (.ref (s.heap.objs.size + 1)) { s with heap := h' }) :
    wpAny (model prog w) A (call (.type "enumerate") [v]) Q E s := by
  refine callType_new F.called_enumerate (by decide) (F.typeCall_enumerate_1 _) (F.newCall_enumerate_1 _) (fun obj => F.args_object_init_2 obj _) F.entry_enumerate_new (en_new B) ⟨h1, ?_⟩
  have z : (s.heap.push o).objs.size = s.heap.objs.size + 1 := Heap.size_push ..
  show _ ∧ _
  rw [z]
  have e : IsEnum ((s.heap.push o).push (enO s.heap.objs.size)) (s.heap.objs.size + 1) s.heap.objs.size 0 .none := by
    have q := Heap.get?_push_size (s.heap.push o) (o := enO s.heap.objs.size) rfl
    rwa [z] at q
  exact ⟨⟨_, e, rfl⟩, h _ e (Heap.get?_push_of_some _ (Heap.get?_push_size _ B.free)) fun b ob x => Heap.get?_push_of_some _ (Heap.get?_push_of_some _ x)⟩
end
/-- the tuple at a, each item in a new pair behind its index -/
def IteT (K : PySem.W.Frag) (a : Addr) : It where
  go i H := ∃ (xs : List V) (x : V), SqT K H a xs ∧ xs[i]? = some x
  yld i H v H' := ∃ T x, v = .ref T ∧ H T = none ∧ H' = upd H T (.tup [.int (i : Nat), x]) ∧ ∀ xs, SqT K H a xs → xs[i]? = some x
  stop i H := ∃ xs : List V, SqT K H a xs ∧ xs.length = i
theorem turn_enumT {P : Program} {w : World} {K : PySem.W.Frag} {elts : List Expr} {kk : Nat} {tpos : Pos} (a e it : Addr) (hai : a ≠ it) (hae : e ≠ a) :
    Turn P w K (.Tuple elts kk tpos) (IteT K a) [e, it] e (fun i h => (∃ old, IsEnum h e it ((i : Nat) : Int) old) ∧ h.IsTupleIter it a i ∧ e ≠ it) where
  mem := List.mem_cons_self
  obj := fun i h st b hb => by
    obtain ⟨⟨old, he⟩, ⟨o, ho, hc, hd⟩, _⟩ := st
    rcases (by simpa using hb : b = e ∨ b = it) with rfl | rfl
    · exact ⟨_, he, fun v q => nomatch q⟩
    · exact ⟨o, ho, fun v q => by rw [hd] at q; cases q⟩
  keep := fun i h h' ⟨⟨old, he⟩, hi, hne⟩ k => ⟨⟨old, k e (by simp) _ he⟩, hi.at fun o q => k it (by simp) o q, hne⟩
  item := by
    rintro X rfl rfl rfl hc i pins s σ H E I hf ⟨⟨old, he⟩, hit, hne⟩ ⟨xs, x, hq, hx⟩
    obtain ⟨its, rv, p, hz⟩ := I.tuple hq
    obtain ⟨u, hu, ru⟩ := rv.get hx
    have hA : X.A.in1.handled = none := I.ok.hd hc
    have le : e < s.heap.objs.size := Heap.lt_size he
    have li : it < s.heap.objs.size := by obtain ⟨_, q, _⟩ := hit; exact Heap.lt_size q
    have hi : i < its.toArray.size := by rw [List.size_toArray, ← rv.length]; exact (List.getElem?_eq_some_iff.mp hx).1
    refine wpAny_pyNext_enum_itemC (Draws.tuple hA it a hai its.toArray) he ⟨hit, p⟩ hi hne (by simp [hne, hae]) fun u' h' tk hu' ho hst' hT hsz hk => ?_
    have eu : u' = u := by
      have q : its[i]? = some u' := by simpa using hu'
      exact Option.some.inj (q.symm.trans hu)
    subst eu
    refine ⟨_, rfl, wpAny_letOwnedTupleGo_enum (s := { s with heap := h', toks := tk + 1 }) ho fun h'' he' sb => ?_⟩
    have hT2 := (sb.2 _ (Nat.ne_of_gt le)).trans hT
    have new : ObjOk X.prog X.w (upd H s.heap.objs.size (.tup [.int (i : Nat), x])) h'' s.heap.objs.size (.tup [.int (i : Nat), x]) :=
      ⟨by show 2 ≤ _; decide, [.int i tk, u'], .cons ⟨_, rfl⟩ (.cons ru .nil), ⟨_, hT2, rfl, _, rfl⟩⟩
    have I1 : Inv X pins σ (upd H s.heap.objs.size (.tup [.int (i : Nat), x])) { s with heap := h'', toks := tk + 1 } :=
      I.turnedNew (ch := [e, it]) (fun b ob hb q => (sb.2 b (fun z => hb (by simp [z]))).trans (hk b ob (fun z => hb (by simp [z])) (fun z => hb (by simp [z])) q)) hf (Nat.le_refl _) new
    refine ⟨.ref s.heap.objs.size, _, I1, rfl, ⟨_, x, rfl, I.hok.fresh (Nat.le_refl _), rfl, fun ys hy => by rw [I.tuple_inj hy hq]; exact hx⟩, ⟨⟨u', ?_⟩, hst'.1.at fun o q => (sb.2 it (Ne.symm hne)).trans q, hne⟩, fun b hb => ?_⟩
    · rw [show ((i + 1 : Nat) : Int) = (i : Int) + 1 by omega]
      exact he'
    · rw [upd_ne]
      · exact (hf b hb).1
      · rcases (by simpa using hb : b = e ∨ b = it) with rfl | rfl
        · exact Nat.ne_of_lt le
        · exact Nat.ne_of_lt li
  done := by
    rintro X rfl rfl rfl hc i pins s σ H E I hf ⟨⟨old, he⟩, hit, hne⟩ ⟨xs, hq, hx⟩
    obtain ⟨its, rv, p, hz⟩ := I.tuple hq
    obtain ⟨f0, f1, f2, f3, f4, f5⟩ := hf it (by simp)
    have hA : X.A.in1.handled = none := I.ok.hd hc
    subst hx
    exact wpAny_pyNext_enum_endD (Draws.tuple hA it a hai its.toArray) he ⟨by rw [List.size_toArray, ← rv.length]; exact hit, p⟩ fun h' eb => ⟨rfl, I.turned (t' := s.toks) (fun b o hb q => eb b o hb q) f0 f1 f3 f4 f5⟩
  self := fun A i s Q E ⟨⟨_, he⟩, _⟩ h => wpAny_pyIter_enum he h
def iEnumT (K : PySem.W.Frag) (ta : TA) : TI := fun σ H R => ta σ H fun vs H1 => ∃ a xs, vs = [.ref a] ∧ SqT K H1 a xs ∧ R (IteT K a) H1
theorem pi_enumT {X : Cx} {e : Expr} {ta : TA} {p pos tpos : Pos} {elts : List Expr} {kk : Nat} (hg : Gl X "enumerate") (hm : X.mg "enumerate" = none) (ha : PA X [e] ta)
    (na : starEach [e] X.env = [(false, eval e X.env)] := by rfl) : PI X (.Tuple elts kk tpos) (.Call (.Name "enumerate" p) [e] [] pos) (iEnumT X.K ta) := by
  refine ⟨fun pins s σ H R I h => Call_ (ld_blt I hg hm boot_enumerate (PyProof.Rows.callWith_type1 (thn (ha.run pos pins s σ H _ I h) fun us s1 ⟨vs, H1, I1, r1, a, xs, ex, hq, q⟩ => ?_) na rfl))⟩
  subst ex
  rw [Vals.ref1 r1]
  obtain ⟨its, rv, p', hz⟩ := I1.tuple hq
  have la : a < s1.heap.objs.size := by obtain ⟨o, e, _⟩ := p'; exact Heap.lt_size e
  refine en_call (begins_tuple a its.toArray) p' fun h' he hit hk => wpAny_pyIter_enum he ?_
  refine ⟨s1.heap.objs.size + 1, [s1.heap.objs.size + 1, s1.heap.objs.size], _, _, H1, rfl, I1.kept (t' := s1.toks) hk, turn_enumT a (s1.heap.objs.size + 1) s1.heap.objs.size (Nat.ne_of_lt la) (Nat.ne_of_gt (Nat.lt_succ_of_lt la)), ⟨⟨.none, he⟩, ⟨_, hit, rfl, rfl⟩, Nat.succ_ne_self _⟩, fun b hb => ?_, q⟩
  have le : s1.heap.objs.size ≤ b := by
    rcases (by simpa using hb : b = s1.heap.objs.size + 1 ∨ b = s1.heap.objs.size) with z | z
    · rw [z]
      exact Nat.le_succ _
    · rw [z]
      exact Nat.le_refl _
  exact I1.fpOk le (I1.hok.fresh le)
theorem walk_enumT {K : PySem.W.Frag} {a : Addr} {xs : List V} : Walk (IteT K a) xs.length (fun H => SqT K H a xs) (YPair (fun i => some (.int (i : Nat))) (fun i => xs[i]?)) where
  goes := fun i H hi h => ⟨xs, xs[i], h, List.getElem?_eq_getElem hi⟩
  stops := fun H h => ⟨xs, h, rfl⟩
  yields := fun i H v H' hi h ⟨T, x, e, hT, eH, hx⟩ => ⟨T, .int (i : Nat), x, e, hT, eH, rfl, hx xs h⟩
theorem k_enumT {X : Cx} (K : PySem.W.Frag) {tg it : Expr} {t : TA} (h : PI X tg it (iEnumT X.K t)) (hK : X.K = K := by rfl) : PI X tg it (iEnumT K t) := by subst hK; exact h
end C9
/-! ## R9 -/
set_option maxHeartbeats 4000000
namespace C9
open PySem PySem.Spec PyProof.Rows L2
/-! ### the drawing bag: a list of three ints and a list, its ints left open -/
abbrev bagL (c0 c1 c2 : Int) (l : Addr) : List V := [.int c0, .int c1, .int c2, .ref l]
def bagO (b l : Addr) : HO := .ext fun h => ∃ (c0 c1 c2 : Int) (its : List Value) (n : Nat), Vals (bagL c0 c1 c2 l) its ∧ h.get? b = some { cls := .type "list", data := .seq its.toArray n }
section
variable {X : Cx} {pins : List (Addr × Obj)} {σ : L2.St} {H : Hp} {s : Shared} {b l : Addr}
theorem bag_open (I : Inv X pins σ H s) (e : H b = some (bagO b l)) : ∃ c0 c1 c2, Inv X pins σ (upd H b (.lst (bagL c0 c1 c2 l))) s := by
  obtain ⟨⟨c0, c1, c2, its, n, v, g⟩, _⟩ := I.hok b _ e
  refine ⟨c0, c1, c2, ?_⟩
  have q := I.write (x := b) (e := b) (o := .lst (bagL c0 c1 c2 l)) (h' := s.heap) (t' := s.toks) (by rw [e]; exact trivial) (.inl rfl) (fun _ _ _ z => z) ⟨_, g⟩ ⟨by show 4 ≤ _; decide, its, n, v, g⟩
  exact q
theorem bag_close {c0 c1 c2 : Int} (I : Inv X pins σ H s) (e : H b = some (.lst (bagL c0 c1 c2 l))) : Inv X pins σ (upd H b (bagO b l)) s := by
  obtain ⟨z, its, n, v, g⟩ := I.hok b _ e
  have q := I.write (x := b) (e := b) (o := bagO b l) (h' := s.heap) (t' := s.toks) (by rw [e]; exact trivial) (.inl rfl) (fun _ _ _ z => z) ⟨_, g⟩
    ⟨⟨c0, c1, c2, its, n, v, g⟩, ⟨_, g⟩, fun h1 h2 ⟨d0, d1, d2, it2, m, w, g2⟩ k => ⟨d0, d1, d2, it2, m, w, k _ g2⟩⟩
  exact q
end
/-- what is left of the bag when it is put away -/
def bagEnd (b l : Addr) (Q : Hp → Prop) (H : Hp) : Prop := ∃ c0 c1 c2, H b = some (.lst (bagL c0 c1 c2 l)) ∧ Q (upd H b (bagO b l))
def tBag (t : TS) : TS := fun D σ H => ∃ b l, H b = some (bagO b l) ∧ ∀ c0 c1 c2, t { nx := fun σ' H' => bagEnd b l (D.nx σ') H', rt := fun v H' => bagEnd b l (D.rt v) H' } σ (upd H b (.lst (bagL c0 c1 c2 l)))
theorem pss_bag {X : Cx} {sts : List Stmt} {t : TS} (h : PSs X sts t) : PSs X sts (tBag t) := by
  refine ⟨fun pins s σ H D I ⟨b, l, e, ht⟩ => ?_⟩
  obtain ⟨c0, c1, c2, I1⟩ := bag_open I e
  refine thn (h.run pins s σ _ _ I1 (ht c0 c1 c2)) fun f s' q => ?_
  cases f with
  | next =>
    obtain ⟨σ', H', I2, d0, d1, d2, e2, q2⟩ := q
    exact ⟨σ', _, bag_close I2 e2, q2⟩
  | brk =>
    obtain ⟨σ', H', I2, q2⟩ := q
    exact q2.elim
  | cont =>
    obtain ⟨σ', H', I2, q2⟩ := q
    exact q2.elim
  | ret u =>
    obtain ⟨v, σ', H', I2, r, d0, d1, d2, e2, q2⟩ := q
    exact ⟨v, σ', _, bag_close I2 e2, r, q2⟩
def tBagNew (t : TE) : TE := fun σ H Q => t σ H fun x H1 => ∃ b l c0 c1 c2, x = .ref b ∧ H1 b = some (.lst (bagL c0 c1 c2 l)) ∧ Q (.ref b) (upd H1 b (bagO b l))
theorem pe_bagNew {X : Cx} {e : Expr} {t : TE} (h : PE X e t) : PE X e (tBagNew t) := by
  refine ⟨fun pins s σ H Q I hw => thn (h.run pins s σ H _ I hw) fun v s1 ⟨x, H1, I1, r, b, l, c0, c1, c2, ex, eb, q⟩ => ?_⟩
  subst ex
  exact ⟨.ref b, _, bag_close I1 eb, r, q⟩
theorem call_intI {X : Cx} : CallR X (.type "int") (fun xs H Q => ∃ i, xs = [.int i] ∧ Q (.int i) H) := fun pins s σ H xs us Q I r h => call_int1 pins s σ H xs us Q I r (.inl h)
theorem call_intB {X : Cx} : CallR X (.type "int") (fun xs H Q => ∃ k, xs = [.bl k] ∧ Q (.int (if k then 1 else 0)) H) := fun pins s σ H xs us Q I r h => call_int1 pins s σ H xs us Q I r (.inr h)
theorem k_ix {X : Cx} (K : PySem.W.Frag) (hK : X.K = K := by rfl) : IxR X (rIx K) := by subst hK; exact ix_seq
end C9
/-! ## Tx -/
set_option maxHeartbeats 4000000
namespace C9
open PySem PySem.Spec PyProof.Rows L2 C8
theorem cxK {CX : CXT} {P : Program} {w : World} {K : PySem.W.Frag} {mg : Str → Option Value} {base : Heap} {N : List Str} {q : Str} {sc : Scope} {f : Addr} {cd : Value} {A : Around} {outer : List Env} {s : Shared} {H : Hp} {E : XK} : (cxOf CX P w K mg base N q sc f cd A outer s H E).K = K := rfl
/-! ### what the head tells -/
structure Txt (K : PySem.W.Frag) (mg : Str → Option Value) : Prop where
  says : SaysY K
  ns : ∃ h : Heap, K.In h ∧ h.Ns mainGlobals mg
section
variable {K : PySem.W.Frag} {mg : Str → Option Value} {P : Program} {w : World} {base : Heap}
theorem Txt.fact (T : Txt K mg) (i : Nat) {f : He.Fa} (h : fa[i]? = some f := by rfl) : f.ok K = true := T.says.1.fact i h
theorem Txt.free (T : Txt K mg) (i : Nat) {x : Str} (h : fa[i]? = some (.free x) := by rfl) : mg x = none := by
  obtain ⟨hh, X, G⟩ := T.ns
  exact He.free_ok X G (T.fact i h)
theorem Txt.glo (T : Txt K mg) (i : Nat) {x : Str} (h : fa[i]? = some (.glo x) := by rfl) : mg x = some (.ref (He.ga K x)) := by
  obtain ⟨hh, X, G⟩ := T.ns
  exact He.glo_ok X G (T.fact i h)
theorem Txt.int (T : Txt K mg) (n : Nat) {x : Str} {i : Int} (h : fa[n]? = some (.int x i) := by rfl) : ∃ u, mg x = some u ∧ RelV (.int i) u := by
  obtain ⟨hh, X, G⟩ := T.ns
  obtain ⟨t, e⟩ := He.int_ok X G (T.fact n h)
  exact ⟨_, e, t, rfl⟩
theorem Txt.str (T : Txt K mg) (n : Nat) {x z : Str} (h : fa[n]? = some (.str x z) := by rfl) : ∃ u, mg x = some u ∧ RelV (.str z) u := by
  obtain ⟨hh, X, G⟩ := T.ns
  obtain ⟨t, e⟩ := He.str_ok X G (T.fact n h)
  exact ⟨_, e, t, rfl⟩
theorem Txt.cal (T : Txt K mg) {x q : Str} {args : Arguments} {body : List Stmt} {sc : Scope} (i j : Nat) (hd : fn[i]? = some ⟨(x, none), x, q, args, body, sc, [], []⟩) (hg : fa[j]? = some (.glo x)) {N ps : List Str} {sp : Sp} {k : Nat} (S : FnScope N ps sc)
    (hb : ∀ (kV doc pm : Value) (an : Option Addr) (cdv ct : Value) (us : List Value), us.length = ps.length → bindArgs (PySem.W.fnOf x q args body sc .none kV doc pm an cdv ct) ⟨us, []⟩ = pure (ps.zip us))
    (len : ∀ vs H Q E, sp vs H Q E → vs.length = ps.length)
    (hbody : ∀ (f : Addr) (cdv : Value) (A : Around) (outer : List Env) (s : Shared) (H : Hp) (vs : List V) (Q : VK) (E : XK), Room k (A.deeper (envOfC q sc s.heap.objs.size f cdv)) → sp vs H Q E →
      ∃ t, PSs (cxOf C8.CX0 P w K mg base N q sc f cdv A outer s H E).nox body t ∧ t { nx := fun _ H' => Q .non H', rt := Q } (start N vs) H) : C8.Cal P w K mg base (k + 1) x sp [] := by
  obtain ⟨fd, F⟩ := T.says.1.def_ i hd
  refine ⟨_, fd, ps, [], FunD.ok F S len (fun cdv A outer s H vs Q E hr h => ?_), T.glo j hg, F.kp, F.bindsN hb, .nil⟩
  obtain ⟨t, hp, ht⟩ := hbody _ cdv A outer s H vs Q E hr h
  exact ⟨t, hp.nox, ht⟩
/-! ### the class Store -/
abbrev cS (K : PySem.W.Frag) : Addr := He.ga K "Store"
theorem Txt.scls (T : Txt K mg) : SlX.SCls K (cS K) := by
  have h := (He.ba T.says.2).1
  unfold slcB at h
  exact ⟨(He.ba h).1, (He.ba (He.ba h).2).1, (He.ba (He.ba (He.ba h).2).2).1, He.eqO_ok (He.ba (He.ba (He.ba h).2).2).2⟩
theorem slot_of {C : Addr} {f : Str} {i : Nat} (hi : i < 1000) (h : slotB K C f i = true) : ∃ p, SlX.Slot1 K C f p i := by
  unfold slotB at h
  split at h
  · rename_i p hp
    exact ⟨p, hp, He.eqO_ok (He.ba h).1, of_decide_eq_true (He.ba (He.ba h).2).1, of_decide_eq_true (He.ba (He.ba (He.ba h).2).2).1, of_decide_eq_true (He.ba (He.ba (He.ba h).2).2).2, hi⟩
  · cases h
theorem Txt.sl0 (T : Txt K mg) : ∃ p, SlX.Slot1 K (cS K) "its_house" p 0 := slot_of (by decide) (He.ba (He.ba T.says.2).2).1
theorem Txt.sl1 (T : Txt K mg) : ∃ p, SlX.Slot1 K (cS K) "its_names" p 1 := slot_of (by decide) (He.ba (He.ba (He.ba T.says.2).2).2).1
theorem Txt.sl2 (T : Txt K mg) : ∃ p, SlX.Slot1 K (cS K) "its_rows" p 2 := slot_of (by decide) (He.ba (He.ba (He.ba (He.ba T.says.2).2).2).2).1
theorem Txt.sl3 (T : Txt K mg) : ∃ p, SlX.Slot1 K (cS K) "its_things" p 3 := slot_of (by decide) (He.ba (He.ba (He.ba (He.ba (He.ba T.says.2).2).2).2).2).1
theorem Txt.sys (T : Txt K mg) : ∃ o, K.lookup sysModules = some o := Option.isSome_iff_exists.mp (He.ba (He.ba (He.ba (He.ba (He.ba T.says.2).2).2).2).2).2
/-- a method of Store's -/
structure MetS (P : Program) (w : World) (K : PySem.W.Frag) (mg : Str → Option Value) (base : Heap) (k : Nat) (m : Str) (sp : Sp) : Prop where
  mt : Meth K (cS K) m (He.ma K (cS K) m)
  fn : FnR P w K mg base C8.CX0 k (He.ma K (cS K) m) sp
theorem Txt.met (T : Txt K mg) {m q : Str} {args : Arguments} {body : List Stmt} {sc : Scope} (i j : Nat) (hd : fn[i]? = some ⟨("Store", some m), m, q, args, body, sc, [], []⟩) (hg : fa[j]? = some (.meth "Store" m)) {N ps : List Str} {sp : Sp} {k : Nat} (S : FnScope N ps sc)
    (hb : ∀ (kV doc pm : Value) (an : Option Addr) (cdv ct : Value) (us : List Value), us.length = ps.length → bindArgs (PySem.W.fnOf m q args body sc .none kV doc pm an cdv ct) ⟨us, []⟩ = pure (ps.zip us))
    (len : ∀ vs H Q E, sp vs H Q E → vs.length = ps.length)
    (hbody : ∀ (f : Addr) (cdv : Value) (A : Around) (outer : List Env) (s : Shared) (H : Hp) (vs : List V) (Q : VK) (E : XK), Room k (A.deeper (envOfC q sc s.heap.objs.size f cdv)) → sp vs H Q E →
      ∃ t, PSs (cxOf C8.CX0 P w K mg base N q sc f cdv A outer s H E).nox body t ∧ t { nx := fun _ H' => Q .non H', rt := Q } (start N vs) H) : MetS P w K mg base (k + 1) m sp := by
  obtain ⟨fd, F⟩ := T.says.1.def_ i hd
  refine ⟨He.meth_ok (T.fact j hg), ((FunD.ok F S len (fun cdv A outer s H vs Q E hr h => ?_)).raw (F.bindsN hb) .nil).imp fun vs H Q E h => by rw [List.append_nil]; exact h⟩
  obtain ⟨t, hp, ht⟩ := hbody _ cdv A outer s H vs Q E hr h
  exact ⟨t, hp.nox, ht⟩
theorem Txt.mak (T : Txt K mg) {q : Str} {args : Arguments} {body : List Stmt} {sc : Scope} (i : Nat) (hd : fn[i]? = some ⟨("Store", some "__init__"), "__init__", q, args, body, sc, [], []⟩) {N ps : List Str} {sp : Sp} {k : Nat} (S : FnScope N ps sc)
    (hb : ∀ (kV doc pm : Value) (an : Option Addr) (cdv ct : Value) (us : List Value), us.length = ps.length → bindArgs (PySem.W.fnOf "__init__" q args body sc .none kV doc pm an cdv ct) ⟨us, []⟩ = pure (ps.zip us))
    (len : ∀ vs H Q E, sp vs H Q E → vs.length = ps.length)
    (hbody : ∀ (f : Addr) (cdv : Value) (A : Around) (outer : List Env) (s : Shared) (H : Hp) (vs : List V) (Q : VK) (E : XK), Room k (A.deeper (envOfC q sc s.heap.objs.size f cdv)) → sp vs H Q E →
      ∃ t, PSs (cxOf C8.CX0 P w K mg base N q sc f cdv A outer s H E).nox body t ∧ t { nx := fun _ H' => Q .non H', rt := Q } (start N vs) H) : C8.Mak P w K mg base (k + 1) "Store" (cS K) sp [] := by
  obtain ⟨fd, F⟩ := T.says.1.def_ i hd
  refine ⟨_, fd, ps, [], He.mkr_ok (T.fact 73), FunD.ok F S len (fun cdv A outer s H vs Q E hr h => ?_), T.glo 67, F.bindsN hb, .nil⟩
  obtain ⟨t, hp, ht⟩ := hbody _ cdv A outer s H vs Q E hr h
  exact ⟨t, hp.nox, ht⟩
end
end C9
/-! ## S1 -/
set_option maxHeartbeats 4000000
namespace C9
open PySem PySem.Spec PyProof.Rows L2
open PySem.W (dataLt dataLe AllAlike Sortable alike keyToks keyToksAll)
/-! ### what sorted gives -/
def sortD (ds : List PyData) : List PyData := ds.mergeSort fun a b => !dataLt b a
theorem le_is {β : Type} (k : β → PyData) : dataLe false k = fun a b => !dataLt (k b) (k a) := PySem.W.dataLe_eq false k
theorem sortedBy_snd {xs : List V} {ds : List PyData} (h : xs.length = ds.length) : (sortedBy xs ds).map (·.2) = sortD ds := by
  unfold sortedBy sortD
  rw [le_is]
  have e := List.map_mergeSort (r := fun a b : V × PyData => !dataLt b.2 a.2) (s := fun a b : PyData => !dataLt b a) (f := fun p : V × PyData => p.2) (l := xs.zip ds) (fun _ _ _ _ => rfl)
  rw [zip_snd h] at e
  exact e
theorem sortD_map {α : Type} (g : α → PyData) (es : List α) : sortD (es.map g) = (es.mergeSort fun a b => !dataLt (g b) (g a)).map g :=
  (List.map_mergeSort (r := fun a b : α => !dataLt (g b) (g a)) (s := fun a b : PyData => !dataLt b a) (f := g) (l := es) (fun _ _ _ _ => rfl)).symm
theorem tpAll_pairs {H : Hp} : ∀ {l : List (V × PyData)}, (∀ p ∈ l, Tp H p.1 p.2) → TpAll H (l.map (·.1)) (l.map (·.2))
  | [], _ => .nil
  | p :: l, h => .cons (h p List.mem_cons_self) (tpAll_pairs fun q m => h q (List.mem_cons_of_mem _ m))
theorem tp_zip {H : Hp} : ∀ {xs : List V} {ds : List PyData}, TpAll H xs ds → ∀ p ∈ xs.zip ds, Tp H p.1 p.2
  | [], _, _, p, m => by simp at m
  | _ :: _, [], h, _, _ => nomatch h
  | x :: xs, d :: ds, .cons a r, p, m => by
    rw [List.zip_cons_cons] at m
    rcases List.mem_cons.mp m with e | m
    · rw [e]; exact a
    · exact tp_zip r p m
theorem tp_sorted {H : Hp} {xs : List V} {ds : List PyData} (r : TpAll H xs ds) : TpAll H ((sortedBy xs ds).map (·.1)) (sortD ds) := by
  rw [← sortedBy_snd r.length]
  refine tpAll_pairs fun p m => tp_zip r p ?_
  exact (List.mergeSort_perm _ _).mem_iff.mp m
theorem sorted_of {K : PySem.W.Frag} {H : Hp} {a : Addr} {xs : List V} {ds : List PyData} {Q : VK} (hs : SqL K H a xs ∨ SqT K H a xs) (r : TpAll H xs ds) (al : AllAlike ds) (so : Sortable ds) (dp : ∀ d ∈ ds, d.depth ≤ 40)
    (q : ∀ p ys H', H p = none → Same H H' → H' p = some (.lst ys) → TpAll H' ys (sortD ds) → Q (.ref p) H') : rSortedD K [.ref a] H Q :=
  ⟨a, xs, ds, rfl, hs, r.dp, al, so, dp, fun p hp => q p _ _ hp (sm_new hp) upd_same (TpAll.keep (.new hp) (tp_sorted r))⟩
/-! ### the order -/
theorem lt_irr (a : PyData) : dataLt a a = false := PyProof.Rows.lex_irrefl (O := itemOrd) _
theorem lt_tr {a b c : PyData} (h : dataLt a b = true) (h' : dataLt b c = true) : dataLt a c = true := PyProof.Rows.lex_trans (O := itemOrd) _ _ _ h h'
theorem lt_as {a b : PyData} (h : dataLt a b = true) : dataLt b a = false := by
  cases e : dataLt b a with
  | false => rfl
  | true => rw [← lt_irr a]; exact (lt_tr h e).symm
theorem lt_neg {a c : PyData} (b : PyData) (h : dataLt a c = true) : dataLt a b = true ∨ dataLt b c = true := PyProof.Rows.lex_negTrans (O := itemOrd) _ _ _ h
section
variable {α : Type} (g : α → PyData)
def leG (a b : α) : Bool := !dataLt (g b) (g a)
theorem leG_trans (a b c : α) (h : leG g a b = true) (h' : leG g b c = true) : leG g a c = true := by
  unfold leG at *
  cases e : dataLt (g c) (g a) with
  | false => rfl
  | true =>
    rcases lt_neg (g b) e with x | x
    · rw [x] at h'; cases h'
    · rw [x] at h; cases h
theorem leG_total (a b : α) : (leG g a b || leG g b a) = true := by
  unfold leG
  cases e : dataLt (g b) (g a) with
  | false => rfl
  | true => rw [lt_as e]; rfl
/-- es sorted by what they are as data -/
def sortG (es : List α) : List α := es.mergeSort (leG g)
theorem sortG_perm (es : List α) : (sortG g es).Perm es := List.mergeSort_perm _ _
theorem sortG_pw (es : List α) : (sortG g es).Pairwise fun a b => leG g a b = true := List.pairwise_mergeSort (leG_trans g) (leG_total g) es
theorem sortD_G (es : List α) : sortD (es.map g) = (sortG g es).map g := sortD_map g es
/-- two sorted lists of the same things are the same, where the order tells all things apart -/
theorem sorted_uniq (inj : ∀ a b, dataLt (g a) (g b) = false → dataLt (g b) (g a) = false → a = b) {l m : List α} (p : l.Perm m) (hl : l.Pairwise fun a b => leG g a b = true) (hm : m.Pairwise fun a b => leG g a b = true) : l = m := by
  refine List.Perm.eq_of_pairwise (le := fun a b => leG g a b = true) (fun a b _ _ h1 h2 => ?_) hl hm p
  unfold leG at h1 h2
  exact inj a b (by simpa using h2) (by simpa using h1)
end
end C9
/-! ## S2 -/
set_option maxHeartbeats 4000000
namespace C9
open PySem PySem.Spec PyProof.Rows L2
/-! ### dicts by their keys and a function -/
def dV (ks : List Str) (f : Str → V) : List (Key × V) := ks.map fun k => (.inr k, f k)
abbrev dF (ks : List Str) (f : Str → Int) : List (Key × V) := dV ks fun k => .int (f k)
theorem dV_length {ks : List Str} {f : Str → V} : (dV ks f).length = ks.length := List.length_map ..
theorem dV_val {f : Str → V} {k : Str} : ∀ {ks : List Str}, k ∈ ks → valV (dV ks f) (.inr k) = some (f k)
  | [], h => nomatch h
  | a :: ks, h => by
    unfold dV
    rw [List.map_cons]
    by_cases e : (Sum.inr a : Key) = .inr k
    · rw [valV_pos e]
      cases e
      rfl
    · rw [valV_neg e]
      rcases List.mem_cons.mp h with h | h
      · exact absurd (by rw [h]) e
      · exact dV_val h
theorem dV_none {f : Str → V} {k : Str} : ∀ {ks : List Str}, k ∉ ks → valV (dV ks f) (.inr k) = none
  | [], _ => rfl
  | a :: ks, h => by
    unfold dV
    rw [List.map_cons, valV_neg (fun e => h (by cases e; exact List.mem_cons_self))]
    exact dV_none fun m => h (List.mem_cons_of_mem _ m)
theorem dV_set {ks : List Str} {f : Str → V} {k : Str} (h : k ∈ ks) (v : V) : putK (dV ks f) (.inr k) v = dV ks (fun j => if j = k then v else f j) := by
  unfold putK
  rw [if_pos]
  · unfold dV
    rw [List.map_map]
    refine List.map_congr_left fun j _ => ?_
    by_cases e : j = k
    · simp [e]
    · have : ¬ (Sum.inr j : Key) = .inr k := fun q => e (by cases q; rfl)
      simp [e, this]
  · rw [List.any_eq_true]
    exact ⟨(.inr k, f k), List.mem_map.mpr ⟨k, h, rfl⟩, by simp⟩
theorem dF_set {ks : List Str} {f : Str → Int} {k : Str} (h : k ∈ ks) (v : Int) : putK (dF ks f) (.inr k) (.int v) = dF ks (fun j => if j = k then v else f j) := by
  rw [dV_set h]
  refine congrArg (dV ks) (funext fun j => ?_)
  by_cases e : j = k
  · simp only [e, if_true]
  · simp only [e, if_false]
theorem atI_0 {α : Type} (x : α) (r : List α) : atI (x :: r) 0 = some x := atI_nat (xs := x :: r) (j := 0) rfl
theorem atI_1 {α : Type} (x y : α) (r : List α) : atI (x :: y :: r) 1 = some y := atI_nat (xs := x :: y :: r) (j := 1) rfl
theorem atI_2 {α : Type} (x y z : α) (r : List α) : atI (x :: y :: z :: r) 2 = some z := atI_nat (xs := x :: y :: z :: r) (j := 2) rfl
theorem atI_3 {α : Type} (x y z u : α) (r : List α) : atI (x :: y :: z :: u :: r) 3 = some u := atI_nat (xs := x :: y :: z :: u :: r) (j := 3) rfl
theorem ix_l {K : PySem.W.Frag} {H : Hp} {b : Addr} {xs : List V} {i : Int} {v : V} {Q : VK} (e : H b = some (.lst xs)) (a : atI xs i = some v) (q : Q v H) : rIxL K (.ref b) (.int i) H Q := ⟨b, xs, i, v, rfl, rfl, .of e, a, q⟩
theorem ix_t {K : PySem.W.Frag} {H : Hp} {b : Addr} {xs : List V} {i : Int} {v : V} {Q : VK} (e : H b = some (.tup xs)) (a : atI xs i = some v) (q : Q v H) : rIxT K (.ref b) (.int i) H Q := ⟨b, xs, i, v, rfl, rfl, .of e, a, q⟩
theorem dV_new {ks : List Str} {f : Str → V} {k : Str} (h : k ∉ ks) : putK (dV ks f) (.inr k) (f k) = dV (ks ++ [k]) f := by
  rw [putK_new _ (dV_none h)]
  unfold dV
  rw [List.map_append]
  rfl
/-- all but one thing is as it was -/
def SameBut (D : Addr) (H H' : Hp) : Prop := ∀ b o, b ≠ D → H b = some o → H' b = some o
theorem SameBut.of {D : Addr} {H H' : Hp} (s : Same H H') : SameBut D H H' := fun b o _ e => s b o e
theorem SameBut.trans {D : Addr} {H H1 H2 : Hp} (a : SameBut D H H1) (b : SameBut D H1 H2) : SameBut D H H2 := fun c o n e => b c o n (a c o n e)
theorem SameBut.upd {D : Addr} {H H1 : Hp} {o : HO} (a : SameBut D H H1) : SameBut D H (upd H1 D o) := fun b x n e => by
  rw [upd_ne n]
  exact a b x n e
theorem SameBut.same {D : Addr} {H0 H H' : Hp} (a : SameBut D H H') (s : Same H0 H) (h : H0 D = none) : Same H0 H' := fun b o e => a b o (ne_of_none e h) (s b o e)
theorem SameBut.tk {D : Addr} {H H' : Hp} {o : HO} (a : SameBut D H H') (h : H D = some o) (hn : ∀ xs, o ≠ .tup xs) : TK H H' := fun b xs e => a b _ (fun q => by
  subst q
  rw [h] at e
  exact hn xs (Option.some.inj e)) e
/-! ### a dict comprehension over distinct texts -/
section
variable {J : It} {n : Nat} {G : Hp → Prop} {Y : Nat → Hp → V → Hp → Prop}
theorem dc_fn (w : Walk J n G Y) {g : TG} {tk tv : TE} {vs : List Nat} {σ : L2.St} {H1 : Hp} {D : Addr} {Qd : Hp → Prop} (hD : H1 D = none) (ks : List Str) (f : Str → V) (hk : n = ks.length) (hn : n < sizeLine) (nd : ks.Nodup)
    (hG : ∀ H, Same H1 H → G H)
    (hs : ∀ (i : Nat) (k : Str) (x : V) (H H' : Hp) (Qe : V → V → Hp → Prop), ks[i]? = some k → Same H1 H → Y i H x H' → (∀ H5, Same H H5 → Qe (.str k) (f k) H5) →
      g x (wipe σ vs) H' fun σ2 H2 => wipe σ2 vs = wipe σ vs ∧ tk σ2 H2 fun y H4 => tv σ2 H4 fun z H5 => Qe y z H5)
    (hd : ∀ H, Same H1 H → H D = some (.dK (dV ks f)) → Qd H) :
    ∃ W : Nat → Nat → Hp → Prop, (∃ m, W 0 m (upd H1 D (.dK []))) ∧ ∀ i m H, W i m H →
      (J.stop i H ∧ Qd H) ∨ (J.go i H ∧ ∃ Nx : Hp → Prop, (∀ H', Nx H' → ∃ m', m' < m ∧ W (i + 1) m' H') ∧ ∀ x H', J.yld i H x H' → g x (wipe σ vs) H' fun σ2 H2 => wipe σ2 vs = wipe σ vs ∧ tYes σ2 H2 fun b H3 =>
        if b = true then tk σ2 H3 fun y H4 => tv σ2 H4 fun z H5 => ∃ kvs k, y = kV k ∧ H5 D = some (.dK kvs) ∧ kvs.length < sizeLine ∧ Nx (upd H5 D (.dK (putK kvs k z))) else Nx H3) := by
  let Pv : Nat → Hp → Prop := fun i H => Same H1 H ∧ H D = some (.dK (dV (ks.take i) f))
  refine ⟨fun i m H => m = n - i ∧ i ≤ n ∧ Pv i H, ⟨n, by simp, Nat.zero_le _, sm_new hD, upd_same⟩, ?_⟩
  rintro i m H ⟨rfl, hi, s, e⟩
  have hg := hG H s
  by_cases hlt : i < n
  · obtain ⟨k, hki⟩ : ∃ k, ks[i]? = some k := ⟨_, List.getElem?_eq_getElem (by omega)⟩
    refine .inr ⟨w.goes i H hlt hg, Pv (i + 1), fun H' p => ⟨n - (i + 1), by omega, rfl, hlt, p⟩, fun x H' y => ?_⟩
    refine hs i k x H H' _ hki s (w.yields i H x H' hlt hg y) fun H5 s5 => ?_
    refine ⟨_, .inr k, rfl, s5 _ _ e, ?_, sm_upd (s.trans s5) hD, ?_⟩
    · rw [dV_length, List.length_take]
      omega
    · rw [upd_same, List.take_add_one, hki]
      refine congrArg (fun z => some (HO.dK z)) (dV_new fun hm => ?_)
      obtain ⟨j, hj⟩ := List.mem_iff_getElem?.mp hm
      rw [List.getElem?_take] at hj
      by_cases q : j < i
      · rw [if_pos q] at hj
        have := nodup_ix nd hj hki
        omega
      · rw [if_neg q] at hj
        cases hj
  · have : i = n := by omega
    subst this
    refine .inl ⟨w.stops H hg, hd H s ?_⟩
    rw [e, List.take_of_length_le (by omega)]
end
def optD : Option Str → PyData
  | none => .none
  | some k => .str k
def optV : Option Str → V
  | none => .non
  | some k => .str k
theorem optV_tp {H : Hp} (o : Option Str) : Tp H (optV o) (optD o) := by
  cases o with
  | none => exact .non
  | some k => exact .str k
/-! ### the three words -/
theorem ne_cp : (Str.ofString "call" = Str.ofString "put") = False := eq_false (by decide)
theorem ne_pc : (Str.ofString "put" = Str.ofString "call") = False := eq_false (by decide)
theorem ne_dp : (Str.ofString "drop" = Str.ofString "put") = False := eq_false (by decide)
theorem ne_pd : (Str.ofString "put" = Str.ofString "drop") = False := eq_false (by decide)
theorem ne_cd : (Str.ofString "call" = Str.ofString "drop") = False := eq_false (by decide)
theorem ne_dc : (Str.ofString "drop" = Str.ofString "call") = False := eq_false (by decide)
/-- what an int dict tells at the keys ks -/
def IDict (H : Hp) (v : V) (ks : List Str) (f : Str → Int) : Prop := ∃ D kvs, v = .ref D ∧ Rd H D (.dK kvs) ∧ ∀ k ∈ ks, valV kvs (.inr k) = some (.int (f k))
end C9
/-! ## S3 -/
set_option maxHeartbeats 4000000
namespace C9
open PySem PySem.Spec PyProof.Rows L2
/-! ### a Store in the heap -/
abbrev Th : Type := Str × Str
abbrev dT (t : Th) : PyData := .tuple [.str t.1, .str t.2]
abbrev nmD (nms : List Str) : List (Key × V) := dV nms fun _ => .bl true
abbrev stV (hv : V) (n r t : Addr) : List (Option V) := [some hv, some (.ref n), some (.ref r), some (.ref t)]
structure StO (K : PySem.W.Frag) (H : Hp) (a dx n r t : Addr) (hv : V) (ks : List Str) (cs : List (List Str)) (nms : List Str) (ths : List Th) (xs ys : List V) : Prop where
  ha : H a = some (SlX.SlO a (cS K) dx (stV hv n r t))
  hx : H dx = some (.xd [])
  hs : Tp H hv (dH ks cs)
  nm : H n = some (.dK (nmD nms))
  rw : H r = some (.lst ys)
  th : H t = some (.lst xs)
  ta : TpAll H xs (ths.map dT)
  rt : r ≠ t
section
variable {K : PySem.W.Frag} {H H' : Hp} {a dx n r t : Addr} {hv : V} {ks : List Str} {cs : List (List Str)} {nms : List Str} {ths : List Th} {xs ys : List V}
theorem StO.slt (S : StO K H a dx n r t hv ks cs nms ths xs ys) : SlX.Slt H a (cS K) dx (stV hv n r t) := .inr ⟨S.ha, S.hx⟩
theorem StO.n_a (S : StO K H a dx n r t hv ks cs nms ths xs ys) : n ≠ a := ne_of S.nm S.ha (fun e => by unfold SlX.SlO at e; cases e)
theorem StO.n_x (S : StO K H a dx n r t hv ks cs nms ths xs ys) : n ≠ dx := ne_of S.nm S.hx (fun e => by cases e)
theorem StO.r_a (S : StO K H a dx n r t hv ks cs nms ths xs ys) : r ≠ a := ne_of S.rw S.ha (fun e => by unfold SlX.SlO at e; cases e)
theorem StO.r_x (S : StO K H a dx n r t hv ks cs nms ths xs ys) : r ≠ dx := ne_of S.rw S.hx (fun e => by cases e)
theorem StO.t_a (S : StO K H a dx n r t hv ks cs nms ths xs ys) : t ≠ a := ne_of S.th S.ha (fun e => by unfold SlX.SlO at e; cases e)
theorem StO.t_x (S : StO K H a dx n r t hv ks cs nms ths xs ys) : t ≠ dx := ne_of S.th S.hx (fun e => by cases e)
theorem StO.n_r (S : StO K H a dx n r t hv ks cs nms ths xs ys) : n ≠ r := ne_of S.nm S.rw (fun e => by cases e)
theorem StO.n_t (S : StO K H a dx n r t hv ks cs nms ths xs ys) : n ≠ t := ne_of S.nm S.th (fun e => by cases e)
theorem StO.x_a (S : StO K H a dx n r t hv ks cs nms ths xs ys) : dx ≠ a := ne_of S.hx S.ha (fun e => by unfold SlX.SlO at e; cases e)
theorem StO.same (S : StO K H a dx n r t hv ks cs nms ths xs ys) (s : Same H H') : StO K H' a dx n r t hv ks cs nms ths xs ys :=
  ⟨s _ _ S.ha, s _ _ S.hx, S.hs.same s, s _ _ S.nm, s _ _ S.rw, s _ _ S.th, TpAll.same s S.ta, S.rt⟩
theorem StO.put (S : StO K H a dx n r t hv ks cs nms ths xs ys) (nms' : List Str) : StO K (upd H n (.dK (nmD nms'))) a dx n r t hv ks cs nms' ths xs ys := by
  have tk : TK H (upd H n (.dK (nmD nms'))) := .updD S.nm
  refine ⟨?_, ?_, S.hs.keep tk, upd_same, ?_, ?_, TpAll.keep tk S.ta, S.rt⟩
  · rw [upd_ne S.n_a.symm]; exact S.ha
  · rw [upd_ne S.n_x.symm]; exact S.hx
  · rw [upd_ne S.n_r.symm]; exact S.rw
  · rw [upd_ne S.n_t.symm]; exact S.th
theorem StO.rows (S : StO K H a dx n r t hv ks cs nms ths xs ys) (ys' : List V) : StO K (upd H r (.lst ys')) a dx n r t hv ks cs nms ths xs ys' := by
  have tk : TK H (upd H r (.lst ys')) := .updL S.rw
  refine ⟨?_, ?_, S.hs.keep tk, ?_, upd_same, ?_, TpAll.keep tk S.ta, S.rt⟩
  · rw [upd_ne S.r_a.symm]; exact S.ha
  · rw [upd_ne S.r_x.symm]; exact S.hx
  · rw [upd_ne S.n_r]; exact S.nm
  · rw [upd_ne S.rt.symm]; exact S.th
theorem StO.things (S : StO K H a dx n r t hv ks cs nms ths xs ys) (xs' : List V) (ths' : List Th) (h : TpAll H xs' (ths'.map dT)) : StO K (upd H t (.lst xs')) a dx n r t hv ks cs nms ths' xs' ys := by
  have tk : TK H (upd H t (.lst xs')) := .updL S.th
  refine ⟨?_, ?_, S.hs.keep tk, ?_, ?_, upd_same, TpAll.keep tk h, S.rt⟩
  · rw [upd_ne S.t_a.symm]; exact S.ha
  · rw [upd_ne S.t_x.symm]; exact S.hx
  · rw [upd_ne S.n_t]; exact S.nm
  · rw [upd_ne S.rt]; exact S.rw
theorem StO.left (S : StO K H a dx n r t hv ks cs nms ths xs ys) {t' : Addr} {xs' : List V} {ths' : List Th} (e : H t' = some (.lst xs')) (h : TpAll H xs' (ths'.map dT)) (ne : r ≠ t') :
    StO K (SlX.slH H a (cS K) dx (SlX.putS 3 (.ref t') (stV hv n r t))) a dx n r t' hv ks cs nms ths' xs' ys := by
  have o1 : t' ≠ a := ne_of e S.ha (fun e => by unfold SlX.SlO at e; cases e)
  have o2 : t' ≠ dx := ne_of e S.hx (fun e => by cases e)
  have tk : TK H (SlX.slH H a (cS K) dx (SlX.putS 3 (.ref t') (stV hv n r t))) := fun b zs q => by
    rw [SlX.slH_ne (ne_of q S.ha (fun e => by unfold SlX.SlO at e; cases e)) (ne_of q S.hx (fun e => by cases e))]
    exact q
  refine ⟨upd_same, ?_, S.hs.keep tk, ?_, ?_, ?_, TpAll.keep tk h, ne⟩
  · show upd (upd H dx (.xd [])) a _ dx = _
    rw [upd_ne S.x_a, upd_same]
  · rw [SlX.slH_ne S.n_a S.n_x]; exact S.nm
  · rw [SlX.slH_ne S.r_a S.r_x]; exact S.rw
  · rw [SlX.slH_ne o1 o2]; exact e
/-! its attributes -/
variable {mg : Str → Option Value} {σ : L2.St} {i : Nat} {Q : VK}
theorem StO.house (S : StO K H a dx n r t hv ks cs nms ths xs ys) (T : Txt K mg) (e : σ[i]? = some (some (.ref a))) (q : Q hv H) : SlX.tSl K (tVar i) "its_house" σ H Q := by
  obtain ⟨p, hp⟩ := T.sl0
  exact ⟨_, e, a, _, dx, p, _, 0, _, rfl, S.slt, T.scls, hp, rfl, q⟩
theorem StO.names (S : StO K H a dx n r t hv ks cs nms ths xs ys) (T : Txt K mg) (e : σ[i]? = some (some (.ref a))) (q : Q (.ref n) H) : SlX.tSl K (tVar i) "its_names" σ H Q := by
  obtain ⟨p, hp⟩ := T.sl1
  exact ⟨_, e, a, _, dx, p, _, 1, _, rfl, S.slt, T.scls, hp, rfl, q⟩
theorem StO.rowsA (S : StO K H a dx n r t hv ks cs nms ths xs ys) (T : Txt K mg) (e : σ[i]? = some (some (.ref a))) (q : Q (.ref r) H) : SlX.tSl K (tVar i) "its_rows" σ H Q := by
  obtain ⟨p, hp⟩ := T.sl2
  exact ⟨_, e, a, _, dx, p, _, 2, _, rfl, S.slt, T.scls, hp, rfl, q⟩
theorem StO.thingsA (S : StO K H a dx n r t hv ks cs nms ths xs ys) (T : Txt K mg) (e : σ[i]? = some (some (.ref a))) (q : Q (.ref t) H) : SlX.tSl K (tVar i) "its_things" σ H Q := by
  obtain ⟨p, hp⟩ := T.sl3
  exact ⟨_, e, a, _, dx, p, _, 3, _, rfl, S.slt, T.scls, hp, rfl, q⟩
end
/-- a Store at a that is no part of H0 -/
def Sto (K : PySem.W.Frag) (H0 H : Hp) (a : Addr) (ks : List Str) (cs : List (List Str)) (nms : List Str) (ths : List Th) (cnt : Nat) : Prop :=
  ∃ dx n r t hv xs ys, StO K H a dx n r t hv ks cs nms ths xs ys ∧ Same H0 H ∧ (H0 a = none ∧ H0 dx = none ∧ H0 n = none ∧ H0 r = none ∧ H0 t = none) ∧ ys.length ≤ cnt
theorem Sto.same {K : PySem.W.Frag} {H0 H H' : Hp} {a : Addr} {ks : List Str} {cs : List (List Str)} {nms : List Str} {ths : List Th} {cnt : Nat} (S : Sto K H0 H a ks cs nms ths cnt) (s : Same H H') : Sto K H0 H' a ks cs nms ths cnt := by
  obtain ⟨dx, n, r, t, hv, xs, ys, S, s0, f, hc⟩ := S
  exact ⟨dx, n, r, t, hv, xs, ys, S.same s, s0.trans s, f, hc⟩
/-- another thing, of which H0 tells, is changed -/
theorem Sto.other {K : PySem.W.Frag} {H0 H : Hp} {a p : Addr} {o o' : HO} {ks : List Str} {cs : List (List Str)} {nms : List Str} {ths : List Th} {cnt : Nat} (S : Sto K (upd H0 p o) H a ks cs nms ths cnt) (hn : ∀ xs, o ≠ .tup xs) :
    Sto K (upd H0 p o') (upd H p o') a ks cs nms ths cnt := by
  obtain ⟨dx, n, r, t, hv, xs, ys, S, s0, ⟨f1, f2, f3, f4, f5⟩, hc⟩ := S
  have hp : H p = some o := s0 _ _ upd_same
  have g : ∀ {b : Addr}, upd H0 p o b = none → b ≠ p ∧ upd H0 p o' b = none := fun {b} h => by
    have ne : b ≠ p := fun e => by
      rw [e, upd_same] at h
      cases h
    rw [upd_ne ne] at h ⊢
    exact ⟨ne, h⟩
  have tk : TK H (upd H p o') := .updO hp hn
  refine ⟨dx, n, r, t, hv, xs, ys, ⟨?_, ?_, S.hs.keep tk, ?_, ?_, ?_, TpAll.keep tk S.ta, S.rt⟩, sm_both s0, ⟨(g f1).2, (g f2).2, (g f3).2, (g f4).2, (g f5).2⟩, hc⟩
  · rw [upd_ne (g f1).1]; exact S.ha
  · rw [upd_ne (g f2).1]; exact S.hx
  · rw [upd_ne (g f3).1]; exact S.nm
  · rw [upd_ne (g f4).1]; exact S.rw
  · rw [upd_ne (g f5).1]; exact S.th
/-- a new thing stands in both -/
theorem Sto.grow {K : PySem.W.Frag} {H0 H : Hp} {a p : Addr} {o : HO} {ks : List Str} {cs : List (List Str)} {nms : List Str} {ths : List Th} {cnt : Nat} (S : Sto K H0 H a ks cs nms ths cnt) (hp : H p = none) :
    Sto K (upd H0 p o) (upd H p o) a ks cs nms ths cnt := by
  obtain ⟨dx, n, r, t, hv, xs, ys, S, s0, ⟨f1, f2, f3, f4, f5⟩, hc⟩ := S
  have g : ∀ {b : Addr} {u : HO}, H b = some u → H0 b = none → upd H0 p o b = none := fun e h => by
    rw [upd_ne (ne_of_none e hp)]
    exact h
  refine ⟨dx, n, r, t, hv, xs, ys, S.same (sm_new hp), fun b u e => ?_, ⟨g S.ha f1, g S.hx f2, g S.nm f3, g S.rw f4, g S.th f5⟩, hc⟩
  by_cases hb : b = p
  · subst hb
    rw [upd_same] at e ⊢
    exact e
  · rw [upd_ne hb] at e ⊢
    exact s0 _ _ e
theorem Sto.sm {K : PySem.W.Frag} {H0 H : Hp} {a : Addr} {ks : List Str} {cs : List (List Str)} {nms : List Str} {ths : List Th} {cnt : Nat} (S : Sto K H0 H a ks cs nms ths cnt) : Same H0 H := by
  obtain ⟨dx, n, r, t, hv, xs, ys, S, s0, f, hc⟩ := S
  exact s0
/-- a part of H0 alone -/
theorem Sto.base {K : PySem.W.Frag} {H0 H1 H : Hp} {a : Addr} {ks : List Str} {cs : List (List Str)} {nms : List Str} {ths : List Th} {cnt : Nat} (S : Sto K H1 H a ks cs nms ths cnt) (s : Same H0 H1) : Sto K H0 H a ks cs nms ths cnt := by
  obtain ⟨dx, n, r, t, hv, xs, ys, S, s0, ⟨f1, f2, f3, f4, f5⟩, hc⟩ := S
  exact ⟨dx, n, r, t, hv, xs, ys, S, s.trans s0, ⟨s.free f1, s.free f2, s.free f3, s.free f4, s.free f5⟩, hc⟩
end C9
/-! ## S4 -/
set_option maxHeartbeats 4000000
namespace C9
open PySem PySem.Spec PyProof.Rows L2
/-! ### texts of words -/
theorem split_join (c : Nat) (hc : c < 256) (ws : List Str) (ne : ws ≠ []) (h : ∀ w ∈ ws, c ∉ w.cps.toList) : Txt.split (Txt.join ⟨#[c]⟩ ws) ⟨#[c]⟩ = ws := by
  have e : ws = (ws.map fun w => w.cps.toList).map SX.S := by
    rw [List.map_map]
    exact (List.map_id ws).symm.trans (List.map_congr_left fun w _ => (SX.S_tl w).symm)
  have h2 : ∀ p ∈ ws.map (fun w => w.cps.toList), c ∉ p := fun p hp => by
    obtain ⟨w, hw, rfl⟩ := List.mem_map.mp hp
    exact h w hw
  have n2 : ws.map (fun w => w.cps.toList) ≠ [] := fun q => ne (List.map_eq_nil_iff.mp q)
  generalize ws.map (fun w => w.cps.toList) = ps at e h2 n2
  subst e
  show Txt.split (Txt.join (SX.S [c]) (ps.map SX.S)) (SX.S [c]) = _
  rw [SX.join_S, SX.split_S (by simp) (by simpa using hc), SX.spl_join n2 h2]
theorem split_free (c : Nat) (hc : c < 256) (z : Str) (h : c ∉ z.cps.toList) : Txt.split z ⟨#[c]⟩ = [z] := by
  have e := split_join c hc [z] (by simp) (fun w hw => by rw [List.mem_singleton.mp hw]; exact h)
  have j : Txt.join ⟨#[c]⟩ [z] = z := by
    have := SX.join_S [c] [z.cps.toList]
    rw [List.map_cons, List.map_nil, SX.S_tl] at this
    refine this.trans ?_
    show SX.S z.cps.toList = z
    exact SX.S_tl z
  rwa [j] at e
def okN (z : Str) : Bool := decide (1 ≤ z.length) && decide (z.length ≤ 6) && z.cps.toList.all fun c => decide (97 ≤ c) && decide (c ≤ 122)
theorem okN_len {z : Str} (h : okN z = true) : 1 ≤ z.length ∧ z.length ≤ 6 := by
  unfold okN at h
  simp only [Bool.and_eq_true, decide_eq_true_eq] at h
  exact h.1
theorem okN_at {z : Str} (h : okN z = true) {c : Nat} (hc : c ∈ z.cps.toList) : 97 ≤ c ∧ c ≤ 122 := by
  unfold okN at h
  simp only [Bool.and_eq_true, decide_eq_true_eq, List.all_eq_true] at h
  exact h.2 c hc
theorem okN_free {z : Str} (h : okN z = true) {c : Nat} (hc : c < 97) : c ∉ z.cps.toList := fun m => by
  have := okN_at h m
  omega
theorem join_cps (c : Nat) (ws : List Str) : (Txt.join ⟨#[c]⟩ ws).cps.toList = TL.joinL [c] (ws.map fun w => w.cps.toList) := by
  have e : ws = (ws.map fun w => w.cps.toList).map SX.S := by
    rw [List.map_map]
    exact (List.map_id ws).symm.trans (List.map_congr_left fun w _ => (SX.S_tl w).symm)
  generalize ws.map (fun w => w.cps.toList) = ps at e
  subst e
  show (Txt.join (SX.S [c]) (ps.map SX.S)).cps.toList = _
  rw [SX.join_S]
theorem mem_joinL {c d : Nat} : ∀ {ps : List (List Nat)}, d ∈ TL.joinL [c] ps → d = c ∨ ∃ p ∈ ps, d ∈ p
  | [], h => nomatch h
  | [p], h => .inr ⟨p, List.mem_cons_self, h⟩
  | p :: q :: r, h => by
    have h' : d ∈ p ++ ([c] ++ TL.joinL [c] (q :: r)) := by simpa [TL.joinL] using h
    rcases List.mem_append.mp h' with h | h
    · exact .inr ⟨p, List.mem_cons_self, h⟩
    · rcases List.mem_append.mp h with h | h
      · exact .inl (List.mem_singleton.mp h)
      · rcases mem_joinL h with h | ⟨p', hp, hd⟩
        · exact .inl h
        · exact .inr ⟨p', List.mem_cons_of_mem _ hp, hd⟩
theorem len_joinL {c M : Nat} : ∀ {ps : List (List Nat)}, (∀ p ∈ ps, p.length ≤ M) → (TL.joinL [c] ps).length ≤ ps.length * (M + 1)
  | [], _ => Nat.zero_le _
  | [p], h => by
    show p.length ≤ 1 * (M + 1)
    have := h p List.mem_cons_self
    omega
  | p :: q :: r, h => by
    have e : TL.joinL [c] (p :: q :: r) = p ++ ([c] ++ TL.joinL [c] (q :: r)) := by simp [TL.joinL]
    have h1 := h p List.mem_cons_self
    have h2 := len_joinL (c := c) (fun x hx => h x (List.mem_cons_of_mem p hx)) (ps := q :: r)
    have e2 : (p :: q :: r).length * (M + 1) = (q :: r).length * (M + 1) + (M + 1) := Nat.succ_mul _ _
    rw [e, List.length_append, List.length_append, e2]
    simp only [List.length_nil, List.length_singleton] at h2 ⊢
    omega
theorem join_free {c d : Nat} {ws : List Str} (h : ∀ w ∈ ws, d ∉ w.cps.toList) (ne : d ≠ c) : d ∉ (Txt.join ⟨#[c]⟩ ws).cps.toList := fun m => by
  rw [join_cps] at m
  rcases mem_joinL m with e | ⟨p, hp, hd⟩
  · exact ne e
  · obtain ⟨w, hw, rfl⟩ := List.mem_map.mp hp
    exact h w hw hd
theorem join_len {c M : Nat} {ws : List Str} (h : ∀ w ∈ ws, w.length ≤ M) : (Txt.join ⟨#[c]⟩ ws).length ≤ ws.length * (M + 1) := by
  show (Txt.join ⟨#[c]⟩ ws).cps.size ≤ _
  rw [← Array.length_toList, join_cps]
  have := len_joinL (c := c) (M := M) (ps := ws.map fun w => w.cps.toList) (fun p hp => by
    obtain ⟨w, hw, rfl⟩ := List.mem_map.mp hp
    rw [Array.length_toList]
    exact h w hw)
  rwa [List.length_map] at this
theorem sum_le {M : Nat} : ∀ {ws : List Str}, (∀ w ∈ ws, w.length ≤ M) → (ws.map (·.length)).sum ≤ ws.length * M
  | [], _ => Nat.zero_le _
  | w :: ws, h => by
    rw [List.map_cons, List.sum_cons, List.length_cons, Nat.succ_mul]
    have := h w List.mem_cons_self
    have := sum_le (ws := ws) fun x hx => h x (List.mem_cons_of_mem _ hx)
    omega
theorem sp_is : Str.ofString " " = ⟨#[32]⟩ := by decide +kernel
theorem nl_is : Str.ofString "\n" = ⟨#[10]⟩ := by decide +kernel
theorem hs_is : Str.ofString "#" = ⟨#[35]⟩ := by decide +kernel
def wordsOf (z : Str) : List Str := (Txt.split z " ").filter fun w => decide (w ≠ "")
/-- a line of words -/
def lineW (ws : List Str) : Str := Txt.join " " ws
theorem wordsOf_line {ws : List Str} (ne : ws ≠ []) (h : ∀ w ∈ ws, okN w = true) : wordsOf (lineW ws) = ws := by
  unfold wordsOf lineW
  rw [show (" " : Str) = ⟨#[32]⟩ from sp_is, split_join 32 (by decide) ws ne (fun w hw => okN_free (h w hw) (by decide))]
  refine List.filter_eq_self.mpr fun w hw => ?_
  rw [decide_eq_true_eq]
  intro e
  have := (okN_len (h w hw)).1
  rw [e] at this
  exact absurd this (by decide)
theorem line_hash {ws : List Str} (h : ∀ w ∈ ws, okN w = true) : Txt.split (lineW ws) "#" = [lineW ws] := by
  unfold lineW
  rw [show ("#" : Str) = ⟨#[35]⟩ from hs_is, show (" " : Str) = ⟨#[32]⟩ from sp_is]
  exact split_free 35 (by decide) _ (join_free (fun w hw => okN_free (h w hw) (by decide)) (by decide))
def textW (wss : List (List Str)) : Str := Txt.join "\n" (wss.map lineW)
theorem text_lines {wss : List (List Str)} (ne : wss ≠ []) (h : ∀ ws ∈ wss, ∀ w ∈ ws, okN w = true) : Txt.split (textW wss) "\n" = wss.map lineW := by
  unfold textW
  rw [show ("\n" : Str) = ⟨#[10]⟩ from nl_is]
  refine split_join 10 (by decide) _ (fun q => ne (List.map_eq_nil_iff.mp q)) fun z hz => ?_
  obtain ⟨ws, hws, rfl⟩ := List.mem_map.mp hz
  unfold lineW
  rw [show (" " : Str) = ⟨#[32]⟩ from sp_is]
  exact join_free (fun w hw => okN_free (h ws hws w hw) (by decide)) (by decide)
theorem line_len {ws : List Str} (h : ∀ w ∈ ws, okN w = true) : (lineW ws).length ≤ ws.length * 7 := by
  unfold lineW
  rw [show (" " : Str) = ⟨#[32]⟩ from sp_is]
  exact join_len fun w hw => (okN_len (h w hw)).2
theorem text_len {wss : List (List Str)} (h : ∀ ws ∈ wss, ws.length ≤ 100 ∧ ∀ w ∈ ws, okN w = true) : (textW wss).length ≤ wss.length * 701 := by
  unfold textW
  rw [show ("\n" : Str) = ⟨#[10]⟩ from nl_is]
  have := join_len (c := 10) (M := 700) (ws := wss.map lineW) fun z hz => by
    obtain ⟨ws, hws, rfl⟩ := List.mem_map.mp hz
    have := line_len (h ws hws).2
    have := (h ws hws).1
    omega
  rwa [List.length_map] at this
theorem text_nil : Txt.split (textW []) "\n" = [("" : Str)] := by
  rw [show ("\n" : Str) = ⟨#[10]⟩ from nl_is]
  exact split_free 10 (by decide) (textW []) (by decide +kernel)
/-! ### a list comprehension, told by any relation that other things leave alone -/
section
variable {J : It} {n : Nat} {G : Hp → Prop} {Y : Nat → Hp → V → Hp → Prop}
theorem lc_gen (w : Walk J n G Y) {g : TG} {tt : TT} {te : TE} {vs : List Nat} {σ : L2.St} {H1 : Hp} {D : Addr} {Qd : Hp → Prop} (hD : H1 D = none) (hn : n < sizeLine) (R : Nat → List V → Hp → Prop) (h0 : ∀ H, R 0 [] H)
    (hG : ∀ H, Same H1 H → G H) (hR : ∀ i acc H H', SameBut D H H' → R i acc H → R i acc H')
    (hs : ∀ (i : Nat) (acc : List V) (x : V) (H H' : Hp) (Qe : VK) (Qs : Hp → Prop), i < n → Same H1 H → (∃ l, H D = some (.lst l)) → R i acc H → Y i H x H' →
      (∀ y H4, Same H H4 → R (i + 1) (acc ++ [y]) H4 → Qe y H4) → (∀ H3, Same H H3 → R (i + 1) acc H3 → Qs H3) →
      g x (wipe σ vs) H' fun σ2 H2 => wipe σ2 vs = wipe σ vs ∧ tt σ2 H2 fun b H3 => if b = true then te σ2 H3 Qe else Qs H3)
    (hd : ∀ H acc, Same H1 H → H D = some (.lst acc) → R n acc H → Qd H) :
    ∃ W : Nat → Nat → Hp → Prop, (∃ m, W 0 m (upd H1 D (.lst []))) ∧ ∀ i m H, W i m H →
      (J.stop i H ∧ Qd H) ∨ (J.go i H ∧ ∃ Nx : Hp → Prop, (∀ H', Nx H' → ∃ m', m' < m ∧ W (i + 1) m' H') ∧ ∀ x H', J.yld i H x H' → g x (wipe σ vs) H' fun σ2 H2 => wipe σ2 vs = wipe σ vs ∧ tt σ2 H2 fun b H3 =>
        if b = true then te σ2 H3 fun y H4 => ∃ acc, H4 D = some (.lst acc) ∧ acc.length < sizeLine ∧ Nx (upd H4 D (.lst (acc ++ [y]))) else Nx H3) := by
  refine lc_it w (fun i H => Same H1 H ∧ ∃ acc, H D = some (.lst acc) ∧ acc.length ≤ i ∧ R i acc H) ⟨sm_new hD, [], upd_same, Nat.le_refl _, h0 _⟩ (fun i H _ h => hG H h.1) ?_ ?_
  · rintro i x H H' hi ⟨s1, acc, e, hl, r⟩ y
    refine hs i acc x H H' _ _ hi s1 ⟨acc, e⟩ r y (fun y H4 s4 r4 => ?_) (fun H3 s3 r3 => ?_)
    · refine ⟨acc, s4 _ _ e, by omega, sm_upd (s1.trans s4) hD, _, upd_same, ?_, hR _ _ _ _ (SameBut.of (.refl _)).upd r4⟩
      rw [List.length_append]
      exact Nat.add_le_add_right hl 1
    · exact ⟨s1.trans s3, acc, s3 _ _ e, Nat.le_succ_of_le hl, r3⟩
  · rintro H ⟨s1, acc, e, hl, r⟩
    exact hd H acc s1 e r
end
end C9
/-! ## Q1 -/
set_option maxHeartbeats 4000000
namespace C9
open PySem PySem.Spec PyProof.Rows L2
/-! ### set(xs), xs a list or a tuple: by what holds of the heap while it is filled -/
section
variable {P : Program} {w : World} {A : Around} {E : Value → Shared → Prop} {s : Shared}
/-- the way from J i to J (i + 1): one item goes in -/
def Fills (P : Program) (w : World) (A : Around) (S : Addr) (Pv : Nat → Value → Prop) (n : Nat) (J : Nat → Heap → Prop) : Prop :=
  ∀ (i : Nat) (v : Value) (s1 : Shared) (E : Value → Shared → Prop) (Q : Bool → Shared → Prop), i < n → Pv i v → J i s1.heap →
    (∀ b h' tk, Heap.SameBut S s1.heap h' → J (i + 1) h' → Q b { s1 with heap := h', toks := tk }) → wpAny (model P w) A (setAdd S v) Q E s1
theorem fill_loop {R : Result → Shared → Prop} {I S : Addr} {fp wr : List Addr} {n : Nat} {Pv : Nat → Value → Prop} {St J : Nat → Heap → Prop} (W : Walks P w A.in1 I fp wr n Pv St) (hS : S ∉ fp)
    (stay : ∀ i h h', J i h → (∀ b o, b ∉ wr → h.get? b = some o → h'.get? b = some o) → J i h') (put : Fills P w A.in1 S Pv n J) :
    ∀ (k i : Nat) (s : Shared), n - i = k → i ≤ n → St i s.heap → J i s.heap →
      (∀ h' tk, J n h' → (∀ b o, b ∉ S :: wr → s.heap.get? b = some o → h'.get? b = some o) → R (.ok (.ret .none)) { s with heap := h', toks := tk }) →
      codeAny (model P w) A (.builtin "set.update.loop" ⟨[.ref S, .ref I], []⟩) R s
  | 0, i, s, hk, hi, st, hJ, hR => by
    have e : i = n := by omega
    subst e
    refine codeAny_builtin PyProof.Rows.F.entry_set_update_loop ?_
    rw [Around.under_plainId PyProof.Rows.F.plain_set_update_loop _]
    refine wpAny_bind (m := pyNext (.ref I)) (W.done s _ _ st fun h' tk k => ?_)
    exact wpAny_pure (hR h' tk (stay _ _ _ hJ k) fun b o hb q => k b o (fun z => hb (List.mem_cons_of_mem _ z)) q)
  | k + 1, i, s, hk, hi, st, hJ, hR => by
    have lt : i < n := by omega
    refine codeAny_builtin PyProof.Rows.F.entry_set_update_loop ?_
    rw [Around.under_plainId PyProof.Rows.F.plain_set_update_loop _]
    refine wpAny_bind (m := pyNext (.ref I)) (W.item i s _ _ lt st fun v h1 t1 hv st1 k1 => ?_)
    show wpAny _ A.in1 (holding [v] (setAdd S v) >>= _) _ _ _
    refine wpAny_bind (wpAny_holding (put i v _ _ _ lt hv (stay _ _ _ hJ k1) fun b h2 t2 sb hJ2 => ?_))
    have ne : ∀ b ∈ fp, b ≠ S := fun b hb z => hS (z ▸ hb)
    refine wpAny_pure ⟨plainId_quiet PyProof.Rows.F.plain_set_update_loop _, fill_loop W hS stay put k (i + 1) _ (by omega) lt (W.frame _ h1 h2 st1 fun b hb o q => (sb.2 b (ne b hb)).trans q) hJ2 fun h3 t3 hJ3 k3 => ?_⟩
    exact hR h3 t3 hJ3 fun b o hb q => k3 b o hb ((sb.2 b fun z => hb (by rw [z]; exact List.mem_cons_self)).trans (k1 b o (fun z => hb (List.mem_cons_of_mem _ z)) q))
abbrev newSetO (w : World) : Obj := { cls := .type "set", dict := none, data := .set #[] 0 (.fresh 0 0 (!w.params.followText "set-order")) }
/-- set(x), x a sequence of class T, walked by an iterator that reads as St 0 -/
theorem set_made {T : String} {l : Addr} {items : Array Value} {J : Nat → Heap → Prop} {St : Addr → Nat → Heap → Prop} {Q : Value → Shared → Prop} (io : Obj)
    (hq1 : isSubtype (.type T) (.type "set") = pure false) (hq2 : isSubtype (.type T) (.type "frozenset") = pure false) (hq3 : (Value.type T == Value.type "dict") = false)
    (hh : A.handled = none) (hl : ∃ o, s.heap.get? l = some o ∧ o.cls = .type T ∧ ∃ n, o.data = .seq items n)
    (it : ∀ (A' : Around) (E' : Value → Shared → Prop) (h1 : Heap) (Q' : Value → Shared → Prop), (∀ b o, s.heap.get? b = some o → h1.get? b = some o) → Q' (.ref h1.objs.size) { s with heap := h1.push io } → wpAny (model P w) A' (pyIter (.ref l)) Q' E' { s with heap := h1 })
    (wk : ∀ A' : Around, A'.handled = none → ∀ I, l ≠ I → Walks P w A' I [I, l] [I] items.size (fun i v => items[i]? = some v) (St I))
    (st0 : ∀ h1 : Heap, (∀ b o, s.heap.get? b = some o → h1.get? b = some o) → (h1.push io).get? h1.objs.size = some io → St h1.objs.size 0 (h1.push io)) (fr : io.isFreed = false)
    (J0 : ∀ h1 : Heap, (∀ b o, s.heap.get? b = some o → h1.get? b = some o) → h1.get? s.heap.objs.size = some (newSetO w) → J 0 h1)
    (stay : ∀ i h h', J i h → (∀ b o, b ≤ s.heap.objs.size → h.get? b = some o → h'.get? b = some o) → J i h')
    (put : ∀ A' : Around, A'.units = A.units + 3 → A'.handled = none → Fills P w A' s.heap.objs.size (fun i v => items[i]? = some v) items.size J)
    (h : ∀ h' tk, J items.size h' → (∀ b o, s.heap.get? b = some o → h'.get? b = some o) → Q (.ref s.heap.objs.size) { s with heap := h', toks := tk }) :
    wpAny (model P w) A (call (.type "set") [.ref l]) Q E s := by
  obtain ⟨c, tl, hmro⟩ := PySem.F.called_set.mro
  have hmade := PySem.F.called_set.made
  have hsub := PySem.F.called_set.sub
  refine wpAny_call (codeAny_of_tree ?_)
  show wpAny _ _ (callAny (.type "set") _) _ _ _
  refine wpAny_pure ⟨Code.quiet_builtin _ (by decide +kernel), codeAny_builtin PySem.F.entry_type_call ?_⟩
  rw [Around.under_plain (weight_type_call_type "set" [.ref l] []) rfl]
  have h1 := PySem.F.called_set.notType
  have h2 := PySem.F.called_set.canCreate
  have hct := PySem.F.typeCall_set_1 (.ref l)
  repeat (any_goals (first | assumption | wp_step))
  refine codeAny_mono (code_set_led1 (.ref l) (E := E) (Q₁ := fun obj s₁ => obj = .ref s.heap.objs.size ∧ s₁ = { s with heap := s.heap.push (newSetO w) }) ⟨rfl, rfl⟩) fun r s₁ hr => ?_
  cases r with
  | error e => exact hr
  | ok fl =>
    cases fl with
    | ret obj =>
      obtain ⟨rfl, rfl⟩ := hr
      have hS : (s.heap.push (newSetO w)).get? s.heap.objs.size = some (newSetO w) := Heap.get?_push_size _ rfl
      have hT : Shared.TypeIs { s with heap := s.heap.push (newSetO w) } (.ref s.heap.objs.size) "set" := ⟨_, hS, rfl⟩
      have hli := PySem.F.called_set.init.lookup
      have hbi := PySem.F.called_set.init.bind (.ref s.heap.objs.size)
      repeat (any_goals (first | assumption | wp_step))
      refine codeAny_mono (codeAny_call_builtin (R := wants (fun r s₂ => r = .none ∧ ∃ h' tk, s₂ = { s with heap := h', toks := tk } ∧ J items.size h' ∧ ∀ b o, s.heap.get? b = some o → h'.get? b = some o) E) PySem.F.called_set.init.plain PySem.F.entry_set_init (check_set_init_1 hT ?_)) fun r₂ s₂ hr₂ => ?_
      · obtain ⟨ol, hol, hcl, nl, hdl⟩ := hl
        obtain ⟨ocls, odict, odata, oslots⟩ := ol
        simp only at hcl hdl
        subst hcl
        subst hdl
        have hlS : l < s.heap.objs.size := Heap.lt_size hol
        have hol' : (s.heap.push (newSetO w)).get? l = some { cls := .type T, dict := odict, data := .seq items nl, slots := oslots } := Heap.get?_push_of_some _ hol
        unfold Builtin.«set.__init__» noKeywords Builtin.Frozenset.updateFrom
        generalize hPI : pyIter = PI
        wp_walk
        subst hPI
        have up1 : ∀ b o, s.heap.get? b = some o → (s.heap.push (newSetO w)).get? b = some o := fun b o e => Heap.get?_push_of_some _ e
        refine it _ _ _ _ up1 ?_
        refine wpAny_bind (wpAny_runValue ?_)
        have hz : (s.heap.push (newSetO w)).objs.size = s.heap.objs.size + 1 := Heap.size_push ..
        have hneI : l ≠ (s.heap.push (newSetO w)).objs.size := by
          rw [hz]
          exact Nat.ne_of_lt (Nat.lt_succ_of_lt hlS)
        have up2 : ∀ b o, s.heap.get? b = some o → ((s.heap.push (newSetO w)).push io).get? b = some o := fun b o e => Heap.get?_push_of_some _ (up1 b o e)
        refine fill_loop (S := s.heap.objs.size) (J := J) (wk _ (by simp [hh]) _ hneI) (by
          rw [hz]
          simp only [List.mem_cons, List.not_mem_nil, or_false, not_or]
          exact ⟨Nat.ne_of_lt (Nat.lt_succ_self _), Nat.ne_of_gt hlS⟩) (fun i h h' hJ k => stay i h h' hJ fun b o hb e => k b o (by
            rw [hz, List.mem_singleton]
            exact Nat.ne_of_lt (Nat.lt_succ_of_le hb)) e) (put _ (by rfl) (by simp [hh])) (items.size - 0) 0 _ (by omega) (Nat.zero_le _) (st0 _ up1 (Heap.get?_push_size _ fr)) (J0 _ up2 (Heap.get?_push_of_some _ hS)) fun h' tk hJ k => ?_
        refine wpAny_pure ?_
        show wpAny _ _ (ret Value.none) _ _ _
        refine wpAny_pure ⟨rfl, h', tk, rfl, hJ, fun b o e => k b o ?_ (up2 b o e)⟩
        have := Heap.lt_size e
        rw [hz]
        simp only [List.mem_cons, List.not_mem_nil, or_false, not_or]
        exact ⟨Nat.ne_of_lt this, Nat.ne_of_lt (Nat.lt_succ_of_lt this)⟩
      · cases r₂ with
        | error e => exact hr₂
        | ok fl₂ =>
          cases fl₂ with
          | ret r =>
            obtain ⟨rfl, h', tk, rfl, hJ, hk⟩ := hr₂
            repeat (any_goals (first | assumption | wp_step))
            exact h _ _ hJ hk
          | _ => exact hr₂.elim
    | _ => exact hr.elim
theorem setC_list {l : Addr} {items : Array Value} {J : Nat → Heap → Prop} {Q : Value → Shared → Prop} (hh : A.handled = none) (hl : s.heap.IsList l items)
    (J0 : ∀ h1 : Heap, (∀ b o, s.heap.get? b = some o → h1.get? b = some o) → h1.get? s.heap.objs.size = some (newSetO w) → J 0 h1)
    (stay : ∀ i h h', J i h → (∀ b o, b ≤ s.heap.objs.size → h.get? b = some o → h'.get? b = some o) → J i h')
    (put : ∀ A' : Around, A'.units = A.units + 3 → A'.handled = none → Fills P w A' s.heap.objs.size (fun i v => items[i]? = some v) items.size J)
    (h : ∀ h' tk, J items.size h' → (∀ b o, s.heap.get? b = some o → h'.get? b = some o) → Q (.ref s.heap.objs.size) { s with heap := h', toks := tk }) :
    wpAny (model P w) A (call (.type "set") [.ref l]) Q E s := by
  obtain ⟨o, ho, hc, n, hd⟩ := id hl
  refine set_made { cls := .type "list_iterator", data := .fields #[.ref l, .int 0 0] } PySem.F.sub_list_set PySem.F.sub_list_frozenset (by decide) hh ⟨o, ho, hc, n, hd⟩
    (fun A' E' h1 Q' k q => wpAny_pyIter_list (s := { s with heap := h1 }) ⟨o, k _ _ ho, hc, n, hd⟩ q) (fun A' hA I hI => Walks.list hA I l hI items)
    (fun h1 k e => ⟨⟨_, e, rfl, rfl⟩, ⟨o, Heap.get?_push_of_some _ (k _ _ ho), hc, n, hd⟩⟩) rfl J0 stay put h
theorem setC_tuple {l : Addr} {items : Array Value} {J : Nat → Heap → Prop} {Q : Value → Shared → Prop} (hh : A.handled = none) (hl : s.heap.IsTuple l items)
    (J0 : ∀ h1 : Heap, (∀ b o, s.heap.get? b = some o → h1.get? b = some o) → h1.get? s.heap.objs.size = some (newSetO w) → J 0 h1)
    (stay : ∀ i h h', J i h → (∀ b o, b ≤ s.heap.objs.size → h.get? b = some o → h'.get? b = some o) → J i h')
    (put : ∀ A' : Around, A'.units = A.units + 3 → A'.handled = none → Fills P w A' s.heap.objs.size (fun i v => items[i]? = some v) items.size J)
    (h : ∀ h' tk, J items.size h' → (∀ b o, s.heap.get? b = some o → h'.get? b = some o) → Q (.ref s.heap.objs.size) { s with heap := h', toks := tk }) :
    wpAny (model P w) A (call (.type "set") [.ref l]) Q E s := by
  obtain ⟨o, ho, hc, n, hd⟩ := id hl
  refine set_made { cls := .type "tuple_iterator", data := .fields #[.ref l, .int 0 0] } PySem.F.sub_tuple_set PySem.F.sub_tuple_frozenset (by decide) hh ⟨o, ho, hc, n, hd⟩
    (fun A' E' h1 Q' k q => wpAny_pyIter_tuple (s := { s with heap := h1 }) ⟨o, k _ _ ho, hc, n, hd⟩ q) (fun A' hA I hI => Walks.tuple hA I l hI items)
    (fun h1 k e => ⟨⟨_, e, rfl, rfl⟩, ⟨o, Heap.get?_push_of_some _ (k _ _ ho), hc, n, hd⟩⟩) rfl J0 stay put h
end
end C9
/-! ## Q2 -/
set_option maxHeartbeats 4000000
namespace C9
open PySem PySem.Spec PyProof.Rows L2
/-! ### len(set(t)) of a tuple of texts, all different -/
def tLenSetT (K : PySem.W.Frag) (ta : TE) : TE := fun σ H Q => ta σ H fun x H1 => ∃ (l : Addr) (xs : List Str), x = .ref l ∧ SqT K H1 l (xs.map V.str) ∧ xs.Nodup ∧ xs.length ≤ 4000 ∧ Q (.int (xs.length : Nat)) H1
theorem any_take_next {xs : List Str} {i : Nat} {x : Str} (hx : xs[i]? = some x) (k : Str) : (xs.take (i + 1)).any (· == k) = ((xs.take i).any (· == k) || decide (k = x)) := by
  rw [List.take_add_one, hx, Option.toList_some, List.any_append]
  refine congrArg _ ?_
  by_cases e : k = x
  · subst e
    simp
  · simp [e, Ne.symm e]
theorem any_take_new {xs : List Str} {i : Nat} {x : Str} (nd : xs.Nodup) (hx : xs[i]? = some x) : (xs.take i).any (· == x) = false := by
  rw [List.any_eq_false]
  intro y hy e
  have e' : y = x := by simpa using e
  subst e'
  obtain ⟨j, hj⟩ := List.mem_iff_getElem?.mp hy
  rw [List.getElem?_take] at hj
  by_cases q : j < i
  · rw [if_pos q] at hj
    obtain ⟨h1, e1⟩ := List.getElem?_eq_some_iff.mp hj
    obtain ⟨h2, e2⟩ := List.getElem?_eq_some_iff.mp hx
    have := (List.getElem_inj nd).mp (e1.trans e2.symm)
    omega
  · rw [if_neg q] at hj
    cases hj
theorem pe_lenSetT {X : Cx} {a : Expr} {ta : TE} {p p2 q pos : Pos} (hg : Gl X "len") (hm : X.mg "len" = none) (hg2 : Gl X "set") (hm2 : X.mg "set" = none) (ha : PE X a ta) (hc : X.calm = true)
    (na : starEach [a] X.env = (false, eval a X.env) :: starEach [] X.env := by rfl) : PE X (.Call (.Name "len" p) [.Call (.Name "set" p2) [a] [] q] [] pos) (tLenSetT X.K ta) := by
  refine ⟨fun pins s σ H Q I h => Call_ (ld_blt I hg hm PySem.boot_len (PyProof.Rows.callWith_builtin1 (PyProof.Rows.args_cons ?_ rfl) rfl rfl))⟩
  refine Call_ (ld_blt I hg2 hm2 PyProof.Rows.boot_set (PyProof.Rows.callWith_type1 (PyProof.Rows.args_cons (thn (ha.run pins s σ H _ I h) fun v s1 ⟨x, H1, I1, r1, q1⟩ => PyProof.Rows.args_nil ?_) na) na rfl))
  obtain ⟨l, xs, rfl, hq, hnd, hle, q1⟩ := q1
  cases r1
  obtain ⟨its, r, pl, hz⟩ := I1.tuple hq
  have hl : its.toArray.size = xs.length := by rw [List.size_toArray, ← r.length, List.length_map]
  refine setC_tuple (J := fun i h => h.SetOf (PySem.strKind X.prog X.w) s1.heap.objs.size (fun k => (xs.take i).any (· == k)) i) (I1.ok.hd hc) pl (fun h1 _ e => ?_) (fun i h h' hJ k => ?_) (fun A' hu hh i v s2 E' Q' hi hv hJ hQ => ?_) fun h' tk hJ k => ?_
  · exact ⟨_, #[], 0, _, e, ⟨rfl, rfl, rfl⟩, rfl, fun e he => by simp at he, fun k => by simp, by decide, by rfl, rfl⟩
  · obtain ⟨o, es, ep, t, ho, rest⟩ := hJ
    exact ⟨o, es, ep, t, k _ _ (Nat.le_refl _) ho, rest⟩
  · rw [hl] at hi
    obtain ⟨x, hx⟩ : ∃ x, xs[i]? = some x := ⟨_, List.getElem?_eq_getElem hi⟩
    obtain ⟨u, hu1, ⟨t, ru⟩⟩ := r.get (show (xs.map V.str)[i]? = some (.str x) by rw [List.getElem?_map, hx]; rfl)
    have ev : v = .str x t := by
      have : its[i]? = some v := by simpa using hv
      rw [hu1] at this
      rw [← Option.some.inj this, ru]
    subst ev
    unfold setAdd
    refine wpAny_holding (wpAny_bind ((PySem.strKind X.prog X.w).pyHash (k := x) (strKind_is _ _ _ _) ?_))
    refine wpAny_setAddHashed_of (knd := PySem.strKind X.prog X.w) (s := { s2 with toks := s2.toks + 1 }) (strKind_is _ _ _ _) rfl hJ (by unfold scanBound; omega) fun h' hsb hS2 => ?_
    refine hQ _ h' _ hsb (SetOf_congr hS2 (fun k' => (any_take_next hx k').symm) ?_)
    rw [any_take_new hnd hx]
    rfl
  · refine PyProof.Rows.args_nil ?_
    obtain ⟨o, es, ep, t, ho, hex, hd, _, _, _, hf, hn⟩ := hJ
    have I2 : Inv X pins σ H1 { s1 with heap := h', toks := tk } := I1.kept k
    refine call_len_set ho hex hd hf (by rw [hn, hl]; omega) ⟨.int (xs.length : Nat), H1, I2.tok _, ⟨_, by rw [hn, hl]⟩, q1⟩
end C9
/-! ## F1 -/
set_option maxHeartbeats 4000000
namespace C9
open PySem PySem.Spec PyProof.Rows L2 C8
/-! ### forms -/
theorem letter {c : Nat} (h : 97 ≤ c) (h' : c ≤ 122) : c ∈ (Str.ofString "abcdefghijklmnopqrstuvwxyz").cps.toList := by
  have e : ∀ i, i < 26 → i + 97 ∈ (Str.ofString "abcdefghijklmnopqrstuvwxyz").cps.toList := by decide +kernel
  have := e (c - 97) (by omega)
  rwa [Nat.sub_add_cancel h] at this
section
variable {K : PySem.W.Frag} {mg : Str → Option Value} {P : Program} {w : World} {base : Heap}
def sp_is_name (K : PySem.W.Frag) : Sp := fun vs H Q E => ∃ x, vs = [x] ∧ ∃ z, x = .str z ∧ okN z = true ∧ RetB true H Q
theorem sc_is_name : FnScope ["thing", "sign"] ["thing"] (defScope s_is_name) := ⟨rfl, rfl, rfl, by decide +kernel, rfl, by decide +kernel, by decide +kernel⟩
theorem c_is_name (T : Txt K mg) : C8.Cal P w K mg base 1 "is_name" (sp_is_name K) [] := by
  refine T.cal 0 0 rfl rfl sc_is_name
    (fun _ _ _ _ _ _ us h => match us, h with | [_], _ => rfl)
    (fun vs H Q E h => by obtain ⟨_, rfl, _⟩ := h; rfl) (fun f cdv A outer s H vs Q E hr h => ?_)
  have nd := sc_is_name.nd
  refine ⟨_, (pss_cons (ps_if (PW.pt (pw_or (pt_not (pt_val (pe_callB isi_str (by rfl) (T.free 50) rfl (pa_cons (pv 0) (pa_cons (pe_bltn (v := .ty "str") (by rfl) (T.free 51) rfl rfl) pa_nil))))) (pw_or1 (pt_not (pt_chain op_le op_le pe_int (pe_callB (k_len K) (by rfl) (T.free 52) rfl (pa_cons (pv 0) pa_nil)) (pe_gc (by rfl) (T.int 69))))))) (pss_one (ps_ret pe_bl)) pss_nil)
     (pss_one (ps_ret (pe_callB (k_all K rfl) (by rfl) (T.free 53) rfl (pa_cons (pe_lc rfl nd (pi_str (pv 0)) (blkOk_by (own := [("sign", 1)]) (by rfl)) (fun _ _ _ _ _ => (pg_name (i := 1) nd rfl (by first | exact .inl rfl | exact .inr rfl))) (fun _ _ _ _ _ => pts_nil) (fun _ _ _ _ _ => (pe_cmpR op_in_sign (pv 1) (pe_gc (by rfl) (T.str 68)) rfl))) pa_nil))))), ?_⟩
  obtain ⟨v0, rfl, h⟩ := h
  rw [show L2.start ["thing", "sign"] [v0] = [some v0, none] from rfl]
  obtain ⟨z, rfl, hz, q⟩ := h
  unfold okN at hz
  simp only [Bool.and_eq_true, decide_eq_true_eq, List.all_eq_true] at hz
  obtain ⟨⟨h1, h2⟩, h3⟩ := hz
  have e1 : (1 : Int) ≤ (z.length : Nat) := by omega
  have e2 : ((z.length : Nat) : Int) ≤ 6 := by omega
  simp only [tBM, SlX.tMethSl, tSeq, tIfS, tOr, tAnd, tNot, tB, tCB, tCons, tNil, tVar, tC, tTest, tChain, tRet, tRetN, tNext, tOp, tAndV, tOrV, tNotV, tIf, tThen, tYes, tTup, tLst, tCall, tAsg, tDrop, tDNewK, gName, gTup, gCons, gNil, rI0, rI, CMul, CDiv, tUn, rU, rEq, rNe, scal, LenV, RetB, RetD, List.set_cons_zero, List.set_cons_succ, List.getElem?_cons_zero, List.getElem?_cons_succ, Option.some.injEq, exists_eq_left', exists_eq_left, List.cons.injEq, and_true, true_and, V.int.injEq, V.str.injEq, V.bl.injEq, V.ref.injEq, if_true, if_false, Bool.not_true, Bool.not_false, reduceCtorEq, decide_true, decide_false, Bool.false_eq_true, exists_and_left, Bool.not_eq_true', decide_eq_true_eq, decide_eq_false_iff_not, rLenK, tLenSetT, List.append_nil, and_assoc, or_false, false_or, exists_false, false_and, and_false, rGetL, rSetL, gSub, tAugS, ipI, tPart, tNoPart, not_true, not_false_iff, ite_true, ite_false, List.map_cons, List.map_nil]
  have hL := line63
  refine ⟨by simp only [sizeLine] at *; omega, ?_⟩
  simp only [tBM, SlX.tMethSl, tSeq, tIfS, tOr, tAnd, tNot, tB, tCB, tCons, tNil, tVar, tC, tTest, tChain, tRet, tRetN, tNext, tOp, tAndV, tOrV, tNotV, tIf, tThen, tYes, tTup, tLst, tCall, tAsg, tDrop, tDNewK, gName, gTup, gCons, gNil, rI0, rI, CMul, CDiv, tUn, rU, rEq, rNe, scal, LenV, RetB, RetD, List.set_cons_zero, List.set_cons_succ, List.getElem?_cons_zero, List.getElem?_cons_succ, Option.some.injEq, exists_eq_left', exists_eq_left, List.cons.injEq, and_true, true_and, V.int.injEq, V.str.injEq, V.bl.injEq, V.ref.injEq, if_true, if_false, Bool.not_true, Bool.not_false, reduceCtorEq, decide_true, decide_false, Bool.false_eq_true, exists_and_left, Bool.not_eq_true', decide_eq_true_eq, decide_eq_false_iff_not, rLenK, tLenSetT, List.append_nil, and_assoc, or_false, false_or, exists_false, false_and, and_false, rGetL, rSetL, gSub, tAugS, ipI, tPart, tNoPart, not_true, not_false_iff, ite_true, ite_false, List.map_cons, List.map_nil, e1, e2]
  refine ⟨_, rfl, z, rfl, fun D hD => lc_rel walk_str hD ?_ RlT RlT.zero (fun _ _ => trivial) ?_ ?_⟩
  · exact Nat.lt_of_le_of_lt h2 (by decide)
  · intro i ds x H0 H1 Qe Qs hi sm rl y ke ks
    obtain ⟨rfl, c, hc, rfl⟩ := y
    refine ⟨rfl, ?_⟩
    simp only [tBM, SlX.tMethSl, tSeq, tIfS, tOr, tAnd, tNot, tB, tCB, tCons, tNil, tVar, tC, tTest, tChain, tRet, tRetN, tNext, tOp, tAndV, tOrV, tNotV, tIf, tThen, tYes, tTup, tLst, tCall, tAsg, tDrop, tDNewK, gName, gTup, gCons, gNil, rI0, rI, CMul, CDiv, tUn, rU, rEq, rNe, scal, LenV, RetB, RetD, List.set_cons_zero, List.set_cons_succ, List.getElem?_cons_zero, List.getElem?_cons_succ, Option.some.injEq, exists_eq_left', exists_eq_left, List.cons.injEq, and_true, true_and, V.int.injEq, V.str.injEq, V.bl.injEq, V.ref.injEq, if_true, if_false, Bool.not_true, Bool.not_false, reduceCtorEq, decide_true, decide_false, Bool.false_eq_true, exists_and_left, Bool.not_eq_true', decide_eq_true_eq, decide_eq_false_iff_not, rLenK, tLenSetT, List.append_nil, and_assoc, or_false, false_or, exists_false, false_and, and_false, rGetL, rSetL, gSub, tAugS, ipI, tPart, tNoPart, not_true, not_false_iff, ite_true, ite_false, List.map_cons, List.map_nil, wipe]
    refine ⟨c, rfl, ?_⟩
    have hm : c ∈ z.cps.toList := Array.mem_toList_iff.mpr (Array.mem_of_getElem? hc)
    rw [decide_eq_true (letter (h3 c hm).1 (h3 c hm).2)]
    exact ke _ _ _ (.refl _) (.bl true) rl.put
  · intro H0 acc ds sm e r rl _
    exact all_true e r rl (q _ sm)
def sp_is_tuple_of (K : PySem.W.Frag) : Sp := fun vs H Q E => ∃ x y, vs = [x, y] ∧ ∃ a xs, x = .ref a ∧ y = .int (xs.length : Nat) ∧ H a = some (.tup xs) ∧ Q (.bl true) H
theorem sc_is_tuple_of : FnScope ["thing", "many"] ["thing", "many"] (defScope s_is_tuple_of) := ⟨rfl, rfl, rfl, by decide +kernel, rfl, by decide +kernel, by decide +kernel⟩
theorem c_is_tuple_of (T : Txt K mg) : C8.Cal P w K mg base 1 "is_tuple_of" (sp_is_tuple_of K) [] := by
  refine T.cal 1 1 rfl rfl sc_is_tuple_of
    (fun _ _ _ _ _ _ us h => match us, h with | [_, _], _ => rfl)
    (fun vs H Q E h => by obtain ⟨_, _, rfl, _⟩ := h; rfl) (fun f cdv A outer s H vs Q E hr h => ?_)
  have nd := sc_is_tuple_of.nd
  refine ⟨_, (pss_one (ps_ret (pe_and (pe_callB isi_tup (by rfl) (T.free 50) rfl (pa_cons (pv 0) (pa_cons (pe_bltn (v := .ty "tuple") (by rfl) (T.free 55) rfl rfl) pa_nil))) (pe_one (pe_cmpR op_eq (pe_callB (k_len K) (by rfl) (T.free 52) rfl (pa_cons (pv 0) pa_nil)) (pv 1) rfl))))), ?_⟩
  obtain ⟨v0, v1, rfl, h⟩ := h
  rw [show L2.start ["thing", "many"] [v0, v1] = [some v0, some v1] from rfl]
  obtain ⟨a, xs, rfl, rfl, ha, q⟩ := h
  simp only [tBM, SlX.tMethSl, tSeq, tIfS, tOr, tAnd, tNot, tB, tCB, tCons, tNil, tVar, tC, tTest, tChain, tRet, tRetN, tNext, tOp, tAndV, tOrV, tNotV, tIf, tThen, tYes, tTup, tLst, tCall, tAsg, tDrop, tDNewK, gName, gTup, gCons, gNil, rI0, rI, CMul, CDiv, tUn, rU, rEq, rNe, scal, LenV, RetB, RetD, List.set_cons_zero, List.set_cons_succ, List.getElem?_cons_zero, List.getElem?_cons_succ, Option.some.injEq, exists_eq_left', exists_eq_left, List.cons.injEq, and_true, true_and, V.int.injEq, V.str.injEq, V.bl.injEq, V.ref.injEq, if_true, if_false, Bool.not_true, Bool.not_false, reduceCtorEq, decide_true, decide_false, Bool.false_eq_true, exists_and_left, Bool.not_eq_true', decide_eq_true_eq, decide_eq_false_iff_not, rLenK, tLenSetT, List.append_nil, and_assoc, or_false, false_or, exists_false, false_and, and_false, rGetL, rSetL, gSub, tAugS, ipI, tPart, tNoPart, not_true, not_false_iff, ite_true, ite_false, List.map_cons, List.map_nil, ha, HO.tup.injEq, exists_eq_left']
  refine ⟨xs.length, .inr ⟨_, .of ha, rfl⟩, ?_⟩
  simpa using q
/-- a good tuple of names -/
def okNs (ks : List Str) : Bool := decide (1 ≤ ks.length) && decide (ks.length ≤ 6) && ks.all okN && decide ks.Nodup
def sp_are_names (K : PySem.W.Frag) : Sp := fun vs H Q E => ∃ x, vs = [x] ∧ ∃ ks, Tp H x (dS ks) ∧ okNs ks = true ∧ RetB true H Q
theorem sc_are_names : FnScope ["thing", "item"] ["thing"] (defScope s_are_names) := ⟨rfl, rfl, rfl, by decide +kernel, rfl, by decide +kernel, by decide +kernel⟩
theorem c_are_names (T : Txt K mg) : C8.Cal P w K mg base 2 "are_names" (sp_are_names K) [] := by
  refine T.cal 2 2 rfl rfl sc_are_names
    (fun _ _ _ _ _ _ us h => match us, h with | [_], _ => rfl)
    (fun vs H Q E h => by obtain ⟨_, rfl, _⟩ := h; rfl) (fun f cdv A outer s H vs Q E hr h => ?_)
  have nd := sc_are_names.nd
  refine ⟨_, (pss_cons (ps_if (PW.pt (pw_or (pt_not (pt_val (pe_callB isi_tup (by rfl) (T.free 50) rfl (pa_cons (pv 0) (pa_cons (pe_bltn (v := .ty "tuple") (by rfl) (T.free 55) rfl rfl) pa_nil))))) (pw_or1 (pt_not (pt_chain op_le op_le pe_int (pe_callB (k_len K) (by rfl) (T.free 52) rfl (pa_cons (pv 0) pa_nil)) (pe_gc (by rfl) (T.int 70))))))) (pss_one (ps_ret pe_bl)) pss_nil)
     (pss_one (ps_ret (pe_and (pe_callB (k_all K rfl) (by rfl) (T.free 53) rfl (pa_cons (pe_lc rfl nd (k_piT K (pi_tup (pv 0))) (blkOk_by (own := [("item", 1)]) (by rfl)) (fun _ _ _ _ _ => (pg_name (i := 1) nd rfl (by first | exact .inl rfl | exact .inr rfl))) (fun _ _ _ _ _ => pts_nil) (fun _ _ _ _ _ => (pe_c (c_is_name T) hr (by decide) (by rfl) (pa_cons (pv 1) pa_nil)))) pa_nil)) (pe_one (pe_cmpR op_eq (pe_lenSetT (by rfl) (T.free 52) (by rfl) (T.free 54) (pv 0) rfl) (pe_callB (k_len K) (by rfl) (T.free 52) rfl (pa_cons (pv 0) pa_nil)) rfl)))))), ?_⟩
  obtain ⟨v0, rfl, h⟩ := h
  rw [show L2.start ["thing", "item"] [v0] = [some v0, none] from rfl]
  obtain ⟨ks, hx, hk, q⟩ := h
  obtain ⟨a, rfl, ha⟩ := hx.strs_at
  unfold okNs at hk
  simp only [Bool.and_eq_true, decide_eq_true_eq, List.all_eq_true] at hk
  obtain ⟨⟨⟨h1, h2⟩, h3⟩, h4⟩ := hk
  have e1 : (1 : Int) ≤ (ks.length : Nat) := by omega
  have e2 : ((ks.length : Nat) : Int) ≤ 6 := by omega
  simp only [tBM, SlX.tMethSl, tSeq, tIfS, tOr, tAnd, tNot, tB, tCB, tCons, tNil, tVar, tC, tTest, tChain, tRet, tRetN, tNext, tOp, tAndV, tOrV, tNotV, tIf, tThen, tYes, tTup, tLst, tCall, tAsg, tDrop, tDNewK, gName, gTup, gCons, gNil, rI0, rI, CMul, CDiv, tUn, rU, rEq, rNe, scal, LenV, RetB, RetD, List.set_cons_zero, List.set_cons_succ, List.getElem?_cons_zero, List.getElem?_cons_succ, Option.some.injEq, exists_eq_left', exists_eq_left, List.cons.injEq, and_true, true_and, V.int.injEq, V.str.injEq, V.bl.injEq, V.ref.injEq, if_true, if_false, Bool.not_true, Bool.not_false, reduceCtorEq, decide_true, decide_false, Bool.false_eq_true, exists_and_left, Bool.not_eq_true', decide_eq_true_eq, decide_eq_false_iff_not, rLenK, tLenSetT, List.append_nil, and_assoc, or_false, false_or, exists_false, false_and, and_false, rGetL, rSetL, gSub, tAugS, ipI, tPart, tNoPart, not_true, not_false_iff, ite_true, ite_false, List.map_cons, List.map_nil, sp_is_name, ha, HO.tup.injEq]
  refine ⟨ks.length, .inr ⟨_, .of ha, by simp⟩, ?_⟩
  simp only [tBM, SlX.tMethSl, tSeq, tIfS, tOr, tAnd, tNot, tB, tCB, tCons, tNil, tVar, tC, tTest, tChain, tRet, tRetN, tNext, tOp, tAndV, tOrV, tNotV, tIf, tThen, tYes, tTup, tLst, tCall, tAsg, tDrop, tDNewK, gName, gTup, gCons, gNil, rI0, rI, CMul, CDiv, tUn, rU, rEq, rNe, scal, LenV, RetB, RetD, List.set_cons_zero, List.set_cons_succ, List.getElem?_cons_zero, List.getElem?_cons_succ, Option.some.injEq, exists_eq_left', exists_eq_left, List.cons.injEq, and_true, true_and, V.int.injEq, V.str.injEq, V.bl.injEq, V.ref.injEq, if_true, if_false, Bool.not_true, Bool.not_false, reduceCtorEq, decide_true, decide_false, Bool.false_eq_true, exists_and_left, Bool.not_eq_true', decide_eq_true_eq, decide_eq_false_iff_not, rLenK, tLenSetT, List.append_nil, and_assoc, or_false, false_or, exists_false, false_and, and_false, rGetL, rSetL, gSub, tAugS, ipI, tPart, tNoPart, not_true, not_false_iff, ite_true, ite_false, List.map_cons, List.map_nil, sp_is_name, e1, e2]
  refine ⟨_, rfl, a, rfl, ⟨_, .of ha⟩, fun D hD => lc_rel walk_tup hD ?_ RlT RlT.zero (fun H sm => .of (sm _ _ ha)) ?_ ?_⟩
  · rw [List.length_map]
    exact Nat.lt_of_le_of_lt h2 (by decide)
  · rintro i ds x H0 H1 Qe Qs hi sm rl ⟨rfl, hx1⟩ ke ks'
    obtain ⟨z, hz, rfl⟩ := List.getElem?_map.symm.trans hx1 |> Option.map_eq_some_iff.mp
    refine ⟨rfl, ?_⟩
    simp only [tBM, SlX.tMethSl, tSeq, tIfS, tOr, tAnd, tNot, tB, tCB, tCons, tNil, tVar, tC, tTest, tChain, tRet, tRetN, tNext, tOp, tAndV, tOrV, tNotV, tIf, tThen, tYes, tTup, tLst, tCall, tAsg, tDrop, tDNewK, gName, gTup, gCons, gNil, rI0, rI, CMul, CDiv, tUn, rU, rEq, rNe, scal, LenV, RetB, RetD, List.set_cons_zero, List.set_cons_succ, List.getElem?_cons_zero, List.getElem?_cons_succ, Option.some.injEq, exists_eq_left', exists_eq_left, List.cons.injEq, and_true, true_and, V.int.injEq, V.str.injEq, V.bl.injEq, V.ref.injEq, if_true, if_false, Bool.not_true, Bool.not_false, reduceCtorEq, decide_true, decide_false, Bool.false_eq_true, exists_and_left, Bool.not_eq_true', decide_eq_true_eq, decide_eq_false_iff_not, rLenK, tLenSetT, List.append_nil, and_assoc, or_false, false_or, exists_false, false_and, and_false, rGetL, rSetL, gSub, tAugS, ipI, tPart, tNoPart, not_true, not_false_iff, ite_true, ite_false, List.map_cons, List.map_nil, sp_is_name, wipe]
    exact ⟨h3 z (List.mem_of_getElem? hz), fun H' sm' => ke _ _ _ sm' (.bl true) rl.put⟩
  · intro H0 acc ds sm e r rl _
    refine all_true e r rl ?_
    simp only [tBM, SlX.tMethSl, tSeq, tIfS, tOr, tAnd, tNot, tB, tCB, tCons, tNil, tVar, tC, tTest, tChain, tRet, tRetN, tNext, tOp, tAndV, tOrV, tNotV, tIf, tThen, tYes, tTup, tLst, tCall, tAsg, tDrop, tDNewK, gName, gTup, gCons, gNil, rI0, rI, CMul, CDiv, tUn, rU, rEq, rNe, scal, LenV, RetB, RetD, List.set_cons_zero, List.set_cons_succ, List.getElem?_cons_zero, List.getElem?_cons_succ, Option.some.injEq, exists_eq_left', exists_eq_left, List.cons.injEq, and_true, true_and, V.int.injEq, V.str.injEq, V.bl.injEq, V.ref.injEq, if_true, if_false, Bool.not_true, Bool.not_false, reduceCtorEq, decide_true, decide_false, Bool.false_eq_true, exists_and_left, Bool.not_eq_true', decide_eq_true_eq, decide_eq_false_iff_not, rLenK, tLenSetT, List.append_nil, and_assoc, or_false, false_or, exists_false, false_and, and_false, rGetL, rSetL, gSub, tAugS, ipI, tPart, tNoPart, not_true, not_false_iff, ite_true, ite_false, List.map_cons, List.map_nil, sp_is_name]
    refine ⟨ks, .of (sm _ _ ha), h4, by omega, ks.length, .inr ⟨_, .of (sm _ _ ha), by simp⟩, ?_⟩
    simpa using q _ sm
def sp_in_order (K : PySem.W.Frag) : Sp := fun vs H Q E => ∃ x y, vs = [x, y] ∧ ∃ ks ps, Tp H x (dS ks) ∧ Tp H y (dS ps) ∧ ks.length ≤ 1000 ∧ RetD (dS (ks.filter fun k => decide (k ∈ ps))) H Q
theorem sc_in_order : FnScope ["kinds", "part", "kind"] ["kinds", "part"] (defScope s_in_order) := ⟨rfl, rfl, rfl, by decide +kernel, rfl, by decide +kernel, by decide +kernel⟩
theorem c_in_order (T : Txt K mg) : C8.Cal P w K mg base 1 "in_order" (sp_in_order K) [] := by
  refine T.cal 3 3 rfl rfl sc_in_order
    (fun _ _ _ _ _ _ us h => match us, h with | [_, _], _ => rfl)
    (fun vs H Q E h => by obtain ⟨_, _, rfl, _⟩ := h; rfl) (fun f cdv A outer s H vs Q E hr h => ?_)
  have nd := sc_in_order.nd
  refine ⟨_, (pss_one (ps_ret (pe_callTy (k_tuple K) (by rfl) (T.free 55) rfl (pa_cons (pe_lc rfl nd (k_piT K (pi_tup (pv 0))) (blkOk_by (own := [("kind", 2)]) (by rfl)) (fun _ _ _ _ _ => (pg_name (i := 2) nd rfl (by first | exact .inl rfl | exact .inr rfl))) (fun _ _ _ _ _ => (pts_one (pt_cmpR (k_inA K (α := Str) hr (by decide)) (pv 2) (pv 1) rfl))) (fun _ _ _ _ _ => (pv 2))) pa_nil)))), ?_⟩
  obtain ⟨v0, v1, rfl, h⟩ := h
  rw [show L2.start ["kinds", "part", "kind"] [v0, v1] = [some v0, some v1, none] from rfl]
  obtain ⟨ks, ps, hx, hy, hk, q⟩ := h
  obtain ⟨a, rfl, ha⟩ := hx.strs_at
  obtain ⟨b, rfl, hb⟩ := hy.strs_at
  simp only [tBM, SlX.tMethSl, tSeq, tIfS, tOr, tAnd, tNot, tB, tCB, tCons, tNil, tVar, tC, tTest, tChain, tRet, tRetN, tNext, tOp, tAndV, tOrV, tNotV, tIf, tThen, tYes, tTup, tLst, tCall, tAsg, tDrop, tDNewK, gName, gTup, gCons, gNil, rI0, rI, CMul, CDiv, tUn, rU, rEq, rNe, scal, LenV, RetB, RetD, List.set_cons_zero, List.set_cons_succ, List.getElem?_cons_zero, List.getElem?_cons_succ, Option.some.injEq, exists_eq_left', exists_eq_left, List.cons.injEq, and_true, true_and, V.int.injEq, V.str.injEq, V.bl.injEq, V.ref.injEq, if_true, if_false, Bool.not_true, Bool.not_false, reduceCtorEq, decide_true, decide_false, Bool.false_eq_true, exists_and_left, Bool.not_eq_true', decide_eq_true_eq, decide_eq_false_iff_not, rLenK, tLenSetT, List.append_nil, and_assoc, or_false, false_or, exists_false, false_and, and_false, rGetL, rSetL, gSub, tAugS, ipI, tPart, tNoPart, not_true, not_false_iff, ite_true, ite_false, List.map_cons, List.map_nil]
  refine ⟨_, rfl, a, rfl, ⟨_, .of ha⟩, fun D hD => lc_rel walk_tup hD ?_ (RlF (fun k => if k ∈ ps then some (.str k) else none) ks) .zero (fun H sm => .of (sm _ _ ha)) ?_ ?_⟩
  · rw [List.length_map]
    exact Nat.lt_of_le_of_lt hk (by decide)
  · rintro i ds x H0 H1 Qe Qs hi sm rl ⟨rfl, hx1⟩ ke ks'
    obtain ⟨z, hz, rfl⟩ := List.getElem?_map.symm.trans hx1 |> Option.map_eq_some_iff.mp
    refine ⟨rfl, ?_⟩
    simp only [tBM, SlX.tMethSl, tSeq, tIfS, tOr, tAnd, tNot, tB, tCB, tCons, tNil, tVar, tC, tTest, tChain, tRet, tRetN, tNext, tOp, tAndV, tOrV, tNotV, tIf, tThen, tYes, tTup, tLst, tCall, tAsg, tDrop, tDNewK, gName, gTup, gCons, gNil, rI0, rI, CMul, CDiv, tUn, rU, rEq, rNe, scal, LenV, RetB, RetD, List.set_cons_zero, List.set_cons_succ, List.getElem?_cons_zero, List.getElem?_cons_succ, Option.some.injEq, exists_eq_left', exists_eq_left, List.cons.injEq, and_true, true_and, V.int.injEq, V.str.injEq, V.bl.injEq, V.ref.injEq, if_true, if_false, Bool.not_true, Bool.not_false, reduceCtorEq, decide_true, decide_false, Bool.false_eq_true, exists_and_left, Bool.not_eq_true', decide_eq_true_eq, decide_eq_false_iff_not, rLenK, tLenSetT, List.append_nil, and_assoc, or_false, false_or, exists_false, false_and, and_false, rGetL, rSetL, gSub, tAugS, ipI, tPart, tNoPart, not_true, not_false_iff, ite_true, ite_false, List.map_cons, List.map_nil, wipe]
    refine ⟨z, ps, b, _, .str z, rfl, .inr (.of (sm _ _ hb)), TpAll.dp (TpAll.strs.mpr rfl), _, rfl, ?_⟩
    by_cases hm : z ∈ ps
    · simp only [hm, decide_true, if_true]
      exact ke _ (.str z) _ (.refl _) (.str z) (rl.put hz (by simp [hm]))
    · simp only [hm, decide_false, if_false, Bool.false_eq_true]
      exact ks' _ (.refl _) (rl.skip hz (by simp [hm]))
  · intro H0 acc ds sm e r rl _
    have hds := rl.all (by rw [List.length_map]; exact Nat.le_refl _)
    rw [filter_ite] at hds
    subst hds
    exact tuple_of e r fun v H' sm' t => q _ _ (sm.trans sm') t
def sp_is_part (K : PySem.W.Frag) : Sp := fun vs H Q E => ∃ x y, vs = [x, y] ∧ ∃ ks ps, Tp H x (dS ks) ∧ Tp H y (dS ps) ∧ ks.length ≤ 1000 ∧ ps.length ≤ 1000 ∧ (ks.filter fun k => decide (k ∈ ps)) = ps ∧ RetB true H Q
theorem sc_is_part : FnScope ["kinds", "thing", "item"] ["kinds", "thing"] (defScope s_is_part) := ⟨rfl, rfl, rfl, by decide +kernel, rfl, by decide +kernel, by decide +kernel⟩
theorem c_is_part (T : Txt K mg) : C8.Cal P w K mg base 2 "is_part" (sp_is_part K) [] := by
  refine T.cal 4 4 rfl rfl sc_is_part
    (fun _ _ _ _ _ _ us h => match us, h with | [_, _], _ => rfl)
    (fun vs H Q E h => by obtain ⟨_, _, rfl, _⟩ := h; rfl) (fun f cdv A outer s H vs Q E hr h => ?_)
  have nd := sc_is_part.nd
  refine ⟨_, (pss_cons (ps_if (PW.pt (pw_or (pt_not (pt_val (pe_callB isi_tup (by rfl) (T.free 50) rfl (pa_cons (pv 1) (pa_cons (pe_bltn (v := .ty "tuple") (by rfl) (T.free 55) rfl rfl) pa_nil))))) (pw_or1 (pt_not (pt_val (pe_callB (k_all K rfl) (by rfl) (T.free 53) rfl (pa_cons (pe_lc rfl nd (k_piT K (pi_tup (pv 1))) (blkOk_by (own := [("item", 2)]) (by rfl)) (fun _ _ _ _ _ => (pg_name (i := 2) nd rfl (by first | exact .inl rfl | exact .inr rfl))) (fun _ _ _ _ _ => pts_nil) (fun _ _ _ _ _ => (pe_callB isi_str (by rfl) (T.free 50) rfl (pa_cons (pv 2) (pa_cons (pe_bltn (v := .ty "str") (by rfl) (T.free 51) rfl rfl) pa_nil))))) pa_nil))))))) (pss_one (ps_ret pe_bl)) pss_nil)
     (pss_one (ps_ret (pe_cmpR (k_eqA K (α := (PySem.W.Tup Str)) hr (by decide)) (pe_c (c_in_order T) hr (by decide) (by rfl) (pa_cons (pv 0) (pa_cons (pv 1) pa_nil))) (pv 1) rfl)))), ?_⟩
  obtain ⟨v0, v1, rfl, h⟩ := h
  rw [show L2.start ["kinds", "thing", "item"] [v0, v1] = [some v0, some v1, none] from rfl]
  obtain ⟨ks, ps, hx, hy, hk, hp, hf, q⟩ := h
  obtain ⟨a, rfl, ha⟩ := hx.strs_at
  obtain ⟨b, rfl, hb⟩ := hy.strs_at
  simp only [tBM, SlX.tMethSl, tSeq, tIfS, tOr, tAnd, tNot, tB, tCB, tCons, tNil, tVar, tC, tTest, tChain, tRet, tRetN, tNext, tOp, tAndV, tOrV, tNotV, tIf, tThen, tYes, tTup, tLst, tCall, tAsg, tDrop, tDNewK, gName, gTup, gCons, gNil, rI0, rI, CMul, CDiv, tUn, rU, rEq, rNe, scal, LenV, RetB, RetD, List.set_cons_zero, List.set_cons_succ, List.getElem?_cons_zero, List.getElem?_cons_succ, Option.some.injEq, exists_eq_left', exists_eq_left, List.cons.injEq, and_true, true_and, V.int.injEq, V.str.injEq, V.bl.injEq, V.ref.injEq, if_true, if_false, Bool.not_true, Bool.not_false, reduceCtorEq, decide_true, decide_false, Bool.false_eq_true, exists_and_left, Bool.not_eq_true', decide_eq_true_eq, decide_eq_false_iff_not, rLenK, tLenSetT, List.append_nil, and_assoc, or_false, false_or, exists_false, false_and, and_false, rGetL, rSetL, gSub, tAugS, ipI, tPart, tNoPart, not_true, not_false_iff, ite_true, ite_false, List.map_cons, List.map_nil, sp_in_order, hb, HO.tup.injEq]
  refine ⟨_, rfl, b, rfl, ⟨_, .of hb⟩, fun D hD => lc_rel walk_tup hD ?_ RlT RlT.zero (fun H sm => .of (sm _ _ hb)) ?_ ?_⟩
  · rw [List.length_map]
    exact Nat.lt_of_le_of_lt hp (by decide)
  · rintro i ds x H0 H1 Qe Qs hi sm rl ⟨rfl, hx1⟩ ke ks'
    obtain ⟨z, hz, rfl⟩ := List.getElem?_map.symm.trans hx1 |> Option.map_eq_some_iff.mp
    refine ⟨rfl, ?_⟩
    simp only [tBM, SlX.tMethSl, tSeq, tIfS, tOr, tAnd, tNot, tB, tCB, tCons, tNil, tVar, tC, tTest, tChain, tRet, tRetN, tNext, tOp, tAndV, tOrV, tNotV, tIf, tThen, tYes, tTup, tLst, tCall, tAsg, tDrop, tDNewK, gName, gTup, gCons, gNil, rI0, rI, CMul, CDiv, tUn, rU, rEq, rNe, scal, LenV, RetB, RetD, List.set_cons_zero, List.set_cons_succ, List.getElem?_cons_zero, List.getElem?_cons_succ, Option.some.injEq, exists_eq_left', exists_eq_left, List.cons.injEq, and_true, true_and, V.int.injEq, V.str.injEq, V.bl.injEq, V.ref.injEq, if_true, if_false, Bool.not_true, Bool.not_false, reduceCtorEq, decide_true, decide_false, Bool.false_eq_true, exists_and_left, Bool.not_eq_true', decide_eq_true_eq, decide_eq_false_iff_not, rLenK, tLenSetT, List.append_nil, and_assoc, or_false, false_or, exists_false, false_and, and_false, rGetL, rSetL, gSub, tAugS, ipI, tPart, tNoPart, not_true, not_false_iff, ite_true, ite_false, List.map_cons, List.map_nil, sp_in_order, wipe]
    exact ke _ _ _ (.refl _) (.bl true) rl.put
  · intro H0 acc ds sm e r rl _
    refine all_true e r rl ?_
    simp only [tBM, SlX.tMethSl, tSeq, tIfS, tOr, tAnd, tNot, tB, tCB, tCons, tNil, tVar, tC, tTest, tChain, tRet, tRetN, tNext, tOp, tAndV, tOrV, tNotV, tIf, tThen, tYes, tTup, tLst, tCall, tAsg, tDrop, tDNewK, gName, gTup, gCons, gNil, rI0, rI, CMul, CDiv, tUn, rU, rEq, rNe, scal, LenV, RetB, RetD, List.set_cons_zero, List.set_cons_succ, List.getElem?_cons_zero, List.getElem?_cons_succ, Option.some.injEq, exists_eq_left', exists_eq_left, List.cons.injEq, and_true, true_and, V.int.injEq, V.str.injEq, V.bl.injEq, V.ref.injEq, if_true, if_false, Bool.not_true, Bool.not_false, reduceCtorEq, decide_true, decide_false, Bool.false_eq_true, exists_and_left, Bool.not_eq_true', decide_eq_true_eq, decide_eq_false_iff_not, rLenK, tLenSetT, List.append_nil, and_assoc, or_false, false_or, exists_false, false_and, and_false, rGetL, rSetL, gSub, tAugS, ipI, tPart, tNoPart, not_true, not_false_iff, ite_true, ite_false, List.map_cons, List.map_nil, sp_in_order]
    refine ⟨ks, hx.same sm, ps, hy.same sm, hk, fun v H' sm' t => ?_⟩
    rw [hf] at t
    refine ⟨PySem.W.Tup.mk ps, PySem.W.Tup.mk ps, t.dp, ((hy.same sm).same sm').dp, ?_⟩
    simpa using q _ (sm.trans sm')
end
end C9
/-! ## F2 -/
set_option maxHeartbeats 4000000
namespace C9
open PySem PySem.Spec PyProof.Rows L2 C8
open PySem.W (alike alikeAll dataLt)
theorem alike_strs : ∀ a b : List Str, alikeAll (a.map .str) (b.map .str) = true
  | [], _ => by simp [alikeAll]
  | _ :: _, [] => by simp [alikeAll]
  | x :: a, y :: b => by simp [alikeAll, alike, alike_strs a b]
theorem alike_dS (a b : List Str) : alike (dS a) (dS b) = true := by
  rw [alike]
  exact alike_strs a b
theorem depth_strs : ∀ a : List Str, PyData.depthAll (a.map .str) = 0
  | [] => by simp [PyData.depthAll]
  | x :: a => by simp [PyData.depthAll, PyData.depth, depth_strs a]
theorem depth_dS (a : List Str) : (dS a).depth = 1 := by
  rw [PyData.depth, depth_strs]
def ltS (a b : List Str) : Bool := dataLt (dS a) (dS b)
/-- a house that the program takes -/
structure GoodH (ks : List Str) (cs : List (List Str)) : Prop where
  names : okNs ks = true
  n1 : 1 ≤ cs.length
  n8 : cs.length ≤ 8
  part : ∀ c ∈ cs, (ks.filter fun k => decide (k ∈ c)) = c ∧ c ≠ []
  lt : ∀ i a b, cs[i]? = some a → cs[i + 1]? = some b → ltS a b = true
  cov : ∀ k ∈ ks, ∃ c ∈ cs, k ∈ c
theorem okNs_len {ks : List Str} (h : okNs ks = true) : 1 ≤ ks.length ∧ ks.length ≤ 6 := by
  unfold okNs at h
  simp only [Bool.and_eq_true, decide_eq_true_eq] at h
  exact h.1.1
theorem part_len {ks c : List Str} (h : (ks.filter fun k => decide (k ∈ c)) = c) (hk : ks.length ≤ 6) : c.length ≤ 6 := by
  have := List.length_filter_le (fun k => decide (k ∈ c)) ks
  rw [h] at this
  omega
theorem cut_behind (xs : List V) : cutV xs (some 1) none = xs.drop 1 := by
  have e : HT.sIx xs.length 0 (some 1) = min 1 xs.length := HT.sIx_nat xs.length 0 1
  unfold cutV
  rw [e, HT.sIx_none]
  cases xs with
  | nil => rfl
  | cons x r =>
    have : min 1 (x :: r).length = 1 := by rw [List.length_cons]; omega
    rw [this, List.take_of_length_le]
    rw [List.length_drop]
    exact Nat.le_refl _
/-- any([..]) of bools -/
theorem any_is {K : PySem.W.Frag} {H : Hp} {D : Addr} {acc : List V} {bs : List Bool} {Q : VK} (e : H D = some (.lst acc)) (r : TpAll H acc (bs.map .bool)) (q : Q (.bl (bs.any id)) H) : rAny K [.ref D] H Q := by
  have h : ∀ {acc : List V} {bs : List Bool}, TpAll H acc (bs.map .bool) → acc = bs.map V.bl := by
    intro acc
    induction acc with
    | nil =>
      intro bs h
      cases bs with
      | nil => rfl
      | cons b bs => cases h
    | cons x acc ih =>
      intro bs h
      cases bs with
      | nil => cases h
      | cons b bs =>
        rw [List.map_cons] at h
        cases h with
        | cons a r =>
          cases a
          rw [ih r]
          rfl
  have h' := h r
  subst h'
  exact ⟨D, bs, rfl, .of e, q⟩
theorem any_true {K : PySem.W.Frag} {H : Hp} {D : Addr} {acc : List V} {bs : List Bool} {Q : VK} (e : H D = some (.lst acc)) (r : TpAll H acc (bs.map .bool)) (t : true ∈ bs) (q : Q (.bl true) H) : rAny K [.ref D] H Q :=
  any_is e r (by rw [show bs.any id = true from List.any_eq_true.mpr ⟨true, t, rfl⟩]; exact q)
section
variable {K : PySem.W.Frag} {mg : Str → Option Value} {P : Program} {w : World} {base : Heap}
def sp_is_house (K : PySem.W.Frag) : Sp := fun vs H Q E => ∃ x, vs = [x] ∧ ∃ ks cs, Tp H x (dH ks cs) ∧ GoodH ks cs ∧ RetB true H Q
theorem sc_is_house : FnScope ["thing", "kinds", "calls", "call", "one", "other", "kind"] ["thing"] (defScope s_is_house) := ⟨rfl, rfl, rfl, by decide +kernel, rfl, by decide +kernel, by decide +kernel⟩
theorem c_is_house (T : Txt K mg) : C8.Cal P w K mg base 3 "is_house" (sp_is_house K) [] := by
  refine T.cal 5 5 rfl rfl sc_is_house
    (fun _ _ _ _ _ _ us h => match us, h with | [_], _ => rfl)
    (fun vs H Q E h => by obtain ⟨_, rfl, _⟩ := h; rfl) (fun f cdv A outer s H vs Q E hr h => ?_)
  have nd := sc_is_house.nd
  refine ⟨_, (pss_cons (ps_if (PW.pt (pw_or (pt_not (pt_val (pe_c (c_is_tuple_of T) hr (by decide) (by rfl) (pa_cons (pv 0) (pa_cons pe_int pa_nil))))) (pw_or1 (pt_not (pt_val (pe_c (c_are_names T) hr (by decide) (by rfl) (pa_cons (pe_ix (k_ixT K) (pv 0) pe_int (fun _ _ => rfl)) pa_nil))))))) (pss_one (ps_ret pe_bl)) pss_nil)
     (pss_cons (ps_asg (pv 0) (k_tup K (pg_tup (n := 2) rfl (pgs_cons (pg_name (i := 1) nd rfl (by first | exact .inl rfl | exact .inr rfl)) (pgs_cons (pg_name (i := 2) nd rfl (by first | exact .inl rfl | exact .inr rfl)) pgs_nil)))))
     (pss_cons (ps_if (PW.pt (pw_or (pt_not (pt_val (pe_callB isi_tup (by rfl) (T.free 50) rfl (pa_cons (pv 2) (pa_cons (pe_bltn (v := .ty "tuple") (by rfl) (T.free 55) rfl rfl) pa_nil))))) (pw_or1 (pt_not (pt_chain op_le op_le pe_int (pe_callB (k_len K) (by rfl) (T.free 52) rfl (pa_cons (pv 2) pa_nil)) (pe_gc (by rfl) (T.int 71))))))) (pss_one (ps_ret pe_bl)) pss_nil)
     (pss_cons (ps_if (pt_not (pt_val (pe_callB (k_all K rfl) (by rfl) (T.free 53) rfl (pa_cons (pe_lc rfl nd (k_piT K (pi_tup (pv 2))) (blkOk_by (own := [("call", 3)]) (by rfl)) (fun _ _ _ _ _ => (pg_name (i := 3) nd rfl (by first | exact .inl rfl | exact .inr rfl))) (fun _ _ _ _ _ => pts_nil) (fun _ _ _ _ _ => (pe_and (pe_c (c_is_part T) hr (by decide) (by rfl) (pa_cons (pv 1) (pa_cons (pv 3) pa_nil))) (pe_one (pe_cmpR (k_neA K (α := (PySem.W.Tup Str)) hr (by decide)) (pv 3) (pe_tup pa_nil) rfl))))) pa_nil)))) (pss_one (ps_ret pe_bl)) pss_nil)
     (pss_cons (ps_if (pt_not (pt_val (pe_callB (k_all K rfl) (by rfl) (T.free 53) rfl (pa_cons (pe_lc rfl nd (k_zip K (RZ.pi_zipA (by rfl) (T.free 56) (pa_cons (pv 2) (pa_cons (pe_slice (k_slT K) (pv 2) (po_some pe_int) po_none) pa_nil)))) (blkOk_by (own := [("one", 4), ("other", 5)]) (by rfl)) (fun _ _ _ _ _ => (k_tup K (pg_tup (n := 2) rfl (pgs_cons (pg_name (i := 4) nd rfl (by first | exact .inl rfl | exact .inr rfl)) (pgs_cons (pg_name (i := 5) nd rfl (by first | exact .inl rfl | exact .inr rfl)) pgs_nil))))) (fun _ _ _ _ _ => pts_nil) (fun _ _ _ _ _ => (pe_cmpR (k_ltD K hr) (pv 4) (pv 5) rfl))) pa_nil)))) (pss_one (ps_ret pe_bl)) pss_nil)
     (pss_one (ps_ret (pe_callB (k_all K rfl) (by rfl) (T.free 53) rfl (pa_cons (pe_lc rfl nd (k_piT K (pi_tup (pv 1))) (blkOk_by (own := [("kind", 6)]) (by rfl)) (fun _ _ _ _ _ => (pg_name (i := 6) nd rfl (by first | exact .inl rfl | exact .inr rfl))) (fun _ _ _ _ _ => pts_nil) (fun _ _ _ _ _ => (pe_callB (k_any K rfl) (by rfl) (T.free 57) rfl (pa_cons (pe_lc rfl nd (k_piT K (pi_tup (pv 2))) (blkOk_by (own := [("call", 3)]) (by rfl)) (fun _ _ _ _ _ => (pg_name (i := 3) nd rfl (by first | exact .inl rfl | exact .inr rfl))) (fun _ _ _ _ _ => pts_nil) (fun _ _ _ _ _ => (pe_cmpR (k_inA K (α := Str) hr (by decide)) (pv 6) (pv 3) rfl))) pa_nil)))) pa_nil))))))))), ?_⟩
  obtain ⟨v0, rfl, h⟩ := h
  rw [show L2.start ["thing", "kinds", "calls", "call", "one", "other", "kind"] [v0] = [some v0, none, none, none, none, none, none] from rfl]
  obtain ⟨ks, cs, hx, g, q⟩ := h
  obtain ⟨a, v1, v2, rfl, ha, h1, h2⟩ := hx.two
  obtain ⟨b, ys, rfl, hb, hys⟩ := h2.tup_at
  have hn := g.n1
  have hn8 := g.n8
  have hlen := hys.len
  have e1 : (1 : Int) ≤ (ys.length : Nat) := by omega
  have e2 : ((ys.length : Nat) : Int) ≤ 8 := by omega
  have hkl := (okNs_len g.names).2
  simp only [tBM, SlX.tMethSl, tSeq, tIfS, tOr, tAnd, tNot, tB, tCB, tCons, tNil, tVar, tC, tTest, tChain, tRet, tRetN, tNext, tOp, tAndV, tOrV, tNotV, tIf, tThen, tYes, tTup, tLst, tCall, tAsg, tDrop, tDNewK, gName, gTup, gCons, gNil, rI0, rI, CMul, CDiv, tUn, rU, rEq, rNe, scal, LenV, RetB, RetD, List.set_cons_zero, List.set_cons_succ, List.getElem?_cons_zero, List.getElem?_cons_succ, Option.some.injEq, exists_eq_left', exists_eq_left, List.cons.injEq, and_true, true_and, V.int.injEq, V.str.injEq, V.bl.injEq, V.ref.injEq, if_true, if_false, Bool.not_true, Bool.not_false, reduceCtorEq, decide_true, decide_false, Bool.false_eq_true, exists_and_left, Bool.not_eq_true', decide_eq_true_eq, decide_eq_false_iff_not, rLenK, tLenSetT, List.append_nil, and_assoc, or_false, false_or, exists_false, false_and, and_false, rGetL, rSetL, gSub, tAugS, ipI, tPart, tNoPart, not_true, not_false_iff, ite_true, ite_false, List.map_cons, List.map_nil, sp_are_names, sp_is_part, sp_is_tuple_of]
  refine ⟨[v1, .ref b], rfl, ha, ⟨a, [v1, .ref b], 0, v1, rfl, rfl, .of ha, rfl, ks, h1, g.names, fun H1 s1 => ?_⟩⟩
  refine ⟨[v1, .ref b], .of (s1 _ _ ha), rfl, v1, _, rfl, _, _, rfl, rfl, b, rfl, ys, s1 _ _ hb, ys.length, .inr ⟨_, .of (s1 _ _ hb), rfl⟩, ?_⟩
  simp only [tBM, SlX.tMethSl, tSeq, tIfS, tOr, tAnd, tNot, tB, tCB, tCons, tNil, tVar, tC, tTest, tChain, tRet, tRetN, tNext, tOp, tAndV, tOrV, tNotV, tIf, tThen, tYes, tTup, tLst, tCall, tAsg, tDrop, tDNewK, gName, gTup, gCons, gNil, rI0, rI, CMul, CDiv, tUn, rU, rEq, rNe, scal, LenV, RetB, RetD, List.set_cons_zero, List.set_cons_succ, List.getElem?_cons_zero, List.getElem?_cons_succ, Option.some.injEq, exists_eq_left', exists_eq_left, List.cons.injEq, and_true, true_and, V.int.injEq, V.str.injEq, V.bl.injEq, V.ref.injEq, if_true, if_false, Bool.not_true, Bool.not_false, reduceCtorEq, decide_true, decide_false, Bool.false_eq_true, exists_and_left, Bool.not_eq_true', decide_eq_true_eq, decide_eq_false_iff_not, rLenK, tLenSetT, List.append_nil, and_assoc, or_false, false_or, exists_false, false_and, and_false, rGetL, rSetL, gSub, tAugS, ipI, tPart, tNoPart, not_true, not_false_iff, ite_true, ite_false, List.map_cons, List.map_nil, sp_are_names, sp_is_part, sp_is_tuple_of, e1, e2]
  refine ⟨_, rfl, b, rfl, ⟨_, .of (s1 _ _ hb)⟩, fun D hD => lc_rel walk_tup hD ?_ RlT RlT.zero (fun H sm => .of (sm _ _ (s1 _ _ hb))) ?_ ?_⟩
  · exact Nat.lt_of_le_of_lt (by omega : _ ≤ 8) (by decide)
  · rintro i ds x H2 H3 Qe Qs hi sm rl ⟨rfl, hx1⟩ ke _
    obtain ⟨c, hc, tc⟩ := hys.nth hx1
    have sm2 := s1.trans sm
    have gc := g.part c (List.mem_of_getElem? hc)
    refine ⟨rfl, ?_⟩
    simp only [tBM, SlX.tMethSl, tSeq, tIfS, tOr, tAnd, tNot, tB, tCB, tCons, tNil, tVar, tC, tTest, tChain, tRet, tRetN, tNext, tOp, tAndV, tOrV, tNotV, tIf, tThen, tYes, tTup, tLst, tCall, tAsg, tDrop, tDNewK, gName, gTup, gCons, gNil, rI0, rI, CMul, CDiv, tUn, rU, rEq, rNe, scal, LenV, RetB, RetD, List.set_cons_zero, List.set_cons_succ, List.getElem?_cons_zero, List.getElem?_cons_succ, Option.some.injEq, exists_eq_left', exists_eq_left, List.cons.injEq, and_true, true_and, V.int.injEq, V.str.injEq, V.bl.injEq, V.ref.injEq, if_true, if_false, Bool.not_true, Bool.not_false, reduceCtorEq, decide_true, decide_false, Bool.false_eq_true, exists_and_left, Bool.not_eq_true', decide_eq_true_eq, decide_eq_false_iff_not, rLenK, tLenSetT, List.append_nil, and_assoc, or_false, false_or, exists_false, false_and, and_false, rGetL, rSetL, gSub, tAugS, ipI, tPart, tNoPart, not_true, not_false_iff, ite_true, ite_false, List.map_cons, List.map_nil, sp_are_names, sp_is_part, sp_is_tuple_of, wipe]
    refine ⟨ks, h1.same sm2, c, tc.same sm2, by omega, by have := part_len gc.1 hkl; omega, gc.1, fun H4 s4 => ⟨Nat.zero_le _, fun p hp => ?_⟩⟩
    refine ⟨PySem.W.Tup.mk c, PySem.W.Tup.mk [], (((tc.same sm2).same s4).same (sm_new hp)).dp, .tup (.of upd_same) .nil, ?_⟩
    rw [show (!decide (PySem.W.Tup.mk c = PySem.W.Tup.mk [])) = true by simpa using gc.2]
    exact ke _ _ _ (s4.trans (sm_new hp)) (.bl true) rl.put
  · intro H2 acc ds sm2 e r rl _
    refine all_true e r rl ?_
    have s2 := s1.trans sm2
    simp only [tBM, SlX.tMethSl, tSeq, tIfS, tOr, tAnd, tNot, tB, tCB, tCons, tNil, tVar, tC, tTest, tChain, tRet, tRetN, tNext, tOp, tAndV, tOrV, tNotV, tIf, tThen, tYes, tTup, tLst, tCall, tAsg, tDrop, tDNewK, gName, gTup, gCons, gNil, rI0, rI, CMul, CDiv, tUn, rU, rEq, rNe, scal, LenV, RetB, RetD, List.set_cons_zero, List.set_cons_succ, List.getElem?_cons_zero, List.getElem?_cons_succ, Option.some.injEq, exists_eq_left', exists_eq_left, List.cons.injEq, and_true, true_and, V.int.injEq, V.str.injEq, V.bl.injEq, V.ref.injEq, if_true, if_false, Bool.not_true, Bool.not_false, reduceCtorEq, decide_true, decide_false, Bool.false_eq_true, exists_and_left, Bool.not_eq_true', decide_eq_true_eq, decide_eq_false_iff_not, rLenK, tLenSetT, List.append_nil, and_assoc, or_false, false_or, exists_false, false_and, and_false, rGetL, rSetL, gSub, tAugS, ipI, tPart, tNoPart, not_true, not_false_iff, ite_true, ite_false, List.map_cons, List.map_nil, sp_are_names, sp_is_part, sp_is_tuple_of]
    refine ⟨_, rfl, _, rfl, 1, rfl, b, ys, rfl, .of (s2 _ _ hb), fun hw => absurd hw.1 ?_, fun _ p hp => ?_⟩
    · rw [show HT.sIx ys.length 0 (some 1) = min 1 ys.length from HT.sIx_nat ys.length 0 1]
      omega
    rw [cut_behind]
    have s3 := sm_then (o := .tup (ys.drop 1)) s2 hp
    refine ⟨b, p, ys, ys.drop 1, rfl, .inr ⟨.of (s3 _ _ hb), .of upd_same, fun D2 hD2 => lc_rel (walk_zipT rfl) hD2 ?_ RlT RlT.zero (fun H sm => ⟨.of (sm _ _ (s3 _ _ hb)), .of (sm _ _ upd_same)⟩) ?_ ?_⟩⟩
    · exact Nat.lt_of_le_of_lt (by omega : _ ≤ 8) (by decide)
    · rintro i ds2 x H3 H4 Qe Qs hi sm rl2 ⟨T2, x1, x2, rfl, hT, rfl, f1, f2⟩ ke _
      obtain ⟨c, hc, tc⟩ := hys.nth f1
      replace f2 : ys[i + 1]? = some x2 := by
        have f3 : (List.drop 1 ys)[i]? = some x2 := f2
        rwa [List.getElem?_drop, Nat.add_comm] at f3
      obtain ⟨c', hc', tc'⟩ := hys.nth f2
      have sm3 := sm_then (o := .tup [x1, x2]) (s3.trans sm) hT
      refine ⟨T2, [x1, x2], rfl, .of upd_same, rfl, x1, [x2], rfl, x2, [], rfl, rfl, rfl, ?_⟩
      simp only [tBM, SlX.tMethSl, tSeq, tIfS, tOr, tAnd, tNot, tB, tCB, tCons, tNil, tVar, tC, tTest, tChain, tRet, tRetN, tNext, tOp, tAndV, tOrV, tNotV, tIf, tThen, tYes, tTup, tLst, tCall, tAsg, tDrop, tDNewK, gName, gTup, gCons, gNil, rI0, rI, CMul, CDiv, tUn, rU, rEq, rNe, scal, LenV, RetB, RetD, List.set_cons_zero, List.set_cons_succ, List.getElem?_cons_zero, List.getElem?_cons_succ, Option.some.injEq, exists_eq_left', exists_eq_left, List.cons.injEq, and_true, true_and, V.int.injEq, V.str.injEq, V.bl.injEq, V.ref.injEq, if_true, if_false, Bool.not_true, Bool.not_false, reduceCtorEq, decide_true, decide_false, Bool.false_eq_true, exists_and_left, Bool.not_eq_true', decide_eq_true_eq, decide_eq_false_iff_not, rLenK, tLenSetT, List.append_nil, and_assoc, or_false, false_or, exists_false, false_and, and_false, rGetL, rSetL, gSub, tAugS, ipI, tPart, tNoPart, not_true, not_false_iff, ite_true, ite_false, List.map_cons, List.map_nil, sp_are_names, sp_is_part, sp_is_tuple_of, wipe]
      refine ⟨dS c, dS c', (tc.same sm3).dp, (tc'.same sm3).dp, alike_dS _ _, (fun e => by cases e), by rw [depth_dS, depth_dS]; decide, ?_⟩
      rw [show PySem.W.dataLt (dS c) (dS c') = true from g.lt i c c' hc hc']
      exact ke _ _ _ (sm_new hT) (.bl true) rl2.put
    · intro H3 acc2 ds2 sm3 e2 r2 rl2 _
      refine all_true e2 r2 rl2 ?_
      have s4 := s3.trans sm3
      simp only [tBM, SlX.tMethSl, tSeq, tIfS, tOr, tAnd, tNot, tB, tCB, tCons, tNil, tVar, tC, tTest, tChain, tRet, tRetN, tNext, tOp, tAndV, tOrV, tNotV, tIf, tThen, tYes, tTup, tLst, tCall, tAsg, tDrop, tDNewK, gName, gTup, gCons, gNil, rI0, rI, CMul, CDiv, tUn, rU, rEq, rNe, scal, LenV, RetB, RetD, List.set_cons_zero, List.set_cons_succ, List.getElem?_cons_zero, List.getElem?_cons_succ, Option.some.injEq, exists_eq_left', exists_eq_left, List.cons.injEq, and_true, true_and, V.int.injEq, V.str.injEq, V.bl.injEq, V.ref.injEq, if_true, if_false, Bool.not_true, Bool.not_false, reduceCtorEq, decide_true, decide_false, Bool.false_eq_true, exists_and_left, Bool.not_eq_true', decide_eq_true_eq, decide_eq_false_iff_not, rLenK, tLenSetT, List.append_nil, and_assoc, or_false, false_or, exists_false, false_and, and_false, rGetL, rSetL, gSub, tAugS, ipI, tPart, tNoPart, not_true, not_false_iff, ite_true, ite_false, List.map_cons, List.map_nil, sp_are_names, sp_is_part, sp_is_tuple_of]
      obtain ⟨b1, rfl, hb1⟩ := h1.strs_at
      refine ⟨_, rfl, b1, rfl, ⟨_, .of (s4 _ _ hb1)⟩, fun D3 hD3 => lc_rel walk_tup hD3 ?_ RlT RlT.zero (fun H sm => .of (sm _ _ (s4 _ _ hb1))) ?_ ?_⟩
      · rw [List.length_map]
        exact Nat.lt_of_le_of_lt hkl (by decide)
      · rintro i ds3 x H4 H5 Qe Qs hi sm rl3 ⟨rfl, hx1⟩ ke _
        obtain ⟨z, hz, rfl⟩ := List.getElem?_map.symm.trans hx1 |> Option.map_eq_some_iff.mp
        have s5 := s4.trans sm
        refine ⟨rfl, ?_⟩
        simp only [tBM, SlX.tMethSl, tSeq, tIfS, tOr, tAnd, tNot, tB, tCB, tCons, tNil, tVar, tC, tTest, tChain, tRet, tRetN, tNext, tOp, tAndV, tOrV, tNotV, tIf, tThen, tYes, tTup, tLst, tCall, tAsg, tDrop, tDNewK, gName, gTup, gCons, gNil, rI0, rI, CMul, CDiv, tUn, rU, rEq, rNe, scal, LenV, RetB, RetD, List.set_cons_zero, List.set_cons_succ, List.getElem?_cons_zero, List.getElem?_cons_succ, Option.some.injEq, exists_eq_left', exists_eq_left, List.cons.injEq, and_true, true_and, V.int.injEq, V.str.injEq, V.bl.injEq, V.ref.injEq, if_true, if_false, Bool.not_true, Bool.not_false, reduceCtorEq, decide_true, decide_false, Bool.false_eq_true, exists_and_left, Bool.not_eq_true', decide_eq_true_eq, decide_eq_false_iff_not, rLenK, tLenSetT, List.append_nil, and_assoc, or_false, false_or, exists_false, false_and, and_false, rGetL, rSetL, gSub, tAugS, ipI, tPart, tNoPart, not_true, not_false_iff, ite_true, ite_false, List.map_cons, List.map_nil, sp_are_names, sp_is_part, sp_is_tuple_of, wipe]
        refine ⟨_, rfl, b, rfl, ⟨_, .of (s5 _ _ hb)⟩, fun D4 hD4 => lc_rel walk_tup hD4 ?_ (RlM (fun c => .bool (decide (z ∈ c))) cs) .zero (fun H sm => .of (sm _ _ (s5 _ _ hb))) ?_ ?_⟩
        · exact Nat.lt_of_le_of_lt (by omega : _ ≤ 8) (by decide)
        · rintro i ds4 x H6 H7 Qe2 Qs2 hi sm6 rl4 ⟨rfl, hx1⟩ ke2 _
          obtain ⟨c, hc, tc⟩ := hys.nth hx1
          have s6 := s5.trans sm6
          obtain ⟨bc, rfl, hbc⟩ := (tc.same s6).strs_at
          refine ⟨rfl, ?_⟩
          simp only [tBM, SlX.tMethSl, tSeq, tIfS, tOr, tAnd, tNot, tB, tCB, tCons, tNil, tVar, tC, tTest, tChain, tRet, tRetN, tNext, tOp, tAndV, tOrV, tNotV, tIf, tThen, tYes, tTup, tLst, tCall, tAsg, tDrop, tDNewK, gName, gTup, gCons, gNil, rI0, rI, CMul, CDiv, tUn, rU, rEq, rNe, scal, LenV, RetB, RetD, List.set_cons_zero, List.set_cons_succ, List.getElem?_cons_zero, List.getElem?_cons_succ, Option.some.injEq, exists_eq_left', exists_eq_left, List.cons.injEq, and_true, true_and, V.int.injEq, V.str.injEq, V.bl.injEq, V.ref.injEq, if_true, if_false, Bool.not_true, Bool.not_false, reduceCtorEq, decide_true, decide_false, Bool.false_eq_true, exists_and_left, Bool.not_eq_true', decide_eq_true_eq, decide_eq_false_iff_not, rLenK, tLenSetT, List.append_nil, and_assoc, or_false, false_or, exists_false, false_and, and_false, rGetL, rSetL, gSub, tAugS, ipI, tPart, tNoPart, not_true, not_false_iff, ite_true, ite_false, List.map_cons, List.map_nil, sp_are_names, sp_is_part, sp_is_tuple_of, wipe]
          refine ⟨z, c, bc, _, .str z, rfl, .inr (.of hbc), TpAll.dp (TpAll.strs.mpr rfl), ?_⟩
          exact ke2 _ _ _ (.refl _) (.bl _) (rl4.put hc)
        · intro H6 acc4 ds4 sm6 e4 r4 rl4 _
          have hds := rl4.all (by omega)
          subst hds
          obtain ⟨c, hc, hzc⟩ := g.cov z (List.mem_of_getElem? hz)
          rw [show cs.map (fun c => PyData.bool (decide (z ∈ c))) = (cs.map fun c => decide (z ∈ c)).map .bool by rw [List.map_map]; rfl] at r4
          exact any_true e4 r4 (List.mem_map.mpr ⟨c, hc, by simpa using hzc⟩) (ke _ _ _ sm6 (.bl true) rl3.put)
      · intro H4 acc3 ds3 sm4 e3 r3 rl3 _
        exact all_true e3 r3 rl3 (q _ (s4.trans sm4))
def sp_is_set (K : PySem.W.Frag) : Sp := fun vs H Q E => ∃ x y, vs = [x, y] ∧ ∃ ks cs ps, Tp H x (dH ks cs) ∧ Tp H y (dS ps) ∧ ks.length ≤ 6 ∧ ps.length ≤ 6 ∧ (ks.filter fun k => decide (k ∈ ps)) = ps ∧ RetB true H Q
theorem sc_is_set : FnScope ["house", "thing"] ["house", "thing"] (defScope s_is_set) := ⟨rfl, rfl, rfl, by decide +kernel, rfl, by decide +kernel, by decide +kernel⟩
theorem c_is_set (T : Txt K mg) : C8.Cal P w K mg base 3 "is_set" (sp_is_set K) [] := by
  refine T.cal 6 6 rfl rfl sc_is_set
    (fun _ _ _ _ _ _ us h => match us, h with | [_, _], _ => rfl)
    (fun vs H Q E h => by obtain ⟨_, _, rfl, _⟩ := h; rfl) (fun f cdv A outer s H vs Q E hr h => ?_)
  have nd := sc_is_set.nd
  refine ⟨_, (pss_one (ps_ret (pe_c (c_is_part T) hr (by decide) (by rfl) (pa_cons (pe_ix (k_ixT K) (pv 0) pe_int (fun _ _ => rfl)) (pa_cons (pv 1) pa_nil))))), ?_⟩
  obtain ⟨v0, v1, rfl, h⟩ := h
  rw [show L2.start ["house", "thing"] [v0, v1] = [some v0, some v1] from rfl]
  obtain ⟨ks, cs, ps, hx, hy, hk, hp, hf, q⟩ := h
  obtain ⟨a, v1, v2, rfl, ha, h1, h2⟩ := hx.two
  simp only [tBM, SlX.tMethSl, tSeq, tIfS, tOr, tAnd, tNot, tB, tCB, tCons, tNil, tVar, tC, tTest, tChain, tRet, tRetN, tNext, tOp, tAndV, tOrV, tNotV, tIf, tThen, tYes, tTup, tLst, tCall, tAsg, tDrop, tDNewK, gName, gTup, gCons, gNil, rI0, rI, CMul, CDiv, tUn, rU, rEq, rNe, scal, LenV, RetB, RetD, List.set_cons_zero, List.set_cons_succ, List.getElem?_cons_zero, List.getElem?_cons_succ, Option.some.injEq, exists_eq_left', exists_eq_left, List.cons.injEq, and_true, true_and, V.int.injEq, V.str.injEq, V.bl.injEq, V.ref.injEq, if_true, if_false, Bool.not_true, Bool.not_false, reduceCtorEq, decide_true, decide_false, Bool.false_eq_true, exists_and_left, Bool.not_eq_true', decide_eq_true_eq, decide_eq_false_iff_not, rLenK, tLenSetT, List.append_nil, and_assoc, or_false, false_or, exists_false, false_and, and_false, rGetL, rSetL, gSub, tAugS, ipI, tPart, tNoPart, not_true, not_false_iff, ite_true, ite_false, List.map_cons, List.map_nil, sp_is_part]
  refine ⟨a, [v1, v2], 0, v1, rfl, rfl, .of ha, rfl, ks, h1, ps, hy, by omega, by omega, hf, q⟩
def sp_is_kind (K : PySem.W.Frag) : Sp := fun vs H Q E => ∃ x y, vs = [x, y] ∧ ∃ ks cs k, Tp H x (dH ks cs) ∧ y = .str k ∧ k ∈ ks ∧ Q (.bl true) H
theorem sc_is_kind : FnScope ["house", "thing"] ["house", "thing"] (defScope s_is_kind) := ⟨rfl, rfl, rfl, by decide +kernel, rfl, by decide +kernel, by decide +kernel⟩
theorem c_is_kind (T : Txt K mg) : C8.Cal P w K mg base 1 "is_kind" (sp_is_kind K) [] := by
  refine T.cal 7 7 rfl rfl sc_is_kind
    (fun _ _ _ _ _ _ us h => match us, h with | [_, _], _ => rfl)
    (fun vs H Q E h => by obtain ⟨_, _, rfl, _⟩ := h; rfl) (fun f cdv A outer s H vs Q E hr h => ?_)
  have nd := sc_is_kind.nd
  refine ⟨_, (pss_one (ps_ret (pe_and (pe_callB isi_str (by rfl) (T.free 50) rfl (pa_cons (pv 1) (pa_cons (pe_bltn (v := .ty "str") (by rfl) (T.free 51) rfl rfl) pa_nil))) (pe_one (pe_cmpR (k_inA K (α := Str) hr (by decide)) (pv 1) (pe_ix (k_ixT K) (pv 0) pe_int (fun _ _ => rfl)) rfl))))), ?_⟩
  obtain ⟨v0, v1, rfl, h⟩ := h
  rw [show L2.start ["house", "thing"] [v0, v1] = [some v0, some v1] from rfl]
  obtain ⟨ks, cs, k, hx, rfl, hk, q⟩ := h
  obtain ⟨a, v1, v2, rfl, ha, h1, h2⟩ := hx.two
  obtain ⟨b, rfl, hb⟩ := h1.strs_at
  simp only [tBM, SlX.tMethSl, tSeq, tIfS, tOr, tAnd, tNot, tB, tCB, tCons, tNil, tVar, tC, tTest, tChain, tRet, tRetN, tNext, tOp, tAndV, tOrV, tNotV, tIf, tThen, tYes, tTup, tLst, tCall, tAsg, tDrop, tDNewK, gName, gTup, gCons, gNil, rI0, rI, CMul, CDiv, tUn, rU, rEq, rNe, scal, LenV, RetB, RetD, List.set_cons_zero, List.set_cons_succ, List.getElem?_cons_zero, List.getElem?_cons_succ, Option.some.injEq, exists_eq_left', exists_eq_left, List.cons.injEq, and_true, true_and, V.int.injEq, V.str.injEq, V.bl.injEq, V.ref.injEq, if_true, if_false, Bool.not_true, Bool.not_false, reduceCtorEq, decide_true, decide_false, Bool.false_eq_true, exists_and_left, Bool.not_eq_true', decide_eq_true_eq, decide_eq_false_iff_not, rLenK, tLenSetT, List.append_nil, and_assoc, or_false, false_or, exists_false, false_and, and_false, rGetL, rSetL, gSub, tAugS, ipI, tPart, tNoPart, not_true, not_false_iff, ite_true, ite_false, List.map_cons, List.map_nil]
  refine ⟨a, [.ref b, v2], 0, _, rfl, rfl, .of ha, rfl, k, ks, b, _, .str k, rfl, .inr (.of hb), TpAll.dp (TpAll.strs.mpr rfl), ?_⟩
  simpa [hk] using q
def sp_is_call (K : PySem.W.Frag) : Sp := fun vs H Q E => ∃ x y, vs = [x, y] ∧ ∃ ks cs c, Tp H x (dH ks cs) ∧ Tp H y (dS c) ∧ ks.length ≤ 6 ∧ (ks.filter fun k => decide (k ∈ c)) = c ∧ c ∈ cs ∧ RetB true H Q
theorem sc_is_call : FnScope ["house", "thing"] ["house", "thing"] (defScope s_is_call) := ⟨rfl, rfl, rfl, by decide +kernel, rfl, by decide +kernel, by decide +kernel⟩
theorem c_is_call (T : Txt K mg) : C8.Cal P w K mg base 4 "is_call" (sp_is_call K) [] := by
  refine T.cal 8 8 rfl rfl sc_is_call
    (fun _ _ _ _ _ _ us h => match us, h with | [_, _], _ => rfl)
    (fun vs H Q E h => by obtain ⟨_, _, rfl, _⟩ := h; rfl) (fun f cdv A outer s H vs Q E hr h => ?_)
  have nd := sc_is_call.nd
  refine ⟨_, (pss_one (ps_ret (pe_and (pe_c (c_is_set T) hr (by decide) (by rfl) (pa_cons (pv 0) (pa_cons (pv 1) pa_nil))) (pe_one (pe_cmpR (k_inA K (α := (PySem.W.Tup Str)) hr (by decide)) (pv 1) (pe_ix (k_ixT K) (pv 0) pe_int (fun _ _ => rfl)) rfl))))), ?_⟩
  obtain ⟨v0, v1, rfl, h⟩ := h
  rw [show L2.start ["house", "thing"] [v0, v1] = [some v0, some v1] from rfl]
  obtain ⟨ks, cs, c, hx, hy, hk, hf, hc, q⟩ := h
  obtain ⟨a, v1, v2, rfl, ha, h1, h2⟩ := hx.two
  obtain ⟨b, ys, rfl, hb, hys⟩ := h2.tup_at
  simp only [tBM, SlX.tMethSl, tSeq, tIfS, tOr, tAnd, tNot, tB, tCB, tCons, tNil, tVar, tC, tTest, tChain, tRet, tRetN, tNext, tOp, tAndV, tOrV, tNotV, tIf, tThen, tYes, tTup, tLst, tCall, tAsg, tDrop, tDNewK, gName, gTup, gCons, gNil, rI0, rI, CMul, CDiv, tUn, rU, rEq, rNe, scal, LenV, RetB, RetD, List.set_cons_zero, List.set_cons_succ, List.getElem?_cons_zero, List.getElem?_cons_succ, Option.some.injEq, exists_eq_left', exists_eq_left, List.cons.injEq, and_true, true_and, V.int.injEq, V.str.injEq, V.bl.injEq, V.ref.injEq, if_true, if_false, Bool.not_true, Bool.not_false, reduceCtorEq, decide_true, decide_false, Bool.false_eq_true, exists_and_left, Bool.not_eq_true', decide_eq_true_eq, decide_eq_false_iff_not, rLenK, tLenSetT, List.append_nil, and_assoc, or_false, false_or, exists_false, false_and, and_false, rGetL, rSetL, gSub, tAugS, ipI, tPart, tNoPart, not_true, not_false_iff, ite_true, ite_false, List.map_cons, List.map_nil, sp_is_set]
  refine ⟨ks, cs, hx, c, hy, hk, part_len hf hk, hf, fun H1 s1 => ?_⟩
  refine ⟨a, [v1, .ref b], 1, _, rfl, rfl, .of (s1 _ _ ha), rfl, PySem.W.Tup.mk c, cs.map PySem.W.Tup.mk, b, ys, (hy.same s1).dp, rfl, .inr (.of (s1 _ _ hb)), ?_, ?_⟩
  · rw [List.map_map]
    exact TpAll.dp (TpAll.same s1 hys)
  · rw [decide_eq_true (List.mem_map.mpr ⟨c, hc, rfl⟩)]
    exact q _ s1
end
end C9
/-! ## F3 -/
set_option maxHeartbeats 4000000
namespace C9
open PySem PySem.Spec PyProof.Rows L2 C8
open PySem.W (alike alikeAll dataLt AllAlike Sortable keyToks keyToksAll)
abbrev sortS (cs : List (List Str)) : List (List Str) := sortG dS cs
theorem al_dCs (cs : List (List Str)) : AllAlike (cs.map dS) := AllAlike.of fun a b => alike_dS a b
theorem so_dCs {cs : List (List Str)} (h : ∀ c ∈ cs, c ≠ []) : Sortable (cs.map dS) := .inl fun d hd => by
  obtain ⟨c, hc, rfl⟩ := List.mem_map.mp hd
  cases c with
  | nil => exact absurd rfl (h _ hc)
  | cons x r => exact ⟨_, _, rfl⟩
theorem dp_dCs {cs : List (List Str)} : ∀ d ∈ cs.map dS, d.depth ≤ 40 := fun d hd => by
  obtain ⟨c, hc, rfl⟩ := List.mem_map.mp hd
  rw [depth_dS]
  decide
theorem ret_pair {H : Hp} {p : Addr} {v1 v2 : V} {d1 d2 : PyData} (hp : H p = none) (h1 : Tp H v1 d1) (h2 : Tp H v2 d2) : Tp (upd H p (.tup [v1, v2])) (.ref p) (.tuple [d1, d2]) := .mk hp (.cons h1 (.cons h2 .nil))
section
variable {K : PySem.W.Frag} {mg : Str → Option Value} {P : Program} {w : World} {base : Heap}
def sp_reordered (K : PySem.W.Frag) : Sp := fun vs H Q E => ∃ x y, vs = [x, y] ∧ ∃ ks cs k2, Tp H x (dH ks cs) ∧ Tp H y (dS k2) ∧ cs.length ≤ 1000 ∧ k2.length ≤ 1000 ∧ (∀ c ∈ cs, (k2.filter fun k => decide (k ∈ c)) ≠ []) ∧
  RetD (dH k2 (sortS (cs.map fun c => k2.filter fun k => decide (k ∈ c)))) H Q
theorem sc_reordered : FnScope ["house", "kinds", "call"] ["house", "kinds"] (defScope s_reordered) := ⟨rfl, rfl, rfl, by decide +kernel, rfl, by decide +kernel, by decide +kernel⟩
theorem c_reordered (T : Txt K mg) : C8.Cal P w K mg base 2 "reordered" (sp_reordered K) [] := by
  refine T.cal 9 9 rfl rfl sc_reordered
    (fun _ _ _ _ _ _ us h => match us, h with | [_, _], _ => rfl)
    (fun vs H Q E h => by obtain ⟨_, _, rfl, _⟩ := h; rfl) (fun f cdv A outer s H vs Q E hr h => ?_)
  have nd := sc_reordered.nd
  refine ⟨_, (pss_one (ps_ret (pe_tup (pa_cons (pv 1) (pa_cons (pe_callTy (k_tuple K) (by rfl) (T.free 55) rfl (pa_cons (pe_callB (k_sortedD K hr) (by rfl) (T.free 58) rfl (pa_cons (pe_lc rfl nd (k_piT K (pi_tup (pe_ix (k_ixT K) (pv 0) pe_int (fun _ _ => rfl)))) (blkOk_by (own := [("call", 2)]) (by rfl)) (fun _ _ _ _ _ => (pg_name (i := 2) nd rfl (by first | exact .inl rfl | exact .inr rfl))) (fun _ _ _ _ _ => pts_nil) (fun _ _ _ _ _ => (pe_c (c_in_order T) hr (by decide) (by rfl) (pa_cons (pv 1) (pa_cons (pv 2) pa_nil))))) pa_nil)) pa_nil)) pa_nil))))), ?_⟩
  obtain ⟨v0, v1, rfl, h⟩ := h
  rw [show L2.start ["house", "kinds", "call"] [v0, v1] = [some v0, some v1, none] from rfl]
  obtain ⟨ks, cs, k2, hx, hy, hc, hk, hne, q⟩ := h
  obtain ⟨a, v1, v2, rfl, ha, h1, h2⟩ := hx.two
  obtain ⟨b, ys, rfl, hb, hys⟩ := h2.tup_at
  simp only [tBM, SlX.tMethSl, tSeq, tIfS, tOr, tAnd, tNot, tB, tCB, tCons, tNil, tVar, tC, tTest, tChain, tRet, tRetN, tNext, tOp, tAndV, tOrV, tNotV, tIf, tThen, tYes, tTup, tLst, tCall, tAsg, tDrop, tDNewK, gName, gTup, gCons, gNil, rI0, rI, CMul, CDiv, tUn, rU, rEq, rNe, scal, LenV, RetB, RetD, List.set_cons_zero, List.set_cons_succ, List.getElem?_cons_zero, List.getElem?_cons_succ, Option.some.injEq, exists_eq_left', exists_eq_left, List.cons.injEq, and_true, true_and, V.int.injEq, V.str.injEq, V.bl.injEq, V.ref.injEq, if_true, if_false, Bool.not_true, Bool.not_false, reduceCtorEq, decide_true, decide_false, Bool.false_eq_true, exists_and_left, Bool.not_eq_true', decide_eq_true_eq, decide_eq_false_iff_not, rLenK, tLenSetT, List.append_nil, and_assoc, or_false, false_or, exists_false, false_and, and_false, rGetL, rSetL, gSub, tAugS, ipI, tPart, tNoPart, not_true, not_false_iff, ite_true, ite_false, List.map_cons, List.map_nil, sp_in_order]
  refine ⟨_, rfl, a, [v1, .ref b], 1, _, rfl, rfl, .of ha, rfl, b, rfl, ⟨_, .of hb⟩, fun D hD => lc_rel walk_tup hD ?_ (RlM (fun c => dS (k2.filter fun k => decide (k ∈ c))) cs) .zero (fun H sm => .of (sm _ _ hb)) ?_ ?_⟩
  · rw [hys.len]
    exact Nat.lt_of_le_of_lt hc (by decide)
  · rintro i ds x H2 H3 Qe Qs hi sm rl ⟨rfl, hx1⟩ ke _
    obtain ⟨c, hc, tc⟩ := hys.nth hx1
    refine ⟨rfl, ?_⟩
    simp only [tBM, SlX.tMethSl, tSeq, tIfS, tOr, tAnd, tNot, tB, tCB, tCons, tNil, tVar, tC, tTest, tChain, tRet, tRetN, tNext, tOp, tAndV, tOrV, tNotV, tIf, tThen, tYes, tTup, tLst, tCall, tAsg, tDrop, tDNewK, gName, gTup, gCons, gNil, rI0, rI, CMul, CDiv, tUn, rU, rEq, rNe, scal, LenV, RetB, RetD, List.set_cons_zero, List.set_cons_succ, List.getElem?_cons_zero, List.getElem?_cons_succ, Option.some.injEq, exists_eq_left', exists_eq_left, List.cons.injEq, and_true, true_and, V.int.injEq, V.str.injEq, V.bl.injEq, V.ref.injEq, if_true, if_false, Bool.not_true, Bool.not_false, reduceCtorEq, decide_true, decide_false, Bool.false_eq_true, exists_and_left, Bool.not_eq_true', decide_eq_true_eq, decide_eq_false_iff_not, rLenK, tLenSetT, List.append_nil, and_assoc, or_false, false_or, exists_false, false_and, and_false, rGetL, rSetL, gSub, tAugS, ipI, tPart, tNoPart, not_true, not_false_iff, ite_true, ite_false, List.map_cons, List.map_nil, sp_in_order, wipe]
    exact ⟨k2, hy.same sm, c, tc.same sm, hk, fun v H4 s4 t => ke v _ _ s4 t (rl.put hc)⟩
  · intro H2 acc ds s2 e r rl hl
    have hds := rl.all (by rw [hys.len] <;> exact Nat.le_refl _)
    subst hds
    rw [show cs.map (fun c => dS (k2.filter fun k => decide (k ∈ c))) = (cs.map fun c => k2.filter fun k => decide (k ∈ c)).map dS by rw [List.map_map]; rfl] at r
    refine sorted_of (.inl (.of e)) r (al_dCs _) (so_dCs fun c hc => ?_) dp_dCs fun p ys2 H3 hp s3 e3 r3 => ?_
    · obtain ⟨c', hc', rfl⟩ := List.mem_map.mp hc
      exact hne c' hc'
    · rw [sortD_G] at r3
      refine tuple_of e3 r3 fun v H4 s4 t4 => ⟨by show 2 ≤ _; decide, fun p4 hp4 => ?_⟩
      have s := (s2.trans s3).trans s4
      exact q _ _ (sm_then s hp4) (ret_pair hp4 (hy.same s) t4)
/-- a dict of texts: what it gives at the keys ks -/
def SDict (H : Hp) (v : V) (ks : List Str) (f : Str → Str) : Prop := ∃ D kvs, v = .ref D ∧ Rd H D (.dK kvs) ∧ ∀ k ∈ ks, valV kvs (.inr k) = some (.str (f k))
theorem Rd.same {H H' : Hp} {a : Addr} {u : HO} (h : Rd H a u) (s : Same H H') : Rd H' a u := by
  rcases h with h | ⟨o, h⟩
  · exact .inl (s _ _ h)
  · exact .inr ⟨o, s _ _ h⟩
theorem SDict.get {H : Hp} {v : V} {ks : List Str} {f : Str → Str} (h : SDict H v ks f) {k : Str} (hk : k ∈ ks) : ∃ D, v = .ref D ∧ DGet H D (.str k) (some (.str (f k))) := by
  obtain ⟨D, kvs, rfl, e, g⟩ := h
  exact ⟨D, rfl, .inl ⟨kvs, .inr k, e, rfl, (g k hk).symm⟩⟩
theorem SDict.same {H H' : Hp} {v : V} {ks : List Str} {f : Str → Str} (h : SDict H v ks f) (s : Same H H') : SDict H' v ks f := by
  obtain ⟨D, kvs, rfl, e, g⟩ := h
  exact ⟨D, kvs, rfl, Rd.same e s, g⟩
theorem SDict.sub {H : Hp} {v : V} {ks ks' : List Str} {f : Str → Str} (h : SDict H v ks f) (s : ∀ k ∈ ks', k ∈ ks) : SDict H v ks' f := by
  obtain ⟨D, kvs, rfl, e, g⟩ := h
  exact ⟨D, kvs, rfl, e, fun k hk => g k (s k hk)⟩
def sp_renamed_house (K : PySem.W.Frag) : Sp := fun vs H Q E => ∃ x y, vs = [x, y] ∧ ∃ ks cs f, Tp H x (dH ks cs) ∧ SDict H y ks f ∧ ks.length ≤ 1000 ∧ cs.length ≤ 1000 ∧ (∀ c ∈ cs, c ≠ [] ∧ c.length ≤ 1000 ∧ ∀ k ∈ c, k ∈ ks) ∧
  RetD (dH (ks.map f) (sortS (cs.map fun c => c.map f))) H Q
theorem sc_renamed_house : FnScope ["house", "names", "calls", "call", "kind"] ["house", "names"] (defScope s_renamed_house) := ⟨rfl, rfl, rfl, by decide +kernel, rfl, by decide +kernel, by decide +kernel⟩
theorem c_renamed_house (T : Txt K mg) : C8.Cal P w K mg base 1 "renamed_house" (sp_renamed_house K) [] := by
  refine T.cal 10 10 rfl rfl sc_renamed_house
    (fun _ _ _ _ _ _ us h => match us, h with | [_, _], _ => rfl)
    (fun vs H Q E h => by obtain ⟨_, _, rfl, _⟩ := h; rfl) (fun f cdv A outer s H vs Q E hr h => ?_)
  have nd := sc_renamed_house.nd
  refine ⟨_, (pss_cons (ps_setLc (i := 2) rfl nd rfl rfl rfl (k_piT K (pi_tup (pe_ix (k_ixT K) (pv 0) pe_int (fun _ _ => rfl)))) (blkOk_by (own := [("call", 3)]) (by rfl)) (fun _ _ _ _ _ => (pg_name (i := 3) nd rfl (by first | exact .inl rfl | exact .inr rfl))) (fun _ _ _ _ _ => pts_nil) (fun _ _ _ _ _ => (pe_callTy (k_tuple K) (by rfl) (T.free 55) rfl (pa_cons (pe_lc rfl nd (k_piT K (pi_tup (pv 3))) (blkOk_by (own := [("kind", 4)]) (by rfl)) (fun _ _ _ _ _ => (pg_name (i := 4) nd rfl (by first | exact .inl rfl | exact .inr rfl))) (fun _ _ _ _ _ => pts_nil) (fun _ _ _ _ _ => (pe_dget (hu_of hr) (pv 1) (pv 4) (fun _ _ => rfl)))) pa_nil))))
     (pss_one (ps_ret (pe_tup (pa_cons (pe_callTy (k_tuple K) (by rfl) (T.free 55) rfl (pa_cons (pe_lc rfl nd (k_piT K (pi_tup (pe_ix (k_ixT K) (pv 0) pe_int (fun _ _ => rfl)))) (blkOk_by (own := [("kind", 4)]) (by rfl)) (fun _ _ _ _ _ => (pg_name (i := 4) nd rfl (by first | exact .inl rfl | exact .inr rfl))) (fun _ _ _ _ _ => pts_nil) (fun _ _ _ _ _ => (pe_dget (hu_of hr) (pv 1) (pv 4) (fun _ _ => rfl)))) pa_nil)) (pa_cons (pe_callTy (k_tuple K) (by rfl) (T.free 55) rfl (pa_cons (pe_callB (k_sortedD K hr) (by rfl) (T.free 58) rfl (pa_cons (pv 2) pa_nil)) pa_nil)) pa_nil)))))), ?_⟩
  obtain ⟨v0, v1, rfl, h⟩ := h
  rw [show L2.start ["house", "names", "calls", "call", "kind"] [v0, v1] = [some v0, some v1, none, none, none] from rfl]
  obtain ⟨ks, cs, f, hx, hy, hk, hc, hcs, q⟩ := h
  obtain ⟨a, v1, v2, rfl, ha, h1, h2⟩ := hx.two
  obtain ⟨b, ys, rfl, hb, hys⟩ := h2.tup_at
  obtain ⟨b1, rfl, hb1⟩ := h1.strs_at
  simp only [tBM, SlX.tMethSl, tSeq, tIfS, tOr, tAnd, tNot, tB, tCB, tCons, tNil, tVar, tC, tTest, tChain, tRet, tRetN, tNext, tOp, tAndV, tOrV, tNotV, tIf, tThen, tYes, tTup, tLst, tCall, tAsg, tDrop, tDNewK, gName, gTup, gCons, gNil, rI0, rI, CMul, CDiv, tUn, rU, rEq, rNe, scal, LenV, RetB, RetD, List.set_cons_zero, List.set_cons_succ, List.getElem?_cons_zero, List.getElem?_cons_succ, Option.some.injEq, exists_eq_left', exists_eq_left, List.cons.injEq, and_true, true_and, V.int.injEq, V.str.injEq, V.bl.injEq, V.ref.injEq, if_true, if_false, Bool.not_true, Bool.not_false, reduceCtorEq, decide_true, decide_false, Bool.false_eq_true, exists_and_left, Bool.not_eq_true', decide_eq_true_eq, decide_eq_false_iff_not, rLenK, tLenSetT, List.append_nil, and_assoc, or_false, false_or, exists_false, false_and, and_false, rGetL, rSetL, gSub, tAugS, ipI, tPart, tNoPart, not_true, not_false_iff, ite_true, ite_false, List.map_cons, List.map_nil]
  refine ⟨_, rfl, a, [.ref b1, .ref b], 1, _, rfl, rfl, .of ha, rfl, b, rfl, ⟨_, .of hb⟩, fun D hD => lc_rel walk_tup hD ?_ (RlM (fun c => dS (c.map f)) cs) .zero (fun H sm => .of (sm _ _ hb)) ?_ ?_⟩
  · rw [hys.len]
    exact Nat.lt_of_le_of_lt hc (by decide)
  · rintro i ds x H2 H3 Qe Qs hi sm rl ⟨rfl, hx1⟩ ke _
    obtain ⟨c, hc, tc⟩ := hys.nth hx1
    have gc := hcs c (List.mem_of_getElem? hc)
    obtain ⟨b2, rfl, hb2⟩ := (tc.same sm).strs_at
    refine ⟨rfl, ?_⟩
    simp only [tBM, SlX.tMethSl, tSeq, tIfS, tOr, tAnd, tNot, tB, tCB, tCons, tNil, tVar, tC, tTest, tChain, tRet, tRetN, tNext, tOp, tAndV, tOrV, tNotV, tIf, tThen, tYes, tTup, tLst, tCall, tAsg, tDrop, tDNewK, gName, gTup, gCons, gNil, rI0, rI, CMul, CDiv, tUn, rU, rEq, rNe, scal, LenV, RetB, RetD, List.set_cons_zero, List.set_cons_succ, List.getElem?_cons_zero, List.getElem?_cons_succ, Option.some.injEq, exists_eq_left', exists_eq_left, List.cons.injEq, and_true, true_and, V.int.injEq, V.str.injEq, V.bl.injEq, V.ref.injEq, if_true, if_false, Bool.not_true, Bool.not_false, reduceCtorEq, decide_true, decide_false, Bool.false_eq_true, exists_and_left, Bool.not_eq_true', decide_eq_true_eq, decide_eq_false_iff_not, rLenK, tLenSetT, List.append_nil, and_assoc, or_false, false_or, exists_false, false_and, and_false, rGetL, rSetL, gSub, tAugS, ipI, tPart, tNoPart, not_true, not_false_iff, ite_true, ite_false, List.map_cons, List.map_nil, wipe]
    refine ⟨_, rfl, b2, rfl, ⟨_, .of hb2⟩, fun D2 hD2 => lc_rel walk_tup hD2 ?_ (RlM (fun k => .str (f k)) c) .zero (fun H s2 => .of (s2 _ _ hb2)) ?_ ?_⟩
    · rw [List.length_map]
      exact Nat.lt_of_le_of_lt gc.2.1 (by decide)
    · rintro i2 ds2 x H4 H5 Qe2 Qs2 hi2 sm2 rl2 ⟨rfl, hx2⟩ ke2 _
      obtain ⟨z, hz, rfl⟩ := List.getElem?_map.symm.trans hx2 |> Option.map_eq_some_iff.mp
      obtain ⟨Dn, rfl, gn⟩ := ((hy.same sm).same sm2).get (gc.2.2 z (List.mem_of_getElem? hz))
      refine ⟨rfl, ?_⟩
      simp only [tBM, SlX.tMethSl, tSeq, tIfS, tOr, tAnd, tNot, tB, tCB, tCons, tNil, tVar, tC, tTest, tChain, tRet, tRetN, tNext, tOp, tAndV, tOrV, tNotV, tIf, tThen, tYes, tTup, tLst, tCall, tAsg, tDrop, tDNewK, gName, gTup, gCons, gNil, rI0, rI, CMul, CDiv, tUn, rU, rEq, rNe, scal, LenV, RetB, RetD, List.set_cons_zero, List.set_cons_succ, List.getElem?_cons_zero, List.getElem?_cons_succ, Option.some.injEq, exists_eq_left', exists_eq_left, List.cons.injEq, and_true, true_and, V.int.injEq, V.str.injEq, V.bl.injEq, V.ref.injEq, if_true, if_false, Bool.not_true, Bool.not_false, reduceCtorEq, decide_true, decide_false, Bool.false_eq_true, exists_and_left, Bool.not_eq_true', decide_eq_true_eq, decide_eq_false_iff_not, rLenK, tLenSetT, List.append_nil, and_assoc, or_false, false_or, exists_false, false_and, and_false, rGetL, rSetL, gSub, tAugS, ipI, tPart, tNoPart, not_true, not_false_iff, ite_true, ite_false, List.map_cons, List.map_nil, wipe]
      exact ⟨_, rfl, _, rfl, Dn, _, rfl, gn, ke2 _ _ _ (.refl _) (.str _) (rl2.put hz)⟩
    · intro H4 acc2 ds2 s4 e4 r4 rl4 _
      have hds := rl4.all (by rw [List.length_map] <;> exact Nat.le_refl _)
      subst hds
      rw [show c.map (fun k => PyData.str (f k)) = (c.map f).map .str by rw [List.map_map]; rfl] at r4
      exact tuple_of e4 r4 fun v H5 s5 t5 => ke v _ _ (s4.trans s5) t5 (rl.put hc)
  · intro H2 acc ds s2 e r rl hl
    have hds := rl.all (by rw [hys.len] <;> exact Nat.le_refl _)
    subst hds
    rw [show cs.map (fun c => dS (c.map f)) = (cs.map fun c => c.map f).map dS by rw [List.map_map]; rfl] at r
    simp only [tBM, SlX.tMethSl, tSeq, tIfS, tOr, tAnd, tNot, tB, tCB, tCons, tNil, tVar, tC, tTest, tChain, tRet, tRetN, tNext, tOp, tAndV, tOrV, tNotV, tIf, tThen, tYes, tTup, tLst, tCall, tAsg, tDrop, tDNewK, gName, gTup, gCons, gNil, rI0, rI, CMul, CDiv, tUn, rU, rEq, rNe, scal, LenV, RetB, RetD, List.set_cons_zero, List.set_cons_succ, List.getElem?_cons_zero, List.getElem?_cons_succ, Option.some.injEq, exists_eq_left', exists_eq_left, List.cons.injEq, and_true, true_and, V.int.injEq, V.str.injEq, V.bl.injEq, V.ref.injEq, if_true, if_false, Bool.not_true, Bool.not_false, reduceCtorEq, decide_true, decide_false, Bool.false_eq_true, exists_and_left, Bool.not_eq_true', decide_eq_true_eq, decide_eq_false_iff_not, rLenK, tLenSetT, List.append_nil, and_assoc, or_false, false_or, exists_false, false_and, and_false, rGetL, rSetL, gSub, tAugS, ipI, tPart, tNoPart, not_true, not_false_iff, ite_true, ite_false, List.map_cons, List.map_nil]
    refine ⟨_, rfl, a, [.ref b1, .ref b], 0, _, rfl, rfl, .of (s2 _ _ ha), rfl, b1, rfl, ⟨_, .of (s2 _ _ hb1)⟩, fun D2 hD2 => lc_rel walk_tup hD2 ?_ (RlM (fun k => .str (f k)) ks) .zero (fun H sm => .of (sm _ _ (s2 _ _ hb1))) ?_ ?_⟩
    · rw [List.length_map]
      exact Nat.lt_of_le_of_lt hk (by decide)
    · rintro i2 ds2 x H4 H5 Qe2 Qs2 hi2 sm2 rl2 ⟨rfl, hx2⟩ ke2 _
      obtain ⟨z, hz, rfl⟩ := List.getElem?_map.symm.trans hx2 |> Option.map_eq_some_iff.mp
      obtain ⟨Dn, rfl, gn⟩ := ((hy.same s2).same sm2).get (List.mem_of_getElem? hz)
      refine ⟨rfl, ?_⟩
      simp only [tBM, SlX.tMethSl, tSeq, tIfS, tOr, tAnd, tNot, tB, tCB, tCons, tNil, tVar, tC, tTest, tChain, tRet, tRetN, tNext, tOp, tAndV, tOrV, tNotV, tIf, tThen, tYes, tTup, tLst, tCall, tAsg, tDrop, tDNewK, gName, gTup, gCons, gNil, rI0, rI, CMul, CDiv, tUn, rU, rEq, rNe, scal, LenV, RetB, RetD, List.set_cons_zero, List.set_cons_succ, List.getElem?_cons_zero, List.getElem?_cons_succ, Option.some.injEq, exists_eq_left', exists_eq_left, List.cons.injEq, and_true, true_and, V.int.injEq, V.str.injEq, V.bl.injEq, V.ref.injEq, if_true, if_false, Bool.not_true, Bool.not_false, reduceCtorEq, decide_true, decide_false, Bool.false_eq_true, exists_and_left, Bool.not_eq_true', decide_eq_true_eq, decide_eq_false_iff_not, rLenK, tLenSetT, List.append_nil, and_assoc, or_false, false_or, exists_false, false_and, and_false, rGetL, rSetL, gSub, tAugS, ipI, tPart, tNoPart, not_true, not_false_iff, ite_true, ite_false, List.map_cons, List.map_nil, wipe]
      exact ⟨_, rfl, _, rfl, Dn, _, rfl, gn, ke2 _ _ _ (.refl _) (.str _) (rl2.put hz)⟩
    · intro H3 acc3 ds3 s3 e3 r3 rl3 _
      have hds := rl3.all (by rw [List.length_map] <;> exact Nat.le_refl _)
      subst hds
      rw [show ks.map (fun k => PyData.str (f k)) = (ks.map f).map .str by rw [List.map_map]; rfl] at r3
      refine tuple_of e3 r3 fun v H4 s4 t4 => ?_
      have s24 := s3.trans s4
      refine sorted_of (.inl (.of (s24 _ _ e))) (TpAll.same s24 r) (al_dCs _) (so_dCs fun c hc => ?_) dp_dCs fun p ys2 H5 hp s5 e5 r5 => ?_
      · obtain ⟨c', hc', rfl⟩ := List.mem_map.mp hc
        intro e0
        exact (hcs c' hc').1 (List.map_eq_nil_iff.mp e0)
      · rw [sortD_G] at r5
        refine tuple_of e5 r5 fun v2 H6 s6 t6 => ⟨by show 2 ≤ _; decide, fun p4 hp4 => ?_⟩
        exact q _ _ (sm_then (((s2.trans s24).trans s5).trans s6) hp4) (ret_pair hp4 ((t4.same s5).same s6) t6)
def sp_part_of (K : PySem.W.Frag) : Sp := fun vs H Q E => ∃ x y, vs = [x, y] ∧ ∃ ks cs c2, Tp H x (dH ks cs) ∧ Tp H y (dCs c2) ∧ ks.length ≤ 1000 ∧ c2.length ≤ 1000 ∧ RetD (dH (ks.filter fun k => c2.any fun c => decide (k ∈ c)) c2) H Q
theorem sc_part_of : FnScope ["house", "calls", "kinds", "kind", "call"] ["house", "calls"] (defScope s_part_of) := ⟨rfl, rfl, rfl, by decide +kernel, rfl, by decide +kernel, by decide +kernel⟩
theorem c_part_of (T : Txt K mg) : C8.Cal P w K mg base 1 "part_of" (sp_part_of K) [] := by
  refine T.cal 11 11 rfl rfl sc_part_of
    (fun _ _ _ _ _ _ us h => match us, h with | [_, _], _ => rfl)
    (fun vs H Q E h => by obtain ⟨_, _, rfl, _⟩ := h; rfl) (fun f cdv A outer s H vs Q E hr h => ?_)
  have nd := sc_part_of.nd
  refine ⟨_, (pss_cons (ps_setLc (i := 2) rfl nd rfl rfl rfl (k_piT K (pi_tup (pe_ix (k_ixT K) (pv 0) pe_int (fun _ _ => rfl)))) (blkOk_by (own := [("kind", 3)]) (by rfl)) (fun _ _ _ _ _ => (pg_name (i := 3) nd rfl (by first | exact .inl rfl | exact .inr rfl))) (fun _ _ _ _ _ => (pts_one (pt_val (pe_callB (k_any K rfl) (by rfl) (T.free 57) rfl (pa_cons (pe_lc rfl nd (k_piT K (pi_tup (pv 1))) (blkOk_by (own := [("call", 4)]) (by rfl)) (fun _ _ _ _ _ => (pg_name (i := 4) nd rfl (by first | exact .inl rfl | exact .inr rfl))) (fun _ _ _ _ _ => pts_nil) (fun _ _ _ _ _ => (pe_cmpR (k_inA K (α := Str) hr (by decide)) (pv 3) (pv 4) rfl))) pa_nil))))) (fun _ _ _ _ _ => (pv 3)))
     (pss_one (ps_ret (pe_tup (pa_cons (pe_callTy (k_tuple K) (by rfl) (T.free 55) rfl (pa_cons (pv 2) pa_nil)) (pa_cons (pv 1) pa_nil)))))), ?_⟩
  obtain ⟨v0, v1, rfl, h⟩ := h
  rw [show L2.start ["house", "calls", "kinds", "kind", "call"] [v0, v1] = [some v0, some v1, none, none, none] from rfl]
  obtain ⟨ks, cs, c2, hx, hy, hk, hc, q⟩ := h
  obtain ⟨a, v1, v2, rfl, ha, h1, h2⟩ := hx.two
  obtain ⟨b, ys, rfl, hb, hys⟩ := hy.tup_at
  obtain ⟨b1, rfl, hb1⟩ := h1.strs_at
  simp only [tBM, SlX.tMethSl, tSeq, tIfS, tOr, tAnd, tNot, tB, tCB, tCons, tNil, tVar, tC, tTest, tChain, tRet, tRetN, tNext, tOp, tAndV, tOrV, tNotV, tIf, tThen, tYes, tTup, tLst, tCall, tAsg, tDrop, tDNewK, gName, gTup, gCons, gNil, rI0, rI, CMul, CDiv, tUn, rU, rEq, rNe, scal, LenV, RetB, RetD, List.set_cons_zero, List.set_cons_succ, List.getElem?_cons_zero, List.getElem?_cons_succ, Option.some.injEq, exists_eq_left', exists_eq_left, List.cons.injEq, and_true, true_and, V.int.injEq, V.str.injEq, V.bl.injEq, V.ref.injEq, if_true, if_false, Bool.not_true, Bool.not_false, reduceCtorEq, decide_true, decide_false, Bool.false_eq_true, exists_and_left, Bool.not_eq_true', decide_eq_true_eq, decide_eq_false_iff_not, rLenK, tLenSetT, List.append_nil, and_assoc, or_false, false_or, exists_false, false_and, and_false, rGetL, rSetL, gSub, tAugS, ipI, tPart, tNoPart, not_true, not_false_iff, ite_true, ite_false, List.map_cons, List.map_nil]
  refine ⟨_, rfl, a, [.ref b1, v2], 0, _, rfl, rfl, .of ha, rfl, b1, rfl, ⟨_, .of hb1⟩, fun D hD => lc_rel walk_tup hD ?_ (RlF (fun k => if (c2.any fun c => decide (k ∈ c)) = true then some (.str k) else none) ks) .zero (fun H sm => .of (sm _ _ hb1)) ?_ ?_⟩
  · rw [List.length_map]
    exact Nat.lt_of_le_of_lt hk (by decide)
  · rintro i ds x H2 H3 Qe Qs hi sm rl ⟨rfl, hx1⟩ ke ks'
    obtain ⟨z, hz, rfl⟩ := List.getElem?_map.symm.trans hx1 |> Option.map_eq_some_iff.mp
    refine ⟨rfl, ?_⟩
    simp only [tBM, SlX.tMethSl, tSeq, tIfS, tOr, tAnd, tNot, tB, tCB, tCons, tNil, tVar, tC, tTest, tChain, tRet, tRetN, tNext, tOp, tAndV, tOrV, tNotV, tIf, tThen, tYes, tTup, tLst, tCall, tAsg, tDrop, tDNewK, gName, gTup, gCons, gNil, rI0, rI, CMul, CDiv, tUn, rU, rEq, rNe, scal, LenV, RetB, RetD, List.set_cons_zero, List.set_cons_succ, List.getElem?_cons_zero, List.getElem?_cons_succ, Option.some.injEq, exists_eq_left', exists_eq_left, List.cons.injEq, and_true, true_and, V.int.injEq, V.str.injEq, V.bl.injEq, V.ref.injEq, if_true, if_false, Bool.not_true, Bool.not_false, reduceCtorEq, decide_true, decide_false, Bool.false_eq_true, exists_and_left, Bool.not_eq_true', decide_eq_true_eq, decide_eq_false_iff_not, rLenK, tLenSetT, List.append_nil, and_assoc, or_false, false_or, exists_false, false_and, and_false, rGetL, rSetL, gSub, tAugS, ipI, tPart, tNoPart, not_true, not_false_iff, ite_true, ite_false, List.map_cons, List.map_nil, wipe]
    refine ⟨_, rfl, b, rfl, ⟨_, .of (sm _ _ hb)⟩, fun D4 hD4 => lc_rel walk_tup hD4 ?_ (RlM (fun c => .bool (decide (z ∈ c))) c2) .zero (fun H s4 => .of (s4 _ _ (sm _ _ hb))) ?_ ?_⟩
    · rw [hys.len]
      exact Nat.lt_of_le_of_lt hc (by decide)
    · rintro i ds4 x H6 H7 Qe2 Qs2 hi sm6 rl4 ⟨rfl, hx1⟩ ke2 _
      obtain ⟨c, hc, tc⟩ := hys.nth hx1
      obtain ⟨bc, rfl, hbc⟩ := (tc.same (sm.trans sm6)).strs_at
      refine ⟨rfl, ?_⟩
      simp only [tBM, SlX.tMethSl, tSeq, tIfS, tOr, tAnd, tNot, tB, tCB, tCons, tNil, tVar, tC, tTest, tChain, tRet, tRetN, tNext, tOp, tAndV, tOrV, tNotV, tIf, tThen, tYes, tTup, tLst, tCall, tAsg, tDrop, tDNewK, gName, gTup, gCons, gNil, rI0, rI, CMul, CDiv, tUn, rU, rEq, rNe, scal, LenV, RetB, RetD, List.set_cons_zero, List.set_cons_succ, List.getElem?_cons_zero, List.getElem?_cons_succ, Option.some.injEq, exists_eq_left', exists_eq_left, List.cons.injEq, and_true, true_and, V.int.injEq, V.str.injEq, V.bl.injEq, V.ref.injEq, if_true, if_false, Bool.not_true, Bool.not_false, reduceCtorEq, decide_true, decide_false, Bool.false_eq_true, exists_and_left, Bool.not_eq_true', decide_eq_true_eq, decide_eq_false_iff_not, rLenK, tLenSetT, List.append_nil, and_assoc, or_false, false_or, exists_false, false_and, and_false, rGetL, rSetL, gSub, tAugS, ipI, tPart, tNoPart, not_true, not_false_iff, ite_true, ite_false, List.map_cons, List.map_nil, wipe]
      exact ⟨z, c, bc, _, .str z, rfl, .inr (.of hbc), TpAll.dp (TpAll.strs.mpr rfl), ke2 _ _ _ (.refl _) (.bl _) (rl4.put hc)⟩
    · intro H6 acc4 ds4 sm6 e4 r4 rl4 _
      have hds := rl4.all (by rw [hys.len] <;> exact Nat.le_refl _)
      subst hds
      rw [show c2.map (fun c => PyData.bool (decide (z ∈ c))) = (c2.map fun c => decide (z ∈ c)).map .bool by rw [List.map_map]; rfl] at r4
      refine any_is e4 r4 ⟨_, rfl, ?_⟩
      rw [show (c2.map fun c => decide (z ∈ c)).any id = c2.any fun c => decide (z ∈ c) by rw [List.any_map]; rfl]
      cases hA : c2.any fun c => decide (z ∈ c) with
      | true => exact ke _ _ _ sm6 (.str z) (rl.put hz (by simp only [hA, if_true]))
      | false => exact ks' _ sm6 (rl.skip hz (by simp [hA]))
  · intro H2 acc ds s2 e r rl hl
    have hds := rl.all (by rw [List.length_map] <;> exact Nat.le_refl _)
    rw [filter_ite] at hds
    subst hds
    simp only [tBM, SlX.tMethSl, tSeq, tIfS, tOr, tAnd, tNot, tB, tCB, tCons, tNil, tVar, tC, tTest, tChain, tRet, tRetN, tNext, tOp, tAndV, tOrV, tNotV, tIf, tThen, tYes, tTup, tLst, tCall, tAsg, tDrop, tDNewK, gName, gTup, gCons, gNil, rI0, rI, CMul, CDiv, tUn, rU, rEq, rNe, scal, LenV, RetB, RetD, List.set_cons_zero, List.set_cons_succ, List.getElem?_cons_zero, List.getElem?_cons_succ, Option.some.injEq, exists_eq_left', exists_eq_left, List.cons.injEq, and_true, true_and, V.int.injEq, V.str.injEq, V.bl.injEq, V.ref.injEq, if_true, if_false, Bool.not_true, Bool.not_false, reduceCtorEq, decide_true, decide_false, Bool.false_eq_true, exists_and_left, Bool.not_eq_true', decide_eq_true_eq, decide_eq_false_iff_not, rLenK, tLenSetT, List.append_nil, and_assoc, or_false, false_or, exists_false, false_and, and_false, rGetL, rSetL, gSub, tAugS, ipI, tPart, tNoPart, not_true, not_false_iff, ite_true, ite_false, List.map_cons, List.map_nil]
    refine tuple_of e r fun v H3 s3 t3 => ⟨by show 2 ≤ _; decide, fun p4 hp4 => ?_⟩
    have s := s2.trans s3
    rw [show (fun k => decide ((c2.any fun c => decide (k ∈ c)) = true)) = fun k => c2.any fun c => decide (k ∈ c) from funext fun k => by rw [Bool.decide_eq_true]] at t3
    exact q _ _ (sm_then s hp4) (ret_pair hp4 t3 (hy.same s))
end
end C9
/-! ## F5 -/
set_option maxHeartbeats 4000000
namespace C9
open PySem PySem.Spec PyProof.Rows L2 C8
def firstT (ths : List Th) (c : List Str) : Option Th := c.findSome? fun k => ths.find? fun t => decide (t.2 = k)
def optT : Option Th → PyData
  | none => .none
  | some t => dT t
section
variable {K : PySem.W.Frag} {mg : Str → Option Value} {P : Program} {w : World} {base : Heap}
def sp_Store_init (K : PySem.W.Frag) : Sp := fun vs H Q E => ∃ x y, vs = [x, y] ∧ ∃ H0 a dx ks cs, x = .ref a ∧ H = upd (upd H0 dx (.own a)) a (.ins (cS K) dx []) ∧ H0 a = none ∧ H0 dx = none ∧ dx ≠ a ∧ Tp H0 y (dH ks cs) ∧ GoodH ks cs ∧
  ∀ H', Sto K H0 H' a ks cs [] [] 0 → Q .non H'
theorem sc_Store_init : FnScope ["self", "house"] ["self", "house"] (defScope s_Store_init) := ⟨rfl, rfl, rfl, by decide +kernel, rfl, by decide +kernel, by decide +kernel⟩
theorem c_Store_init (T : Txt K mg) : C8.Mak P w K mg base 4 "Store" (cS K) (sp_Store_init K) [] := by
  refine T.mak 15 rfl sc_Store_init
    (fun _ _ _ _ _ _ us h => match us, h with | [_, _], _ => rfl)
    (fun vs H Q E h => by obtain ⟨_, _, rfl, _⟩ := h; rfl) (fun f cdv A outer s H vs Q E hr h => ?_)
  have nd := sc_Store_init.nd
  refine ⟨_, (pss_cons (ps_if (pt_not (pt_val (pe_c (c_is_house T) hr (by decide) (by rfl) (pa_cons (pv 1) pa_nil)))) (pss_one ps_never) pss_nil)
     (pss_one (ps_asg (pe_tup (pa_cons (pv 1) (pa_cons (pe_lst pa_nil) (pa_cons (pe_lst pa_nil) (pa_cons pe_dnewK pa_nil))))) (k_tup K (pg_tup (n := 4) rfl (pgs_cons (k_slot K (pg_slot (pv 0))) (pgs_cons (k_slot K (pg_slot (pv 0))) (pgs_cons (k_slot K (pg_slot (pv 0))) (pgs_cons (k_slot K (pg_slot (pv 0))) pgs_nil))))))))), ?_⟩
  obtain ⟨v0, v1, rfl, h⟩ := h
  rw [show L2.start ["self", "house"] [v0, v1] = [some v0, some v1] from rfl]
  obtain ⟨H0, a, dx, ks, cs, rfl, rfl, ha, hdx, ne, hy, g, q⟩ := h
  have s0 : Same H0 (upd (upd H0 dx (.own a)) a (.ins (cS K) dx [])) := (sm_new hdx).trans (sm_new (by rw [upd_ne ne.symm]; exact ha))
  simp only [tBM, SlX.tMethSl, tSeq, tIfS, tOr, tAnd, tNot, tB, tCB, tCons, tNil, tVar, tC, tTest, tChain, tRet, tRetN, tNext, tOp, tAndV, tOrV, tNotV, tIf, tThen, tYes, tTup, tLst, tCall, tAsg, tDrop, tDNewK, gName, gTup, gCons, gNil, rI0, rI, CMul, CDiv, tUn, rU, rEq, rNe, scal, LenV, RetB, RetD, List.set_cons_zero, List.set_cons_succ, List.getElem?_cons_zero, List.getElem?_cons_succ, Option.some.injEq, exists_eq_left', exists_eq_left, List.cons.injEq, and_true, true_and, V.int.injEq, V.str.injEq, V.bl.injEq, V.ref.injEq, if_true, if_false, Bool.not_true, Bool.not_false, reduceCtorEq, decide_true, decide_false, Bool.false_eq_true, exists_and_left, Bool.not_eq_true', decide_eq_true_eq, decide_eq_false_iff_not, rLenK, tLenSetT, List.append_nil, and_assoc, or_false, false_or, exists_false, false_and, and_false, rGetL, rSetL, gSub, tAugS, ipI, tPart, tNoPart, not_true, not_false_iff, ite_true, ite_false, List.map_cons, List.map_nil, sp_is_house]
  refine ⟨ks, cs, hy.same s0, g, fun H1 s1 => ⟨Nat.zero_le _, fun r hr => ⟨Nat.zero_le _, fun t ht n hn => ⟨by show 4 ≤ _; decide, fun p hp => ?_⟩⟩⟩⟩
  have r_t : r ≠ t := ne_of_none upd_same ht
  have r_n : r ≠ n := ne_of_none (by rw [upd_ne r_t]; exact upd_same) hn
  have t_n : t ≠ n := ne_of_none upd_same hn
  have s2 : Same H1 (upd (upd (upd (upd H1 r (.lst [])) t (.lst [])) n (.dK [])) p (.tup [v1, .ref r, .ref t, .ref n])) := (((sm_new hr).trans (sm_new ht)).trans (sm_new hn)).trans (sm_new hp)
  have e_p : upd (upd (upd (upd H1 r (.lst [])) t (.lst [])) n (.dK [])) p (.tup [v1, .ref r, .ref t, .ref n]) p = some (.tup [v1, .ref r, .ref t, .ref n]) := upd_same
  have e_n : upd (upd (upd (upd H1 r (.lst [])) t (.lst [])) n (.dK [])) p (.tup [v1, .ref r, .ref t, .ref n]) n = some (.dK []) := (sm_new hp) _ _ upd_same
  have e_t : upd (upd (upd (upd H1 r (.lst [])) t (.lst [])) n (.dK [])) p (.tup [v1, .ref r, .ref t, .ref n]) t = some (.lst []) := ((sm_new hn).trans (sm_new hp)) _ _ upd_same
  have e_r : upd (upd (upd (upd H1 r (.lst [])) t (.lst [])) n (.dK [])) p (.tup [v1, .ref r, .ref t, .ref n]) r = some (.lst []) := (((sm_new ht).trans (sm_new hn)).trans (sm_new hp)) _ _ upd_same
  generalize upd (upd (upd (upd H1 r (.lst [])) t (.lst [])) n (.dK [])) p (.tup [v1, .ref r, .ref t, .ref n]) = H2 at s2 e_p e_n e_t e_r
  have e_a : H2 a = some (.ins (cS K) dx []) := s2 _ _ (s1 _ _ upd_same)
  have e_x : H2 dx = some (.own a) := s2 _ _ (s1 _ _ (by rw [upd_ne ne]; exact upd_same))
  obtain ⟨p0, h0⟩ := T.sl0
  obtain ⟨p1, h1⟩ := T.sl1
  obtain ⟨p2, h2⟩ := T.sl2
  obtain ⟨p3, h3⟩ := T.sl3
  refine ⟨_, .of e_p, rfl, _, _, rfl, _, rfl, a, _, dx, p0, [], 0, rfl, .inl ⟨e_a, rfl⟩, T.scls, h0, _, _, rfl, _, rfl, a, _, dx, p2, _, 2, rfl, SlX.slH_slt ne, T.scls, h2, _, _, rfl, _, rfl, a, _, dx, p3, _, 3, rfl, SlX.slH_slt ne, T.scls, h3, _, _, rfl, _, rfl, a, _, dx, p1, _, 1, rfl, SlX.slH_slt ne, T.scls, h1, rfl, ?_⟩
  rw [SlX.slH_twice ne, SlX.slH_twice ne, SlX.slH_twice ne]
  have s3 := (s0.trans s1).trans s2
  have fr : ∀ {b : Addr}, H1 b = none → H0 b = none := fun h => (s0.trans s1).free h
  have fn : H0 n = none := fr (((sm_new hr).trans (sm_new ht)).free hn)
  have ft : H0 t = none := fr ((sm_new hr).free ht)
  have na : ∀ {b : Addr} {o : HO}, H2 b = some o → (∀ C d, o ≠ .ins C d []) → (∀ x, o ≠ .own x) → b ≠ a ∧ b ≠ dx := fun e q1 q2 => ⟨ne_of e e_a (q1 _ _), ne_of e e_x (q2 _)⟩
  have an := na e_n (fun _ _ e => by cases e) (fun _ e => by cases e)
  have at_ := na e_t (fun _ _ e => by cases e) (fun _ e => by cases e)
  have ar := na e_r (fun _ _ e => by cases e) (fun _ e => by cases e)
  refine q _ ⟨dx, n, r, t, v1, [], [], ⟨upd_same, ?_, ?_, ?_, ?_, ?_, .nil, r_t⟩, ?_, ⟨ha, hdx, fn, fr hr, ft⟩, Nat.le_refl _⟩
  · show upd (upd H2 dx (.xd [])) a _ dx = _
    rw [upd_ne ne, upd_same]
  · refine hy.keep fun b zs e => ?_
    have e2 := s3 _ _ e
    rw [SlX.slH_ne (ne_of_none e ha) (ne_of_none e hdx)]
    exact e2
  · rw [SlX.slH_ne an.1 an.2]; exact e_n
  · rw [SlX.slH_ne ar.1 ar.2]; exact e_r
  · rw [SlX.slH_ne at_.1 at_.2]; exact e_t
  · intro b o e
    rw [SlX.slH_ne (ne_of_none e ha) (ne_of_none e hdx)]
    exact s3 _ _ e
def sp_Store_put (K : PySem.W.Frag) : Sp := fun vs H Q E => ∃ x y z, vs = [x, y, z] ∧ ∃ H0 a ks cs nms ths cnt nm k, x = .ref a ∧ y = .str nm ∧ z = .str k ∧ Sto K H0 H a ks cs nms ths cnt ∧ okN nm = true ∧ k ∈ ks ∧ nm ∉ nms ∧ nms.length ≤ 1000 ∧ ths.length ≤ 1000 ∧ cnt ≤ 1000 ∧
  ∀ H', Sto K H0 H' a ks cs (nms ++ [nm]) (ths ++ [(nm, k)]) (cnt + 1) → Q .non H'
theorem sc_Store_put : FnScope ["self", "name", "kind"] ["self", "name", "kind"] (defScope s_Store_put) := ⟨rfl, rfl, rfl, by decide +kernel, rfl, by decide +kernel, by decide +kernel⟩
theorem c_Store_put (T : Txt K mg) : MetS P w K mg base 2 "put" (sp_Store_put K) := by
  refine T.met 16 74 rfl rfl sc_Store_put
    (fun _ _ _ _ _ _ us h => match us, h with | [_, _, _], _ => rfl)
    (fun vs H Q E h => by obtain ⟨_, _, _, rfl, _⟩ := h; rfl) (fun f cdv A outer s H vs Q E hr h => ?_)
  have nd := sc_Store_put.nd
  refine ⟨_, (pss_cons (ps_if (pt_not (pt_val (pe_c (c_is_name T) hr (by decide) (by rfl) (pa_cons (pv 1) pa_nil)))) (pss_one ps_never) pss_nil)
     (pss_cons (ps_if (pt_not (pt_val (pe_c (c_is_kind T) hr (by decide) (by rfl) (pa_cons (k_sl K (SlX.pe_sl (pv 0))) (pa_cons (pv 2) pa_nil))))) (pss_one ps_never) pss_nil)
     (pss_cons (ps_if (pt_cmp (pc_din (hu_of hr) (pv 1) (k_sl K (SlX.pe_sl (pv 0))))) (pss_one ps_never) pss_nil)
     (pss_cons (ps_dput (hu_of hr) (k_sl K (SlX.pe_sl (pv 0))) (pv 1) pe_bl rfl)
     (pss_cons (ps_expr (k_bm K (pe_bm PySem.F.plainAttrs_list PySem.F.slot_list_append PySem.F.type_list_append mt_append (k_sl K (SlX.pe_sl (pv 0))) (pa_cons (pe_tup (pa_cons (pv 1) (pa_cons (pv 2) pa_nil))) pa_nil))))
     (pss_one (ps_expr (k_bm K (pe_bm PySem.F.plainAttrs_list PySem.F.slot_list_append PySem.F.type_list_append mt_append (k_sl K (SlX.pe_sl (pv 0))) (pa_cons (pe_tup (pa_cons pe_str (pa_cons (pv 1) (pa_cons (pv 2) pa_nil)))) pa_nil)))))))))), ?_⟩
  obtain ⟨v0, v1, v2, rfl, h⟩ := h
  rw [show L2.start ["self", "name", "kind"] [v0, v1, v2] = [some v0, some v1, some v2] from rfl]
  obtain ⟨H0, a, ks, cs, nms, ths, cnt, nm, k, rfl, rfl, rfl, ⟨dx, n, r, t, hv, xs, ys, S, s0, ⟨f1, f2, f3, f4, f5⟩, hc⟩, ok, hk, hn, l1, l2, l3, q⟩ := h
  simp only [tBM, SlX.tMethSl, tSeq, tIfS, tOr, tAnd, tNot, tB, tCB, tCons, tNil, tVar, tC, tTest, tChain, tRet, tRetN, tNext, tOp, tAndV, tOrV, tNotV, tIf, tThen, tYes, tTup, tLst, tCall, tAsg, tDrop, tDNewK, gName, gTup, gCons, gNil, rI0, rI, CMul, CDiv, tUn, rU, rEq, rNe, scal, LenV, RetB, RetD, List.set_cons_zero, List.set_cons_succ, List.getElem?_cons_zero, List.getElem?_cons_succ, Option.some.injEq, exists_eq_left', exists_eq_left, List.cons.injEq, and_true, true_and, V.int.injEq, V.str.injEq, V.bl.injEq, V.ref.injEq, if_true, if_false, Bool.not_true, Bool.not_false, reduceCtorEq, decide_true, decide_false, Bool.false_eq_true, exists_and_left, Bool.not_eq_true', decide_eq_true_eq, decide_eq_false_iff_not, rLenK, tLenSetT, List.append_nil, and_assoc, or_false, false_or, exists_false, false_and, and_false, rGetL, rSetL, gSub, tAugS, ipI, tPart, tNoPart, not_true, not_false_iff, ite_true, ite_false, List.map_cons, List.map_nil, sp_is_kind, sp_is_name]
  refine ⟨ok, fun H1 s1 => ?_⟩
  have S1 := S.same s1
  refine S1.house T rfl ⟨ks, cs, S1.hs, hk, ?_⟩
  have lt1 : ∀ {m : Nat}, m ≤ 1000 → m < sizeLine := fun h => Nat.lt_of_le_of_lt h (by decide)
  refine ⟨_, rfl, ?_⟩
  show SlX.tSl _ _ _ _ _ _
  refine S1.names T rfl ⟨n, none, rfl, .inl ⟨_, .inr nm, .inl S1.nm, rfl, (dV_none hn).symm⟩, _, rfl, iteF ?_⟩
  show SlX.tSl _ _ _ _ _ _
  refine S1.names T rfl ⟨_, rfl, n, _, rfl, DPut.k (k := .inr nm) S1.nm (by rw [dV_length]; exact lt1 l1), ?_⟩
  rw [show putK (nmD nms) (.inr nm) (.bl true) = nmD (nms ++ [nm]) from dV_new hn]
  have S2 := S1.put (nms ++ [nm])
  have s2 : Same H0 (upd H1 n (.dK (nmD (nms ++ [nm])))) := sm_upd (s0.trans s1) f3
  simp only [tBM, SlX.tMethSl, tSeq, tIfS, tOr, tAnd, tNot, tB, tCB, tCons, tNil, tVar, tC, tTest, tChain, tRet, tRetN, tNext, tOp, tAndV, tOrV, tNotV, tIf, tThen, tYes, tTup, tLst, tCall, tAsg, tDrop, tDNewK, gName, gTup, gCons, gNil, rI0, rI, CMul, CDiv, tUn, rU, rEq, rNe, scal, LenV, RetB, RetD, List.set_cons_zero, List.set_cons_succ, List.getElem?_cons_zero, List.getElem?_cons_succ, Option.some.injEq, exists_eq_left', exists_eq_left, List.cons.injEq, and_true, true_and, V.int.injEq, V.str.injEq, V.bl.injEq, V.ref.injEq, if_true, if_false, Bool.not_true, Bool.not_false, reduceCtorEq, decide_true, decide_false, Bool.false_eq_true, exists_and_left, Bool.not_eq_true', decide_eq_true_eq, decide_eq_false_iff_not, rLenK, tLenSetT, List.append_nil, and_assoc, or_false, false_or, exists_false, false_and, and_false, rGetL, rSetL, gSub, tAugS, ipI, tPart, tNoPart, not_true, not_false_iff, ite_true, ite_false, List.map_cons, List.map_nil, sp_is_kind, sp_is_name]
  refine S2.thingsA T rfl ⟨.inl ⟨rfl, xs, .of S2.th⟩, ?_⟩
  refine ⟨by show 2 ≤ _; decide, fun p hp => ⟨t, xs, .ref p, rfl, rfl, (S2.same (sm_new hp)).th, lt1 (by rw [S.ta.len]; exact l2), ?_⟩⟩
  have S3 := (S2.same (sm_new (o := .tup [.str nm, .str k]) hp)).things (xs ++ [.ref p]) (ths ++ [(nm, k)]) (by
    rw [List.map_append]
    exact (TpAll.same (sm_new hp) S2.ta).snoc (ret_pair hp (.str nm) (.str k)))
  have s3 : Same H0 (upd (upd (upd H1 n (.dK (nmD (nms ++ [nm])))) p (.tup [.str nm, .str k])) t (.lst (xs ++ [.ref p]))) := sm_upd (s2.trans (sm_new hp)) f5
  simp only [tBM, SlX.tMethSl, tSeq, tIfS, tOr, tAnd, tNot, tB, tCB, tCons, tNil, tVar, tC, tTest, tChain, tRet, tRetN, tNext, tOp, tAndV, tOrV, tNotV, tIf, tThen, tYes, tTup, tLst, tCall, tAsg, tDrop, tDNewK, gName, gTup, gCons, gNil, rI0, rI, CMul, CDiv, tUn, rU, rEq, rNe, scal, LenV, RetB, RetD, List.set_cons_zero, List.set_cons_succ, List.getElem?_cons_zero, List.getElem?_cons_succ, Option.some.injEq, exists_eq_left', exists_eq_left, List.cons.injEq, and_true, true_and, V.int.injEq, V.str.injEq, V.bl.injEq, V.ref.injEq, if_true, if_false, Bool.not_true, Bool.not_false, reduceCtorEq, decide_true, decide_false, Bool.false_eq_true, exists_and_left, Bool.not_eq_true', decide_eq_true_eq, decide_eq_false_iff_not, rLenK, tLenSetT, List.append_nil, and_assoc, or_false, false_or, exists_false, false_and, and_false, rGetL, rSetL, gSub, tAugS, ipI, tPart, tNoPart, not_true, not_false_iff, ite_true, ite_false, List.map_cons, List.map_nil, sp_is_kind, sp_is_name]
  refine S3.rowsA T rfl ⟨.inl ⟨rfl, ys, .of S3.rw⟩, by show 3 ≤ _; decide, fun p2 hp2 => ⟨r, ys, .ref p2, rfl, rfl, (S3.same (sm_new hp2)).rw, lt1 (by omega), ?_⟩⟩
  refine q _ ⟨dx, n, r, t, hv, _, _, (S3.same (sm_new hp2)).rows _, sm_upd (s3.trans (sm_new hp2)) f4, ⟨f1, f2, f3, f4, f5⟩, ?_⟩
  rw [List.length_append]
  exact Nat.add_le_add_right hc 1
/-- what first_of finds, one kind after another -/
def sp_Store_first_of (K : PySem.W.Frag) : Sp := fun vs H Q E => ∃ x y, vs = [x, y] ∧ ∃ dx n r t a hv ks cs nms ths xs ys c, x = .ref a ∧ StO K H a dx n r t hv ks cs nms ths xs ys ∧ Tp H y (dS c) ∧ c.length ≤ 1000 ∧ ths.length ≤ 1000 ∧ ∀ v H', Same H H' → Tp H' v (optT (firstT ths c)) → Q v H'
theorem sc_Store_first_of : FnScope ["self", "call", "kind", "thing"] ["self", "call"] (defScope s_Store_first_of) := ⟨rfl, rfl, rfl, by decide +kernel, rfl, by decide +kernel, by decide +kernel⟩
theorem c_Store_first_of (T : Txt K mg) : MetS P w K mg base 1 "first_of" (sp_Store_first_of K) := by
  refine T.met 17 75 rfl rfl sc_Store_first_of
    (fun _ _ _ _ _ _ us h => match us, h with | [_, _], _ => rfl)
    (fun vs H Q E h => by obtain ⟨_, _, rfl, _⟩ := h; rfl) (fun f cdv A outer s H vs Q E hr h => ?_)
  have nd := sc_Store_first_of.nd
  refine ⟨_, (pss_cons (ps_for PassesOwn.never rfl (k_piT K (pi_tup (pv 1))) (pg_name (i := 2) nd rfl (by first | exact .inl rfl | exact .inr rfl))
      (pss_one (ps_for PassesOwn.never rfl (k_piL K (pi_list (k_sl K (SlX.pe_sl (pv 0))))) (pg_name (i := 3) nd rfl (by first | exact .inl rfl | exact .inr rfl))
      (pss_one (ps_if (pt_cmpR op_eq (pe_ix (k_ixT K) (pv 3) pe_int (fun _ _ => rfl)) (pv 2) rfl) (pss_one (ps_ret (pv 3))) pss_nil)))))
     (pss_one (ps_ret pe_non))), ?_⟩
  obtain ⟨v0, v1, rfl, h⟩ := h
  rw [show L2.start ["self", "call", "kind", "thing"] [v0, v1] = [some v0, some v1, none, none] from rfl]
  obtain ⟨dx, n, r, t, a, hv, ks, cs, nms, ths, xs, ys, c, rfl, S, hy, l1, l2, q⟩ := h
  obtain ⟨b, rfl, hb⟩ := hy.strs_at
  have lt1 : ∀ {m : Nat}, m ≤ 1000 → m < sizeLine := fun h => Nat.lt_of_le_of_lt h (by decide)
  refine ⟨_, rfl, b, rfl, ⟨_, .of hb⟩, for_it (walk_tup (xs := c.map V.str)) (fun i σ H3 => ∃ y z, σ = [some (.ref a), some (.ref b), y, z] ∧ H3 = H ∧ firstT ths (c.take i) = none) ?_ ?_ ?_ ?_⟩
  · exact ⟨none, none, rfl, rfl, rfl⟩
  · rintro i σ H3 _ ⟨y, z, rfl, rfl, _⟩
    exact .of hb
  · rintro i x σ H3 H4 hi ⟨y, z, rfl, rfl, hf⟩ ⟨rfl, hx1⟩
    obtain ⟨k, hk, rfl⟩ := List.getElem?_map.symm.trans hx1 |> Option.map_eq_some_iff.mp
    show SlX.tSl _ _ _ _ _ _
    refine S.thingsA T rfl ⟨t, rfl, ⟨_, .of S.th⟩, for_it (walk_list (xs := xs)) (fun j σ H5 => ∃ z, σ = [some (.ref a), some (.ref b), some (.str k), z] ∧ H5 = H4 ∧ (ths.take j).find? (fun t => decide (t.2 = k)) = none) ?_ ?_ ?_ ?_⟩
    · exact ⟨z, rfl, rfl, rfl⟩
    · rintro j σ H5 _ ⟨z, rfl, rfl, _⟩
      exact .of S.th
    · rintro j x σ H5 H6 hj ⟨z, rfl, rfl, hfj⟩ ⟨rfl, hx2⟩
      obtain ⟨th, hth, tt⟩ := S.ta.nth hx2
      obtain ⟨c1, w1, w2, rfl, hc1, t1, t2⟩ := tt.two
      cases t1
      cases t2
      simp only [tBM, SlX.tMethSl, tSeq, tIfS, tOr, tAnd, tNot, tB, tCB, tCons, tNil, tVar, tC, tTest, tChain, tRet, tRetN, tNext, tOp, tAndV, tOrV, tNotV, tIf, tThen, tYes, tTup, tLst, tCall, tAsg, tDrop, tDNewK, gName, gTup, gCons, gNil, rI0, rI, CMul, CDiv, tUn, rU, rEq, rNe, scal, LenV, RetB, RetD, List.set_cons_zero, List.set_cons_succ, List.getElem?_cons_zero, List.getElem?_cons_succ, Option.some.injEq, exists_eq_left', exists_eq_left, List.cons.injEq, and_true, true_and, V.int.injEq, V.str.injEq, V.bl.injEq, V.ref.injEq, if_true, if_false, Bool.not_true, Bool.not_false, reduceCtorEq, decide_true, decide_false, Bool.false_eq_true, exists_and_left, Bool.not_eq_true', decide_eq_true_eq, decide_eq_false_iff_not, rLenK, tLenSetT, List.append_nil, and_assoc, or_false, false_or, exists_false, false_and, and_false, rGetL, rSetL, gSub, tAugS, ipI, tPart, tNoPart, not_true, not_false_iff, ite_true, ite_false, List.map_cons, List.map_nil]
      refine ⟨c1, _, 1, _, rfl, rfl, .of hc1, rfl, ?_⟩
      simp only [tBM, SlX.tMethSl, tSeq, tIfS, tOr, tAnd, tNot, tB, tCB, tCons, tNil, tVar, tC, tTest, tChain, tRet, tRetN, tNext, tOp, tAndV, tOrV, tNotV, tIf, tThen, tYes, tTup, tLst, tCall, tAsg, tDrop, tDNewK, gName, gTup, gCons, gNil, rI0, rI, CMul, CDiv, tUn, rU, rEq, rNe, scal, LenV, RetB, RetD, List.set_cons_zero, List.set_cons_succ, List.getElem?_cons_zero, List.getElem?_cons_succ, Option.some.injEq, exists_eq_left', exists_eq_left, List.cons.injEq, and_true, true_and, V.int.injEq, V.str.injEq, V.bl.injEq, V.ref.injEq, if_true, if_false, Bool.not_true, Bool.not_false, reduceCtorEq, decide_true, decide_false, Bool.false_eq_true, exists_and_left, Bool.not_eq_true', decide_eq_true_eq, decide_eq_false_iff_not, rLenK, tLenSetT, List.append_nil, and_assoc, or_false, false_or, exists_false, false_and, and_false, rGetL, rSetL, gSub, tAugS, ipI, tPart, tNoPart, not_true, not_false_iff, ite_true, ite_false, List.map_cons, List.map_nil]
      have hs : ths.take (j + 1) = ths.take j ++ [th] := by
        rw [List.take_add_one, hth]
        rfl
      by_cases e : th.2 = k
      · rw [if_pos e]
        refine q _ _ (.refl _) ?_
        have h1 : (ths.find? fun t => decide (t.2 = k)) = some th := by
          have h2 : ths = ths.take (j + 1) ++ ths.drop (j + 1) := (List.take_append_drop _ _).symm
          rw [h2, hs, List.append_assoc, List.find?_append, hfj]
          simp [e]
        have h3 : firstT ths c = some th := by
          have h4 : c = c.take i ++ k :: c.drop (i + 1) := by
            have h5 := (List.take_append_drop i c).symm
            rw [List.drop_eq_getElem?_toList_append, hk] at h5
            exact h5
          unfold firstT at hf ⊢
          rw [h4, List.findSome?_append, hf, List.findSome?_cons, h1]
          rfl
        rw [h3]
        exact tt
      · rw [if_neg e]
        rw [hs, List.find?_append, hfj]
        simp [e]
    · rintro σ H5 ⟨z, rfl, rfl, hfj⟩
      refine ⟨_, _, rfl, rfl, ?_⟩
      rw [List.take_of_length_le (by rw [S.ta.len] <;> exact Nat.le_refl _)] at hfj
      unfold firstT at hf ⊢
      rw [List.take_add_one, hk, List.findSome?_append, hf]
      simp [hfj]
  · rintro σ H3 ⟨y, z, rfl, rfl, hf⟩
    rw [List.take_of_length_le (by rw [List.length_map] <;> exact Nat.le_refl _)] at hf
    exact q _ _ (.refl _) (by rw [hf]; exact .non)
end
end C9
/-! ## F6 -/
set_option maxHeartbeats 4000000
namespace C9
open PySem PySem.Spec PyProof.Rows L2 C8
/-- the first of the things that is th goes -/
def remT (th : Th) : List Th → List Th
  | [] => []
  | x :: r => if x = th then r else x :: remT th r
theorem remT_at {th : Th} : ∀ {ths : List Th}, th ∈ ths → ∃ j, ths[j]? = some th ∧ (∀ m, m < j → ths[m]? ≠ some th) ∧ ths.eraseIdx j = remT th ths
  | [], h => nomatch h
  | x :: r, h => by
    by_cases e : x = th
    · exact ⟨0, by rw [e]; rfl, fun m hm => absurd hm (Nat.not_lt_zero _), by rw [remT, if_pos e]; rfl⟩
    · rcases List.mem_cons.mp h with h | h
      · exact absurd h.symm e
      · obtain ⟨j, h1, h2, h3⟩ := remT_at h
        refine ⟨j + 1, h1, fun m hm => ?_, by rw [remT, if_neg e, List.eraseIdx_cons_succ, h3]⟩
        cases m with
        | zero => exact fun q => e (Option.some.inj q)
        | succ m => exact h2 m (by omega)
theorem TpAll.erase {H : Hp} : ∀ (j : Nat) {xs : List V} {ds : List PyData}, TpAll H xs ds → TpAll H (xs.eraseIdx j) (ds.eraseIdx j)
  | _, [], _, h => by cases h; exact .nil
  | 0, x :: xs, d :: ds, .cons _ t => t
  | j + 1, x :: xs, d :: ds, .cons a t => .cons a (TpAll.erase j t)
theorem map_eraseIdx {α β : Type} (f : α → β) : ∀ (l : List α) (j : Nat), (l.eraseIdx j).map f = (l.map f).eraseIdx j
  | [], _ => rfl
  | _ :: _, 0 => rfl
  | x :: l, j + 1 => by rw [List.eraseIdx_cons_succ, List.map_cons, List.map_cons, List.eraseIdx_cons_succ, map_eraseIdx f l j]
theorem firstT_mem {ths : List Th} {c : List Str} {t : Th} (h : firstT ths c = some t) : t ∈ ths := by
  obtain ⟨k, _, hk⟩ := List.exists_of_findSome?_eq_some h
  exact List.mem_of_find?_eq_some hk
def takeT (ths : List Th) (c : List Str) : List Th := match firstT ths c with
  | none => ths
  | some t => remT t ths
inductive Row where
  | put (n k : Str)
  | drop (n : Str)
  | call (c : List Str)
  deriving DecidableEq
def dR : Row → PyData
  | .put n k => .tuple [.str "put", .str n, .str k]
  | .drop n => .tuple [.str "drop", .str n]
  | .call c => .tuple [.str "call", dS c]
def rowOk (ks : List Str) (cs : List (List Str)) (nms : List Str) : Row → Prop
  | .put n k => okN n = true ∧ k ∈ ks ∧ n ∉ nms
  | .drop n => okN n = true
  | .call c => (ks.filter fun k => decide (k ∈ c)) = c ∧ c ∈ cs
def stN (nms : List Str) : Row → List Str
  | .put n _ => nms ++ [n]
  | _ => nms
def stT (ths : List Th) : Row → List Th
  | .put n k => ths ++ [(n, k)]
  | .drop n => ths.filter fun t => decide (t.1 ≠ n)
  | .call c => takeT ths c
def tellR (ths : List Th) : Row → Option Str
  | .call c => (firstT ths c).map (·.1)
  | _ => none
theorem lt1 {m : Nat} (h : m ≤ 1000) : m < sizeLine := Nat.lt_of_le_of_lt h (by decide)
section
variable {K : PySem.W.Frag} {mg : Str → Option Value} {P : Program} {w : World} {base : Heap}
def sp_Store_take (K : PySem.W.Frag) : Sp := fun vs H Q E => ∃ x y, vs = [x, y] ∧ ∃ H0 a ks cs nms ths cnt c, x = .ref a ∧ Sto K H0 H a ks cs nms ths cnt ∧ Tp H y (dS c) ∧ ks.length ≤ 6 ∧ (ks.filter fun k => decide (k ∈ c)) = c ∧ c ∈ cs ∧ ths.length ≤ 1000 ∧ cnt ≤ 1000 ∧
  ∀ H', Sto K H0 H' a ks cs nms (takeT ths c) (cnt + 1) → Q (optV ((firstT ths c).map (·.1))) H'
theorem sc_Store_take : FnScope ["self", "call", "thing"] ["self", "call"] (defScope s_Store_take) := ⟨rfl, rfl, rfl, by decide +kernel, rfl, by decide +kernel, by decide +kernel⟩
theorem c_Store_take (T : Txt K mg) : MetS P w K mg base 5 "take" (sp_Store_take K) := by
  refine T.met 18 76 rfl rfl sc_Store_take
    (fun _ _ _ _ _ _ us h => match us, h with | [_, _], _ => rfl)
    (fun vs H Q E h => by obtain ⟨_, _, rfl, _⟩ := h; rfl) (fun f cdv A outer s H vs Q E hr h => ?_)
  have nd := sc_Store_take.nd
  refine ⟨_, (pss_cons (ps_if (pt_not (pt_val (pe_c (c_is_call T) hr (by decide) (by rfl) (pa_cons (k_sl K (SlX.pe_sl (pv 0))) (pa_cons (pv 1) pa_nil))))) (pss_one ps_never) pss_nil)
     (pss_cons (ps_expr (k_bm K (pe_bm PySem.F.plainAttrs_list PySem.F.slot_list_append PySem.F.type_list_append mt_append (k_sl K (SlX.pe_sl (pv 0))) (pa_cons (pe_tup (pa_cons pe_str (pa_cons (pv 1) pa_nil))) pa_nil))))
     (pss_cons (ps_set (i := 2) nd rfl (.inl rfl) (SlX.pe_methSl (E := C8.E0) (pv 0) T.scls (c_Store_first_of (P := P) (w := w) (base := base) T).mt (c_Store_first_of (P := P) (w := w) (base := base) T).fn (hr.mono (by decide)) C8.pass0 (pa_cons (pv 1) pa_nil)))
     (pss_cons (ps_if (pt_cmpR op_isN (pv 2) pe_non rfl) (pss_one (ps_ret pe_non)) pss_nil)
     (pss_cons (ps_expr (k_bm K (pe_bm PySem.F.plainAttrs_list PySem.F.slot_list_remove PySem.F.type_list_remove (k_removeA K (α := (Str × Str)) hr (by decide)) (k_sl K (SlX.pe_sl (pv 0))) (pa_cons (pv 2) pa_nil))))
     (pss_one (ps_ret (pe_ix (k_ixT K) (pv 2) pe_int (fun _ _ => rfl))))))))), ?_⟩
  obtain ⟨v0, v1, rfl, h⟩ := h
  rw [show L2.start ["self", "call", "thing"] [v0, v1] = [some v0, some v1, none] from rfl]
  obtain ⟨H0, a, ks, cs, nms, ths, cnt, c, rfl, ⟨dx, n, r, t, hv, xs, ys, S, s0, ⟨f1, f2, f3, f4, f5⟩, hc⟩, hy, hk, hf, hcs, l2, l3, q⟩ := h
  simp only [tBM, SlX.tMethSl, tSeq, tIfS, tOr, tAnd, tNot, tB, tCB, tCons, tNil, tVar, tC, tTest, tChain, tRet, tRetN, tNext, tOp, tAndV, tOrV, tNotV, tIf, tThen, tYes, tTup, tLst, tCall, tAsg, tDrop, tDNewK, gName, gTup, gCons, gNil, rI0, rI, CMul, CDiv, tUn, rU, rEq, rNe, scal, LenV, RetB, RetD, List.set_cons_zero, List.set_cons_succ, List.getElem?_cons_zero, List.getElem?_cons_succ, Option.some.injEq, exists_eq_left', exists_eq_left, List.cons.injEq, and_true, true_and, V.int.injEq, V.str.injEq, V.bl.injEq, V.ref.injEq, if_true, if_false, Bool.not_true, Bool.not_false, reduceCtorEq, decide_true, decide_false, Bool.false_eq_true, exists_and_left, Bool.not_eq_true', decide_eq_true_eq, decide_eq_false_iff_not, rLenK, tLenSetT, List.append_nil, and_assoc, or_false, false_or, exists_false, false_and, and_false, rGetL, rSetL, gSub, tAugS, ipI, tPart, tNoPart, not_true, not_false_iff, ite_true, ite_false, List.map_cons, List.map_nil, sp_Store_first_of, sp_is_call]
  refine S.house T rfl ⟨ks, cs, S.hs, c, hy, hk, hf, hcs, fun H1 s1 => ?_⟩
  have S1 := S.same s1
  refine S1.rowsA T rfl ⟨.inl ⟨rfl, ys, .of S1.rw⟩, by show 2 ≤ _; decide, fun p hp => ⟨r, ys, .ref p, rfl, rfl, (S1.same (sm_new hp)).rw, lt1 (by omega), ?_⟩⟩
  have S2 := (S1.same (sm_new (o := .tup [.str "call", v1]) hp)).rows (ys ++ [.ref p])
  have s2 : Same H0 (upd (upd H1 p (.tup [.str "call", v1])) r (.lst (ys ++ [.ref p]))) := sm_upd ((s0.trans s1).trans (sm_new hp)) f4
  have hy2 := ((hy.same s1).same (sm_new (o := .tup [.str "call", v1]) hp)).keep (.updL (o' := .lst (ys ++ [.ref p])) (S1.same (sm_new hp)).rw)
  have hc2 : (ys ++ [V.ref p]).length ≤ cnt + 1 := by
    rw [List.length_append]
    exact Nat.add_le_add_right hc 1
  have hcl := part_len hf hk
  refine ⟨dx, _, S2.slt, dx, n, r, t, hv, ks, cs, nms, ths, xs, _, S2, c, hy2, by omega, l2, fun v H3 s3 tv => ?_⟩
  have S3 := S2.same s3
  cases hq : firstT ths c with
  | none =>
    rw [hq] at tv
    cases tv
    rw [if_pos rfl]
    simp only [takeT, hq] at q
    exact q _ ⟨dx, n, r, t, hv, xs, _, S3, s2.trans s3, ⟨f1, f2, f3, f4, f5⟩, hc2⟩
  | some th =>
    rw [hq] at tv
    obtain ⟨c1, w1, w2, rfl, hc1, t1, t2⟩ := tv.two
    cases t1
    cases t2
    rw [if_neg (fun e => by cases e)]
    obtain ⟨j, hj, hno, he⟩ := remT_at (firstT_mem hq)
    simp only [takeT, hq] at q
    refine S3.thingsA T rfl ⟨.inl ⟨rfl, xs, .of S3.th⟩, t, .ref c1, xs, th, ths, j, rfl, rfl, S3.th, TpAll.dp S3.ta, tv.dp, hj, hno, ?_⟩
    have S4 := S3.things (xs.eraseIdx j) (remT th ths) (by rw [← he, map_eraseIdx]; exact TpAll.erase j S3.ta)
    have e1 : upd H3 t (.lst (xs.eraseIdx j)) c1 = some (.tup [.str th.1, .str th.2]) := TK.updL S3.th _ _ hc1
    exact ⟨c1, _, 0, _, rfl, rfl, .of e1, rfl, q _ ⟨dx, n, r, t, hv, _, _, S4, sm_upd (s2.trans s3) f5, ⟨f1, f2, f3, f4, f5⟩, hc2⟩⟩
def sp_Store_drop (K : PySem.W.Frag) : Sp := fun vs H Q E => ∃ x y, vs = [x, y] ∧ ∃ H0 a ks cs nms ths cnt nm, x = .ref a ∧ y = .str nm ∧ Sto K H0 H a ks cs nms ths cnt ∧ okN nm = true ∧ ths.length ≤ 1000 ∧ cnt ≤ 1000 ∧
  ∀ b H', Sto K H0 H' a ks cs nms (ths.filter fun t => decide (t.1 ≠ nm)) (cnt + 1) → Q (.bl b) H'
theorem sc_Store_drop : FnScope ["self", "name", "left", "was_there", "thing"] ["self", "name"] (defScope s_Store_drop) := ⟨rfl, rfl, rfl, by decide +kernel, rfl, by decide +kernel, by decide +kernel⟩
theorem c_Store_drop (T : Txt K mg) : MetS P w K mg base 2 "drop" (sp_Store_drop K) := by
  refine T.met 19 77 rfl rfl sc_Store_drop
    (fun _ _ _ _ _ _ us h => match us, h with | [_, _], _ => rfl)
    (fun vs H Q E h => by obtain ⟨_, _, rfl, _⟩ := h; rfl) (fun f cdv A outer s H vs Q E hr h => ?_)
  have nd := sc_Store_drop.nd
  refine ⟨_, (pss_cons (ps_if (pt_not (pt_val (pe_c (c_is_name T) hr (by decide) (by rfl) (pa_cons (pv 1) pa_nil)))) (pss_one ps_never) pss_nil)
     (pss_cons (ps_setLc (i := 2) rfl nd rfl rfl rfl (k_piL K (pi_list (k_sl K (SlX.pe_sl (pv 0))))) (blkOk_by (own := [("thing", 4)]) (by rfl)) (fun _ _ _ _ _ => (pg_name (i := 4) nd rfl (by first | exact .inl rfl | exact .inr rfl))) (fun _ _ _ _ _ => (pts_one (pt_cmpR op_ne (pe_ix (k_ixT K) (pv 4) pe_int (fun _ _ => rfl)) (pv 1) rfl))) (fun _ _ _ _ _ => (pv 4)))
     (pss_cons (ps_set (i := 3) nd rfl (.inl rfl) (pe_cmpR op_lt (pe_callB (k_len K) (by rfl) (T.free 52) rfl (pa_cons (pv 2) pa_nil)) (pe_callB (k_len K) (by rfl) (T.free 52) rfl (pa_cons (k_sl K (SlX.pe_sl (pv 0))) pa_nil)) rfl))
     (pss_cons (k_ssl K (SlX.ps_sl (pv 0) (pv 2)))
     (pss_cons (ps_expr (k_bm K (pe_bm PySem.F.plainAttrs_list PySem.F.slot_list_append PySem.F.type_list_append mt_append (k_sl K (SlX.pe_sl (pv 0))) (pa_cons (pe_tup (pa_cons pe_str (pa_cons (pv 1) pa_nil))) pa_nil))))
     (pss_one (ps_ret (pv 3)))))))), ?_⟩
  obtain ⟨v0, v1, rfl, h⟩ := h
  rw [show L2.start ["self", "name", "left", "was_there", "thing"] [v0, v1] = [some v0, some v1, none, none, none] from rfl]
  obtain ⟨H0, a, ks, cs, nms, ths, cnt, nm, rfl, rfl, ⟨dx, n, r, t, hv, xs, ys, S, s0, ⟨f1, f2, f3, f4, f5⟩, hc⟩, ok, l2, l3, q⟩ := h
  simp only [tBM, SlX.tMethSl, tSeq, tIfS, tOr, tAnd, tNot, tB, tCB, tCons, tNil, tVar, tC, tTest, tChain, tRet, tRetN, tNext, tOp, tAndV, tOrV, tNotV, tIf, tThen, tYes, tTup, tLst, tCall, tAsg, tDrop, tDNewK, gName, gTup, gCons, gNil, rI0, rI, CMul, CDiv, tUn, rU, rEq, rNe, scal, LenV, RetB, RetD, List.set_cons_zero, List.set_cons_succ, List.getElem?_cons_zero, List.getElem?_cons_succ, Option.some.injEq, exists_eq_left', exists_eq_left, List.cons.injEq, and_true, true_and, V.int.injEq, V.str.injEq, V.bl.injEq, V.ref.injEq, if_true, if_false, Bool.not_true, Bool.not_false, reduceCtorEq, decide_true, decide_false, Bool.false_eq_true, exists_and_left, Bool.not_eq_true', decide_eq_true_eq, decide_eq_false_iff_not, rLenK, tLenSetT, List.append_nil, and_assoc, or_false, false_or, exists_false, false_and, and_false, rGetL, rSetL, gSub, tAugS, ipI, tPart, tNoPart, not_true, not_false_iff, ite_true, ite_false, List.map_cons, List.map_nil, sp_is_name]
  refine ⟨ok, fun H1 s1 => ?_⟩
  have S1 := S.same s1
  show SlX.tSl _ _ _ _ _ _
  refine S1.thingsA T rfl ⟨t, rfl, ⟨_, .of S1.th⟩, fun D hD => lc_rel walk_list hD ?_ (RlF (fun th => if th.1 ≠ nm then some (dT th) else none) ths) .zero (fun H sm => .of (sm _ _ S1.th)) ?_ ?_⟩
  · rw [S.ta.len]
    exact lt1 l2
  · rintro i ds x H2 H3 Qe Qs hi sm rl ⟨rfl, hx1⟩ ke ks'
    obtain ⟨th, hth, tt⟩ := (TpAll.same sm S1.ta).nth hx1
    obtain ⟨c1, w1, w2, rfl, hc1, t1, t2⟩ := tt.two
    cases t1
    cases t2
    refine ⟨rfl, ?_⟩
    simp only [tBM, SlX.tMethSl, tSeq, tIfS, tOr, tAnd, tNot, tB, tCB, tCons, tNil, tVar, tC, tTest, tChain, tRet, tRetN, tNext, tOp, tAndV, tOrV, tNotV, tIf, tThen, tYes, tTup, tLst, tCall, tAsg, tDrop, tDNewK, gName, gTup, gCons, gNil, rI0, rI, CMul, CDiv, tUn, rU, rEq, rNe, scal, LenV, RetB, RetD, List.set_cons_zero, List.set_cons_succ, List.getElem?_cons_zero, List.getElem?_cons_succ, Option.some.injEq, exists_eq_left', exists_eq_left, List.cons.injEq, and_true, true_and, V.int.injEq, V.str.injEq, V.bl.injEq, V.ref.injEq, if_true, if_false, Bool.not_true, Bool.not_false, reduceCtorEq, decide_true, decide_false, Bool.false_eq_true, exists_and_left, Bool.not_eq_true', decide_eq_true_eq, decide_eq_false_iff_not, rLenK, tLenSetT, List.append_nil, and_assoc, or_false, false_or, exists_false, false_and, and_false, rGetL, rSetL, gSub, tAugS, ipI, tPart, tNoPart, not_true, not_false_iff, ite_true, ite_false, List.map_cons, List.map_nil, sp_is_name, wipe]
    refine ⟨c1, _, 0, _, rfl, rfl, .of hc1, rfl, ?_⟩
    simp only [tBM, SlX.tMethSl, tSeq, tIfS, tOr, tAnd, tNot, tB, tCB, tCons, tNil, tVar, tC, tTest, tChain, tRet, tRetN, tNext, tOp, tAndV, tOrV, tNotV, tIf, tThen, tYes, tTup, tLst, tCall, tAsg, tDrop, tDNewK, gName, gTup, gCons, gNil, rI0, rI, CMul, CDiv, tUn, rU, rEq, rNe, scal, LenV, RetB, RetD, List.set_cons_zero, List.set_cons_succ, List.getElem?_cons_zero, List.getElem?_cons_succ, Option.some.injEq, exists_eq_left', exists_eq_left, List.cons.injEq, and_true, true_and, V.int.injEq, V.str.injEq, V.bl.injEq, V.ref.injEq, if_true, if_false, Bool.not_true, Bool.not_false, reduceCtorEq, decide_true, decide_false, Bool.false_eq_true, exists_and_left, Bool.not_eq_true', decide_eq_true_eq, decide_eq_false_iff_not, rLenK, tLenSetT, List.append_nil, and_assoc, or_false, false_or, exists_false, false_and, and_false, rGetL, rSetL, gSub, tAugS, ipI, tPart, tNoPart, not_true, not_false_iff, ite_true, ite_false, List.map_cons, List.map_nil, sp_is_name]
    by_cases e : th.1 = nm
    · rw [if_neg (not_not_intro e)]
      exact ks' _ (.refl _) (rl.skip hth (by simp [e]))
    · rw [if_pos e]
      exact ke _ _ _ (.refl _) tt (rl.put hth (by simp [e]))
  · intro H2 acc ds s2 e rr rl hl
    have hds := rl.all (by rw [S.ta.len] <;> exact Nat.le_refl _)
    rw [filter_ite] at hds
    subst hds
    have S2 := S1.same s2
    have ff := (s0.trans s1).free hD
    simp only [tBM, SlX.tMethSl, tSeq, tIfS, tOr, tAnd, tNot, tB, tCB, tCons, tNil, tVar, tC, tTest, tChain, tRet, tRetN, tNext, tOp, tAndV, tOrV, tNotV, tIf, tThen, tYes, tTup, tLst, tCall, tAsg, tDrop, tDNewK, gName, gTup, gCons, gNil, rI0, rI, CMul, CDiv, tUn, rU, rEq, rNe, scal, LenV, RetB, RetD, List.set_cons_zero, List.set_cons_succ, List.getElem?_cons_zero, List.getElem?_cons_succ, Option.some.injEq, exists_eq_left', exists_eq_left, List.cons.injEq, and_true, true_and, V.int.injEq, V.str.injEq, V.bl.injEq, V.ref.injEq, if_true, if_false, Bool.not_true, Bool.not_false, reduceCtorEq, decide_true, decide_false, Bool.false_eq_true, exists_and_left, Bool.not_eq_true', decide_eq_true_eq, decide_eq_false_iff_not, rLenK, tLenSetT, List.append_nil, and_assoc, or_false, false_or, exists_false, false_and, and_false, rGetL, rSetL, gSub, tAugS, ipI, tPart, tNoPart, not_true, not_false_iff, ite_true, ite_false, List.map_cons, List.map_nil, sp_is_name]
    refine ⟨acc.length, .inl ⟨_, .of e, rfl⟩, ?_⟩
    refine S2.thingsA T rfl ⟨xs.length, .inl ⟨_, .of S2.th, rfl⟩, ?_⟩
    obtain ⟨p3, h3⟩ := T.sl3
    have ne : r ≠ D := ne_of_none S1.rw hD
    refine ⟨_, rfl, _, rfl, a, _, dx, p3, _, 3, rfl, S2.slt, T.scls, h3, ?_⟩
    have S3 := S2.left (ths' := ths.filter fun t => decide (t.1 ≠ nm)) e rr ne
    have s3 : Same H0 (SlX.slH H2 a (cS K) dx (SlX.putS 3 (.ref D) (stV hv n r t))) := sm_upd (sm_upd ((s0.trans s1).trans s2) f2) f1
    simp only [tBM, SlX.tMethSl, tSeq, tIfS, tOr, tAnd, tNot, tB, tCB, tCons, tNil, tVar, tC, tTest, tChain, tRet, tRetN, tNext, tOp, tAndV, tOrV, tNotV, tIf, tThen, tYes, tTup, tLst, tCall, tAsg, tDrop, tDNewK, gName, gTup, gCons, gNil, rI0, rI, CMul, CDiv, tUn, rU, rEq, rNe, scal, LenV, RetB, RetD, List.set_cons_zero, List.set_cons_succ, List.getElem?_cons_zero, List.getElem?_cons_succ, Option.some.injEq, exists_eq_left', exists_eq_left, List.cons.injEq, and_true, true_and, V.int.injEq, V.str.injEq, V.bl.injEq, V.ref.injEq, if_true, if_false, Bool.not_true, Bool.not_false, reduceCtorEq, decide_true, decide_false, Bool.false_eq_true, exists_and_left, Bool.not_eq_true', decide_eq_true_eq, decide_eq_false_iff_not, rLenK, tLenSetT, List.append_nil, and_assoc, or_false, false_or, exists_false, false_and, and_false, rGetL, rSetL, gSub, tAugS, ipI, tPart, tNoPart, not_true, not_false_iff, ite_true, ite_false, List.map_cons, List.map_nil, sp_is_name]
    refine S3.rowsA T rfl ⟨.inl ⟨rfl, ys, .of S3.rw⟩, ?_⟩
    refine ⟨by show 2 ≤ _; decide, fun p hp => ⟨r, ys, .ref p, rfl, rfl, (S3.same (sm_new hp)).rw, lt1 (by omega), ?_⟩⟩
    refine q _ _ ⟨dx, n, r, D, hv, _, _, (S3.same (sm_new hp)).rows _, sm_upd (s3.trans (sm_new hp)) f4, ⟨f1, f2, f3, f4, ff⟩, ?_⟩
    rw [List.length_append]
    exact Nat.add_le_add_right hc 1
def sp_Store_there (K : PySem.W.Frag) : Sp := fun vs H Q E => ∃ x, vs = [x] ∧ ∃ H0 a ks cs nms ths cnt, x = .ref a ∧ Sto K H0 H a ks cs nms ths cnt ∧ ∀ p xs H', Same H H' → H' p = some (.lst xs) → H p = none → TpAll H' xs (ths.map dT) → Q (.ref p) H'
theorem sc_Store_there : FnScope ["self"] ["self"] (defScope s_Store_there) := ⟨rfl, rfl, rfl, by decide +kernel, rfl, by decide +kernel, by decide +kernel⟩
theorem c_Store_there (T : Txt K mg) : MetS P w K mg base 1 "there" (sp_Store_there K) := by
  refine T.met 20 78 rfl rfl sc_Store_there
    (fun _ _ _ _ _ _ us h => match us, h with | [_], _ => rfl)
    (fun vs H Q E h => by obtain ⟨_, rfl, _⟩ := h; rfl) (fun f cdv A outer s H vs Q E hr h => ?_)
  have nd := sc_Store_there.nd
  refine ⟨_, (pss_one (ps_ret (pe_callTy (k_list K) (by rfl) (T.free 59) rfl (pa_cons (k_sl K (SlX.pe_sl (pv 0))) pa_nil)))), ?_⟩
  obtain ⟨v0, rfl, h⟩ := h
  rw [show L2.start ["self"] [v0] = [some v0] from rfl]
  obtain ⟨H0, a, ks, cs, nms, ths, cnt, rfl, ⟨dx, n, r, t, hv, xs, ys, S, s0, f, hc⟩, q⟩ := h
  simp only [tBM, SlX.tMethSl, tSeq, tIfS, tOr, tAnd, tNot, tB, tCB, tCons, tNil, tVar, tC, tTest, tChain, tRet, tRetN, tNext, tOp, tAndV, tOrV, tNotV, tIf, tThen, tYes, tTup, tLst, tCall, tAsg, tDrop, tDNewK, gName, gTup, gCons, gNil, rI0, rI, CMul, CDiv, tUn, rU, rEq, rNe, scal, LenV, RetB, RetD, List.set_cons_zero, List.set_cons_succ, List.getElem?_cons_zero, List.getElem?_cons_succ, Option.some.injEq, exists_eq_left', exists_eq_left, List.cons.injEq, and_true, true_and, V.int.injEq, V.str.injEq, V.bl.injEq, V.ref.injEq, if_true, if_false, Bool.not_true, Bool.not_false, reduceCtorEq, decide_true, decide_false, Bool.false_eq_true, exists_and_left, Bool.not_eq_true', decide_eq_true_eq, decide_eq_false_iff_not, rLenK, tLenSetT, List.append_nil, and_assoc, or_false, false_or, exists_false, false_and, and_false, rGetL, rSetL, gSub, tAugS, ipI, tPart, tNoPart, not_true, not_false_iff, ite_true, ite_false, List.map_cons, List.map_nil]
  refine S.thingsA T rfl ⟨t, xs, rfl, .inl (.of S.th), fun p hp => ?_⟩
  exact q p xs _ (sm_new hp) upd_same hp (TpAll.same (sm_new hp) S.ta)
def sp_do_row (K : PySem.W.Frag) : Sp := fun vs H Q E => ∃ x y, vs = [x, y] ∧ ∃ H0 a ks cs nms ths cnt r, x = .ref a ∧ Sto K H0 H a ks cs nms ths cnt ∧ Tp H y (dR r) ∧ ks.length ≤ 6 ∧ rowOk ks cs nms r ∧ nms.length ≤ 1000 ∧ ths.length ≤ 1000 ∧ cnt ≤ 1000 ∧
  ∀ H', Sto K H0 H' a ks cs (stN nms r) (stT ths r) (cnt + 1) → Q (optV (tellR ths r)) H'
theorem sc_do_row : FnScope ["store", "row"] ["store", "row"] (defScope s_do_row) := ⟨rfl, rfl, rfl, by decide +kernel, rfl, by decide +kernel, by decide +kernel⟩
theorem c_do_row (T : Txt K mg) : C8.Cal P w K mg base 6 "do_row" (sp_do_row K) [] := by
  refine T.cal 21 15 rfl rfl sc_do_row
    (fun _ _ _ _ _ _ us h => match us, h with | [_, _], _ => rfl)
    (fun vs H Q E h => by obtain ⟨_, _, rfl, _⟩ := h; rfl) (fun f cdv A outer s H vs Q E hr h => ?_)
  have nd := sc_do_row.nd
  refine ⟨_, (pss_cons (ps_if (pt_cmpR op_eq (pe_ix (k_ixT K) (pv 1) pe_int (fun _ _ => rfl)) pe_str rfl) (pss_one (ps_expr (SlX.pe_methSl (E := C8.E0) (pv 0) T.scls (c_Store_put (P := P) (w := w) (base := base) T).mt (c_Store_put (P := P) (w := w) (base := base) T).fn (hr.mono (by decide)) C8.pass0 (pa_cons (pe_ix (k_ixT K) (pv 1) pe_int (fun _ _ => rfl)) (pa_cons (pe_ix (k_ixT K) (pv 1) pe_int (fun _ _ => rfl)) pa_nil))))) (pss_one (ps_if (pt_cmpR op_eq (pe_ix (k_ixT K) (pv 1) pe_int (fun _ _ => rfl)) pe_str rfl) (pss_one (ps_expr (SlX.pe_methSl (E := C8.E0) (pv 0) T.scls (c_Store_drop (P := P) (w := w) (base := base) T).mt (c_Store_drop (P := P) (w := w) (base := base) T).fn (hr.mono (by decide)) C8.pass0 (pa_cons (pe_ix (k_ixT K) (pv 1) pe_int (fun _ _ => rfl)) pa_nil)))) (pss_one (ps_ret (SlX.pe_methSl (E := C8.E0) (pv 0) T.scls (c_Store_take (P := P) (w := w) (base := base) T).mt (c_Store_take (P := P) (w := w) (base := base) T).fn (hr.mono (by decide)) C8.pass0 (pa_cons (pe_ix (k_ixT K) (pv 1) pe_int (fun _ _ => rfl)) pa_nil)))))))
     (pss_one (ps_ret pe_non))), ?_⟩
  obtain ⟨v0, v1, rfl, h⟩ := h
  rw [show L2.start ["store", "row"] [v0, v1] = [some v0, some v1] from rfl]
  obtain ⟨H0, a, ks, cs, nms, ths, cnt, r, rfl, S, hy, hk, ok, l1, l2, l3, q⟩ := h
  obtain ⟨dx, _, _, _, hv, _, _, S0, _⟩ := id S
  cases r with
  | put nm k =>
    obtain ⟨b, w1, w2, w3, rfl, hb, h1, h2, h3⟩ := hy.three
    cases h1; cases h2; cases h3
    simp only [tBM, SlX.tMethSl, tSeq, tIfS, tOr, tAnd, tNot, tB, tCB, tCons, tNil, tVar, tC, tTest, tChain, tRet, tRetN, tNext, tOp, tAndV, tOrV, tNotV, tIf, tThen, tYes, tTup, tLst, tCall, tAsg, tDrop, tDNewK, gName, gTup, gCons, gNil, rI0, rI, CMul, CDiv, tUn, rU, rEq, rNe, scal, LenV, RetB, RetD, List.set_cons_zero, List.set_cons_succ, List.getElem?_cons_zero, List.getElem?_cons_succ, Option.some.injEq, exists_eq_left', exists_eq_left, List.cons.injEq, and_true, true_and, V.int.injEq, V.str.injEq, V.bl.injEq, V.ref.injEq, if_true, if_false, Bool.not_true, Bool.not_false, reduceCtorEq, decide_true, decide_false, Bool.false_eq_true, exists_and_left, Bool.not_eq_true', decide_eq_true_eq, decide_eq_false_iff_not, rLenK, tLenSetT, List.append_nil, and_assoc, or_false, false_or, exists_false, false_and, and_false, rGetL, rSetL, gSub, tAugS, ipI, tPart, tNoPart, not_true, not_false_iff, ite_true, ite_false, List.map_cons, List.map_nil, sp_Store_drop, sp_Store_put, sp_Store_take]
    refine ⟨b, _, 0, _, rfl, rfl, .of hb, rfl, ?_⟩
    simp only [tBM, SlX.tMethSl, tSeq, tIfS, tOr, tAnd, tNot, tB, tCB, tCons, tNil, tVar, tC, tTest, tChain, tRet, tRetN, tNext, tOp, tAndV, tOrV, tNotV, tIf, tThen, tYes, tTup, tLst, tCall, tAsg, tDrop, tDNewK, gName, gTup, gCons, gNil, rI0, rI, CMul, CDiv, tUn, rU, rEq, rNe, scal, LenV, RetB, RetD, List.set_cons_zero, List.set_cons_succ, List.getElem?_cons_zero, List.getElem?_cons_succ, Option.some.injEq, exists_eq_left', exists_eq_left, List.cons.injEq, and_true, true_and, V.int.injEq, V.str.injEq, V.bl.injEq, V.ref.injEq, if_true, if_false, Bool.not_true, Bool.not_false, reduceCtorEq, decide_true, decide_false, Bool.false_eq_true, exists_and_left, Bool.not_eq_true', decide_eq_true_eq, decide_eq_false_iff_not, rLenK, tLenSetT, List.append_nil, and_assoc, or_false, false_or, exists_false, false_and, and_false, rGetL, rSetL, gSub, tAugS, ipI, tPart, tNoPart, not_true, not_false_iff, ite_true, ite_false, List.map_cons, List.map_nil, sp_Store_drop, sp_Store_put, sp_Store_take]
    refine ⟨dx, _, S0.slt, b, _, 1, _, rfl, rfl, .of hb, rfl, b, _, 2, _, rfl, rfl, .of hb, rfl, ?_⟩
    exact ⟨H0, ks, cs, nms, ths, cnt, nm, rfl, k, rfl, S, ok.1, ok.2.1, ok.2.2, l1, l2, l3, fun H' S' => q _ S'⟩
  | drop nm =>
    obtain ⟨b, w1, w2, rfl, hb, h1, h2⟩ := hy.two
    cases h1; cases h2
    simp only [tBM, SlX.tMethSl, tSeq, tIfS, tOr, tAnd, tNot, tB, tCB, tCons, tNil, tVar, tC, tTest, tChain, tRet, tRetN, tNext, tOp, tAndV, tOrV, tNotV, tIf, tThen, tYes, tTup, tLst, tCall, tAsg, tDrop, tDNewK, gName, gTup, gCons, gNil, rI0, rI, CMul, CDiv, tUn, rU, rEq, rNe, scal, LenV, RetB, RetD, List.set_cons_zero, List.set_cons_succ, List.getElem?_cons_zero, List.getElem?_cons_succ, Option.some.injEq, exists_eq_left', exists_eq_left, List.cons.injEq, and_true, true_and, V.int.injEq, V.str.injEq, V.bl.injEq, V.ref.injEq, if_true, if_false, Bool.not_true, Bool.not_false, reduceCtorEq, decide_true, decide_false, Bool.false_eq_true, exists_and_left, Bool.not_eq_true', decide_eq_true_eq, decide_eq_false_iff_not, rLenK, tLenSetT, List.append_nil, and_assoc, or_false, false_or, exists_false, false_and, and_false, rGetL, rSetL, gSub, tAugS, ipI, tPart, tNoPart, not_true, not_false_iff, ite_true, ite_false, List.map_cons, List.map_nil, sp_Store_drop, sp_Store_put, sp_Store_take]
    refine ⟨b, _, 0, _, rfl, rfl, .of hb, rfl, ?_⟩
    simp only [tBM, SlX.tMethSl, tSeq, tIfS, tOr, tAnd, tNot, tB, tCB, tCons, tNil, tVar, tC, tTest, tChain, tRet, tRetN, tNext, tOp, tAndV, tOrV, tNotV, tIf, tThen, tYes, tTup, tLst, tCall, tAsg, tDrop, tDNewK, gName, gTup, gCons, gNil, rI0, rI, CMul, CDiv, tUn, rU, rEq, rNe, scal, LenV, RetB, RetD, List.set_cons_zero, List.set_cons_succ, List.getElem?_cons_zero, List.getElem?_cons_succ, Option.some.injEq, exists_eq_left', exists_eq_left, List.cons.injEq, and_true, true_and, V.int.injEq, V.str.injEq, V.bl.injEq, V.ref.injEq, if_true, if_false, Bool.not_true, Bool.not_false, reduceCtorEq, decide_true, decide_false, Bool.false_eq_true, exists_and_left, Bool.not_eq_true', decide_eq_true_eq, decide_eq_false_iff_not, rLenK, tLenSetT, List.append_nil, and_assoc, or_false, false_or, exists_false, false_and, and_false, rGetL, rSetL, gSub, tAugS, ipI, tPart, tNoPart, not_true, not_false_iff, ite_true, ite_false, List.map_cons, List.map_nil, sp_Store_drop, sp_Store_put, sp_Store_take, ne_cp, ne_pc, ne_dp, ne_pd, ne_cd, ne_dc]
    refine ⟨b, _, 0, _, rfl, rfl, .of hb, rfl, ?_⟩
    simp only [tBM, SlX.tMethSl, tSeq, tIfS, tOr, tAnd, tNot, tB, tCB, tCons, tNil, tVar, tC, tTest, tChain, tRet, tRetN, tNext, tOp, tAndV, tOrV, tNotV, tIf, tThen, tYes, tTup, tLst, tCall, tAsg, tDrop, tDNewK, gName, gTup, gCons, gNil, rI0, rI, CMul, CDiv, tUn, rU, rEq, rNe, scal, LenV, RetB, RetD, List.set_cons_zero, List.set_cons_succ, List.getElem?_cons_zero, List.getElem?_cons_succ, Option.some.injEq, exists_eq_left', exists_eq_left, List.cons.injEq, and_true, true_and, V.int.injEq, V.str.injEq, V.bl.injEq, V.ref.injEq, if_true, if_false, Bool.not_true, Bool.not_false, reduceCtorEq, decide_true, decide_false, Bool.false_eq_true, exists_and_left, Bool.not_eq_true', decide_eq_true_eq, decide_eq_false_iff_not, rLenK, tLenSetT, List.append_nil, and_assoc, or_false, false_or, exists_false, false_and, and_false, rGetL, rSetL, gSub, tAugS, ipI, tPart, tNoPart, not_true, not_false_iff, ite_true, ite_false, List.map_cons, List.map_nil, sp_Store_drop, sp_Store_put, sp_Store_take, ne_cp, ne_pc, ne_dp, ne_pd, ne_cd, ne_dc]
    refine ⟨dx, _, S0.slt, b, _, 1, _, rfl, rfl, .of hb, rfl, ?_⟩
    exact ⟨H0, ks, cs, nms, ths, cnt, nm, rfl, S, ok, l2, l3, fun _ H' S' => q _ S'⟩
  | call c =>
    obtain ⟨b, w1, w2, rfl, hb, h1, h2⟩ := hy.two
    cases h1
    simp only [tBM, SlX.tMethSl, tSeq, tIfS, tOr, tAnd, tNot, tB, tCB, tCons, tNil, tVar, tC, tTest, tChain, tRet, tRetN, tNext, tOp, tAndV, tOrV, tNotV, tIf, tThen, tYes, tTup, tLst, tCall, tAsg, tDrop, tDNewK, gName, gTup, gCons, gNil, rI0, rI, CMul, CDiv, tUn, rU, rEq, rNe, scal, LenV, RetB, RetD, List.set_cons_zero, List.set_cons_succ, List.getElem?_cons_zero, List.getElem?_cons_succ, Option.some.injEq, exists_eq_left', exists_eq_left, List.cons.injEq, and_true, true_and, V.int.injEq, V.str.injEq, V.bl.injEq, V.ref.injEq, if_true, if_false, Bool.not_true, Bool.not_false, reduceCtorEq, decide_true, decide_false, Bool.false_eq_true, exists_and_left, Bool.not_eq_true', decide_eq_true_eq, decide_eq_false_iff_not, rLenK, tLenSetT, List.append_nil, and_assoc, or_false, false_or, exists_false, false_and, and_false, rGetL, rSetL, gSub, tAugS, ipI, tPart, tNoPart, not_true, not_false_iff, ite_true, ite_false, List.map_cons, List.map_nil, sp_Store_drop, sp_Store_put, sp_Store_take]
    refine ⟨b, _, 0, _, rfl, rfl, .of hb, rfl, ?_⟩
    simp only [tBM, SlX.tMethSl, tSeq, tIfS, tOr, tAnd, tNot, tB, tCB, tCons, tNil, tVar, tC, tTest, tChain, tRet, tRetN, tNext, tOp, tAndV, tOrV, tNotV, tIf, tThen, tYes, tTup, tLst, tCall, tAsg, tDrop, tDNewK, gName, gTup, gCons, gNil, rI0, rI, CMul, CDiv, tUn, rU, rEq, rNe, scal, LenV, RetB, RetD, List.set_cons_zero, List.set_cons_succ, List.getElem?_cons_zero, List.getElem?_cons_succ, Option.some.injEq, exists_eq_left', exists_eq_left, List.cons.injEq, and_true, true_and, V.int.injEq, V.str.injEq, V.bl.injEq, V.ref.injEq, if_true, if_false, Bool.not_true, Bool.not_false, reduceCtorEq, decide_true, decide_false, Bool.false_eq_true, exists_and_left, Bool.not_eq_true', decide_eq_true_eq, decide_eq_false_iff_not, rLenK, tLenSetT, List.append_nil, and_assoc, or_false, false_or, exists_false, false_and, and_false, rGetL, rSetL, gSub, tAugS, ipI, tPart, tNoPart, not_true, not_false_iff, ite_true, ite_false, List.map_cons, List.map_nil, sp_Store_drop, sp_Store_put, sp_Store_take, ne_cp, ne_pc, ne_dp, ne_pd, ne_cd, ne_dc]
    refine ⟨b, _, 0, _, rfl, rfl, .of hb, rfl, ?_⟩
    simp only [tBM, SlX.tMethSl, tSeq, tIfS, tOr, tAnd, tNot, tB, tCB, tCons, tNil, tVar, tC, tTest, tChain, tRet, tRetN, tNext, tOp, tAndV, tOrV, tNotV, tIf, tThen, tYes, tTup, tLst, tCall, tAsg, tDrop, tDNewK, gName, gTup, gCons, gNil, rI0, rI, CMul, CDiv, tUn, rU, rEq, rNe, scal, LenV, RetB, RetD, List.set_cons_zero, List.set_cons_succ, List.getElem?_cons_zero, List.getElem?_cons_succ, Option.some.injEq, exists_eq_left', exists_eq_left, List.cons.injEq, and_true, true_and, V.int.injEq, V.str.injEq, V.bl.injEq, V.ref.injEq, if_true, if_false, Bool.not_true, Bool.not_false, reduceCtorEq, decide_true, decide_false, Bool.false_eq_true, exists_and_left, Bool.not_eq_true', decide_eq_true_eq, decide_eq_false_iff_not, rLenK, tLenSetT, List.append_nil, and_assoc, or_false, false_or, exists_false, false_and, and_false, rGetL, rSetL, gSub, tAugS, ipI, tPart, tNoPart, not_true, not_false_iff, ite_true, ite_false, List.map_cons, List.map_nil, sp_Store_drop, sp_Store_put, sp_Store_take, ne_cp, ne_pc, ne_dp, ne_pd, ne_cd, ne_dc]
    refine ⟨dx, _, S0.slt, b, _, 1, _, rfl, rfl, .of hb, rfl, ?_⟩
    exact ⟨H0, ks, cs, nms, ths, cnt, S, c, h2, hk, ok.1, ok.2, l2, l3, fun H' S' => q _ S'⟩
/-- rows that the house takes one behind another -/
def rowsOk (ks : List Str) (cs : List (List Str)) : List Str → List Row → Prop
  | _, [] => True
  | nms, r :: rs => rowOk ks cs nms r ∧ rowsOk ks cs (stN nms r) rs
def nmsOf (rs : List Row) : List Str := rs.foldl stN []
def thsOf (rs : List Row) : List Th := rs.foldl stT []
theorem rowsOk_at {ks : List Str} {cs : List (List Str)} : ∀ {rs : List Row} {nms : List Str}, rowsOk ks cs nms rs → ∀ (i : Nat) (r : Row), rs[i]? = some r → rowOk ks cs ((rs.take i).foldl stN nms) r
  | [], _, _, _, _, h => by simp at h
  | x :: rs, nms, h, 0, r, e => by
    cases e
    exact h.1
  | x :: rs, nms, h, i + 1, r, e => rowsOk_at h.2 i r e
theorem stN_len : ∀ (rs : List Row) (nms : List Str), (rs.foldl stN nms).length ≤ nms.length + rs.length
  | [], _ => Nat.le_refl _
  | r :: rs, nms => by
    refine Nat.le_trans (stN_len rs _) ?_
    have : (stN nms r).length ≤ nms.length + 1 := by
      cases r with
      | put n k => simp [stN]
      | drop n => simp [stN]
      | call c => simp [stN]
    rw [List.length_cons]
    omega
theorem remT_len (th : Th) : ∀ ths : List Th, (remT th ths).length ≤ ths.length
  | [] => Nat.le_refl _
  | x :: r => by
    rw [remT]
    split
    · exact Nat.le_succ _
    · exact Nat.succ_le_succ (remT_len th r)
theorem stT_len : ∀ (rs : List Row) (ths : List Th), (rs.foldl stT ths).length ≤ ths.length + rs.length
  | [], _ => Nat.le_refl _
  | r :: rs, ths => by
    refine Nat.le_trans (stT_len rs _) ?_
    have : (stT ths r).length ≤ ths.length + 1 := by
      cases r with
      | put n k => simp [stT]
      | drop n => exact Nat.le_succ_of_le (List.length_filter_le _ _)
      | call c =>
        show (takeT ths c).length ≤ _
        unfold takeT
        split
        · exact Nat.le_succ _
        · exact Nat.le_succ_of_le (remT_len _ _)
    rw [List.length_cons]
    omega
/-- how a Store made by Store(house) enters -/
theorem made_is {H1 : Hp} {x dx C : Addr} (hx : H1 x = none) (hd : H1 dx = none) (ne : dx ≠ x) : Same H1 (upd (upd H1 dx (.own x)) x (.ins C dx [])) := (sm_new hd).trans (sm_new (by rw [upd_ne ne.symm]; exact hx))
def sp_store_behind (K : PySem.W.Frag) : Sp := fun vs H Q E => ∃ x y, vs = [x, y] ∧ ∃ ks cs rs, Tp H x (dH ks cs) ∧ GoodH ks cs ∧ Tp H y (.tuple (rs.map dR)) ∧ rowsOk ks cs [] rs ∧ rs.length ≤ 900 ∧
  ∀ a H' cnt, Sto K H H' a ks cs (nmsOf rs) (thsOf rs) cnt → Q (.ref a) H'
theorem sc_store_behind : FnScope ["house", "rows", "store", "row"] ["house", "rows"] (defScope s_store_behind) := ⟨rfl, rfl, rfl, by decide +kernel, rfl, by decide +kernel, by decide +kernel⟩
theorem c_store_behind (T : Txt K mg) : C8.Cal P w K mg base 7 "store_behind" (sp_store_behind K) [] := by
  refine T.cal 22 16 rfl rfl sc_store_behind
    (fun _ _ _ _ _ _ us h => match us, h with | [_, _], _ => rfl)
    (fun vs H Q E h => by obtain ⟨_, _, rfl, _⟩ := h; rfl) (fun f cdv A outer s H vs Q E hr h => ?_)
  have nd := sc_store_behind.nd
  refine ⟨_, (pss_cons (ps_set (i := 2) nd rfl (.inl rfl) (C8.pe_mk (c_Store_init T) hr (by decide) (by rfl) (pa_cons (pv 0) pa_nil)))
     (pss_cons (ps_for PassesOwn.never rfl (k_piT K (pi_tup (pv 1))) (pg_name (i := 3) nd rfl (by first | exact .inl rfl | exact .inr rfl))
      (pss_one (ps_expr (pe_c (c_do_row T) hr (by decide) (by rfl) (pa_cons (pv 2) (pa_cons (pv 3) pa_nil))))))
     (pss_one (ps_ret (pv 2))))), ?_⟩
  obtain ⟨v0, v1, rfl, h⟩ := h
  rw [show L2.start ["house", "rows", "store", "row"] [v0, v1] = [some v0, some v1, none, none] from rfl]
  obtain ⟨ks, cs, rs, hx, g, hy, ok, hl, q⟩ := h
  obtain ⟨b, ys, rfl, hb, hys⟩ := hy.tup_at
  have hkl := (okNs_len g.names).2
  simp only [tBM, SlX.tMethSl, tSeq, tIfS, tOr, tAnd, tNot, tB, tCB, tCons, tNil, tVar, tC, tTest, tChain, tRet, tRetN, tNext, tOp, tAndV, tOrV, tNotV, tIf, tThen, tYes, tTup, tLst, tCall, tAsg, tDrop, tDNewK, gName, gTup, gCons, gNil, rI0, rI, CMul, CDiv, tUn, rU, rEq, rNe, scal, LenV, RetB, RetD, List.set_cons_zero, List.set_cons_succ, List.getElem?_cons_zero, List.getElem?_cons_succ, Option.some.injEq, exists_eq_left', exists_eq_left, List.cons.injEq, and_true, true_and, V.int.injEq, V.str.injEq, V.bl.injEq, V.ref.injEq, if_true, if_false, Bool.not_true, Bool.not_false, reduceCtorEq, decide_true, decide_false, Bool.false_eq_true, exists_and_left, Bool.not_eq_true', decide_eq_true_eq, decide_eq_false_iff_not, rLenK, tLenSetT, List.append_nil, and_assoc, or_false, false_or, exists_false, false_and, and_false, rGetL, rSetL, gSub, tAugS, ipI, tPart, tNoPart, not_true, not_false_iff, ite_true, ite_false, List.map_cons, List.map_nil, sp_Store_init, sp_do_row]
  refine ⟨_, rfl, fun a dx ha hdx ne => ⟨.ref a, v0, rfl, H, a, dx, ks, cs, rfl, rfl, ha, hdx, ne, hx, g, fun H1 S1 => ⟨rfl, ?_⟩⟩⟩
  have hb1 : H1 b = some (.tup ys) := by
    obtain ⟨_, _, _, _, _, _, _, _, s, _⟩ := S1
    exact s _ _ hb
  refine ⟨_, rfl, b, rfl, ⟨_, .of hb1⟩, for_it (walk_tup (xs := ys)) (fun i σ H3 => ∃ y, σ = [some v0, some (.ref b), some (.ref a), y] ∧ Sto K H H3 a ks cs ((rs.take i).foldl stN []) ((rs.take i).foldl stT []) i) ?_ ?_ ?_ ?_⟩
  · exact ⟨none, rfl, S1⟩
  · rintro i σ H3 _ ⟨y, rfl, S⟩
    obtain ⟨_, _, _, _, _, _, _, _, s, _⟩ := S
    exact .of (s _ _ hb)
  · rintro i x σ H3 H4 hi ⟨y, rfl, S⟩ ⟨rfl, hx1⟩
    obtain ⟨r, hr, tr⟩ := hys.nth hx1
    have s : Same H H4 := by
      obtain ⟨_, _, _, _, _, _, _, _, s, _⟩ := S
      exact s
    have li : i < rs.length := (List.getElem?_eq_some_iff.mp hr).1
    have l1 := stN_len (rs.take i) []
    have l2 := stT_len (rs.take i) []
    rw [List.length_take, List.length_nil] at l1 l2
    simp only [tBM, SlX.tMethSl, tSeq, tIfS, tOr, tAnd, tNot, tB, tCB, tCons, tNil, tVar, tC, tTest, tChain, tRet, tRetN, tNext, tOp, tAndV, tOrV, tNotV, tIf, tThen, tYes, tTup, tLst, tCall, tAsg, tDrop, tDNewK, gName, gTup, gCons, gNil, rI0, rI, CMul, CDiv, tUn, rU, rEq, rNe, scal, LenV, RetB, RetD, List.set_cons_zero, List.set_cons_succ, List.getElem?_cons_zero, List.getElem?_cons_succ, Option.some.injEq, exists_eq_left', exists_eq_left, List.cons.injEq, and_true, true_and, V.int.injEq, V.str.injEq, V.bl.injEq, V.ref.injEq, if_true, if_false, Bool.not_true, Bool.not_false, reduceCtorEq, decide_true, decide_false, Bool.false_eq_true, exists_and_left, Bool.not_eq_true', decide_eq_true_eq, decide_eq_false_iff_not, rLenK, tLenSetT, List.append_nil, and_assoc, or_false, false_or, exists_false, false_and, and_false, rGetL, rSetL, gSub, tAugS, ipI, tPart, tNoPart, not_true, not_false_iff, ite_true, ite_false, List.map_cons, List.map_nil, sp_Store_init, sp_do_row]
    refine ⟨H, ks, cs, _, _, i, S, r, tr.same s, hkl, rowsOk_at ok i r hr, by omega, by omega, by omega, fun H5 S5 => ?_⟩
    rw [List.take_add_one, hr, Option.toList_some, List.foldl_append, List.foldl_append]
    exact S5
  · rintro σ H3 ⟨y, rfl, S⟩
    rw [List.take_of_length_le (by rw [hys.len] <;> exact Nat.le_refl _)] at S
    exact ⟨_, rfl, q a _ _ S⟩
/-- what is told: the index of each call's row, and the name or none -/
def toldAt (ths : List Th) : Nat → List Row → List (Nat × Option Str)
  | _, [] => []
  | i, r :: rs => match r with
    | .call c => (i, tellR ths (.call c)) :: toldAt (stT ths (.call c)) (i + 1) rs
    | r => toldAt (stT ths r) (i + 1) rs
def told (rs : List Row) : List (Nat × Option Str) := toldAt [] 0 rs
def toldD (l : List (Nat × Option Str)) : List (Key × V) := l.map fun p => (.inl (p.1 : Nat), optV p.2)
theorem toldAt_snoc : ∀ (rs : List Row) (ths : List Th) (i : Nat) (r : Row), toldAt ths i (rs ++ [r]) = toldAt ths i rs ++ toldAt (rs.foldl stT ths) (i + rs.length) [r]
  | [], ths, i, r => rfl
  | x :: rs, ths, i, r => by
    have ih := toldAt_snoc rs (stT ths x) (i + 1) r
    have e : i + 1 + rs.length = i + (x :: rs).length := by rw [List.length_cons]; omega
    rw [e] at ih
    cases x with
    | put n k => exact ih
    | drop n => exact ih
    | call c => exact congrArg (List.cons _) ih
theorem toldAt_lt : ∀ (rs : List Row) (ths : List Th) (i : Nat), ∀ p ∈ toldAt ths i rs, i ≤ p.1 ∧ p.1 < i + rs.length
  | [], _, _, p, h => nomatch h
  | x :: rs, ths, i, p, h => by
    have ih : ∀ ths, p ∈ toldAt ths (i + 1) rs → i ≤ p.1 ∧ p.1 < i + (x :: rs).length := fun ths h => by
      have := toldAt_lt rs ths (i + 1) p h
      rw [List.length_cons]
      omega
    cases x with
    | put n k => exact ih _ h
    | drop n => exact ih _ h
    | call c =>
      rcases List.mem_cons.mp h with h | h
      · rw [h]
        show i ≤ i ∧ i < i + (rs.length + 1)
        omega
      · exact ih _ h
theorem toldAt_len : ∀ (rs : List Row) (ths : List Th) (i : Nat), (toldAt ths i rs).length ≤ rs.length
  | [], _, _ => Nat.le_refl _
  | x :: rs, ths, i => by
    cases x with
    | put n k => exact Nat.le_succ_of_le (toldAt_len rs _ _)
    | drop n => exact Nat.le_succ_of_le (toldAt_len rs _ _)
    | call c => exact Nat.succ_le_succ (toldAt_len rs _ _)
theorem toldD_new {l : List (Nat × Option Str)} {i : Nat} (h : ∀ p ∈ l, p.1 < i) (v : V) : putK (toldD l) (.inl (i : Nat)) v = toldD l ++ [(.inl (i : Nat), v)] := by
  refine putK_new v ?_
  unfold toldD valV
  rw [Option.map_eq_none_iff, List.find?_eq_none]
  intro p hp
  obtain ⟨q, hq, rfl⟩ := List.mem_map.mp hp
  have := h q hq
  intro e
  have e2 : (Sum.inl (q.1 : Int) : Key) = .inl (i : Nat) := by simpa using e
  have e3 : (q.1 : Int) = (i : Nat) := by injection e2
  omega
def sp_told_by (K : PySem.W.Frag) : Sp := fun vs H Q E => ∃ x y, vs = [x, y] ∧ ∃ ks cs rs, Tp H x (dH ks cs) ∧ GoodH ks cs ∧ Tp H y (.tuple (rs.map dR)) ∧ rowsOk ks cs [] rs ∧ rs.length ≤ 900 ∧
  ∀ D o H', Same H H' → H' D = some (.frz o (.dK (toldD (told rs)))) → Q (.ref D) H'
theorem sc_told_by : FnScope ["house", "log", "store", "found", "index", "row", "name"] ["house", "log"] (defScope s_told_by) := ⟨rfl, rfl, rfl, by decide +kernel, rfl, by decide +kernel, by decide +kernel⟩
theorem c_told_by (T : Txt K mg) : C8.Cal P w K mg base 7 "told_by" (sp_told_by K) [] := by
  refine T.cal 23 17 rfl rfl sc_told_by
    (fun _ _ _ _ _ _ us h => match us, h with | [_, _], _ => rfl)
    (fun vs H Q E h => by obtain ⟨_, _, rfl, _⟩ := h; rfl) (fun f cdv A outer s H vs Q E hr h => ?_)
  have nd := sc_told_by.nd
  refine ⟨_, (pss_cons (ps_par (i := 2) (j := 3) rfl nd rfl rfl (by decide) rfl rfl (pa_cons (C8.pe_mk (c_Store_init T) hr (by decide) (by rfl) (pa_cons (pv 0) pa_nil)) (pa_cons pe_dnewK pa_nil)) rfl)
     (pss_cons (ps_for PassesOwn.never rfl (k_enumT K (pi_enumT (by rfl) (T.free 60) (pa_cons (pv 1) pa_nil))) (k_tup K (pg_tup (n := 2) rfl (pgs_cons (pg_name (i := 4) nd rfl (by first | exact .inl rfl | exact .inr rfl)) (pgs_cons (pg_name (i := 5) nd rfl (by first | exact .inl rfl | exact .inr rfl)) pgs_nil))))
      (pss_cons (ps_set (i := 6) nd rfl (.inl rfl) (pe_c (c_do_row T) hr (by decide) (by rfl) (pa_cons (pv 2) (pa_cons (pv 5) pa_nil))))
     (pss_one (ps_if (pt_cmpR op_eq (pe_ix (k_ixT K) (pv 5) pe_int (fun _ _ => rfl)) pe_str rfl) (pss_one (ps_dput (hu_of hr) (pv 3) (pv 4) (pv 6) rfl)) pss_nil))))
     (pss_one (ps_ret (pe_frz (pv 3)))))), ?_⟩
  obtain ⟨v0, v1, rfl, h⟩ := h
  rw [show L2.start ["house", "log", "store", "found", "index", "row", "name"] [v0, v1] = [some v0, some v1, none, none, none, none, none] from rfl]
  obtain ⟨ks, cs, rs, hx, g, hy, ok, hl, q⟩ := h
  obtain ⟨b, ys, rfl, hb, hys⟩ := hy.tup_at
  have hkl := (okNs_len g.names).2
  simp only [tBM, SlX.tMethSl, tSeq, tIfS, tOr, tAnd, tNot, tB, tCB, tCons, tNil, tVar, tC, tTest, tChain, tRet, tRetN, tNext, tOp, tAndV, tOrV, tNotV, tIf, tThen, tYes, tTup, tLst, tCall, tAsg, tDrop, tDNewK, gName, gTup, gCons, gNil, rI0, rI, CMul, CDiv, tUn, rU, rEq, rNe, scal, LenV, RetB, RetD, List.set_cons_zero, List.set_cons_succ, List.getElem?_cons_zero, List.getElem?_cons_succ, Option.some.injEq, exists_eq_left', exists_eq_left, List.cons.injEq, and_true, true_and, V.int.injEq, V.str.injEq, V.bl.injEq, V.ref.injEq, if_true, if_false, Bool.not_true, Bool.not_false, reduceCtorEq, decide_true, decide_false, Bool.false_eq_true, exists_and_left, Bool.not_eq_true', decide_eq_true_eq, decide_eq_false_iff_not, rLenK, tLenSetT, List.append_nil, and_assoc, or_false, false_or, exists_false, false_and, and_false, rGetL, rSetL, gSub, tAugS, ipI, tPart, tNoPart, not_true, not_false_iff, ite_true, ite_false, List.map_cons, List.map_nil, sp_Store_init, sp_do_row]
  refine ⟨_, rfl, fun a dx ha hdx ne => ⟨.ref a, v0, rfl, H, a, dx, ks, cs, rfl, rfl, ha, hdx, ne, hx, g, fun H1 S1 => ⟨rfl, fun D hD => ⟨.ref a, .ref D, rfl, ?_⟩⟩⟩⟩
  have hD0 : H D = none := S1.sm.free hD
  have S2 := S1.grow (o := .dK []) hD
  have hb2 := S2.sm _ _ ((sm_new (o := .dK []) hD0) _ _ hb)
  refine ⟨_, rfl, b, ys, rfl, .of hb2, for_it (walk_enumT (xs := ys)) (fun i σ H3 => ∃ y z u, σ = [some v0, some (.ref b), some (.ref a), some (.ref D), y, z, u] ∧
    Sto K (upd H D (.dK (toldD (toldAt [] 0 (rs.take i))))) H3 a ks cs ((rs.take i).foldl stN []) ((rs.take i).foldl stT []) i) ?_ ?_ ?_ ?_⟩
  · exact ⟨none, none, none, rfl, S2⟩
  · rintro i σ H3 _ ⟨y, z, u, rfl, S⟩
    exact .of (S.sm _ _ ((sm_new hD0) _ _ hb))
  · rintro i x σ H3 H4 hi ⟨y, z, u, rfl, S⟩ ⟨T2, x1, x2, rfl, hT, rfl, f1, f2⟩
    cases f1
    obtain ⟨r, hr, tr⟩ := hys.nth f2
    have li : i < rs.length := (List.getElem?_eq_some_iff.mp hr).1
    have l1 := stN_len (rs.take i) []
    have l2 := stT_len (rs.take i) []
    rw [List.length_take, List.length_nil] at l1 l2
    have S4 := S.same (sm_new (o := .tup [.int (i : Nat), x2]) hT)
    have sH : ∀ {o : HO} {H' : Hp}, Same (upd H D o) H' → Same H H' := fun s => (sm_new hD0).trans s
    refine ⟨T2, [.int (i : Nat), x2], rfl, .of upd_same, rfl, _, _, rfl, _, _, rfl, rfl, ?_⟩
    simp only [tBM, SlX.tMethSl, tSeq, tIfS, tOr, tAnd, tNot, tB, tCB, tCons, tNil, tVar, tC, tTest, tChain, tRet, tRetN, tNext, tOp, tAndV, tOrV, tNotV, tIf, tThen, tYes, tTup, tLst, tCall, tAsg, tDrop, tDNewK, gName, gTup, gCons, gNil, rI0, rI, CMul, CDiv, tUn, rU, rEq, rNe, scal, LenV, RetB, RetD, List.set_cons_zero, List.set_cons_succ, List.getElem?_cons_zero, List.getElem?_cons_succ, Option.some.injEq, exists_eq_left', exists_eq_left, List.cons.injEq, and_true, true_and, V.int.injEq, V.str.injEq, V.bl.injEq, V.ref.injEq, if_true, if_false, Bool.not_true, Bool.not_false, reduceCtorEq, decide_true, decide_false, Bool.false_eq_true, exists_and_left, Bool.not_eq_true', decide_eq_true_eq, decide_eq_false_iff_not, rLenK, tLenSetT, List.append_nil, and_assoc, or_false, false_or, exists_false, false_and, and_false, rGetL, rSetL, gSub, tAugS, ipI, tPart, tNoPart, not_true, not_false_iff, ite_true, ite_false, List.map_cons, List.map_nil, sp_Store_init, sp_do_row]
    refine ⟨_, ks, cs, _, _, i, S4, r, tr.same (sH S4.sm), hkl, rowsOk_at ok i r hr, by omega, by omega, by omega, fun H5 S5 => ?_⟩
    have hN : (rs.take (i + 1)).foldl stN [] = stN ((rs.take i).foldl stN []) r := by
      rw [List.take_add_one, hr, Option.toList_some, List.foldl_append]
      rfl
    have hT' : (rs.take (i + 1)).foldl stT [] = stT ((rs.take i).foldl stT []) r := by
      rw [List.take_add_one, hr, Option.toList_some, List.foldl_append]
      rfl
    have hA : toldAt [] 0 (rs.take (i + 1)) = toldAt [] 0 (rs.take i) ++ toldAt ((rs.take i).foldl stT []) i [r] := by
      rw [List.take_add_one, hr, Option.toList_some, toldAt_snoc, List.length_take, Nat.zero_add, Nat.min_eq_left (Nat.le_of_lt li)]
    have t5 := tr.same (sH S5.sm)
    rw [hN, hT', hA]
    cases r with
    | put n k =>
      obtain ⟨b2, w1, w2, w3, rfl, hb3, h1, h2, h3⟩ := t5.three
      cases h1
      refine ⟨b2, _, 0, _, rfl, rfl, .of hb3, rfl, ?_⟩
      simp only [tBM, SlX.tMethSl, tSeq, tIfS, tOr, tAnd, tNot, tB, tCB, tCons, tNil, tVar, tC, tTest, tChain, tRet, tRetN, tNext, tOp, tAndV, tOrV, tNotV, tIf, tThen, tYes, tTup, tLst, tCall, tAsg, tDrop, tDNewK, gName, gTup, gCons, gNil, rI0, rI, CMul, CDiv, tUn, rU, rEq, rNe, scal, LenV, RetB, RetD, List.set_cons_zero, List.set_cons_succ, List.getElem?_cons_zero, List.getElem?_cons_succ, Option.some.injEq, exists_eq_left', exists_eq_left, List.cons.injEq, and_true, true_and, V.int.injEq, V.str.injEq, V.bl.injEq, V.ref.injEq, if_true, if_false, Bool.not_true, Bool.not_false, reduceCtorEq, decide_true, decide_false, Bool.false_eq_true, exists_and_left, Bool.not_eq_true', decide_eq_true_eq, decide_eq_false_iff_not, rLenK, tLenSetT, List.append_nil, and_assoc, or_false, false_or, exists_false, false_and, and_false, rGetL, rSetL, gSub, tAugS, ipI, tPart, tNoPart, not_true, not_false_iff, ite_true, ite_false, List.map_cons, List.map_nil, sp_Store_init, sp_do_row, ne_cp, ne_pc, ne_dp, ne_pd, ne_cd, ne_dc]
      rw [show toldAt ((rs.take i).foldl stT []) i [Row.put n k] = [] from rfl, List.append_nil]
      exact S5
    | drop n =>
      obtain ⟨b2, w1, w2, rfl, hb3, h1, h2⟩ := t5.two
      cases h1
      refine ⟨b2, _, 0, _, rfl, rfl, .of hb3, rfl, ?_⟩
      simp only [tBM, SlX.tMethSl, tSeq, tIfS, tOr, tAnd, tNot, tB, tCB, tCons, tNil, tVar, tC, tTest, tChain, tRet, tRetN, tNext, tOp, tAndV, tOrV, tNotV, tIf, tThen, tYes, tTup, tLst, tCall, tAsg, tDrop, tDNewK, gName, gTup, gCons, gNil, rI0, rI, CMul, CDiv, tUn, rU, rEq, rNe, scal, LenV, RetB, RetD, List.set_cons_zero, List.set_cons_succ, List.getElem?_cons_zero, List.getElem?_cons_succ, Option.some.injEq, exists_eq_left', exists_eq_left, List.cons.injEq, and_true, true_and, V.int.injEq, V.str.injEq, V.bl.injEq, V.ref.injEq, if_true, if_false, Bool.not_true, Bool.not_false, reduceCtorEq, decide_true, decide_false, Bool.false_eq_true, exists_and_left, Bool.not_eq_true', decide_eq_true_eq, decide_eq_false_iff_not, rLenK, tLenSetT, List.append_nil, and_assoc, or_false, false_or, exists_false, false_and, and_false, rGetL, rSetL, gSub, tAugS, ipI, tPart, tNoPart, not_true, not_false_iff, ite_true, ite_false, List.map_cons, List.map_nil, sp_Store_init, sp_do_row, ne_cp, ne_pc, ne_dp, ne_pd, ne_cd, ne_dc]
      rw [show toldAt ((rs.take i).foldl stT []) i [Row.drop n] = [] from rfl, List.append_nil]
      exact S5
    | call c =>
      obtain ⟨b2, w1, w2, rfl, hb3, h1, h2⟩ := t5.two
      cases h1
      refine ⟨b2, _, 0, _, rfl, rfl, .of hb3, rfl, ?_⟩
      simp only [tBM, SlX.tMethSl, tSeq, tIfS, tOr, tAnd, tNot, tB, tCB, tCons, tNil, tVar, tC, tTest, tChain, tRet, tRetN, tNext, tOp, tAndV, tOrV, tNotV, tIf, tThen, tYes, tTup, tLst, tCall, tAsg, tDrop, tDNewK, gName, gTup, gCons, gNil, rI0, rI, CMul, CDiv, tUn, rU, rEq, rNe, scal, LenV, RetB, RetD, List.set_cons_zero, List.set_cons_succ, List.getElem?_cons_zero, List.getElem?_cons_succ, Option.some.injEq, exists_eq_left', exists_eq_left, List.cons.injEq, and_true, true_and, V.int.injEq, V.str.injEq, V.bl.injEq, V.ref.injEq, if_true, if_false, Bool.not_true, Bool.not_false, reduceCtorEq, decide_true, decide_false, Bool.false_eq_true, exists_and_left, Bool.not_eq_true', decide_eq_true_eq, decide_eq_false_iff_not, rLenK, tLenSetT, List.append_nil, and_assoc, or_false, false_or, exists_false, false_and, and_false, rGetL, rSetL, gSub, tAugS, ipI, tPart, tNoPart, not_true, not_false_iff, ite_true, ite_false, List.map_cons, List.map_nil, sp_Store_init, sp_do_row, ne_cp, ne_pc, ne_dp, ne_pd, ne_cd, ne_dc]
      have eD := S5.sm _ _ upd_same
      have lt : ∀ p ∈ toldAt [] 0 (rs.take i), p.1 < i := fun p hp => by
        have := (toldAt_lt _ _ _ p hp).2
        rw [List.length_take] at this
        omega
      refine ⟨_, rfl, _, rfl, _, rfl, D, _, rfl, DPut.k (k := .inl (i : Nat)) eD ?_, ?_⟩
      · unfold toldD
        rw [List.length_map]
        have := toldAt_len (rs.take i) [] 0
        rw [List.length_take] at this
        exact lt1 (by omega)
      · rw [toldD_new lt]
        simp only [tBM, SlX.tMethSl, tSeq, tIfS, tOr, tAnd, tNot, tB, tCB, tCons, tNil, tVar, tC, tTest, tChain, tRet, tRetN, tNext, tOp, tAndV, tOrV, tNotV, tIf, tThen, tYes, tTup, tLst, tCall, tAsg, tDrop, tDNewK, gName, gTup, gCons, gNil, rI0, rI, CMul, CDiv, tUn, rU, rEq, rNe, scal, LenV, RetB, RetD, List.set_cons_zero, List.set_cons_succ, List.getElem?_cons_zero, List.getElem?_cons_succ, Option.some.injEq, exists_eq_left', exists_eq_left, List.cons.injEq, and_true, true_and, V.int.injEq, V.str.injEq, V.bl.injEq, V.ref.injEq, if_true, if_false, Bool.not_true, Bool.not_false, reduceCtorEq, decide_true, decide_false, Bool.false_eq_true, exists_and_left, Bool.not_eq_true', decide_eq_true_eq, decide_eq_false_iff_not, rLenK, tLenSetT, List.append_nil, and_assoc, or_false, false_or, exists_false, false_and, and_false, rGetL, rSetL, gSub, tAugS, ipI, tPart, tNoPart, not_true, not_false_iff, ite_true, ite_false, List.map_cons, List.map_nil, sp_Store_init, sp_do_row]
        have := S5.other (o' := .dK (toldD (toldAt [] 0 (rs.take i)) ++ [(.inl (i : Nat), optV (tellR ((rs.take i).foldl stT []) (.call c)))])) (fun _ q => by cases q)
        rw [show toldAt ((rs.take i).foldl stT []) i [Row.call c] = [(i, tellR ((rs.take i).foldl stT []) (.call c))] from rfl]
        unfold toldD at this ⊢
        rw [List.map_append]
        exact this
  · rintro σ H3 ⟨y, z, u, rfl, S⟩
    rw [List.take_of_length_le (by rw [hys.len] <;> exact Nat.le_refl _)] at S
    have eD := S.sm _ _ upd_same
    exact ⟨_, rfl, D, _, rfl, eD, trivial, fun od => q D od _ (sm_upd ((sm_new hD0).trans S.sm) hD0) upd_same⟩
end
end C9
/-! ## F7 -/
set_option maxHeartbeats 4000000
namespace C9
open PySem PySem.Spec PyProof.Rows L2 C8
/-- a fresh list of texts -/
def RetL (ws : List Str) (H : Hp) (Q : VK) : Prop := ∀ p H', Same H H' → H p = none → H' p = some (.lst (ws.map V.str)) → Q (.ref p) H'
/-- the words of a row's line -/
def rowW : Row → List Str
  | .put n k => ["put", n, k]
  | .drop n => ["drop", n]
  | .call c => "call" :: c
/-- a list of (index, list of words) -/
def IxW (H : Hp) (D : Addr) (v : V) (p : Nat × List Str) : Prop := ∃ T l, v = .ref T ∧ H T = some (.tup [.int (p.1 : Nat), .ref l]) ∧ T ≠ D ∧ l ≠ D ∧ H l = some (.lst (p.2.map V.str))
theorem IxW.but {H H' : Hp} {D : Addr} {v : V} {p : Nat × List Str} (s : SameBut D H H') (h : IxW H D v p) : IxW H' D v p := by
  obtain ⟨T, l, e, a, b, c, d⟩ := h
  exact ⟨T, l, e, s _ _ b a, b, c, s _ _ c d⟩
theorem paired_but {H H' : Hp} {D : Addr} (s : SameBut D H H') : ∀ {acc : List V} {ps : List (Nat × List Str)}, Paired (IxW H D) acc ps → Paired (IxW H' D) acc ps
  | _, _, .nil => .nil
  | _, _, .cons a r => .cons (a.but s) (paired_but s r)
theorem paired_snoc {α β : Type} {R : α → β → Prop} {x : α} {y : β} (h : R x y) : ∀ {l : List α} {m : List β}, Paired R l m → Paired R (l ++ [x]) (m ++ [y])
  | _, _, .nil => .cons h .nil
  | _, _, .cons a r => .cons a (paired_snoc h r)
theorem paired_at {α β : Type} {R : α → β → Prop} : ∀ {l : List α} {m : List β} {i : Nat} {x : α}, Paired R l m → l[i]? = some x → ∃ y, m[i]? = some y ∧ R x y
  | [], _, _, _, _, e => by simp at e
  | _ :: _, [], _, _, h, _ => nomatch h
  | _ :: _, _ :: _, 0, _, .cons a _, e => ⟨_, rfl, by rw [← Option.some.inj e]; exact a⟩
  | _ :: l, _ :: m, i + 1, _, .cons _ r, e => paired_at (l := l) (m := m) (i := i) r e
theorem paired_len {α β : Type} {R : α → β → Prop} : ∀ {l : List α} {m : List β}, Paired R l m → l.length = m.length
  | _, _, .nil => rfl
  | _, _, .cons _ r => congrArg Nat.succ (paired_len r)
/-- the lines of the text of wss, each with its words -/
def rawL (wss : List (List Str)) : List (List Str) := if wss = [] then [[]] else wss
section
variable {K : PySem.W.Frag} {mg : Str → Option Value} {P : Program} {w : World} {base : Heap}
def sp_there_at (K : PySem.W.Frag) : Sp := fun vs H Q E => ∃ x y z, vs = [x, y, z] ∧ ∃ ks cs rs, Tp H x (dH ks cs) ∧ GoodH ks cs ∧ Tp H y (.tuple (rs.map dR)) ∧ z = .int (rs.length : Nat) ∧ rowsOk ks cs [] rs ∧ rs.length ≤ 900 ∧
  ∀ p xs H', Same H H' → H p = none → H' p = some (.lst xs) → TpAll H' xs ((thsOf rs).map dT) → Q (.ref p) H'
theorem sc_there_at : FnScope ["house", "log", "moment"] ["house", "log", "moment"] (defScope s_there_at) := ⟨rfl, rfl, rfl, by decide +kernel, rfl, by decide +kernel, by decide +kernel⟩
theorem c_there_at (T : Txt K mg) : C8.Cal P w K mg base 8 "there_at" (sp_there_at K) [] := by
  refine T.cal 24 18 rfl rfl sc_there_at
    (fun _ _ _ _ _ _ us h => match us, h with | [_, _, _], _ => rfl)
    (fun vs H Q E h => by obtain ⟨_, _, _, rfl, _⟩ := h; rfl) (fun f cdv A outer s H vs Q E hr h => ?_)
  have nd := sc_there_at.nd
  refine ⟨_, (pss_one (ps_ret (SlX.pe_methSl0 (E := C8.E0) (pe_c (c_store_behind T) hr (by decide) (by rfl) (pa_cons (pv 0) (pa_cons (pe_slice (k_slT K) (pv 1) po_none (po_some (pv 2))) pa_nil))) T.scls (c_Store_there (P := P) (w := w) (base := base) T).mt (c_Store_there (P := P) (w := w) (base := base) T).fn (hr.mono (by decide)) C8.pass0))), ?_⟩
  obtain ⟨v0, v1, v2, rfl, h⟩ := h
  rw [show L2.start ["house", "log", "moment"] [v0, v1, v2] = [some v0, some v1, some v2] from rfl]
  obtain ⟨ks, cs, rs, hx, g, hy, rfl, ok, hl, q⟩ := h
  obtain ⟨b, ys, rfl, hb, hys⟩ := hy.tup_at
  have e : HT.sIx ys.length 0 none = 0 ∧ HT.sIx ys.length ys.length (some ((rs.length : Nat) : Int)) = ys.length := ⟨rfl, by rw [HT.sIx_nat, hys.len, Nat.min_self]⟩
  refine ⟨_, rfl, _, rfl, _, rfl, _, rfl, b, ys, rfl, .of hb, fun _ => ?_, fun hn => absurd e hn⟩
  refine ⟨v0, .ref b, rfl, ks, cs, rs, hx, g, hy, ok, hl, fun a H1 cnt S => ?_⟩
  obtain ⟨dx, n, r, t, hv, xs, zs, S0, s0, f, hc⟩ := id S
  exact ⟨a, dx, _, rfl, S0.slt, .ref a, rfl, H, a, ks, cs, _, _, cnt, rfl, S, fun p xs H2 s e hp r => q p xs H2 (s0.trans s) (s0.free hp) e r⟩
def sp_words_of (K : PySem.W.Frag) : Sp := fun vs H Q E => ∃ x, vs = [x] ∧ ∃ z, x = .str z ∧ z.length ≤ 1000000 ∧ (Txt.split z " ").length ≤ 1000 ∧ RetL (wordsOf z) H Q
theorem sc_words_of : FnScope ["line", "word"] ["line"] (defScope s_words_of) := ⟨rfl, rfl, rfl, by decide +kernel, rfl, by decide +kernel, by decide +kernel⟩
theorem c_words_of (T : Txt K mg) : C8.Cal P w K mg base 1 "words_of" (sp_words_of K) [] := by
  refine T.cal 25 19 rfl rfl sc_words_of
    (fun _ _ _ _ _ _ us h => match us, h with | [_], _ => rfl)
    (fun vs H Q E h => by obtain ⟨_, rfl, _⟩ := h; rfl) (fun f cdv A outer s H vs Q E hr h => ?_)
  have nd := sc_words_of.nd
  refine ⟨_, (pss_one (ps_ret (pe_lc rfl nd (k_piL K (pi_list (pe_split (pv 0) pe_str))) (blkOk_by (own := [("word", 1)]) (by rfl)) (fun _ _ _ _ _ => (pg_name (i := 1) nd rfl (by first | exact .inl rfl | exact .inr rfl))) (fun _ _ _ _ _ => (pts_one (pt_cmpR op_ne (pv 1) pe_str rfl))) (fun _ _ _ _ _ => (pv 1))))), ?_⟩
  obtain ⟨v0, rfl, h⟩ := h
  rw [show L2.start ["line", "word"] [v0] = [some v0, none] from rfl]
  obtain ⟨z, rfl, hz, hl, q⟩ := h
  have hz2 : z.length + 2 ≤ sizeLine := Nat.le_trans (by omega : _ ≤ 1000002) (by decide)
  refine ⟨_, rfl, ⟨z, rfl⟩, z, " ", rfl, rfl, rfl, hz2, fun p hp => ⟨p, rfl, ⟨_, .of upd_same⟩, fun D hD => lc_rel walk_list hD ?_ (RlF (fun k : Str => if k ≠ ("" : Str) then some (.str k) else none) (Txt.split z " ")) .zero (fun H sm => .of (sm _ _ upd_same)) ?_ ?_⟩⟩
  · rw [List.length_map]
    exact lt1 hl
  · rintro i ds x H2 H3 Qe Qs hi sm rl ⟨rfl, hx1⟩ ke ks'
    obtain ⟨k, hk, rfl⟩ := List.getElem?_map.symm.trans hx1 |> Option.map_eq_some_iff.mp
    refine ⟨rfl, ?_⟩
    simp only [tBM, SlX.tMethSl, tSeq, tIfS, tOr, tAnd, tNot, tB, tCB, tCons, tNil, tVar, tC, tTest, tChain, tRet, tRetN, tNext, tOp, tAndV, tOrV, tNotV, tIf, tThen, tYes, tTup, tLst, tCall, tAsg, tDrop, tDNewK, gName, gTup, gCons, gNil, rI0, rI, CMul, CDiv, tUn, rU, rEq, rNe, scal, LenV, RetB, RetD, List.set_cons_zero, List.set_cons_succ, List.getElem?_cons_zero, List.getElem?_cons_succ, Option.some.injEq, exists_eq_left', exists_eq_left, List.cons.injEq, and_true, true_and, V.int.injEq, V.str.injEq, V.bl.injEq, V.ref.injEq, if_true, if_false, Bool.not_true, Bool.not_false, reduceCtorEq, decide_true, decide_false, Bool.false_eq_true, exists_and_left, Bool.not_eq_true', decide_eq_true_eq, decide_eq_false_iff_not, rLenK, tLenSetT, List.append_nil, and_assoc, or_false, false_or, exists_false, false_and, and_false, rGetL, rSetL, gSub, tAugS, ipI, tPart, tNoPart, not_true, not_false_iff, ite_true, ite_false, List.map_cons, List.map_nil, wipe]
    by_cases e : k = ("" : Str)
    · rw [if_neg (not_not_intro e)]
      exact ks' _ (.refl _) (rl.skip hk (by simp [e]))
    · rw [if_pos e]
      exact ke _ _ _ (.refl _) (.str k) (rl.put hk (by simp [e]))
  · intro H2 acc ds s2 e r rl _
    have hds := rl.all (by rw [List.length_map] <;> exact Nat.le_refl _)
    rw [filter_ite] at hds
    subst hds
    have ha := TpAll.strs.mp r
    subst ha
    exact q D H2 ((sm_new hp).trans s2) ((sm_new hp).free hD) e
/-- the indices and words of a text's rows -/
def ixs (wss : List (List Str)) : List (Nat × List Str) := wss.zipIdx.map fun p => (p.2, p.1)
theorem ixs_at {wss : List (List Str)} {i : Nat} : (ixs wss)[i]? = wss[i]?.map fun ws => (i, ws) := by
  unfold ixs
  rw [List.getElem?_map, List.getElem?_zipIdx]
  cases wss[i]? with
  | none => rfl
  | some ws => simp
def sp_said_lines (K : PySem.W.Frag) : Sp := fun vs H Q E => ∃ x, vs = [x] ∧ ∃ wss, x = .str (textW wss) ∧ wss.length ≤ 100 ∧ (∀ ws ∈ wss, ws ≠ [] ∧ ws.length ≤ 100 ∧ ∀ w ∈ ws, okN w = true) ∧
  ∀ p acc H', Same H H' → H p = none → H' p = some (.lst acc) → Paired (IxW H' p) acc (ixs wss) → Q (.ref p) H'
theorem sc_said_lines : FnScope ["text", "rows", "index", "line", "words"] ["text"] (defScope s_said_lines) := ⟨rfl, rfl, rfl, by decide +kernel, rfl, by decide +kernel, by decide +kernel⟩
theorem c_said_lines (T : Txt K mg) : C8.Cal P w K mg base 2 "said_lines" (sp_said_lines K) [] := by
  refine T.cal 26 20 rfl rfl sc_said_lines
    (fun _ _ _ _ _ _ us h => match us, h with | [_], _ => rfl)
    (fun vs H Q E h => by obtain ⟨_, rfl, _⟩ := h; rfl) (fun f cdv A outer s H vs Q E hr h => ?_)
  have nd := sc_said_lines.nd
  refine ⟨_, (pss_cons (ps_setLc (i := 1) rfl nd rfl rfl rfl (k_enum K (pi_enum (by rfl) (T.free 60) (pa_cons (pe_split (pv 0) (pe_gc (by rfl) (T.str 72))) pa_nil))) (blkOk_by (own := [("index", 2), ("line", 3)]) (by rfl)) (fun _ _ _ _ _ => (k_tup K (pg_tup (n := 2) rfl (pgs_cons (pg_name (i := 2) nd rfl (by first | exact .inl rfl | exact .inr rfl)) (pgs_cons (pg_name (i := 3) nd rfl (by first | exact .inl rfl | exact .inr rfl)) pgs_nil))))) (fun _ _ _ _ _ => pts_nil) (fun _ _ _ _ _ => (pe_tup (pa_cons (pv 2) (pa_cons (pe_c (c_words_of T) hr (by decide) (by rfl) (pa_cons (pe_ix (k_ixL K) (pe_split (pv 3) pe_str) pe_int (fun _ _ => rfl)) pa_nil)) pa_nil)))))
     (pss_one (ps_ret (pe_lc rfl nd (k_piL K (pi_list (pv 1))) (blkOk_by (own := [("index", 2), ("words", 4)]) (by rfl)) (fun _ _ _ _ _ => (k_tup K (pg_tup (n := 2) rfl (pgs_cons (pg_name (i := 2) nd rfl (by first | exact .inl rfl | exact .inr rfl)) (pgs_cons (pg_name (i := 4) nd rfl (by first | exact .inl rfl | exact .inr rfl)) pgs_nil))))) (fun _ _ _ _ _ => (pts_one (pt_cmpR (k_neA K (α := (List Str)) hr (by decide)) (pv 4) (pe_lst pa_nil) rfl))) (fun _ _ _ _ _ => (pe_tup (pa_cons (pv 2) (pa_cons (pv 4) pa_nil)))))))), ?_⟩
  obtain ⟨v0, rfl, h⟩ := h
  rw [show L2.start ["text", "rows", "index", "line", "words"] [v0] = [some v0, none, none, none, none] from rfl]
  obtain ⟨wss, rfl, hl, hw, q⟩ := h
  have tl := text_len (wss := wss) fun ws h => (hw ws h).2
  have hz2 : (textW wss).length + 2 ≤ sizeLine := Nat.le_trans (by omega : _ ≤ 70102) (by decide)
  let ls : List Str := Txt.split (textW wss) "\n"
  have hls : ∀ i z, ls[i]? = some z → (Txt.split z "#") = [z] ∧ z.length ≤ 1000000 ∧ (Txt.split z " ").length ≤ 1000 ∧ wordsOf z = (rawL wss).getD i [] := fun i z h => by
    by_cases e : wss = []
    · subst e
      rw [show ls = [("" : Str)] from text_nil] at h
      cases i with
      | zero =>
        cases h
        exact ⟨by decide +kernel, by decide +kernel, by decide +kernel, by decide +kernel⟩
      | succ i => simp at h
    · rw [show ls = wss.map lineW from text_lines e fun ws h => (hw ws h).2.2] at h
      obtain ⟨ws, hws, rfl⟩ := List.getElem?_map.symm.trans h |> Option.map_eq_some_iff.mp
      have g := hw ws (List.mem_of_getElem? hws)
      have l7 := line_len g.2.2
      refine ⟨line_hash g.2.2, by omega, ?_, ?_⟩
      · have : Txt.split (lineW ws) " " = ws := by
          unfold lineW
          rw [show (" " : Str) = ⟨#[32]⟩ from sp_is]
          exact split_join 32 (by decide) ws g.1 (fun w hw => okN_free (g.2.2 w hw) (by decide))
        rw [this]
        omega
      · rw [wordsOf_line g.1 g.2.2]
        unfold rawL
        rw [if_neg e, List.getD_eq_getElem?_getD, hws]
        rfl
  have hll : ls.length = (rawL wss).length := by
    by_cases e : wss = []
    · subst e
      rw [show ls = [("" : Str)] from text_nil]
      rfl
    · rw [show ls = wss.map lineW from text_lines e fun ws h => (hw ws h).2.2]
      unfold rawL
      rw [if_neg e, List.length_map]
  have hrl : (rawL wss).length ≤ 100 := by
    unfold rawL
    split
    · decide
    · exact hl
  refine ⟨_, rfl, ⟨_, rfl⟩, _, "\n", rfl, rfl, rfl, hz2, fun p hp => ?_⟩
  refine ⟨p, ls.map V.str, rfl, .of upd_same, fun D hD => lc_gen walk_enum hD ?_ (fun i acc H => Paired (IxW H D) acc (ixs ((rawL wss).take i))) (fun _ => .nil) (fun H sm => .of (sm _ _ upd_same)) (fun i acc H H' s r => paired_but s r) ?_ ?_⟩
  · rw [List.length_map, hll]
    exact lt1 (by omega)
  · rintro i acc x H2 H3 Qe Qs hi sm ⟨l, eD⟩ r ⟨T2, x1, x2, rfl, hT, rfl, f1, f2⟩ ke _
    cases f1
    obtain ⟨z, hz, rfl⟩ := List.getElem?_map.symm.trans f2 |> Option.map_eq_some_iff.mp
    obtain ⟨h1, h2, h3, h4⟩ := hls i z hz
    refine ⟨T2, [.int (i : Nat), .str z], rfl, .of upd_same, rfl, _, _, rfl, _, _, rfl, rfl, ?_⟩
    simp only [tBM, SlX.tMethSl, tSeq, tIfS, tOr, tAnd, tNot, tB, tCB, tCons, tNil, tVar, tC, tTest, tChain, tRet, tRetN, tNext, tOp, tAndV, tOrV, tNotV, tIf, tThen, tYes, tTup, tLst, tCall, tAsg, tDrop, tDNewK, gName, gTup, gCons, gNil, rI0, rI, CMul, CDiv, tUn, rU, rEq, rNe, scal, LenV, RetB, RetD, List.set_cons_zero, List.set_cons_succ, List.getElem?_cons_zero, List.getElem?_cons_succ, Option.some.injEq, exists_eq_left', exists_eq_left, List.cons.injEq, and_true, true_and, V.int.injEq, V.str.injEq, V.bl.injEq, V.ref.injEq, if_true, if_false, Bool.not_true, Bool.not_false, reduceCtorEq, decide_true, decide_false, Bool.false_eq_true, exists_and_left, Bool.not_eq_true', decide_eq_true_eq, decide_eq_false_iff_not, rLenK, tLenSetT, List.append_nil, and_assoc, or_false, false_or, exists_false, false_and, and_false, rGetL, rSetL, gSub, tAugS, ipI, tPart, tNoPart, not_true, not_false_iff, ite_true, ite_false, List.map_cons, List.map_nil, sp_words_of, wipe]
    refine ⟨_, rfl, ⟨z, rfl⟩, z, rfl, "#", rfl, rfl, Nat.le_trans (Nat.add_le_add_right h2 2) (by decide), fun l1 hl1 => ?_⟩
    rw [h1]
    refine ⟨l1, _, 0, .str z, rfl, rfl, .of upd_same, rfl, ?_⟩
    simp only [tBM, SlX.tMethSl, tSeq, tIfS, tOr, tAnd, tNot, tB, tCB, tCons, tNil, tVar, tC, tTest, tChain, tRet, tRetN, tNext, tOp, tAndV, tOrV, tNotV, tIf, tThen, tYes, tTup, tLst, tCall, tAsg, tDrop, tDNewK, gName, gTup, gCons, gNil, rI0, rI, CMul, CDiv, tUn, rU, rEq, rNe, scal, LenV, RetB, RetD, List.set_cons_zero, List.set_cons_succ, List.getElem?_cons_zero, List.getElem?_cons_succ, Option.some.injEq, exists_eq_left', exists_eq_left, List.cons.injEq, and_true, true_and, V.int.injEq, V.str.injEq, V.bl.injEq, V.ref.injEq, if_true, if_false, Bool.not_true, Bool.not_false, reduceCtorEq, decide_true, decide_false, Bool.false_eq_true, exists_and_left, Bool.not_eq_true', decide_eq_true_eq, decide_eq_false_iff_not, rLenK, tLenSetT, List.append_nil, and_assoc, or_false, false_or, exists_false, false_and, and_false, rGetL, rSetL, gSub, tAugS, ipI, tPart, tNoPart, not_true, not_false_iff, ite_true, ite_false, List.map_cons, List.map_nil, sp_words_of]
    refine ⟨h2, h3, fun l2 H5 s5 n5 e5 => ⟨by show 2 ≤ _; decide, fun T3 hT3 => ?_⟩⟩
    have sA := ((sm_new (o := .tup [.int (i : Nat), .str z]) hT).trans (sm_new (o := .lst ([z].map V.str)) hl1)).trans s5
    have sB := sA.trans (sm_new (o := .tup [.int (i : Nat), .ref l2]) hT3)
    refine ke _ _ sB ?_
    have hD5 := sA _ _ eD
    have e4 : ixs ((rawL wss).take (i + 1)) = ixs ((rawL wss).take i) ++ [(i, wordsOf z)] := by
      have li : i < (rawL wss).length := by rw [← hll]; exact (List.getElem?_eq_some_iff.mp hz).1
      rw [List.take_add_one, List.getElem?_eq_getElem li]
      unfold ixs
      rw [Option.toList_some, List.zipIdx_append, List.map_append, List.length_take, Nat.min_eq_left (Nat.le_of_lt li), h4, List.getD_eq_getElem?_getD, List.getElem?_eq_getElem li]
      simp
    rw [e4]
    refine paired_snoc ⟨T3, l2, rfl, upd_same, (ne_of_none hD5 hT3).symm, ?_, (sm_new hT3) _ _ e5⟩ (paired_but (.of sB) r)
    exact fun q => by
      rw [q] at n5
      have := ((sm_new (o := .tup [.int (i : Nat), .str z]) hT).trans (sm_new (o := .lst ([z].map V.str)) hl1)) _ _ eD
      exact nomatch (this.symm.trans n5)
  · intro H2 acc s2 e r
    rw [List.length_map, hll, List.take_of_length_le (Nat.le_refl _)] at r
    simp only [tBM, SlX.tMethSl, tSeq, tIfS, tOr, tAnd, tNot, tB, tCB, tCons, tNil, tVar, tC, tTest, tChain, tRet, tRetN, tNext, tOp, tAndV, tOrV, tNotV, tIf, tThen, tYes, tTup, tLst, tCall, tAsg, tDrop, tDNewK, gName, gTup, gCons, gNil, rI0, rI, CMul, CDiv, tUn, rU, rEq, rNe, scal, LenV, RetB, RetD, List.set_cons_zero, List.set_cons_succ, List.getElem?_cons_zero, List.getElem?_cons_succ, Option.some.injEq, exists_eq_left', exists_eq_left, List.cons.injEq, and_true, true_and, V.int.injEq, V.str.injEq, V.bl.injEq, V.ref.injEq, if_true, if_false, Bool.not_true, Bool.not_false, reduceCtorEq, decide_true, decide_false, Bool.false_eq_true, exists_and_left, Bool.not_eq_true', decide_eq_true_eq, decide_eq_false_iff_not, rLenK, tLenSetT, List.append_nil, and_assoc, or_false, false_or, exists_false, false_and, and_false, rGetL, rSetL, gSub, tAugS, ipI, tPart, tNoPart, not_true, not_false_iff, ite_true, ite_false, List.map_cons, List.map_nil, sp_words_of]
    have hal := paired_len r
    have hil : (ixs (rawL wss)).length = (rawL wss).length := by
      unfold ixs
      rw [List.length_map, List.length_zipIdx]
    have fin : (ixs (rawL wss)).filter (fun p => decide (p.2 ≠ [])) = ixs wss := by
      by_cases e0 : wss = []
      · subst e0
        rfl
      · unfold rawL
        rw [if_neg e0]
        refine List.filter_eq_self.mpr fun p hp => ?_
        obtain ⟨j, hj⟩ := List.mem_iff_getElem?.mp hp
        rw [ixs_at] at hj
        obtain ⟨ws, hws, rfl⟩ := Option.map_eq_some_iff.mp hj
        exact decide_eq_true (hw ws (List.mem_of_getElem? hws)).1
    refine ⟨_, rfl, D, rfl, ⟨_, .of e⟩, fun D2 hD2 => lc_gen walk_list hD2 ?_ (fun i a2 H => Paired (IxW H D2) a2 (((ixs (rawL wss)).take i).filter fun p => decide (p.2 ≠ []))) (fun _ => .nil) (fun H sm => .of (sm _ _ e)) (fun i acc H H' s r => paired_but s r) ?_ ?_⟩
    · rw [hal, hil]
      exact lt1 (by omega)
    · rintro i a2 x H3 H4 Qe Qs hi sm ⟨l, eD⟩ r2 ⟨rfl, hx⟩ ke ks'
      obtain ⟨⟨j, ws⟩, hp, T4, l4, rfl, hT4, nT4, nl4, hl4⟩ := paired_at r hx
      have eT := sm _ _ hT4
      have eL := sm _ _ hl4
      refine ⟨T4, _, rfl, .of eT, rfl, _, _, rfl, _, _, rfl, rfl, ?_⟩
      simp only [tBM, SlX.tMethSl, tSeq, tIfS, tOr, tAnd, tNot, tB, tCB, tCons, tNil, tVar, tC, tTest, tChain, tRet, tRetN, tNext, tOp, tAndV, tOrV, tNotV, tIf, tThen, tYes, tTup, tLst, tCall, tAsg, tDrop, tDNewK, gName, gTup, gCons, gNil, rI0, rI, CMul, CDiv, tUn, rU, rEq, rNe, scal, LenV, RetB, RetD, List.set_cons_zero, List.set_cons_succ, List.getElem?_cons_zero, List.getElem?_cons_succ, Option.some.injEq, exists_eq_left', exists_eq_left, List.cons.injEq, and_true, true_and, V.int.injEq, V.str.injEq, V.bl.injEq, V.ref.injEq, if_true, if_false, Bool.not_true, Bool.not_false, reduceCtorEq, decide_true, decide_false, Bool.false_eq_true, exists_and_left, Bool.not_eq_true', decide_eq_true_eq, decide_eq_false_iff_not, rLenK, tLenSetT, List.append_nil, and_assoc, or_false, false_or, exists_false, false_and, and_false, rGetL, rSetL, gSub, tAugS, ipI, tPart, tNoPart, not_true, not_false_iff, ite_true, ite_false, List.map_cons, List.map_nil, sp_words_of, wipe]
      refine ⟨Nat.zero_le _, fun p2 hp2 => ⟨ws, [], .lst (.of ((sm_new hp2) _ _ eL)) (TpAll.dp (TpAll.strs.mpr rfl)), .lst (.of upd_same) .nil, _, rfl, ?_⟩⟩
      have s2' : Same H4 (upd H4 p2 (.lst [])) := sm_new hp2
      have htk : (ixs (rawL wss)).take (i + 1) = (ixs (rawL wss)).take i ++ [(j, ws)] := by
        rw [List.take_add_one, hp]
        rfl
      by_cases e0 : ws = []
      · rw [decide_eq_true e0]
        refine ks' _ s2' ?_
        rw [htk, List.filter_append, List.filter_cons, if_neg (by simp [e0]), List.filter_nil, List.append_nil]
        exact paired_but (.of s2') r2
      · rw [decide_eq_false e0]
        refine ⟨by show 2 ≤ _; decide, fun T5 hT5 => ke _ _ (s2'.trans (sm_new hT5)) ?_⟩
        rw [htk, List.filter_append, List.filter_cons, if_pos (by simp [e0]), List.filter_nil]
        have eD' := s2' _ _ eD
        refine paired_snoc ⟨T5, l4, rfl, upd_same, (ne_of_none eD' hT5).symm, ?_, (s2'.trans (sm_new hT5)) _ _ eL⟩ (paired_but (.of (s2'.trans (sm_new hT5))) r2)
        exact fun q => by
          rw [q] at hl4
          exact nomatch (hl4.symm.trans hD2)
    · intro H3 a2 s3 e3 r3
      rw [hal, List.take_of_length_le (Nat.le_refl _), fin] at r3
      exact q D2 a2 H3 ((sm_new hp).trans (s2.trans s3)) ((sm_new hp).free (s2.free hD2)) e3 r3
end
end C9
/-! ## F8 -/
set_option maxHeartbeats 4000000
namespace C9
open PySem PySem.Spec PyProof.Rows L2 C8
theorem iteT' {c A B : Prop} [Decidable c] (hc : c) (h : A) : if c then A else B := by
  rw [if_pos hc]
  exact h
theorem cut_front (xs : List V) : cutV xs (some 1) none = xs.drop 1 := cut_behind xs
theorem rowW_ok {ks : List Str} {cs : List (List Str)} {nms : List Str} {r : Row} (hk : ∀ k ∈ ks, okN k = true) (h : rowOk ks cs nms r) : rowW r ≠ [] ∧ ∀ w ∈ rowW r, okN w = true := by
  have o1 : okN "put" = true := by decide +kernel
  have o2 : okN "drop" = true := by decide +kernel
  have o3 : okN "call" = true := by decide +kernel
  cases r with
  | put n k =>
    refine ⟨by simp [rowW], fun w hw => ?_⟩
    rcases List.mem_cons.mp hw with rfl | hw
    · exact o1
    · rcases List.mem_cons.mp hw with rfl | hw
      · exact h.1
      · rw [List.mem_singleton.mp hw]; exact hk k h.2.1
  | drop n =>
    refine ⟨by simp [rowW], fun w hw => ?_⟩
    rcases List.mem_cons.mp hw with rfl | hw
    · exact o2
    · rw [List.mem_singleton.mp hw]; exact h
  | call c =>
    refine ⟨by simp [rowW], fun w hw => ?_⟩
    rcases List.mem_cons.mp hw with rfl | hw
    · exact o3
    · refine hk w ?_
      rw [← h.1] at hw
      exact (List.mem_filter.mp hw).1
section
variable {K : PySem.W.Frag} {mg : Str → Option Value} {P : Program} {w : World} {base : Heap}
def sp_check_texts (K : PySem.W.Frag) : Sp := fun vs H Q E => ∃ x y, vs = [x, y] ∧ ∃ ks cs z, Tp H x (dH ks cs) ∧ GoodH ks cs ∧ y = .str z ∧ ∀ v H', Same H H' → Q v H'
theorem sc_check_texts : FnScope ["house", "text"] ["house", "text"] (defScope s_check_texts) := ⟨rfl, rfl, rfl, by decide +kernel, rfl, by decide +kernel, by decide +kernel⟩
theorem c_check_texts (T : Txt K mg) : C8.Cal P w K mg base 4 "check_texts" (sp_check_texts K) [] := by
  refine T.cal 27 21 rfl rfl sc_check_texts
    (fun _ _ _ _ _ _ us h => match us, h with | [_, _], _ => rfl)
    (fun vs H Q E h => by obtain ⟨_, _, rfl, _⟩ := h; rfl) (fun f cdv A outer s H vs Q E hr h => ?_)
  have nd := sc_check_texts.nd
  refine ⟨_, (pss_cons (ps_if (pt_not (pt_val (pe_c (c_is_house T) hr (by decide) (by rfl) (pa_cons (pv 0) pa_nil)))) (pss_one ps_never) pss_nil)
     (pss_one (ps_if (pt_not (pt_val (pe_callB isi_str (by rfl) (T.free 50) rfl (pa_cons (pv 1) (pa_cons (pe_bltn (v := .ty "str") (by rfl) (T.free 51) rfl rfl) pa_nil))))) (pss_one ps_never) pss_nil))), ?_⟩
  obtain ⟨v0, v1, rfl, h⟩ := h
  rw [show L2.start ["house", "text"] [v0, v1] = [some v0, some v1] from rfl]
  obtain ⟨ks, cs, z, hx, g, rfl, q⟩ := h
  simp only [tBM, SlX.tMethSl, tSeq, tIfS, tOr, tAnd, tNot, tB, tCB, tCons, tNil, tVar, tC, tTest, tChain, tRet, tRetN, tNext, tOp, tAndV, tOrV, tNotV, tIf, tThen, tYes, tTup, tLst, tCall, tAsg, tDrop, tDNewK, gName, gTup, gCons, gNil, rI0, rI, CMul, CDiv, tUn, rU, rEq, rNe, scal, LenV, RetB, RetD, List.set_cons_zero, List.set_cons_succ, List.getElem?_cons_zero, List.getElem?_cons_succ, Option.some.injEq, exists_eq_left', exists_eq_left, List.cons.injEq, and_true, true_and, V.int.injEq, V.str.injEq, V.bl.injEq, V.ref.injEq, if_true, if_false, Bool.not_true, Bool.not_false, reduceCtorEq, decide_true, decide_false, Bool.false_eq_true, exists_and_left, Bool.not_eq_true', decide_eq_true_eq, decide_eq_false_iff_not, rLenK, tLenSetT, List.append_nil, and_assoc, or_false, false_or, exists_false, false_and, and_false, rGetL, rSetL, gSub, tAugS, ipI, tPart, tNoPart, not_true, not_false_iff, ite_true, ite_false, List.map_cons, List.map_nil, sp_is_house]
  exact ⟨ks, cs, hx, g, fun H1 s1 => q _ _ s1⟩
def sp_deed_in (K : PySem.W.Frag) : Sp := fun vs H Q E => ∃ x y, vs = [x, y] ∧ ∃ ks cs c l, Tp H x (dH ks cs) ∧ y = .ref l ∧ H l = some (.lst ((rowW (.call c)).map V.str)) ∧ c ∈ cs ∧ RetD (dR (.call c)) H Q
theorem sc_deed_in : FnScope ["house", "words", "call"] ["house", "words"] (defScope s_deed_in) := ⟨rfl, rfl, rfl, by decide +kernel, rfl, by decide +kernel, by decide +kernel⟩
theorem c_deed_in (T : Txt K mg) : C8.Cal P w K mg base 1 "deed_in" (sp_deed_in K) [] := by
  refine T.cal 28 22 rfl rfl sc_deed_in
    (fun _ _ _ _ _ _ us h => match us, h with | [_, _], _ => rfl)
    (fun vs H Q E h => by obtain ⟨_, _, rfl, _⟩ := h; rfl) (fun f cdv A outer s H vs Q E hr h => ?_)
  have nd := sc_deed_in.nd
  refine ⟨_, (pss_cons (ps_if (PW.pt (pw_and (pt_cmpR op_eq (pe_ix (k_ixL K) (pv 1) pe_int (fun _ _ => rfl)) pe_str rfl) (pw_and (pt_cmpR op_eq (pe_callB (k_len K) (by rfl) (T.free 52) rfl (pa_cons (pv 1) pa_nil)) pe_int rfl) (pw_and1 (pt_cmpR (k_inA K (α := Str) hr (by decide)) (pe_ix (k_ixL K) (pv 1) pe_int (fun _ _ => rfl)) (pe_ix (k_ixT K) (pv 0) pe_int (fun _ _ => rfl)) rfl))))) (pss_one (ps_ret (pe_tup (pa_cons pe_str (pa_cons (pe_ix (k_ixL K) (pv 1) pe_int (fun _ _ => rfl)) pa_nil))))) pss_nil)
     (pss_cons (ps_set (i := 2) nd rfl (.inl rfl) (pe_callTy (k_tuple K) (by rfl) (T.free 55) rfl (pa_cons (pe_slice (k_slL K) (pv 1) (po_some pe_int) po_none) pa_nil)))
     (pss_one (ps_ret (pe_ifExp (PW.pt (pw_and (pt_cmpR op_eq (pe_ix (k_ixL K) (pv 1) pe_int (fun _ _ => rfl)) pe_str rfl) (pw_and1 (pt_cmpR (k_inA K (α := (PySem.W.Tup Str)) hr (by decide)) (pv 2) (pe_ix (k_ixT K) (pv 0) pe_int (fun _ _ => rfl)) rfl)))) (pe_tup (pa_cons pe_str (pa_cons (pv 2) pa_nil))) pe_non))))), ?_⟩
  obtain ⟨v0, v1, rfl, h⟩ := h
  rw [show L2.start ["house", "words", "call"] [v0, v1] = [some v0, some v1, none] from rfl]
  obtain ⟨ks, cs, c, l, hx, rfl, hl, hc, q⟩ := h
  obtain ⟨a, v1, v2, rfl, ha, h1, h2⟩ := hx.two
  obtain ⟨b, ys, rfl, hb, hys⟩ := h2.tup_at
  have hw : (rowW (.call c)).map V.str = .str "call" :: c.map V.str := rfl
  rw [hw] at hl
  simp only [tBM, SlX.tMethSl, tSeq, tIfS, tOr, tAnd, tNot, tB, tCB, tCons, tNil, tVar, tC, tTest, tChain, tRet, tRetN, tNext, tOp, tAndV, tOrV, tNotV, tIf, tThen, tYes, tTup, tLst, tCall, tAsg, tDrop, tDNewK, gName, gTup, gCons, gNil, rI0, rI, CMul, CDiv, tUn, rU, rEq, rNe, scal, LenV, RetB, RetD, List.set_cons_zero, List.set_cons_succ, List.getElem?_cons_zero, List.getElem?_cons_succ, Option.some.injEq, exists_eq_left', exists_eq_left, List.cons.injEq, and_true, true_and, V.int.injEq, V.str.injEq, V.bl.injEq, V.ref.injEq, if_true, if_false, Bool.not_true, Bool.not_false, reduceCtorEq, decide_true, decide_false, Bool.false_eq_true, exists_and_left, Bool.not_eq_true', decide_eq_true_eq, decide_eq_false_iff_not, rLenK, tLenSetT, List.append_nil, and_assoc, or_false, false_or, exists_false, false_and, and_false, rGetL, rSetL, gSub, tAugS, ipI, tPart, tNoPart, not_true, not_false_iff, ite_true, ite_false, List.map_cons, List.map_nil]
  refine ⟨l, _, 0, _, rfl, rfl, .of hl, atI_0 _ _, ?_⟩
  simp only [tBM, SlX.tMethSl, tSeq, tIfS, tOr, tAnd, tNot, tB, tCB, tCons, tNil, tVar, tC, tTest, tChain, tRet, tRetN, tNext, tOp, tAndV, tOrV, tNotV, tIf, tThen, tYes, tTup, tLst, tCall, tAsg, tDrop, tDNewK, gName, gTup, gCons, gNil, rI0, rI, CMul, CDiv, tUn, rU, rEq, rNe, scal, LenV, RetB, RetD, List.set_cons_zero, List.set_cons_succ, List.getElem?_cons_zero, List.getElem?_cons_succ, Option.some.injEq, exists_eq_left', exists_eq_left, List.cons.injEq, and_true, true_and, V.int.injEq, V.str.injEq, V.bl.injEq, V.ref.injEq, if_true, if_false, Bool.not_true, Bool.not_false, reduceCtorEq, decide_true, decide_false, Bool.false_eq_true, exists_and_left, Bool.not_eq_true', decide_eq_true_eq, decide_eq_false_iff_not, rLenK, tLenSetT, List.append_nil, and_assoc, or_false, false_or, exists_false, false_and, and_false, rGetL, rSetL, gSub, tAugS, ipI, tPart, tNoPart, not_true, not_false_iff, ite_true, ite_false, List.map_cons, List.map_nil, ne_cp, ne_pc, ne_dp, ne_pd, ne_cd, ne_dc]
  refine ⟨_, rfl, 1, rfl, l, _, rfl, .of hl, fun p hp => ?_⟩
  rw [cut_front]
  refine ⟨p, c.map V.str, rfl, .inl ⟨.of upd_same, fun p2 hp2 => ?_⟩⟩
  have s2 := (sm_new (o := .lst (c.map V.str)) hp).trans (sm_new (o := .tup (c.map V.str)) hp2)
  simp only [tBM, SlX.tMethSl, tSeq, tIfS, tOr, tAnd, tNot, tB, tCB, tCons, tNil, tVar, tC, tTest, tChain, tRet, tRetN, tNext, tOp, tAndV, tOrV, tNotV, tIf, tThen, tYes, tTup, tLst, tCall, tAsg, tDrop, tDNewK, gName, gTup, gCons, gNil, rI0, rI, CMul, CDiv, tUn, rU, rEq, rNe, scal, LenV, RetB, RetD, List.set_cons_zero, List.set_cons_succ, List.getElem?_cons_zero, List.getElem?_cons_succ, Option.some.injEq, exists_eq_left', exists_eq_left, List.cons.injEq, and_true, true_and, V.int.injEq, V.str.injEq, V.bl.injEq, V.ref.injEq, if_true, if_false, Bool.not_true, Bool.not_false, reduceCtorEq, decide_true, decide_false, Bool.false_eq_true, exists_and_left, Bool.not_eq_true', decide_eq_true_eq, decide_eq_false_iff_not, rLenK, tLenSetT, List.append_nil, and_assoc, or_false, false_or, exists_false, false_and, and_false, rGetL, rSetL, gSub, tAugS, ipI, tPart, tNoPart, not_true, not_false_iff, ite_true, ite_false, List.map_cons, List.map_nil]
  refine ⟨l, _, 0, _, rfl, rfl, .of (s2 _ _ hl), atI_0 _ _, ?_⟩
  simp only [tBM, SlX.tMethSl, tSeq, tIfS, tOr, tAnd, tNot, tB, tCB, tCons, tNil, tVar, tC, tTest, tChain, tRet, tRetN, tNext, tOp, tAndV, tOrV, tNotV, tIf, tThen, tYes, tTup, tLst, tCall, tAsg, tDrop, tDNewK, gName, gTup, gCons, gNil, rI0, rI, CMul, CDiv, tUn, rU, rEq, rNe, scal, LenV, RetB, RetD, List.set_cons_zero, List.set_cons_succ, List.getElem?_cons_zero, List.getElem?_cons_succ, Option.some.injEq, exists_eq_left', exists_eq_left, List.cons.injEq, and_true, true_and, V.int.injEq, V.str.injEq, V.bl.injEq, V.ref.injEq, if_true, if_false, Bool.not_true, Bool.not_false, reduceCtorEq, decide_true, decide_false, Bool.false_eq_true, exists_and_left, Bool.not_eq_true', decide_eq_true_eq, decide_eq_false_iff_not, rLenK, tLenSetT, List.append_nil, and_assoc, or_false, false_or, exists_false, false_and, and_false, rGetL, rSetL, gSub, tAugS, ipI, tPart, tNoPart, not_true, not_false_iff, ite_true, ite_false, List.map_cons, List.map_nil, ne_cp, ne_pc, ne_dp, ne_pd, ne_cd, ne_dc]
  have tc : Tp (upd (upd H p (.lst (c.map V.str))) p2 (.tup (c.map V.str))) (.ref p2) (dS c) := .strs_of upd_same
  refine ⟨a, _, 1, _, rfl, rfl, .of (s2 _ _ ha), rfl, PySem.W.Tup.mk c, cs.map PySem.W.Tup.mk, b, ys, tc.dp, rfl, .inr (.of (s2 _ _ hb)), ?_, _, rfl, ?_⟩
  · rw [List.map_map]
    exact TpAll.dp (TpAll.same s2 hys)
  · rw [decide_eq_true (List.mem_map.mpr ⟨c, hc, rfl⟩)]
    refine ⟨by show 2 ≤ _; decide, fun p3 hp3 => q _ _ (s2.trans (sm_new hp3)) (ret_pair hp3 (.str _) tc)⟩
def sp_row_in (K : PySem.W.Frag) : Sp := fun vs H Q E => ∃ x y z, vs = [x, y, z] ∧ ∃ ks cs nms r D l, Tp H x (dH ks cs) ∧ y = .ref D ∧ H D = some (.dK (nmD nms)) ∧ z = .ref l ∧ H l = some (.lst ((rowW r).map V.str)) ∧ rowOk ks cs nms r ∧ RetD (dR r) H Q
theorem sc_row_in : FnScope ["house", "names", "words", "good"] ["house", "names", "words"] (defScope s_row_in) := ⟨rfl, rfl, rfl, by decide +kernel, rfl, by decide +kernel, by decide +kernel⟩
theorem c_row_in (T : Txt K mg) : C8.Cal P w K mg base 2 "row_in" (sp_row_in K) [] := by
  refine T.cal 29 23 rfl rfl sc_row_in
    (fun _ _ _ _ _ _ us h => match us, h with | [_, _, _], _ => rfl)
    (fun vs H Q E h => by obtain ⟨_, _, _, rfl, _⟩ := h; rfl) (fun f cdv A outer s H vs Q E hr h => ?_)
  have nd := sc_row_in.nd
  refine ⟨_, (pss_cons (ps_if (PW.pt (pw_and (pt_cmpR op_eq (pe_ix (k_ixL K) (pv 2) pe_int (fun _ _ => rfl)) pe_str rfl) (pw_and1 (pt_cmpR op_eq (pe_callB (k_len K) (by rfl) (T.free 52) rfl (pa_cons (pv 2) pa_nil)) pe_int rfl)))) (pss_cons (ps_set (i := 3) nd rfl (.inl rfl) (pe_and (pe_c (c_is_name T) hr (by decide) (by rfl) (pa_cons (pe_ix (k_ixL K) (pv 2) pe_int (fun _ _ => rfl)) pa_nil)) (pe_and (pe_cmp (pc_dnotin (hu_of hr) (pe_ix (k_ixL K) (pv 2) pe_int (fun _ _ => rfl)) (pv 1))) (pe_one (pe_cmpR (k_inA K (α := Str) hr (by decide)) (pe_ix (k_ixL K) (pv 2) pe_int (fun _ _ => rfl)) (pe_ix (k_ixT K) (pv 0) pe_int (fun _ _ => rfl)) rfl)))))
     (pss_one (ps_ret (pe_ifExp (pt_val (pv 3)) (pe_tup (pa_cons pe_str (pa_cons (pe_ix (k_ixL K) (pv 2) pe_int (fun _ _ => rfl)) (pa_cons (pe_ix (k_ixL K) (pv 2) pe_int (fun _ _ => rfl)) pa_nil)))) pe_non)))) pss_nil)
     (pss_cons (ps_if (pt_cmpR op_eq (pe_ix (k_ixL K) (pv 2) pe_int (fun _ _ => rfl)) pe_str rfl) (pss_one (ps_ret (pe_ifExp (PW.pt (pw_and (pt_cmpR op_eq (pe_callB (k_len K) (by rfl) (T.free 52) rfl (pa_cons (pv 2) pa_nil)) pe_int rfl) (pw_and1 (pt_val (pe_c (c_is_name T) hr (by decide) (by rfl) (pa_cons (pe_ix (k_ixL K) (pv 2) pe_int (fun _ _ => rfl)) pa_nil)))))) (pe_tup (pa_cons pe_str (pa_cons (pe_ix (k_ixL K) (pv 2) pe_int (fun _ _ => rfl)) pa_nil))) pe_non))) pss_nil)
     (pss_one (ps_ret (pe_ifExp (pt_cmpR op_eq (pe_ix (k_ixL K) (pv 2) pe_int (fun _ _ => rfl)) pe_str rfl) (pe_c (c_deed_in T) hr (by decide) (by rfl) (pa_cons (pv 0) (pa_cons (pv 2) pa_nil))) pe_non))))), ?_⟩
  obtain ⟨v0, v1, v2, rfl, h⟩ := h
  rw [show L2.start ["house", "names", "words", "good"] [v0, v1, v2] = [some v0, some v1, some v2, none] from rfl]
  obtain ⟨ks, cs, nms, r, D, l, hx, rfl, hD, rfl, hl, ok, q⟩ := h
  obtain ⟨a, v1, v2, rfl, ha, h1, h2⟩ := hx.two
  obtain ⟨b, rfl, hb⟩ := h1.strs_at
  cases r with
  | put n k =>
    have hw : (rowW (.put n k)).map V.str = [.str "put", .str n, .str k] := rfl
    rw [hw] at hl
    simp only [tBM, SlX.tMethSl, tSeq, tIfS, tOr, tAnd, tNot, tB, tCB, tCons, tNil, tVar, tC, tTest, tChain, tRet, tRetN, tNext, tOp, tAndV, tOrV, tNotV, tIf, tThen, tYes, tTup, tLst, tCall, tAsg, tDrop, tDNewK, gName, gTup, gCons, gNil, rI0, rI, CMul, CDiv, tUn, rU, rEq, rNe, scal, LenV, RetB, RetD, List.set_cons_zero, List.set_cons_succ, List.getElem?_cons_zero, List.getElem?_cons_succ, Option.some.injEq, exists_eq_left', exists_eq_left, List.cons.injEq, and_true, true_and, V.int.injEq, V.str.injEq, V.bl.injEq, V.ref.injEq, if_true, if_false, Bool.not_true, Bool.not_false, reduceCtorEq, decide_true, decide_false, Bool.false_eq_true, exists_and_left, Bool.not_eq_true', decide_eq_true_eq, decide_eq_false_iff_not, rLenK, tLenSetT, List.append_nil, and_assoc, or_false, false_or, exists_false, false_and, and_false, rGetL, rSetL, gSub, tAugS, ipI, tPart, tNoPart, not_true, not_false_iff, ite_true, ite_false, List.map_cons, List.map_nil, sp_deed_in, sp_is_name]
    refine ⟨l, _, 0, _, rfl, rfl, .of hl, rfl, ?_⟩
    simp only [tBM, SlX.tMethSl, tSeq, tIfS, tOr, tAnd, tNot, tB, tCB, tCons, tNil, tVar, tC, tTest, tChain, tRet, tRetN, tNext, tOp, tAndV, tOrV, tNotV, tIf, tThen, tYes, tTup, tLst, tCall, tAsg, tDrop, tDNewK, gName, gTup, gCons, gNil, rI0, rI, CMul, CDiv, tUn, rU, rEq, rNe, scal, LenV, RetB, RetD, List.set_cons_zero, List.set_cons_succ, List.getElem?_cons_zero, List.getElem?_cons_succ, Option.some.injEq, exists_eq_left', exists_eq_left, List.cons.injEq, and_true, true_and, V.int.injEq, V.str.injEq, V.bl.injEq, V.ref.injEq, if_true, if_false, Bool.not_true, Bool.not_false, reduceCtorEq, decide_true, decide_false, Bool.false_eq_true, exists_and_left, Bool.not_eq_true', decide_eq_true_eq, decide_eq_false_iff_not, rLenK, tLenSetT, List.append_nil, and_assoc, or_false, false_or, exists_false, false_and, and_false, rGetL, rSetL, gSub, tAugS, ipI, tPart, tNoPart, not_true, not_false_iff, ite_true, ite_false, List.map_cons, List.map_nil, sp_deed_in, sp_is_name]
    refine ⟨3, .inl ⟨_, .of hl, rfl⟩, ?_⟩
    refine iteT' rfl ?_
    refine ⟨l, _, 1, _, rfl, rfl, .of hl, atI_1 _ _ _, n, rfl, ok.1, fun H1 s1 => ?_⟩
    have e1 := s1 _ _ hl
    refine ⟨_, rfl, l, _, 1, _, rfl, rfl, .of e1, atI_1 _ _ _, _, rfl, D, none, rfl, .inl ⟨_, .inr n, .inl (s1 _ _ hD), rfl, (dV_none ok.2.2).symm⟩, true, rfl, ?_⟩
    refine iteT' rfl ?_
    refine ⟨l, _, 2, _, rfl, rfl, .of e1, atI_2 _ _ _ _, a, [.ref b, v2], 0, _, rfl, rfl, .of (s1 _ _ ha), rfl, k, ks, b, _, .str k, rfl, .inr (.of (s1 _ _ hb)), TpAll.dp (TpAll.strs.mpr rfl), _, rfl, ?_⟩
    rw [decide_eq_true ok.2.1]
    refine iteT' rfl ?_
    exact ⟨l, _, 1, _, rfl, rfl, .of e1, atI_1 _ _ _, l, _, 2, _, rfl, rfl, .of e1, atI_2 _ _ _ _, by show 3 ≤ _; decide, fun p hp => q _ _ (sm_then s1 hp) (.mk hp (.cons (.str _) (.cons (.str _) (.cons (.str _) .nil))))⟩
  | drop n =>
    have hw : (rowW (.drop n)).map V.str = [.str "drop", .str n] := rfl
    rw [hw] at hl
    simp only [tBM, SlX.tMethSl, tSeq, tIfS, tOr, tAnd, tNot, tB, tCB, tCons, tNil, tVar, tC, tTest, tChain, tRet, tRetN, tNext, tOp, tAndV, tOrV, tNotV, tIf, tThen, tYes, tTup, tLst, tCall, tAsg, tDrop, tDNewK, gName, gTup, gCons, gNil, rI0, rI, CMul, CDiv, tUn, rU, rEq, rNe, scal, LenV, RetB, RetD, List.set_cons_zero, List.set_cons_succ, List.getElem?_cons_zero, List.getElem?_cons_succ, Option.some.injEq, exists_eq_left', exists_eq_left, List.cons.injEq, and_true, true_and, V.int.injEq, V.str.injEq, V.bl.injEq, V.ref.injEq, if_true, if_false, Bool.not_true, Bool.not_false, reduceCtorEq, decide_true, decide_false, Bool.false_eq_true, exists_and_left, Bool.not_eq_true', decide_eq_true_eq, decide_eq_false_iff_not, rLenK, tLenSetT, List.append_nil, and_assoc, or_false, false_or, exists_false, false_and, and_false, rGetL, rSetL, gSub, tAugS, ipI, tPart, tNoPart, not_true, not_false_iff, ite_true, ite_false, List.map_cons, List.map_nil, sp_deed_in, sp_is_name]
    refine ⟨l, _, 0, _, rfl, rfl, .of hl, rfl, ?_⟩
    simp only [tBM, SlX.tMethSl, tSeq, tIfS, tOr, tAnd, tNot, tB, tCB, tCons, tNil, tVar, tC, tTest, tChain, tRet, tRetN, tNext, tOp, tAndV, tOrV, tNotV, tIf, tThen, tYes, tTup, tLst, tCall, tAsg, tDrop, tDNewK, gName, gTup, gCons, gNil, rI0, rI, CMul, CDiv, tUn, rU, rEq, rNe, scal, LenV, RetB, RetD, List.set_cons_zero, List.set_cons_succ, List.getElem?_cons_zero, List.getElem?_cons_succ, Option.some.injEq, exists_eq_left', exists_eq_left, List.cons.injEq, and_true, true_and, V.int.injEq, V.str.injEq, V.bl.injEq, V.ref.injEq, if_true, if_false, Bool.not_true, Bool.not_false, reduceCtorEq, decide_true, decide_false, Bool.false_eq_true, exists_and_left, Bool.not_eq_true', decide_eq_true_eq, decide_eq_false_iff_not, rLenK, tLenSetT, List.append_nil, and_assoc, or_false, false_or, exists_false, false_and, and_false, rGetL, rSetL, gSub, tAugS, ipI, tPart, tNoPart, not_true, not_false_iff, ite_true, ite_false, List.map_cons, List.map_nil, sp_deed_in, sp_is_name, ne_cp, ne_pc, ne_dp, ne_pd, ne_cd, ne_dc]
    refine ⟨l, _, 0, _, rfl, rfl, .of hl, rfl, ?_⟩
    simp only [tBM, SlX.tMethSl, tSeq, tIfS, tOr, tAnd, tNot, tB, tCB, tCons, tNil, tVar, tC, tTest, tChain, tRet, tRetN, tNext, tOp, tAndV, tOrV, tNotV, tIf, tThen, tYes, tTup, tLst, tCall, tAsg, tDrop, tDNewK, gName, gTup, gCons, gNil, rI0, rI, CMul, CDiv, tUn, rU, rEq, rNe, scal, LenV, RetB, RetD, List.set_cons_zero, List.set_cons_succ, List.getElem?_cons_zero, List.getElem?_cons_succ, Option.some.injEq, exists_eq_left', exists_eq_left, List.cons.injEq, and_true, true_and, V.int.injEq, V.str.injEq, V.bl.injEq, V.ref.injEq, if_true, if_false, Bool.not_true, Bool.not_false, reduceCtorEq, decide_true, decide_false, Bool.false_eq_true, exists_and_left, Bool.not_eq_true', decide_eq_true_eq, decide_eq_false_iff_not, rLenK, tLenSetT, List.append_nil, and_assoc, or_false, false_or, exists_false, false_and, and_false, rGetL, rSetL, gSub, tAugS, ipI, tPart, tNoPart, not_true, not_false_iff, ite_true, ite_false, List.map_cons, List.map_nil, sp_deed_in, sp_is_name]
    refine ⟨2, .inl ⟨_, .of hl, rfl⟩, ?_⟩
    refine iteT' rfl ?_
    refine ⟨l, _, 1, _, rfl, rfl, .of hl, atI_1 _ _ _, n, rfl, ok, fun H1 s1 => ?_⟩
    exact ⟨l, _, 1, _, rfl, rfl, .of (s1 _ _ hl), atI_1 _ _ _, by show 2 ≤ _; decide, fun p hp => q _ _ (sm_then s1 hp) (ret_pair hp (.str _) (.str _))⟩
  | call c =>
    have hw : (rowW (.call c)).map V.str = .str "call" :: c.map V.str := rfl
    have hl' := hl
    rw [hw] at hl'
    simp only [tBM, SlX.tMethSl, tSeq, tIfS, tOr, tAnd, tNot, tB, tCB, tCons, tNil, tVar, tC, tTest, tChain, tRet, tRetN, tNext, tOp, tAndV, tOrV, tNotV, tIf, tThen, tYes, tTup, tLst, tCall, tAsg, tDrop, tDNewK, gName, gTup, gCons, gNil, rI0, rI, CMul, CDiv, tUn, rU, rEq, rNe, scal, LenV, RetB, RetD, List.set_cons_zero, List.set_cons_succ, List.getElem?_cons_zero, List.getElem?_cons_succ, Option.some.injEq, exists_eq_left', exists_eq_left, List.cons.injEq, and_true, true_and, V.int.injEq, V.str.injEq, V.bl.injEq, V.ref.injEq, if_true, if_false, Bool.not_true, Bool.not_false, reduceCtorEq, decide_true, decide_false, Bool.false_eq_true, exists_and_left, Bool.not_eq_true', decide_eq_true_eq, decide_eq_false_iff_not, rLenK, tLenSetT, List.append_nil, and_assoc, or_false, false_or, exists_false, false_and, and_false, rGetL, rSetL, gSub, tAugS, ipI, tPart, tNoPart, not_true, not_false_iff, ite_true, ite_false, List.map_cons, List.map_nil, sp_deed_in, sp_is_name]
    refine ⟨l, _, 0, _, rfl, rfl, .of hl', atI_0 _ _, ?_⟩
    simp only [tBM, SlX.tMethSl, tSeq, tIfS, tOr, tAnd, tNot, tB, tCB, tCons, tNil, tVar, tC, tTest, tChain, tRet, tRetN, tNext, tOp, tAndV, tOrV, tNotV, tIf, tThen, tYes, tTup, tLst, tCall, tAsg, tDrop, tDNewK, gName, gTup, gCons, gNil, rI0, rI, CMul, CDiv, tUn, rU, rEq, rNe, scal, LenV, RetB, RetD, List.set_cons_zero, List.set_cons_succ, List.getElem?_cons_zero, List.getElem?_cons_succ, Option.some.injEq, exists_eq_left', exists_eq_left, List.cons.injEq, and_true, true_and, V.int.injEq, V.str.injEq, V.bl.injEq, V.ref.injEq, if_true, if_false, Bool.not_true, Bool.not_false, reduceCtorEq, decide_true, decide_false, Bool.false_eq_true, exists_and_left, Bool.not_eq_true', decide_eq_true_eq, decide_eq_false_iff_not, rLenK, tLenSetT, List.append_nil, and_assoc, or_false, false_or, exists_false, false_and, and_false, rGetL, rSetL, gSub, tAugS, ipI, tPart, tNoPart, not_true, not_false_iff, ite_true, ite_false, List.map_cons, List.map_nil, sp_deed_in, sp_is_name, ne_cp, ne_pc, ne_dp, ne_pd, ne_cd, ne_dc]
    refine ⟨l, _, 0, _, rfl, rfl, .of hl', atI_0 _ _, ?_⟩
    simp only [tBM, SlX.tMethSl, tSeq, tIfS, tOr, tAnd, tNot, tB, tCB, tCons, tNil, tVar, tC, tTest, tChain, tRet, tRetN, tNext, tOp, tAndV, tOrV, tNotV, tIf, tThen, tYes, tTup, tLst, tCall, tAsg, tDrop, tDNewK, gName, gTup, gCons, gNil, rI0, rI, CMul, CDiv, tUn, rU, rEq, rNe, scal, LenV, RetB, RetD, List.set_cons_zero, List.set_cons_succ, List.getElem?_cons_zero, List.getElem?_cons_succ, Option.some.injEq, exists_eq_left', exists_eq_left, List.cons.injEq, and_true, true_and, V.int.injEq, V.str.injEq, V.bl.injEq, V.ref.injEq, if_true, if_false, Bool.not_true, Bool.not_false, reduceCtorEq, decide_true, decide_false, Bool.false_eq_true, exists_and_left, Bool.not_eq_true', decide_eq_true_eq, decide_eq_false_iff_not, rLenK, tLenSetT, List.append_nil, and_assoc, or_false, false_or, exists_false, false_and, and_false, rGetL, rSetL, gSub, tAugS, ipI, tPart, tNoPart, not_true, not_false_iff, ite_true, ite_false, List.map_cons, List.map_nil, sp_deed_in, sp_is_name, ne_cp, ne_pc, ne_dp, ne_pd, ne_cd, ne_dc]
    refine ⟨l, _, 0, _, rfl, rfl, .of hl', atI_0 _ _, ?_⟩
    simp only [tBM, SlX.tMethSl, tSeq, tIfS, tOr, tAnd, tNot, tB, tCB, tCons, tNil, tVar, tC, tTest, tChain, tRet, tRetN, tNext, tOp, tAndV, tOrV, tNotV, tIf, tThen, tYes, tTup, tLst, tCall, tAsg, tDrop, tDNewK, gName, gTup, gCons, gNil, rI0, rI, CMul, CDiv, tUn, rU, rEq, rNe, scal, LenV, RetB, RetD, List.set_cons_zero, List.set_cons_succ, List.getElem?_cons_zero, List.getElem?_cons_succ, Option.some.injEq, exists_eq_left', exists_eq_left, List.cons.injEq, and_true, true_and, V.int.injEq, V.str.injEq, V.bl.injEq, V.ref.injEq, if_true, if_false, Bool.not_true, Bool.not_false, reduceCtorEq, decide_true, decide_false, Bool.false_eq_true, exists_and_left, Bool.not_eq_true', decide_eq_true_eq, decide_eq_false_iff_not, rLenK, tLenSetT, List.append_nil, and_assoc, or_false, false_or, exists_false, false_and, and_false, rGetL, rSetL, gSub, tAugS, ipI, tPart, tNoPart, not_true, not_false_iff, ite_true, ite_false, List.map_cons, List.map_nil, sp_deed_in, sp_is_name, ne_cp, ne_pc, ne_dp, ne_pd, ne_cd, ne_dc]
    exact ⟨ks, cs, hx, c, hl, ok.2, q⟩
def sp_read_log (K : PySem.W.Frag) : Sp := fun vs H Q E => ∃ x y, vs = [x, y] ∧ ∃ ks cs rs, Tp H x (dH ks cs) ∧ GoodH ks cs ∧ y = .str (textW (rs.map rowW)) ∧ rowsOk ks cs [] rs ∧ rs.length ≤ 100 ∧ RetD (.tuple (rs.map dR)) H Q
theorem sc_read_log : FnScope ["house", "text", "found", "names", "index", "words", "row"] ["house", "text"] (defScope s_read_log) := ⟨rfl, rfl, rfl, by decide +kernel, rfl, by decide +kernel, by decide +kernel⟩
theorem c_read_log (T : Txt K mg) : C8.Cal P w K mg base 5 "read_log" (sp_read_log K) [] := by
  refine T.cal 30 24 rfl rfl sc_read_log
    (fun _ _ _ _ _ _ us h => match us, h with | [_, _], _ => rfl)
    (fun vs H Q E h => by obtain ⟨_, _, rfl, _⟩ := h; rfl) (fun f cdv A outer s H vs Q E hr h => ?_)
  have nd := sc_read_log.nd
  refine ⟨_, (pss_cons (ps_expr (pe_c (c_check_texts T) hr (by decide) (by rfl) (pa_cons (pv 0) (pa_cons (pv 1) pa_nil))))
     (pss_cons (ps_par (i := 2) (j := 3) rfl nd rfl rfl (by decide) rfl rfl (pa_cons (pe_lst pa_nil) (pa_cons pe_dnewK pa_nil)) rfl)
     (pss_cons (ps_for PassesOwn.never rfl (k_piL K (pi_list (pe_c (c_said_lines T) hr (by decide) (by rfl) (pa_cons (pv 1) pa_nil)))) (k_tup K (pg_tup (n := 2) rfl (pgs_cons (pg_name (i := 4) nd rfl (by first | exact .inl rfl | exact .inr rfl)) (pgs_cons (pg_name (i := 5) nd rfl (by first | exact .inl rfl | exact .inr rfl)) pgs_nil))))
      (pss_cons (ps_set (i := 6) nd rfl (.inl rfl) (pe_c (c_row_in T) hr (by decide) (by rfl) (pa_cons (pv 0) (pa_cons (pv 3) (pa_cons (pv 5) pa_nil)))))
     (pss_cons (ps_if (pt_cmpR op_isN (pv 6) pe_non rfl) (pss_one ps_never) pss_nil)
     (pss_cons (ps_if (pt_cmpR op_eq (pe_ix (k_ixT K) (pv 6) pe_int (fun _ _ => rfl)) pe_str rfl) (pss_one (ps_dput (hu_of hr) (pv 3) (pe_ix (k_ixT K) (pv 6) pe_int (fun _ _ => rfl)) pe_bl rfl)) pss_nil)
     (pss_one (ps_expr (k_bm K (pe_bm PySem.F.plainAttrs_list PySem.F.slot_list_append PySem.F.type_list_append mt_append (pv 2) (pa_cons (pv 6) pa_nil)))))))))
     (pss_one (ps_ret (pe_callTy (k_tuple K) (by rfl) (T.free 55) rfl (pa_cons (pv 2) pa_nil))))))), ?_⟩
  obtain ⟨v0, v1, rfl, h⟩ := h
  rw [show L2.start ["house", "text", "found", "names", "index", "words", "row"] [v0, v1] = [some v0, some v1, none, none, none, none, none] from rfl]
  obtain ⟨ks, cs, rs, hx, g, rfl, ok, hl, q⟩ := h
  have hkN : ∀ k ∈ ks, okN k = true := by
    have := g.names
    unfold okNs at this
    simp only [Bool.and_eq_true, decide_eq_true_eq, List.all_eq_true] at this
    exact this.1.2
  have hcs : ∀ c ∈ cs, c.length ≤ 6 := fun c hc => part_len (g.part c hc).1 (okNs_len g.names).2
  have good : ∀ ws ∈ rs.map rowW, ws ≠ [] ∧ ws.length ≤ 100 ∧ ∀ w ∈ ws, okN w = true := fun ws hws => by
    obtain ⟨r, hr, rfl⟩ := List.mem_map.mp hws
    obtain ⟨i, hi⟩ := List.mem_iff_getElem?.mp hr
    have o := rowsOk_at ok i r hi
    have w := rowW_ok hkN o
    refine ⟨w.1, ?_, w.2⟩
    cases r with
    | put n k => show 3 ≤ 100; decide
    | drop n => show 2 ≤ 100; decide
    | call c =>
      show c.length + 1 ≤ 100
      have := hcs c o.2
      omega
  simp only [tBM, SlX.tMethSl, tSeq, tIfS, tOr, tAnd, tNot, tB, tCB, tCons, tNil, tVar, tC, tTest, tChain, tRet, tRetN, tNext, tOp, tAndV, tOrV, tNotV, tIf, tThen, tYes, tTup, tLst, tCall, tAsg, tDrop, tDNewK, gName, gTup, gCons, gNil, rI0, rI, CMul, CDiv, tUn, rU, rEq, rNe, scal, LenV, RetB, RetD, List.set_cons_zero, List.set_cons_succ, List.getElem?_cons_zero, List.getElem?_cons_succ, Option.some.injEq, exists_eq_left', exists_eq_left, List.cons.injEq, and_true, true_and, V.int.injEq, V.str.injEq, V.bl.injEq, V.ref.injEq, if_true, if_false, Bool.not_true, Bool.not_false, reduceCtorEq, decide_true, decide_false, Bool.false_eq_true, exists_and_left, Bool.not_eq_true', decide_eq_true_eq, decide_eq_false_iff_not, rLenK, tLenSetT, List.append_nil, and_assoc, or_false, false_or, exists_false, false_and, and_false, rGetL, rSetL, gSub, tAugS, ipI, tPart, tNoPart, not_true, not_false_iff, ite_true, ite_false, List.map_cons, List.map_nil, sp_check_texts, sp_row_in, sp_said_lines]
  refine ⟨ks, cs, hx, g, fun v H1 s1 => ⟨Nat.zero_le _, fun r hr => fun n hn => ⟨.ref r, .ref n, rfl, ?_⟩⟩⟩
  have rn : r ≠ n := ne_of_none upd_same hn
  have n1 : H1 n = none := (sm_new hr).free hn
  have sR : Same H1 (upd (upd H1 r (.lst [])) n (.dK [])) := (sm_new hr).trans (sm_new hn)
  have eR : upd (upd H1 r (.lst [])) n (.dK []) r = some (.lst []) := (sm_new hn) _ _ upd_same
  have eN : upd (upd H1 r (.lst [])) n (.dK []) n = some (.dK []) := upd_same
  generalize upd (upd H1 r (.lst [])) n (.dK []) = H2 at sR eR eN
  refine ⟨_, rfl, .str _, rfl, rs.map rowW, rfl, by rw [List.length_map]; exact hl, good, fun p acc H3 s3 np e3 r3 => ?_⟩
  have pr : p ≠ r := (ne_of_none eR np).symm
  have pn : p ≠ n := (ne_of_none eN np).symm
  have eR3 := s3 _ _ eR
  have eN3 := s3 _ _ eN
  have sb : Same H H3 := s1.trans (sR.trans s3)
  have hal : acc.length = rs.length := by
    rw [paired_len r3]
    unfold ixs
    rw [List.length_map, List.length_zipIdx, List.length_map]
  refine ⟨p, rfl, ⟨_, .of e3⟩, for_it (walk_list (xs := acc)) (fun i σ H4 => ∃ y z u, σ = [some v0, some (.str (textW (rs.map rowW))), some (.ref r), some (.ref n), y, z, u] ∧ (∀ b o, b ≠ r → b ≠ n → H3 b = some o → H4 b = some o) ∧
    (∃ fs, H4 r = some (.lst fs) ∧ TpAll H4 fs ((rs.take i).map dR)) ∧ H4 n = some (.dK (nmD ((rs.take i).foldl stN [])))) ?_ ?_ ?_ ?_⟩
  · exact ⟨none, none, none, rfl, fun b o _ _ e => e, ⟨[], eR3, .nil⟩, eN3⟩
  · rintro i σ H4 _ ⟨y, z, u, rfl, kp, _, _⟩
    exact .of (kp _ _ pr pn e3)
  · rintro i x σ H4 H5 hi ⟨y, z, u, rfl, kp, ⟨fs, eF, tF⟩, eM⟩ ⟨rfl, hx1⟩
    obtain ⟨⟨j, ws⟩, hj, T2, l, rfl, hT2, nT2, nl, hl2⟩ := paired_at r3 hx1
    have hj2 : (rs[i]?.map rowW).map (fun ws => (i, ws)) = some (j, ws) := by
      rw [← List.getElem?_map, ← ixs_at]
      exact hj
    obtain ⟨w0, hw0, ew⟩ := Option.map_eq_some_iff.mp hj2
    obtain ⟨row, hrow, rfl⟩ := Option.map_eq_some_iff.mp hw0
    obtain ⟨rfl, rfl⟩ : i = j ∧ rowW row = ws := by
      injection ew with a b
      exact ⟨a, b⟩
    have o := rowsOk_at ok i row hrow
    have wne := (rowW_ok hkN o).1
    have lr : l ≠ r := fun q => by
      rw [q, eR3] at hl2
      have := congrArg (fun o => match o with | some (HO.lst xs) => xs | _ => []) hl2
      exact wne (List.map_eq_nil_iff.mp this.symm)
    have ln : l ≠ n := ne_of hl2 eN3 (fun q => by cases q)
    have tr : T2 ≠ r := ne_of hT2 eR3 (fun q => by cases q)
    have tn : T2 ≠ n := ne_of hT2 eN3 (fun q => by cases q)
    have sH5 : Same H1 H5 := fun b ob e => kp _ _ (ne_of_none e hr) (ne_of_none e n1) (s3 _ _ (sR _ _ e))
    refine ⟨T2, _, rfl, .of (kp _ _ tr tn hT2), rfl, _, _, rfl, _, _, rfl, rfl, ?_⟩
    simp only [tBM, SlX.tMethSl, tSeq, tIfS, tOr, tAnd, tNot, tB, tCB, tCons, tNil, tVar, tC, tTest, tChain, tRet, tRetN, tNext, tOp, tAndV, tOrV, tNotV, tIf, tThen, tYes, tTup, tLst, tCall, tAsg, tDrop, tDNewK, gName, gTup, gCons, gNil, rI0, rI, CMul, CDiv, tUn, rU, rEq, rNe, scal, LenV, RetB, RetD, List.set_cons_zero, List.set_cons_succ, List.getElem?_cons_zero, List.getElem?_cons_succ, Option.some.injEq, exists_eq_left', exists_eq_left, List.cons.injEq, and_true, true_and, V.int.injEq, V.str.injEq, V.bl.injEq, V.ref.injEq, if_true, if_false, Bool.not_true, Bool.not_false, reduceCtorEq, decide_true, decide_false, Bool.false_eq_true, exists_and_left, Bool.not_eq_true', decide_eq_true_eq, decide_eq_false_iff_not, rLenK, tLenSetT, List.append_nil, and_assoc, or_false, false_or, exists_false, false_and, and_false, rGetL, rSetL, gSub, tAugS, ipI, tPart, tNoPart, not_true, not_false_iff, ite_true, ite_false, List.map_cons, List.map_nil, sp_check_texts, sp_row_in, sp_said_lines]
    refine ⟨ks, cs, hx.same (s1.trans sH5), _, eM, row, kp _ _ lr ln hl2, o, fun v H6 s6 t6 => ?_⟩
    have hlen : (nmD ((rs.take i).foldl stN [])).length < sizeLine := by
      rw [dV_length]
      have := stN_len (rs.take i) []
      rw [List.length_take, List.length_nil] at this
      exact lt1 (by omega)
    have hfl : fs.length < sizeLine := by
      rw [tF.len, List.length_take]
      exact lt1 (by omega)
    have kp6 : ∀ b ob, b ≠ r → b ≠ n → H3 b = some ob → H6 b = some ob := fun b ob q1 q2 e => s6 _ _ (kp _ _ q1 q2 e)
    have htake : (rs.take (i + 1)).map dR = (rs.take i).map dR ++ [dR row] := by
      rw [List.take_add_one, hrow, Option.toList_some, List.map_append]
      rfl
    have hnm : (rs.take (i + 1)).foldl stN [] = stN ((rs.take i).foldl stN []) row := by
      rw [List.take_add_one, hrow, Option.toList_some, List.foldl_append]
      rfl
    have eF6 := s6 _ _ eF
    have eM6 := s6 _ _ eM
    have tF6 := TpAll.same s6 tF
    rw [htake, hnm]
    cases row with
    | put nm k =>
      obtain ⟨b2, w1, w2, w3, rfl, hb3, h1, h2, h3⟩ := t6.three
      cases h1
      cases h2
      rw [if_neg (fun e => by cases e)]
      refine ⟨b2, _, 0, _, rfl, rfl, .of hb3, atI_0 _ _, ?_⟩
      simp only [tBM, SlX.tMethSl, tSeq, tIfS, tOr, tAnd, tNot, tB, tCB, tCons, tNil, tVar, tC, tTest, tChain, tRet, tRetN, tNext, tOp, tAndV, tOrV, tNotV, tIf, tThen, tYes, tTup, tLst, tCall, tAsg, tDrop, tDNewK, gName, gTup, gCons, gNil, rI0, rI, CMul, CDiv, tUn, rU, rEq, rNe, scal, LenV, RetB, RetD, List.set_cons_zero, List.set_cons_succ, List.getElem?_cons_zero, List.getElem?_cons_succ, Option.some.injEq, exists_eq_left', exists_eq_left, List.cons.injEq, and_true, true_and, V.int.injEq, V.str.injEq, V.bl.injEq, V.ref.injEq, if_true, if_false, Bool.not_true, Bool.not_false, reduceCtorEq, decide_true, decide_false, Bool.false_eq_true, exists_and_left, Bool.not_eq_true', decide_eq_true_eq, decide_eq_false_iff_not, rLenK, tLenSetT, List.append_nil, and_assoc, or_false, false_or, exists_false, false_and, and_false, rGetL, rSetL, gSub, tAugS, ipI, tPart, tNoPart, not_true, not_false_iff, ite_true, ite_false, List.map_cons, List.map_nil, sp_check_texts, sp_row_in, sp_said_lines]
      refine ⟨_, rfl, _, rfl, b2, _, 1, _, rfl, rfl, .of hb3, atI_1 _ _ _, n, _, rfl, DPut.k (k := .inr nm) eM6 hlen, ?_⟩
      rw [show putK (nmD ((rs.take i).foldl stN [])) (.inr nm) (.bl true) = nmD ((rs.take i).foldl stN [] ++ [nm]) from dV_new o.2.2]
      have tk : TK H6 (upd H6 n (.dK (nmD ((rs.take i).foldl stN [] ++ [nm])))) := .updD eM6
      have eF7 : upd H6 n (.dK (nmD ((rs.take i).foldl stN [] ++ [nm]))) r = some (.lst fs) := by rw [upd_ne rn]; exact eF6
      refine ⟨_, rfl, .inl ⟨rfl, _, .of eF7⟩, _, rfl, r, fs, _, rfl, rfl, eF7, hfl, ?_⟩
      refine ⟨_, _, _, rfl, fun b ob q1 q2 e => by rw [upd_ne q1, upd_ne q2]; exact kp6 _ _ q1 q2 e, ⟨_, upd_same, (TpAll.keep tk tF6).snoc (t6.keep tk) |> TpAll.keep (.updL eF7)⟩, ?_⟩
      rw [upd_ne rn.symm, upd_same]
      rfl
    | drop nm =>
      obtain ⟨b2, w1, w2, rfl, hb3, h1, h2⟩ := t6.two
      cases h1
      rw [if_neg (fun e => by cases e)]
      refine ⟨b2, _, 0, _, rfl, rfl, .of hb3, atI_0 _ _, ?_⟩
      simp only [tBM, SlX.tMethSl, tSeq, tIfS, tOr, tAnd, tNot, tB, tCB, tCons, tNil, tVar, tC, tTest, tChain, tRet, tRetN, tNext, tOp, tAndV, tOrV, tNotV, tIf, tThen, tYes, tTup, tLst, tCall, tAsg, tDrop, tDNewK, gName, gTup, gCons, gNil, rI0, rI, CMul, CDiv, tUn, rU, rEq, rNe, scal, LenV, RetB, RetD, List.set_cons_zero, List.set_cons_succ, List.getElem?_cons_zero, List.getElem?_cons_succ, Option.some.injEq, exists_eq_left', exists_eq_left, List.cons.injEq, and_true, true_and, V.int.injEq, V.str.injEq, V.bl.injEq, V.ref.injEq, if_true, if_false, Bool.not_true, Bool.not_false, reduceCtorEq, decide_true, decide_false, Bool.false_eq_true, exists_and_left, Bool.not_eq_true', decide_eq_true_eq, decide_eq_false_iff_not, rLenK, tLenSetT, List.append_nil, and_assoc, or_false, false_or, exists_false, false_and, and_false, rGetL, rSetL, gSub, tAugS, ipI, tPart, tNoPart, not_true, not_false_iff, ite_true, ite_false, List.map_cons, List.map_nil, sp_check_texts, sp_row_in, sp_said_lines, ne_cp, ne_pc, ne_dp, ne_pd, ne_cd, ne_dc]
      refine ⟨.inl ⟨rfl, _, .of eF6⟩, r, fs, _, rfl, rfl, eF6, hfl, ?_⟩
      refine ⟨fun b ob q1 q2 e => by rw [upd_ne q1]; exact kp6 _ _ q1 q2 e, ⟨_, upd_same, TpAll.keep (.updL eF6) (tF6.snoc t6)⟩, ?_⟩
      rw [upd_ne rn.symm]
      exact eM6
    | call c =>
      obtain ⟨b2, w1, w2, rfl, hb3, h1, h2⟩ := t6.two
      cases h1
      rw [if_neg (fun e => by cases e)]
      refine ⟨b2, _, 0, _, rfl, rfl, .of hb3, atI_0 _ _, ?_⟩
      simp only [tBM, SlX.tMethSl, tSeq, tIfS, tOr, tAnd, tNot, tB, tCB, tCons, tNil, tVar, tC, tTest, tChain, tRet, tRetN, tNext, tOp, tAndV, tOrV, tNotV, tIf, tThen, tYes, tTup, tLst, tCall, tAsg, tDrop, tDNewK, gName, gTup, gCons, gNil, rI0, rI, CMul, CDiv, tUn, rU, rEq, rNe, scal, LenV, RetB, RetD, List.set_cons_zero, List.set_cons_succ, List.getElem?_cons_zero, List.getElem?_cons_succ, Option.some.injEq, exists_eq_left', exists_eq_left, List.cons.injEq, and_true, true_and, V.int.injEq, V.str.injEq, V.bl.injEq, V.ref.injEq, if_true, if_false, Bool.not_true, Bool.not_false, reduceCtorEq, decide_true, decide_false, Bool.false_eq_true, exists_and_left, Bool.not_eq_true', decide_eq_true_eq, decide_eq_false_iff_not, rLenK, tLenSetT, List.append_nil, and_assoc, or_false, false_or, exists_false, false_and, and_false, rGetL, rSetL, gSub, tAugS, ipI, tPart, tNoPart, not_true, not_false_iff, ite_true, ite_false, List.map_cons, List.map_nil, sp_check_texts, sp_row_in, sp_said_lines, ne_cp, ne_pc, ne_dp, ne_pd, ne_cd, ne_dc]
      refine ⟨.inl ⟨rfl, _, .of eF6⟩, r, fs, _, rfl, rfl, eF6, hfl, ?_⟩
      refine ⟨fun b ob q1 q2 e => by rw [upd_ne q1]; exact kp6 _ _ q1 q2 e, ⟨_, upd_same, TpAll.keep (.updL eF6) (tF6.snoc t6)⟩, ?_⟩
      rw [upd_ne rn.symm]
      exact eM6
  · rintro σ H4 ⟨y, z, u, rfl, kp, ⟨fs, eF, tF⟩, eM⟩
    rw [List.take_of_length_le (by rw [hal] <;> exact Nat.le_refl _)] at tF
    have sH4 : Same H1 H4 := fun b ob e => kp _ _ (ne_of_none e hr) (ne_of_none e n1) (s3 _ _ (sR _ _ e))
    simp only [tBM, SlX.tMethSl, tSeq, tIfS, tOr, tAnd, tNot, tB, tCB, tCons, tNil, tVar, tC, tTest, tChain, tRet, tRetN, tNext, tOp, tAndV, tOrV, tNotV, tIf, tThen, tYes, tTup, tLst, tCall, tAsg, tDrop, tDNewK, gName, gTup, gCons, gNil, rI0, rI, CMul, CDiv, tUn, rU, rEq, rNe, scal, LenV, RetB, RetD, List.set_cons_zero, List.set_cons_succ, List.getElem?_cons_zero, List.getElem?_cons_succ, Option.some.injEq, exists_eq_left', exists_eq_left, List.cons.injEq, and_true, true_and, V.int.injEq, V.str.injEq, V.bl.injEq, V.ref.injEq, if_true, if_false, Bool.not_true, Bool.not_false, reduceCtorEq, decide_true, decide_false, Bool.false_eq_true, exists_and_left, Bool.not_eq_true', decide_eq_true_eq, decide_eq_false_iff_not, rLenK, tLenSetT, List.append_nil, and_assoc, or_false, false_or, exists_false, false_and, and_false, rGetL, rSetL, gSub, tAugS, ipI, tPart, tNoPart, not_true, not_false_iff, ite_true, ite_false, List.map_cons, List.map_nil, sp_check_texts, sp_row_in, sp_said_lines]
    exact tuple_of eF tF fun v H5 s5 t5 => q _ _ ((s1.trans sH4).trans s5) t5
end
end C9
/-! ## F9 -/
set_option maxHeartbeats 4000000
namespace C9
open PySem PySem.Spec PyProof.Rows L2 C8
section
variable {K : PySem.W.Frag} {mg : Str → Option Value} {P : Program} {w : World} {base : Heap}
def sp_line_of (K : PySem.W.Frag) : Sp := fun vs H Q E => ∃ x y, vs = [x, y] ∧ ∃ a ws, x = .str a ∧ Tp H y (dS ws) ∧ ws.length ≤ 100 ∧ a.length ≤ 6 ∧ (∀ u ∈ ws, u.length ≤ 6) ∧ ∀ H', Same H H' → Q (.str (lineW (a :: ws))) H'
theorem sc_line_of : FnScope ["word", "words"] ["word", "words"] (defScope s_line_of) := ⟨rfl, rfl, rfl, by decide +kernel, rfl, by decide +kernel, by decide +kernel⟩
theorem c_line_of (T : Txt K mg) : C8.Cal P w K mg base 1 "line_of" (sp_line_of K) [] := by
  refine T.cal 31 25 rfl rfl sc_line_of
    (fun _ _ _ _ _ _ us h => match us, h with | [_, _], _ => rfl)
    (fun vs H Q E h => by obtain ⟨_, _, rfl, _⟩ := h; rfl) (fun f cdv A outer s H vs Q E hr h => ?_)
  have nd := sc_line_of.nd
  refine ⟨_, (pss_one (ps_ret (pe_join pe_str (pe_lst (pa_cons (pv 0) (k_star K (StX.pa_star (pv 1) pa_nil))))))), ?_⟩
  obtain ⟨v0, v1, rfl, h⟩ := h
  rw [show L2.start ["word", "words"] [v0, v1] = [some v0, some v1] from rfl]
  obtain ⟨a, ws, rfl, hy, hl, ha, hw, q⟩ := h
  obtain ⟨b, rfl, hb⟩ := hy.strs_at
  refine ⟨⟨_, rfl⟩, _, rfl, _, rfl, b, ws.map V.str, rfl, .inl (.of hb), ?_, fun p hp => ?_⟩
  · simp only [tBM, SlX.tMethSl, tSeq, tIfS, tOr, tAnd, tNot, tB, tCB, tCons, tNil, tVar, tC, tTest, tChain, tRet, tRetN, tNext, tOp, tAndV, tOrV, tNotV, tIf, tThen, tYes, tTup, tLst, tCall, tAsg, tDrop, tDNewK, gName, gTup, gCons, gNil, rI0, rI, CMul, CDiv, tUn, rU, rEq, rNe, scal, LenV, RetB, RetD, List.set_cons_zero, List.set_cons_succ, List.getElem?_cons_zero, List.getElem?_cons_succ, Option.some.injEq, exists_eq_left', exists_eq_left, List.cons.injEq, and_true, true_and, V.int.injEq, V.str.injEq, V.bl.injEq, V.ref.injEq, if_true, if_false, Bool.not_true, Bool.not_false, reduceCtorEq, decide_true, decide_false, Bool.false_eq_true, exists_and_left, Bool.not_eq_true', decide_eq_true_eq, decide_eq_false_iff_not, rLenK, tLenSetT, List.append_nil, and_assoc, or_false, false_or, exists_false, false_and, and_false, rGetL, rSetL, gSub, tAugS, ipI, tPart, tNoPart, not_true, not_false_iff, ite_true, ite_false, List.map_cons, List.map_nil, List.length_append, List.length_cons, List.length_map, List.length_nil]
    exact Nat.le_trans (by omega : _ ≤ 1000) (by decide)
  · refine ⟨" ", p, a :: ws, rfl, rfl, .inl (.of ?_), ?_, q _ (sm_new hp)⟩
    · rw [upd_same, List.append_nil]
      rfl
    · have := sum_le (M := 6) (ws := a :: ws) (fun u hu => by
        rcases List.mem_cons.mp hu with rfl | hu
        · exact ha
        · exact hw u hu)
      have e : (Str.ofString " ").length = 1 := by decide +kernel
      rw [e]
      rw [List.length_cons] at this ⊢
      omega
def sp_text_of (K : PySem.W.Frag) : Sp := fun vs H Q E => ∃ x, vs = [x] ∧ ∃ l zs, x = .ref l ∧ H l = some (.lst (zs.map V.str)) ∧ zs.length ≤ 100 ∧ (∀ u ∈ zs, u.length ≤ 1000) ∧ Q (.str (Txt.join "\n" zs)) H
theorem sc_text_of : FnScope ["lines"] ["lines"] (defScope s_text_of) := ⟨rfl, rfl, rfl, by decide +kernel, rfl, by decide +kernel, by decide +kernel⟩
theorem c_text_of (T : Txt K mg) : C8.Cal P w K mg base 1 "text_of" (sp_text_of K) [] := by
  refine T.cal 32 26 rfl rfl sc_text_of
    (fun _ _ _ _ _ _ us h => match us, h with | [_], _ => rfl)
    (fun vs H Q E h => by obtain ⟨_, rfl, _⟩ := h; rfl) (fun f cdv A outer s H vs Q E hr h => ?_)
  have nd := sc_text_of.nd
  refine ⟨_, (pss_one (ps_ret (pe_join pe_str (pv 0)))), ?_⟩
  obtain ⟨v0, rfl, h⟩ := h
  rw [show L2.start ["lines"] [v0] = [some v0] from rfl]
  obtain ⟨l, zs, rfl, hl, hz, hu, q⟩ := h
  refine ⟨⟨_, rfl⟩, _, rfl, "\n", l, zs, rfl, rfl, .inl (.of hl), ?_, q⟩
  have := sum_le hu
  have e : (Str.ofString "\n").length = 1 := by decide +kernel
  rw [e]
  omega
/-- the words of a row are short -/
def shortR : Row → Prop
  | .put n k => n.length ≤ 6 ∧ k.length ≤ 6
  | .drop n => n.length ≤ 6
  | .call c => c.length ≤ 6 ∧ ∀ k ∈ c, k.length ≤ 6
def sp_line_of_deed (K : PySem.W.Frag) : Sp := fun vs H Q E => ∃ x, vs = [x] ∧ ∃ r, Tp H x (dR r) ∧ shortR r ∧ ∀ H', Same H H' → Q (.str (lineW (rowW r))) H'
theorem sc_line_of_deed : FnScope ["deed"] ["deed"] (defScope s_line_of_deed) := ⟨rfl, rfl, rfl, by decide +kernel, rfl, by decide +kernel, by decide +kernel⟩
theorem c_line_of_deed (T : Txt K mg) : C8.Cal P w K mg base 2 "line_of_deed" (sp_line_of_deed K) [] := by
  refine T.cal 33 27 rfl rfl sc_line_of_deed
    (fun _ _ _ _ _ _ us h => match us, h with | [_], _ => rfl)
    (fun vs H Q E h => by obtain ⟨_, rfl, _⟩ := h; rfl) (fun f cdv A outer s H vs Q E hr h => ?_)
  have nd := sc_line_of_deed.nd
  refine ⟨_, (pss_one (ps_ret (pe_ifExp (pt_cmpR op_eq (pe_ix (k_ixT K) (pv 0) pe_int (fun _ _ => rfl)) pe_str rfl) (pe_c (c_line_of T) hr (by decide) (by rfl) (pa_cons pe_str (pa_cons (pe_ix (k_ixT K) (pv 0) pe_int (fun _ _ => rfl)) pa_nil))) (pe_c (c_line_of T) hr (by decide) (by rfl) (pa_cons (pe_ix (k_ixT K) (pv 0) pe_int (fun _ _ => rfl)) (pa_cons (pe_slice (k_slT K) (pv 0) (po_some pe_int) po_none) pa_nil)))))), ?_⟩
  obtain ⟨v0, rfl, h⟩ := h
  rw [show L2.start ["deed"] [v0] = [some v0] from rfl]
  obtain ⟨r, hx, sh, q⟩ := h
  cases r with
  | put nm k =>
    obtain ⟨b2, w1, w2, w3, rfl, hb3, h1, h2, h3⟩ := hx.three
    cases h1; cases h2; cases h3
    simp only [tBM, SlX.tMethSl, tSeq, tIfS, tOr, tAnd, tNot, tB, tCB, tCons, tNil, tVar, tC, tTest, tChain, tRet, tRetN, tNext, tOp, tAndV, tOrV, tNotV, tIf, tThen, tYes, tTup, tLst, tCall, tAsg, tDrop, tDNewK, gName, gTup, gCons, gNil, rI0, rI, CMul, CDiv, tUn, rU, rEq, rNe, scal, LenV, RetB, RetD, List.set_cons_zero, List.set_cons_succ, List.getElem?_cons_zero, List.getElem?_cons_succ, Option.some.injEq, exists_eq_left', exists_eq_left, List.cons.injEq, and_true, true_and, V.int.injEq, V.str.injEq, V.bl.injEq, V.ref.injEq, if_true, if_false, Bool.not_true, Bool.not_false, reduceCtorEq, decide_true, decide_false, Bool.false_eq_true, exists_and_left, Bool.not_eq_true', decide_eq_true_eq, decide_eq_false_iff_not, rLenK, tLenSetT, List.append_nil, and_assoc, or_false, false_or, exists_false, false_and, and_false, rGetL, rSetL, gSub, tAugS, ipI, tPart, tNoPart, not_true, not_false_iff, ite_true, ite_false, List.map_cons, List.map_nil, sp_line_of]
    refine ⟨b2, _, 0, _, rfl, rfl, .of hb3, atI_0 _ _, ?_⟩
    simp only [tBM, SlX.tMethSl, tSeq, tIfS, tOr, tAnd, tNot, tB, tCB, tCons, tNil, tVar, tC, tTest, tChain, tRet, tRetN, tNext, tOp, tAndV, tOrV, tNotV, tIf, tThen, tYes, tTup, tLst, tCall, tAsg, tDrop, tDNewK, gName, gTup, gCons, gNil, rI0, rI, CMul, CDiv, tUn, rU, rEq, rNe, scal, LenV, RetB, RetD, List.set_cons_zero, List.set_cons_succ, List.getElem?_cons_zero, List.getElem?_cons_succ, Option.some.injEq, exists_eq_left', exists_eq_left, List.cons.injEq, and_true, true_and, V.int.injEq, V.str.injEq, V.bl.injEq, V.ref.injEq, if_true, if_false, Bool.not_true, Bool.not_false, reduceCtorEq, decide_true, decide_false, Bool.false_eq_true, exists_and_left, Bool.not_eq_true', decide_eq_true_eq, decide_eq_false_iff_not, rLenK, tLenSetT, List.append_nil, and_assoc, or_false, false_or, exists_false, false_and, and_false, rGetL, rSetL, gSub, tAugS, ipI, tPart, tNoPart, not_true, not_false_iff, ite_true, ite_false, List.map_cons, List.map_nil, sp_line_of, ne_cp, ne_pc, ne_dp, ne_pd, ne_cd, ne_dc]
    refine ⟨b2, _, 0, _, rfl, rfl, .of hb3, atI_0 _ _, ?_⟩
    refine ⟨_, rfl, 1, rfl, b2, _, rfl, .of hb3, fun hw => absurd (show HT.sIx 3 0 (some 1) = 0 from hw.1) (by decide), fun _ p hp => ?_⟩
    rw [cut_behind]
    have t : Tp (upd H p (.tup [V.str nm, .str k])) (.ref p) (dS [nm, k]) := .strs_of upd_same
    refine ⟨"put", rfl, [nm, k], t, by show 2 ≤ 100; decide, by decide +kernel, fun u hu => ?_, fun H' s' => q _ ((sm_new hp).trans s')⟩
    rcases List.mem_cons.mp hu with rfl | hu
    · exact sh.1
    · rw [List.mem_singleton.mp hu]; exact sh.2
  | drop nm =>
    obtain ⟨b2, w1, w2, rfl, hb3, h1, h2⟩ := hx.two
    cases h1; cases h2
    simp only [tBM, SlX.tMethSl, tSeq, tIfS, tOr, tAnd, tNot, tB, tCB, tCons, tNil, tVar, tC, tTest, tChain, tRet, tRetN, tNext, tOp, tAndV, tOrV, tNotV, tIf, tThen, tYes, tTup, tLst, tCall, tAsg, tDrop, tDNewK, gName, gTup, gCons, gNil, rI0, rI, CMul, CDiv, tUn, rU, rEq, rNe, scal, LenV, RetB, RetD, List.set_cons_zero, List.set_cons_succ, List.getElem?_cons_zero, List.getElem?_cons_succ, Option.some.injEq, exists_eq_left', exists_eq_left, List.cons.injEq, and_true, true_and, V.int.injEq, V.str.injEq, V.bl.injEq, V.ref.injEq, if_true, if_false, Bool.not_true, Bool.not_false, reduceCtorEq, decide_true, decide_false, Bool.false_eq_true, exists_and_left, Bool.not_eq_true', decide_eq_true_eq, decide_eq_false_iff_not, rLenK, tLenSetT, List.append_nil, and_assoc, or_false, false_or, exists_false, false_and, and_false, rGetL, rSetL, gSub, tAugS, ipI, tPart, tNoPart, not_true, not_false_iff, ite_true, ite_false, List.map_cons, List.map_nil, sp_line_of]
    refine ⟨b2, _, 0, _, rfl, rfl, .of hb3, atI_0 _ _, ?_⟩
    simp only [tBM, SlX.tMethSl, tSeq, tIfS, tOr, tAnd, tNot, tB, tCB, tCons, tNil, tVar, tC, tTest, tChain, tRet, tRetN, tNext, tOp, tAndV, tOrV, tNotV, tIf, tThen, tYes, tTup, tLst, tCall, tAsg, tDrop, tDNewK, gName, gTup, gCons, gNil, rI0, rI, CMul, CDiv, tUn, rU, rEq, rNe, scal, LenV, RetB, RetD, List.set_cons_zero, List.set_cons_succ, List.getElem?_cons_zero, List.getElem?_cons_succ, Option.some.injEq, exists_eq_left', exists_eq_left, List.cons.injEq, and_true, true_and, V.int.injEq, V.str.injEq, V.bl.injEq, V.ref.injEq, if_true, if_false, Bool.not_true, Bool.not_false, reduceCtorEq, decide_true, decide_false, Bool.false_eq_true, exists_and_left, Bool.not_eq_true', decide_eq_true_eq, decide_eq_false_iff_not, rLenK, tLenSetT, List.append_nil, and_assoc, or_false, false_or, exists_false, false_and, and_false, rGetL, rSetL, gSub, tAugS, ipI, tPart, tNoPart, not_true, not_false_iff, ite_true, ite_false, List.map_cons, List.map_nil, sp_line_of, ne_cp, ne_pc, ne_dp, ne_pd, ne_cd, ne_dc]
    refine ⟨b2, _, 0, _, rfl, rfl, .of hb3, atI_0 _ _, ?_⟩
    refine ⟨_, rfl, 1, rfl, b2, _, rfl, .of hb3, fun hw => absurd (show HT.sIx 2 0 (some 1) = 0 from hw.1) (by decide), fun _ p hp => ?_⟩
    rw [cut_behind]
    have t : Tp (upd H p (.tup [V.str nm])) (.ref p) (dS [nm]) := .strs_of upd_same
    refine ⟨"drop", rfl, [nm], t, by show 1 ≤ 100; decide, by decide +kernel, fun u hu => ?_, fun H' s' => q _ ((sm_new hp).trans s')⟩
    rw [List.mem_singleton.mp hu]
    exact sh
  | call c =>
    obtain ⟨b2, w1, w2, rfl, hb3, h1, h2⟩ := hx.two
    cases h1
    simp only [tBM, SlX.tMethSl, tSeq, tIfS, tOr, tAnd, tNot, tB, tCB, tCons, tNil, tVar, tC, tTest, tChain, tRet, tRetN, tNext, tOp, tAndV, tOrV, tNotV, tIf, tThen, tYes, tTup, tLst, tCall, tAsg, tDrop, tDNewK, gName, gTup, gCons, gNil, rI0, rI, CMul, CDiv, tUn, rU, rEq, rNe, scal, LenV, RetB, RetD, List.set_cons_zero, List.set_cons_succ, List.getElem?_cons_zero, List.getElem?_cons_succ, Option.some.injEq, exists_eq_left', exists_eq_left, List.cons.injEq, and_true, true_and, V.int.injEq, V.str.injEq, V.bl.injEq, V.ref.injEq, if_true, if_false, Bool.not_true, Bool.not_false, reduceCtorEq, decide_true, decide_false, Bool.false_eq_true, exists_and_left, Bool.not_eq_true', decide_eq_true_eq, decide_eq_false_iff_not, rLenK, tLenSetT, List.append_nil, and_assoc, or_false, false_or, exists_false, false_and, and_false, rGetL, rSetL, gSub, tAugS, ipI, tPart, tNoPart, not_true, not_false_iff, ite_true, ite_false, List.map_cons, List.map_nil, sp_line_of]
    refine ⟨b2, _, 0, _, rfl, rfl, .of hb3, atI_0 _ _, ?_⟩
    simp only [tBM, SlX.tMethSl, tSeq, tIfS, tOr, tAnd, tNot, tB, tCB, tCons, tNil, tVar, tC, tTest, tChain, tRet, tRetN, tNext, tOp, tAndV, tOrV, tNotV, tIf, tThen, tYes, tTup, tLst, tCall, tAsg, tDrop, tDNewK, gName, gTup, gCons, gNil, rI0, rI, CMul, CDiv, tUn, rU, rEq, rNe, scal, LenV, RetB, RetD, List.set_cons_zero, List.set_cons_succ, List.getElem?_cons_zero, List.getElem?_cons_succ, Option.some.injEq, exists_eq_left', exists_eq_left, List.cons.injEq, and_true, true_and, V.int.injEq, V.str.injEq, V.bl.injEq, V.ref.injEq, if_true, if_false, Bool.not_true, Bool.not_false, reduceCtorEq, decide_true, decide_false, Bool.false_eq_true, exists_and_left, Bool.not_eq_true', decide_eq_true_eq, decide_eq_false_iff_not, rLenK, tLenSetT, List.append_nil, and_assoc, or_false, false_or, exists_false, false_and, and_false, rGetL, rSetL, gSub, tAugS, ipI, tPart, tNoPart, not_true, not_false_iff, ite_true, ite_false, List.map_cons, List.map_nil, sp_line_of, ne_cp, ne_pc, ne_dp, ne_pd, ne_cd, ne_dc]
    refine ⟨b2, _, 1, _, rfl, rfl, .of hb3, atI_1 _ _ _, ?_⟩
    exact ⟨c, h2, by have := sh.1; omega, by decide +kernel, sh.2, fun H' s' => q _ s'⟩
def sp_show_log (K : PySem.W.Frag) : Sp := fun vs H Q E => ∃ x, vs = [x] ∧ ∃ rs : List Row, Tp H x (.tuple (rs.map dR)) ∧ rs.length ≤ 100 ∧ (∀ r ∈ rs, shortR r) ∧ ∀ H', Same H H' → Q (.str (textW (rs.map rowW))) H'
theorem sc_show_log : FnScope ["log", "row"] ["log"] (defScope s_show_log) := ⟨rfl, rfl, rfl, by decide +kernel, rfl, by decide +kernel, by decide +kernel⟩
theorem c_show_log (T : Txt K mg) : C8.Cal P w K mg base 3 "show_log" (sp_show_log K) [] := by
  refine T.cal 34 28 rfl rfl sc_show_log
    (fun _ _ _ _ _ _ us h => match us, h with | [_], _ => rfl)
    (fun vs H Q E h => by obtain ⟨_, rfl, _⟩ := h; rfl) (fun f cdv A outer s H vs Q E hr h => ?_)
  have nd := sc_show_log.nd
  refine ⟨_, (pss_one (ps_ret (pe_c (c_text_of T) hr (by decide) (by rfl) (pa_cons (pe_lc rfl nd (k_piT K (pi_tup (pv 0))) (blkOk_by (own := [("row", 1)]) (by rfl)) (fun _ _ _ _ _ => (pg_name (i := 1) nd rfl (by first | exact .inl rfl | exact .inr rfl))) (fun _ _ _ _ _ => pts_nil) (fun _ _ _ _ _ => (pe_c (c_line_of_deed T) hr (by decide) (by rfl) (pa_cons (pv 1) pa_nil)))) pa_nil)))), ?_⟩
  obtain ⟨v0, rfl, h⟩ := h
  rw [show L2.start ["log", "row"] [v0] = [some v0, none] from rfl]
  obtain ⟨rs, hx, hl, sh, q⟩ := h
  obtain ⟨b, ys, rfl, hb, hys⟩ := hx.tup_at
  simp only [tBM, SlX.tMethSl, tSeq, tIfS, tOr, tAnd, tNot, tB, tCB, tCons, tNil, tVar, tC, tTest, tChain, tRet, tRetN, tNext, tOp, tAndV, tOrV, tNotV, tIf, tThen, tYes, tTup, tLst, tCall, tAsg, tDrop, tDNewK, gName, gTup, gCons, gNil, rI0, rI, CMul, CDiv, tUn, rU, rEq, rNe, scal, LenV, RetB, RetD, List.set_cons_zero, List.set_cons_succ, List.getElem?_cons_zero, List.getElem?_cons_succ, Option.some.injEq, exists_eq_left', exists_eq_left, List.cons.injEq, and_true, true_and, V.int.injEq, V.str.injEq, V.bl.injEq, V.ref.injEq, if_true, if_false, Bool.not_true, Bool.not_false, reduceCtorEq, decide_true, decide_false, Bool.false_eq_true, exists_and_left, Bool.not_eq_true', decide_eq_true_eq, decide_eq_false_iff_not, rLenK, tLenSetT, List.append_nil, and_assoc, or_false, false_or, exists_false, false_and, and_false, rGetL, rSetL, gSub, tAugS, ipI, tPart, tNoPart, not_true, not_false_iff, ite_true, ite_false, List.map_cons, List.map_nil, sp_line_of_deed, sp_text_of]
  refine ⟨_, rfl, b, rfl, ⟨_, .of hb⟩, fun D hD => lc_rel walk_tup hD ?_ (RlM (fun r => .str (lineW (rowW r))) rs) .zero (fun H sm => .of (sm _ _ hb)) ?_ ?_⟩
  · rw [hys.len]
    exact lt1 (by omega)
  · rintro i ds x H2 H3 Qe Qs hi sm rl ⟨rfl, hx1⟩ ke _
    obtain ⟨r, hr, tr⟩ := hys.nth hx1
    refine ⟨rfl, ?_⟩
    simp only [tBM, SlX.tMethSl, tSeq, tIfS, tOr, tAnd, tNot, tB, tCB, tCons, tNil, tVar, tC, tTest, tChain, tRet, tRetN, tNext, tOp, tAndV, tOrV, tNotV, tIf, tThen, tYes, tTup, tLst, tCall, tAsg, tDrop, tDNewK, gName, gTup, gCons, gNil, rI0, rI, CMul, CDiv, tUn, rU, rEq, rNe, scal, LenV, RetB, RetD, List.set_cons_zero, List.set_cons_succ, List.getElem?_cons_zero, List.getElem?_cons_succ, Option.some.injEq, exists_eq_left', exists_eq_left, List.cons.injEq, and_true, true_and, V.int.injEq, V.str.injEq, V.bl.injEq, V.ref.injEq, if_true, if_false, Bool.not_true, Bool.not_false, reduceCtorEq, decide_true, decide_false, Bool.false_eq_true, exists_and_left, Bool.not_eq_true', decide_eq_true_eq, decide_eq_false_iff_not, rLenK, tLenSetT, List.append_nil, and_assoc, or_false, false_or, exists_false, false_and, and_false, rGetL, rSetL, gSub, tAugS, ipI, tPart, tNoPart, not_true, not_false_iff, ite_true, ite_false, List.map_cons, List.map_nil, sp_line_of_deed, sp_text_of, wipe]
    exact ⟨r, tr.same sm, sh r (List.mem_of_getElem? hr), fun H4 s4 => ke _ _ _ s4 (.str _) (rl.put hr)⟩
  · intro H2 acc ds s2 e r rl _
    have hds := rl.all (by rw [hys.len] <;> exact Nat.le_refl _)
    subst hds
    rw [show rs.map (fun r => PyData.str (lineW (rowW r))) = ((rs.map rowW).map lineW).map .str by rw [List.map_map, List.map_map]; rfl] at r
    have ha := TpAll.strs.mp r
    subst ha
    simp only [tBM, SlX.tMethSl, tSeq, tIfS, tOr, tAnd, tNot, tB, tCB, tCons, tNil, tVar, tC, tTest, tChain, tRet, tRetN, tNext, tOp, tAndV, tOrV, tNotV, tIf, tThen, tYes, tTup, tLst, tCall, tAsg, tDrop, tDNewK, gName, gTup, gCons, gNil, rI0, rI, CMul, CDiv, tUn, rU, rEq, rNe, scal, LenV, RetB, RetD, List.set_cons_zero, List.set_cons_succ, List.getElem?_cons_zero, List.getElem?_cons_succ, Option.some.injEq, exists_eq_left', exists_eq_left, List.cons.injEq, and_true, true_and, V.int.injEq, V.str.injEq, V.bl.injEq, V.ref.injEq, if_true, if_false, Bool.not_true, Bool.not_false, reduceCtorEq, decide_true, decide_false, Bool.false_eq_true, exists_and_left, Bool.not_eq_true', decide_eq_true_eq, decide_eq_false_iff_not, rLenK, tLenSetT, List.append_nil, and_assoc, or_false, false_or, exists_false, false_and, and_false, rGetL, rSetL, gSub, tAugS, ipI, tPart, tNoPart, not_true, not_false_iff, ite_true, ite_false, List.map_cons, List.map_nil, sp_line_of_deed, sp_text_of]
    refine ⟨_, e, by rw [List.length_map, List.length_map]; exact hl, fun u hu => ?_, q _ s2⟩
    obtain ⟨ws, hws, rfl⟩ := List.mem_map.mp hu
    obtain ⟨r0, hr0, rfl⟩ := List.mem_map.mp hws
    have s0 := sh r0 hr0
    have l6 : ∀ w ∈ rowW r0, w.length ≤ 6 := fun w hw => by
      cases r0 with
      | put n k =>
        rcases List.mem_cons.mp hw with rfl | hw
        · decide +kernel
        · rcases List.mem_cons.mp hw with rfl | hw
          · exact s0.1
          · rw [List.mem_singleton.mp hw]; exact s0.2
      | drop n =>
        rcases List.mem_cons.mp hw with rfl | hw
        · decide +kernel
        · rw [List.mem_singleton.mp hw]; exact s0
      | call c =>
        rcases List.mem_cons.mp hw with rfl | hw
        · decide +kernel
        · exact s0.2 w hw
    have ln : (rowW r0).length ≤ 7 := by
      cases r0 with
      | put n k => show 3 ≤ 7; decide
      | drop n => show 2 ≤ 7; decide
      | call c =>
        show c.length + 1 ≤ 7
        have := s0.1
        omega
    unfold lineW
    rw [show (" " : Str) = ⟨#[32]⟩ from sp_is]
    have := join_len (c := 32) l6
    omega
end
end C9
/-! ## F10 -/
set_option maxHeartbeats 4000000
namespace C9
open PySem PySem.Spec PyProof.Rows L2 C8
/-- a drawing bag stands at b -/
def BagAt (H : Hp) (b : Addr) : Prop := ∃ (l : Addr) (ns : List Int), H b = some (bagO b l) ∧ H l = some (.lst (ns.map V.int)) ∧ ns.length ≤ 63
theorem BagAt.same {H H' : Hp} {b : Addr} (h : BagAt H b) (s : Same H H') : BagAt H' b := by
  obtain ⟨l, ns, e1, e2, e3⟩ := h
  exact ⟨l, ns, s _ _ e1, s _ _ e2, e3⟩
theorem bag_shut {H H' : Hp} {b l : Addr} (e : H b = some (bagO b l)) (s : SameBut b H H') : Same H (upd H' b (bagO b l)) := fun x o h => by
  by_cases hx : x = b
  · rw [hx, e] at h
    rw [hx, upd_same, h]
  · rw [upd_ne hx]
    exact s x o hx h
section
variable {K : PySem.W.Frag} {mg : Str → Option Value} {P : Program} {w : World} {base : Heap}
def sp_law_bag (K : PySem.W.Frag) : Sp := fun vs H Q E => ∃ x, vs = [x] ∧ ∃ (a : Addr) (ns : List Int), x = .ref a ∧ SqL K H a (ns.map V.int) ∧ ns.length ≤ 63 ∧ ∀ b H', Same H H' → BagAt H' b → Q (.ref b) H'
theorem sc_law_bag : FnScope ["_law_script", "_law_cell"] ["_law_script"] (defScope s_law_bag) := ⟨rfl, rfl, rfl, by decide +kernel, rfl, by decide +kernel, by decide +kernel⟩
theorem c_law_bag (T : Txt K mg) : C8.Cal P w K mg base 1 "_law_bag" (sp_law_bag K) [] := by
  refine T.cal 35 29 rfl rfl sc_law_bag
    (fun _ _ _ _ _ _ us h => match us, h with | [_], _ => rfl)
    (fun vs H Q E h => by obtain ⟨_, rfl, _⟩ := h; rfl) (fun f cdv A outer s H vs Q E hr h => ?_)
  have nd := sc_law_bag.nd
  refine ⟨_, (pss_one (ps_ret (pe_bagNew (pe_lst (pa_cons pe_int (pa_cons pe_int (pa_cons pe_int (pa_cons (pe_lc rfl nd (k_piL K (pi_list (pe_slice (k_slL K) (pv 0) po_none (po_some pe_int)))) (blkOk_by (own := [("_law_cell", 1)]) (by rfl)) (fun _ _ _ _ _ => (pg_name (i := 1) nd rfl (by first | exact .inl rfl | exact .inr rfl))) (fun _ _ _ _ _ => pts_nil) (fun _ _ _ _ _ => (pe_callB call_abs (by rfl) (T.free 63) rfl (pa_cons (pv 1) pa_nil)))) pa_nil)))))))), ?_⟩
  obtain ⟨v0, rfl, h⟩ := h
  rw [show L2.start ["_law_script", "_law_cell"] [v0] = [some v0, none] from rfl]
  obtain ⟨a, ns, rfl, ha, hl, q⟩ := h
  have hz : ∀ {m : Nat}, m ≤ 63 → m < sizeLine := fun h => Nat.lt_of_le_of_lt h (by decide)
  obtain ⟨ms, hms⟩ : ∃ ms : List Int, cutV (ns.map V.int) none (some 63) = ms.map V.int := ⟨_, by unfold cutV; rw [← List.map_drop, ← List.map_take]⟩
  have hlen := cutV_length (ns.map V.int) none (some 63)
  rw [hms, List.length_map, List.length_map] at hlen
  refine ⟨_, rfl, 63, rfl, a, _, rfl, ha, fun p hp => ?_⟩
  rw [hms]
  refine ⟨p, rfl, ⟨_, .of upd_same⟩, fun D hD => lc_rel walk_list hD ?_ (fun i ds => ∃ ks : List Int, ds = ks.map .int) ⟨[], rfl⟩ (fun H sm => .of (sm _ _ upd_same)) ?_ ?_⟩
  · rw [List.length_map]
    exact hz (by omega)
  · rintro i ds x H2 H3 Qe Qs hi sm ⟨ks, rfl⟩ ⟨rfl, hx1⟩ ke _
    obtain ⟨z, hz, rfl⟩ := List.getElem?_map.symm.trans hx1 |> Option.map_eq_some_iff.mp
    refine ⟨rfl, ?_⟩
    simp only [tBM, SlX.tMethSl, tSeq, tIfS, tOr, tAnd, tNot, tB, tCB, tCons, tNil, tVar, tC, tTest, tChain, tRet, tRetN, tNext, tOp, tAndV, tOrV, tNotV, tIf, tThen, tYes, tTup, tLst, tCall, tAsg, tDrop, tDNewK, gName, gTup, gCons, gNil, rI0, rI, CMul, CDiv, tUn, rU, rEq, rNe, scal, LenV, RetB, RetD, List.set_cons_zero, List.set_cons_succ, List.getElem?_cons_zero, List.getElem?_cons_succ, Option.some.injEq, exists_eq_left', exists_eq_left, List.cons.injEq, and_true, true_and, V.int.injEq, V.str.injEq, V.bl.injEq, V.ref.injEq, if_true, if_false, Bool.not_true, Bool.not_false, reduceCtorEq, decide_true, decide_false, Bool.false_eq_true, exists_and_left, Bool.not_eq_true', decide_eq_true_eq, decide_eq_false_iff_not, rLenK, tLenSetT, List.append_nil, and_assoc, or_false, false_or, exists_false, false_and, and_false, rGetL, rSetL, gSub, tAugS, ipI, tPart, tNoPart, not_true, not_false_iff, ite_true, ite_false, List.map_cons, List.map_nil, wipe]
    exact ke _ _ _ (.refl _) (.int _) ⟨ks ++ [_], by rw [List.map_append]; rfl⟩
  · rintro H2 acc ds s2 e r ⟨ks, rfl⟩ hl2
    have hacc := TpAll.ints.mp r
    subst hacc
    rw [List.length_map, List.length_map] at hl2
    simp only [tBM, SlX.tMethSl, tSeq, tIfS, tOr, tAnd, tNot, tB, tCB, tCons, tNil, tVar, tC, tTest, tChain, tRet, tRetN, tNext, tOp, tAndV, tOrV, tNotV, tIf, tThen, tYes, tTup, tLst, tCall, tAsg, tDrop, tDNewK, gName, gTup, gCons, gNil, rI0, rI, CMul, CDiv, tUn, rU, rEq, rNe, scal, LenV, RetB, RetD, List.set_cons_zero, List.set_cons_succ, List.getElem?_cons_zero, List.getElem?_cons_succ, Option.some.injEq, exists_eq_left', exists_eq_left, List.cons.injEq, and_true, true_and, V.int.injEq, V.str.injEq, V.bl.injEq, V.ref.injEq, if_true, if_false, Bool.not_true, Bool.not_false, reduceCtorEq, decide_true, decide_false, Bool.false_eq_true, exists_and_left, Bool.not_eq_true', decide_eq_true_eq, decide_eq_false_iff_not, rLenK, tLenSetT, List.append_nil, and_assoc, or_false, false_or, exists_false, false_and, and_false, rGetL, rSetL, gSub, tAugS, ipI, tPart, tNoPart, not_true, not_false_iff, ite_true, ite_false, List.map_cons, List.map_nil]
    refine ⟨by show 4 ≤ _; decide, fun b hb => ⟨D, 0, 1234567891, 0, upd_same, ?_⟩⟩
    have bD : b ≠ D := (ne_of_none e hb).symm
    have s3 : Same H2 (upd (upd H2 b (.lst (bagL 0 1234567891 0 D))) b (bagO b D)) := sm_upd (sm_new hb) hb
    exact q b _ (((sm_new hp).trans s2).trans s3) ⟨D, ks, upd_same, s3 _ _ e, by omega⟩
def sp_law_take (K : PySem.W.Frag) : Sp := fun vs H Q E => ∃ x y, vs = [x, y] ∧ ∃ b m, x = .ref b ∧ y = .int m ∧ BagAt H b ∧ 0 < m ∧ m < 1073741824 ∧ ∀ (v : Int) H', 0 ≤ v → v < m → Same H H' → Q (.int v) H'
theorem sc_law_take : FnScope ["_law_bag_here", "_law_many", "_law_cell", "_law_stirred", "_law_value", "_law_begin", "_law_second"] ["_law_bag_here", "_law_many"] (defScope s_law_take) := ⟨rfl, rfl, rfl, by decide +kernel, rfl, by decide +kernel, by decide +kernel⟩
theorem c_law_take (T : Txt K mg) : C8.Cal P w K mg base 1 "_law_take" (sp_law_take K) [] := by
  refine T.cal 36 30 rfl rfl sc_law_take
    (fun _ _ _ _ _ _ us h => match us, h with | [_, _], _ => rfl)
    (fun vs H Q E h => by obtain ⟨_, _, rfl, _⟩ := h; rfl) (fun f cdv A outer s H vs Q E hr h => ?_)
  have nd := sc_law_take.nd
  refine ⟨_, (pss_bag (C8.pss_cut (ps_if (pt_cmpR op_eq (pe_ix (k_ixL K) (pv 0) pe_int (fun _ _ => rfl)) pe_int rfl) (pss_cons (ps_set (i := 2) nd rfl (.inl rfl) (pe_ix (k_ixL K) (pe_op op_cat (pe_slice (k_slL K) (pe_ix (k_ixL K) (pv 0) pe_int (fun _ _ => rfl)) (po_some (pe_ix (k_ixL K) (pv 0) pe_int (fun _ _ => rfl))) po_none) (pe_lst (pa_cons pe_int pa_nil))) pe_int (fun _ _ => rfl)))
     (pss_cons (ps_augS (pv 0) pe_int (k_get K) pe_int ip_add set_list (fun _ _ _ => rfl))
     (pss_cons (ps_if (pt_cmpR op_ge (pv 2) (pe_op op_pow pe_int pe_int) rfl) (pss_one (ps_asg (pv 2) (pg_sub (pv 0) pe_int set_list (fun _ => rfl)))) pss_nil)
     (pss_cons (ps_set (i := 3) nd rfl (.inl rfl) (pe_op op_add (pe_op op_add (pe_op op_mul (pe_ix (k_ixL K) (pv 0) pe_int (fun _ _ => rfl)) pe_int) (pe_op op_mod (pe_callTy call_intI (by rfl) (T.free 62) rfl (pa_cons (pv 2) pa_nil)) pe_int)) (pe_op op_mul pe_int (pe_ix (k_ixL K) (pv 0) pe_int (fun _ _ => rfl)))))
     (pss_one (ps_asg (pe_op op_mod (pe_callTy call_intI (by rfl) (T.free 62) rfl (pa_cons (pv 3) pa_nil)) pe_int) (pg_sub (pv 0) pe_int set_list (fun _ => rfl)))))))) pss_nil)
     (pss_cons (ps_if (pt_cmpR op_gt (pe_ix (k_ixL K) (pv 0) pe_int (fun _ _ => rfl)) pe_int rfl) (pss_cons (ps_set (i := 4) nd rfl (.inl rfl) (pe_op op_mod (pe_callTy call_intI (by rfl) (T.free 62) rfl (pa_cons (pe_ix (k_ixL K) (pv 0) pe_int (fun _ _ => rfl)) pa_nil)) (pv 1)))
     (pss_cons (ps_asg (pe_op op_fdiv (pe_callTy call_intI (by rfl) (T.free 62) rfl (pa_cons (pe_ix (k_ixL K) (pv 0) pe_int (fun _ _ => rfl)) pa_nil)) (pv 1)) (pg_sub (pv 0) pe_int set_list (fun _ => rfl)))
     (pss_one (ps_ret (pv 4))))) pss_nil)
     (pss_cons (ps_set (i := 5) nd rfl (.inl rfl) (pe_op op_mod (pe_callTy call_intI (by rfl) (T.free 62) rfl (pa_cons (pe_op op_mul (pe_op op_add (pe_ix (k_ixL K) (pv 0) pe_int (fun _ _ => rfl)) pe_int) pe_int) pa_nil)) pe_int))
     (pss_cons (ps_set (i := 6) nd rfl (.inl rfl) (pe_op op_mod (pe_callTy call_intI (by rfl) (T.free 62) rfl (pa_cons (pe_op op_mul (pe_op op_mod (pe_callTy call_intI (by rfl) (T.free 62) rfl (pa_cons (pe_op op_mul (pv 5) (pv 5)) pa_nil)) pe_int) pe_int) pa_nil)) pe_int))
     (pss_one (ps_ret (pe_op op_mod (pe_callTy call_intI (by rfl) (T.free 62) rfl (pa_cons (pe_op op_fdiv (pv 6) pe_int) pa_nil)) (pv 1))))))))), ?_⟩
  obtain ⟨v0, v1, rfl, h⟩ := h
  rw [show L2.start ["_law_bag_here", "_law_many", "_law_cell", "_law_stirred", "_law_value", "_law_begin", "_law_second"] [v0, v1] = [some v0, some v1, none, none, none, none, none] from rfl]
  obtain ⟨b, m, rfl, rfl, ⟨l, ns, eb, el, hl⟩, h0, hm, q⟩ := h
  have lb : l ≠ b := ne_of el eb (fun e => by unfold bagO at e; cases e)
  refine ⟨b, l, eb, fun c0 c1 c2 => ?_⟩
  refine ⟨fun σ H' => ∃ y z c0 c1 c2, σ = [some (.ref b), some (.int m), y, z, none, none, none] ∧ SameBut b H H' ∧ H' b = some (.lst (bagL c0 c1 c2 l)), ?_, ?_⟩
  · have e0 : upd H b (.lst (bagL c0 c1 c2 l)) b = some (.lst (bagL c0 c1 c2 l)) := upd_same
    have s0 : SameBut b H (upd H b (.lst (bagL c0 c1 c2 l))) := (SameBut.of (.refl _)).upd
    simp only [tBM, SlX.tMethSl, tSeq, tIfS, tOr, tAnd, tNot, tB, tCB, tCons, tNil, tVar, tC, tTest, tChain, tRet, tRetN, tNext, tOp, tAndV, tOrV, tNotV, tIf, tThen, tYes, tTup, tLst, tCall, tAsg, tDrop, tDNewK, gName, gTup, gCons, gNil, rI0, rI, CMul, CDiv, tUn, rU, rEq, rNe, scal, LenV, RetB, RetD, List.set_cons_zero, List.set_cons_succ, List.getElem?_cons_zero, List.getElem?_cons_succ, Option.some.injEq, exists_eq_left', exists_eq_left, List.cons.injEq, and_true, true_and, V.int.injEq, V.str.injEq, V.bl.injEq, V.ref.injEq, if_true, if_false, Bool.not_true, Bool.not_false, reduceCtorEq, decide_true, decide_false, Bool.false_eq_true, exists_and_left, Bool.not_eq_true', decide_eq_true_eq, decide_eq_false_iff_not, rLenK, tLenSetT, List.append_nil, and_assoc, or_false, false_or, exists_false, false_and, and_false, rGetL, rSetL, gSub, tAugS, ipI, tPart, tNoPart, not_true, not_false_iff, ite_true, ite_false, List.map_cons, List.map_nil]
    refine ix_l e0 (atI_0 _ _) ⟨rfl, ?_⟩
    simp only [tBM, SlX.tMethSl, tSeq, tIfS, tOr, tAnd, tNot, tB, tCB, tCons, tNil, tVar, tC, tTest, tChain, tRet, tRetN, tNext, tOp, tAndV, tOrV, tNotV, tIf, tThen, tYes, tTup, tLst, tCall, tAsg, tDrop, tDNewK, gName, gTup, gCons, gNil, rI0, rI, CMul, CDiv, tUn, rU, rEq, rNe, scal, LenV, RetB, RetD, List.set_cons_zero, List.set_cons_succ, List.getElem?_cons_zero, List.getElem?_cons_succ, Option.some.injEq, exists_eq_left', exists_eq_left, List.cons.injEq, and_true, true_and, V.int.injEq, V.str.injEq, V.bl.injEq, V.ref.injEq, if_true, if_false, Bool.not_true, Bool.not_false, reduceCtorEq, decide_true, decide_false, Bool.false_eq_true, exists_and_left, Bool.not_eq_true', decide_eq_true_eq, decide_eq_false_iff_not, rLenK, tLenSetT, List.append_nil, and_assoc, or_false, false_or, exists_false, false_and, and_false, rGetL, rSetL, gSub, tAugS, ipI, tPart, tNoPart, not_true, not_false_iff, ite_true, ite_false, List.map_cons, List.map_nil]
    by_cases hz : c0 = 0
    · rw [if_pos hz]
      refine ⟨_, rfl, b, _, 3, _, rfl, rfl, .of e0, atI_3 _ _ _ _ _, _, rfl, b, _, 2, _, rfl, rfl, .of e0, atI_2 _ _ _ _, c2, rfl, l, ns.map V.int, rfl, .of (s0 _ _ lb el), fun p hp => ?_⟩
      obtain ⟨ms, hms⟩ : ∃ ms : List Int, cutV (ns.map V.int) (some c2) none = ms.map V.int := ⟨_, by unfold cutV; rw [← List.map_drop, ← List.map_take]⟩
      have hlen := cutV_length (ns.map V.int) (some c2) none
      rw [hms, List.length_map, List.length_map] at hlen
      rw [hms]
      refine ⟨by show 1 ≤ _; decide, fun p2 hp2 => ⟨p, p2, ms.map V.int, [.int 0], rfl, rfl, (sm_new hp2) _ _ upd_same, upd_same, ?_, fun p3 hp3 => ?_⟩⟩
      · rw [List.length_map]
        exact Nat.le_trans (by simp only [List.length_singleton]; omega : _ ≤ 64) (by decide)
      obtain ⟨i, hi⟩ : ∃ i, atI (ms.map V.int ++ [V.int 0]) 0 = some (V.int i) := by
        cases ms with
        | nil => exact ⟨0, atI_0 _ _⟩
        | cons x ms => exact ⟨x, atI_0 _ _⟩
      refine ix_l upd_same hi ?_
      have s3 : Same (upd H b (.lst (bagL c0 c1 c2 l))) (upd (upd (upd (upd H b (.lst (bagL c0 c1 c2 l))) p (.lst (ms.map V.int))) p2 (.lst [.int 0])) p3 (.lst (ms.map V.int ++ [.int 0]))) := ((sm_new hp).trans (sm_new hp2)).trans (sm_new hp3)
      have e3 := s3 _ _ e0
      have sb3 : SameBut b H (upd (upd (upd (upd H b (.lst (bagL c0 c1 c2 l))) p (.lst (ms.map V.int))) p2 (.lst [.int 0])) p3 (.lst (ms.map V.int ++ [.int 0]))) := s0.trans (.of s3)
      generalize upd (upd (upd (upd H b (.lst (bagL c0 c1 c2 l))) p (.lst (ms.map V.int))) p2 (.lst [.int 0])) p3 (.lst (ms.map V.int ++ [.int 0])) = H3 at e3 sb3
      refine ⟨by decide, _, .of e3, .int c2, rfl, c2, rfl, _, e3, 2, rfl, ⟨by decide, by decide, by decide⟩, i, rfl, ?_⟩
      by_cases hb : 10 ^ Int.toNat 18 ≤ i
      · rw [if_pos hb]
        refine ⟨_, upd_same, 0, rfl, ix_l upd_same (atI_1 _ _ _) ⟨c1, rfl, .inr ⟨by decide, by decide⟩, i, rfl, by decide, ix_l upd_same (atI_2 _ _ _ _) ⟨c2 + 1, rfl, .inl ⟨by decide, by decide⟩, by decide, _, upd_same, 1, rfl, ?_⟩⟩⟩
        exact ⟨sb3.upd.upd.upd, _, _, _, upd_same⟩
      · rw [if_neg hb]
        refine ix_l upd_same (atI_1 _ _ _) ⟨c1, rfl, .inr ⟨by decide, by decide⟩, i, rfl, by decide, ix_l upd_same (atI_2 _ _ _ _) ⟨c2 + 1, rfl, .inl ⟨by decide, by decide⟩, by decide, _, upd_same, 1, rfl, ?_⟩⟩
        exact ⟨sb3.upd.upd, _, _, _, upd_same⟩
    · rw [if_neg hz]
      exact ⟨s0, _, _, _, e0⟩
  · rintro σ H1 ⟨y, z, d0, d1, d2, rfl, s1, e1⟩
    have fin : ∀ (v : Int) (c0 c1 c2 : Int), 0 ≤ v → v < m → bagEnd b l (Q (.int v)) (upd H1 b (.lst (bagL c0 c1 c2 l))) := fun v c0 c1 c2 h1 h2 =>
      ⟨c0, c1, c2, upd_same, q v _ h1 h2 (bag_shut eb s1.upd)⟩
    simp only [tBM, SlX.tMethSl, tSeq, tIfS, tOr, tAnd, tNot, tB, tCB, tCons, tNil, tVar, tC, tTest, tChain, tRet, tRetN, tNext, tOp, tAndV, tOrV, tNotV, tIf, tThen, tYes, tTup, tLst, tCall, tAsg, tDrop, tDNewK, gName, gTup, gCons, gNil, rI0, rI, CMul, CDiv, tUn, rU, rEq, rNe, scal, LenV, RetB, RetD, List.set_cons_zero, List.set_cons_succ, List.getElem?_cons_zero, List.getElem?_cons_succ, Option.some.injEq, exists_eq_left', exists_eq_left, List.cons.injEq, and_true, true_and, V.int.injEq, V.str.injEq, V.bl.injEq, V.ref.injEq, if_true, if_false, Bool.not_true, Bool.not_false, reduceCtorEq, decide_true, decide_false, Bool.false_eq_true, exists_and_left, Bool.not_eq_true', decide_eq_true_eq, decide_eq_false_iff_not, rLenK, tLenSetT, List.append_nil, and_assoc, or_false, false_or, exists_false, false_and, and_false, rGetL, rSetL, gSub, tAugS, ipI, tPart, tNoPart, not_true, not_false_iff, ite_true, ite_false, List.map_cons, List.map_nil]
    refine ix_l e1 (atI_0 _ _) ⟨d0, rfl, ?_⟩
    by_cases hp : 0 < d0
    · rw [if_pos hp]
      refine ix_l e1 (atI_0 _ _) ⟨d0, rfl, h0, ix_l e1 (atI_0 _ _) ⟨d0, rfl, h0, hm, _, e1, 0, rfl, ?_⟩⟩
      exact fin _ _ _ _ (Int.emod_nonneg _ (by omega)) (Int.emod_lt_of_pos _ h0)
    · rw [if_neg hp]
      refine ix_l e1 (atI_1 _ _ _) ⟨d1, rfl, .inr ⟨by decide, by decide⟩, by decide, ?_, by decide, .inr ⟨by decide, by decide⟩, by decide, by decide, by decide, h0, ?_⟩
      · have a1 : 0 ≤ (d1 + 1) * 39373 % 1000000007 := Int.emod_nonneg _ (by decide)
        have a2 : (d1 + 1) * 39373 % 1000000007 < 1000000007 := Int.emod_lt_of_pos _ (by decide)
        generalize (d1 + 1) * 39373 % 1000000007 = x at a1 a2
        refine .inl ⟨?_, ?_⟩
        · exact Int.lt_of_lt_of_le (by decide) a1
        · exact Int.lt_trans a2 (by decide)
      · exact ⟨d0, d1, d2, e1, q _ _ (Int.emod_nonneg _ (by omega)) (Int.emod_lt_of_pos _ h0) (bag_shut eb s1)⟩
def sp_law_one (K : PySem.W.Frag) : Sp := fun vs H Q E => ∃ x y, vs = [x, y] ∧ ∃ b a xs, x = .ref b ∧ y = .ref a ∧ BagAt H b ∧ (SqL K H a xs ∨ SqT K H a xs) ∧ xs ≠ [] ∧ xs.length ≤ 1000 ∧ ∀ v H', v ∈ xs → Same H H' → Q v H'
theorem sc_law_one : FnScope ["_law_bag_here", "_law_things"] ["_law_bag_here", "_law_things"] (defScope s_law_one) := ⟨rfl, rfl, rfl, by decide +kernel, rfl, by decide +kernel, by decide +kernel⟩
theorem c_law_one (T : Txt K mg) : C8.Cal P w K mg base 2 "_law_one" (sp_law_one K) [] := by
  refine T.cal 37 31 rfl rfl sc_law_one
    (fun _ _ _ _ _ _ us h => match us, h with | [_, _], _ => rfl)
    (fun vs H Q E h => by obtain ⟨_, _, rfl, _⟩ := h; rfl) (fun f cdv A outer s H vs Q E hr h => ?_)
  have nd := sc_law_one.nd
  refine ⟨_, (pss_one (ps_ret (pe_ix (k_ix K) (pv 1) (pe_c (c_law_take T) hr (by decide) (by rfl) (pa_cons (pv 0) (pa_cons (pe_callB (k_len K) (by rfl) (T.free 52) rfl (pa_cons (pv 1) pa_nil)) pa_nil))) (fun _ _ => rfl)))), ?_⟩
  obtain ⟨v0, v1, rfl, h⟩ := h
  rw [show L2.start ["_law_bag_here", "_law_things"] [v0, v1] = [some v0, some v1] from rfl]
  obtain ⟨b, a, xs, rfl, rfl, hb, ha, hn, hl, q⟩ := h
  have hp : 0 < xs.length := List.length_pos_iff.mpr hn
  simp only [tBM, SlX.tMethSl, tSeq, tIfS, tOr, tAnd, tNot, tB, tCB, tCons, tNil, tVar, tC, tTest, tChain, tRet, tRetN, tNext, tOp, tAndV, tOrV, tNotV, tIf, tThen, tYes, tTup, tLst, tCall, tAsg, tDrop, tDNewK, gName, gTup, gCons, gNil, rI0, rI, CMul, CDiv, tUn, rU, rEq, rNe, scal, LenV, RetB, RetD, List.set_cons_zero, List.set_cons_succ, List.getElem?_cons_zero, List.getElem?_cons_succ, Option.some.injEq, exists_eq_left', exists_eq_left, List.cons.injEq, and_true, true_and, V.int.injEq, V.str.injEq, V.bl.injEq, V.ref.injEq, if_true, if_false, Bool.not_true, Bool.not_false, reduceCtorEq, decide_true, decide_false, Bool.false_eq_true, exists_and_left, Bool.not_eq_true', decide_eq_true_eq, decide_eq_false_iff_not, rLenK, tLenSetT, List.append_nil, and_assoc, or_false, false_or, exists_false, false_and, and_false, rGetL, rSetL, gSub, tAugS, ipI, tPart, tNoPart, not_true, not_false_iff, ite_true, ite_false, List.map_cons, List.map_nil, sp_law_take]
  refine ⟨xs.length, ?_, hb, by omega, by omega, fun v H1 h0 h1 s1 => ?_⟩
  · rcases ha with ha | ha
    · exact .inl ⟨_, ha, rfl⟩
    · exact .inr ⟨_, ha, rfl⟩
  · obtain ⟨x, hx⟩ : ∃ x, xs[v.toNat]? = some x := ⟨_, List.getElem?_eq_getElem (by omega)⟩
    have e : atI xs v = some x := by
      have := atI_nat hx
      rwa [Int.toNat_of_nonneg h0] at this
    have m := q x H1 (List.mem_of_getElem? hx) s1
    rcases ha with ha | ha
    · exact .inl ⟨a, xs, v, x, rfl, rfl, s1.seq ha, e, m⟩
    · refine .inr (.inl ⟨a, xs, v, x, rfl, rfl, ?_, e, m⟩)
      rcases ha with (h | ⟨o, h⟩) | h
      · exact .inl (.inl (s1 _ _ h))
      · exact .inl (.inr ⟨o, s1 _ _ h⟩)
      · exact .inr h
def sp_law_mixed (K : PySem.W.Frag) : Sp := fun vs H Q E => ∃ x y, vs = [x, y] ∧ ∃ b a xs, x = .ref b ∧ y = .ref a ∧ BagAt H b ∧ SqL K H a xs ∧ xs.length ≤ 1000 ∧ ∀ p ys H', Same H H' → H p = none → H' p = some (.lst ys) → ys.Perm xs → Q (.ref p) H'
theorem sc_law_mixed : FnScope ["_law_bag_here", "_law_things", "_law_found", "_law_thing"] ["_law_bag_here", "_law_things"] (defScope s_law_mixed) := ⟨rfl, rfl, rfl, by decide +kernel, rfl, by decide +kernel, by decide +kernel⟩
theorem c_law_mixed (T : Txt K mg) : C8.Cal P w K mg base 2 "_law_mixed" (sp_law_mixed K) [] := by
  refine T.cal 38 32 rfl rfl sc_law_mixed
    (fun _ _ _ _ _ _ us h => match us, h with | [_, _], _ => rfl)
    (fun vs H Q E h => by obtain ⟨_, _, rfl, _⟩ := h; rfl) (fun f cdv A outer s H vs Q E hr h => ?_)
  have nd := sc_law_mixed.nd
  refine ⟨_, (pss_cons (ps_set (i := 2) nd rfl (.inl rfl) (pe_lst pa_nil))
     (pss_cons (ps_for PassesOwn.never rfl (k_piL K (pi_list (pv 1))) (pg_name (i := 3) nd rfl (by first | exact .inl rfl | exact .inr rfl))
      (pss_one (ps_expr (k_bm K (pe_bm PySem.F.plainAttrs_list PySem.F.slot_list_insert PySem.F.type_list_insert mt_insert (pv 2) (pa_cons (pe_c (c_law_take T) hr (by decide) (by rfl) (pa_cons (pv 0) (pa_cons (pe_op op_add (pe_callB (k_len K) (by rfl) (T.free 52) rfl (pa_cons (pv 2) pa_nil)) pe_int) pa_nil))) (pa_cons (pv 3) pa_nil)))))))
     (pss_one (ps_ret (pv 2))))), ?_⟩
  obtain ⟨v0, v1, rfl, h⟩ := h
  rw [show L2.start ["_law_bag_here", "_law_things", "_law_found", "_law_thing"] [v0, v1] = [some v0, some v1, none, none] from rfl]
  obtain ⟨b, a, xs, rfl, rfl, hb, ha, hl, q⟩ := h
  refine ⟨Nat.zero_le _, fun r hr => ?_⟩
  have s0 : Same H (upd H r (.lst [])) := sm_new hr
  refine ⟨_, rfl, a, rfl, ⟨_, s0.seq ha⟩, for_it (walk_list (xs := xs)) (fun i σ H3 => ∃ y, σ = [some (.ref b), some (.ref a), some (.ref r), y] ∧ Same H H3 ∧ ∃ ys, H3 r = some (.lst ys) ∧ ys.Perm (xs.take i)) ?_ ?_ ?_ ?_⟩
  · exact ⟨none, rfl, s0, [], upd_same, .nil⟩
  · rintro i σ H3 _ ⟨y, rfl, s, _⟩
    exact s.seq ha
  · rintro i x σ H3 H4 hi ⟨y, rfl, s, ys, e, pm⟩ ⟨rfl, hx⟩
    have hyl : ys.length = i := by
      rw [pm.length_eq, List.length_take]
      omega
    simp only [tBM, SlX.tMethSl, tSeq, tIfS, tOr, tAnd, tNot, tB, tCB, tCons, tNil, tVar, tC, tTest, tChain, tRet, tRetN, tNext, tOp, tAndV, tOrV, tNotV, tIf, tThen, tYes, tTup, tLst, tCall, tAsg, tDrop, tDNewK, gName, gTup, gCons, gNil, rI0, rI, CMul, CDiv, tUn, rU, rEq, rNe, scal, LenV, RetB, RetD, List.set_cons_zero, List.set_cons_succ, List.getElem?_cons_zero, List.getElem?_cons_succ, Option.some.injEq, exists_eq_left', exists_eq_left, List.cons.injEq, and_true, true_and, V.int.injEq, V.str.injEq, V.bl.injEq, V.ref.injEq, if_true, if_false, Bool.not_true, Bool.not_false, reduceCtorEq, decide_true, decide_false, Bool.false_eq_true, exists_and_left, Bool.not_eq_true', decide_eq_true_eq, decide_eq_false_iff_not, rLenK, tLenSetT, List.append_nil, and_assoc, or_false, false_or, exists_false, false_and, and_false, rGetL, rSetL, gSub, tAugS, ipI, tPart, tNoPart, not_true, not_false_iff, ite_true, ite_false, List.map_cons, List.map_nil, sp_law_take]
    refine ⟨.inl ⟨rfl, _, .of e⟩, ys.length, .inl ⟨_, .of e, rfl⟩, hb.same s, by omega, by omega, fun v H5 h0 h1 s5 => ?_⟩
    have e5 := s5 _ _ e
    refine ⟨ys, e5, lt1 (by omega), h0, by omega, sm_upd (s.trans s5) hr, _, upd_same, ?_⟩
    have htk : xs.take (i + 1) = xs.take i ++ [x] := by
      rw [List.take_add_one, hx]
      rfl
    rw [htk, List.append_assoc]
    refine (List.perm_middle.trans ?_).trans (List.perm_append_singleton x _).symm
    show (x :: (List.take v.toNat ys ++ List.drop v.toNat ys)).Perm _
    rw [List.take_append_drop]
    exact pm.cons x
  · rintro σ H3 ⟨y, rfl, s, ys, e, pm⟩
    rw [List.take_of_length_le (Nat.le_refl _)] at pm
    exact ⟨_, rfl, q r ys H3 s hr e pm⟩
end
end C9
/-! ## F11 -/
set_option maxHeartbeats 4000000
namespace C9
open PySem PySem.Spec PyProof.Rows L2 C8
abbrev dI (c : List Int) : PyData := .tuple (c.map .int)
/-- a call by the kinds' numbers -/
def okC (m : Int) (c : List Int) : Prop := c ≠ [] ∧ c.Pairwise (· < ·) ∧ ∀ k ∈ c, 0 ≤ k ∧ k < m
theorem pw_len : ∀ {c : List Int} {lo m : Int}, c.Pairwise (· < ·) → (∀ k ∈ c, lo ≤ k ∧ k < m) → (c.length : Int) ≤ max (m - lo) 0
  | [], lo, m, _, _ => by show (0 : Int) ≤ _; omega
  | x :: c, lo, m, h, hb => by
    have h1 := List.pairwise_cons.mp h
    have hx := hb x List.mem_cons_self
    have := pw_len (lo := x + 1) (m := m) h1.2 fun k hk => ⟨by have := h1.1 k hk; omega, (hb k (List.mem_cons_of_mem _ hk)).2⟩
    rw [List.length_cons]
    omega
theorem okC_len {m : Int} {c : List Int} (h : okC m c) (hm : m ≤ 6) : c.length ≤ 6 := by
  have := pw_len h.2.1 h.2.2
  omega
/-- a fresh list of calls -/
def RetC (m : Int) (most : Nat) (H : Hp) (Q : VK) : Prop := ∀ p xs cs H', Same H H' → H p = none → H' p = some (.lst xs) → TpAll H' xs (cs.map dI) → cs ≠ [] → cs.length ≤ most → (∀ c ∈ cs, okC m c) → Q (.ref p) H'
theorem Tp.ints_at {H : Hp} {v : V} {ks : List Int} (h : Tp H v (dI ks)) : ∃ a, v = .ref a ∧ H a = some (.tup (ks.map V.int)) := by
  obtain ⟨a, xs, rfl, e, r⟩ := h.tup_at
  rw [TpAll.ints.mp r] at e
  exact ⟨a, rfl, e⟩
section
variable {K : PySem.W.Frag} {mg : Str → Option Value} {P : Program} {w : World} {base : Heap}
def sp_law_any_calls (K : PySem.W.Frag) : Sp := fun vs H Q E => ∃ x y z, vs = [x, y, z] ∧ ∃ b m n, x = .ref b ∧ y = .int m ∧ z = .int n ∧ BagAt H b ∧ 1 ≤ m ∧ m ≤ 6 ∧ 1 ≤ n ∧ n ≤ 8 ∧ RetC m 8 H Q
theorem sc_law_any_calls : FnScope ["_law_bag_here", "_law_many", "_law_calls", "_law_found", "_law_turn", "_law_call", "_law_kind"] ["_law_bag_here", "_law_many", "_law_calls"] (defScope s_law_any_calls) := ⟨rfl, rfl, rfl, by decide +kernel, rfl, by decide +kernel, by decide +kernel⟩
theorem c_law_any_calls (T : Txt K mg) : C8.Cal P w K mg base 2 "_law_any_calls" (sp_law_any_calls K) [] := by
  refine T.cal 43 37 rfl rfl sc_law_any_calls
    (fun _ _ _ _ _ _ us h => match us, h with | [_, _, _], _ => rfl)
    (fun vs H Q E h => by obtain ⟨_, _, _, rfl, _⟩ := h; rfl) (fun f cdv A outer s H vs Q E hr h => ?_)
  have nd := sc_law_any_calls.nd
  refine ⟨_, (pss_cons (ps_set (i := 3) nd rfl (.inl rfl) (pe_lst pa_nil))
     (pss_cons (ps_for PassesOwn.never rfl (pi_range1 (by rfl) (T.free 65) (pa_cons (pe_op op_add pe_int (pe_c (c_law_take T) hr (by decide) (by rfl) (pa_cons (pv 0) (pa_cons (pv 2) pa_nil)))) pa_nil)) (pg_name (i := 4) nd rfl (by first | exact .inl rfl | exact .inr rfl))
      (pss_cons (ps_setLc (i := 5) rfl nd rfl rfl rfl (pi_range1 (by rfl) (T.free 65) (pa_cons (pv 1) pa_nil)) (blkOk_by (own := [("_law_kind", 6)]) (by rfl)) (fun _ _ _ _ _ => (pg_name (i := 6) nd rfl (by first | exact .inl rfl | exact .inr rfl))) (fun _ _ _ _ _ => (pts_one (pt_cmpR op_eq (pe_c (c_law_take T) hr (by decide) (by rfl) (pa_cons (pv 0) (pa_cons pe_int pa_nil))) pe_int rfl))) (fun _ _ _ _ _ => (pv 6)))
     (pss_one (ps_expr (k_bm K (pe_bm PySem.F.plainAttrs_list PySem.F.slot_list_append PySem.F.type_list_append mt_append (pv 3) (pa_cons (pe_callTy (k_tuple K) (by rfl) (T.free 55) rfl (pa_cons (pe_ifExp (pt_cmpR (k_neA K (α := (List Int)) hr (by decide)) (pv 5) (pe_lst pa_nil) rfl) (pv 5) (pe_lst (pa_cons (pe_c (c_law_take T) hr (by decide) (by rfl) (pa_cons (pv 0) (pa_cons (pv 1) pa_nil))) pa_nil))) pa_nil)) pa_nil)))))))
     (pss_one (ps_ret (pv 3))))), ?_⟩
  obtain ⟨v0, v1, v2, rfl, h⟩ := h
  rw [show L2.start ["_law_bag_here", "_law_many", "_law_calls", "_law_found", "_law_turn", "_law_call", "_law_kind"] [v0, v1, v2] = [some v0, some v1, some v2, none, none, none, none] from rfl]
  obtain ⟨b, m, n, rfl, rfl, rfl, hb, m1, m6, n1, n8, q⟩ := h
  refine ⟨Nat.zero_le _, fun r hr => ?_⟩
  have s0 : Same H (upd H r (.lst [])) := sm_new hr
  have e0 : upd H r (.lst []) r = some (.lst []) := upd_same
  generalize upd H r (.lst []) = H0 at s0 e0
  refine ⟨_, rfl, _, rfl, .ref b, .int n, rfl, b, n, rfl, rfl, hb.same s0, by omega, by omega, fun t H1 t0 t1 s1 => ?_⟩
  refine ⟨1, t, rfl, rfl, 1 + t, rfl, by omega, by omega, ?_⟩
  refine for_it (walk_range (lo := 0) (n := (1 + t).toNat)) (fun i σ H3 => ∃ y z, σ = [some (.ref b), some (.int m), some (.int n), some (.ref r), y, z, none] ∧ Same H H3 ∧ ∃ (xs : List V) (cs : List (List Int)), H3 r = some (.lst xs) ∧ TpAll H3 xs (cs.map dI) ∧ cs.length = i ∧ ∀ c ∈ cs, okC m c) ?_ (fun _ _ _ _ _ => trivial) ?_ ?_
  · exact ⟨none, none, rfl, s0.trans s1, [], [], s1 _ _ e0, .nil, rfl, fun c h => nomatch h⟩
  · rintro i x σ H3 H4 hi ⟨y, z, rfl, s3, xs, cs, e3, t3, l3, g3⟩ ⟨rfl, rfl⟩
    refine ⟨_, rfl, m, rfl, by omega, by omega, fun D hD => lc_rel (walk_range (lo := 0) (n := m.toNat)) hD ?_ (fun j ds => ∃ c : List Int, ds = c.map .int ∧ c.Pairwise (· < ·) ∧ ∀ k ∈ c, 0 ≤ k ∧ k < (j : Nat)) ⟨[], rfl, .nil, fun k h => nomatch h⟩ (fun _ _ => trivial) ?_ ?_⟩
    · exact lt1 (by omega)
    · rintro j ds x H5 H6 Qe Qs hj sm ⟨c, rfl, pc, gc⟩ ⟨rfl, rfl⟩ ke ks'
      refine ⟨rfl, ?_⟩
      simp only [tBM, SlX.tMethSl, tSeq, tIfS, tOr, tAnd, tNot, tB, tCB, tCons, tNil, tVar, tC, tTest, tChain, tRet, tRetN, tNext, tOp, tAndV, tOrV, tNotV, tIf, tThen, tYes, tTup, tLst, tCall, tAsg, tDrop, tDNewK, gName, gTup, gCons, gNil, rI0, rI, CMul, CDiv, tUn, rU, rEq, rNe, scal, LenV, RetB, RetD, List.set_cons_zero, List.set_cons_succ, List.getElem?_cons_zero, List.getElem?_cons_succ, Option.some.injEq, exists_eq_left', exists_eq_left, List.cons.injEq, and_true, true_and, V.int.injEq, V.str.injEq, V.bl.injEq, V.ref.injEq, if_true, if_false, Bool.not_true, Bool.not_false, reduceCtorEq, decide_true, decide_false, Bool.false_eq_true, exists_and_left, Bool.not_eq_true', decide_eq_true_eq, decide_eq_false_iff_not, rLenK, tLenSetT, List.append_nil, and_assoc, or_false, false_or, exists_false, false_and, and_false, rGetL, rSetL, gSub, tAugS, ipI, tPart, tNoPart, not_true, not_false_iff, ite_true, ite_false, List.map_cons, List.map_nil, sp_law_take, wipe]
      refine ⟨hb.same (s3.trans sm), by decide, by decide, fun v H7 v0 v1 s7 => ?_⟩
      by_cases e : v = 0
      · rw [if_pos e]
        refine ke _ _ _ s7 (.int _) ⟨c ++ [0 + ((j : Nat) : Int)], by rw [List.map_append]; rfl, ?_, fun k hk => ?_⟩
        · refine List.pairwise_append.mpr ⟨pc, List.pairwise_singleton _ _, fun a ha b hb => ?_⟩
          rw [List.mem_singleton.mp hb]
          have := (gc a ha).2
          omega
        · rcases List.mem_append.mp hk with hk | hk
          · have := gc k hk
            omega
          · rw [List.mem_singleton.mp hk]
            omega
      · rw [if_neg e]
        exact ks' _ s7 ⟨c, rfl, pc, fun k hk => by have := gc k hk; omega⟩
    · rintro H5 acc ds s5 e5 r5 ⟨c, rfl, pc, gc⟩ _
      have hacc := TpAll.ints.mp r5
      subst hacc
      have s35 := s3.trans s5
      have e35 := s5 _ _ e3
      have t35 := TpAll.same s5 t3
      have rD : r ≠ D := ne_of_none e3 hD
      -- the end: a call's tuple is appended
      have fin : ∀ (c' : List Int) (v : V) (H7 : Hp), okC m c' → Same H5 H7 → Tp H7 v (dI c') → Same H (upd H7 r (.lst (xs ++ [v]))) ∧
          ∃ ys, upd H7 r (.lst (xs ++ [v])) r = some (.lst ys) ∧ ∃ ds : List (List Int), TpAll (upd H7 r (.lst (xs ++ [v]))) ys (ds.map dI) ∧ ds.length = i + 1 ∧ ∀ c ∈ ds, okC m c := fun c' v H7 ok s7 tv =>
        ⟨sm_upd (s35.trans s7) hr, _, upd_same, cs ++ [c'], by
          rw [List.map_append]
          exact TpAll.keep (.updL (s7 _ _ e35)) ((TpAll.same s7 t35).snoc tv), by rw [List.length_append, l3]; rfl, fun c hc => by
          rcases List.mem_append.mp hc with hc | hc
          · exact g3 c hc
          · rw [List.mem_singleton.mp hc]; exact ok⟩
      have xl : xs.length < sizeLine := by
        rw [t3.len]
        exact lt1 (by omega)
      simp only [tBM, SlX.tMethSl, tSeq, tIfS, tOr, tAnd, tNot, tB, tCB, tCons, tNil, tVar, tC, tTest, tChain, tRet, tRetN, tNext, tOp, tAndV, tOrV, tNotV, tIf, tThen, tYes, tTup, tLst, tCall, tAsg, tDrop, tDNewK, gName, gTup, gCons, gNil, rI0, rI, CMul, CDiv, tUn, rU, rEq, rNe, scal, LenV, RetB, RetD, List.set_cons_zero, List.set_cons_succ, List.getElem?_cons_zero, List.getElem?_cons_succ, Option.some.injEq, exists_eq_left', exists_eq_left, List.cons.injEq, and_true, true_and, V.int.injEq, V.str.injEq, V.bl.injEq, V.ref.injEq, if_true, if_false, Bool.not_true, Bool.not_false, reduceCtorEq, decide_true, decide_false, Bool.false_eq_true, exists_and_left, Bool.not_eq_true', decide_eq_true_eq, decide_eq_false_iff_not, rLenK, tLenSetT, List.append_nil, and_assoc, or_false, false_or, exists_false, false_and, and_false, rGetL, rSetL, gSub, tAugS, ipI, tPart, tNoPart, not_true, not_false_iff, ite_true, ite_false, List.map_cons, List.map_nil, sp_law_take]
      refine ⟨.inl ⟨rfl, _, .of e35⟩, Nat.zero_le _, fun p2 hp2 => ?_⟩
      have s6 : Same H5 (upd H5 p2 (.lst [])) := sm_new hp2
      refine ⟨c, [], .lst (.of (s6 _ _ e5)) (TpAll.dp (TpAll.ints.mpr rfl)), .lst (.of upd_same) .nil, _, rfl, ?_⟩
      by_cases e : c = []
      · rw [decide_eq_true e, if_neg (by decide)]
        refine ⟨hb.same (s35.trans s6), by omega, by omega, fun v H7 v0 v1 s7 => ⟨by show 1 ≤ _; decide, fun p3 hp3 => ?_⟩⟩
        have s8 : Same H5 (upd H7 p3 (.lst [.int v])) := (s6.trans s7).trans (sm_new hp3)
        refine tuple_of upd_same (TpAll.ints.mpr rfl : TpAll _ [V.int v] ([v].map .int)) fun u H9 s9 tu => ⟨r, xs, u, rfl, rfl, (s8.trans s9) _ _ e35, xl, ?_⟩
        exact fin [v] u H9 ⟨by simp, List.pairwise_singleton _ _, fun k hk => by rw [List.mem_singleton.mp hk]; exact ⟨v0, v1⟩⟩ (s8.trans s9) tu
      · rw [decide_eq_false e, if_pos (by decide)]
        refine tuple_of (s6 _ _ e5) (TpAll.ints.mpr rfl) fun u H9 s9 tu => ⟨r, xs, u, rfl, rfl, (s6.trans s9) _ _ e35, xl, ?_⟩
        exact fin c u H9 ⟨e, pc, fun k hk => by have := gc k hk; omega⟩ (s6.trans s9) tu
  · rintro σ H3 ⟨y, z, rfl, s3, xs, cs, e3, t3, l3, g3⟩
    refine ⟨_, rfl, q r xs cs H3 s3 hr e3 t3 (fun e => ?_) (by omega) g3⟩
    rw [e, List.length_nil] at l3
    omega
end
end C9
/-! ## F12 -/
set_option maxHeartbeats 4000000
namespace C9
open PySem PySem.Spec PyProof.Rows L2 C8
theorem TpAll.mem {H : Hp} {α : Type} {g : α → PyData} {xs : List V} {es : List α} {x : V} (h : TpAll H xs (es.map g)) (hx : x ∈ xs) : ∃ e, e ∈ es ∧ Tp H x (g e) := by
  obtain ⟨i, hi⟩ := List.mem_iff_getElem?.mp hx
  obtain ⟨e, he, t⟩ := h.nth hi
  exact ⟨e, List.mem_of_getElem? he, t⟩
theorem ne_none {H H' : Hp} {p : Addr} (s : Same H H') (h : H' p = none) : H p = none := by
  cases e : H p with
  | none => rfl
  | some o => rw [s _ _ e] at h; cases h
theorem pw_lt : ∀ {c : List Int}, c.Pairwise (· ≤ ·) → c.Nodup → c.Pairwise (· < ·)
  | [], _, _ => .nil
  | x :: c, h, n => by
    have h1 := List.pairwise_cons.mp h
    have n1 := List.nodup_cons.mp n
    refine List.pairwise_cons.mpr ⟨fun y hy => ?_, pw_lt h1.2 n1.2⟩
    have := h1.1 y hy
    have : x ≠ y := fun e => n1.1 (e ▸ hy)
    omega
def bentTail (K : PySem.W.Frag) (p : Addr) (x : V) (H1 : Hp) (Q : VK) : Prop :=
  rSorted K [x] H1 fun x_1 H1 => rTupOf K [x_1] H1 fun x_2 H1 => [x_2].length ≤ sizeLine ∧ ∀ p_2, H1 p_2 = none → ([] : List V).length ≤ sizeLine ∧ ∀ p_3, upd H1 p_2 (HO.lst [x_2]) p_3 = none →
    rNeA (List Int) K x (V.ref p_3) (upd (upd H1 p_2 (HO.lst [x_2])) p_3 (HO.lst [])) fun x H1 => ∃ k, x = V.bl k ∧ rRep (V.ref p_2) (V.int (if k = true then 1 else 0)) H1 fun x H1 => rCat x (V.ref p) H1 Q
theorem bent_tail {K : PySem.W.Frag} {H H5 : Hp} {p D : Addr} {xs : List V} {cs : List (List Int)} {m : Int} {os : List Int} {Q : VK} (m6 : m ≤ 6) (s5 : Same H H5) (ep : H p = some (.lst xs)) (tp : TpAll H xs (cs.map dI)) (hne : cs ≠ []) (hl : cs.length ≤ 900) (g : ∀ c ∈ cs, okC m c)
    (e5 : H5 D = some (.lst (os.map V.int))) (nd : os.Nodup) (hb : ∀ k ∈ os, 0 ≤ k ∧ k < m) (ho : os.length < 64) (q : RetC m (cs.length + 1) H Q) : bentTail K p (.ref D) H5 Q := by
  refine ⟨D, os, rfl, .of e5, ho, fun ns p1 pm pw h1 => ?_⟩
  have s6 : Same H5 (upd H5 p1 (.lst (ns.map V.int))) := sm_new h1
  refine tuple_of upd_same (TpAll.ints.mpr rfl) fun t H6 s7 tt => ?_
  have s56 := s6.trans s7
  have e6 := s56 _ _ e5
  refine ⟨by show 1 ≤ _; decide, fun p2 h2 => ⟨Nat.zero_le _, fun p3 h3 => ?_⟩⟩
  have s8 : Same (upd H6 p2 (.lst [t])) (upd (upd H6 p2 (.lst [t])) p3 (.lst [])) := sm_new h3
  have s68 : Same H6 (upd (upd H6 p2 (.lst [t])) p3 (.lst [])) := (sm_new h2).trans s8
  refine ⟨os, [], .lst (.of (s68 _ _ e6)) (TpAll.dp (TpAll.ints.mpr rfl)), .lst (.of upd_same) .nil, _, rfl, ?_⟩
  have ss := s5.trans (s56.trans s68)
  have ep8 := ss _ _ ep
  have tp8 := TpAll.same ss tp
  have hxl := tp.len
  by_cases e : os = []
  · subst e
    rw [decide_eq_true rfl]
    refine ⟨p2, 0, [t], rfl, rfl, s8 _ _ upd_same, by decide, by decide, by show 1 * 0 ≤ _; decide, fun p4 h4 => ?_⟩
    have s9 := sm_new (o := .lst (List.replicate (0 : Int).toNat [t]).flatten) h4
    refine ⟨p4, p, _, xs, rfl, rfl, upd_same, s9 _ _ ep8, ?_, fun p5 h5 => ?_⟩
    · show 0 + xs.length ≤ _
      rw [hxl]
      exact Nat.le_of_lt (lt1 (by omega))
    · have h5' := ne_none (ss.trans s9) h5
      have s10 := ss.trans (s9.trans (sm_new (o := .lst ((List.replicate (0 : Int).toNat [t]).flatten ++ xs)) h5))
      exact q p5 xs cs _ s10 h5' upd_same (TpAll.same s10 tp) hne (by omega) g
  · rw [decide_eq_false e]
    refine ⟨p2, 1, [t], rfl, rfl, s8 _ _ upd_same, by decide, by decide, by show 1 * 1 ≤ _; decide, fun p4 h4 => ?_⟩
    have s9 := sm_new (o := .lst (List.replicate (1 : Int).toNat [t]).flatten) h4
    refine ⟨p4, p, _, xs, rfl, rfl, upd_same, s9 _ _ ep8, ?_, fun p5 h5 => ?_⟩
    · show 1 + xs.length ≤ _
      rw [hxl]
      exact Nat.le_of_lt (lt1 (by omega))
    · have h5' := ne_none (ss.trans s9) h5
      have s10 := s9.trans (sm_new (o := .lst ((List.replicate (1 : Int).toNat [t]).flatten ++ xs)) h5)
      have s11 := ss.trans s10
      refine q p5 (t :: xs) (ns :: cs) _ s11 h5' upd_same (.cons (Tp.same (s68.trans s10) tt) (TpAll.same s11 tp)) (by simp) (by rw [List.length_cons]; omega) fun c hc => ?_
      rcases List.mem_cons.mp hc with rfl | hc
      · refine ⟨fun z => e (List.length_eq_zero_iff.mp (by rw [← pm.length_eq, z]; rfl)), pw_lt pw (pm.nodup_iff.mpr nd), fun k hk => hb k (pm.mem_iff.mp hk)⟩
      · exact g c hc
section
variable {K : PySem.W.Frag} {mg : Str → Option Value} {P : Program} {w : World} {base : Heap}
def sp_law_bent_call (K : PySem.W.Frag) : Sp := fun vs H Q E => ∃ x y z, vs = [x, y, z] ∧ ∃ b m p xs cs, x = .ref b ∧ y = .int m ∧ z = .ref p ∧ BagAt H b ∧ 1 ≤ m ∧ m ≤ 6 ∧ H p = some (.lst xs) ∧ TpAll H xs (cs.map dI) ∧ cs ≠ [] ∧ cs.length ≤ 900 ∧ (∀ c ∈ cs, okC m c) ∧ RetC m (cs.length + 1) H Q
theorem sc_law_bent_call : FnScope ["_law_bag_here", "_law_many", "_law_found", "_law_call", "_law_kind", "_law_other", "_law_one_here"] ["_law_bag_here", "_law_many", "_law_found"] (defScope s_law_bent_call) := ⟨rfl, rfl, rfl, by decide +kernel, rfl, by decide +kernel, by decide +kernel⟩
theorem c_law_bent_call (T : Txt K mg) : C8.Cal P w K mg base 3 "_law_bent_call" (sp_law_bent_call K) [] := by
  refine T.cal 42 36 rfl rfl sc_law_bent_call
    (fun _ _ _ _ _ _ us h => match us, h with | [_, _, _], _ => rfl)
    (fun vs H Q E h => by obtain ⟨_, _, _, rfl, _⟩ := h; rfl) (fun f cdv A outer s H vs Q E hr h => ?_)
  have nd := sc_law_bent_call.nd
  refine ⟨_, (pss_cons (ps_asg (pe_tup (pa_cons (pe_c (c_law_one T) hr (by decide) (by rfl) (pa_cons (pv 0) (pa_cons (pv 2) pa_nil))) (pa_cons (pe_c (c_law_take T) hr (by decide) (by rfl) (pa_cons (pv 0) (pa_cons (pv 1) pa_nil))) pa_nil))) (k_tup K (pg_tup (n := 2) rfl (pgs_cons (pg_name (i := 3) nd rfl (by first | exact .inl rfl | exact .inr rfl)) (pgs_cons (pg_name (i := 4) nd rfl (by first | exact .inl rfl | exact .inr rfl)) pgs_nil)))))
     (pss_cons (ps_set (i := 5) nd rfl (.inl rfl) (pe_ifExp (pt_cmpR (k_inA K (α := Int) hr (by decide)) (pv 4) (pv 3) rfl) (pe_lc rfl nd (k_piT K (pi_tup (pv 3))) (blkOk_by (own := [("_law_one_here", 6)]) (by rfl)) (fun _ _ _ _ _ => (pg_name (i := 6) nd rfl (by first | exact .inl rfl | exact .inr rfl))) (fun _ _ _ _ _ => (pts_one (pt_cmpR op_ne (pv 6) (pv 4) rfl))) (fun _ _ _ _ _ => (pv 6))) (pe_op op_cat (pe_callTy (k_list K) (by rfl) (T.free 59) rfl (pa_cons (pv 3) pa_nil)) (pe_lst (pa_cons (pv 4) pa_nil)))))
     (pss_one (ps_ret (pe_op op_cat (pe_op op_rep (pe_lst (pa_cons (pe_callTy (k_tuple K) (by rfl) (T.free 55) rfl (pa_cons (pe_callB (k_sorted K) (by rfl) (T.free 58) rfl (pa_cons (pv 5) pa_nil)) pa_nil)) pa_nil)) (pe_callTy call_intB (by rfl) (T.free 62) rfl (pa_cons (pe_cmpR (k_neA K (α := (List Int)) hr (by decide)) (pv 5) (pe_lst pa_nil) rfl) pa_nil))) (pv 2)))))), ?_⟩
  obtain ⟨v0, v1, v2, rfl, h⟩ := h
  rw [show L2.start ["_law_bag_here", "_law_many", "_law_found", "_law_call", "_law_kind", "_law_other", "_law_one_here"] [v0, v1, v2] = [some v0, some v1, some v2, none, none, none, none] from rfl]
  obtain ⟨b, m, p, xs, cs, rfl, rfl, rfl, hb, m1, m6, ep, tp, hne, hl, g, q⟩ := h
  have hxl := tp.len
  have hxn : xs ≠ [] := fun e => by
    rw [e, List.length_nil] at hxl
    exact hne (List.length_eq_zero_iff.mp hxl.symm)
  simp only [tBM, SlX.tMethSl, tSeq, tIfS, tOr, tAnd, tNot, tB, tCB, tCons, tNil, tVar, tC, tTest, tChain, tRet, tRetN, tNext, tOp, tAndV, tOrV, tNotV, tIf, tThen, tYes, tTup, tLst, tCall, tAsg, tDrop, tDNewK, gName, gTup, gCons, gNil, rI0, rI, CMul, CDiv, tUn, rU, rEq, rNe, scal, LenV, RetB, RetD, List.set_cons_zero, List.set_cons_succ, List.getElem?_cons_zero, List.getElem?_cons_succ, Option.some.injEq, exists_eq_left', exists_eq_left, List.cons.injEq, and_true, true_and, V.int.injEq, V.str.injEq, V.bl.injEq, V.ref.injEq, if_true, if_false, Bool.not_true, Bool.not_false, reduceCtorEq, decide_true, decide_false, Bool.false_eq_true, exists_and_left, Bool.not_eq_true', decide_eq_true_eq, decide_eq_false_iff_not, rLenK, tLenSetT, List.append_nil, and_assoc, or_false, false_or, exists_false, false_and, and_false, rGetL, rSetL, gSub, tAugS, ipI, tPart, tNoPart, not_true, not_false_iff, ite_true, ite_false, List.map_cons, List.map_nil, sp_law_one, sp_law_take]
  refine ⟨hb, xs, .inl (.of ep), hxn, by omega, fun v H1 hv s1 => ?_⟩
  obtain ⟨c, hc, tc⟩ := tp.mem hv
  obtain ⟨a, rfl, ea⟩ := (Tp.same s1 tc).ints_at
  refine ⟨hb.same s1, by omega, by omega, fun k H2 k0 k1 s2 => ⟨by show 2 ≤ _; decide, fun p1 h1 => ⟨_, .of upd_same, rfl, _, _, rfl, _, _, rfl, rfl, ?_⟩⟩⟩
  have s3 : Same H2 (upd H2 p1 (.tup [.ref a, .int k])) := sm_new h1
  have s03 := s1.trans (s2.trans s3)
  have ea3 := s3 _ _ (s2 _ _ ea)
  have hc6 := okC_len (g c hc) m6
  have pc := (g c hc).2.1
  generalize upd H2 p1 (.tup [.ref a, .int k]) = H3 at s3 s03 ea3
  refine ⟨k, c, a, _, .int k, rfl, .inr (.of ea3), TpAll.dp (TpAll.ints.mpr rfl), _, rfl, ?_⟩
  by_cases hk : k ∈ c
  · rw [decide_eq_true hk, if_pos rfl]
    refine ⟨_, rfl, a, rfl, ⟨_, .of ea3⟩, fun D hD => lc_rel walk_tup hD ?_ (fun i ds => ∃ os : List Int, ds = os.map .int ∧ os.Sublist (c.take i)) ⟨[], rfl, .slnil⟩ (fun H s => .of (s _ _ ea3)) ?_ ?_⟩
    · rw [List.length_map]
      exact lt1 (by omega)
    · rintro i ds x H5 H6 Qe Qs hi sm ⟨os, rfl, sl⟩ ⟨rfl, hx⟩ ke ks'
      obtain ⟨z, hz, rfl⟩ := List.getElem?_map.symm.trans hx |> Option.map_eq_some_iff.mp
      refine ⟨rfl, ?_⟩
      simp only [tBM, SlX.tMethSl, tSeq, tIfS, tOr, tAnd, tNot, tB, tCB, tCons, tNil, tVar, tC, tTest, tChain, tRet, tRetN, tNext, tOp, tAndV, tOrV, tNotV, tIf, tThen, tYes, tTup, tLst, tCall, tAsg, tDrop, tDNewK, gName, gTup, gCons, gNil, rI0, rI, CMul, CDiv, tUn, rU, rEq, rNe, scal, LenV, RetB, RetD, List.set_cons_zero, List.set_cons_succ, List.getElem?_cons_zero, List.getElem?_cons_succ, Option.some.injEq, exists_eq_left', exists_eq_left, List.cons.injEq, and_true, true_and, V.int.injEq, V.str.injEq, V.bl.injEq, V.ref.injEq, if_true, if_false, Bool.not_true, Bool.not_false, reduceCtorEq, decide_true, decide_false, Bool.false_eq_true, exists_and_left, Bool.not_eq_true', decide_eq_true_eq, decide_eq_false_iff_not, rLenK, tLenSetT, List.append_nil, and_assoc, or_false, false_or, exists_false, false_and, and_false, rGetL, rSetL, gSub, tAugS, ipI, tPart, tNoPart, not_true, not_false_iff, ite_true, ite_false, List.map_cons, List.map_nil, sp_law_one, sp_law_take, wipe]
      have st : c.take (i + 1) = c.take i ++ [z] := by rw [List.take_add_one, hz]; rfl
      by_cases e : z = k
      · rw [if_neg (fun h => h e)]
        exact ks' _ (.refl _) ⟨os, rfl, st ▸ sl.trans (List.sublist_append_left _ _)⟩
      · rw [if_pos e]
        exact ke _ _ _ (.refl _) (.int _) ⟨os ++ [z], by rw [List.map_append]; rfl, st ▸ sl.append (.refl _)⟩
    · rintro H5 acc ds s5 e5 r5 ⟨os, rfl, sl⟩ _
      have hacc := TpAll.ints.mp r5
      subst hacc
      have sl' : os.Sublist c := sl.trans (List.take_sublist _ _)
      have := sl'.length_le
      exact bent_tail m6 (s03.trans s5) ep tp hne hl g e5 ((pc.imp fun h e => by omega : c.Nodup).sublist sl') (fun k hk => (g c hc).2.2 k (sl'.subset hk)) (by omega) q
  · rw [decide_eq_false hk, if_neg (by decide)]
    refine ⟨a, _, rfl, .inr (.of ea3), fun p2 h2 => ⟨by show 1 ≤ _; decide, fun p3 h3 => ?_⟩⟩
    have s4 := sm_new (o := .lst (c.map V.int)) h2
    have s5 := sm_new (o := .lst [V.int k]) h3
    refine ⟨p2, p3, _, _, rfl, rfl, s5 _ _ upd_same, upd_same, ?_, fun p4 h4 => ?_⟩
    · rw [List.length_map]
      show c.length + 1 ≤ _
      exact Nat.le_trans (by omega : _ ≤ 7) (by decide)
    · have s6 := sm_new (o := .lst (c.map V.int ++ [.int k])) h4
      have ek : c.map V.int ++ [V.int k] = (c ++ [k]).map V.int := by rw [List.map_append]; rfl
      refine bent_tail m6 (s03.trans (s4.trans (s5.trans s6))) ep tp hne hl g (by rw [upd_same, ek]) ?_ (fun j hj => ?_) (by rw [List.length_append]; show c.length + 1 < 64; omega) q
      · refine List.nodup_append.mpr ⟨pc.imp fun h e => by omega, by simp, fun x hx y hy e => hk ?_⟩
        rw [List.mem_singleton.mp hy] at e
        exact e ▸ hx
      · rcases List.mem_append.mp hj with h | h
        · exact (g c hc).2.2 j h
        · rw [List.mem_singleton.mp h]; exact ⟨k0, k1⟩
end
end C9
/-! ## F13 -/
set_option maxHeartbeats 4000000
namespace C9
open PySem PySem.Spec PyProof.Rows L2 C8
def bD : Option Int → PyData
  | none => .none
  | some v => .int v
def bV : Option Int → V
  | none => .non
  | some v => .int v
theorem bD_tp {H : Hp} (o : Option Int) : Tp H (bV o) (bD o) := by
  cases o with
  | none => exact .non
  | some v => exact .int v
theorem TpAll.opts {H : Hp} : ∀ {xs : List V} {bs : List (Option Int)}, TpAll H xs (bs.map bD) → xs = bs.map bV
  | [], [], _ => rfl
  | [], b :: bs, h => nomatch h
  | x :: xs, [], h => nomatch h
  | x :: xs, b :: bs, h => by
    cases h with
    | cons a r =>
      rw [TpAll.opts r]
      cases b with
      | none => rw [a.non_at]; rfl
      | some v => rw [a.int_at]; rfl
theorem opts_flat : ∀ (bs : List (Option Int)), (bs.map bV).all flatV = true
  | [] => rfl
  | none :: bs => opts_flat bs
  | some v :: bs => opts_flat bs
theorem in_opts {k : Int} : ∀ (bs : List (Option Int)), inV (.int k) (bs.map bV) = true → some k ∈ bs
  | [], h => nomatch h
  | none :: bs, h => List.mem_cons_of_mem _ (in_opts bs h)
  | some v :: bs, h => by
    by_cases e : v = k
    · rw [e]; exact List.mem_cons_self
    · refine List.mem_cons_of_mem _ (in_opts bs ?_)
      have h2 : ((v == k) || inV (.int k) (bs.map bV)) = true := h
      rw [beq_eq_false_iff_ne.mpr e] at h2
      exact h2
theorem mem_rgV {a b : Int} {x : V} (h : x ∈ rgV a b) : ∃ z, x = .int z ∧ a ≤ z ∧ z < b := by
  unfold rgV at h
  obtain ⟨i, hi, rfl⟩ := List.mem_map.mp h
  rw [List.mem_range] at hi
  exact ⟨_, rfl, by omega, by omega⟩
theorem cut_to {xs : List V} {n : Int} (h : 0 ≤ n) : cutV xs none (some n) = xs.take n.toNat := by
  unfold cutV
  obtain ⟨k, rfl⟩ := Int.eq_ofNat_of_zero_le h
  show (xs.drop 0).take (HT.sIx xs.length xs.length (some ((k : Nat) : Int)) - 0) = _
  rw [HT.sIx_nat, List.drop_zero, Nat.sub_zero, Int.toNat_natCast]
  by_cases q : k ≤ xs.length
  · rw [Nat.min_eq_left q]
  · rw [Nat.min_eq_right (by omega), List.take_of_length_le (Nat.le_refl _), List.take_of_length_le (by omega)]
def goodB (m : Int) (bs : List (Option Int)) : Prop := ∀ (j : Nat) v, bs[j]? = some (some v) → (j : Int) < v ∧ v < m
section
variable {K : PySem.W.Frag} {mg : Str → Option Value} {P : Program} {w : World} {base : Heap}
def sp_law_paths (K : PySem.W.Frag) : Sp := fun vs H Q E => ∃ x y z, vs = [x, y, z] ∧ ∃ b m n, x = .ref b ∧ y = .int m ∧ z = .int n ∧ BagAt H b ∧ 1 ≤ m ∧ m ≤ 6 ∧ 1 ≤ n ∧ n ≤ 8 ∧ RetC m 8 H Q
theorem sc_law_paths : FnScope ["_law_bag_here", "_law_many", "_law_calls", "_law_behind", "_law_heads", "_law_found", "_law_head", "_law_call", "_law_kind"] ["_law_bag_here", "_law_many", "_law_calls"] (defScope s_law_paths) := ⟨rfl, rfl, rfl, by decide +kernel, rfl, by decide +kernel, by decide +kernel⟩
theorem c_law_paths (T : Txt K mg) : C8.Cal P w K mg base 3 "_law_paths" (sp_law_paths K) [] := by
  refine T.cal 41 35 rfl rfl sc_law_paths
    (fun _ _ _ _ _ _ us h => match us, h with | [_, _, _], _ => rfl)
    (fun vs H Q E h => by obtain ⟨_, _, _, rfl, _⟩ := h; rfl) (fun f cdv A outer s H vs Q E hr h => ?_)
  have nd := sc_law_paths.nd
  refine ⟨_, (pss_cons (ps_set (i := 3) nd rfl (.inr rfl) (pe_lc rfl nd (pi_range1 (by rfl) (T.free 65) (pa_cons (pv 1) pa_nil)) (blkOk_by (own := [("_law_kind", 8)]) (by rfl)) (fun _ _ _ _ _ => (pg_name (i := 8) nd rfl (by first | exact .inl rfl | exact .inr rfl))) (fun _ _ _ _ _ => pts_nil) (fun _ _ _ _ _ => (pe_c (c_law_one T) hr (by decide) (by rfl) (pa_cons (pv 0) (pa_cons (pe_op op_cat (pe_listRg rfl (by rfl) (T.free 59) (prg_2 (by rfl) (T.free 65) (pe_op op_add (pv 8) pe_int) (pv 1))) (pe_lst (pa_cons pe_non pa_nil))) pa_nil))))))
     (pss_cons (ps_setLc (i := 4) rfl nd rfl rfl rfl (pi_range1 (by rfl) (T.free 65) (pa_cons (pv 1) pa_nil)) (blkOk_by (own := [("_law_kind", 8)]) (by rfl)) (fun _ _ _ _ _ => (pg_name (i := 8) nd rfl (by first | exact .inl rfl | exact .inr rfl))) (fun _ _ _ _ _ => (pts_one (pt_cmpR (k_notIn K) (pv 8) (pv 3) rfl))) (fun _ _ _ _ _ => (pv 8)))
     (pss_cons (ps_set (i := 4) nd rfl (.inl rfl) (pe_op op_cat (pv 4) (pe_slice (k_slL K) (pe_c (c_law_mixed T) hr (by decide) (by rfl) (pa_cons (pv 0) (pa_cons (pe_lc rfl nd (pi_range1 (by rfl) (T.free 65) (pa_cons (pv 1) pa_nil)) (blkOk_by (own := [("_law_kind", 8)]) (by rfl)) (fun _ _ _ _ _ => (pg_name (i := 8) nd rfl (by first | exact .inl rfl | exact .inr rfl))) (fun _ _ _ _ _ => (pts_one (pt_cmpR (k_in K) (pv 8) (pv 3) rfl))) (fun _ _ _ _ _ => (pv 8))) pa_nil))) po_none (po_some (pe_c (c_law_one T) hr (by decide) (by rfl) (pa_cons (pv 0) (pa_cons (pe_lst (pa_cons pe_int (pa_cons pe_int (pa_cons pe_int (pa_cons pe_int pa_nil))))) pa_nil)))))))
     (pss_cons (ps_set (i := 5) nd rfl (.inl rfl) (pe_lst pa_nil))
     (pss_cons (ps_for PassesOwn.never rfl (k_piL K (pi_list (pe_slice (k_slL K) (pv 4) po_none (po_some (pv 2))))) (pg_name (i := 6) nd rfl (by first | exact .inl rfl | exact .inr rfl))
      (pss_cons (ps_set (i := 7) nd rfl (.inl rfl) (pe_lst (pa_cons (pv 6) pa_nil)))
     (pss_cons (ps_while PassesOwn.never (pt_cmpR op_notN (pe_ix (k_ixL K) (pv 3) (pe_ix (k_ixL K) (pv 7) (pe_un un_neg pe_int) (fun _ _ => rfl)) (fun _ _ => rfl)) pe_non rfl)
      (pss_one (ps_expr (k_bm K (pe_bm PySem.F.plainAttrs_list PySem.F.slot_list_append PySem.F.type_list_append mt_append (pv 7) (pa_cons (pe_ix (k_ixL K) (pv 3) (pe_ix (k_ixL K) (pv 7) (pe_un un_neg pe_int) (fun _ _ => rfl)) (fun _ _ => rfl)) pa_nil))))))
     (pss_one (ps_expr (k_bm K (pe_bm PySem.F.plainAttrs_list PySem.F.slot_list_append PySem.F.type_list_append mt_append (pv 5) (pa_cons (pe_callTy (k_tuple K) (by rfl) (T.free 55) rfl (pa_cons (pv 7) pa_nil)) pa_nil))))))))
     (pss_one (ps_ret (pv 5)))))))), ?_⟩
  obtain ⟨v0, v1, v2, rfl, h⟩ := h
  rw [show L2.start ["_law_bag_here", "_law_many", "_law_calls", "_law_behind", "_law_heads", "_law_found", "_law_head", "_law_call", "_law_kind"] [v0, v1, v2] = [some v0, some v1, some v2, none, none, none, none, none, none] from rfl]
  obtain ⟨b, m, n, rfl, rfl, rfl, hb, m1, m6, n1, n8, q⟩ := h
  simp only [tBM, SlX.tMethSl, tSeq, tIfS, tOr, tAnd, tNot, tB, tCB, tCons, tNil, tVar, tC, tTest, tChain, tRet, tRetN, tNext, tOp, tAndV, tOrV, tNotV, tIf, tThen, tYes, tTup, tLst, tCall, tAsg, tDrop, tDNewK, gName, gTup, gCons, gNil, rI0, rI, CMul, CDiv, tUn, rU, rEq, rNe, scal, LenV, RetB, RetD, List.set_cons_zero, List.set_cons_succ, List.getElem?_cons_zero, List.getElem?_cons_succ, Option.some.injEq, exists_eq_left', exists_eq_left, List.cons.injEq, and_true, true_and, V.int.injEq, V.str.injEq, V.bl.injEq, V.ref.injEq, if_true, if_false, Bool.not_true, Bool.not_false, reduceCtorEq, decide_true, decide_false, Bool.false_eq_true, exists_and_left, Bool.not_eq_true', decide_eq_true_eq, decide_eq_false_iff_not, rLenK, tLenSetT, List.append_nil, and_assoc, or_false, false_or, exists_false, false_and, and_false, rGetL, rSetL, gSub, tAugS, ipI, tPart, tNoPart, not_true, not_false_iff, ite_true, ite_false, List.map_cons, List.map_nil, sp_law_mixed, sp_law_one]
  refine ⟨_, rfl, m, rfl, by omega, by omega, fun D hD => lc_rel (walk_range (lo := 0) (n := m.toNat)) hD (lt1 (by omega)) (fun j ds => ∃ bs : List (Option Int), ds = bs.map bD ∧ bs.length = j ∧ goodB m bs) ⟨[], rfl, rfl, fun j v h => by simp at h⟩ (fun _ _ => trivial) ?_ ?_⟩
  · rintro j ds x H5 H6 Qe Qs hj sm ⟨bs, rfl, hbl, gb⟩ ⟨rfl, rfl⟩ ke ks'
    refine ⟨rfl, ?_⟩
    simp only [tLstRg, tRg2, tBM, SlX.tMethSl, tSeq, tIfS, tOr, tAnd, tNot, tB, tCB, tCons, tNil, tVar, tC, tTest, tChain, tRet, tRetN, tNext, tOp, tAndV, tOrV, tNotV, tIf, tThen, tYes, tTup, tLst, tCall, tAsg, tDrop, tDNewK, gName, gTup, gCons, gNil, rI0, rI, CMul, CDiv, tUn, rU, rEq, rNe, scal, LenV, RetB, RetD, List.set_cons_zero, List.set_cons_succ, List.getElem?_cons_zero, List.getElem?_cons_succ, Option.some.injEq, exists_eq_left', exists_eq_left, List.cons.injEq, and_true, true_and, V.int.injEq, V.str.injEq, V.bl.injEq, V.ref.injEq, if_true, if_false, Bool.not_true, Bool.not_false, reduceCtorEq, decide_true, decide_false, Bool.false_eq_true, exists_and_left, Bool.not_eq_true', decide_eq_true_eq, decide_eq_false_iff_not, rLenK, tLenSetT, List.append_nil, and_assoc, or_false, false_or, exists_false, false_and, and_false, rGetL, rSetL, gSub, tAugS, ipI, tPart, tNoPart, not_true, not_false_iff, ite_true, ite_false, List.map_cons, List.map_nil, sp_law_mixed, sp_law_one, wipe]
    refine ⟨.of_le (by omega) (by omega) (by omega) (by omega), fun p1 h1 => ⟨by show 1 ≤ _; decide, fun p2 h2 => ?_⟩⟩
    have s2 := sm_new (o := .lst (rgV (0 + ((j : Nat) : Int) + 1) m)) h1
    have s3 := sm_new (o := .lst [V.non]) h2
    refine ⟨p1, p2, _, _, rfl, rfl, s3 _ _ upd_same, upd_same, ?_, fun p3 h3 => ?_⟩
    · rw [rgV_length]
      show _ + 1 ≤ _
      exact Nat.le_trans (by omega : _ ≤ 7) (by decide)
    have s4 := sm_new (o := .lst (rgV (0 + ((j : Nat) : Int) + 1) m ++ [V.non])) h3
    have s14 := sm.trans (s2.trans (s3.trans s4))
    refine ⟨p3, rfl, hb.same s14, _, .inl (.of upd_same), by simp, ?_, fun v H7 hv s7 => ?_⟩
    · rw [List.length_append, rgV_length]
      show _ + 1 ≤ _
      omega
    · have s8 := s2.trans (s3.trans (s4.trans s7))
      have go : ∀ o : Option Int, v = bV o → (∀ z, o = some z → (j : Int) < z ∧ z < m) → Qe v H7 := fun o ev ho => by
        rw [ev]
        refine ke _ _ _ s8 (bD_tp o) ⟨bs ++ [o], by rw [List.map_append]; rfl, by rw [List.length_append, hbl]; rfl, fun i z hi => ?_⟩
        by_cases hlt : i < bs.length
        · rw [List.getElem?_append_left hlt] at hi
          exact gb i z hi
        · have hi' := (List.getElem?_append_right (by omega)).symm.trans hi
          obtain rfl : i = bs.length := by
            have := (List.getElem?_eq_some_iff.mp hi).1
            rw [List.length_append] at this
            simp only [List.length_singleton] at this
            omega
          rw [Nat.sub_self] at hi'
          rw [hbl]
          exact ho z (Option.some.inj hi')
      rcases List.mem_append.mp hv with hv | hv
      · obtain ⟨z, rfl, z0, z1⟩ := mem_rgV hv
        exact go (some z) rfl fun y e => by cases e; omega
      · rw [List.mem_singleton] at hv
        exact go none hv fun y e => by cases e
  · rintro H1 acc ds s1 e1 r1 ⟨bs, rfl, hbl, gb⟩ _
    have hacc := TpAll.opts r1
    subst hacc
    have hf := opts_flat bs
    refine ⟨_, rfl, m, rfl, by omega, by omega, fun D2 hD2 => lc_rel (walk_range (lo := 0) (n := m.toNat)) hD2 (lt1 (by omega)) (fun j ds => ∃ hs : List Int, ds = hs.map .int ∧ (0 < j → hs ≠ []) ∧ ∀ k ∈ hs, 0 ≤ k ∧ k < m) ⟨[], rfl, fun h => by omega, fun k h => nomatch h⟩ (fun _ _ => trivial) ?_ ?_⟩
    · rintro j ds x H5 H6 Qe Qs hj sm ⟨hs, rfl, h0, gh⟩ ⟨rfl, rfl⟩ ke ks'
      refine ⟨rfl, ?_⟩
      simp only [tBM, SlX.tMethSl, tSeq, tIfS, tOr, tAnd, tNot, tB, tCB, tCons, tNil, tVar, tC, tTest, tChain, tRet, tRetN, tNext, tOp, tAndV, tOrV, tNotV, tIf, tThen, tYes, tTup, tLst, tCall, tAsg, tDrop, tDNewK, gName, gTup, gCons, gNil, rI0, rI, CMul, CDiv, tUn, rU, rEq, rNe, scal, LenV, RetB, RetD, List.set_cons_zero, List.set_cons_succ, List.getElem?_cons_zero, List.getElem?_cons_succ, Option.some.injEq, exists_eq_left', exists_eq_left, List.cons.injEq, and_true, true_and, V.int.injEq, V.str.injEq, V.bl.injEq, V.ref.injEq, if_true, if_false, Bool.not_true, Bool.not_false, reduceCtorEq, decide_true, decide_false, Bool.false_eq_true, exists_and_left, Bool.not_eq_true', decide_eq_true_eq, decide_eq_false_iff_not, rLenK, tLenSetT, List.append_nil, and_assoc, or_false, false_or, exists_false, false_and, and_false, rGetL, rSetL, gSub, tAugS, ipI, tPart, tNoPart, not_true, not_false_iff, ite_true, ite_false, List.map_cons, List.map_nil, sp_law_mixed, sp_law_one, wipe]
      refine ⟨_, _, rfl, .inl (.of (sm _ _ e1)), rfl, hf, ?_⟩
      show (fun x H' => ∃ k, x = V.bl k ∧ if k = true then Qe (V.int (0 + ((j : Nat) : Int))) H' else Qs H') (V.bl (!inV (V.int (0 + ((j : Nat) : Int))) (List.map bV bs))) H6
      by_cases e : inV (V.int (0 + ((j : Nat) : Int))) (List.map bV bs) = true
      · rw [e]
        refine ⟨false, rfl, ks' _ (.refl _) ⟨hs, rfl, fun _ => h0 ?_, gh⟩⟩
        obtain ⟨i, hi⟩ := List.mem_iff_getElem?.mp (in_opts bs e)
        have := gb i _ hi
        omega
      · rw [Bool.eq_false_iff.mpr e]
        refine ⟨true, rfl, ke _ _ _ (.refl _) (.int _) ⟨hs ++ [0 + ((j : Nat) : Int)], by rw [List.map_append]; rfl, fun _ => by simp, fun k hk => ?_⟩⟩
        rcases List.mem_append.mp hk with hk | hk
        · exact gh k hk
        · rw [List.mem_singleton.mp hk]; omega
    rintro H2 acc2 ds2 s2 e2 r2 ⟨hs, rfl, h0, gh⟩ hsl
    rw [List.length_map] at hsl
    have hacc := TpAll.ints.mp r2
    subst hacc
    simp only [tSl, cxK, sp_law_mixed, tBM, SlX.tMethSl, tSeq, tIfS, tOr, tAnd, tNot, tB, tCB, tCons, tNil, tVar, tC, tTest, tChain, tRet, tRetN, tNext, tOp, tAndV, tOrV, tNotV, tIf, tThen, tYes, tTup, tLst, tCall, tAsg, tDrop, tDNewK, gName, gTup, gCons, gNil, rI0, rI, CMul, CDiv, tUn, rU, rEq, rNe, scal, LenV, RetB, RetD, List.set_cons_zero, List.set_cons_succ, List.getElem?_cons_zero, List.getElem?_cons_succ, Option.some.injEq, exists_eq_left', exists_eq_left, List.cons.injEq, and_true, true_and, V.int.injEq, V.str.injEq, V.bl.injEq, V.ref.injEq, if_true, if_false, Bool.not_true, Bool.not_false, reduceCtorEq, decide_true, decide_false, Bool.false_eq_true, exists_and_left, Bool.not_eq_true', decide_eq_true_eq, decide_eq_false_iff_not, rLenK, tLenSetT, List.append_nil, and_assoc, or_false, false_or, exists_false, false_and, and_false, rGetL, rSetL, gSub, tAugS, ipI, tPart, tNoPart, not_true, not_false_iff, ite_true, ite_false, List.map_cons, List.map_nil, sp_law_mixed, sp_law_one]
    have hs0 := h0 (by omega)
    have ebs := s2 _ _ e1
    have s12 := s1.trans s2
    refine ⟨_, rfl, m, rfl, by omega, by omega, fun D3 hD3 => lc_rel (walk_range (lo := 0) (n := m.toNat)) hD3 (lt1 (by omega)) (fun j ds => ∃ ks : List Int, ds = ks.map .int ∧ ∀ k ∈ ks, 0 ≤ k ∧ k < m) ⟨[], rfl, fun k h => nomatch h⟩ (fun _ _ => trivial) ?_ ?_⟩
    · rintro j ds x H5 H6 Qe Qs hj sm ⟨ks, rfl, gk⟩ ⟨rfl, rfl⟩ ke ks'
      refine ⟨rfl, ?_⟩
      simp only [tBM, SlX.tMethSl, tSeq, tIfS, tOr, tAnd, tNot, tB, tCB, tCons, tNil, tVar, tC, tTest, tChain, tRet, tRetN, tNext, tOp, tAndV, tOrV, tNotV, tIf, tThen, tYes, tTup, tLst, tCall, tAsg, tDrop, tDNewK, gName, gTup, gCons, gNil, rI0, rI, CMul, CDiv, tUn, rU, rEq, rNe, scal, LenV, RetB, RetD, List.set_cons_zero, List.set_cons_succ, List.getElem?_cons_zero, List.getElem?_cons_succ, Option.some.injEq, exists_eq_left', exists_eq_left, List.cons.injEq, and_true, true_and, V.int.injEq, V.str.injEq, V.bl.injEq, V.ref.injEq, if_true, if_false, Bool.not_true, Bool.not_false, reduceCtorEq, decide_true, decide_false, Bool.false_eq_true, exists_and_left, Bool.not_eq_true', decide_eq_true_eq, decide_eq_false_iff_not, rLenK, tLenSetT, List.append_nil, and_assoc, or_false, false_or, exists_false, false_and, and_false, rGetL, rSetL, gSub, tAugS, ipI, tPart, tNoPart, not_true, not_false_iff, ite_true, ite_false, List.map_cons, List.map_nil, sp_law_mixed, sp_law_one, wipe]
      refine ⟨_, _, rfl, .inl (.of (sm _ _ ebs)), rfl, hf, ?_⟩
      show (fun x H' => ∃ k, x = V.bl k ∧ if k = true then Qe (V.int (0 + ((j : Nat) : Int))) H' else Qs H') (V.bl (inV (V.int (0 + ((j : Nat) : Int))) (List.map bV bs))) H6
      by_cases e : inV (V.int (0 + ((j : Nat) : Int))) (List.map bV bs) = true
      · rw [e]
        refine ⟨true, rfl, ke _ _ _ (.refl _) (.int _) ⟨ks ++ [0 + ((j : Nat) : Int)], by rw [List.map_append]; rfl, fun k hk => ?_⟩⟩
        rcases List.mem_append.mp hk with hk | hk
        · exact gk k hk
        · rw [List.mem_singleton.mp hk]; omega
      · rw [Bool.eq_false_iff.mpr e]
        exact ⟨false, rfl, ks' _ (.refl _) ⟨ks, rfl, gk⟩⟩
    rintro H3 acc3 ds3 s3 e3 r3 ⟨ks, rfl, gk⟩ hkl
    rw [List.length_map] at hkl
    have hacc := TpAll.ints.mp r3
    subst hacc
    refine ⟨D3, rfl, hb.same (s12.trans s3), _, .of e3, by rw [List.length_map]; omega, fun p4 ys H4 s4 h4 e4 pm => ⟨by show 4 ≤ _; decide, fun p5 h5 => ?_⟩⟩
    obtain ⟨ms, rfl, gm⟩ : ∃ ms : List Int, ys = ms.map V.int ∧ ∀ k ∈ ms, 0 ≤ k ∧ k < m := by
      have : ∀ ys : List V, (∀ y ∈ ys, y ∈ ks.map V.int) → ∃ ms : List Int, ys = ms.map V.int ∧ ∀ k ∈ ms, 0 ≤ k ∧ k < m := fun ys => by
        induction ys with
        | nil => exact fun _ => ⟨[], rfl, fun k h => nomatch h⟩
        | cons y ys ih =>
          intro h
          obtain ⟨ms, rfl, gm⟩ := ih fun y hy => h y (List.mem_cons_of_mem _ hy)
          obtain ⟨z, hz, rfl⟩ := List.mem_map.mp (h y List.mem_cons_self)
          refine ⟨z :: ms, rfl, fun k hk => ?_⟩
          rcases List.mem_cons.mp hk with rfl | hk
          · exact gk _ hz
          · exact gm k hk
      exact this ys fun y hy => pm.mem_iff.mp hy
    have hml : ms.length = ks.length := by simpa using pm.length_eq
    have s5 := sm_new (o := .lst [V.int 1, V.int 2, V.int 0, V.int 6]) h5
    have s15 := s12.trans (s3.trans (s4.trans s5))
    refine ⟨hb.same s15, _, .inl (.of upd_same), by simp, by show 4 ≤ _; decide, fun v H6 hv s6 => ?_⟩
    obtain ⟨v, rfl, hv0⟩ : ∃ i : Int, v = .int i ∧ 0 ≤ i := by
      simp only [List.mem_cons, List.not_mem_nil, or_false] at hv
      rcases hv with rfl | rfl | rfl | rfl <;> exact ⟨_, rfl, by decide⟩
    have s16 := s15.trans s6
    refine ⟨v, rfl, p4, _, rfl, .of ((s5.trans s6) _ _ e4), fun p7 h7 => ?_⟩
    rw [cut_to hv0, ← List.map_take]
    have s7 := sm_new (o := .lst ((ms.take v.toNat).map V.int)) h7
    refine ⟨D2, p7, _, _, rfl, rfl, (s3.trans (s4.trans (s5.trans (s6.trans s7)))) _ _ e2, upd_same, ?_, fun p8 h8 => ⟨Nat.zero_le _, fun p9 h9 => ?_⟩⟩
    · rw [List.length_map, List.length_map, List.length_take]
      exact Nat.le_trans (by omega : _ ≤ 12) (by decide)
    rw [← List.map_append] at h9 ⊢
    have gall : ∀ k ∈ hs ++ ms.take v.toNat, 0 ≤ k ∧ k < m := fun k hk => by
      rcases List.mem_append.mp hk with h | h
      · exact gh k h
      · exact gm k (List.mem_of_mem_take h)
    have nall : hs ++ ms.take v.toNat ≠ [] := by simp [hs0]
    generalize hs ++ ms.take v.toNat = as at gall nall h9 ⊢
    have s8 := sm_new (o := .lst (as.map V.int)) h8
    have s9 := sm_new (o := .lst []) h9
    have e8 := s9 _ _ (upd_same (H := upd H6 p7 (.lst ((ms.take v.toNat).map V.int))) (a := p8) (o := .lst (as.map V.int)))
    have e9 : upd (upd (upd H6 p7 (.lst ((ms.take v.toNat).map V.int))) p8 (.lst (as.map V.int))) p9 (.lst []) p9 = some (.lst []) := upd_same
    have s19 := s16.trans (s7.trans (s8.trans s9))
    have ebs9 := (s3.trans (s4.trans (s5.trans (s6.trans (s7.trans (s8.trans s9)))))) _ _ ebs
    have h9' := ne_none (s16.trans (s7.trans s8)) h9
    generalize upd (upd (upd H6 p7 (.lst ((ms.take v.toNat).map V.int))) p8 (.lst (as.map V.int))) p9 (.lst []) = H9 at e8 e9 s19 ebs9
    refine ⟨_, rfl, _, rfl, n, rfl, p8, _, rfl, .of e8, fun p10 h10 => ?_⟩
    rw [cut_to (by omega), ← List.map_take]
    have s10 := sm_new (o := .lst ((as.take n.toNat).map V.int)) h10
    have gt : ∀ k ∈ as.take n.toNat, 0 ≤ k ∧ k < m := fun k hk => gall k (List.mem_of_mem_take hk)
    have nt : as.take n.toNat ≠ [] := by
      intro e
      rcases List.take_eq_nil_iff.mp e with e | e
      · omega
      · exact nall e
    have lt8 : (as.take n.toNat).length ≤ 8 := by rw [List.length_take]; omega
    generalize as.take n.toNat = ts at gt nt lt8 s10 ⊢
    have h9p : p10 ≠ p9 := (ne_of_none e9 h10).symm
    have e10 : upd H9 p10 (.lst (ts.map V.int)) p10 = some (.lst (ts.map V.int)) := upd_same
    have s110 := s19.trans s10
    have ebs10 := s10 _ _ ebs9
    have e9' := s10 _ _ e9
    generalize upd H9 p10 (.lst (ts.map V.int)) = Ha at e10 s110 ebs10 e9'
    refine ⟨p10, rfl, ⟨_, .of e10⟩, for_it (walk_list (xs := ts.map V.int)) (fun i σ H3 => ∃ x y, σ = [some (.ref b), some (.int m), some (.int n), some (.ref D), some (.ref p8), some (.ref p9), x, y, none] ∧ SameBut p9 Ha H3 ∧ ∃ (xs : List V) (cs : List (List Int)), H3 p9 = some (.lst xs) ∧ TpAll H3 xs (cs.map dI) ∧ cs.length = i ∧ ∀ c ∈ cs, okC m c) ?_ ?_ ?_ ?_⟩
    · exact ⟨none, none, rfl, .of (.refl _), [], [], e9', .nil, rfl, fun c h => nomatch h⟩
    · rintro i σ H3 _ ⟨x, y, rfl, sb, _⟩
      exact .of (sb _ _ h9p e10)
    · rintro i x σ H3 H4 hi ⟨y, z, rfl, sb, xs, cs, e3, t3, l3, g3⟩ ⟨rfl, hx⟩
      obtain ⟨hd, hhd, rfl⟩ := List.getElem?_map.symm.trans hx |> Option.map_eq_some_iff.mp
      have ghd := gt hd (List.mem_of_getElem? hhd)
      simp only [tBM, SlX.tMethSl, tSeq, tIfS, tOr, tAnd, tNot, tB, tCB, tCons, tNil, tVar, tC, tTest, tChain, tRet, tRetN, tNext, tOp, tAndV, tOrV, tNotV, tIf, tThen, tYes, tTup, tLst, tCall, tAsg, tDrop, tDNewK, gName, gTup, gCons, gNil, rI0, rI, CMul, CDiv, tUn, rU, rEq, rNe, scal, LenV, RetB, RetD, List.set_cons_zero, List.set_cons_succ, List.getElem?_cons_zero, List.getElem?_cons_succ, Option.some.injEq, exists_eq_left', exists_eq_left, List.cons.injEq, and_true, true_and, V.int.injEq, V.str.injEq, V.bl.injEq, V.ref.injEq, if_true, if_false, Bool.not_true, Bool.not_false, reduceCtorEq, decide_true, decide_false, Bool.false_eq_true, exists_and_left, Bool.not_eq_true', decide_eq_true_eq, decide_eq_false_iff_not, rLenK, tLenSetT, List.append_nil, and_assoc, or_false, false_or, exists_false, false_and, and_false, rGetL, rSetL, gSub, tAugS, ipI, tPart, tNoPart, not_true, not_false_iff, ite_true, ite_false, List.map_cons, List.map_nil, sp_law_mixed, sp_law_one]
      refine ⟨by show 1 ≤ _; decide, fun C hC => ?_⟩
      have p9C : p9 ≠ C := ne_of_none e3 hC
      refine ⟨fun k σ H5 => ∃ pre l, σ = [some (.ref b), some (.int m), some (.int n), some (.ref D), some (.ref p8), some (.ref p9), some (.int hd), some (.ref C), none] ∧ H5 C = some (.lst ((pre ++ [l]).map V.int)) ∧ okC m (pre ++ [l]) ∧ Same H4 H5 ∧ k + (pre ++ [l]).length = 6, ⟨5, [], hd, rfl, upd_same, ⟨by simp, List.pairwise_singleton _ _, fun k hk => by rw [List.mem_singleton.mp hk]; exact ghd⟩, sm_new hC, rfl⟩, ?_⟩
      rintro k σ H5 ⟨pre, l, rfl, eC, oc, s5, hk⟩
      have gl := oc.2.2 l (by simp)
      obtain ⟨o, ho⟩ : ∃ o, bs[l.toNat]? = some o := ⟨_, List.getElem?_eq_getElem (by omega)⟩
      have al : atI ((pre ++ [l]).map V.int) (-1) = some (.int l) := by
        rw [List.map_append]
        exact atI_last _ _
      have ao : atI (bs.map bV) l = some (bV o) := by
        have := atI_nat (xs := bs.map bV) (j := l.toNat) (v := bV o) (by rw [List.getElem?_map, ho]; rfl)
        rwa [Int.toNat_of_nonneg gl.1] at this
      have hbn : bs ≠ [] := fun e => by
        rw [e, List.length_nil] at hbl
        omega
      have dp9 : D ≠ p9 := fun e => by
        rw [e] at ebs10
        rw [ebs10] at e9'
        have := List.map_eq_nil_iff.mp (HO.lst.inj (Option.some.inj e9'))
        exact hbn this
      have eb5 := s5 _ _ (sb _ _ dp9 ebs10)
      simp only [tBM, SlX.tMethSl, tSeq, tIfS, tOr, tAnd, tNot, tB, tCB, tCons, tNil, tVar, tC, tTest, tChain, tRet, tRetN, tNext, tOp, tAndV, tOrV, tNotV, tIf, tThen, tYes, tTup, tLst, tCall, tAsg, tDrop, tDNewK, gName, gTup, gCons, gNil, rI0, rI, CMul, CDiv, tUn, rU, rEq, rNe, scal, LenV, RetB, RetD, List.set_cons_zero, List.set_cons_succ, List.getElem?_cons_zero, List.getElem?_cons_succ, Option.some.injEq, exists_eq_left', exists_eq_left, List.cons.injEq, and_true, true_and, V.int.injEq, V.str.injEq, V.bl.injEq, V.ref.injEq, if_true, if_false, Bool.not_true, Bool.not_false, reduceCtorEq, decide_true, decide_false, Bool.false_eq_true, exists_and_left, Bool.not_eq_true', decide_eq_true_eq, decide_eq_false_iff_not, rLenK, tLenSetT, List.append_nil, and_assoc, or_false, false_or, exists_false, false_and, and_false, rGetL, rSetL, gSub, tAugS, ipI, tPart, tNoPart, not_true, not_false_iff, ite_true, ite_false, List.map_cons, List.map_nil, sp_law_mixed, sp_law_one]
      refine ix_l eC al (ix_l eb5 ao ?_)
      cases o with
      | none =>
        rw [if_neg (by simp [bV])]
        refine ⟨.inl ⟨rfl, _, .of (s5 _ _ e3)⟩, tuple_of eC (TpAll.ints.mpr rfl) fun t H6 s6 tt => ⟨p9, xs, t, rfl, rfl, (s5.trans s6) _ _ e3, ?_, ?_⟩⟩
        · rw [t3.len]
          exact lt1 (by rw [List.length_map] at hi; omega)
        · have s46 := s5.trans s6
          refine ⟨(sb.trans (.of s46)).upd, _, upd_same, cs ++ [pre ++ [l]], ?_, by rw [List.length_append, l3]; rfl, fun c hc => ?_⟩
          · rw [List.map_append]
            exact TpAll.keep (.updL (s46 _ _ e3)) ((TpAll.same s46 t3).snoc tt)
          · rcases List.mem_append.mp hc with hc | hc
            · exact g3 c hc
            · rw [List.mem_singleton.mp hc]; exact oc
      | some v =>
        rw [if_pos (by simp [bV])]
        refine ⟨_, fun _ _ h => h, .inl ⟨rfl, _, .of eC⟩, ix_l eC al (ix_l eb5 ao ⟨C, _, _, rfl, rfl, eC, ?_, ?_⟩)⟩
        · rw [List.length_map]
          exact lt1 (by omega)
        · have gv := gb _ _ ho
          have oc2 : okC m ((pre ++ [l]) ++ [v]) := ⟨by simp, by
            refine List.pairwise_append.mpr ⟨oc.2.1, List.pairwise_singleton _ _, fun x hx y hy => ?_⟩
            rw [List.mem_singleton.mp hy]
            rcases List.mem_append.mp hx with hx | hx
            · have := (List.pairwise_append.mp oc.2.1).2.2 x hx l (by simp)
              omega
            · rw [List.mem_singleton.mp hx]
              omega, fun x hx => by
            rcases List.mem_append.mp hx with hx | hx
            · exact oc.2.2 x hx
            · rw [List.mem_singleton.mp hx]
              omega⟩
          have l6 := okC_len oc2 m6
          rw [List.length_append] at l6
          have l6' : (pre ++ [l]).length + 1 ≤ 6 := l6
          refine ⟨k - 1, by omega, rfl, pre ++ [l], v, ?_, oc2, sm_upd s5 hC, ?_⟩
          · rw [upd_same, List.map_append (l₁ := pre ++ [l])]
            rfl
          · rw [List.length_append (as := pre ++ [l])]
            show k - 1 + ((pre ++ [l]).length + 1) = 6
            omega
    · rintro σ H3 ⟨x, y, rfl, sb, xs, cs, e3, t3, l3, g3⟩
      refine ⟨_, rfl, q p9 xs cs H3 (sb.same s110 ?_) h9' e3 t3 (fun e => ?_) ?_ g3⟩
      · exact h9'
      · rw [e, List.length_nil, List.length_map] at l3
        exact nt (List.length_eq_zero_iff.mp l3.symm)
      · rw [l3, List.length_map]
        exact lt8
end
end C9
/-! ## F14 -/
set_option maxHeartbeats 4000000
namespace C9
open PySem PySem.Spec PyProof.Rows L2 C8
open PySem.W (alike alikeAll dataLt AllAlike Sortable keyToks keyToksAll)
theorem sqT_same {K : PySem.W.Frag} {H H' : Hp} {a : Addr} {xs : List V} (s : Same H H') (h : SqT K H a xs) : SqT K H' a xs := by
  rcases h with (h | ⟨o, h⟩) | h
  · exact .inl (.inl (s _ _ h))
  · exact .inl (.inr ⟨o, s _ _ h⟩)
  · exact .inr h
theorem depth_ints : ∀ a : List Int, PyData.depthAll (a.map .int) = 0
  | [] => by simp [PyData.depthAll]
  | x :: a => by simp [PyData.depthAll, PyData.depth, depth_ints a]
theorem depth_dI (a : List Int) : (dI a).depth = 1 := by
  rw [PyData.depth, depth_ints]
abbrev Fk := List Int × List Int × Int × Int
abbrev dFk (z : Fk) : PyData := .tuple [dI z.1, dI z.2.1, .int z.2.2.1, .int z.2.2.2]
theorem depth_dFk (z : Fk) : (dFk z).depth = 2 := by
  simp [PyData.depth, PyData.depthAll, depth_ints]
theorem cut_ints (c : List Int) (lo hi : Option Int) : ∃ os : List Int, cutV (c.map V.int) lo hi = os.map V.int ∧ os.length ≤ c.length := by
  have h := cutV_length (c.map V.int) lo hi
  obtain ⟨os, ho⟩ : ∃ os : List Int, cutV (c.map V.int) lo hi = os.map V.int := ⟨_, by unfold cutV; rw [← List.map_drop, ← List.map_take]⟩
  rw [ho, List.length_map, List.length_map] at h
  exact ⟨os, ho, h⟩
theorem slA_ints {K : PySem.W.Frag} {H : Hp} {a : Addr} {c : List Int} {lo hi : Option Int} {Q : VK} (h : SqT K H a (c.map V.int)) (q : ∀ p H' (os : List Int), Same H H' → SqT K H' p (os.map V.int) → os.length ≤ c.length → Q (.ref p) H') : rSlA K (.ref a) lo hi H Q := by
  obtain ⟨os, e, l⟩ := cut_ints c lo hi
  refine ⟨a, _, rfl, h, fun _ => q a H c (.refl _) h (Nat.le_refl _), fun _ p hp => ?_⟩
  rw [e]
  exact q p _ os (sm_new hp) (.of upd_same) l
/-- what the walk keeps -/
def FkAt (H H3 : Hp) (r : Addr) (N : Nat) : Prop := Same H H3 ∧ ∃ (ys : List V) (fs : List Fk), H3 r = some (.lst ys) ∧ TpAll H3 ys (fs.map dFk) ∧ fs.length ≤ N
theorem FkAt.same {H H3 H4 : Hp} {r : Addr} {N M : Nat} (h : FkAt H H3 r N) (s : Same H3 H4) (hm : N ≤ M) : FkAt H H4 r M := by
  obtain ⟨s0, ys, fs, e, t, l⟩ := h
  exact ⟨s0.trans s, ys, fs, s _ _ e, TpAll.same s t, Nat.le_trans l hm⟩
theorem alike_ints : ∀ a b : List Int, alikeAll (a.map .int) (b.map .int) = true
  | [], _ => by simp [alikeAll]
  | _ :: _, [] => by simp [alikeAll]
  | x :: a, y :: b => by simp [alikeAll, alike, alike_ints a b]
theorem al_fks (fs : List Fk) : AllAlike (fs.map dFk) := AllAlike.of fun a b => by
  rw [alike]
  simp [alikeAll, alike, alike_ints]
section
variable {K : PySem.W.Frag} {mg : Str → Option Value} {P : Program} {w : World} {base : Heap}
def RetK (H : Hp) (Q : VK) : Prop := ∀ p xs (fs : List Fk) H', Same H H' → H' p = some (.lst xs) → TpAll H' xs (fs.map dFk) → Q (.ref p) H'
def sp_law_forks (K : PySem.W.Frag) : Sp := fun vs H Q E => ∃ x, vs = [x] ∧ ∃ (a : Addr) (e : V) (p : Addr) (xs : List V) (cs : List (List Int)), x = .ref a ∧ SqT K H a [e, .ref p] ∧ SqL K H p xs ∧ TpAll H xs (cs.map dI) ∧ cs.length ≤ 20 ∧ (∀ c ∈ cs, c ≠ [] ∧ c.length ≤ 6) ∧ RetK H Q
theorem sc_law_forks : FnScope ["_law_house_here", "_law_found", "_law_one_here", "_law_other", "_law_at", "_law_kind", "_law_behind"] ["_law_house_here"] (defScope s_law_forks) := ⟨rfl, rfl, rfl, by decide +kernel, rfl, by decide +kernel, by decide +kernel⟩
theorem c_law_forks (T : Txt K mg) : C8.Cal P w K mg base 3 "_law_forks" (sp_law_forks K) [] := by
  refine T.cal 45 39 rfl rfl sc_law_forks
    (fun _ _ _ _ _ _ us h => match us, h with | [_], _ => rfl)
    (fun vs H Q E h => by obtain ⟨_, rfl, _⟩ := h; rfl) (fun f cdv A outer s H vs Q E hr h => ?_)
  have nd := sc_law_forks.nd
  refine ⟨_, (pss_cons (ps_set (i := 1) nd rfl (.inl rfl) (pe_lst pa_nil))
     (pss_cons (ps_for PassesOwn.never rfl (k_piL K (pi_list (pe_ix (k_ixT K) (pv 0) pe_int (fun _ _ => rfl)))) (pg_name (i := 2) nd rfl (by first | exact .inl rfl | exact .inr rfl))
      (pss_one (ps_for PassesOwn.never rfl (k_piL K (pi_list (pe_ix (k_ixT K) (pv 0) pe_int (fun _ _ => rfl)))) (pg_name (i := 3) nd rfl (by first | exact .inl rfl | exact .inr rfl))
      (pss_one (ps_for PassesOwn.never rfl (k_enumT K (pi_enumT (by rfl) (T.free 60) (pa_cons (pv 2) pa_nil))) (k_tup K (pg_tup (n := 2) rfl (pgs_cons (pg_name (i := 4) nd rfl (by first | exact .inl rfl | exact .inr rfl)) (pgs_cons (pg_name (i := 5) nd rfl (by first | exact .inl rfl | exact .inr rfl)) pgs_nil))))
      (pss_one (ps_if (pt_cmpR (k_inA K (α := Int) hr (by decide)) (pv 5) (pv 3) rfl) (pss_one (ps_expr (k_bm K (pe_bm PySem.F.plainAttrs_list PySem.F.slot_list_extend PySem.F.type_list_extend mt_extend (pv 1) (pa_cons (pe_lc rfl nd (k_piT K (pi_tup (pe_slice (k_slT K) (pv 2) (po_some (pe_op op_add (pv 4) pe_int)) po_none))) (blkOk_by (own := [("_law_behind", 6)]) (by rfl)) (fun _ _ _ _ _ => (pg_name (i := 6) nd rfl (by first | exact .inl rfl | exact .inr rfl))) (fun _ _ _ _ _ => (pts_one (pt_cmpR (k_notInA K (α := Int) hr (by decide)) (pv 6) (pv 3) rfl))) (fun _ _ _ _ _ => (pe_tup (pa_cons (pv 2) (pa_cons (pv 3) (pa_cons (pv 5) (pa_cons (pv 6) pa_nil))))))) pa_nil))))) pss_nil)))))))
     (pss_one (ps_ret (pe_callB (k_sortedD K hr) (by rfl) (T.free 58) rfl (pa_cons (pv 1) pa_nil)))))), ?_⟩
  obtain ⟨v0, rfl, h⟩ := h
  rw [show L2.start ["_law_house_here", "_law_found", "_law_one_here", "_law_other", "_law_at", "_law_kind", "_law_behind"] [v0] = [some v0, none, none, none, none, none, none] from rfl]
  obtain ⟨a, e, p, xs, cs, rfl, ha, hp, tp, hl, hc, q⟩ := h
  simp only [tBM, SlX.tMethSl, tSeq, tIfS, tOr, tAnd, tNot, tB, tCB, tCons, tNil, tVar, tC, tTest, tChain, tRet, tRetN, tNext, tOp, tAndV, tOrV, tNotV, tIf, tThen, tYes, tTup, tLst, tCall, tAsg, tDrop, tDNewK, gName, gTup, gCons, gNil, rI0, rI, CMul, CDiv, tUn, rU, rEq, rNe, scal, LenV, RetB, RetD, List.set_cons_zero, List.set_cons_succ, List.getElem?_cons_zero, List.getElem?_cons_succ, Option.some.injEq, exists_eq_left', exists_eq_left, List.cons.injEq, and_true, true_and, V.int.injEq, V.str.injEq, V.bl.injEq, V.ref.injEq, if_true, if_false, Bool.not_true, Bool.not_false, reduceCtorEq, decide_true, decide_false, Bool.false_eq_true, exists_and_left, Bool.not_eq_true', decide_eq_true_eq, decide_eq_false_iff_not, rLenK, tLenSetT, List.append_nil, and_assoc, or_false, false_or, exists_false, false_and, and_false, rGetL, rSetL, gSub, tAugS, ipI, tPart, tNoPart, not_true, not_false_iff, ite_true, ite_false, List.map_cons, List.map_nil]
  refine ⟨Nat.zero_le _, fun r hr => ?_⟩
  have s0 : Same H (upd H r (.lst [])) := sm_new hr
  have hat : ∀ {H3 : Hp}, Same H H3 → SqT K H3 a [e, .ref p] := fun s => by
    rcases ha with (h | ⟨o, h⟩) | h
    · exact .inl (.inl (s _ _ h))
    · exact .inl (.inr ⟨o, s _ _ h⟩)
    · exact .inr h
  have hxl := tp.len
  refine ⟨_, rfl, a, _, 1, _, rfl, rfl, hat s0, atI_1 _ _ _, p, rfl, ⟨_, s0.seq hp⟩, for_it (walk_list (xs := xs)) (fun i σ H3 => ∃ y z u v w, σ = [some (.ref a), some (.ref r), y, z, u, v, w] ∧ FkAt H H3 r (i * 720)) ?_ ?_ ?_ ?_⟩
  · exact ⟨none, none, none, none, none, rfl, s0, [], [], upd_same, .nil, Nat.zero_le _⟩
  · rintro i σ H3 _ ⟨y, z, u, v, w, rfl, s1, _⟩
    exact s1.seq hp
  · rintro i x σ H3 H4 hi ⟨y, z, u, v, w, rfl, F⟩ ⟨rfl, hx⟩
    obtain ⟨c, hcm, tc⟩ := tp.mem (List.mem_of_getElem? hx)
    obtain ⟨pc, rfl, epc⟩ := tc.ints_at
    have lc := (hc c hcm).2
    refine ⟨_, rfl, a, _, 1, _, rfl, rfl, hat F.1, atI_1 _ _ _, p, rfl, ⟨_, F.1.seq hp⟩, for_it (walk_list (xs := xs)) (fun j σ H5 => ∃ z u v w, σ = [some (.ref a), some (.ref r), some (.ref pc), z, u, v, w] ∧ FkAt H H5 r (i * 720 + j * 36)) ?_ ?_ ?_ ?_⟩
    · exact ⟨_, _, _, _, rfl, F⟩
    · rintro j σ H5 _ ⟨z, u, v, w, rfl, s1, _⟩
      exact s1.seq hp
    · rintro j x σ H5 H6 hj ⟨z, u, v, w, rfl, F⟩ ⟨rfl, hx2⟩
      obtain ⟨d, hdm, td⟩ := tp.mem (List.mem_of_getElem? hx2)
      obtain ⟨pd, rfl, epd⟩ := td.ints_at
      have epc5 := F.1 _ _ epc
      have hcl : (c.map V.int).length ≤ 6 := by rw [List.length_map]; exact lc
      refine ⟨_, rfl, pc, _, rfl, .of epc5, for_it (walk_enumT (xs := c.map V.int)) (fun t σ H7 => ∃ u v w, σ = [some (.ref a), some (.ref r), some (.ref pc), some (.ref pd), u, v, w] ∧ FkAt H H7 r (i * 720 + j * 36 + t * 6)) ?_ ?_ ?_ ?_⟩
      · exact ⟨_, _, _, rfl, F⟩
      · rintro t σ H7 _ ⟨u, v, w, rfl, F⟩
        exact .of (F.1 _ _ epc)
      · rintro t x σ H7 H8 ht ⟨u, v, w, rfl, F⟩ ⟨T2, x1, x2, rfl, hT, rfl, f1, f2⟩
        cases f1
        obtain ⟨k, hk, rfl⟩ := List.getElem?_map.symm.trans f2 |> Option.map_eq_some_iff.mp
        have F8 := F.same (sm_new (o := .tup [.int (t : Nat), .int k]) hT) (Nat.le_refl _)
        refine ⟨T2, [.int (t : Nat), .int k], rfl, .of upd_same, rfl, _, _, rfl, _, _, rfl, rfl, ?_⟩
        generalize upd H7 T2 (.tup [.int (t : Nat), .int k]) = H9 at F8
        have epc9 := F8.1 _ _ epc
        have epd9 := F8.1 _ _ epd
        have hle : i * 720 + j * 36 + t * 6 ≤ i * 720 + j * 36 + (t + 1) * 6 := by omega
        simp only [tBM, SlX.tMethSl, tSeq, tIfS, tOr, tAnd, tNot, tB, tCB, tCons, tNil, tVar, tC, tTest, tChain, tRet, tRetN, tNext, tOp, tAndV, tOrV, tNotV, tIf, tThen, tYes, tTup, tLst, tCall, tAsg, tDrop, tDNewK, gName, gTup, gCons, gNil, rI0, rI, CMul, CDiv, tUn, rU, rEq, rNe, scal, LenV, RetB, RetD, List.set_cons_zero, List.set_cons_succ, List.getElem?_cons_zero, List.getElem?_cons_succ, Option.some.injEq, exists_eq_left', exists_eq_left, List.cons.injEq, and_true, true_and, V.int.injEq, V.str.injEq, V.bl.injEq, V.ref.injEq, if_true, if_false, Bool.not_true, Bool.not_false, reduceCtorEq, decide_true, decide_false, Bool.false_eq_true, exists_and_left, Bool.not_eq_true', decide_eq_true_eq, decide_eq_false_iff_not, rLenK, tLenSetT, List.append_nil, and_assoc, or_false, false_or, exists_false, false_and, and_false, rGetL, rSetL, gSub, tAugS, ipI, tPart, tNoPart, not_true, not_false_iff, ite_true, ite_false, List.map_cons, List.map_nil]
        refine ⟨k, d, pd, _, .int k, rfl, .inr (.of epd9), TpAll.dp (TpAll.ints.mpr rfl), ?_⟩
        by_cases hkd : k ∈ d
        · rw [decide_eq_true hkd]
          refine ⟨true, rfl, ?_⟩
          rw [if_pos rfl]
          obtain ⟨s9, ys, fs, e9, t9, l9⟩ := F8
          refine ⟨.inl ⟨rfl, _, .of e9⟩, _, rfl, _, rfl, (t : Nat), 1, rfl, rfl, _, rfl, ?_⟩
          simp only [tNoPart]
          refine slA_ints (.of epc9) fun p3 H10 os s10 e10 lo => ?_
          refine ⟨p3, rfl, ⟨_, e10⟩, fun D hD => lc_rel (walk_tup (xs := os.map V.int)) hD ?_ (fun n ds => ∃ gs : List Fk, ds = gs.map dFk) ⟨[], rfl⟩ (fun H s => sqT_same s e10) ?_ ?_⟩
          · rw [List.length_map]
            exact lt1 (by omega)
          · rintro n ds x Ha Hb Qe Qs hn sm ⟨gs, rfl⟩ ⟨rfl, hxx⟩ ke ks'
            obtain ⟨z, hz, rfl⟩ := List.getElem?_map.symm.trans hxx |> Option.map_eq_some_iff.mp
            refine ⟨rfl, ?_⟩
            have epda := (s10.trans sm) _ _ epd9
            have epca := (s10.trans sm) _ _ epc9
            simp only [tBM, SlX.tMethSl, tSeq, tIfS, tOr, tAnd, tNot, tB, tCB, tCons, tNil, tVar, tC, tTest, tChain, tRet, tRetN, tNext, tOp, tAndV, tOrV, tNotV, tIf, tThen, tYes, tTup, tLst, tCall, tAsg, tDrop, tDNewK, gName, gTup, gCons, gNil, rI0, rI, CMul, CDiv, tUn, rU, rEq, rNe, scal, LenV, RetB, RetD, List.set_cons_zero, List.set_cons_succ, List.getElem?_cons_zero, List.getElem?_cons_succ, Option.some.injEq, exists_eq_left', exists_eq_left, List.cons.injEq, and_true, true_and, V.int.injEq, V.str.injEq, V.bl.injEq, V.ref.injEq, if_true, if_false, Bool.not_true, Bool.not_false, reduceCtorEq, decide_true, decide_false, Bool.false_eq_true, exists_and_left, Bool.not_eq_true', decide_eq_true_eq, decide_eq_false_iff_not, rLenK, tLenSetT, List.append_nil, and_assoc, or_false, false_or, exists_false, false_and, and_false, rGetL, rSetL, gSub, tAugS, ipI, tPart, tNoPart, not_true, not_false_iff, ite_true, ite_false, List.map_cons, List.map_nil, wipe]
            refine ⟨z, d, pd, _, .int z, rfl, .inr (.of epda), TpAll.dp (TpAll.ints.mpr rfl), ?_⟩
            by_cases hzd : z ∈ d
            · exact ⟨false, by rw [decide_eq_true hzd]; rfl, by rw [if_neg (by decide)]; exact ks' _ (.refl _) ⟨gs, rfl⟩⟩
            · refine ⟨true, by rw [decide_eq_false hzd]; rfl, ?_⟩
              rw [if_pos rfl]
              refine ⟨by show 4 ≤ _; decide, fun p4 h4 => ke _ (dFk (c, d, k, z)) _ (sm_new h4) (.mk h4 ?_) ⟨gs ++ [(c, d, k, z)], by rw [List.map_append]; rfl⟩⟩
              exact .cons (.tup epca (TpAll.ints.mpr rfl)) (.cons (.tup epda (TpAll.ints.mpr rfl)) (.cons (.int _) (.cons (.int _) .nil)))
          · rintro Ha acc ds sa ea ra ⟨gs, rfl⟩ ln
            rw [List.length_map, List.length_map] at ln
            have sx := s10.trans sa
            have e9a := sx _ _ e9
            have hra := ra.len
            have hya := t9.len
            refine ⟨r, D, ys, acc, rfl, rfl, e9a, ea, ?_, sm_upd (s9.trans sx) hr, ys ++ acc, fs ++ gs, upd_same, ?_, ?_⟩
            · rw [hra, hya]
              exact Nat.le_trans (by omega : _ ≤ 20000) (by decide)
            · rw [List.map_append]
              exact (TpAll.keep (.updL e9a) (TpAll.same sx t9)).app (TpAll.keep (.updL e9a) ra)
            · rw [List.length_append]
              omega
        · rw [decide_eq_false hkd]
          refine ⟨false, rfl, ?_⟩
          rw [if_neg (by decide)]
          exact F8.same (.refl _) hle
      · rintro σ H7 ⟨u, v, w, rfl, F⟩
        exact ⟨_, _, _, _, rfl, F.same (.refl _) (by omega)⟩
    · rintro σ H5 ⟨z, u, v, w, rfl, F⟩
      exact ⟨_, _, _, _, _, rfl, F.same (.refl _) (by omega)⟩
  · rintro σ H3 ⟨y, z, u, v, w, rfl, s3, ys, fs, e3, t3, l3⟩
    refine ⟨_, rfl, sorted_of (.inl (.of e3)) t3 (al_fks _) (.inl fun d hd => ?_) (fun d hd => ?_) fun p2 ys2 H4 h4 s4 e4 r4 => ?_⟩
    · obtain ⟨z, _, rfl⟩ := List.mem_map.mp hd
      exact ⟨_, _, rfl⟩
    · obtain ⟨z, _, rfl⟩ := List.mem_map.mp hd
      rw [depth_dFk]
      decide
    · rw [sortD_G] at r4
      exact q p2 ys2 _ H4 (s3.trans s4) e4 r4
end
end C9
/-! ## S5 -/
set_option maxHeartbeats 4000000
namespace C9
open PySem PySem.Spec PyProof.Rows L2
theorem valV_free {k : Key} : ∀ {kvs : List (Key × V)}, k ∉ kvs.map (·.1) → valV kvs k = none
  | [], _ => rfl
  | (j, v) :: kvs, h => by
    rw [valV_neg (fun e => h (by rw [← e]; exact List.mem_cons_self))]
    exact valV_free fun m => h (List.mem_cons_of_mem _ m)
theorem mergeK_new : ∀ (kvs acc : List (Key × V)), ((acc ++ kvs).map (·.1)).Nodup → mergeK acc kvs = acc ++ kvs
  | [], acc, _ => (List.append_nil acc).symm
  | (k, v) :: kvs, acc, h => by
    have e : acc ++ (k, v) :: kvs = (acc ++ [(k, v)]) ++ kvs := by rw [List.append_assoc]; rfl
    have hk : k ∉ acc.map (·.1) := fun m => by
      rw [List.map_append] at h
      exact (List.nodup_append.mp h).2.2 k m k (by simp) rfl
    show mergeK (putK acc k v) kvs = _
    rw [putK_new _ (valV_free hk), mergeK_new kvs _ (e ▸ h), e]
theorem pairs_of {K : PySem.W.Frag} {H : Hp} {α : Type} {g : α → PyData} {kv : α → Key × V} (hg : ∀ e v, Tp H v (g e) → ∃ a, v = .ref a ∧ H a = some (.tup [kV (kv e).1, (kv e).2])) :
    ∀ {acc : List V} {es : List α}, TpAll H acc (es.map g) → ∃ ps : List Addr, acc = ps.map V.ref ∧ Paired (fun p (x : Key × V) => SqT K H p [kV x.1, x.2]) ps (es.map kv)
  | [], [], _ => ⟨[], rfl, .nil⟩
  | [], e :: es, h => nomatch h
  | x :: acc, [], h => nomatch h
  | x :: acc, e :: es, h => by
    cases h with
    | cons a r =>
      obtain ⟨p, rfl, hp⟩ := hg e x a
      obtain ⟨ps, rfl, hps⟩ := pairs_of hg r
      exact ⟨p :: ps, rfl, .cons (.of hp) hps⟩
theorem dict_of {K : PySem.W.Frag} {H : Hp} {α : Type} {g : α → PyData} {kv : α → Key × V} {D : Addr} {acc : List V} {es : List α} {Q : VK} (e : H D = some (.lst acc)) (hg : ∀ e v, Tp H v (g e) → ∃ a, v = .ref a ∧ H a = some (.tup [kV (kv e).1, (kv e).2]))
    (r : TpAll H acc (es.map g)) (nd : ((es.map kv).map (·.1)).Nodup) (q : ∀ p H', H p = none → Same H H' → H' p = some (.dK (es.map kv)) → Q (.ref p) H') : rDictP K [.ref D] H Q := by
  obtain ⟨ps, rfl, hp⟩ := pairs_of (K := K) hg r
  refine ⟨D, ps, _, rfl, .of e, hp, fun p h => ?_⟩
  rw [mergeK_new _ [] nd]
  exact q p _ h (sm_new h) upd_same
/-- pairs of a text and an int -/
abbrev dSI (e : Str × Int) : PyData := .tuple [.str e.1, .int e.2]
abbrev dSS (e : Str × Str) : PyData := .tuple [.str e.1, .str e.2]
abbrev kvSI (e : Str × Int) : Key × V := (.inr e.1, .int e.2)
abbrev kvSS (e : Str × Str) : Key × V := (.inr e.1, .str e.2)
theorem si_at {H : Hp} (e : Str × Int) (v : V) (h : Tp H v (dSI e)) : ∃ a, v = .ref a ∧ H a = some (.tup [kV (kvSI e).1, (kvSI e).2]) := by
  obtain ⟨a, v1, v2, rfl, ea, h1, h2⟩ := h.two
  rw [h1.str_at, h2.int_at] at ea
  exact ⟨a, rfl, ea⟩
theorem ss_at {H : Hp} (e : Str × Str) (v : V) (h : Tp H v (dSS e)) : ∃ a, v = .ref a ∧ H a = some (.tup [kV (kvSS e).1, (kvSS e).2]) := by
  obtain ⟨a, v1, v2, rfl, ea, h1, h2⟩ := h.two
  rw [h1.str_at, h2.str_at] at ea
  exact ⟨a, rfl, ea⟩
theorem nd_inr {ks : List Str} (h : ks.Nodup) : (ks.map (Sum.inr : Str → Key)).Nodup := List.Pairwise.map _ (fun _ _ n e => n (Sum.inr.inj e)) h
def atF (es : List (Str × Int)) (k : Str) : Int := ((es.find? fun e => decide (e.1 = k)).map (·.2)).getD 0
theorem atF_mem : ∀ {es : List (Str × Int)}, (es.map (·.1)).Nodup → ∀ {e : Str × Int}, e ∈ es → atF es e.1 = e.2
  | [], _, _, h => nomatch h
  | x :: es, nd, e, h => by
    have n1 := List.nodup_cons.mp nd
    unfold atF
    rw [List.find?_cons]
    by_cases q : x.1 = e.1
    · rw [decide_eq_true q]
      rcases List.mem_cons.mp h with rfl | h
      · rfl
      · exact absurd (List.mem_map.mpr ⟨e, h, q.symm⟩) n1.1
    · rw [decide_eq_false q]
      rcases List.mem_cons.mp h with rfl | h
      · exact absurd rfl q
      · exact atF_mem n1.2 h
theorem dF_of {es : List (Str × Int)} (nd : (es.map (·.1)).Nodup) : es.map kvSI = dF (es.map (·.1)) (atF es) := by
  unfold dF dV
  rw [List.map_map]
  refine List.map_congr_left fun e he => ?_
  show (Sum.inr e.1, V.int e.2) = (Sum.inr e.1, V.int (atF es e.1))
  rw [atF_mem nd he]
def strOf : V → Str
  | .str x => x
  | _ => ""
theorem perm_strs {ys : List V} {ks : List Str} (h : ys.Perm (ks.map V.str)) : ∃ ls : List Str, ys = ls.map V.str ∧ ls.Perm ks := by
  refine ⟨ys.map strOf, ?_, ?_⟩
  · rw [List.map_map]
    refine ((List.map_congr_left fun y hy => ?_).trans (List.map_id ys)).symm
    obtain ⟨k, _, rfl⟩ := List.mem_map.mp (h.mem_iff.mp hy)
    rfl
  · have := h.map strOf
    rw [List.map_map] at this
    exact this.trans (.of_eq ((List.map_congr_left fun _ _ => rfl).trans (List.map_id ks)))
end C9
/-! ## F15 -/
set_option maxHeartbeats 4000000
namespace C9
open PySem PySem.Spec PyProof.Rows L2 C8
theorem atF_bd {es : List (Str × Int)} (h : ∀ e ∈ es, 0 ≤ e.2 ∧ e.2 ≤ 101) (k : Str) : 0 ≤ atF es k ∧ atF es k ≤ 101 := by
  unfold atF
  cases e : es.find? fun e => decide (e.1 = k) with
  | none => exact ⟨Int.le_refl 0, by decide⟩
  | some x => exact h x (List.mem_of_find?_eq_some e)
section
variable {K : PySem.W.Frag} {mg : Str → Option Value} {P : Program} {w : World} {base : Heap}
def sp_law_amounts (K : PySem.W.Frag) : Sp := fun vs H Q E => ∃ x y z, vs = [x, y, z] ∧ ∃ b ks cs m, x = .ref b ∧ BagAt H b ∧ Tp H y (dH ks cs) ∧ z = .int m ∧ 1 ≤ m ∧ m ≤ 100 ∧ ks.Nodup ∧ ks.length ≤ 6 ∧
  ∀ D o ls (f : Str → Int) H', Same H H' → ls.Perm ks → (∀ k, 0 ≤ f k ∧ f k ≤ 101) → H' D = some (.frz o (.dK (dF ls f))) → Q (.ref D) H'
theorem sc_law_amounts : FnScope ["_law_bag_here", "_law_house_here", "_law_most", "_law_kinds", "_law_kind"] ["_law_bag_here", "_law_house_here", "_law_most"] (defScope s_law_amounts) := ⟨rfl, rfl, rfl, by decide +kernel, rfl, by decide +kernel, by decide +kernel⟩
theorem c_law_amounts (T : Txt K mg) : C8.Cal P w K mg base 3 "_law_amounts" (sp_law_amounts K) [] := by
  refine T.cal 46 40 rfl rfl sc_law_amounts
    (fun _ _ _ _ _ _ us h => match us, h with | [_, _, _], _ => rfl)
    (fun vs H Q E h => by obtain ⟨_, _, _, rfl, _⟩ := h; rfl) (fun f cdv A outer s H vs Q E hr h => ?_)
  have nd := sc_law_amounts.nd
  refine ⟨_, (pss_cons (ps_set (i := 3) nd rfl (.inl rfl) (pe_c (c_law_mixed T) hr (by decide) (by rfl) (pa_cons (pv 0) (pa_cons (pe_callTy (k_list K) (by rfl) (T.free 59) rfl (pa_cons (pe_ix (k_ixT K) (pv 1) pe_int (fun _ _ => rfl)) pa_nil)) pa_nil))))
     (pss_one (ps_ret (pe_frz (pe_callTy (k_dictP K rfl) (by rfl) (T.free 66) rfl (pa_cons (pe_lc rfl nd (k_piL K (pi_list (pv 3))) (blkOk_by (own := [("_law_kind", 4)]) (by rfl)) (fun _ _ _ _ _ => (pg_name (i := 4) nd rfl (by first | exact .inl rfl | exact .inr rfl))) (fun _ _ _ _ _ => pts_nil) (fun _ _ _ _ _ => (pe_tup (pa_cons (pv 4) (pa_cons (pe_c (c_law_take T) hr (by decide) (by rfl) (pa_cons (pv 0) (pa_cons (pe_c (c_law_one T) hr (by decide) (by rfl) (pa_cons (pv 0) (pa_cons (pe_lst (pa_cons (pe_op op_add (pv 2) pe_int) (pa_cons pe_int (pa_cons pe_int (pa_cons (pe_op op_add (pv 2) pe_int) pa_nil))))) pa_nil))) pa_nil))) pa_nil))))) pa_nil)))))), ?_⟩
  obtain ⟨v0, v1, v2, rfl, h⟩ := h
  rw [show L2.start ["_law_bag_here", "_law_house_here", "_law_most", "_law_kinds", "_law_kind"] [v0, v1, v2] = [some v0, some v1, some v2, none, none] from rfl]
  obtain ⟨b, ks, cs, m, rfl, hb, hy, rfl, m1, m2, nk, kl, q⟩ := h
  obtain ⟨a, v1, v2, rfl, ha, h1, h2⟩ := hy.two
  obtain ⟨p1, rfl, e1⟩ := h1.strs_at
  simp only [cxK, sp_law_mixed, tBM, SlX.tMethSl, tSeq, tIfS, tOr, tAnd, tNot, tB, tCB, tCons, tNil, tVar, tC, tTest, tChain, tRet, tRetN, tNext, tOp, tAndV, tOrV, tNotV, tIf, tThen, tYes, tTup, tLst, tCall, tAsg, tDrop, tDNewK, gName, gTup, gCons, gNil, rI0, rI, CMul, CDiv, tUn, rU, rEq, rNe, scal, LenV, RetB, RetD, List.set_cons_zero, List.set_cons_succ, List.getElem?_cons_zero, List.getElem?_cons_succ, Option.some.injEq, exists_eq_left', exists_eq_left, List.cons.injEq, and_true, true_and, V.int.injEq, V.str.injEq, V.bl.injEq, V.ref.injEq, if_true, if_false, Bool.not_true, Bool.not_false, reduceCtorEq, decide_true, decide_false, Bool.false_eq_true, exists_and_left, Bool.not_eq_true', decide_eq_true_eq, decide_eq_false_iff_not, rLenK, tLenSetT, List.append_nil, and_assoc, or_false, false_or, exists_false, false_and, and_false, rGetL, rSetL, gSub, tAugS, ipI, tPart, tNoPart, not_true, not_false_iff, ite_true, ite_false, List.map_cons, List.map_nil, sp_law_mixed, sp_law_one, sp_law_take]
  refine ix_t ha (atI_0 _ _) ⟨p1, _, rfl, .inr (.of e1), fun l hl => ⟨l, rfl, hb.same (sm_new hl), _, .of upd_same, by rw [List.length_map]; omega, fun p ys H1 s1 hp ep pm => ?_⟩⟩
  obtain ⟨ls, rfl, pm2⟩ := perm_strs pm
  have s01 := (sm_new (o := .lst (ks.map V.str)) hl).trans s1
  have hll := pm2.length_eq
  refine ⟨_, rfl, p, rfl, ⟨_, .of ep⟩, fun D hD => lc_rel (walk_list (xs := ls.map V.str)) hD ?_ (fun i ds => ∃ es : List (Str × Int), ds = es.map dSI ∧ es.map (·.1) = ls.take i ∧ ∀ e ∈ es, 0 ≤ e.2 ∧ e.2 ≤ 101) ⟨[], rfl, rfl, fun e h => nomatch h⟩ (fun H s => .of (s _ _ ep)) ?_ ?_⟩
  · rw [List.length_map]
    exact lt1 (by omega)
  · rintro i ds x Ha Hb Qe Qs hi sm ⟨es, rfl, he, hb9⟩ ⟨rfl, hx⟩ ke ks'
    obtain ⟨k, hk, rfl⟩ := List.getElem?_map.symm.trans hx |> Option.map_eq_some_iff.mp
    refine ⟨rfl, ?_⟩
    simp only [tBM, SlX.tMethSl, tSeq, tIfS, tOr, tAnd, tNot, tB, tCB, tCons, tNil, tVar, tC, tTest, tChain, tRet, tRetN, tNext, tOp, tAndV, tOrV, tNotV, tIf, tThen, tYes, tTup, tLst, tCall, tAsg, tDrop, tDNewK, gName, gTup, gCons, gNil, rI0, rI, CMul, CDiv, tUn, rU, rEq, rNe, scal, LenV, RetB, RetD, List.set_cons_zero, List.set_cons_succ, List.getElem?_cons_zero, List.getElem?_cons_succ, Option.some.injEq, exists_eq_left', exists_eq_left, List.cons.injEq, and_true, true_and, V.int.injEq, V.str.injEq, V.bl.injEq, V.ref.injEq, if_true, if_false, Bool.not_true, Bool.not_false, reduceCtorEq, decide_true, decide_false, Bool.false_eq_true, exists_and_left, Bool.not_eq_true', decide_eq_true_eq, decide_eq_false_iff_not, rLenK, tLenSetT, List.append_nil, and_assoc, or_false, false_or, exists_false, false_and, and_false, rGetL, rSetL, gSub, tAugS, ipI, tPart, tNoPart, not_true, not_false_iff, ite_true, ite_false, List.map_cons, List.map_nil, sp_law_mixed, sp_law_one, sp_law_take, wipe]
    refine ⟨by show 4 ≤ _; decide, fun p3 h3 => ⟨hb.same (s01.trans (sm.trans (sm_new h3))), _, .inl (.of upd_same), by simp, by show 4 ≤ _; decide, fun v H5 hv s5 => ?_⟩⟩
    obtain ⟨v, rfl, hv0, hv1⟩ : ∃ i : Int, v = .int i ∧ 0 < i ∧ i ≤ 101 := by
      simp only [List.mem_cons, List.not_mem_nil, or_false] at hv
      rcases hv with rfl | rfl | rfl | rfl <;> exact ⟨_, rfl, by omega, by omega⟩
    refine ⟨v, rfl, hb.same (s01.trans (sm.trans ((sm_new h3).trans s5))), hv0, by omega, fun u H6 u0 u1 s6 => ⟨by show 2 ≤ _; decide, fun p4 h4 => ?_⟩⟩
    refine ke _ (dSI (k, u)) _ ((sm_new h3).trans (s5.trans (s6.trans (sm_new h4)))) (.mk h4 (.cons (.str _) (.cons (.int _) .nil))) ⟨es ++ [(k, u)], by rw [List.map_append]; rfl, ?_, fun e hm => ?_⟩
    rotate_left
    · rcases List.mem_append.mp hm with h | h
      · exact hb9 e h
      · rw [List.mem_singleton.mp h]
        exact ⟨u0, by show u ≤ 101; omega⟩
    rw [List.map_append, he, List.take_add_one, hk]
    rfl
  · rintro H2 acc ds s2 e2 r2 ⟨es, rfl, he, hb9⟩ ln
    rw [List.length_map, List.take_of_length_le (Nat.le_refl _)] at he
    have nde : (es.map (·.1)).Nodup := he ▸ pm2.nodup_iff.mpr nk
    simp only [tNil]
    have ndk : ((es.map kvSI).map (·.1)).Nodup := by
      have := nd_inr nde
      rw [List.map_map] at this ⊢
      exact this
    refine dict_of e2 si_at r2 ndk fun p5 H3 h3 s3 e3 => ⟨p5, _, rfl, e3, ?_, fun od => ?_⟩
    · exact trivial
    · rw [dF_of nde, he]
      exact q p5 od ls _ _ (sm_upd (s01.trans (s2.trans s3)) (ne_none (s01.trans s2) h3)) pm2 (atF_bd hb9) upd_same
end
end C9
/-! ## F4 -/
set_option maxHeartbeats 4000000
namespace C9
open PySem PySem.Spec PyProof.Rows L2 C8
open PySem.W (alike alikeAll dataLt AllAlike Sortable keyToks keyToksAll)
inductive Deed where
  | put (k : Str)
  | call (c : List Str)
  deriving DecidableEq
def dD : Deed → PyData
  | .put k => .tuple [.str "put", .str k]
  | .call c => .tuple [.str "call", dS c]
/-- the kind that a deed takes -/
def takenK (f : Str → Int) : Deed → Option Str
  | .put _ => none
  | .call c => c.find? fun k => decide (0 < f k)
def doD (f : Str → Int) : Deed → Str → Int
  | .put k => fun j => if j = k then f k + 1 else f j
  | .call c => match takenK f (.call c) with
    | none => f
    | some k => fun j => if j = k then f k - 1 else f j
def deedIn (ks : List Str) : Deed → Prop
  | .put k => k ∈ ks
  | .call c => c.length ≤ 1000 ∧ ∀ k ∈ c, k ∈ ks
theorem IDict.get {H : Hp} {v : V} {ks : List Str} {f : Str → Int} (h : IDict H v ks f) {k : Str} (hk : k ∈ ks) : ∃ D, v = .ref D ∧ DGet H D (.str k) (some (.int (f k))) := by
  obtain ⟨D, kvs, rfl, e, g⟩ := h
  exact ⟨D, rfl, .inl ⟨kvs, .inr k, e, rfl, (g k hk).symm⟩⟩
theorem IDict.same {H H' : Hp} {v : V} {ks : List Str} {f : Str → Int} (h : IDict H v ks f) (s : Same H H') : IDict H' v ks f := by
  obtain ⟨D, kvs, rfl, e, g⟩ := h
  exact ⟨D, kvs, rfl, Rd.same e s, g⟩
theorem IDict.of {H : Hp} {D : Addr} {ks : List Str} {f : Str → Int} (h : Rd H D (.dK (dF ks f))) : IDict H (.ref D) ks f := ⟨D, _, rfl, h, fun k hk => dV_val hk⟩
theorem find_filter {α : Type} (p : α → Bool) : ∀ l : List α, (l.filter p).head? = l.find? p
  | [] => rfl
  | x :: l => by
    cases h : p x with
    | true => rw [List.filter_cons, List.find?_cons, h]; rfl
    | false => rw [List.filter_cons, List.find?_cons, h]; exact find_filter p l
section
variable {K : PySem.W.Frag} {mg : Str → Option Value} {P : Program} {w : World} {base : Heap}
def sp_taken_kind (K : PySem.W.Frag) : Sp := fun vs H Q E => ∃ x y, vs = [x, y] ∧ ∃ ks f d, IDict H x ks f ∧ Tp H y (dD d) ∧ deedIn ks d ∧ ∀ H', Same H H' → Q (optV (takenK f d)) H'
theorem sc_taken_kind : FnScope ["amounts", "deed", "there", "kind"] ["amounts", "deed"] (defScope s_taken_kind) := ⟨rfl, rfl, rfl, by decide +kernel, rfl, by decide +kernel, by decide +kernel⟩
theorem c_taken_kind (T : Txt K mg) : C8.Cal P w K mg base 1 "taken_kind" (sp_taken_kind K) [] := by
  refine T.cal 12 12 rfl rfl sc_taken_kind
    (fun _ _ _ _ _ _ us h => match us, h with | [_, _], _ => rfl)
    (fun vs H Q E h => by obtain ⟨_, _, rfl, _⟩ := h; rfl) (fun f cdv A outer s H vs Q E hr h => ?_)
  have nd := sc_taken_kind.nd
  refine ⟨_, (pss_cons (ps_if (pt_cmpR op_eq (pe_ix (k_ixT K) (pv 1) pe_int (fun _ _ => rfl)) pe_str rfl) (pss_one (ps_ret pe_non)) pss_nil)
     (pss_cons (ps_setLc (i := 2) rfl nd rfl rfl rfl (k_piT K (pi_tup (pe_ix (k_ixT K) (pv 1) pe_int (fun _ _ => rfl)))) (blkOk_by (own := [("kind", 3)]) (by rfl)) (fun _ _ _ _ _ => (pg_name (i := 3) nd rfl (by first | exact .inl rfl | exact .inr rfl))) (fun _ _ _ _ _ => (pts_one (pt_cmpR op_gt (pe_dget (hu_of hr) (pv 0) (pv 3) (fun _ _ => rfl)) pe_int rfl))) (fun _ _ _ _ _ => (pv 3)))
     (pss_one (ps_ret (pe_ifExp (pt_cmpR (k_neA K (α := (List Str)) hr (by decide)) (pv 2) (pe_lst pa_nil) rfl) (pe_ix (k_ixL K) (pv 2) pe_int (fun _ _ => rfl)) pe_non))))), ?_⟩
  obtain ⟨v0, v1, rfl, h⟩ := h
  rw [show L2.start ["amounts", "deed", "there", "kind"] [v0, v1] = [some v0, some v1, none, none] from rfl]
  obtain ⟨ks, f, d, hx, hy, hd, q⟩ := h
  cases d with
  | put k =>
    obtain ⟨a, w1, w2, rfl, ha, h1, h2⟩ := hy.two
    cases h1
    simp only [tBM, SlX.tMethSl, tSeq, tIfS, tOr, tAnd, tNot, tB, tCB, tCons, tNil, tVar, tC, tTest, tChain, tRet, tRetN, tNext, tOp, tAndV, tOrV, tNotV, tIf, tThen, tYes, tTup, tLst, tCall, tAsg, tDrop, tDNewK, gName, gTup, gCons, gNil, rI0, rI, CMul, CDiv, tUn, rU, rEq, rNe, scal, LenV, RetB, RetD, List.set_cons_zero, List.set_cons_succ, List.getElem?_cons_zero, List.getElem?_cons_succ, Option.some.injEq, exists_eq_left', exists_eq_left, List.cons.injEq, and_true, true_and, V.int.injEq, V.str.injEq, V.bl.injEq, V.ref.injEq, if_true, if_false, Bool.not_true, Bool.not_false, reduceCtorEq, decide_true, decide_false, Bool.false_eq_true, exists_and_left, Bool.not_eq_true', decide_eq_true_eq, decide_eq_false_iff_not, rLenK, tLenSetT, List.append_nil, and_assoc, or_false, false_or, exists_false, false_and, and_false, rGetL, rSetL, gSub, tAugS, ipI, tPart, tNoPart, not_true, not_false_iff, ite_true, ite_false, List.map_cons, List.map_nil]
    refine ⟨a, [.str "put", w2], 0, _, rfl, rfl, .of ha, rfl, ?_⟩
    simp only [tBM, SlX.tMethSl, tSeq, tIfS, tOr, tAnd, tNot, tB, tCB, tCons, tNil, tVar, tC, tTest, tChain, tRet, tRetN, tNext, tOp, tAndV, tOrV, tNotV, tIf, tThen, tYes, tTup, tLst, tCall, tAsg, tDrop, tDNewK, gName, gTup, gCons, gNil, rI0, rI, CMul, CDiv, tUn, rU, rEq, rNe, scal, LenV, RetB, RetD, List.set_cons_zero, List.set_cons_succ, List.getElem?_cons_zero, List.getElem?_cons_succ, Option.some.injEq, exists_eq_left', exists_eq_left, List.cons.injEq, and_true, true_and, V.int.injEq, V.str.injEq, V.bl.injEq, V.ref.injEq, if_true, if_false, Bool.not_true, Bool.not_false, reduceCtorEq, decide_true, decide_false, Bool.false_eq_true, exists_and_left, Bool.not_eq_true', decide_eq_true_eq, decide_eq_false_iff_not, rLenK, tLenSetT, List.append_nil, and_assoc, or_false, false_or, exists_false, false_and, and_false, rGetL, rSetL, gSub, tAugS, ipI, tPart, tNoPart, not_true, not_false_iff, ite_true, ite_false, List.map_cons, List.map_nil]
    exact q H (.refl _)
  | call c =>
    obtain ⟨a, w1, w2, rfl, ha, h1, h2⟩ := hy.two
    cases h1
    obtain ⟨b, rfl, hb⟩ := h2.strs_at
    simp only [tBM, SlX.tMethSl, tSeq, tIfS, tOr, tAnd, tNot, tB, tCB, tCons, tNil, tVar, tC, tTest, tChain, tRet, tRetN, tNext, tOp, tAndV, tOrV, tNotV, tIf, tThen, tYes, tTup, tLst, tCall, tAsg, tDrop, tDNewK, gName, gTup, gCons, gNil, rI0, rI, CMul, CDiv, tUn, rU, rEq, rNe, scal, LenV, RetB, RetD, List.set_cons_zero, List.set_cons_succ, List.getElem?_cons_zero, List.getElem?_cons_succ, Option.some.injEq, exists_eq_left', exists_eq_left, List.cons.injEq, and_true, true_and, V.int.injEq, V.str.injEq, V.bl.injEq, V.ref.injEq, if_true, if_false, Bool.not_true, Bool.not_false, reduceCtorEq, decide_true, decide_false, Bool.false_eq_true, exists_and_left, Bool.not_eq_true', decide_eq_true_eq, decide_eq_false_iff_not, rLenK, tLenSetT, List.append_nil, and_assoc, or_false, false_or, exists_false, false_and, and_false, rGetL, rSetL, gSub, tAugS, ipI, tPart, tNoPart, not_true, not_false_iff, ite_true, ite_false, List.map_cons, List.map_nil]
    refine ⟨a, [.str "call", .ref b], 0, _, rfl, rfl, .of ha, rfl, ?_⟩
    simp only [tBM, SlX.tMethSl, tSeq, tIfS, tOr, tAnd, tNot, tB, tCB, tCons, tNil, tVar, tC, tTest, tChain, tRet, tRetN, tNext, tOp, tAndV, tOrV, tNotV, tIf, tThen, tYes, tTup, tLst, tCall, tAsg, tDrop, tDNewK, gName, gTup, gCons, gNil, rI0, rI, CMul, CDiv, tUn, rU, rEq, rNe, scal, LenV, RetB, RetD, List.set_cons_zero, List.set_cons_succ, List.getElem?_cons_zero, List.getElem?_cons_succ, Option.some.injEq, exists_eq_left', exists_eq_left, List.cons.injEq, and_true, true_and, V.int.injEq, V.str.injEq, V.bl.injEq, V.ref.injEq, if_true, if_false, Bool.not_true, Bool.not_false, reduceCtorEq, decide_true, decide_false, Bool.false_eq_true, exists_and_left, Bool.not_eq_true', decide_eq_true_eq, decide_eq_false_iff_not, rLenK, tLenSetT, List.append_nil, and_assoc, or_false, false_or, exists_false, false_and, and_false, rGetL, rSetL, gSub, tAugS, ipI, tPart, tNoPart, not_true, not_false_iff, ite_true, ite_false, List.map_cons, List.map_nil, ne_cp, ne_pc, ne_dp, ne_pd, ne_cd, ne_dc]
    refine ⟨_, rfl, a, [.str "call", .ref b], 1, _, rfl, rfl, .of ha, rfl, b, rfl, ⟨_, .of hb⟩, fun D hD => lc_rel walk_tup hD ?_ (RlF (fun k => if 0 < f k then some (.str k) else none) c) .zero (fun H sm => .of (sm _ _ hb)) ?_ ?_⟩
    · rw [List.length_map]
      exact Nat.lt_of_le_of_lt hd.1 (by decide)
    · rintro i ds x H2 H3 Qe Qs hi sm rl ⟨rfl, hx1⟩ ke ks'
      obtain ⟨z, hz, rfl⟩ := List.getElem?_map.symm.trans hx1 |> Option.map_eq_some_iff.mp
      obtain ⟨Dn, rfl, gn⟩ := (hx.same sm).get (hd.2 z (List.mem_of_getElem? hz))
      refine ⟨rfl, ?_⟩
      simp only [tBM, SlX.tMethSl, tSeq, tIfS, tOr, tAnd, tNot, tB, tCB, tCons, tNil, tVar, tC, tTest, tChain, tRet, tRetN, tNext, tOp, tAndV, tOrV, tNotV, tIf, tThen, tYes, tTup, tLst, tCall, tAsg, tDrop, tDNewK, gName, gTup, gCons, gNil, rI0, rI, CMul, CDiv, tUn, rU, rEq, rNe, scal, LenV, RetB, RetD, List.set_cons_zero, List.set_cons_succ, List.getElem?_cons_zero, List.getElem?_cons_succ, Option.some.injEq, exists_eq_left', exists_eq_left, List.cons.injEq, and_true, true_and, V.int.injEq, V.str.injEq, V.bl.injEq, V.ref.injEq, if_true, if_false, Bool.not_true, Bool.not_false, reduceCtorEq, decide_true, decide_false, Bool.false_eq_true, exists_and_left, Bool.not_eq_true', decide_eq_true_eq, decide_eq_false_iff_not, rLenK, tLenSetT, List.append_nil, and_assoc, or_false, false_or, exists_false, false_and, and_false, rGetL, rSetL, gSub, tAugS, ipI, tPart, tNoPart, not_true, not_false_iff, ite_true, ite_false, List.map_cons, List.map_nil, wipe]
      refine ⟨_, rfl, _, rfl, Dn, _, rfl, gn, ?_⟩
      simp only [tBM, SlX.tMethSl, tSeq, tIfS, tOr, tAnd, tNot, tB, tCB, tCons, tNil, tVar, tC, tTest, tChain, tRet, tRetN, tNext, tOp, tAndV, tOrV, tNotV, tIf, tThen, tYes, tTup, tLst, tCall, tAsg, tDrop, tDNewK, gName, gTup, gCons, gNil, rI0, rI, CMul, CDiv, tUn, rU, rEq, rNe, scal, LenV, RetB, RetD, List.set_cons_zero, List.set_cons_succ, List.getElem?_cons_zero, List.getElem?_cons_succ, Option.some.injEq, exists_eq_left', exists_eq_left, List.cons.injEq, and_true, true_and, V.int.injEq, V.str.injEq, V.bl.injEq, V.ref.injEq, if_true, if_false, Bool.not_true, Bool.not_false, reduceCtorEq, decide_true, decide_false, Bool.false_eq_true, exists_and_left, Bool.not_eq_true', decide_eq_true_eq, decide_eq_false_iff_not, rLenK, tLenSetT, List.append_nil, and_assoc, or_false, false_or, exists_false, false_and, and_false, rGetL, rSetL, gSub, tAugS, ipI, tPart, tNoPart, not_true, not_false_iff, ite_true, ite_false, List.map_cons, List.map_nil]
      by_cases hp : 0 < f z
      · rw [if_pos hp]
        exact ke _ _ _ (.refl _) (.str z) (rl.put hz (if_pos hp))
      · rw [if_neg hp]
        exact ks' _ (.refl _) (rl.skip hz (if_neg hp))
    · intro H2 acc ds s2 e r rl hl
      have hds := rl.all (by rw [List.length_map] <;> exact Nat.le_refl _)
      rw [filter_ite] at hds
      subst hds
      have hacc := TpAll.strs.mp r
      subst hacc
      simp only [tBM, SlX.tMethSl, tSeq, tIfS, tOr, tAnd, tNot, tB, tCB, tCons, tNil, tVar, tC, tTest, tChain, tRet, tRetN, tNext, tOp, tAndV, tOrV, tNotV, tIf, tThen, tYes, tTup, tLst, tCall, tAsg, tDrop, tDNewK, gName, gTup, gCons, gNil, rI0, rI, CMul, CDiv, tUn, rU, rEq, rNe, scal, LenV, RetB, RetD, List.set_cons_zero, List.set_cons_succ, List.getElem?_cons_zero, List.getElem?_cons_succ, Option.some.injEq, exists_eq_left', exists_eq_left, List.cons.injEq, and_true, true_and, V.int.injEq, V.str.injEq, V.bl.injEq, V.ref.injEq, if_true, if_false, Bool.not_true, Bool.not_false, reduceCtorEq, decide_true, decide_false, Bool.false_eq_true, exists_and_left, Bool.not_eq_true', decide_eq_true_eq, decide_eq_false_iff_not, rLenK, tLenSetT, List.append_nil, and_assoc, or_false, false_or, exists_false, false_and, and_false, rGetL, rSetL, gSub, tAugS, ipI, tPart, tNoPart, not_true, not_false_iff, ite_true, ite_false, List.map_cons, List.map_nil]
      have hq : takenK f (.call c) = (c.filter fun k => decide (0 < f k)).head? := (find_filter _ c).symm
      refine ⟨Nat.zero_le _, fun p hp => ⟨_, [], .lst (.of ((sm_new hp) _ _ e)) (TpAll.dp (TpAll.strs.mpr rfl)), .lst (.of upd_same) .nil, _, rfl, ?_⟩⟩
      have s3 := sm_then (o := .lst []) s2 hp
      have e3 := (sm_new (o := .lst []) hp) _ _ e
      generalize c.filter (fun k => decide (0 < f k)) = l at hq e3
      cases l with
      | nil =>
        rw [hq] at q
        exact q _ s3
      | cons z r =>
        rw [hq] at q
        exact ⟨D, _, 0, .str z, rfl, rfl, .of e3, atI_0 _ _, q _ s3⟩
def sp_do_deed (K : PySem.W.Frag) : Sp := fun vs H Q E => ∃ x y, vs = [x, y] ∧ ∃ D ks f d, x = .ref D ∧ H D = some (.dK (dF ks f)) ∧ ks.length ≤ 1000 ∧ Tp H y (dD d) ∧ deedIn ks d ∧ ∀ v H', SameBut D H H' → H' D = some (.dK (dF ks (doD f d))) → Q v H'
theorem sc_do_deed : FnScope ["amounts", "deed", "kind"] ["amounts", "deed"] (defScope s_do_deed) := ⟨rfl, rfl, rfl, by decide +kernel, rfl, by decide +kernel, by decide +kernel⟩
theorem c_do_deed (T : Txt K mg) : C8.Cal P w K mg base 2 "do_deed" (sp_do_deed K) [] := by
  refine T.cal 13 13 rfl rfl sc_do_deed
    (fun _ _ _ _ _ _ us h => match us, h with | [_, _], _ => rfl)
    (fun vs H Q E h => by obtain ⟨_, _, rfl, _⟩ := h; rfl) (fun f cdv A outer s H vs Q E hr h => ?_)
  have nd := sc_do_deed.nd
  refine ⟨_, (pss_cons (ps_if (pt_cmpR op_eq (pe_ix (k_ixT K) (pv 1) pe_int (fun _ _ => rfl)) pe_str rfl) (pss_cons (ps_daug (hu_of hr) (pv 0) (pe_ix (k_ixT K) (pv 1) pe_int (fun _ _ => rfl)) pe_int in_add (fun _ _ _ => rfl))
     (pss_one (ps_ret pe_non))) pss_nil)
     (pss_cons (ps_set (i := 2) nd rfl (.inl rfl) (pe_c (c_taken_kind T) hr (by decide) (by rfl) (pa_cons (pv 0) (pa_cons (pv 1) pa_nil))))
     (pss_cons (ps_if (pt_cmpR op_notN (pv 2) pe_non rfl) (pss_one (ps_daug (hu_of hr) (pv 0) (pv 2) pe_int in_sub (fun _ _ _ => rfl))) pss_nil)
     (pss_one (ps_ret (pv 2)))))), ?_⟩
  obtain ⟨v0, v1, rfl, h⟩ := h
  rw [show L2.start ["amounts", "deed", "kind"] [v0, v1] = [some v0, some v1, none] from rfl]
  obtain ⟨D, ks, f, d, rfl, hD, hk, hy, hd, q⟩ := h
  have hz : (dF ks f).length < sizeLine := by rw [dV_length]; exact Nat.lt_of_le_of_lt hk (by decide)
  cases d with
  | put k =>
    obtain ⟨a, w1, w2, rfl, ha, h1, h2⟩ := hy.two
    cases h1
    cases h2
    simp only [tBM, SlX.tMethSl, tSeq, tIfS, tOr, tAnd, tNot, tB, tCB, tCons, tNil, tVar, tC, tTest, tChain, tRet, tRetN, tNext, tOp, tAndV, tOrV, tNotV, tIf, tThen, tYes, tTup, tLst, tCall, tAsg, tDrop, tDNewK, gName, gTup, gCons, gNil, rI0, rI, CMul, CDiv, tUn, rU, rEq, rNe, scal, LenV, RetB, RetD, List.set_cons_zero, List.set_cons_succ, List.getElem?_cons_zero, List.getElem?_cons_succ, Option.some.injEq, exists_eq_left', exists_eq_left, List.cons.injEq, and_true, true_and, V.int.injEq, V.str.injEq, V.bl.injEq, V.ref.injEq, if_true, if_false, Bool.not_true, Bool.not_false, reduceCtorEq, decide_true, decide_false, Bool.false_eq_true, exists_and_left, Bool.not_eq_true', decide_eq_true_eq, decide_eq_false_iff_not, rLenK, tLenSetT, List.append_nil, and_assoc, or_false, false_or, exists_false, false_and, and_false, rGetL, rSetL, gSub, tAugS, ipI, tPart, tNoPart, not_true, not_false_iff, ite_true, ite_false, List.map_cons, List.map_nil, sp_taken_kind]
    refine ⟨a, [.str "put", .str k], 0, _, rfl, rfl, .of ha, rfl, ?_⟩
    simp only [tBM, SlX.tMethSl, tSeq, tIfS, tOr, tAnd, tNot, tB, tCB, tCons, tNil, tVar, tC, tTest, tChain, tRet, tRetN, tNext, tOp, tAndV, tOrV, tNotV, tIf, tThen, tYes, tTup, tLst, tCall, tAsg, tDrop, tDNewK, gName, gTup, gCons, gNil, rI0, rI, CMul, CDiv, tUn, rU, rEq, rNe, scal, LenV, RetB, RetD, List.set_cons_zero, List.set_cons_succ, List.getElem?_cons_zero, List.getElem?_cons_succ, Option.some.injEq, exists_eq_left', exists_eq_left, List.cons.injEq, and_true, true_and, V.int.injEq, V.str.injEq, V.bl.injEq, V.ref.injEq, if_true, if_false, Bool.not_true, Bool.not_false, reduceCtorEq, decide_true, decide_false, Bool.false_eq_true, exists_and_left, Bool.not_eq_true', decide_eq_true_eq, decide_eq_false_iff_not, rLenK, tLenSetT, List.append_nil, and_assoc, or_false, false_or, exists_false, false_and, and_false, rGetL, rSetL, gSub, tAugS, ipI, tPart, tNoPart, not_true, not_false_iff, ite_true, ite_false, List.map_cons, List.map_nil, sp_taken_kind]
    refine ⟨_, rfl, ⟨_, rfl, a, [.str "put", .str k], 1, _, rfl, rfl, .of ha, rfl, D, _, rfl, .inl ⟨_, .inr k, .inl hD, rfl, (dV_val hd).symm⟩, ?_⟩⟩
    refine ⟨_, _, rfl, rfl, ?_⟩
    refine ⟨_, DPut.k (k := .inr k) hD hz, q _ _ (SameBut.of (.refl _)).upd ?_⟩
    rw [upd_same, dF_set hd]
    rfl
  | call c =>
    obtain ⟨a, w1, w2, rfl, ha, h1, h2⟩ := hy.two
    cases h1
    simp only [tBM, SlX.tMethSl, tSeq, tIfS, tOr, tAnd, tNot, tB, tCB, tCons, tNil, tVar, tC, tTest, tChain, tRet, tRetN, tNext, tOp, tAndV, tOrV, tNotV, tIf, tThen, tYes, tTup, tLst, tCall, tAsg, tDrop, tDNewK, gName, gTup, gCons, gNil, rI0, rI, CMul, CDiv, tUn, rU, rEq, rNe, scal, LenV, RetB, RetD, List.set_cons_zero, List.set_cons_succ, List.getElem?_cons_zero, List.getElem?_cons_succ, Option.some.injEq, exists_eq_left', exists_eq_left, List.cons.injEq, and_true, true_and, V.int.injEq, V.str.injEq, V.bl.injEq, V.ref.injEq, if_true, if_false, Bool.not_true, Bool.not_false, reduceCtorEq, decide_true, decide_false, Bool.false_eq_true, exists_and_left, Bool.not_eq_true', decide_eq_true_eq, decide_eq_false_iff_not, rLenK, tLenSetT, List.append_nil, and_assoc, or_false, false_or, exists_false, false_and, and_false, rGetL, rSetL, gSub, tAugS, ipI, tPart, tNoPart, not_true, not_false_iff, ite_true, ite_false, List.map_cons, List.map_nil, sp_taken_kind]
    refine ⟨a, [.str "call", w2], 0, _, rfl, rfl, .of ha, rfl, ?_⟩
    simp only [tBM, SlX.tMethSl, tSeq, tIfS, tOr, tAnd, tNot, tB, tCB, tCons, tNil, tVar, tC, tTest, tChain, tRet, tRetN, tNext, tOp, tAndV, tOrV, tNotV, tIf, tThen, tYes, tTup, tLst, tCall, tAsg, tDrop, tDNewK, gName, gTup, gCons, gNil, rI0, rI, CMul, CDiv, tUn, rU, rEq, rNe, scal, LenV, RetB, RetD, List.set_cons_zero, List.set_cons_succ, List.getElem?_cons_zero, List.getElem?_cons_succ, Option.some.injEq, exists_eq_left', exists_eq_left, List.cons.injEq, and_true, true_and, V.int.injEq, V.str.injEq, V.bl.injEq, V.ref.injEq, if_true, if_false, Bool.not_true, Bool.not_false, reduceCtorEq, decide_true, decide_false, Bool.false_eq_true, exists_and_left, Bool.not_eq_true', decide_eq_true_eq, decide_eq_false_iff_not, rLenK, tLenSetT, List.append_nil, and_assoc, or_false, false_or, exists_false, false_and, and_false, rGetL, rSetL, gSub, tAugS, ipI, tPart, tNoPart, not_true, not_false_iff, ite_true, ite_false, List.map_cons, List.map_nil, sp_taken_kind, ne_cp, ne_pc, ne_dp, ne_pd, ne_cd, ne_dc]
    refine ⟨ks, f, .of (.inl hD), .call c, hy, hd, fun H1 s1 => ?_⟩
    cases hq : takenK f (.call c) with
    | none =>
      simp only [optV, tBM, SlX.tMethSl, tSeq, tIfS, tOr, tAnd, tNot, tB, tCB, tCons, tNil, tVar, tC, tTest, tChain, tRet, tRetN, tNext, tOp, tAndV, tOrV, tNotV, tIf, tThen, tYes, tTup, tLst, tCall, tAsg, tDrop, tDNewK, gName, gTup, gCons, gNil, rI0, rI, CMul, CDiv, tUn, rU, rEq, rNe, scal, LenV, RetB, RetD, List.set_cons_zero, List.set_cons_succ, List.getElem?_cons_zero, List.getElem?_cons_succ, Option.some.injEq, exists_eq_left', exists_eq_left, List.cons.injEq, and_true, true_and, V.int.injEq, V.str.injEq, V.bl.injEq, V.ref.injEq, if_true, if_false, Bool.not_true, Bool.not_false, reduceCtorEq, decide_true, decide_false, Bool.false_eq_true, exists_and_left, Bool.not_eq_true', decide_eq_true_eq, decide_eq_false_iff_not, rLenK, tLenSetT, List.append_nil, and_assoc, or_false, false_or, exists_false, false_and, and_false, rGetL, rSetL, gSub, tAugS, ipI, tPart, tNoPart, not_true, not_false_iff, ite_true, ite_false, List.map_cons, List.map_nil, sp_taken_kind]
      refine q _ _ (.of s1) ?_
      rw [s1 _ _ hD]
      simp only [doD, hq]
    | some k =>
      have hk : k ∈ ks := hd.2 k (List.mem_of_find?_eq_some hq)
      simp only [optV, tBM, SlX.tMethSl, tSeq, tIfS, tOr, tAnd, tNot, tB, tCB, tCons, tNil, tVar, tC, tTest, tChain, tRet, tRetN, tNext, tOp, tAndV, tOrV, tNotV, tIf, tThen, tYes, tTup, tLst, tCall, tAsg, tDrop, tDNewK, gName, gTup, gCons, gNil, rI0, rI, CMul, CDiv, tUn, rU, rEq, rNe, scal, LenV, RetB, RetD, List.set_cons_zero, List.set_cons_succ, List.getElem?_cons_zero, List.getElem?_cons_succ, Option.some.injEq, exists_eq_left', exists_eq_left, List.cons.injEq, and_true, true_and, V.int.injEq, V.str.injEq, V.bl.injEq, V.ref.injEq, if_true, if_false, Bool.not_true, Bool.not_false, reduceCtorEq, decide_true, decide_false, Bool.false_eq_true, exists_and_left, Bool.not_eq_true', decide_eq_true_eq, decide_eq_false_iff_not, rLenK, tLenSetT, List.append_nil, and_assoc, or_false, false_or, exists_false, false_and, and_false, rGetL, rSetL, gSub, tAugS, ipI, tPart, tNoPart, not_true, not_false_iff, ite_true, ite_false, List.map_cons, List.map_nil, sp_taken_kind]
      have e1 := s1 _ _ hD
      refine ⟨_, rfl, _, rfl, D, _, rfl, .inl ⟨_, .inr k, .inl e1, rfl, (dV_val hk).symm⟩, ?_⟩
      refine ⟨_, _, rfl, rfl, _, DPut.k (k := .inr k) e1 hz, ?_⟩
      refine ⟨_, rfl, q _ _ (SameBut.of s1).upd ?_⟩
      rw [upd_same, dF_set hk]
      simp only [doD, hq]
abbrev sortK (ks : List Str) : List Str := sortG .str ks
theorem al_strs (ks : List Str) : AllAlike (ks.map .str) := AllAlike.of fun a b => by rw [alike]
theorem so_strs (ks : List Str) : Sortable (ks.map .str) := Sortable.others fun b => ⟨fun e => (by cases e), fun xs e => (by cases e)⟩
theorem dp_strs {ks : List Str} : ∀ d ∈ ks.map PyData.str, d.depth ≤ 40 := fun d hd => by
  obtain ⟨c, hc, rfl⟩ := List.mem_map.mp hd
  rw [PyData.depth]
  exact Nat.zero_le _
def actK (f : Str → Int) (ds : List Deed) : Str → Int := ds.foldl doD f
def sp_acted (K : PySem.W.Frag) : Sp := fun vs H Q E => ∃ x y z, vs = [x, y, z] ∧ ∃ ks cs f ds, Tp H x (dH ks cs) ∧ Tp H y (.tuple (ds.map dD)) ∧ IDict H z ks f ∧ ks.Nodup ∧ ks.length ≤ 1000 ∧ ds.length ≤ 1000 ∧ (∀ d ∈ ds, deedIn ks d) ∧
  ∀ D o H', Same H H' → H' D = some (.frz o (.dK (dF (sortK ks) (actK f ds)))) → Q (.ref D) H'
theorem sc_acted : FnScope ["house", "stretch", "amounts", "found", "deed", "kind"] ["house", "stretch", "amounts"] (defScope s_acted) := ⟨rfl, rfl, rfl, by decide +kernel, rfl, by decide +kernel, by decide +kernel⟩
theorem c_acted (T : Txt K mg) : C8.Cal P w K mg base 3 "acted" (sp_acted K) [] := by
  refine T.cal 14 14 rfl rfl sc_acted
    (fun _ _ _ _ _ _ us h => match us, h with | [_, _, _], _ => rfl)
    (fun vs H Q E h => by obtain ⟨_, _, _, rfl, _⟩ := h; rfl) (fun f cdv A outer s H vs Q E hr h => ?_)
  have nd := sc_acted.nd
  refine ⟨_, (pss_cons (ps_setDc (i := 3) rfl nd rfl rfl rfl (k_piL K (pi_list (pe_callB (k_sortedD K hr) (by rfl) (T.free 58) rfl (pa_cons (pe_ix (k_ixT K) (pv 0) pe_int (fun _ _ => rfl)) pa_nil)))) (blkOk_by (own := [("kind", 5)]) (by rfl)) (fun _ _ _ _ _ => (pg_name (i := 5) nd rfl (by first | exact .inl rfl | exact .inr rfl))) (fun _ _ _ _ _ => pts_nil) (fun _ _ _ _ _ => (pv 5)) (fun _ _ _ _ _ => (pe_dget (hu_of hr) (pv 2) (pv 5) (fun _ _ => rfl))))
     (pss_cons (ps_for PassesOwn.never rfl (k_piT K (pi_tup (pv 1))) (pg_name (i := 4) nd rfl (by first | exact .inl rfl | exact .inr rfl))
      (pss_one (ps_expr (pe_c (c_do_deed T) hr (by decide) (by rfl) (pa_cons (pv 3) (pa_cons (pv 4) pa_nil))))))
     (pss_one (ps_ret (pe_frz (pv 3)))))), ?_⟩
  obtain ⟨v0, v1, v2, rfl, h⟩ := h
  rw [show L2.start ["house", "stretch", "amounts", "found", "deed", "kind"] [v0, v1, v2] = [some v0, some v1, some v2, none, none, none] from rfl]
  obtain ⟨ks, cs, f, ds, hx, hy, hz, nk, hk, hl, hd, q⟩ := h
  obtain ⟨a, w1, w2, rfl, ha, h1, h2⟩ := hx.two
  obtain ⟨b1, rfl, hb1⟩ := h1.strs_at
  obtain ⟨b, ys, rfl, hb, hys⟩ := hy.tup_at
  have pk : (sortK ks).Perm ks := sortG_perm _ _
  simp only [tBM, SlX.tMethSl, tSeq, tIfS, tOr, tAnd, tNot, tB, tCB, tCons, tNil, tVar, tC, tTest, tChain, tRet, tRetN, tNext, tOp, tAndV, tOrV, tNotV, tIf, tThen, tYes, tTup, tLst, tCall, tAsg, tDrop, tDNewK, gName, gTup, gCons, gNil, rI0, rI, CMul, CDiv, tUn, rU, rEq, rNe, scal, LenV, RetB, RetD, List.set_cons_zero, List.set_cons_succ, List.getElem?_cons_zero, List.getElem?_cons_succ, Option.some.injEq, exists_eq_left', exists_eq_left, List.cons.injEq, and_true, true_and, V.int.injEq, V.str.injEq, V.bl.injEq, V.ref.injEq, if_true, if_false, Bool.not_true, Bool.not_false, reduceCtorEq, decide_true, decide_false, Bool.false_eq_true, exists_and_left, Bool.not_eq_true', decide_eq_true_eq, decide_eq_false_iff_not, rLenK, tLenSetT, List.append_nil, and_assoc, or_false, false_or, exists_false, false_and, and_false, rGetL, rSetL, gSub, tAugS, ipI, tPart, tNoPart, not_true, not_false_iff, ite_true, ite_false, List.map_cons, List.map_nil, sp_do_deed]
  refine ⟨_, rfl, a, [.ref b1, w2], 0, _, rfl, rfl, .of ha, rfl, ?_⟩
  simp only [tNil]
  refine sorted_of (.inr (.of hb1)) (TpAll.strs.mpr rfl) (al_strs _) (so_strs _) dp_strs fun p zs H1 hp s1 e1 r1 => ?_
  rw [sortD_G] at r1
  have hzs := TpAll.strs.mp r1
  subst hzs
  refine ⟨p, rfl, ⟨_, .of e1⟩, fun D hD => dc_fn walk_list hD (sortK ks) (fun k => .int (f k)) (List.length_map ..) ?_ (pk.nodup_iff.mpr nk) (fun H sm => .of (sm _ _ e1)) ?_ ?_⟩
  · rw [List.length_map, pk.length_eq]
    exact Nat.lt_of_le_of_lt hk (by decide)
  · rintro i k x H2 H3 Qe hi sm ⟨rfl, hx1⟩ ke
    rw [List.getElem?_map, hi] at hx1
    cases hx1
    obtain ⟨Dn, rfl, gn⟩ := ((hz.same s1).same sm).get (pk.mem_iff.mp (List.mem_of_getElem? hi))
    refine ⟨rfl, ?_⟩
    simp only [tBM, SlX.tMethSl, tSeq, tIfS, tOr, tAnd, tNot, tB, tCB, tCons, tNil, tVar, tC, tTest, tChain, tRet, tRetN, tNext, tOp, tAndV, tOrV, tNotV, tIf, tThen, tYes, tTup, tLst, tCall, tAsg, tDrop, tDNewK, gName, gTup, gCons, gNil, rI0, rI, CMul, CDiv, tUn, rU, rEq, rNe, scal, LenV, RetB, RetD, List.set_cons_zero, List.set_cons_succ, List.getElem?_cons_zero, List.getElem?_cons_succ, Option.some.injEq, exists_eq_left', exists_eq_left, List.cons.injEq, and_true, true_and, V.int.injEq, V.str.injEq, V.bl.injEq, V.ref.injEq, if_true, if_false, Bool.not_true, Bool.not_false, reduceCtorEq, decide_true, decide_false, Bool.false_eq_true, exists_and_left, Bool.not_eq_true', decide_eq_true_eq, decide_eq_false_iff_not, rLenK, tLenSetT, List.append_nil, and_assoc, or_false, false_or, exists_false, false_and, and_false, rGetL, rSetL, gSub, tAugS, ipI, tPart, tNoPart, not_true, not_false_iff, ite_true, ite_false, List.map_cons, List.map_nil, sp_do_deed, wipe]
    exact ⟨_, rfl, _, rfl, Dn, _, rfl, gn, ke _ (.refl _)⟩
  · intro H2 s2 e2
    have s12 := s1.trans s2
    have hb2 := s12 _ _ hb
    have hD0 : H D = none := s1.free hD
    have nb : b ≠ D := ne_of hb2 e2 (fun q => by cases q)
    refine ⟨_, rfl, b, rfl, ⟨_, .of hb2⟩, for_it (walk_tup (xs := ys)) (fun i σ H3 => ∃ y, σ = [some (.ref a), some (.ref b), some v2, some (.ref D), y, none] ∧ SameBut D H2 H3 ∧ H3 D = some (.dK (dF (sortK ks) (actK f (ds.take i))))) ?_ ?_ ?_ ?_⟩
    · exact ⟨none, rfl, .of (.refl _), e2⟩
    · rintro i σ H3 _ ⟨y, rfl, sb, e⟩
      exact .of (sb b _ nb hb2)
    · rintro i x σ H3 H4 hi ⟨y, rfl, sb, e⟩ ⟨rfl, hx1⟩
      obtain ⟨d, hdi, td⟩ := hys.nth hx1
      simp only [tBM, SlX.tMethSl, tSeq, tIfS, tOr, tAnd, tNot, tB, tCB, tCons, tNil, tVar, tC, tTest, tChain, tRet, tRetN, tNext, tOp, tAndV, tOrV, tNotV, tIf, tThen, tYes, tTup, tLst, tCall, tAsg, tDrop, tDNewK, gName, gTup, gCons, gNil, rI0, rI, CMul, CDiv, tUn, rU, rEq, rNe, scal, LenV, RetB, RetD, List.set_cons_zero, List.set_cons_succ, List.getElem?_cons_zero, List.getElem?_cons_succ, Option.some.injEq, exists_eq_left', exists_eq_left, List.cons.injEq, and_true, true_and, V.int.injEq, V.str.injEq, V.bl.injEq, V.ref.injEq, if_true, if_false, Bool.not_true, Bool.not_false, reduceCtorEq, decide_true, decide_false, Bool.false_eq_true, exists_and_left, Bool.not_eq_true', decide_eq_true_eq, decide_eq_false_iff_not, rLenK, tLenSetT, List.append_nil, and_assoc, or_false, false_or, exists_false, false_and, and_false, rGetL, rSetL, gSub, tAugS, ipI, tPart, tNoPart, not_true, not_false_iff, ite_true, ite_false, List.map_cons, List.map_nil, sp_do_deed]
      have gd := hd d (List.mem_of_getElem? hdi)
      have hdk : deedIn (sortK ks) d := by
        cases d with
        | put k => exact pk.mem_iff.mpr gd
        | call c => exact ⟨gd.1, fun k hk => pk.mem_iff.mpr (gd.2 k hk)⟩
      refine ⟨_, _, e, by rw [pk.length_eq]; exact hk, d, (td.same s12).keep (sb.tk e2 (fun _ q => by cases q)), hdk, fun v H5 sb5 e5 => ⟨sb.trans sb5, ?_⟩⟩
      rw [e5, List.take_add_one, hdi]
      simp only [actK, Option.toList_some, List.foldl_append, List.foldl_cons, List.foldl_nil]
    · rintro σ H3 ⟨y, rfl, sb, e⟩
      rw [List.take_of_length_le (by rw [hys.len] <;> exact Nat.le_refl _)] at e
      exact ⟨_, rfl, D, _, rfl, e, trivial, fun od => q _ od _ (sm_upd (sb.same s12 hD0) hD0) upd_same⟩
end
end C9
/-! ## D1 -/
set_option maxHeartbeats 4000000
namespace C9
open PySem PySem.Spec PyProof.Rows L2
open PySem.W (EachIs SortsAt alike alikeAll dataLt dataKind sortVals keyToks keyToksAll KatLex KatTups)
/-! ### sorted of deeds: a put and a call differ at once -/
/-- items compare where they must -/
def nearAll : List PyData → List PyData → Prop
  | x :: xs, y :: ys => alike x y = true ∧ (PyData.eqv x y = true → nearAll xs ys)
  | _, _ => True
section
variable {prog : Program} {w : World} {A : Around} {s : Shared}
theorem lex_near {b fin : Bool} {Q : Bool → Shared → Prop} : ∀ (xs ys : List PyData) (i : Nat) (vs ws : List Value) (as bs : List Addr), ReadsAll s.heap vs xs as → ReadsAll s.heap ws ys bs → nearAll xs ys →
    A.units + min (PyData.depthAll xs) (PyData.depthAll ys) < cLine → (b = true → i = 0 → ∀ x r t, xs = x :: r → x ≠ .tuple t) → fin = decide (xs.length < ys.length) → Q (PyProof.Rows.lexLt itemOrd (keyToksAll xs) (keyToksAll ys)) s → KatLex prog w A b fin Q (vs.zip ws) i s
  | [], ys, i, vs, ws, as, bs, ra, rb, _, hu, hb, hf, hq => PySem.W.katLex_alike [] ys i vs ws as bs ra rb (by cases ys <;> simp [alikeAll]) hu hb hf hq
  | x :: xs, [], i, vs, ws, as, bs, ra, rb, _, hu, hb, hf, hq => PySem.W.katLex_alike (x :: xs) [] i vs ws as bs ra rb (by simp [alikeAll]) hu hb hf hq
  | x :: xs, y :: ys, i, _, _, _, _, ra, rb, ⟨h1, h2⟩, hu, hb, hf, hq => by
    have hf' : fin = decide (xs.length < ys.length) := by
      rw [hf]
      simp only [List.length_cons, Nat.add_lt_add_iff_right]
    cases ra with
    | cons r rs =>
      cases rb with
      | cons r' rs' =>
        rw [List.zip_cons_cons]
        refine PySem.W.kat_cons (PySem.W.eqAt_alike x y A s _ _ _ _ r r' h1 (SeqAt.room_head hu) prog w _ _ ?_)
        cases hx : PyData.eqv x y with
        | true =>
          rw [PySem.W.dataLt_all_yes h1 hx] at hq
          exact PySem.W.kat_yes (lex_near xs ys (i + 1) _ _ _ _ rs rs' (h2 hx) (SeqAt.room_tail hu) (fun _ hi => absurd hi (Nat.succ_ne_zero i)) hf' hq)
        | false =>
          rw [PySem.W.dataLt_all_no h1 hx] at hq
          refine PySem.W.kat_no (PySem.W.oneLt_alike (fun hbi t => ?_) r r' h1 (PySem.W.ne_none_of h1 hx) (SeqAt.room_head hu) hq)
          rw [Bool.and_eq_true] at hbi
          exact hb hbi.1 (by simpa using hbi.2) x xs t rfl
def itD : Deed → List PyData
  | .put k => [.str "put", .str k]
  | .call c => [.str "call", dS c]
theorem dD_is (d : Deed) : dD d = .tuple (itD d) := by cases d <;> rfl
theorem put_call : PyData.eqv (.str "put") (.str "call") = false := by decide +kernel
theorem call_put : PyData.eqv (.str "call") (.str "put") = false := by decide +kernel
theorem near_deeds (a b : Deed) : nearAll (itD a) (itD b) := by
  cases a <;> cases b
  · exact ⟨by simp [alike], fun _ => ⟨by simp [alike], fun _ => trivial⟩⟩
  · exact ⟨by simp [alike], fun h => by rw [put_call] at h; cases h⟩
  · exact ⟨by simp [alike], fun h => by rw [call_put] at h; cases h⟩
  · exact ⟨by simp [alike], fun _ => ⟨alike_dS _ _, fun _ => trivial⟩⟩
theorem deed_depth (d : Deed) : (dD d).depth ≤ 2 := by
  cases d with
  | put k => simp [dD, PyData.depth, PyData.depthAll]
  | call c => simp [dD, PyData.depth, PyData.depthAll, depth_strs]
theorem head_one {h : Heap} {vs : List Value} {x y : PyData} {xs ys : List PyData} {as bs : List Addr} (ra : ReadsAll h vs (x :: xs) as) (rb : ReadsAll h vs (y :: ys) bs) (e : alike x y = true) : x = y := by
  cases ra with
  | cons r t => cases rb with
    | cons r' t' => exact PySem.W.alike_unique _ _ _ _ _ e r r'
theorem reads_deed {h : Heap} {v : Value} {a b : Deed} {as bs : List Addr} (ra : Reads h v (dD a) as) (rb : Reads h v (dD b) bs) : a = b := by
  rw [dD_is] at ra rb
  cases ra with
  | tuple h1 h2 h3 h4 =>
    cases rb with
    | tuple k1 k2 k3 k4 =>
      rw [h1] at k1; cases k1
      rw [h3] at k3; cases k3
      cases a with
      | put k => cases b with
        | put j =>
          have := PySem.W.alikeAll_unique _ _ _ _ _ (by simp [itD, alikeAll, alike]) h4 k4
          simp only [itD, List.cons.injEq, PyData.str.injEq, true_and, and_true] at this
          rw [this]
        | call c =>
          have := head_one h4 k4 (by simp [alike])
          exact absurd (PyData.str.inj this) (by decide)
      | call c => cases b with
        | put j =>
          have := head_one h4 k4 (by simp [alike])
          exact absurd (PyData.str.inj this) (by decide)
        | call d =>
          have := PySem.W.alikeAll_unique _ _ _ _ _ (by simp [itD, alikeAll, alike, alike_strs]) h4 k4
          simp only [itD, List.cons.injEq, true_and, and_true, PyData.tuple.injEq] at this
          have e2 : ∀ a b : List Str, a.map PyData.str = b.map PyData.str → a = b := fun a => by
            induction a with
            | nil => intro b h; cases b with
              | nil => rfl
              | cons _ _ => cases h
            | cons x a ih => intro b h; cases b with
              | nil => cases h
              | cons y b =>
                rw [List.map_cons, List.map_cons] at h
                injection h with h1 h2
                rw [PyData.str.inj h1, ih b h2]
          rw [e2 _ _ this]
theorem kind_deed {h : Heap} {ds : List Deed} {v : Value} {d : Deed} {as : List Addr} (hd : d ∈ ds) (r : Reads h v (dD d) as) : (dataKind h (ds.map dD)).keyOf v = some (keyToks (dD d)) := by
  have q : ∃ e, e ∈ ds.map dD ∧ ∃ as, Reads h v e as := ⟨dD d, List.mem_map.mpr ⟨d, hd, rfl⟩, as, r⟩
  have e : (dataKind h (ds.map dD)).keyOf v = some (keyToks q.choose) := by
    show (open Classical in if q : ∃ d, d ∈ ds.map dD ∧ ∃ as, Reads h v d as then some (keyToks q.choose) else none) = _
    rw [dif_pos q]
  obtain ⟨h1, as', h2⟩ := q.choose_spec
  obtain ⟨d', _, e'⟩ := List.mem_map.mp h1
  rw [e]
  rw [← e'] at h2 ⊢
  rw [reads_deed h2 r]
theorem sorts_deeds {vs : List Value} {ds : List Deed} (e : EachIs (fun v d => ∃ as, Reads s.heap v d as) vs (ds.map dD)) (hu : A.units + 2 < cLine) : SortsAt prog w A s (dataKind s.heap (ds.map dD)) vs := by
  refine ⟨fun v hv => ?_, ?_⟩
  · obtain ⟨d, hd, as, r⟩ := e.left v hv
    obtain ⟨d', hd', rfl⟩ := List.mem_map.mp hd
    exact ⟨_, kind_deed hd' r⟩
  · refine ⟨tuples' (Value.type "str" != Value.type "tuple"), ?_, fun h2 E Q hq => ?_⟩
    · intro E x y a b Q ha hb hq
      obtain ⟨d, as, hd, ra, rfl⟩ := PySem.W.dataKind_inv ha
      obtain ⟨d', as', hd', rb, rfl⟩ := PySem.W.dataKind_inv hb
      obtain ⟨f, _, rfl⟩ := List.mem_map.mp hd
      obtain ⟨f', _, rfl⟩ := List.mem_map.mp hd'
      have dp := deed_depth f
      have hq' : Q (dataLt (dD f) (dD f')) s := hq
      rw [dD_is, dD_is, PySem.W.dataLt_tuple] at hq'
      rw [dD_is] at ra rb dp
      have hdep : PyData.depthAll (itD f) ≤ 1 := by
        rw [PyData.depth] at dp
        omega
      cases ra with
      | @tuple l o xs n _ _ h1 h2 h3 h4 =>
        cases rb with
        | @tuple l' o' xs' n' _ _ k1 k2 k3 k4 =>
          have n1 : xs.size = (itD f).length := by simpa using SeqAt.ReadsAll.length _ _ _ h4
          have n2 : xs'.size = (itD f').length := by simpa using SeqAt.ReadsAll.length _ _ _ k4
          refine PySem.W.kat_lt h1 h3 k1 k3 (lex_near (itD f) (itD f') 0 _ _ _ _ h4 k4 (near_deeds f f') ?_ (fun _ _ x r t ex => ?_) (by rw [n1, n2]) hq')
          · have := Nat.min_le_left (PyData.depthAll (itD f)) (PyData.depthAll (itD f'))
            omega
          · rintro rfl
            cases f <;> cases ex
    · obtain ⟨fs, t1, t2, t3⟩ := PySem.W.each_katTups e (fun d hd => by
        obtain ⟨f, _, rfl⟩ := List.mem_map.mp hd
        cases f <;> exact ⟨_, _, rfl⟩)
      refine PySem.W.kat_kind (T := Value.type "str") t1 (by omega) (fun f hf => ?_) (beq_self_eq_true _) hq
      obtain ⟨x, r, as, m1, m2⟩ := t3 f hf
      obtain ⟨d, _, ed⟩ := List.mem_map.mp m1
      rw [dD_is] at ed
      have : ∃ z, x = .str z := by
        cases d <;> injection ed with e1 <;> injection e1 with e2 e3 <;> exact ⟨_, e2.symm⟩
      obtain ⟨z, rfl⟩ := this
      exact PySem.W.looks_reads m2
end
section
variable {X : Cx} {pins : List (Addr × Obj)} {σ : L2.St} {H : Hp} {s : Shared}
theorem each_tp (I : Inv X pins σ H s) : ∀ {xs : List V} {ds : List Deed} {us : List Value}, Vals xs us → TpAll H xs (ds.map dD) → EachIs (fun (u : Value) (b : V × Deed) => RelV b.1 u ∧ Tp H b.1 (dD b.2) ∧ ∃ as, Reads s.heap u (dD b.2) as) us (xs.zip ds)
  | [], [], _, .nil, _ => .nil
  | [], _ :: _, _, _, h => nomatch h
  | _ :: _, [], _, _, h => nomatch h
  | x :: xs, d :: ds, _, .cons r t, .cons h k => .cons ⟨r, h, Dp.reads I _ _ _ h.dp r⟩ (each_tp I t k)
theorem each_snd {R : Value → V × Deed → Prop} : ∀ {us : List Value} {bs : List (V × Deed)}, EachIs R us bs → EachIs (fun u (d : Deed) => ∃ v, R u (v, d)) us (bs.map (·.2))
  | _, _, .nil => .nil
  | _, _, .cons h t => .cons ⟨_, h⟩ (each_snd t)
theorem zip_deeds : ∀ {xs : List V} {ds : List Deed}, xs.length = ds.length → (xs.zip ds).map (·.2) = ds ∧ (xs.zip ds).map (·.1) = xs
  | [], [], _ => ⟨rfl, rfl⟩
  | [], _ :: _, h => nomatch h
  | _ :: _, [], h => nomatch h
  | x :: xs, d :: ds, h => by
    rw [List.zip_cons_cons, List.map_cons, List.map_cons, (zip_deeds (Nat.succ.inj h)).1, (zip_deeds (Nat.succ.inj h)).2]
    exact ⟨rfl, rfl⟩
theorem each_all {R : Value → V × Deed → Prop} {q : V × Deed → Prop} (hq : ∀ u b, R u b → q b) : ∀ {us : List Value} {bs : List (V × Deed)}, EachIs R us bs → ∀ b ∈ bs, q b
  | _, _, .nil, _, m => nomatch m
  | _, _, .cons h t, b, m => by
    rcases List.mem_cons.mp m with rfl | m
    · exact hq _ _ h
    · exact each_all hq t b m
theorem vals_of_R {R : Value → V × Deed → Prop} (hR : ∀ u b, R u b → RelV b.1 u) : ∀ {us : List Value} {bs : List (V × Deed)}, EachIs R us bs → Vals (bs.map (·.1)) us
  | _, _, .nil => .nil
  | _, _, .cons h t => .cons (hR _ _ h) (vals_of_R hR t)
theorem tp_pairs {H : Hp} : ∀ {l : List (V × Deed)}, (∀ p ∈ l, Tp H p.1 (dD p.2)) → TpAll H (l.map (·.1)) ((l.map (·.2)).map dD)
  | [], _ => .nil
  | p :: l, h => .cons (h p List.mem_cons_self) (tp_pairs fun q m => h q (List.mem_cons_of_mem _ m))
def rSortedW (K : PySem.W.Frag) : List V → Hp → VK → Prop := fun vs H Q => ∃ (a : Addr) (xs : List V) (ds : List Deed), vs = [V.ref a] ∧ SqL K H a xs ∧ TpAll H xs (ds.map dD) ∧
  ∀ p zs (es : List Deed), H p = none → TpAll H zs (es.map dD) → es.Perm ds → Q (.ref p) (upd H p (.lst zs))
theorem cr_sortedW {k : Nat} (hr : Room k X.A) : CallR X (.builtin "sorted") (rSortedW X.K) := by
  intro pins s σ H vs us Q I r h
  obtain ⟨a, xs, ds, rfl, hs, hd, q⟩ := h
  rw [Vals.ref1 r]
  have hu := hr.units
  have hlen := hd.len
  obtain ⟨its, rv, ⟨o, n, ho, hc, _, hdt⟩, hz⟩ := I.list hs
  have hL : its.length ≤ sizeLine := by rw [← rv.length]; exact hz
  refine Calls.call_function_entry kind_sorted plain_sorted entry_sorted (args_sorted1 _) ?_
  unfold Builtin.«sorted»
  refine wpAny_bind (m := checkCount "sorted" 1 1 _) (wpAny_pure ?_)
  show wpAny _ _ (collect (.ref a) >>= fun r => _) _ _ s
  refine wpAny_bind (wpAny_collect_seq a (.inl rfl) ho hc hdt (fun h1 hk1 => ?_) (by rw [List.size_toArray]; exact hL))
  have e1 : its.toArray.toList = its := by simp
  rw [e1]
  have e0 := each_tp I rv hd
  have k6 : ∀ b o, s.heap.get? b = some o → (PySem.W.sortingHeap (h1.push (seqObj "list" its.toArray 0)) h1.objs.size its).get? b = some o := fun b o e => by
    have q1 := hk1 b o e
    exact PySem.W.sortingHeap_old (Nat.ne_of_lt (Heap.lt_size q1)) (Heap.get?_push_of_some _ q1)
  have e6 : EachIs (fun (u : Value) (b : V × Deed) => RelV b.1 u ∧ Tp H b.1 (dD b.2) ∧ ∃ as, Reads (PySem.W.sortingHeap (h1.push (seqObj "list" its.toArray 0)) h1.objs.size its) u (dD b.2) as) its (xs.zip ds) :=
    e0.mono fun _ _ ⟨r1, r2, as, r3⟩ => ⟨r1, r2, as, PyProof.Rows.Reads.keeps (fun _ _ e => k6 _ _ e) r3⟩
  have eD : EachIs (fun (v : Value) (d : PyData) => ∃ as, Reads (PySem.W.sortingHeap (h1.push (seqObj "list" its.toArray 0)) h1.objs.size its) v d as) its (ds.map dD) := by
    have := PySem.W.each_map (R := fun (v : Value) (d : PyData) => ∃ as, Reads (PySem.W.sortingHeap (h1.push (seqObj "list" its.toArray 0)) h1.objs.size its) v d as) (fun b : V × Deed => dD b.2) (e6.mono fun _ _ h => h.2.2)
    rwa [show (xs.zip ds).map (fun b : V × Deed => dD b.2) = ds.map dD from (List.map_map (f := fun b : V × Deed => b.2) (g := dD) (l := xs.zip ds)).symm.trans (congrArg (List.map dD) (zip_deeds hlen).1)] at this
  have S : SortsAt X.prog X.w X.A.in1.in1 { s with heap := PySem.W.sortingHeap (h1.push (seqObj "list" its.toArray 0)) h1.objs.size its } (dataKind (PySem.W.sortingHeap (h1.push (seqObj "list" its.toArray 0)) h1.objs.size its) (ds.map dD)) its :=
    sorts_deeds (s := { s with heap := PySem.W.sortingHeap (h1.push (seqObj "list" its.toArray 0)) h1.objs.size its }) eD (by
      show X.A.units + 1 + 1 + 2 < cLine
      omega)
  refine sort_behind (s := { s with heap := h1 }) hL S fun c h' hk' hob => ?_
  have ek : EachIs (fun (v : Value) (b : V × Deed) => (dataKind (PySem.W.sortingHeap (h1.push (seqObj "list" its.toArray 0)) h1.objs.size its) (ds.map dD)).keyOf v = some (keyToks (dD b.2))) its (xs.zip ds) :=
    (PySem.W.each_mem e6).mono fun u b ⟨⟨_, _, as, r3⟩, m⟩ => kind_deed (by
      have h2 : b.2 ∈ (xs.zip ds).map (·.2) := List.mem_map.mpr ⟨b, m, rfl⟩
      rwa [(zip_deeds hlen).1] at h2) r3
  have out := PySem.W.sortVals_each (κ := dataKind (PySem.W.sortingHeap (h1.push (seqObj "list" its.toArray 0)) h1.objs.size its) (ds.map dD)) (rev := false) (fun b : V × Deed => keyToks (dD b.2)) e6 ek
  have pm := List.mergeSort_perm (xs.zip ds) (PySem.W.sortLe (dataKind (PySem.W.sortingHeap (h1.push (seqObj "list" its.toArray 0)) h1.objs.size its) (ds.map dD)).toKeyOrd false fun b : V × Deed => keyToks (dD b.2))
  generalize (xs.zip ds).mergeSort (PySem.W.sortLe (dataKind (PySem.W.sortingHeap (h1.push (seqObj "list" its.toArray 0)) h1.objs.size its) (ds.map dD)).toKeyOrd false fun b : V × Deed => keyToks (dD b.2)) = zs at out pm
  have rout := vals_of_R (fun _ _ h => h.1) out
  have I1 : Inv X pins σ H { s with heap := h1 } := I.kept (t' := s.toks) hk1
  have hf : H h1.objs.size = none := I1.hok.fresh (Nat.le_refl _)
  have hll : (zs.map (·.1)).length ≤ sizeLine := by
    rw [List.length_map, pm.length_eq, List.length_zip]
    exact Nat.le_trans (Nat.min_le_left _ _) hz
  refine ⟨_, rfl, .ref h1.objs.size, upd H h1.objs.size (.lst (zs.map (·.1))), I1.laid (t' := s.toks) hk' (Nat.le_refl _) ⟨hll, _, c, rout, hob⟩, rfl, q _ _ (zs.map (·.2)) hf (tp_pairs (each_all (fun _ _ h => h.2.1) out)) ?_⟩
  have := pm.map (·.2)
  rwa [(zip_deeds hlen).1] at this
theorem k_sortedW {k : Nat} (K : PySem.W.Frag) (hr : Room k X.A) (hK : X.K = K := by rfl) : CallR X (.builtin "sorted") (rSortedW K) := by subst hK; exact cr_sortedW hr
end
end C9
/-! ## F16 -/
set_option maxHeartbeats 4000000
namespace C9
open PySem PySem.Spec PyProof.Rows L2 C8
section
variable {K : PySem.W.Frag} {mg : Str → Option Value} {P : Program} {w : World} {base : Heap}
/-- a deed that the house has -/
def okD (ks : List Str) (cs : List (List Str)) : Deed → Prop
  | .put k => k ∈ ks
  | .call c => c ∈ cs
def sp_law_stretch (K : PySem.W.Frag) : Sp := fun vs H Q E => ∃ x y z, vs = [x, y, z] ∧ ∃ b ks cs, ∃ m : Int, x = .ref b ∧ BagAt H b ∧ Tp H y (dH ks cs) ∧ z = .int m ∧ 0 ≤ m ∧ m ≤ 100 ∧ ks ≠ [] ∧ cs ≠ [] ∧ ks.length ≤ 6 ∧ cs.length ≤ 8 ∧
  ∀ v (ds : List Deed) H', Same H H' → Tp H' v (.tuple (ds.map dD)) → (ds.length : Int) ≤ m → (∀ d ∈ ds, okD ks cs d) → Q v H'
theorem sc_law_stretch : FnScope ["_law_bag_here", "_law_house_here", "_law_most", "_law_many", "_law_share", "_law_found", "_law_turn", "_law_is_put"] ["_law_bag_here", "_law_house_here", "_law_most"] (defScope s_law_stretch) := ⟨rfl, rfl, rfl, by decide +kernel, rfl, by decide +kernel, by decide +kernel⟩
theorem c_law_stretch (T : Txt K mg) : C8.Cal P w K mg base 3 "_law_stretch" (sp_law_stretch K) [] := by
  refine T.cal 47 41 rfl rfl sc_law_stretch
    (fun _ _ _ _ _ _ us h => match us, h with | [_, _, _], _ => rfl)
    (fun vs H Q E h => by obtain ⟨_, _, _, rfl, _⟩ := h; rfl) (fun f cdv A outer s H vs Q E hr h => ?_)
  have nd := sc_law_stretch.nd
  refine ⟨_, (pss_cons (ps_par (i := 3) (j := 4) rfl nd rfl rfl (by decide) rfl rfl (pa_cons (pe_c (c_law_take T) hr (by decide) (by rfl) (pa_cons (pv 0) (pa_cons (pe_op op_add (pv 2) pe_int) pa_nil))) (pa_cons (pe_c (c_law_one T) hr (by decide) (by rfl) (pa_cons (pv 0) (pa_cons (pe_lst (pa_cons pe_int (pa_cons pe_int (pa_cons pe_int (pa_cons pe_int (pa_cons pe_int pa_nil)))))) pa_nil))) pa_nil)) rfl)
     (pss_cons (ps_set (i := 5) nd rfl (.inl rfl) (pe_lst pa_nil))
     (pss_cons (ps_for PassesOwn.never rfl (pi_range1 (by rfl) (T.free 65) (pa_cons (pv 3) pa_nil)) (pg_name (i := 6) nd rfl (by first | exact .inl rfl | exact .inr rfl))
      (pss_cons (ps_set (i := 7) nd rfl (.inl rfl) (pe_cmpR op_lt (pe_c (c_law_take T) hr (by decide) (by rfl) (pa_cons (pv 0) (pa_cons pe_int pa_nil))) (pv 4) rfl))
     (pss_one (ps_expr (k_bm K (pe_bm PySem.F.plainAttrs_list PySem.F.slot_list_append PySem.F.type_list_append mt_append (pv 5) (pa_cons (pe_ifExp (pt_val (pv 7)) (pe_tup (pa_cons pe_str (pa_cons (pe_c (c_law_one T) hr (by decide) (by rfl) (pa_cons (pv 0) (pa_cons (pe_ix (k_ixT K) (pv 1) pe_int (fun _ _ => rfl)) pa_nil))) pa_nil))) (pe_tup (pa_cons pe_str (pa_cons (pe_c (c_law_one T) hr (by decide) (by rfl) (pa_cons (pv 0) (pa_cons (pe_ix (k_ixT K) (pv 1) pe_int (fun _ _ => rfl)) pa_nil))) pa_nil)))) pa_nil)))))))
     (pss_cons (ps_if (pt_cmpR op_eq (pe_c (c_law_take T) hr (by decide) (by rfl) (pa_cons (pv 0) (pa_cons pe_int pa_nil))) pe_int rfl) (pss_one (ps_set (i := 5) nd rfl (.inl rfl) (k_revL K (pe_revL (pe_callB (k_sortedW K hr) (by rfl) (T.free 58) rfl (pa_cons (pv 5) pa_nil)))))) pss_nil)
     (pss_one (ps_ret (pe_callTy (k_tuple K) (by rfl) (T.free 55) rfl (pa_cons (pv 5) pa_nil)))))))), ?_⟩
  obtain ⟨v0, v1, v2, rfl, h⟩ := h
  rw [show L2.start ["_law_bag_here", "_law_house_here", "_law_most", "_law_many", "_law_share", "_law_found", "_law_turn", "_law_is_put"] [v0, v1, v2] = [some v0, some v1, some v2, none, none, none, none, none] from rfl]
  obtain ⟨b, ks, cs, m, rfl, hb, hy, rfl, m1, m2, kn, cn, kl, cl, q⟩ := h
  obtain ⟨a, v1, v2, rfl, ha, h1, h2⟩ := hy.two
  obtain ⟨p1, rfl, e1⟩ := h1.strs_at
  obtain ⟨p2, ys, rfl, e2, r2⟩ := h2.tup_at
  have hyl := r2.len
  simp only [tPar, tBM, SlX.tMethSl, tSeq, tIfS, tOr, tAnd, tNot, tB, tCB, tCons, tNil, tVar, tC, tTest, tChain, tRet, tRetN, tNext, tOp, tAndV, tOrV, tNotV, tIf, tThen, tYes, tTup, tLst, tCall, tAsg, tDrop, tDNewK, gName, gTup, gCons, gNil, rI0, rI, CMul, CDiv, tUn, rU, rEq, rNe, scal, LenV, RetB, RetD, List.set_cons_zero, List.set_cons_succ, List.getElem?_cons_zero, List.getElem?_cons_succ, Option.some.injEq, exists_eq_left', exists_eq_left, List.cons.injEq, and_true, true_and, V.int.injEq, V.str.injEq, V.bl.injEq, V.ref.injEq, if_true, if_false, Bool.not_true, Bool.not_false, reduceCtorEq, decide_true, decide_false, Bool.false_eq_true, exists_and_left, Bool.not_eq_true', decide_eq_true_eq, decide_eq_false_iff_not, rLenK, tLenSetT, List.append_nil, and_assoc, or_false, false_or, exists_false, false_and, and_false, rGetL, rSetL, gSub, tAugS, ipI, tPart, tNoPart, not_true, not_false_iff, ite_true, ite_false, List.map_cons, List.map_nil, sp_law_one, sp_law_take]
  refine ⟨hb, by omega, by omega, fun u Ha u0 u1 sa => ⟨by show 5 ≤ _; decide, fun pl hpl => ⟨hb.same (sa.trans (sm_new hpl)), _, .inl (.of upd_same), by simp, by show 5 ≤ _; decide, fun sh Hb hsh sb => ?_⟩⟩⟩
  obtain ⟨sh, rfl⟩ : ∃ i : Int, sh = .int i := by
    simp only [List.mem_cons, List.not_mem_nil, or_false] at hsh
    rcases hsh with rfl | rfl | rfl | rfl | rfl <;> exact ⟨_, rfl⟩
  refine ⟨Nat.zero_le _, fun r hr => ?_⟩
  have s0 : Same H Hb := sa.trans ((sm_new hpl).trans sb)
  have s1 := s0.trans (sm_new (o := .lst []) hr)
  have hr0 := ne_none s0 hr
  have er : upd Hb r (.lst []) r = some (.lst []) := upd_same
  generalize upd Hb r (.lst []) = H1 at s1 er
  refine ⟨_, rfl, u, rfl, by omega, by omega, for_it (walk_range (lo := 0) (n := u.toNat)) (fun i σ H3 => ∃ y z, σ = [some (.ref b), some (.ref a), some (.int m), some (.int u), some (.int sh), some (.ref r), y, z] ∧ Same H H3 ∧ ∃ (xs : List V) (ds : List Deed), H3 r = some (.lst xs) ∧ TpAll H3 xs (ds.map dD) ∧ ds.length = i ∧ ∀ d ∈ ds, okD ks cs d) ?_ (fun _ _ _ _ _ => trivial) ?_ ?_⟩
  · exact ⟨none, none, rfl, s1, [], [], er, .nil, rfl, fun d h => nomatch h⟩
  · rintro i x σ H3 H4 hi ⟨y, z, rfl, s3, xs, ds, e3, t3, l3, g3⟩ ⟨rfl, rfl⟩
    simp only [tBM, SlX.tMethSl, tSeq, tIfS, tOr, tAnd, tNot, tB, tCB, tCons, tNil, tVar, tC, tTest, tChain, tRet, tRetN, tNext, tOp, tAndV, tOrV, tNotV, tIf, tThen, tYes, tTup, tLst, tCall, tAsg, tDrop, tDNewK, gName, gTup, gCons, gNil, rI0, rI, CMul, CDiv, tUn, rU, rEq, rNe, scal, LenV, RetB, RetD, List.set_cons_zero, List.set_cons_succ, List.getElem?_cons_zero, List.getElem?_cons_succ, Option.some.injEq, exists_eq_left', exists_eq_left, List.cons.injEq, and_true, true_and, V.int.injEq, V.str.injEq, V.bl.injEq, V.ref.injEq, if_true, if_false, Bool.not_true, Bool.not_false, reduceCtorEq, decide_true, decide_false, Bool.false_eq_true, exists_and_left, Bool.not_eq_true', decide_eq_true_eq, decide_eq_false_iff_not, rLenK, tLenSetT, List.append_nil, and_assoc, or_false, false_or, exists_false, false_and, and_false, rGetL, rSetL, gSub, tAugS, ipI, tPart, tNoPart, not_true, not_false_iff, ite_true, ite_false, List.map_cons, List.map_nil, sp_law_one, sp_law_take]
    refine ⟨hb.same s3, by decide, by decide, fun t H5 _ _ s5 => ?_⟩
    have s35 := s3.trans s5
    have fin : ∀ (d : Deed) (v : V) (H7 : Hp), okD ks cs d → Same H5 H7 → Tp H7 v (dD d) → Same H (upd H7 r (.lst (xs ++ [v]))) ∧
          ∃ ys, upd H7 r (.lst (xs ++ [v])) r = some (.lst ys) ∧ ∃ es : List Deed, TpAll (upd H7 r (.lst (xs ++ [v]))) ys (es.map dD) ∧ es.length = i + 1 ∧ ∀ c ∈ es, okD ks cs c := fun d v H7 ok s7 tv =>
        ⟨sm_upd (s35.trans s7) hr0, _, upd_same, ds ++ [d], by
          rw [List.map_append]
          exact TpAll.keep (.updL ((s5.trans s7) _ _ e3)) ((TpAll.same (s5.trans s7) t3).snoc tv), by rw [List.length_append, l3]; rfl, fun c hc => by
          rcases List.mem_append.mp hc with hc | hc
          · exact g3 c hc
          · rw [List.mem_singleton.mp hc]; exact ok⟩
    have xl : xs.length < sizeLine := by
      rw [t3.len]
      exact lt1 (by omega)
    refine ⟨.inl ⟨rfl, _, .of (s5 _ _ e3)⟩, ?_⟩
    by_cases q1 : t < sh
    · rw [if_pos q1]
      refine ix_t (s35 _ _ ha) (atI_0 _ _) ⟨p1, rfl, hb.same s35, _, .inr (.of (s35 _ _ e1)), by simpa using kn, by rw [List.length_map]; omega, fun v H6 hv s6 => ⟨by show 2 ≤ _; decide, fun p6 h6 => ?_⟩⟩
      obtain ⟨k, hk, rfl⟩ := List.mem_map.mp hv
      have s7 := s6.trans (sm_new (o := .tup [.str "put", .str k]) h6)
      exact ⟨r, xs, _, rfl, rfl, (s5.trans s7) _ _ e3, xl, fin (.put k) _ _ hk s7 (.mk h6 (.cons (.str _) (.cons (.str _) .nil)))⟩
    · rw [if_neg q1]
      refine ix_t (s35 _ _ ha) (atI_1 _ _ _) ⟨p2, rfl, hb.same s35, _, .inr (.of (s35 _ _ e2)), (fun e => cn (by rw [e] at hyl; exact List.length_eq_zero_iff.mp hyl.symm)), by omega, fun v H6 hv s6 => ⟨by show 2 ≤ _; decide, fun p6 h6 => ?_⟩⟩
      obtain ⟨c, hc, tc⟩ := r2.mem hv
      have s7 := s6.trans (sm_new (o := .tup [.str "call", v]) h6)
      exact ⟨r, xs, _, rfl, rfl, (s5.trans s7) _ _ e3, xl, fin (.call c) _ _ hc s7 (.mk h6 (.cons (.str _) (.cons (tc.same (s35.trans s6)) .nil)))⟩
  · rintro σ H3 ⟨y, z, rfl, s3, xs, ds, e3, t3, l3, g3⟩
    simp only [tBM, SlX.tMethSl, tSeq, tIfS, tOr, tAnd, tNot, tB, tCB, tCons, tNil, tVar, tC, tTest, tChain, tRet, tRetN, tNext, tOp, tAndV, tOrV, tNotV, tIf, tThen, tYes, tTup, tLst, tCall, tAsg, tDrop, tDNewK, gName, gTup, gCons, gNil, rI0, rI, CMul, CDiv, tUn, rU, rEq, rNe, scal, LenV, RetB, RetD, List.set_cons_zero, List.set_cons_succ, List.getElem?_cons_zero, List.getElem?_cons_succ, Option.some.injEq, exists_eq_left', exists_eq_left, List.cons.injEq, and_true, true_and, V.int.injEq, V.str.injEq, V.bl.injEq, V.ref.injEq, if_true, if_false, Bool.not_true, Bool.not_false, reduceCtorEq, decide_true, decide_false, Bool.false_eq_true, exists_and_left, Bool.not_eq_true', decide_eq_true_eq, decide_eq_false_iff_not, rLenK, tLenSetT, List.append_nil, and_assoc, or_false, false_or, exists_false, false_and, and_false, rGetL, rSetL, gSub, tAugS, ipI, tPart, tNoPart, not_true, not_false_iff, ite_true, ite_false, List.map_cons, List.map_nil, sp_law_one, sp_law_take]
    refine ⟨hb.same s3, by decide, by decide, fun t H5 _ _ s5 => ?_⟩
    have s35 := s3.trans s5
    have e5 := s5 _ _ e3
    have t5 := TpAll.same s5 t3
    by_cases q1 : t = 0
    · rw [if_pos q1]
      simp only [tRevL, tBM, SlX.tMethSl, tSeq, tIfS, tOr, tAnd, tNot, tB, tCB, tCons, tNil, tVar, tC, tTest, tChain, tRet, tRetN, tNext, tOp, tAndV, tOrV, tNotV, tIf, tThen, tYes, tTup, tLst, tCall, tAsg, tDrop, tDNewK, gName, gTup, gCons, gNil, rI0, rI, CMul, CDiv, tUn, rU, rEq, rNe, scal, LenV, RetB, RetD, List.set_cons_zero, List.set_cons_succ, List.getElem?_cons_zero, List.getElem?_cons_succ, Option.some.injEq, exists_eq_left', exists_eq_left, List.cons.injEq, and_true, true_and, V.int.injEq, V.str.injEq, V.bl.injEq, V.ref.injEq, if_true, if_false, Bool.not_true, Bool.not_false, reduceCtorEq, decide_true, decide_false, Bool.false_eq_true, exists_and_left, Bool.not_eq_true', decide_eq_true_eq, decide_eq_false_iff_not, rLenK, tLenSetT, List.append_nil, and_assoc, or_false, false_or, exists_false, false_and, and_false, rGetL, rSetL, gSub, tAugS, ipI, tPart, tNoPart, not_true, not_false_iff, ite_true, ite_false, List.map_cons, List.map_nil, sp_law_one, sp_law_take]
      refine ⟨r, xs, ds, rfl, .of e5, t5, fun p6 zs es h6 tz pm => ⟨p6, rfl, zs, .of upd_same, fun p7 h7 => ?_⟩⟩
      have s6 := sm_new (o := .lst zs) h6
      have s7 := sm_new (o := .lst zs.reverse) h7
      have tz7 : TpAll (upd (upd H5 p6 (.lst zs)) p7 (.lst zs.reverse)) zs.reverse (es.reverse.map dD) := by
        rw [List.map_reverse]
        exact (TpAll.same (s6.trans s7) tz).rev
      refine tuple_of upd_same tz7 fun v H8 s8 t8 => q v es.reverse H8 (s35.trans (s6.trans (s7.trans s8))) t8 ?_ (fun d hd => g3 d (pm.mem_iff.mp (List.mem_reverse.mp hd)))
      rw [List.length_reverse, pm.length_eq]
      omega
    · rw [if_neg q1]
      exact tuple_of e5 t5 fun v H8 s8 t8 => q v ds H8 (s35.trans s8) t8 (by omega) g3
end
end C9
/-! ## F17 -/
set_option maxHeartbeats 4000000
namespace C9
open PySem PySem.Spec PyProof.Rows L2 C8
def ltr (i : Nat) : Str := ⟨#[97 + i]⟩
def nameAt (i : Nat) : Str := if i % 9 = 4 then (if i < 26 then ltr i else ltr ((i - 26) / 26) ++ ltr ((i - 26) % 26)) ++ "zzzz" else (if i < 26 then ltr i else ltr ((i - 26) / 26) ++ ltr ((i - 26) % 26))
def atName (z : Str) : Nat := match z.cps.toList with
  | [a] => a - 97
  | [a, _, _, _, _] => a - 97
  | a :: b :: _ => 26 + (a - 97) * 26 + (b - 97)
  | _ => 0
theorem name_all : ∀ i : Fin 702, atName (nameAt i) = i ∧ okN (nameAt i) = true := by decide +kernel
theorem name_at {i : Nat} (h : i < 702) : atName (nameAt i) = i := (name_all ⟨i, h⟩).1
theorem name_ok {i : Nat} (h : i < 702) : okN (nameAt i) = true := (name_all ⟨i, h⟩).2
theorem ltr_all : ∀ i : Fin 26, (Str.ofString "abcdefghijklmnopqrstuvwxyz").cps.toList[i.val]? = some (97 + i.val) := by decide +kernel
theorem ix_ltr {i : Nat} (h : i < 26) : atI (Str.ofString "abcdefghijklmnopqrstuvwxyz").cps.toList (i : Int) = some (97 + i) := atI_nat (ltr_all ⟨i, h⟩)
theorem ltr_len : (Str.ofString "abcdefghijklmnopqrstuvwxyz").length ≤ sizeLine := Nat.le_trans (by decide +kernel : _ ≤ 100) (by decide)
def nameK (sh k : Nat) : Str := nameAt ((577 * k + sh) % 702)
section
variable {K : PySem.W.Frag} {mg : Str → Option Value} {P : Program} {w : World} {base : Heap}
def sp_law_thing_names (K : PySem.W.Frag) : Sp := fun vs H Q E => ∃ x y, vs = [x, y] ∧ ∃ b, ∃ m : Int, x = .ref b ∧ BagAt H b ∧ y = .int m ∧ 0 ≤ m ∧ m ≤ 100 ∧
  ∀ p (ns : List Str) H', Same H H' → H p = none → H' p = some (.lst (ns.map V.str)) → (ns.length : Int) = m → ns.Nodup → (∀ n ∈ ns, okN n = true) → Q (.ref p) H'
theorem sc_law_thing_names : FnScope ["_law_bag_here", "_law_many", "_law_signs", "_law_shift", "_law_found", "_law_k", "_law_at", "_law_name"] ["_law_bag_here", "_law_many"] (defScope s_law_thing_names) := ⟨rfl, rfl, rfl, by decide +kernel, rfl, by decide +kernel, by decide +kernel⟩
theorem c_law_thing_names (T : Txt K mg) : C8.Cal P w K mg base 3 "_law_thing_names" (sp_law_thing_names K) [] := by
  refine T.cal 48 42 rfl rfl sc_law_thing_names
    (fun _ _ _ _ _ _ us h => match us, h with | [_, _], _ => rfl)
    (fun vs H Q E h => by obtain ⟨_, _, rfl, _⟩ := h; rfl) (fun f cdv A outer s H vs Q E hr h => ?_)
  have nd := sc_law_thing_names.nd
  refine ⟨_, (pss_cons (ps_par3 (i := 2) (j := 3) (l := 4) rfl nd rfl rfl rfl (by decide) (by decide) (by decide) rfl rfl rfl (pa_cons pe_str (pa_cons (pe_c (c_law_take T) hr (by decide) (by rfl) (pa_cons (pv 0) (pa_cons pe_int pa_nil))) (pa_cons (pe_lst pa_nil) pa_nil))) rfl)
     (pss_cons (ps_for PassesOwn.never rfl (pi_range1 (by rfl) (T.free 65) (pa_cons (pv 1) pa_nil)) (pg_name (i := 5) nd rfl (by first | exact .inl rfl | exact .inr rfl))
      (pss_cons (ps_set (i := 6) nd rfl (.inl rfl) (pe_op op_mod (pe_callTy call_intI (by rfl) (T.free 62) rfl (pa_cons (pe_op op_add (pe_op op_mul (pv 5) pe_int) (pv 3)) pa_nil)) pe_int))
     (pss_cons (ps_set (i := 7) nd rfl (.inl rfl) (pe_ifExp (pt_cmpR op_lt (pv 6) pe_int rfl) (pe_ix ix_str (pv 2) (pv 6) (fun _ _ => rfl)) (pe_op op_add_str (pe_ix ix_str (pv 2) (pe_op op_fdiv (pe_callTy call_intI (by rfl) (T.free 62) rfl (pa_cons (pe_op op_sub (pv 6) pe_int) pa_nil)) pe_int) (fun _ _ => rfl)) (pe_ix ix_str (pv 2) (pe_op op_mod (pe_callTy call_intI (by rfl) (T.free 62) rfl (pa_cons (pe_op op_sub (pv 6) pe_int) pa_nil)) pe_int) (fun _ _ => rfl)))))
     (pss_one (ps_expr (k_bm K (pe_bm PySem.F.plainAttrs_list PySem.F.slot_list_append PySem.F.type_list_append mt_append (pv 4) (pa_cons (pe_ifExp (pt_cmpR op_eq (pe_op op_mod (pe_callTy call_intI (by rfl) (T.free 62) rfl (pa_cons (pv 6) pa_nil)) pe_int) pe_int rfl) (pe_op op_add_str (pv 7) pe_str) (pv 7)) pa_nil))))))))
     (pss_one (ps_ret (pv 4))))), ?_⟩
  obtain ⟨v0, v1, rfl, h⟩ := h
  rw [show L2.start ["_law_bag_here", "_law_many", "_law_signs", "_law_shift", "_law_found", "_law_k", "_law_at", "_law_name"] [v0, v1] = [some v0, some v1, none, none, none, none, none, none] from rfl]
  obtain ⟨b, m, rfl, hb, rfl, m1, m2, q⟩ := h
  simp only [tPar3, tBM, SlX.tMethSl, tSeq, tIfS, tOr, tAnd, tNot, tB, tCB, tCons, tNil, tVar, tC, tTest, tChain, tRet, tRetN, tNext, tOp, tAndV, tOrV, tNotV, tIf, tThen, tYes, tTup, tLst, tCall, tAsg, tDrop, tDNewK, gName, gTup, gCons, gNil, rI0, rI, CMul, CDiv, tUn, rU, rEq, rNe, scal, LenV, RetB, RetD, List.set_cons_zero, List.set_cons_succ, List.getElem?_cons_zero, List.getElem?_cons_succ, Option.some.injEq, exists_eq_left', exists_eq_left, List.cons.injEq, and_true, true_and, V.int.injEq, V.str.injEq, V.bl.injEq, V.ref.injEq, if_true, if_false, Bool.not_true, Bool.not_false, reduceCtorEq, decide_true, decide_false, Bool.false_eq_true, exists_and_left, Bool.not_eq_true', decide_eq_true_eq, decide_eq_false_iff_not, rLenK, tLenSetT, List.append_nil, and_assoc, or_false, false_or, exists_false, false_and, and_false, rGetL, rSetL, gSub, tAugS, ipI, tPart, tNoPart, not_true, not_false_iff, ite_true, ite_false, List.map_cons, List.map_nil, sp_law_take]
  refine ⟨hb, by decide, by decide, fun v Ha v0 v1 sa => ⟨Nat.zero_le _, fun r hr => ?_⟩⟩
  have s1 := sa.trans (sm_new (o := .lst []) hr)
  have hr0 := ne_none sa hr
  have er : upd Ha r (.lst []) r = some (.lst []) := upd_same
  generalize upd Ha r (.lst []) = H1 at s1 er
  obtain ⟨sh, rfl⟩ := Int.eq_ofNat_of_zero_le v0
  refine ⟨_, rfl, m, rfl, by omega, by omega, for_it (walk_range (lo := 0) (n := m.toNat)) (fun i σ H3 => ∃ y z u, σ = [some (.ref b), some (.int m), some (.str "abcdefghijklmnopqrstuvwxyz"), some (.int (sh : Nat)), some (.ref r), y, z, u] ∧ Same H H3 ∧ H3 r = some (.lst (((List.range i).map (nameK sh)).map V.str))) ?_ (fun _ _ _ _ _ => trivial) ?_ ?_⟩
  · exact ⟨none, none, none, rfl, s1, er⟩
  · rintro i x σ H3 H4 hi ⟨y, z, u, rfl, s3, e3⟩ ⟨rfl, rfl⟩
    simp only [tBM, SlX.tMethSl, tSeq, tIfS, tOr, tAnd, tNot, tB, tCB, tCons, tNil, tVar, tC, tTest, tChain, tRet, tRetN, tNext, tOp, tAndV, tOrV, tNotV, tIf, tThen, tYes, tTup, tLst, tCall, tAsg, tDrop, tDNewK, gName, gTup, gCons, gNil, rI0, rI, CMul, CDiv, tUn, rU, rEq, rNe, scal, LenV, RetB, RetD, List.set_cons_zero, List.set_cons_succ, List.getElem?_cons_zero, List.getElem?_cons_succ, Option.some.injEq, exists_eq_left', exists_eq_left, List.cons.injEq, and_true, true_and, V.int.injEq, V.str.injEq, V.bl.injEq, V.ref.injEq, if_true, if_false, Bool.not_true, Bool.not_false, reduceCtorEq, decide_true, decide_false, Bool.false_eq_true, exists_and_left, Bool.not_eq_true', decide_eq_true_eq, decide_eq_false_iff_not, rLenK, tLenSetT, List.append_nil, and_assoc, or_false, false_or, exists_false, false_and, and_false, rGetL, rSetL, gSub, tAugS, ipI, tPart, tNoPart, not_true, not_false_iff, ite_true, ite_false, List.map_cons, List.map_nil, sp_law_take]
    refine ⟨.inr ⟨by decide, by decide⟩, by decide, ?_⟩
    obtain ⟨at', hat⟩ : ∃ at' : Nat, at' = (577 * i + sh) % 702 := ⟨_, rfl⟩
    have e : ((0 + ((i : Nat) : Int)) * 577 + ((sh : Nat) : Int)) % 702 = ((at' : Nat) : Int) := by omega
    have l702 : at' < 702 := by omega
    rw [e]
    have nk : nameK sh i = nameAt at' := by unfold nameK; rw [hat]
    have fin : ∀ n, n = nameAt at' → rAppend (V.ref r) [V.str n] H4 fun x H1 => Same H H1 ∧ H1 r = some (HO.lst (List.map V.str (List.map (nameK sh) (List.range (i + 1))))) := fun n hn =>
      ⟨r, _, _, rfl, rfl, e3, by rw [List.length_map, List.length_map, List.length_range]; exact lt1 (by omega), sm_upd s3 hr0, by
        rw [upd_same, List.range_succ, List.map_append, List.map_append, hn, ← nk]
        rfl⟩
    have hty : tyV K "list" (V.ref r) H4 := .inl ⟨rfl, _, .of e3⟩
    have le2 : ∀ n : Nat, n ≤ 100 → n ≤ sizeLine := fun n h => Nat.le_trans h (by decide)
    have z4 : (Str.ofString "zzzz").length = 4 := by decide +kernel
    by_cases h26 : at' < 26
    · rw [if_pos (by omega)]
      refine ⟨_, _, _, rfl, rfl, ltr_len, ix_ltr h26, hty, by decide, ?_⟩
      by_cases h9 : at' % 9 = 4
      · rw [if_pos (by omega)]
        refine ⟨ltr at', rfl, le2 _ (by rw [z4]; show 1 + 4 ≤ 100; decide), fin _ ?_⟩
        unfold nameAt
        rw [if_pos h9, if_pos h26]
      · rw [if_neg (by omega)]
        refine fin (ltr at') ?_
        unfold nameAt
        rw [if_neg h9, if_pos h26]
    · rw [if_neg (by omega)]
      have ea : (((at' : Nat) : Int) - 26) / 26 = (((at' - 26) / 26 : Nat) : Int) := by omega
      have eb : (((at' : Nat) : Int) - 26) % 26 = (((at' - 26) % 26 : Nat) : Int) := by omega
      rw [ea, eb]
      have l2 : (ltr ((at' - 26) / 26) ++ ltr ((at' - 26) % 26)).length = 2 := rfl
      refine ⟨by decide, by decide, _, _, _, rfl, rfl, ltr_len, ix_ltr (by omega), by decide, _, _, _, rfl, rfl, ltr_len, ix_ltr (by omega), ltr ((at' - 26) / 26), rfl, ltr ((at' - 26) % 26), rfl, le2 _ (by show 1 + 1 ≤ 100; decide), hty, by decide, ?_⟩
      by_cases h9 : at' % 9 = 4
      · rw [if_pos (by omega)]
        refine ⟨le2 _ (by rw [z4, l2]; decide), fin _ ?_⟩
        unfold nameAt
        rw [if_pos h9, if_neg h26]
      · rw [if_neg (by omega)]
        refine fin _ ?_
        unfold nameAt
        rw [if_neg h9, if_neg h26]
  · rintro σ H3 ⟨y, z, u, rfl, s3, e3⟩
    refine ⟨_, rfl, q r _ H3 s3 hr0 e3 ?_ ?_ ?_⟩
    · rw [List.length_map, List.length_range]
      omega
    · refine List.pairwise_map.mpr (List.Pairwise.imp_of_mem (fun {a b} ha hb n e => ?_) List.nodup_range)
      rw [List.mem_range] at ha hb
      have e2 := congrArg atName e
      unfold nameK at e2
      rw [name_at (Nat.mod_lt _ (by decide)), name_at (Nat.mod_lt _ (by decide))] at e2
      omega
    · intro n hn
      obtain ⟨k, _, rfl⟩ := List.mem_map.mp hn
      exact name_ok (Nat.mod_lt _ (by decide))
end
end C9
/-! ## F18 -/
set_option maxHeartbeats 4000000
namespace C9
open PySem PySem.Spec PyProof.Rows L2 C8
/-- the names that rows put -/
def putN1 : Row → Option Str
  | .put n _ => some n
  | _ => none
def putN (rs : List Row) : List Str := rs.filterMap putN1
/-- a row that a house can take, told without what came before it -/
def okR (ks : List Str) (cs : List (List Str)) : Row → Prop
  | .put n k => okN n = true ∧ k ∈ ks
  | .drop n => okN n = true
  | .call c => c ∈ cs
def LogW (ks : List Str) (cs : List (List Str)) (rs : List Row) : Prop := (∀ r ∈ rs, okR ks cs r) ∧ (putN rs).Nodup
theorem putN_app (a b : List Row) : putN (a ++ b) = putN a ++ putN b := List.filterMap_append
theorem putN_sub {a b : List Row} (h : a.Sublist b) : (putN a).Sublist (putN b) := h.filterMap _
theorem put_name {K : PySem.W.Frag} {H : Hp} {x : Row} {v : V} {Qe : VK} {Qs : Hp → Prop} (t : Tp H v (dR x)) (ke : ∀ n, putN1 x = some n → Qe (.str n) H) (ks : putN1 x = none → Qs H) :
    rIxT K v (.int 0) H fun y H1 => scal y (.str "put") = true ∧ if y = V.str "put" then rIxT K v (.int 1) H1 Qe else Qs H1 := by
  cases x with
  | put n k =>
    obtain ⟨a, w1, w2, w3, rfl, e, h1, h2, h3⟩ := t.three
    cases h1; cases h2
    refine ix_t e (atI_0 _ _) ⟨rfl, ?_⟩
    rw [if_pos rfl]
    exact ix_t e (atI_1 _ _ _) (ke n rfl)
  | drop n =>
    obtain ⟨a, w1, w2, rfl, e, h1, h2⟩ := t.two
    cases h1
    refine ix_t e (atI_0 _ _) ⟨rfl, ?_⟩
    rw [if_neg (by decide)]
    exact ks rfl
  | call c =>
    obtain ⟨a, w1, w2, rfl, e, h1, h2⟩ := t.two
    cases h1
    refine ix_t e (atI_0 _ _) ⟨rfl, ?_⟩
    rw [if_neg (by decide)]
    exact ks rfl
theorem putN_strs (L : List Row) : L.filterMap (fun x => (putN1 x).map PyData.str) = (putN L).map .str := by
  unfold putN
  rw [List.map_filterMap]
theorem putN_ok {ks : List Str} {cs : List (List Str)} {L : List Row} (h : ∀ r ∈ L, okR ks cs r) : ∀ n ∈ putN L, okN n = true := fun n hn => by
  obtain ⟨r, hr, e⟩ := List.mem_filterMap.mp hn
  have := h r hr
  cases r with
  | put a k => cases e; exact this.1
  | drop a => cases e
  | call c => cases e
theorem putN_len (L : List Row) : (putN L).length ≤ L.length := List.length_filterMap_le _ _
/-- a log just made -/
def RetG (ks : List Str) (cs : List (List Str)) (most : Nat) (H : Hp) (Q : VK) : Prop := ∀ v (rs : List Row) H', Same H H' → Tp H' v (.tuple (rs.map dR)) → rs.length ≤ most → LogW ks cs rs → Q v H'
section
variable {K : PySem.W.Frag} {mg : Str → Option Value} {P : Program} {w : World} {base : Heap}
def sp_law_log_of (K : PySem.W.Frag) : Sp := fun vs H Q E => ∃ x y, vs = [x, y] ∧ ∃ b ks cs, ∃ ds : List Deed, x = .ref b ∧ BagAt H b ∧ Tp H y (.tuple (ds.map dD)) ∧ ds.length ≤ 100 ∧ (∀ d ∈ ds, okD ks cs d) ∧ RetG ks cs ds.length H Q
theorem sc_law_log_of : FnScope ["_law_bag_here", "_law_stretch_here", "_law_names", "_law_found", "_law_deed"] ["_law_bag_here", "_law_stretch_here"] (defScope s_law_log_of) := ⟨rfl, rfl, rfl, by decide +kernel, rfl, by decide +kernel, by decide +kernel⟩
theorem c_law_log_of (T : Txt K mg) : C8.Cal P w K mg base 4 "_law_log_of" (sp_law_log_of K) [] := by
  refine T.cal 49 43 rfl rfl sc_law_log_of
    (fun _ _ _ _ _ _ us h => match us, h with | [_, _], _ => rfl)
    (fun vs H Q E h => by obtain ⟨_, _, rfl, _⟩ := h; rfl) (fun f cdv A outer s H vs Q E hr h => ?_)
  have nd := sc_law_log_of.nd
  refine ⟨_, (pss_cons (ps_par (i := 2) (j := 3) rfl nd rfl rfl (by decide) rfl rfl (pa_cons (pe_c (c_law_thing_names T) hr (by decide) (by rfl) (pa_cons (pv 0) (pa_cons (pe_callB (k_len K) (by rfl) (T.free 52) rfl (pa_cons (pv 1) pa_nil)) pa_nil))) (pa_cons (pe_lst pa_nil) pa_nil)) rfl)
     (pss_cons (ps_for PassesOwn.never rfl (k_piT K (pi_tup (pv 1))) (pg_name (i := 4) nd rfl (by first | exact .inl rfl | exact .inr rfl))
      (pss_one (ps_expr (k_bm K (pe_bm PySem.F.plainAttrs_list PySem.F.slot_list_append PySem.F.type_list_append mt_append (pv 3) (pa_cons (pe_ifExp (pt_cmpR op_eq (pe_ix (k_ixT K) (pv 4) pe_int (fun _ _ => rfl)) pe_str rfl) (pe_tup (pa_cons pe_str (pa_cons (pe_ix (k_ixL K) (pv 2) (pe_callB (k_len K) (by rfl) (T.free 52) rfl (pa_cons (pv 3) pa_nil)) (fun _ _ => rfl)) (pa_cons (pe_ix (k_ixT K) (pv 4) pe_int (fun _ _ => rfl)) pa_nil)))) (pv 4)) pa_nil))))))
     (pss_one (ps_ret (pe_callTy (k_tuple K) (by rfl) (T.free 55) rfl (pa_cons (pv 3) pa_nil)))))), ?_⟩
  obtain ⟨v0, v1, rfl, h⟩ := h
  rw [show L2.start ["_law_bag_here", "_law_stretch_here", "_law_names", "_law_found", "_law_deed"] [v0, v1] = [some v0, some v1, none, none, none] from rfl]
  obtain ⟨b, ks, cs, ds, rfl, hb, hy, dl, g, q⟩ := h
  obtain ⟨a, xs, rfl, ha, tx⟩ := hy.tup_at
  have hxl := tx.len
  simp only [tPar, tBM, SlX.tMethSl, tSeq, tIfS, tOr, tAnd, tNot, tB, tCB, tCons, tNil, tVar, tC, tTest, tChain, tRet, tRetN, tNext, tOp, tAndV, tOrV, tNotV, tIf, tThen, tYes, tTup, tLst, tCall, tAsg, tDrop, tDNewK, gName, gTup, gCons, gNil, rI0, rI, CMul, CDiv, tUn, rU, rEq, rNe, scal, LenV, RetB, RetD, List.set_cons_zero, List.set_cons_succ, List.getElem?_cons_zero, List.getElem?_cons_succ, Option.some.injEq, exists_eq_left', exists_eq_left, List.cons.injEq, and_true, true_and, V.int.injEq, V.str.injEq, V.bl.injEq, V.ref.injEq, if_true, if_false, Bool.not_true, Bool.not_false, reduceCtorEq, decide_true, decide_false, Bool.false_eq_true, exists_and_left, Bool.not_eq_true', decide_eq_true_eq, decide_eq_false_iff_not, rLenK, tLenSetT, List.append_nil, and_assoc, or_false, false_or, exists_false, false_and, and_false, rGetL, rSetL, gSub, tAugS, ipI, tPart, tNoPart, not_true, not_false_iff, ite_true, ite_false, List.map_cons, List.map_nil, sp_law_thing_names]
  refine ⟨xs.length, .inr ⟨_, .of ha, rfl⟩, hb, by omega, by omega, fun p ns Ha sa hp ep nl nn no => ⟨Nat.zero_le _, fun r hr => ?_⟩⟩
  have s1 := sa.trans (sm_new (o := .lst []) hr)
  have hr0 := ne_none sa hr
  have er : upd Ha r (.lst []) r = some (.lst []) := upd_same
  have ep1 := (sm_new (o := .lst []) hr) _ _ ep
  have pr : p ≠ r := ne_of_none ep hr
  generalize upd Ha r (.lst []) = H1 at s1 er ep1
  refine ⟨_, rfl, a, rfl, ⟨_, .of (s1 _ _ ha)⟩, for_it (walk_tup (xs := xs)) (fun i σ H3 => ∃ y, σ = [some (.ref b), some (.ref a), some (.ref p), some (.ref r), y] ∧ SameBut r H1 H3 ∧ ∃ (ys : List V) (rs : List Row), H3 r = some (.lst ys) ∧ TpAll H3 ys (rs.map dR) ∧ rs.length = i ∧ (∀ x ∈ rs, okR ks cs x) ∧ (putN rs).Sublist (ns.take i)) ?_ ?_ ?_ ?_⟩
  · exact ⟨none, rfl, .of (.refl _), [], [], er, .nil, rfl, fun d h => (nomatch h), .slnil⟩
  · rintro i σ H3 _ ⟨y, rfl, sb, _⟩
    exact .of (sb.same s1 hr0 _ _ ha)
  · rintro i x σ H3 H4 hi ⟨y, rfl, sb, ys, rs, e3, t3, l3, g3, sl⟩ ⟨rfl, hx⟩
    obtain ⟨d, hd, td⟩ := tx.nth hx
    have okd := g d (List.mem_of_getElem? hd)
    have s4 := sb.same s1 hr0
    have td4 := td.same s4
    obtain ⟨n, hn⟩ : ∃ n, ns[i]? = some n := ⟨_, List.getElem?_eq_getElem (by omega)⟩
    have st : ns.take (i + 1) = ns.take i ++ [n] := by rw [List.take_add_one, hn]; rfl
    have fin : ∀ (x : Row) (v : V) (H7 : Hp), okR ks cs x → Same H4 H7 → Tp H7 v (dR x) → (putN [x]).Sublist [n] → rAppend (V.ref r) [v] H7 fun x H1' => SameBut r H1 H1' ∧
          ∃ ys, H1' r = some (.lst ys) ∧ ∃ x, TpAll H1' ys (List.map dR x) ∧ x.length = i + 1 ∧ (∀ z ∈ x, okR ks cs z) ∧ (putN x).Sublist (ns.take (i + 1)) := fun x v H7 ok s7 tv sx =>
        ⟨r, ys, v, rfl, rfl, s7 _ _ e3, by rw [t3.len]; exact lt1 (by omega), (sb.trans (.of s7)).upd, _, upd_same, rs ++ [x], by
          rw [List.map_append]
          exact TpAll.keep (.updL (s7 _ _ e3)) ((TpAll.same s7 t3).snoc tv), by rw [List.length_append, l3]; rfl, fun c hc => by
          rcases List.mem_append.mp hc with hc | hc
          · exact g3 c hc
          · rw [List.mem_singleton.mp hc]; exact ok, by
          rw [putN_app, st]
          exact sl.append sx⟩
    have hty : tyV K "list" (V.ref r) H4 := .inl ⟨rfl, _, .of e3⟩
    simp only [tBM, SlX.tMethSl, tSeq, tIfS, tOr, tAnd, tNot, tB, tCB, tCons, tNil, tVar, tC, tTest, tChain, tRet, tRetN, tNext, tOp, tAndV, tOrV, tNotV, tIf, tThen, tYes, tTup, tLst, tCall, tAsg, tDrop, tDNewK, gName, gTup, gCons, gNil, rI0, rI, CMul, CDiv, tUn, rU, rEq, rNe, scal, LenV, RetB, RetD, List.set_cons_zero, List.set_cons_succ, List.getElem?_cons_zero, List.getElem?_cons_succ, Option.some.injEq, exists_eq_left', exists_eq_left, List.cons.injEq, and_true, true_and, V.int.injEq, V.str.injEq, V.bl.injEq, V.ref.injEq, if_true, if_false, Bool.not_true, Bool.not_false, reduceCtorEq, decide_true, decide_false, Bool.false_eq_true, exists_and_left, Bool.not_eq_true', decide_eq_true_eq, decide_eq_false_iff_not, rLenK, tLenSetT, List.append_nil, and_assoc, or_false, false_or, exists_false, false_and, and_false, rGetL, rSetL, gSub, tAugS, ipI, tPart, tNoPart, not_true, not_false_iff, ite_true, ite_false, List.map_cons, List.map_nil, sp_law_thing_names]
    cases d with
    | put k =>
      obtain ⟨b2, w1, w2, rfl, hb2, h1, h2⟩ := td4.two
      cases h1; cases h2
      refine ⟨hty, b2, _, 0, _, rfl, rfl, .of hb2, rfl, ?_⟩
      simp only [tBM, SlX.tMethSl, tSeq, tIfS, tOr, tAnd, tNot, tB, tCB, tCons, tNil, tVar, tC, tTest, tChain, tRet, tRetN, tNext, tOp, tAndV, tOrV, tNotV, tIf, tThen, tYes, tTup, tLst, tCall, tAsg, tDrop, tDNewK, gName, gTup, gCons, gNil, rI0, rI, CMul, CDiv, tUn, rU, rEq, rNe, scal, LenV, RetB, RetD, List.set_cons_zero, List.set_cons_succ, List.getElem?_cons_zero, List.getElem?_cons_succ, Option.some.injEq, exists_eq_left', exists_eq_left, List.cons.injEq, and_true, true_and, V.int.injEq, V.str.injEq, V.bl.injEq, V.ref.injEq, if_true, if_false, Bool.not_true, Bool.not_false, reduceCtorEq, decide_true, decide_false, Bool.false_eq_true, exists_and_left, Bool.not_eq_true', decide_eq_true_eq, decide_eq_false_iff_not, rLenK, tLenSetT, List.append_nil, and_assoc, or_false, false_or, exists_false, false_and, and_false, rGetL, rSetL, gSub, tAugS, ipI, tPart, tNoPart, not_true, not_false_iff, ite_true, ite_false, List.map_cons, List.map_nil, sp_law_thing_names, ne_cp, ne_pc, ne_dp, ne_pd, ne_cd, ne_dc]
      have hyl : ys.length = i := by rw [t3.len, l3]
      have an : atI (ns.map V.str) ((ys.length : Nat) : Int) = some (.str n) := atI_nat (by rw [List.getElem?_map, hyl, hn]; rfl)
      refine ⟨ys.length, .inl ⟨ys, .of e3, rfl⟩, ix_l (sb _ _ pr ep1) an (ix_t hb2 (atI_1 _ _ _) ⟨by show 3 ≤ _; decide, fun p5 h5 => ?_⟩)⟩
      exact fin (.put n k) _ _ ⟨no n (List.mem_of_getElem? hn), okd⟩ (sm_new h5) (.mk h5 (.cons (.str _) (.cons (.str _) (.cons (.str _) .nil)))) (.refl _)
    | call c =>
      obtain ⟨b2, w1, w2, rfl, hb2, h1, h2⟩ := td4.two
      cases h1
      refine ⟨hty, b2, _, 0, _, rfl, rfl, .of hb2, rfl, ?_⟩
      simp only [tBM, SlX.tMethSl, tSeq, tIfS, tOr, tAnd, tNot, tB, tCB, tCons, tNil, tVar, tC, tTest, tChain, tRet, tRetN, tNext, tOp, tAndV, tOrV, tNotV, tIf, tThen, tYes, tTup, tLst, tCall, tAsg, tDrop, tDNewK, gName, gTup, gCons, gNil, rI0, rI, CMul, CDiv, tUn, rU, rEq, rNe, scal, LenV, RetB, RetD, List.set_cons_zero, List.set_cons_succ, List.getElem?_cons_zero, List.getElem?_cons_succ, Option.some.injEq, exists_eq_left', exists_eq_left, List.cons.injEq, and_true, true_and, V.int.injEq, V.str.injEq, V.bl.injEq, V.ref.injEq, if_true, if_false, Bool.not_true, Bool.not_false, reduceCtorEq, decide_true, decide_false, Bool.false_eq_true, exists_and_left, Bool.not_eq_true', decide_eq_true_eq, decide_eq_false_iff_not, rLenK, tLenSetT, List.append_nil, and_assoc, or_false, false_or, exists_false, false_and, and_false, rGetL, rSetL, gSub, tAugS, ipI, tPart, tNoPart, not_true, not_false_iff, ite_true, ite_false, List.map_cons, List.map_nil, sp_law_thing_names, ne_cp, ne_pc, ne_dp, ne_pd, ne_cd, ne_dc]
      exact fin (.call c) _ _ okd (.refl _) td4 (by exact .cons _ .slnil)
  · rintro σ H3 ⟨y, rfl, sb, ys, rs, e3, t3, l3, g3, sl⟩
    have s3 := sb.same s1 hr0
    simp only [tBM, SlX.tMethSl, tSeq, tIfS, tOr, tAnd, tNot, tB, tCB, tCons, tNil, tVar, tC, tTest, tChain, tRet, tRetN, tNext, tOp, tAndV, tOrV, tNotV, tIf, tThen, tYes, tTup, tLst, tCall, tAsg, tDrop, tDNewK, gName, gTup, gCons, gNil, rI0, rI, CMul, CDiv, tUn, rU, rEq, rNe, scal, LenV, RetB, RetD, List.set_cons_zero, List.set_cons_succ, List.getElem?_cons_zero, List.getElem?_cons_succ, Option.some.injEq, exists_eq_left', exists_eq_left, List.cons.injEq, and_true, true_and, V.int.injEq, V.str.injEq, V.bl.injEq, V.ref.injEq, if_true, if_false, Bool.not_true, Bool.not_false, reduceCtorEq, decide_true, decide_false, Bool.false_eq_true, exists_and_left, Bool.not_eq_true', decide_eq_true_eq, decide_eq_false_iff_not, rLenK, tLenSetT, List.append_nil, and_assoc, or_false, false_or, exists_false, false_and, and_false, rGetL, rSetL, gSub, tAugS, ipI, tPart, tNoPart, not_true, not_false_iff, ite_true, ite_false, List.map_cons, List.map_nil, sp_law_thing_names]
    refine tuple_of e3 t3 fun v H5 s5 tv => q v rs H5 (s3.trans s5) tv (by omega) ⟨g3, ?_⟩
    exact nn.sublist (sl.trans (List.take_sublist _ _))
def sp_law_plain_log (K : PySem.W.Frag) : Sp := fun vs H Q E => ∃ x y z, vs = [x, y, z] ∧ ∃ b ks cs, ∃ m : Nat, x = .ref b ∧ BagAt H b ∧ Tp H y (dH ks cs) ∧ z = .int m ∧ m ≤ 100 ∧ ks ≠ [] ∧ cs ≠ [] ∧ ks.length ≤ 6 ∧ cs.length ≤ 8 ∧ RetG ks cs m H Q
theorem sc_law_plain_log : FnScope ["_law_bag_here", "_law_house_here", "_law_most"] ["_law_bag_here", "_law_house_here", "_law_most"] (defScope s_law_plain_log) := ⟨rfl, rfl, rfl, by decide +kernel, rfl, by decide +kernel, by decide +kernel⟩
theorem c_law_plain_log (T : Txt K mg) : C8.Cal P w K mg base 5 "_law_plain_log" (sp_law_plain_log K) [] := by
  refine T.cal 50 44 rfl rfl sc_law_plain_log
    (fun _ _ _ _ _ _ us h => match us, h with | [_, _, _], _ => rfl)
    (fun vs H Q E h => by obtain ⟨_, _, _, rfl, _⟩ := h; rfl) (fun f cdv A outer s H vs Q E hr h => ?_)
  have nd := sc_law_plain_log.nd
  refine ⟨_, (pss_one (ps_ret (pe_c (c_law_log_of T) hr (by decide) (by rfl) (pa_cons (pv 0) (pa_cons (pe_c (c_law_stretch T) hr (by decide) (by rfl) (pa_cons (pv 0) (pa_cons (pv 1) (pa_cons (pv 2) pa_nil)))) pa_nil))))), ?_⟩
  obtain ⟨v0, v1, v2, rfl, h⟩ := h
  rw [show L2.start ["_law_bag_here", "_law_house_here", "_law_most"] [v0, v1, v2] = [some v0, some v1, some v2] from rfl]
  obtain ⟨b, ks, cs, m, rfl, hb, hy, rfl, m1, kn, cn, kl, cl, q⟩ := h
  simp only [tBM, SlX.tMethSl, tSeq, tIfS, tOr, tAnd, tNot, tB, tCB, tCons, tNil, tVar, tC, tTest, tChain, tRet, tRetN, tNext, tOp, tAndV, tOrV, tNotV, tIf, tThen, tYes, tTup, tLst, tCall, tAsg, tDrop, tDNewK, gName, gTup, gCons, gNil, rI0, rI, CMul, CDiv, tUn, rU, rEq, rNe, scal, LenV, RetB, RetD, List.set_cons_zero, List.set_cons_succ, List.getElem?_cons_zero, List.getElem?_cons_succ, Option.some.injEq, exists_eq_left', exists_eq_left, List.cons.injEq, and_true, true_and, V.int.injEq, V.str.injEq, V.bl.injEq, V.ref.injEq, if_true, if_false, Bool.not_true, Bool.not_false, reduceCtorEq, decide_true, decide_false, Bool.false_eq_true, exists_and_left, Bool.not_eq_true', decide_eq_true_eq, decide_eq_false_iff_not, rLenK, tLenSetT, List.append_nil, and_assoc, or_false, false_or, exists_false, false_and, and_false, rGetL, rSetL, gSub, tAugS, ipI, tPart, tNoPart, not_true, not_false_iff, ite_true, ite_false, List.map_cons, List.map_nil, sp_law_log_of, sp_law_stretch]
  refine ⟨hb, ks, cs, hy, by omega, by omega, kn, cn, kl, cl, fun v ds H1 s1 tv dl g => ⟨hb.same s1, ks, cs, ds, tv, by omega, g, fun v2 rs H2 s2 t2 l2 g2 => q v2 rs H2 (s1.trans s2) t2 (by omega) g2⟩⟩
def sp_law_log (K : PySem.W.Frag) : Sp := fun vs H Q E => ∃ x y z, vs = [x, y, z] ∧ ∃ b ks cs, ∃ m : Nat, x = .ref b ∧ BagAt H b ∧ Tp H y (dH ks cs) ∧ z = .int m ∧ m ≤ 100 ∧ ks ≠ [] ∧ cs ≠ [] ∧ ks.length ≤ 6 ∧ cs.length ≤ 8 ∧ RetG ks cs m H Q
theorem sc_law_log : FnScope ["_law_bag_here", "_law_house_here", "_law_most", "_law_log_here", "_law_found", "_law_names", "_law_row", "_law_many", "_law_ahead", "_law_one_here", "_law_k"] ["_law_bag_here", "_law_house_here", "_law_most"] (defScope s_law_log) := ⟨rfl, rfl, rfl, by decide +kernel, rfl, by decide +kernel, by decide +kernel⟩
theorem c_law_log (T : Txt K mg) : C8.Cal P w K mg base 6 "_law_log" (sp_law_log K) [] := by
  refine T.cal 51 45 rfl rfl sc_law_log
    (fun _ _ _ _ _ _ us h => match us, h with | [_, _, _], _ => rfl)
    (fun vs H Q E h => by obtain ⟨_, _, _, rfl, _⟩ := h; rfl) (fun f cdv A outer s H vs Q E hr h => ?_)
  have nd := sc_law_log.nd
  refine ⟨_, (pss_cons (ps_par (i := 3) (j := 4) rfl nd rfl rfl (by decide) rfl rfl (pa_cons (pe_c (c_law_plain_log T) hr (by decide) (by rfl) (pa_cons (pv 0) (pa_cons (pv 1) (pa_cons (pv 2) pa_nil)))) (pa_cons (pe_lst pa_nil) pa_nil)) rfl)
     (pss_cons (ps_set (i := 5) nd rfl (.inr rfl) (pe_op op_cat (pe_lc rfl nd (k_piT K (pi_tup (pv 3))) (blkOk_by (own := [("_law_row", 6)]) (by rfl)) (fun _ _ _ _ _ => (pg_name (i := 6) nd rfl (by first | exact .inl rfl | exact .inr rfl))) (fun _ _ _ _ _ => (pts_one (pt_cmpR op_eq (pe_ix (k_ixT K) (pv 6) pe_int (fun _ _ => rfl)) pe_str rfl))) (fun _ _ _ _ _ => (pe_ix (k_ixT K) (pv 6) pe_int (fun _ _ => rfl)))) (pe_lst (pa_cons pe_str pa_nil))))
     (pss_cons (ps_for PassesOwn.never rfl (k_piL K (pi_list (pe_op op_cat (pe_callTy (k_list K) (by rfl) (T.free 59) rfl (pa_cons (pv 3) pa_nil)) (pe_lst (pa_cons pe_non pa_nil))))) (pg_name (i := 6) nd rfl (by first | exact .inl rfl | exact .inr rfl))
      (pss_cons (ps_set (i := 7) nd rfl (.inl rfl) (pe_c (c_law_one T) hr (by decide) (by rfl) (pa_cons (pv 0) (pa_cons (pe_lst (pa_cons pe_int (pa_cons pe_int (pa_cons pe_int (pa_cons pe_int (pa_cons pe_int (pa_cons pe_int (pa_cons pe_int (pa_cons pe_int (pa_cons pe_int (pa_cons pe_int pa_nil))))))))))) pa_nil))))
     (pss_cons (ps_set (i := 8) nd rfl (.inr rfl) (pe_lc rfl nd (k_piL K (pi_list (pv 4))) (blkOk_by (own := [("_law_one_here", 9)]) (by rfl)) (fun _ _ _ _ _ => (pg_name (i := 9) nd rfl (by first | exact .inl rfl | exact .inr rfl))) (fun _ _ _ _ _ => (pts_one (pt_cmpR op_eq (pe_ix (k_ixT K) (pv 9) pe_int (fun _ _ => rfl)) pe_str rfl))) (fun _ _ _ _ _ => (pe_ix (k_ixT K) (pv 9) pe_int (fun _ _ => rfl)))))
     (pss_cons (ps_expr (k_bm K (pe_bm PySem.F.plainAttrs_list PySem.F.slot_list_extend PySem.F.type_list_extend mt_extend (pv 4) (pa_cons (pe_lc rfl nd (pi_range1 (by rfl) (T.free 65) (pa_cons (pv 7) pa_nil)) (blkOk_by (own := [("_law_k", 10)]) (by rfl)) (fun _ _ _ _ _ => (pg_name (i := 10) nd rfl (by first | exact .inl rfl | exact .inr rfl))) (fun _ _ _ _ _ => pts_nil) (fun _ _ _ _ _ => (pe_tup (pa_cons pe_str (pa_cons (pe_c (c_law_one T) hr (by decide) (by rfl) (pa_cons (pv 0) (pa_cons (pe_op op_cat (pe_op op_cat (pv 8) (pv 8)) (pv 5)) pa_nil))) pa_nil))))) pa_nil))))
     (pss_one (ps_if (pt_cmpR op_notN (pv 6) pe_non rfl) (pss_one (ps_expr (k_bm K (pe_bm PySem.F.plainAttrs_list PySem.F.slot_list_append PySem.F.type_list_append mt_append (pv 4) (pa_cons (pv 6) pa_nil))))) pss_nil))))))
     (pss_one (ps_ret (pe_callTy (k_tuple K) (by rfl) (T.free 55) rfl (pa_cons (pe_slice (k_slL K) (pv 4) po_none (po_some (pv 2))) pa_nil))))))), ?_⟩
  obtain ⟨v0, v1, v2, rfl, h⟩ := h
  rw [show L2.start ["_law_bag_here", "_law_house_here", "_law_most", "_law_log_here", "_law_found", "_law_names", "_law_row", "_law_many", "_law_ahead", "_law_one_here", "_law_k"] [v0, v1, v2] = [some v0, some v1, some v2, none, none, none, none, none, none, none, none] from rfl]
  obtain ⟨b, ks, cs, m, rfl, hb, hy, rfl, m1, kn, cn, kl, cl, q⟩ := h
  simp only [tPar, tBM, SlX.tMethSl, tSeq, tIfS, tOr, tAnd, tNot, tB, tCB, tCons, tNil, tVar, tC, tTest, tChain, tRet, tRetN, tNext, tOp, tAndV, tOrV, tNotV, tIf, tThen, tYes, tTup, tLst, tCall, tAsg, tDrop, tDNewK, gName, gTup, gCons, gNil, rI0, rI, CMul, CDiv, tUn, rU, rEq, rNe, scal, LenV, RetB, RetD, List.set_cons_zero, List.set_cons_succ, List.getElem?_cons_zero, List.getElem?_cons_succ, Option.some.injEq, exists_eq_left', exists_eq_left, List.cons.injEq, and_true, true_and, V.int.injEq, V.str.injEq, V.bl.injEq, V.ref.injEq, if_true, if_false, Bool.not_true, Bool.not_false, reduceCtorEq, decide_true, decide_false, Bool.false_eq_true, exists_and_left, Bool.not_eq_true', decide_eq_true_eq, decide_eq_false_iff_not, rLenK, tLenSetT, List.append_nil, and_assoc, or_false, false_or, exists_false, false_and, and_false, rGetL, rSetL, gSub, tAugS, ipI, tPart, tNoPart, not_true, not_false_iff, ite_true, ite_false, List.map_cons, List.map_nil, sp_law_one, sp_law_plain_log]
  refine ⟨hb, ks, cs, hy, m, rfl, m1, kn, cn, kl, cl, fun v0 L H1 s1 t1 l1 g1 => ⟨Nat.zero_le _, fun r hr => ?_⟩⟩
  obtain ⟨a, xs, rfl, ea, tx⟩ := t1.tup_at
  have s2 := sm_new (o := .lst []) hr
  have hr0 := ne_none s1 hr
  have er : upd H1 r (.lst []) r = some (.lst []) := upd_same
  generalize upd H1 r (.lst []) = H2 at s2 er
  have ea2 := s2 _ _ ea
  have hxl := tx.len
  refine ⟨_, rfl, a, rfl, ⟨_, .of ea2⟩, fun D hD => lc_rel (walk_tup (xs := xs)) hD ?_ (RlF (fun x => (putN1 x).map PyData.str) L) RlF.zero (fun H s => .of (s _ _ ea2)) ?_ ?_⟩
  · exact lt1 (by omega)
  · rintro i ds x Ha Hb Qe Qs hi sm rl ⟨rfl, hx⟩ ke ks'
    obtain ⟨x1, hx1, tx1⟩ := tx.nth hx
    have td := tx1.same (s2.trans sm)
    refine ⟨rfl, ?_⟩
    simp only [tBM, SlX.tMethSl, tSeq, tIfS, tOr, tAnd, tNot, tB, tCB, tCons, tNil, tVar, tC, tTest, tChain, tRet, tRetN, tNext, tOp, tAndV, tOrV, tNotV, tIf, tThen, tYes, tTup, tLst, tCall, tAsg, tDrop, tDNewK, gName, gTup, gCons, gNil, rI0, rI, CMul, CDiv, tUn, rU, rEq, rNe, scal, LenV, RetB, RetD, List.set_cons_zero, List.set_cons_succ, List.getElem?_cons_zero, List.getElem?_cons_succ, Option.some.injEq, exists_eq_left', exists_eq_left, List.cons.injEq, and_true, true_and, V.int.injEq, V.str.injEq, V.bl.injEq, V.ref.injEq, if_true, if_false, Bool.not_true, Bool.not_false, reduceCtorEq, decide_true, decide_false, Bool.false_eq_true, exists_and_left, Bool.not_eq_true', decide_eq_true_eq, decide_eq_false_iff_not, rLenK, tLenSetT, List.append_nil, and_assoc, or_false, false_or, exists_false, false_and, and_false, rGetL, rSetL, gSub, tAugS, ipI, tPart, tNoPart, not_true, not_false_iff, ite_true, ite_false, List.map_cons, List.map_nil, sp_law_one, sp_law_plain_log, wipe]
    exact put_name td (fun n hn => ke _ _ _ (.refl _) (.str n) (rl.put hx1 (by rw [hn]; rfl))) (fun hn => ks' _ (.refl _) (rl.skip hx1 (by rw [hn]; rfl)))
  rintro H3 acc ds s3 e3 r3 rl _
  rw [rl.all (by omega), putN_strs] at r3
  have hacc := TpAll.strs.mp r3
  subst hacc
  have pl := putN_len L
  have po := putN_ok g1.1
  refine ⟨by show 1 ≤ _; decide, fun p4 h4 => ?_⟩
  have s4 := sm_new (o := .lst [V.str "nobody"]) h4
  refine ⟨D, p4, _, _, rfl, rfl, s4 _ _ e3, upd_same, by rw [List.length_map]; exact Nat.le_trans (by show _ + 1 ≤ 1000; omega) (by decide), fun p5 h5 => ?_⟩
  rw [show (putN L).map V.str ++ [V.str "nobody"] = (putN L ++ [("nobody" : Str)]).map V.str by rw [List.map_append]; rfl]
  have nall : ∀ n ∈ putN L ++ [("nobody" : Str)], okN n = true := fun n hn => by
    rcases List.mem_append.mp hn with h | h
    · exact po n h
    · rw [List.mem_singleton.mp h]; decide +kernel
  have nne : putN L ++ [("nobody" : Str)] ≠ [] := by simp
  have nlen : (putN L ++ [("nobody" : Str)]).length ≤ 101 := by rw [List.length_append]; show _ + 1 ≤ _; omega
  generalize putN L ++ [("nobody" : Str)] = ms at nall nne nlen ⊢
  have s5 := sm_new (o := .lst (ms.map V.str)) h5
  have s25 := s3.trans (s4.trans s5)
  have er5 := s25 _ _ er
  have ea5 := s25 _ _ ea2
  have e5 : upd (upd H3 p4 (.lst [V.str "nobody"])) p5 (.lst (ms.map V.str)) p5 = some (.lst (ms.map V.str)) := upd_same
  have tx5 := TpAll.same (s2.trans s25) tx
  have s05 := s1.trans (s2.trans s25)
  have p5r : p5 ≠ r := (ne_of_none ((s3.trans s4) _ _ er) h5).symm
  generalize upd (upd H3 p4 (.lst [V.str "nobody"])) p5 (.lst (ms.map V.str)) = H5 at er5 ea5 e5 tx5 s05
  refine ⟨_, rfl, a, xs, rfl, .inr (.of ea5), fun p6 h6 => ⟨by show 1 ≤ _; decide, fun p7 h7 => ?_⟩⟩
  have s6 := sm_new (o := .lst xs) h6
  have s7 := sm_new (o := .lst [V.non]) h7
  refine ⟨p6, p7, _, _, rfl, rfl, s7 _ _ upd_same, upd_same, Nat.le_trans (by show _ + 1 ≤ 1000; omega) (by decide), fun p8 h8 => ?_⟩
  have s8 := sm_new (o := .lst (xs ++ [V.non])) h8
  have s58 := s6.trans (s7.trans s8)
  have er8 := s58 _ _ er5
  have e8 := s58 _ _ e5
  have tx8 := TpAll.same s58 tx5
  have s08 := s05.trans s58
  have ex8 : upd (upd (upd H5 p6 (.lst xs)) p7 (.lst [V.non])) p8 (.lst (xs ++ [V.non])) p8 = some (.lst (xs ++ [V.non])) := upd_same
  have p8r : p8 ≠ r := (ne_of_none ((s6.trans s7) _ _ er5) h8).symm
  generalize upd (upd (upd H5 p6 (.lst xs)) p7 (.lst [V.non])) p8 (.lst (xs ++ [V.non])) = H8 at er8 e8 tx8 s08 ex8
  refine ⟨p8, rfl, ⟨_, .of ex8⟩, for_it (walk_list (xs := xs ++ [V.non])) (fun i σ H9 => ∃ x y z, σ = [some (.ref b), some v1, some (.int (m : Nat)), some (.ref a), some (.ref r), some (.ref p5), x, y, z, none, none] ∧ SameBut r H8 H9 ∧ ∃ (ys : List V) (rs : List Row), H9 r = some (.lst ys) ∧ TpAll H9 ys (rs.map dR) ∧ rs.length ≤ i * 3 ∧ (∀ x ∈ rs, okR ks cs x) ∧ putN rs = putN (L.take i)) ?_ ?_ ?_ ?_⟩
  · exact ⟨none, none, none, rfl, .of (.refl _), [], [], er8, .nil, Nat.zero_le _, fun d h => (nomatch h), rfl⟩
  · rintro i σ H9 _ ⟨x, y, z, rfl, sb, _⟩
    exact .of (sb _ _ p8r ex8)
  · rintro i x σ H9 H10 hi ⟨x0, y0, z0, rfl, sb, ys, rs, e9, t9, l9, g9, n9⟩ ⟨rfl, hx⟩
    rw [List.length_append] at hi
    have hi' : i ≤ 100 := by
      have : xs.length + 1 ≤ 101 := by omega
      have : i < xs.length + 1 := hi
      omega
    have s9 := sb.same s08 hr0
    have hy9 := hb.same s9
    simp only [tBM, SlX.tMethSl, tSeq, tIfS, tOr, tAnd, tNot, tB, tCB, tCons, tNil, tVar, tC, tTest, tChain, tRet, tRetN, tNext, tOp, tAndV, tOrV, tNotV, tIf, tThen, tYes, tTup, tLst, tCall, tAsg, tDrop, tDNewK, gName, gTup, gCons, gNil, rI0, rI, CMul, CDiv, tUn, rU, rEq, rNe, scal, LenV, RetB, RetD, List.set_cons_zero, List.set_cons_succ, List.getElem?_cons_zero, List.getElem?_cons_succ, Option.some.injEq, exists_eq_left', exists_eq_left, List.cons.injEq, and_true, true_and, V.int.injEq, V.str.injEq, V.bl.injEq, V.ref.injEq, if_true, if_false, Bool.not_true, Bool.not_false, reduceCtorEq, decide_true, decide_false, Bool.false_eq_true, exists_and_left, Bool.not_eq_true', decide_eq_true_eq, decide_eq_false_iff_not, rLenK, tLenSetT, List.append_nil, and_assoc, or_false, false_or, exists_false, false_and, and_false, rGetL, rSetL, gSub, tAugS, ipI, tPart, tNoPart, not_true, not_false_iff, ite_true, ite_false, List.map_cons, List.map_nil, sp_law_one, sp_law_plain_log]
    refine ⟨by show 10 ≤ _; decide, fun p10 h10 => ⟨hy9.same (sm_new h10), _, .inl (.of upd_same), by simp, by show 10 ≤ _; decide, fun w H11 hw s11 => ?_⟩⟩
    obtain ⟨w, rfl, w0, w2⟩ : ∃ i : Int, w = .int i ∧ 0 ≤ i ∧ i ≤ 2 := by
      simp only [List.mem_cons, List.not_mem_nil, or_false] at hw
      rcases hw with rfl | rfl | rfl | rfl | rfl | rfl | rfl | rfl | rfl | rfl <;> exact ⟨_, rfl, by decide, by decide⟩
    have s911 := (sm_new (o := .lst [V.int 0, V.int 0, V.int 1, V.int 0, V.int 0, V.int 0, V.int 2, V.int 0, V.int 0, V.int 1]) h10).trans s11
    have e11 := s911 _ _ e9
    have t11 := TpAll.same s911 t9
    have em11 := s911 _ _ (sb _ _ p5r e8)
    have hyl := t11.len
    refine ⟨_, rfl, r, rfl, ⟨_, .of e11⟩, fun D2 hD2 => lc_rel (walk_list (xs := ys)) hD2 ?_ (RlF (fun x => (putN1 x).map PyData.str) rs) RlF.zero (fun H s => .of (s _ _ e11)) ?_ ?_⟩
    · exact lt1 (by omega)
    · rintro j ds w2 Ha Hb Qe Qs hj sm rl ⟨rfl, hw2⟩ ke ks'
      obtain ⟨x1, hx1, tx1⟩ := t11.nth hw2
      have td := tx1.same sm
      refine ⟨rfl, ?_⟩
      simp only [tBM, SlX.tMethSl, tSeq, tIfS, tOr, tAnd, tNot, tB, tCB, tCons, tNil, tVar, tC, tTest, tChain, tRet, tRetN, tNext, tOp, tAndV, tOrV, tNotV, tIf, tThen, tYes, tTup, tLst, tCall, tAsg, tDrop, tDNewK, gName, gTup, gCons, gNil, rI0, rI, CMul, CDiv, tUn, rU, rEq, rNe, scal, LenV, RetB, RetD, List.set_cons_zero, List.set_cons_succ, List.getElem?_cons_zero, List.getElem?_cons_succ, Option.some.injEq, exists_eq_left', exists_eq_left, List.cons.injEq, and_true, true_and, V.int.injEq, V.str.injEq, V.bl.injEq, V.ref.injEq, if_true, if_false, Bool.not_true, Bool.not_false, reduceCtorEq, decide_true, decide_false, Bool.false_eq_true, exists_and_left, Bool.not_eq_true', decide_eq_true_eq, decide_eq_false_iff_not, rLenK, tLenSetT, List.append_nil, and_assoc, or_false, false_or, exists_false, false_and, and_false, rGetL, rSetL, gSub, tAugS, ipI, tPart, tNoPart, not_true, not_false_iff, ite_true, ite_false, List.map_cons, List.map_nil, sp_law_one, sp_law_plain_log, wipe]
      exact put_name td (fun n hn => ke _ _ _ (.refl _) (.str n) (rl.put hx1 (by rw [hn]; rfl))) (fun hn => ks' _ (.refl _) (rl.skip hx1 (by rw [hn]; rfl)))
    rintro H12 acc ds s12 e12 r12 rl _
    rw [rl.all (by omega), putN_strs] at r12
    have hacc := TpAll.strs.mp r12
    subst hacc
    have al := putN_len rs
    have ao := putN_ok g9
    have e9b := s12 _ _ e11
    have em12 := s12 _ _ em11
    have hb12 := hb.same (s9.trans (s911.trans s12))
    have D2r : r ≠ D2 := ne_of_none e11 hD2
    refine ⟨.inl ⟨rfl, _, .of e9b⟩, _, rfl, w, rfl, by omega, by omega, fun D3 hD3 => lc_rel (walk_range (lo := 0) (n := w.toNat)) hD3 (lt1 (by omega)) (fun j ds => ∃ es : List Str, ds = es.map (fun n => dR (.drop n)) ∧ ∀ n ∈ es, okN n = true) ⟨[], rfl, fun n h => nomatch h⟩ (fun _ _ => trivial) ?_ ?_⟩
    · rintro j ds w2 Ha Hb Qe Qs hj sm ⟨es, rfl, eo⟩ ⟨rfl, rfl⟩ ke ks'
      refine ⟨rfl, ?_⟩
      simp only [tBM, SlX.tMethSl, tSeq, tIfS, tOr, tAnd, tNot, tB, tCB, tCons, tNil, tVar, tC, tTest, tChain, tRet, tRetN, tNext, tOp, tAndV, tOrV, tNotV, tIf, tThen, tYes, tTup, tLst, tCall, tAsg, tDrop, tDNewK, gName, gTup, gCons, gNil, rI0, rI, CMul, CDiv, tUn, rU, rEq, rNe, scal, LenV, RetB, RetD, List.set_cons_zero, List.set_cons_succ, List.getElem?_cons_zero, List.getElem?_cons_succ, Option.some.injEq, exists_eq_left', exists_eq_left, List.cons.injEq, and_true, true_and, V.int.injEq, V.str.injEq, V.bl.injEq, V.ref.injEq, if_true, if_false, Bool.not_true, Bool.not_false, reduceCtorEq, decide_true, decide_false, Bool.false_eq_true, exists_and_left, Bool.not_eq_true', decide_eq_true_eq, decide_eq_false_iff_not, rLenK, tLenSetT, List.append_nil, and_assoc, or_false, false_or, exists_false, false_and, and_false, rGetL, rSetL, gSub, tAugS, ipI, tPart, tNoPart, not_true, not_false_iff, ite_true, ite_false, List.map_cons, List.map_nil, sp_law_one, sp_law_plain_log, wipe]
      have ea1 := sm _ _ e12
      refine ⟨D2, D2, _, _, rfl, rfl, ea1, ea1, Nat.le_trans (by rw [List.length_map]; omega : _ ≤ 1000) (by decide), fun q1 hq1 => ?_⟩
      have sq1 := sm_new (o := .lst ((putN rs).map V.str ++ (putN rs).map V.str)) hq1
      refine ⟨q1, p5, _, _, rfl, rfl, upd_same, sq1 _ _ (sm _ _ em12), Nat.le_trans (by rw [List.length_append, List.length_map, List.length_map]; omega : _ ≤ 1000) (by decide), fun q2 hq2 => ?_⟩
      have sq2 := sm_new (o := .lst ((putN rs).map V.str ++ (putN rs).map V.str ++ ms.map V.str)) hq2
      refine ⟨q2, rfl, hb12.same (sm.trans (sq1.trans sq2)), _, .inl (.of upd_same), by simp [nne], by rw [List.length_append, List.length_append, List.length_map, List.length_map]; omega, fun u Hc hu sc => ⟨by show 2 ≤ _; decide, fun q3 hq3 => ?_⟩⟩
      obtain ⟨n, rfl, on⟩ : ∃ n, u = V.str n ∧ okN n = true := by
        simp only [List.mem_append, List.mem_map] at hu
        rcases hu with (⟨n, hn, rfl⟩ | ⟨n, hn, rfl⟩) | ⟨n, hn, rfl⟩
        · exact ⟨n, rfl, ao n hn⟩
        · exact ⟨n, rfl, ao n hn⟩
        · exact ⟨n, rfl, nall n hn⟩
      refine ke _ _ _ (sq1.trans (sq2.trans (sc.trans (sm_new hq3)))) (.mk hq3 (.cons (.str _) (.cons (.str n) .nil)) : Tp _ _ (dR (.drop n))) ⟨es ++ [n], by rw [List.map_append]; rfl, fun k hk => ?_⟩
      rcases List.mem_append.mp hk with h | h
      · exact eo k h
      · rw [List.mem_singleton.mp h]; exact on
    rintro H13 acc3 ds3 s13 e13 r13 ⟨es, rfl, eo⟩ lw
    have s93 := s911.trans (s12.trans s13)
    have e9c := s93 _ _ e9
    have t13 := TpAll.same s93 t9
    have r13' : TpAll H13 acc3 ((es.map Row.drop).map dR) := by rw [List.map_map]; exact r13
    have tt := t13.app r13'
    rw [← List.map_append] at tt
    have el := r13'.len
    rw [List.length_map] at lw
    have D3r : r ≠ D3 := ne_of_none e9b hD3
    have pd : putN (rs ++ es.map Row.drop) = putN (L.take i) := by
      rw [putN_app, n9]
      have : ∀ es : List Str, putN (es.map Row.drop) = [] := fun es => by
        induction es with
        | nil => rfl
        | cons x es ih => exact ih
      rw [this, List.append_nil]
    have go : ∀ x ∈ rs ++ es.map Row.drop, okR ks cs x := fun x hx => by
      rcases List.mem_append.mp hx with h | h
      · exact g9 x h
      · obtain ⟨n, hn, rfl⟩ := List.mem_map.mp h
        exact eo n hn
    have lo : (rs ++ es.map Row.drop).length ≤ i * 3 + 2 := by
      rw [List.length_append, List.length_map]
      omega
    have t14 : TpAll (upd H13 r (.lst (ys ++ acc3))) (ys ++ acc3) ((rs ++ es.map Row.drop).map dR) := TpAll.keep (.updL e9c) tt
    have s14 : SameBut r H8 (upd H13 r (.lst (ys ++ acc3))) := (sb.trans (.of s93)).upd
    have e14 : upd H13 r (.lst (ys ++ acc3)) r = some (.lst (ys ++ acc3)) := upd_same
    rw [List.length_map] at el
    refine ⟨r, D3, ys, acc3, rfl, rfl, e9c, e13, Nat.le_trans (by omega : _ ≤ 1000) (by decide), ?_⟩
    generalize upd H13 r (.lst (ys ++ acc3)) = H14 at t14 s14 e14 ⊢
    by_cases hl : i < xs.length
    · rw [List.getElem?_append_left hl] at hx
      obtain ⟨x1, hx1, tx1⟩ := tx8.nth hx
      have nx : x ≠ V.non := fun e => by
        rw [e] at tx1
        cases x1 <;> cases tx1
      rw [if_pos nx]
      have o1 := g1.1 x1 (List.mem_of_getElem? hx1)
      have s014 := s14
      have tx14 : Tp H14 x (dR x1) := tx1.keep (s14.tk er8 (fun xs e => by cases e))
      refine ⟨.inl ⟨rfl, _, .of e14⟩, r, _, x, rfl, rfl, e14, lt1 (by rw [t14.len]; omega), s14.upd, _, upd_same, (rs ++ es.map Row.drop) ++ [x1], ?_, ?_, ?_, ?_⟩
      · rw [List.map_append (l₁ := rs ++ es.map Row.drop)]
        exact TpAll.keep (.updL e14) (t14.snoc tx14)
      · rw [List.length_append (as := rs ++ es.map Row.drop)]
        show _ + 1 ≤ _
        omega
      · intro z hz
        rcases List.mem_append.mp hz with h | h
        · exact go z h
        · rw [List.mem_singleton.mp h]; exact o1
      · rw [putN_app (rs ++ es.map Row.drop), pd, ← putN_app, List.take_add_one, hx1]
        rfl
    · obtain rfl : i = xs.length := by
        have : i < xs.length + 1 := hi
        omega
      rw [List.getElem?_append_right (Nat.le_refl _), Nat.sub_self] at hx
      obtain rfl : V.non = x := Option.some.inj hx
      rw [if_neg (fun h => h rfl)]
      refine ⟨s14, _, e14, _, t14, by omega, go, ?_⟩
      rw [pd, List.take_of_length_le (by omega), List.take_of_length_le (by omega)]
  · rintro σ H9 ⟨x, y, z, rfl, sb, ys, rs, e9, t9, l9, g9, n9⟩
    have s9 := sb.same s08 hr0
    simp only [tSl, tBM, SlX.tMethSl, tSeq, tIfS, tOr, tAnd, tNot, tB, tCB, tCons, tNil, tVar, tC, tTest, tChain, tRet, tRetN, tNext, tOp, tAndV, tOrV, tNotV, tIf, tThen, tYes, tTup, tLst, tCall, tAsg, tDrop, tDNewK, gName, gTup, gCons, gNil, rI0, rI, CMul, CDiv, tUn, rU, rEq, rNe, scal, LenV, RetB, RetD, List.set_cons_zero, List.set_cons_succ, List.getElem?_cons_zero, List.getElem?_cons_succ, Option.some.injEq, exists_eq_left', exists_eq_left, List.cons.injEq, and_true, true_and, V.int.injEq, V.str.injEq, V.bl.injEq, V.ref.injEq, if_true, if_false, Bool.not_true, Bool.not_false, reduceCtorEq, decide_true, decide_false, Bool.false_eq_true, exists_and_left, Bool.not_eq_true', decide_eq_true_eq, decide_eq_false_iff_not, rLenK, tLenSetT, List.append_nil, and_assoc, or_false, false_or, exists_false, false_and, and_false, rGetL, rSetL, gSub, tAugS, ipI, tPart, tNoPart, not_true, not_false_iff, ite_true, ite_false, List.map_cons, List.map_nil, sp_law_one, sp_law_plain_log]
    refine ⟨r, ys, rfl, .of e9, fun q1 hq1 => ?_⟩
    rw [cut_to (by omega), Int.toNat_natCast]
    have sq := sm_new (o := .lst (ys.take m)) hq1
    have tq : TpAll (upd H9 q1 (.lst (ys.take m))) (ys.take m) ((rs.take m).map dR) := by
      rw [List.map_take]
      exact TpAll.same sq (t9.take m)
    refine tuple_of upd_same tq fun v H11 s11 tv => q v _ H11 (s9.trans (sq.trans s11)) tv (by rw [List.length_take]; omega) ⟨fun z hz => g9 z (List.mem_of_mem_take hz), ?_⟩
    refine List.Nodup.sublist (putN_sub (List.take_sublist _ _)) ?_
    rw [n9]
    exact g1.2.sublist (putN_sub (List.take_sublist _ _))
end
end C9
/-! ## S6 -/
set_option maxHeartbeats 4000000
namespace C9
open PySem PySem.Spec PyProof.Rows L2
open PySem.W (dataLt keyToks keyToksAll)
/-! ### the order tells texts and calls apart -/
theorem toks_inj {a b : PyData} (h1 : dataLt a b = false) (h2 : dataLt b a = false) : keyToks a = keyToks b := (listOrd itemOrd).total _ _ h1 h2
theorem strs_toks : ∀ {a b : List Str}, keyToksAll (a.map .str) = keyToksAll (b.map .str) → a = b
  | [], [], _ => rfl
  | [], _ :: _, h => by simp [keyToksAll] at h
  | _ :: _, [], h => by simp [keyToksAll] at h
  | x :: a, y :: b, h => by
    simp only [List.map_cons, keyToksAll, keyToks, List.cons_append, List.nil_append, List.cons.injEq, true_and, Sum.inr.injEq] at h
    rw [PySem.W.str_of_cps h.1, strs_toks h.2]
theorem dS_apart (a b : List Str) (h1 : dataLt (dS a) (dS b) = false) (h2 : dataLt (dS b) (dS a) = false) : a = b := by
  have h := toks_inj h1 h2
  simp only [keyToks] at h
  exact strs_toks h
theorem str_apart (a b : Str) (h1 : dataLt (.str a) (.str b) = false) (h2 : dataLt (.str b) (.str a) = false) : a = b := by
  have h := toks_inj h1 h2
  simp only [keyToks, List.cons.injEq, and_true, Sum.inr.injEq] at h
  exact PySem.W.str_of_cps h
/-- a house of calls sorted -/
theorem goodH_sorted {ks : List Str} {cs : List (List Str)} (hn : okNs ks = true) (nd : cs.Nodup) (h1 : 1 ≤ cs.length) (h8 : cs.length ≤ 8) (hp : ∀ c ∈ cs, (ks.filter fun k => decide (k ∈ c)) = c ∧ c ≠ []) (hc : ∀ k ∈ ks, ∃ c ∈ cs, k ∈ c) : GoodH ks (sortG dS cs) := by
  have pm := sortG_perm dS cs
  refine ⟨hn, by rw [pm.length_eq]; exact h1, by rw [pm.length_eq]; exact h8, fun c h => hp c (pm.mem_iff.mp h), fun i a b ha hb => ?_, fun k hk => ?_⟩
  · have pw := sortG_pw dS cs
    have hi : i + 1 < (sortG dS cs).length := (List.getElem?_eq_some_iff.mp hb).1
    have le := (List.pairwise_iff_getElem.mp pw) i (i + 1) (by omega) hi (by omega)
    rw [(List.getElem?_eq_some_iff.mp ha).2, (List.getElem?_eq_some_iff.mp hb).2] at le
    have ne : a ≠ b := fun e => by
      obtain ⟨h1', e1⟩ := List.getElem?_eq_some_iff.mp ha
      obtain ⟨h2', e2⟩ := List.getElem?_eq_some_iff.mp hb
      have := (List.getElem_inj (pm.nodup_iff.mpr nd)).mp (e1.trans (e.trans e2.symm))
      omega
    unfold leG at le
    unfold ltS
    cases q : dataLt (dS a) (dS b) with
    | true => rfl
    | false => exact absurd (dS_apart a b q (by simpa using le)) ne
  · obtain ⟨c, h, hk⟩ := hc k hk
    exact ⟨c, pm.mem_iff.mpr h, hk⟩
/-- kinds renamed: parts stay parts -/
theorem part_map {α : Type} [DecidableEq α] {f : α → Str} : ∀ {ks : List α} {c : List α}, (∀ a ∈ ks, ∀ b ∈ c, f a = f b → a = b) → ((ks.map f).filter fun k => decide (k ∈ c.map f)) = (ks.filter fun k => decide (k ∈ c)).map f
  | [], _, _ => rfl
  | k :: ks, c, h => by
    have ih := part_map (f := f) (ks := ks) (c := c) fun a ha => h a (List.mem_cons_of_mem _ ha)
    rw [List.map_cons, List.filter_cons, List.filter_cons, ih]
    by_cases q : k ∈ c
    · rw [if_pos (by simpa using ⟨k, q, rfl⟩), if_pos (by simpa using q), List.map_cons]
    · rw [if_neg, if_neg (by simpa using q)]
      simp only [decide_eq_true_eq]
      intro m
      obtain ⟨b, hb, e⟩ := List.mem_map.mp m
      exact q (h k List.mem_cons_self b hb e.symm ▸ hb)
/-- a call of ascending numbers is its own part -/
theorem asc_filter : ∀ {ns c : List Int}, ns.Pairwise (· < ·) → c.Pairwise (· < ·) → (∀ k ∈ c, k ∈ ns) → (ns.filter fun k => decide (k ∈ c)) = c
  | [], [], _, _, _ => rfl
  | [], x :: c, _, _, h => absurd (h x List.mem_cons_self) (by simp)
  | n :: ns, [], _, _, _ => List.filter_eq_nil_iff.mpr fun a _ => by simp
  | n :: ns, x :: c, hn, hc, h => by
    have n1 := List.pairwise_cons.mp hn
    have c1 := List.pairwise_cons.mp hc
    rcases List.mem_cons.mp (h x List.mem_cons_self) with e | m
    · subst e
      rw [List.filter_cons, if_pos (by simp)]
      have ih := asc_filter n1.2 c1.2 fun k hk => by
        rcases List.mem_cons.mp (h k (List.mem_cons_of_mem _ hk)) with e | m
        · have := c1.1 k hk
          omega
        · exact m
      refine congrArg (x :: ·) (Eq.trans (List.filter_congr fun k hk => ?_) ih)
      have := n1.1 k hk
      have ne : k ≠ x := by omega
      simp [ne]
    · have hlt := n1.1 x m
      rw [List.filter_cons, if_neg]
      · refine asc_filter n1.2 hc fun k hk => ?_
        rcases List.mem_cons.mp (h k hk) with e | m
        · rcases List.mem_cons.mp hk with e2 | hk
          · omega
          · have := c1.1 k hk
            omega
        · exact m
      · simp only [decide_eq_true_eq]
        intro hm
        rcases List.mem_cons.mp hm with e | hm
        · omega
        · have := c1.1 n hm
          omega
end C9
/-! ## Z1 -/
set_option maxHeartbeats 4000000
namespace C9
open PySem PySem.Spec PyProof.Rows L2
/-! ### list(zip(a, b)): the pairs stay out, so each is a new tuple -/
section
variable {prog : Program} {w : World} {A : Around} {E : Value → Shared → Prop} {s : Shared} {z TI TO T i1 i2 : Addr} {fp1 fp2 : List Addr} {n1 n2 i : Nat} {P1 P2 : Nat → Value → Prop} {St1 St2 : Nat → Heap → Prop} {f : Bool} {oT : Obj}
theorem out_item {Q : Value → Shared → Prop} (S : ZipSep2 z TI TO i1 i2 fp1 fp2) (D1 : Draws prog w A i1 fp1 n1 P1 St1) (D2 : Draws prog w A i2 fp2 n2 P2 St2)
    (hz : IsZipHeld s.heap z TI TO T f) (hT : s.heap.get? T = some oT) (hTI : IsTupOf2 s.heap TI (.ref i1) (.ref i2)) (st1 : St1 i s.heap) (st2 : St2 i s.heap) (l1 : i < n1) (l2 : i < n2)
    (hQ : ∀ x y h' tk, P1 i x → P2 i y → IsZipHeld h' z TI TO T true → St1 (i + 1) h' → St2 (i + 1) h' → IsTupOf2 h' s.heap.objs.size x y → (∀ c o, c ≠ z → c ≠ i1 → c ≠ i2 → s.heap.get? c = some o → h'.get? c = some o) → Q (.ref s.heap.objs.size) { s with heap := h', toks := tk }) :
    wpAny (model prog w) A (Builtin.«zip.__next__» ⟨[.ref z], []⟩) (fun fin s' => ∃ v, fin = .done (.ret v) ∧ Q v s') E s := by
  have i1z : i1 ≠ z := fun e => S.zf1 (e ▸ S.mem1)
  have i2z : i2 ≠ z := fun e => S.zf2 (e ▸ S.mem2)
  have i12 : i1 ≠ i2 := fun e => S.sep1_2 (e ▸ S.mem2)
  show wpAny _ _ (field (.ref z) 2 >>= _) _ _ _
  refine wpAny_bind (wpAny_field hz rfl (x := .bool false) rfl ?_)
  show wpAny _ _ (field (.ref z) 3 >>= _) _ _ _
  refine wpAny_bind (wpAny_field hz rfl (x := .ref TI) rfl ?_)
  refine wpAny_bind (wpAny_seqItems hTI rfl ?_)
  show wpAny _ _ (Builtin.SmallTypes.ownedTupleIsFree (.ref z) >>= _) _ _ _
  refine wpAny_bind (wpAny_tupleHeld_zip hz hT fun h1 hz1 b1 => ?_)
  simp only [Bool.false_eq_true, if_false]
  refine wpAny_bind ?_
  rw [← Array.forIn_toList]
  simp only [List.forIn_cons, List.forIn_nil]
  refine wpAny_bind (wpAny_bind (wpAny_holding ?_))
  show wpAny _ _ (Builtin.SmallTypes.nextOf (.ref i1) >>= _) _ _ _
  refine wpAny_bind (D1.item i { s with heap := h1 } _ _ l1 (D1.over st1 b1 S.zf1) fun x h2 tk2 px st1' b2 => wpAny_pure ?_)
  refine wpAny_pure ?_
  refine wpAny_bind (wpAny_bind (wpAny_holding ?_))
  show wpAny _ _ (Builtin.SmallTypes.nextOf (.ref i2) >>= _) _ _ _
  refine wpAny_bind (D2.item i { s with heap := h2, toks := tk2 } _ _ l2 (D2.over (D2.over st2 b1 S.zf2) b2 S.sep1_2) fun y h3 tk3 py st2' b3 => wpAny_pure ?_)
  refine wpAny_pure (wpAny_pure ?_)
  show wpAny _ _ (newTuple [x, y] >>= _) _ _ _
  refine wpAny_bind (wpAny_newTuple ?_)
  have hsz : h3.objs.size = s.heap.objs.size := by
    have e1 : h1.objs.size = s.heap.objs.size := b1.1
    have e2 : h2.objs.size = h1.objs.size := b2.1
    have e3 : h3.objs.size = h2.objs.size := b3.1
    rw [e3, e2, e1]
  have hz3 : IsZipHeld h3 z TI TO T true := b3.extBut _ _ i2z.symm (b2.extBut _ _ i1z.symm hz1)
  have hk : ∀ c o, c ≠ z → c ≠ i1 → c ≠ i2 → s.heap.get? c = some o → h3.get? c = some o := fun c o c1 c2 c3 e => b3.extBut _ _ c3 (b2.extBut _ _ c2 (b1.extBut _ _ c1 e))
  have st13 : St1 (i + 1) h3 := D1.over st1' b3 S.sep2_1
  refine wpAny_pure ⟨_, rfl, ?_⟩
  show Q (.ref h3.objs.size) _
  have hp : IsTupOf2 (h3.push { cls := .type "tuple", data := .seq #[x, y] }) h3.objs.size x y := Heap.get?_push_size _ rfl
  rw [hsz] at hp ⊢
  exact hQ x y _ _ px py (Heap.get?_push_of_some _ hz3) (D1.frame _ _ _ st13 fun b _ o e => Heap.get?_push_of_some _ e) (D2.frame _ _ _ st2' fun b _ o e => Heap.get?_push_of_some _ e) hp fun c o c1 c2 c3 e => Heap.get?_push_of_some _ (hk c o c1 c2 c3 e)
theorem out_end {Q : Fin → Shared → Prop} (S : ZipSep2 z TI TO i1 i2 fp1 fp2) (D1 : Draws prog w A i1 fp1 n1 P1 St1) (D2 : Draws prog w A i2 fp2 n2 P2 St2)
    (hz : IsZipHeld s.heap z TI TO T f) (hT : s.heap.get? T = some oT) (hTI : IsTupOf2 s.heap TI (.ref i1) (.ref i2)) (st1 : St1 i s.heap) (st2 : St2 i s.heap) (l1 : i ≤ n1) (l2 : i ≤ n2) (he : i = n1 ∨ i = n2)
    (hE : ∀ h' tk e, (∀ c o, c ≠ z → c ≠ i1 → c ≠ i2 → s.heap.get? c = some o → h'.get? c = some o) → (∃ o, h'.get? e = some o ∧ o.cls = .type "StopIteration") → E (.ref e) { s with heap := h', toks := tk }) :
    wpAny (model prog w) A (Builtin.«zip.__next__» ⟨[.ref z], []⟩) Q E s := by
  show wpAny _ _ (field (.ref z) 2 >>= _) _ _ _
  refine wpAny_bind (wpAny_field hz rfl (x := .bool false) rfl ?_)
  show wpAny _ _ (field (.ref z) 3 >>= _) _ _ _
  refine wpAny_bind (wpAny_field hz rfl (x := .ref TI) rfl ?_)
  refine wpAny_bind (wpAny_seqItems hTI rfl ?_)
  show wpAny _ _ (Builtin.SmallTypes.ownedTupleIsFree (.ref z) >>= _) _ _ _
  refine wpAny_bind (wpAny_tupleHeld_zip hz hT fun h1 hz1 b1 => ?_)
  simp only [Bool.false_eq_true, if_false]
  refine wpAny_bind ?_
  rw [← Array.forIn_toList]
  simp only [List.forIn_cons, List.forIn_nil]
  refine wpAny_bind (wpAny_bind (wpAny_holding ?_))
  show wpAny _ _ (Builtin.SmallTypes.nextOf (.ref i1) >>= _) _ _ _
  by_cases q : i = n1
  · subst q
    refine wpAny_bind (D1.done { s with heap := h1 } _ _ (D1.over st1 b1 S.zf1) fun h2 e b2 he => ?_)
    exact hE h2 _ e (fun c o c1 c2 _ x => b2 _ _ c2 (b1.extBut _ _ c1 x)) he
  · obtain rfl : i = n2 := he.resolve_left q
    refine wpAny_bind (D1.item i { s with heap := h1 } _ _ (by omega) (D1.over st1 b1 S.zf1) fun x h2 tk2 px st1' b2 => wpAny_pure ?_)
    refine wpAny_pure ?_
    refine wpAny_bind (wpAny_bind (wpAny_holding ?_))
    show wpAny _ _ (Builtin.SmallTypes.nextOf (.ref i2) >>= _) _ _ _
    refine wpAny_bind (D2.done { s with heap := h2, toks := tk2 } _ _ (D2.over (D2.over st2 b1 S.zf2) b2 S.sep1_2) fun h3 e b3 he => ?_)
    exact hE h3 _ e (fun c o c1 c2 c3 x => b3 _ _ c3 (b2.extBut _ _ c2 (b1.extBut _ _ c1 x))) he
end
section
variable {prog : Program} {w : World} {A : Around} {E : Value → Shared → Prop} {s : Shared} {z TI TO T i1 i2 : Addr} {fp1 fp2 : List Addr} {n1 n2 i : Nat} {P1 P2 : Nat → Value → Prop} {St1 St2 : Nat → Heap → Prop} {f : Bool} {oT : Obj}
theorem out_next {Q : Option Value → Shared → Prop} (S : ZipSep2 z TI TO i1 i2 fp1 fp2) (D1 : Draws prog w A.in1 i1 fp1 n1 P1 St1) (D2 : Draws prog w A.in1 i2 fp2 n2 P2 St2)
    (hz : IsZipHeld s.heap z TI TO T f) (hT : s.heap.get? T = some oT) (hTI : IsTupOf2 s.heap TI (.ref i1) (.ref i2)) (st1 : St1 i s.heap) (st2 : St2 i s.heap) (l1 : i < n1) (l2 : i < n2)
    (hQ : ∀ x y h' tk, P1 i x → P2 i y → IsZipHeld h' z TI TO T true → St1 (i + 1) h' → St2 (i + 1) h' → IsTupOf2 h' s.heap.objs.size x y → (∀ c o, c ≠ z → c ≠ i1 → c ≠ i2 → s.heap.get? c = some o → h'.get? c = some o) → Q (some (.ref s.heap.objs.size)) { s with heap := h', toks := tk }) :
    wpAny (model prog w) A (pyNext (.ref z)) Q E s := by
  have hTy : s.TypeIs (.ref z) "zip" := ⟨_, hz, rfl⟩
  unfold pyNext
  exact wpAny_bind (wpAny_attempt (wpAny_callSpecial?_slot (name := Str.ofString "__next__") hTy F.slot_zip_next
    (wpAny_call_entry F.slot_zip_next hTy F.entry_zip_next (out_item S D1 D2 hz hT hTI st1 st2 l1 l2 fun x y h' tk a1 a2 a3 a4 a5 a6 a7 => wpAny_pure (hQ x y h' tk a1 a2 a3 a4 a5 a6 a7)) (F.args_zip_next_1 _))))
theorem out_stop {Q : Option Value → Shared → Prop} (S : ZipSep2 z TI TO i1 i2 fp1 fp2) (D1 : Draws prog w A.in1 i1 fp1 n1 P1 St1) (D2 : Draws prog w A.in1 i2 fp2 n2 P2 St2)
    (hz : IsZipHeld s.heap z TI TO T f) (hT : s.heap.get? T = some oT) (hTI : IsTupOf2 s.heap TI (.ref i1) (.ref i2)) (st1 : St1 i s.heap) (st2 : St2 i s.heap) (l1 : i ≤ n1) (l2 : i ≤ n2) (he : i = n1 ∨ i = n2)
    (hQ : ∀ h' tk, (∀ c o, c ≠ z → c ≠ i1 → c ≠ i2 → s.heap.get? c = some o → h'.get? c = some o) → Q none { s with heap := h', toks := tk }) :
    wpAny (model prog w) A (pyNext (.ref z)) Q E s := by
  have hTy : s.TypeIs (.ref z) "zip" := ⟨_, hz, rfl⟩
  unfold pyNext
  refine wpAny_bind (wpAny_attempt (wpAny_callSpecial?_slot (name := Str.ofString "__next__") hTy F.slot_zip_next
    (wpAny_call_entry F.slot_zip_next hTy F.entry_zip_next (out_end S D1 D2 hz hT hTI st1 st2 l1 l2 he fun h' tk e hk he => ?_) (F.args_zip_next_1 _))))
  obtain ⟨o, ho, hc⟩ := he
  refine wpAny_bind (wpAny_isInstance (T := "StopIteration") (b := true) ⟨o, ho, hc⟩ isSubtype_stop ?_)
  exact wpAny_pure (hQ _ _ hk)
end
end C9
/-! ## Z2 -/
set_option maxHeartbeats 4000000
namespace C9
open PySem PySem.Spec PyProof.Rows L2
section
variable {X : Cx} {A : Around} {pins : List (Addr × Obj)} {σ : L2.St} {z TI TO i1 i2 L : Addr} {fp1 fp2 : List Addr} {n1 n2 : Nat} {St1 St2 : Nat → Heap → Prop} {its1 its2 : List Value} {xs ys : List V} {R : Result → Shared → Prop} {res : Value}
/-- how the zip stands behind i turns -/
def ZipAt (z TI TO i1 i2 : Addr) (St1 St2 : Nat → Heap → Prop) (H : Hp) (i : Nat) (h : Heap) : Prop := IsTupOf2 h TI (.ref i1) (.ref i2) ∧ St1 i h ∧ St2 i h ∧ (∃ o, h.get? TO = some o) ∧
  ((IsZip h z TI TO .none ∧ ∃ a b, IsTupOf2 h TO a b) ∨ ∃ T f us, IsZipHeld h z TI TO T f ∧ H T = some (.tup us))
def PairsAt (xs ys : List V) (H : Hp) (ps : List Addr) : Prop := ∀ (j : Nat) (p : Addr), ps[j]? = some p → ∃ x y, xs[j]? = some x ∧ ys[j]? = some y ∧ H p = some (.tup [x, y])
theorem zip_loop (S : ZipSep2 z TI TO i1 i2 fp1 fp2) (D1 : Draws X.prog X.w A.in1.in1 i1 fp1 n1 (fun i v => its1[i]? = some v) St1) (D2 : Draws X.prog X.w A.in1.in1 i2 fp2 n2 (fun i v => its2[i]? = some v) St2)
    (Lf1 : L ∉ fp1) (Lf2 : L ∉ fp2) (LT : L ≠ TI) (LO : L ≠ TO) (Lz : L ≠ z) (v1 : Vals xs its1) (v2 : Vals ys its2) (hn : min n1 n2 ≤ 1000) :
    ∀ (k i : Nat) (s : Shared) (H : Hp) (ps : List Addr), min n1 n2 - i = k → i ≤ min n1 n2 → Inv X pins σ H s → (∀ b ∈ [z, TO, i1, i2], FpOk X pins H b) → ZipAt z TI TO i1 i2 St1 St2 H i s.heap → H L = some (.lst (ps.map V.ref)) → ps.length = i → PairsAt xs ys H ps →
    (∀ s' H' ps', Inv X pins σ H' s' → SameBut L H H' → H' L = some (.lst (ps'.map V.ref)) → ps'.length = min n1 n2 → PairsAt xs ys H' ps' → R (.ok (.ret res)) s') →
    codeAny (model X.prog X.w) A (.builtin "list.extend.loop" ⟨[.ref L, .ref z, res], []⟩) R s := by
  have Li1 : L ≠ i1 := fun e => Lf1 (e ▸ S.mem1)
  have Li2 : L ≠ i2 := fun e => Lf2 (e ▸ S.mem2)
  intro k
  induction k with
  | zero =>
    intro i s H ps hk hi I hf hz hL hl hp hR
    obtain rfl : i = min n1 n2 := by omega
    obtain ⟨hTI, st1, st2, hO, hz⟩ := hz
    refine codeAny_builtin F.entry_extend_loop ?_
    rw [Around.under_plainId F.plain_extend_loop _]
    show wpAny _ A.in1 (pyNext (.ref z) >>= _) _ _ s
    have fin : ∀ h' tk, (∀ c o, c ∉ [z, TO, i1, i2] → s.heap.get? c = some o → h'.get? c = some o) → R (.ok (.ret res)) { s with heap := h', toks := tk } := fun h' tk hk =>
      hR _ H ps (I.turnedL hk hf) (.of (.refl _)) hL hl hp
    have he : min n1 n2 = n1 ∨ min n1 n2 = n2 := by omega
    rcases hz with ⟨hz, a, b, hTO⟩ | ⟨T, f, us, hz, hT⟩
    · refine wpAny_bind (wpAny_pyNext_zipD2_end S D1 D2 hz hTI hTO st1 st2 (by omega) (by omega) he fun h' tk hk => ?_)
      exact wpAny_pure (fin h' tk fun c o hc e => hk c o (fun q => hc (by simp [q])) (fun q => hc (by simp [q])) (fun q => hc (by simp [q])) (fun q => hc (by simp [q])) e)
    · obtain ⟨_, _, ⟨oT, eT, _⟩, _⟩ := I.tuple (.of hT)
      refine wpAny_bind (out_stop S D1 D2 hz eT hTI st1 st2 (by omega) (by omega) he fun h' tk hk => ?_)
      exact wpAny_pure (fin h' tk fun c o hc e => hk c o (fun q => hc (by simp [q])) (fun q => hc (by simp [q])) (fun q => hc (by simp [q])) e)
  | succ k ih =>
    intro i s H ps hk hi I hf hz hL hl hp hR
    have hlt : i < min n1 n2 := by omega
    obtain ⟨hTI, st1, st2, hO, hz⟩ := hz
    refine codeAny_builtin F.entry_extend_loop ?_
    rw [Around.under_plainId F.plain_extend_loop _]
    show wpAny _ A.in1 (pyNext (.ref z) >>= _) _ _ s
    have go : ∀ (u1 u2 : Value) (h' : Heap) (tk : Nat) (f : Bool) (T0 : Addr) (us0 : List V), (T0 = s.heap.objs.size ∨ H T0 = some (.tup us0)) → its1[i]? = some u1 → its2[i]? = some u2 → IsZipHeld h' z TI TO T0 f → St1 (i + 1) h' → St2 (i + 1) h' → IsTupOf2 h' s.heap.objs.size u1 u2 → (∃ o, h'.get? TO = some o) →
        (∀ c o, c ∉ [z, TO, i1, i2] → s.heap.get? c = some o → h'.get? c = some o) →
        wpAny (model X.prog X.w) A.in1 (updateSeq L (·.push (.ref s.heap.objs.size)) >>= fun _ => again (.builtin "list.extend.loop" ⟨[.ref L, .ref z, res], []⟩))
          (fun fin s' => match fin with | .done f => R (.ok f) s' | .again c' => c'.quiet = true ∧ codeAny (model X.prog X.w) A c' R s') (fun e s' => R (.error e) s') { s with heap := h', toks := tk } := by
      intro u1 u2 h' tk f T0 us0 hT0 e1 e2 hz' st1' st2' hT hO' hk'
      obtain ⟨x, hx, rx⟩ : ∃ x, xs[i]? = some x ∧ RelV x u1 := by
        have hlen : i < xs.length := by rw [v1.length]; exact (List.getElem?_eq_some_iff.mp e1).1
        obtain ⟨u, hu, r⟩ := v1.get (List.getElem?_eq_getElem hlen)
        rw [e1] at hu
        cases hu
        exact ⟨_, List.getElem?_eq_getElem hlen, r⟩
      obtain ⟨y, hy, ry⟩ : ∃ y, ys[i]? = some y ∧ RelV y u2 := by
        have hlen : i < ys.length := by rw [v2.length]; exact (List.getElem?_eq_some_iff.mp e2).1
        obtain ⟨u, hu, r⟩ := v2.get (List.getElem?_eq_getElem hlen)
        rw [e2] at hu
        cases hu
        exact ⟨_, List.getElem?_eq_getElem hlen, r⟩
      have new : ObjOk X.prog X.w (upd H s.heap.objs.size (.tup [x, y])) h' s.heap.objs.size (.tup [x, y]) :=
        ⟨by show 2 ≤ _; decide, [u1, u2], .cons rx (.cons ry .nil), ⟨_, hT, rfl, _, rfl⟩⟩
      have I1 : Inv X pins σ (upd H s.heap.objs.size (.tup [x, y])) { s with heap := h', toks := tk } := I.turnedNew hk' hf (Nat.le_refl _) new
      have hfr : H s.heap.objs.size = none := I.hok.fresh (Nat.le_refl _)
      have nL : L ≠ s.heap.objs.size := ne_of_none hL hfr
      have hL1 : upd H s.heap.objs.size (.tup [x, y]) L = some (.lst (ps.map V.ref)) := by rw [upd_ne nL]; exact hL
      obtain ⟨zl, its, n, rv, hln, eL⟩ := I1.lstM hL1
      have hps : its.length = i := by rw [← rv.length, List.length_map, hl]
      have lim : (1000 : Nat) < sizeLine := by decide
      refine wpAny_bind ?_
      refine wpAny_updateSeq eL rfl (wpAny_pure ⟨plainId_quiet F.plain_extend_loop _, ?_⟩)
        (by rw [List.size_toArray, hps]; omega) (by rw [Array.size_push, List.size_toArray, hps]; omega)
      have I2 : Inv X pins σ (upd (upd H s.heap.objs.size (.tup [x, y])) L (.lst ((ps ++ [s.heap.objs.size]).map V.ref))) { s with heap := h'.update L (Obj.mapSeq (·.push (.ref s.heap.objs.size))), toks := tk } := by
        refine I1.lset (its' := its ++ [.ref s.heap.objs.size]) (t' := tk) hL1 eL (by simp) ?_ ?_
        · rw [List.map_append]
          exact rv.append (.cons rfl .nil)
        · rw [List.length_map, List.length_append, hl]
          show i + 1 ≤ sizeLine
          omega
      have oth : ∀ b o, b ≠ L → h'.get? b = some o → (h'.update L (Obj.mapSeq (·.push (.ref s.heap.objs.size)))).get? b = some o := fun b o hb e => (Heap.get?_update_other _ _ (Ne.symm hb)).trans e
      have nT : s.heap.objs.size ≠ L := nL.symm
      have fresh2 : ∀ b, H b = none → b ≠ s.heap.objs.size → upd (upd H s.heap.objs.size (.tup [x, y])) L (.lst ((ps ++ [s.heap.objs.size]).map V.ref)) b = none := fun b hb h2 => by
        rw [upd_ne (ne_of_none hL hb).symm, upd_ne h2]
        exact hb
      have hTI' : h'.get? TI = some _ := hk' TI _ (by
        intro hm
        simp only [List.mem_cons, List.not_mem_nil, or_false] at hm
        rcases hm with e | e | e | e
        · exact S.TIz e
        · exact S.TITO e
        · exact S.TIi1 e
        · exact S.TIi2 e) hTI
      refine ih (i + 1) { s with heap := h'.update L (Obj.mapSeq (·.push (.ref s.heap.objs.size))), toks := tk } _ (ps ++ [s.heap.objs.size]) (by omega) hlt I2 (fun b hb => ?_) ⟨oth _ _ LT.symm hTI', ?_, ?_, hO'.imp fun o e => oth _ _ LO.symm e, .inr ⟨T0, f, if T0 = s.heap.objs.size then [x, y] else us0, oth _ _ Lz.symm hz', ?_⟩⟩ upd_same (by rw [List.length_append, hl]; rfl) ?_ ?_
      · have q := hf b hb
        refine ⟨fresh2 b q.1 (fun e => ?_), q.2⟩
        have hbs : ∃ o, s.heap.get? b = some o := by
          simp only [List.mem_cons, List.not_mem_nil, or_false] at hb
          rcases hb with rfl | rfl | rfl | rfl
          · rcases hz with ⟨hz, _⟩ | ⟨_, _, _, hz, _⟩
            · exact ⟨_, hz⟩
            · exact ⟨_, hz⟩
          · exact hO
          · exact D1.live _ _ st1
          · exact D2.live _ _ st2
        obtain ⟨o, ho⟩ := hbs
        have := Heap.lt_size ho
        rw [e] at this
        exact Nat.lt_irrefl _ this
      · exact D1.frame _ _ _ st1' fun b hb o e => oth b o (fun q => Lf1 (q ▸ hb)) e
      · exact D2.frame _ _ _ st2' fun b hb o e => oth b o (fun q => Lf2 (q ▸ hb)) e
      · by_cases q : T0 = s.heap.objs.size
        · rw [if_pos q, q, upd_ne nT, upd_same]
        · have hq := hT0.resolve_left q
          rw [if_neg q, upd_ne, upd_ne q]
          · exact hq
          · intro e
            rw [e, hL] at hq
            cases hq
      · intro j p hj
        by_cases hlt2 : j < ps.length
        · rw [List.getElem?_append_left hlt2] at hj
          obtain ⟨x', y', a1, a2, a3⟩ := hp j p hj
          refine ⟨x', y', a1, a2, ?_⟩
          rw [upd_ne, upd_ne (ne_of_none a3 hfr)]
          · exact a3
          · intro e
            rw [e, hL] at a3
            cases a3
        · have hj2 := (List.getElem?_append_right (by omega)).symm.trans hj
          obtain rfl : j = ps.length := by
            have := (List.getElem?_eq_some_iff.mp hj).1
            rw [List.length_append] at this
            simp only [List.length_singleton] at this
            omega
          rw [Nat.sub_self] at hj2
          obtain rfl : s.heap.objs.size = p := Option.some.inj hj2
          refine ⟨x, y, by rw [hl]; exact hx, by rw [hl]; exact hy, ?_⟩
          rw [upd_ne nT, upd_same]
      · intro s' H' ps' I' sb hL' hl' hp'
        exact hR s' H' ps' I' ((SameBut.of (sm_new hfr)).upd.trans sb) hL' hl' hp'
    rcases hz with ⟨hz, a, b, hTO⟩ | ⟨T, f, us, hz, hT⟩
    · refine wpAny_bind (wpAny_pyNext_zipD2_item S D1 D2 hz hTI hTO st1 st2 (by omega) (by omega) fun u1 u2 h' tk q1 q2 hz' hTO' st1' st2' hT' hsz hk => ?_)
      exact go u1 u2 h' tk false _ [] (.inl rfl) q1 q2 hz' st1' st2' hT' ⟨_, hTO'⟩ fun c o hc e => hk c o (fun q => hc (by simp [q])) (fun q => hc (by simp [q])) (fun q => hc (by simp [q])) (fun q => hc (by simp [q])) e
    · obtain ⟨_, _, ⟨oT, eT, _⟩, _⟩ := I.tuple (.of hT)
      refine wpAny_bind (out_next S D1 D2 hz eT hTI st1 st2 (by omega) (by omega) fun u1 u2 h' tk q1 q2 hz' st1' st2' hT' hk => ?_)
      obtain ⟨oO, eO⟩ := hO
      have tz : TO ≠ i1 := fun e => S.Tf1 (e ▸ S.mem1)
      have tz2 : TO ≠ i2 := fun e => S.Tf2 (e ▸ S.mem2)
      exact go u1 u2 h' tk true T us (.inr hT) q1 q2 hz' st1' st2' hT' ⟨_, hk _ _ S.TOz tz tz2 eO⟩ fun c o hc e => hk c o (fun q => hc (by simp [q])) (fun q => hc (by simp [q])) (fun q => hc (by simp [q])) e
end
end C9
/-! ## Z3 -/
set_option maxHeartbeats 4000000
namespace C9
open PySem PySem.Spec PyProof.Rows L2
theorem zip_no_len : typeLookup (.type "zip") "__len__" = pure none := by rw [typeLookup_type, builtinLookup_eq_fast]; kernel_rfl
theorem zip_no_hint : typeLookup (.type "zip") "__length_hint__" = pure none := by rw [typeLookup_type, builtinLookup_eq_fast]; kernel_rfl
section
variable {X : Cx} {A : Around} {pins : List (Addr × Obj)} {σ : L2.St} {s : Shared} {H : Hp} {z TI TO i1 i2 L : Addr} {fp1 fp2 : List Addr} {n1 n2 : Nat} {St1 St2 : Nat → Heap → Prop} {its1 its2 : List Value} {xs ys : List V}
/-- a list that is told stands where its content is changed twice -/
theorem zip_frame {L : Addr} {h : Heap} {g : Array Value → Array Value} (D1 : ∀ i h h', St1 i h → (∀ b ∈ fp1, ∀ o, h.get? b = some o → h'.get? b = some o) → St1 i h') (D2 : ∀ i h h', St2 i h → (∀ b ∈ fp2, ∀ o, h.get? b = some o → h'.get? b = some o) → St2 i h')
    (Lf1 : L ∉ fp1) (Lf2 : L ∉ fp2) (LT : L ≠ TI) (LO : L ≠ TO) (Lz : L ≠ z) {H H' : Hp} (hH : TK H H') {i : Nat} (Z : ZipAt z TI TO i1 i2 St1 St2 H i h) : ZipAt z TI TO i1 i2 St1 St2 H' i (h.update L (Obj.mapSeq g)) := by
  have oth : ∀ b o, b ≠ L → h.get? b = some o → (h.update L (Obj.mapSeq g)).get? b = some o := fun b o hb e => (Heap.get?_update_other _ _ (Ne.symm hb)).trans e
  obtain ⟨a1, a2, a3, a4, a5⟩ := Z
  refine ⟨oth _ _ LT.symm a1, D1 _ _ _ a2 fun b hb o e => oth b o (fun q => Lf1 (q ▸ hb)) e, D2 _ _ _ a3 fun b hb o e => oth b o (fun q => Lf2 (q ▸ hb)) e, a4.imp fun o e => oth _ _ LO.symm e, ?_⟩
  rcases a5 with ⟨b1, b2, b3, b4⟩ | ⟨T, f, us, b1, b2⟩
  · exact .inl ⟨oth _ _ Lz.symm b1, b2, b3, oth _ _ LO.symm b4⟩
  · exact .inr ⟨T, f, us, oth _ _ Lz.symm b1, hH _ _ b2⟩
theorem list_zip {Q : Value → Shared → Prop} {E : Value → Shared → Prop} (S : ZipSep2 z TI TO i1 i2 fp1 fp2) (D1 : Draws X.prog X.w A.in1.in1.in1 i1 fp1 n1 (fun i v => its1[i]? = some v) St1) (D2 : Draws X.prog X.w A.in1.in1.in1 i2 fp2 n2 (fun i v => its2[i]? = some v) St2)
    (I : Inv X pins σ H s) (Lf1 : s.heap.objs.size ∉ fp1) (Lf2 : s.heap.objs.size ∉ fp2) (LT : s.heap.objs.size ≠ TI) (LO : s.heap.objs.size ≠ TO) (v1 : Vals xs its1) (v2 : Vals ys its2) (hn : min n1 n2 ≤ 1000)
    (hf : ∀ b ∈ [z, TO, i1, i2], FpOk X pins H b) (hz0 : IsZip s.heap z TI TO .none) (Z : ZipAt z TI TO i1 i2 St1 St2 H 0 s.heap)
    (q : ∀ s' H' ps, Inv X pins σ H' s' → Same H H' → H' s.heap.objs.size = some (.lst (ps.map V.ref)) → ps.length = min n1 n2 → PairsAt xs ys H' ps → Q (.ref s.heap.objs.size) s') :
    wpAny (model X.prog X.w) A (call (.type "list") [.ref z]) Q E s := by
  refine callType_codes (Q₁ := fun obj s₁ => obj = .ref s.heap.objs.size ∧ s₁ = { s with heap := s.heap.push { cls := .type "list", data := .seq #[] } }) F.called_list (F.typeCall_list_1 _) F.entry_list_init
    (code_list_new _ ⟨rfl, rfl⟩) fun obj s₁ h₁ => ?_
  obtain ⟨rfl, rfl⟩ := h₁
  have Lz : s.heap.objs.size ≠ z := Nat.ne_of_gt (Heap.lt_size hz0)
  have hL0 : H s.heap.objs.size = none := I.hok.fresh (Nat.le_refl _)
  have hS : (s.heap.push { cls := .type "list", data := .seq #[] }).get? s.heap.objs.size = some { cls := .type "list", data := .seq #[] } := Heap.get?_push_size _ rfl
  have I1 : Inv X pins σ (upd H s.heap.objs.size (.lst [])) { s with heap := s.heap.push { cls := .type "list", data := .seq #[] } } := I.lnew (its := []) .nil (Nat.zero_le _)
  have up1 : ∀ b o, s.heap.get? b = some o → (s.heap.push { cls := .type "list", data := .seq #[] }).get? b = some o := fun b o e => Heap.get?_push_of_some _ e
  have hf1 : ∀ b ∈ [z, TO, i1, i2], b ≠ s.heap.objs.size := fun b hb => by
    obtain ⟨a1, a2, a3, ⟨oo, a4⟩, a5⟩ := Z
    simp only [List.mem_cons, List.not_mem_nil, or_false] at hb
    rcases hb with rfl | rfl | rfl | rfl
    · exact Lz.symm
    · exact LO.symm
    · obtain ⟨_, e⟩ := D1.live _ _ a2
      exact Nat.ne_of_lt (Heap.lt_size e)
    · obtain ⟨_, e⟩ := D2.live _ _ a3
      exact Nat.ne_of_lt (Heap.lt_size e)
  have Z1 : ZipAt z TI TO i1 i2 St1 St2 (upd H s.heap.objs.size (.lst [])) 0 (s.heap.push { cls := .type "list", data := .seq #[] }) := by
    obtain ⟨a1, a2, a3, a4, a5⟩ := Z
    refine ⟨up1 _ _ a1, D1.frame _ _ _ a2 fun b _ o e => up1 _ _ e, D2.frame _ _ _ a3 fun b _ o e => up1 _ _ e, a4.imp fun o e => up1 _ _ e, ?_⟩
    rcases a5 with ⟨b1, b2, b3, b4⟩ | ⟨T, f, us, b1, b2⟩
    · exact .inl ⟨up1 _ _ b1, b2, b3, up1 _ _ b4⟩
    · refine .inr ⟨T, f, us, up1 _ _ b1, ?_⟩
      rw [upd_ne (ne_of_none b2 hL0)]
      exact b2
  have z1 := up1 _ _ hz0
  generalize s.heap.push { cls := .type "list", data := .seq #[] } = h1 at hS I1 Z1 z1
  generalize s.heap.objs.size = L at hS I1 Z1 Lf1 Lf2 LT LO Lz hL0 hf1 q ⊢
  refine ⟨⟨_, hS, rfl⟩, F.args_list_init_2 _ _, ?_⟩
  have fr1 := D1.frame
  have fr2 := D2.frame
  -- the list's three writes, told
  have hH1 : upd H L (.lst []) L = some (.lst []) := upd_same
  have tkL : ∀ {o : HO}, TK (upd H L (.lst [])) (upd (upd H L (.lst [])) L o) := fun {o} => .updL hH1
  show wpAny _ _ (do let old ← Builtin.List.listItems (.ref L); Builtin.List.listUpdate (.ref L) (fun _ => #[]); letGo old.toList.reverse; Builtin.List.listExtendWith (.ref L) (.ref z) .none) _ _ _
  refine wpAny_bind ?_
  unfold Builtin.List.listItems
  refine wpAny_bind (wpAny_seqItems hS rfl (wpAny_pure ?_))
  show wpAny _ _ (updateSeq L (fun _ => #[]) >>= fun _ => letGo (#[] : Array Value).toList.reverse >>= fun _ => Builtin.List.listExtendWith (.ref L) (.ref z) .none) _ _ _
  refine wpAny_bind (wpAny_updateSeq hS rfl ?_)
  have hS2 := Heap.get?_update_self (Obj.mapSeq (fun _ => (#[] : Array Value))) hS rfl
  have I2 : Inv X pins σ (upd (upd H L (.lst [])) L (.lst [])) { s with heap := h1.update L (Obj.mapSeq fun _ => (#[] : Array Value)) } := I1.lset (its := []) (its' := []) (t' := s.toks) hH1 hS rfl .nil (Nat.zero_le _)
  have Z2 := zip_frame (g := fun _ => (#[] : Array Value)) fr1 fr2 Lf1 Lf2 LT LO Lz (tkL (o := .lst [])) Z1
  rw [L2.upd_upd] at I2 Z2
  refine wpAny_bind (wpAny_letGo ?_)
  have oth : ∀ (h : Heap) (g : Array Value → Array Value) b o, b ≠ L → h.get? b = some o → (h.update L (Obj.mapSeq g)).get? b = some o := fun h g b o hb e => (Heap.get?_update_other _ _ (Ne.symm hb)).trans e
  have z2 := oth h1 (fun _ => #[]) _ _ Lz.symm z1
  generalize h1.update L (Obj.mapSeq fun _ => (#[] : Array Value)) = h2 at hS2 I2 Z2 z2 ⊢
  have n1 : L ≠ z := Lz
  unfold Builtin.List.listExtendWith
  refine wpAny_bind (wpAny_typeOf (T := "zip") ⟨_, z2, rfl⟩ ?_)
  have g1 : Builtin.List.listSameRef (.ref L) (.ref z) = false := by simp [Builtin.List.listSameRef, n1]
  have g2 : (Value.type "zip" == Value.type "list") = false := by decide
  have g3 : (Value.type "zip" == Value.type "tuple") = false := by decide
  simp only [g1, g2, g3, Bool.or_false, Bool.false_eq_true, if_false]
  refine wpAny_bind (wpAny_pyIter_zip z2 ?_)
  refine wpAny_bind (wpAny_holding ?_)
  unfold Builtin.List.listLengthHint
  refine wpAny_bind (wpAny_specialOf ⟨_, z2, rfl⟩ zip_no_len ?_)
  show wpAny _ _ (specialOf (Value.ref z) (Str.ofString "__length_hint__") >>= _) _ _ _
  refine wpAny_bind (wpAny_specialOf ⟨_, z2, rfl⟩ zip_no_hint ?_)
  refine wpAny_pure ?_
  show wpAny _ _ (rule "list.extend.makes-room" >>= fun _ => Builtin.List.listTouch (.ref L) >>= fun _ => again (.builtin "list.extend.loop" ⟨[.ref L, .ref z, .none], []⟩)) _ _ _
  refine wpAny_bind (wpAny_rule ?_)
  refine wpAny_bind ?_
  show wpAny _ _ (updateSeq L (·.push .none) >>= fun _ => updateSeq L (·.pop)) _ _ _
  refine wpAny_bind (wpAny_updateSeq hS2 rfl ?_)
  have hS3 := Heap.get?_update_self (Obj.mapSeq (·.push Value.none)) hS2 rfl
  have I3 := I2.lset (its := []) (its' := [.none]) (ys := [.non]) (f := (·.push Value.none)) (t' := s.toks) hH1 hS2 rfl (.cons rfl .nil) (by show 1 ≤ sizeLine; decide)
  have Z3 := zip_frame (g := (·.push Value.none)) fr1 fr2 Lf1 Lf2 LT LO Lz (tkL (o := .lst [.non])) Z2
  rw [L2.upd_upd] at I3 Z3
  generalize h2.update L (Obj.mapSeq (·.push Value.none)) = h3 at hS3 I3 Z3 ⊢
  refine wpAny_updateSeq (hz := by seq_fits) hS3 rfl ?_
  have hS4 := Heap.get?_update_self (Obj.mapSeq (·.pop)) hS3 rfl
  have hH3 : upd H L (.lst [.non]) L = some (.lst [.non]) := upd_same
  have I4 := I3.lset (its := [.none]) (its' := []) (ys := []) (f := (·.pop)) (t' := s.toks) hH3 hS3 rfl .nil (Nat.zero_le _)
  have Z4 := zip_frame (g := (·.pop)) fr1 fr2 Lf1 Lf2 LT LO Lz (TK.updL (o' := .lst []) hH3) Z3
  rw [L2.upd_upd] at I4 Z4
  generalize h3.update L (Obj.mapSeq (·.pop)) = h4 at hS4 I4 Z4 ⊢
  refine wpAny_pure ⟨plainId_quiet F.plain_extend_loop _, ?_⟩
  refine zip_loop (xs := xs) (ys := ys) S D1 D2 Lf1 Lf2 LT LO Lz v1 v2 hn _ 0 _ _ [] rfl (Nat.zero_le _) I4 (fun b hb => ?_) Z4 hH1 rfl (fun j p h => by simp at h) fun s' H' ps I' sb hL' hl' hp' => ?_
  · have := hf b hb
    exact ⟨by rw [upd_ne (hf1 b hb)]; exact this.1, this.2⟩
  · exact ⟨rfl, q s' H' ps I' (fun b o e => sb b o (ne_of_none e hL0) (by rw [upd_ne (ne_of_none e hL0)]; exact e)) hL' hl' hp'⟩
end
def tListZip (K : PySem.W.Frag) (t : TA) : TE := fun σ H Q => t σ H fun vs H1 => ∃ (a b : Addr) (xs ys : List V), vs = [.ref a, .ref b] ∧ (SqL K H1 a xs ∨ SqT K H1 a xs) ∧ SqL K H1 b ys ∧ min xs.length ys.length ≤ 1000 ∧
  ∀ (l : Addr) (ps : List Addr) H2, Same H1 H2 → H1 l = none → H2 l = some (.lst (ps.map V.ref)) → ps.length = min xs.length ys.length → PairsAt xs ys H2 ps → Q (.ref l) H2
section
variable {X : Cx} {pins : List (Addr × Obj)} {σ : L2.St} {s : Shared} {H : Hp} {a b : Addr} {xs ys : List V}
theorem zip_list {A : Around} {its1 its2 : List Value} {fp1 : List Addr} {o1 : Obj} {St1 : Nat → Heap → Prop} {G : Heap → Prop} {Q E Φ : Value → Shared → Prop} (I : Inv X pins σ H s) (B1 : Begins (.ref a) o1 G) (g1 : G s.heap) (v1 : Vals xs its1)
    (D1 : ∀ A' : Around, A'.handled = A.handled → Draws X.prog X.w A' s.heap.objs.size (s.heap.objs.size :: fp1) its1.length (fun i v => its1[i]? = some v) St1) (hfp : ∀ c ∈ fp1, c < s.heap.objs.size)
    (h0 : ∀ h' : Heap, h'.get? s.heap.objs.size = some o1 → (∀ c o, s.heap.get? c = some o → h'.get? c = some o) → St1 0 h')
    (hb : s.heap.IsList b its2.toArray) (v2 : Vals ys its2) (hn : min xs.length ys.length ≤ 1000) (hA : A.handled = none)
    (q : ∀ s' (l : Addr) (ps : List Addr) H2, Inv X pins σ H2 s' → Same H H2 → H l = none → H2 l = some (.lst (ps.map V.ref)) → ps.length = min xs.length ys.length → PairsAt xs ys H2 ps → Q (.ref l) s')
    (hΦ : ∀ v s', wpAny (model X.prog X.w) A (call (.type "list") [v]) Q E s' → Φ v s') : wpAny (model X.prog X.w) A (call (.type "zip") [.ref a, .ref b]) Φ E s := by
  have lb : b < s.heap.objs.size := by obtain ⟨o, e, _⟩ := hb; exact Heap.lt_size e
  refine zip_begins2 B1 (begins_list b its2.toArray) g1 hb fun h' hz hTI hTO hi1 hi2 hsz hk => hΦ _ _ ?_
  have I1 : Inv X pins σ H { s with heap := h' } := I.kept (t' := s.toks) hk
  have D2 : ∀ A' : Around, A'.handled = A.handled → Draws X.prog X.w A' (s.heap.objs.size + 1) [s.heap.objs.size + 1, b] its2.length (fun i v => its2[i]? = some v) (fun i h => h.IsListIter (s.heap.objs.size + 1) b i ∧ h.IsList b its2.toArray) := fun A' e => by
    have := Draws.list (prog := X.prog) (w := X.w) (A := A') (e.trans hA) (s.heap.objs.size + 1) b (Nat.ne_of_lt (Nat.lt_succ_of_lt lb)) its2.toArray
    simpa using this
  have S := zip_sep2 (N := s.heap.objs.size) (fp1 := fp1) (fp2 := [b]) hfp (fun c hc => by rw [List.mem_singleton.mp hc]; exact lb)
  have fr : ∀ c, s.heap.objs.size ≤ c → H c = none := fun c hc => I.hok.fresh hc
  refine list_zip (s := { s with heap := h' }) (TI := s.heap.objs.size + 2) (TO := s.heap.objs.size + 3) S (D1 _ rfl) (D2 _ rfl) I1 ?_ ?_ ?_ ?_ v1 v2 (by rw [← v1.length, ← v2.length]; exact hn) (fun c hc => ?_) hz
    ⟨hTI, h0 h' hi1 hk, ⟨⟨_, hi2, rfl, rfl⟩, hb.at fun o e => hk b o e⟩, ⟨_, hTO⟩, .inl ⟨hz, _, _, hTO⟩⟩ fun s' H' ps I' sm hL hl hp => q s' _ ps H' I' sm (I1.hok.fresh (Nat.le_refl _)) hL (by rw [hl, ← v1.length, ← v2.length]) hp
  · show h'.objs.size ∉ _
    rw [hsz]
    intro hm
    rcases List.mem_cons.mp hm with e | hm
    · have e' : (s.heap.objs.size + 5 : Nat) = s.heap.objs.size := e
      omega
    · have e' : (s.heap.objs.size + 5 : Nat) < s.heap.objs.size := hfp _ hm
      omega
  · show h'.objs.size ∉ _
    rw [hsz]
    intro hm
    simp only [List.mem_cons, List.not_mem_nil, or_false] at hm
    rcases hm with e | e
    · have e' : (s.heap.objs.size + 5 : Nat) = s.heap.objs.size + 1 := e
      omega
    · rw [← e] at lb
      exact absurd lb (Nat.not_lt.mpr (Nat.le_add_right _ _))
  · show h'.objs.size ≠ _
    rw [hsz]
    show (s.heap.objs.size + 5 : Nat) ≠ s.heap.objs.size + 2
    omega
  · show h'.objs.size ≠ _
    rw [hsz]
    show (s.heap.objs.size + 5 : Nat) ≠ s.heap.objs.size + 3
    omega
  · have ge : s.heap.objs.size ≤ c := by
      simp only [List.mem_cons, List.not_mem_nil, or_false] at hc
      rcases hc with rfl | rfl | rfl | rfl
      · exact Nat.le_add_right _ _
      · exact Nat.le_add_right _ _
      · exact Nat.le_refl _
      · exact Nat.le_add_right _ _
    exact I.fpOk ge (fr c ge)
theorem pe_listZip {e1 e2 : Expr} {t : TA} {p p2 q0 pos : Pos} (hc : X.calm = true) (hg : Gl X "list") (hm : X.mg "list" = none) (hg2 : Gl X "zip") (hm2 : X.mg "zip" = none) (ha : PA X [e1, e2] t)
    (na : starEach [e1, e2] X.env = (false, eval e1 X.env) :: starEach [e2] X.env := by rfl) (nb : starEach [e2] X.env = (false, eval e2 X.env) :: starEach [] X.env := by rfl)
    (nz : starEach [.Call (.Name "zip" p2) [e1, e2] [] q0] X.env = (false, eval (.Call (.Name "zip" p2) [e1, e2] [] q0) X.env) :: starEach [] X.env := by rfl) :
    PE X (.Call (.Name "list" p) [.Call (.Name "zip" p2) [e1, e2] [] q0] [] pos) (tListZip X.K t) := by
  refine ⟨fun pins s σ H Q I h => ?_⟩
  refine Call_ (ld_blt I hg hm boot_list (PyProof.Rows.callWith_type1 (args_cons ?_ nz) nz))
  refine Call_ (ld_blt I hg2 hm2 boot_zip (PyProof.Rows.callWith_type1 (thn (ha.run q0 pins s σ H _ I h) fun us s1 ⟨vs, H1, I1, r1, a, b, xs, ys, ex, h1, h2, hn, q⟩ => ?_) na (by rw [nb]; rfl)))
  subst ex
  obtain ⟨its2, rv2, pl2, hz2⟩ := I1.list h2
  have hA : X.A.handled = none := I1.ok.hd hc
  have eu : us = [.ref a, .ref b] := by
    cases r1 with
    | cons e1 r => cases r with
      | cons e2 r => cases r; cases e1; cases e2; rfl
  subst eu
  have fin : ∀ s' (l : Addr) (ps : List Addr) H2, Inv X pins σ H2 s' → Same H1 H2 → H1 l = none → H2 l = some (.lst (ps.map V.ref)) → ps.length = min xs.length ys.length → PairsAt xs ys H2 ps → EP X pins σ Q (.ref l) s' := fun s' l ps H2 I2 sm hl e2 ln pp =>
    ⟨.ref l, H2, I2, rfl, q l ps H2 sm hl e2 ln pp⟩
  rcases h1 with h1 | h1
  · obtain ⟨its1, rv1, pl1, hz1⟩ := I1.list h1
    have la : a < s1.heap.objs.size := by obtain ⟨o, _, e, _⟩ := pl1; exact Heap.lt_size e
    refine zip_list (its1 := its1) (its2 := its2) (fp1 := [a]) (St1 := fun i h => h.IsListIter s1.heap.objs.size a i ∧ h.IsList a its1.toArray) I1 (begins_list a its1.toArray) pl1.isList rv1 (fun A' e => ?_) (fun c hc => by rw [List.mem_singleton.mp hc]; exact la) (fun h' hi hk => ⟨⟨_, hi, rfl, rfl⟩, pl1.isList.at fun o e => hk a o e⟩) pl2.isList rv2 hn hA fin fun v s' hv => args_nil hv
    have := Draws.list (prog := X.prog) (w := X.w) (A := A') (e.trans hA) s1.heap.objs.size a (Nat.ne_of_lt la) its1.toArray
    simpa using this
  · obtain ⟨its1, rv1, pl1, hz1⟩ := I1.tuple h1
    have la : a < s1.heap.objs.size := by obtain ⟨o, e, _⟩ := pl1; exact Heap.lt_size e
    refine zip_list (its1 := its1) (its2 := its2) (fp1 := [a]) (St1 := fun i h => h.IsTupleIter s1.heap.objs.size a i ∧ h.IsTuple a its1.toArray) I1 (begins_tuple a its1.toArray) pl1 rv1 (fun A' e => ?_) (fun c hc => by rw [List.mem_singleton.mp hc]; exact la) (fun h' hi hk => ⟨⟨_, hi, rfl, rfl⟩, pl1.imp fun o e => ⟨hk a o e.1, e.2⟩⟩) pl2.isList rv2 hn hA fin fun v s' hv => args_nil hv
    have := Draws.tuple (prog := X.prog) (w := X.w) (A := A') (e.trans hA) s1.heap.objs.size a (Nat.ne_of_lt la) its1.toArray
    simpa using this
theorem k_listZip (K : PySem.W.Frag) {e : Expr} {t : TA} (h : PE X e (tListZip X.K t)) (hK : X.K = K := by rfl) : PE X e (tListZip K t) := by subst hK; exact h
end
end C9
/-! ## S7 -/
set_option maxHeartbeats 4000000
namespace C9
open PySem PySem.Spec PyProof.Rows L2
/-! ### numbers get names -/
def nmOf : List Int → List Str → Int → Str
  | n :: ns, z :: zs, k => if n = k then z else nmOf ns zs k
  | _, _, _ => ""
def kvZ : List Int → List Str → List (Key × V)
  | n :: ns, z :: zs => (.inl n, .str z) :: kvZ ns zs
  | _, _ => []
theorem nmOf_map : ∀ {ns : List Int} {zs : List Str}, ns.Nodup → ns.length = zs.length → zs = ns.map (nmOf ns zs)
  | [], [], _, _ => rfl
  | [], _ :: _, _, h => nomatch h
  | _ :: _, [], _, h => nomatch h
  | n :: ns, z :: zs, nd, h => by
    have n1 := List.nodup_cons.mp nd
    rw [List.map_cons, nmOf, if_pos rfl]
    refine congrArg (z :: ·) ((nmOf_map n1.2 (Nat.succ.inj h)).trans (List.map_congr_left fun k hk => ?_))
    have ne : n ≠ k := fun e => n1.1 (by rw [e]; exact hk)
    rw [nmOf, if_neg ne]
theorem kvZ_val {k : Int} : ∀ {ns : List Int} {zs : List Str}, ns.length = zs.length → k ∈ ns → valV (kvZ ns zs) (.inl k) = some (.str (nmOf ns zs k))
  | [], _, _, h => nomatch h
  | _ :: _, [], h, _ => nomatch h
  | n :: ns, z :: zs, hl, h => by
    rw [kvZ, nmOf]
    by_cases e : n = k
    · rw [valV_pos (by rw [e]), if_pos e]
    · rw [valV_neg (fun q => e (Sum.inl.inj q)), if_neg e]
      rcases List.mem_cons.mp h with h | h
      · exact absurd h.symm e
      · exact kvZ_val (Nat.succ.inj hl) h
theorem kvZ_keys : ∀ {ns : List Int} {zs : List Str}, ns.length = zs.length → (kvZ ns zs).map (·.1) = ns.map .inl
  | [], [], _ => rfl
  | [], _ :: _, h => nomatch h
  | _ :: _, [], h => nomatch h
  | n :: ns, z :: zs, h => by rw [kvZ, List.map_cons, List.map_cons, kvZ_keys (Nat.succ.inj h)]
theorem kvZ_pairs {K : PySem.W.Frag} {H : Hp} : ∀ {ps : List Addr} {ns : List Int} {zs : List Str}, ps.length = ns.length → ns.length = zs.length → PairsAt (ns.map V.int) (zs.map V.str) H ps → Paired (fun p (x : Key × V) => SqT K H p [kV x.1, x.2]) ps (kvZ ns zs)
  | [], [], [], _, _, _ => .nil
  | [], _ :: _, _, h, _, _ => nomatch h
  | _ :: _, [], _, h, _, _ => nomatch h
  | _, [], _ :: _, _, h, _ => nomatch h
  | _, _ :: _, [], _, h, _ => nomatch h
  | p :: ps, n :: ns, z :: zs, h1, h2, hp => by
    obtain ⟨x, y, e1, e2, e3⟩ := hp 0 p rfl
    have e1' : V.int n = x := Option.some.inj e1
    have e2' : V.str z = y := Option.some.inj e2
    subst e1'; subst e2'
    exact .cons (.of e3) (kvZ_pairs (Nat.succ.inj h1) (Nat.succ.inj h2) fun j q hq => hp (j + 1) q hq)
/-- dict(list(zip(numbers, names))) -/
theorem dict_zip {K : PySem.W.Frag} {H : Hp} {l : Addr} {ps : List Addr} {ns : List Int} {zs : List Str} {Q : VK} (e : H l = some (.lst (ps.map V.ref))) (nd : ns.Nodup) (h1 : ps.length = ns.length) (h2 : ns.length = zs.length) (hp : PairsAt (ns.map V.int) (zs.map V.str) H ps)
    (q : ∀ p, H p = none → Q (.ref p) (upd H p (.dK (kvZ ns zs)))) : rDictP K [.ref l] H Q := by
  refine ⟨l, ps, kvZ ns zs, rfl, .of e, kvZ_pairs h1 h2 hp, fun p h => ?_⟩
  rw [mergeK_new _ [] (by rw [List.nil_append, kvZ_keys h2]; exact List.Pairwise.map _ (fun _ _ n e => n (Sum.inl.inj e)) nd)]
  exact q p h
theorem inj_of_nodup {α : Type} {f : α → Str} {ns : List α} (h : (ns.map f).Nodup) {a b : α} (ha : a ∈ ns) (hb : b ∈ ns) (e : f a = f b) : a = b := by
  obtain ⟨i, hi⟩ := List.mem_iff_getElem?.mp ha
  obtain ⟨j, hj⟩ := List.mem_iff_getElem?.mp hb
  have e1 : (ns.map f)[i]? = some (f a) := by rw [List.getElem?_map, hi]; rfl
  have e2 : (ns.map f)[j]? = some (f a) := by rw [List.getElem?_map, hj, e]; rfl
  have := nodup_ix h e1 e2
  subst this
  rw [hi] at hj
  exact Option.some.inj hj
theorem map_inj_on {α : Type} {f : α → Str} {p : α → Prop} (inj : ∀ a b, p a → p b → f a = f b → a = b) : ∀ {c d : List α}, (∀ a ∈ c, p a) → (∀ a ∈ d, p a) → c.map f = d.map f → c = d
  | [], [], _, _, _ => rfl
  | [], _ :: _, _, _, h => nomatch h
  | _ :: _, [], _, _, h => nomatch h
  | x :: c, y :: d, hc, hd, h => by
    rw [List.map_cons, List.map_cons] at h
    injection h with h1 h2
    rw [inj x y (hc x List.mem_cons_self) (hd y List.mem_cons_self) h1, map_inj_on inj (fun a m => hc a (List.mem_cons_of_mem _ m)) (fun a m => hd a (List.mem_cons_of_mem _ m)) h2]
/-- the house of kept calls, named -/
theorem goodH_named {kept : List (List Int)} {ns : List Int} {zs : List Str} {m : Int} (hk : kept ≠ []) (k8 : kept.length ≤ 8) (nd : kept.Nodup) (ok : ∀ c ∈ kept, okC m c) (m6 : m ≤ 6) (pn : ns.Pairwise (· < ·)) (hb : ∀ k ∈ ns, 0 ≤ k ∧ k < m) (hc : ∀ k, k ∈ ns ↔ (0 ≤ k ∧ k < m) ∧ ∃ c ∈ kept, k ∈ c)
    (hl : ns.length = zs.length) (zn : zs.Nodup) (zo : ∀ z ∈ zs, okN z = true) : GoodH zs (sortG dS (kept.map fun c => c.map (nmOf ns zs))) := by
  have nn : ns.Nodup := pn.imp fun h e => by omega
  have ez := nmOf_map nn hl
  have inj : ∀ a b, a ∈ ns → b ∈ ns → nmOf ns zs a = nmOf ns zs b → a = b := fun a b ha hb e => inj_of_nodup (by rw [← ez]; exact zn) ha hb e
  have inN : ∀ c ∈ kept, ∀ k ∈ c, k ∈ ns := fun c h k hk => (hc k).mpr ⟨(ok c h).2.2 k hk, c, h, hk⟩
  have nl := pw_len pn hb
  obtain ⟨c0, h0⟩ := List.exists_mem_of_ne_nil kept hk
  have hne : ns ≠ [] := fun e => by
    obtain ⟨k0, hk0⟩ := List.exists_mem_of_ne_nil c0 (ok c0 h0).1
    have := inN c0 h0 k0 hk0
    rw [e] at this
    exact nomatch this
  have npos := List.length_pos_iff.mpr hne
  refine goodH_sorted ?_ ?_ (by rw [List.length_map]; exact List.length_pos_iff.mpr hk) (by rw [List.length_map]; exact k8) ?_ ?_
  · unfold okNs
    simp only [Bool.and_eq_true, decide_eq_true_eq, List.all_eq_true]
    exact ⟨⟨⟨by omega, by omega⟩, zo⟩, zn⟩
  · refine List.pairwise_map.mpr (List.Pairwise.imp_of_mem (fun {a b} ha hb n e => ?_) nd)
    exact n (map_inj_on (p := (· ∈ ns)) (fun x y hx hy => inj x y hx hy) (inN a ha) (inN b hb) e)
  · intro c' hc'
    obtain ⟨c, h, rfl⟩ := List.mem_map.mp hc'
    refine ⟨?_, fun e => (ok c h).1 (List.map_eq_nil_iff.mp e)⟩
    have := part_map (f := nmOf ns zs) (ks := ns) (c := c) fun a ha b hb e => inj a b ha (inN c h b hb) e
    rw [← ez, asc_filter pn (ok c h).2.1 (inN c h)] at this
    exact this
  · intro z hz
    rw [ez] at hz
    obtain ⟨k, hk', rfl⟩ := List.mem_map.mp hz
    obtain ⟨_, c, h, hkc⟩ := (hc k).mp hk'
    exact ⟨c.map (nmOf ns zs), List.mem_map.mpr ⟨c, h, rfl⟩, List.mem_map.mpr ⟨k, hkc, rfl⟩⟩
end C9
/-! ## F19 -/
set_option maxHeartbeats 4000000
namespace C9
open PySem PySem.Spec PyProof.Rows L2 C8
def menuL : List Str := ["a", "b", "c", "d", "e", "ab", "ba", "zz", "call", "put", "drop", "kinds", "abcdef", "x", "zzzzzz"]
theorem menu_nd : menuL.Nodup := by decide +kernel
theorem menu_ok : ∀ z ∈ menuL, okN z = true := by decide +kernel
section
variable {K : PySem.W.Frag} {mg : Str → Option Value} {P : Program} {w : World} {base : Heap}
def RetH (H : Hp) (Q : VK) : Prop := ∀ v ks cs H', Same H H' → Tp H' v (dH ks cs) → GoodH ks cs → Q v H'
def sp_law_named (K : PySem.W.Frag) : Sp := fun vs H Q E => ∃ x y z u, vs = [x, y, z, u] ∧ ∃ b, ∃ m : Int, ∃ p xs, ∃ cs : List (List Int), ∃ n : Int, x = .ref b ∧ y = .int m ∧ z = .ref p ∧ u = .int n ∧ BagAt H b ∧ 1 ≤ m ∧ m ≤ 6 ∧ H p = some (.lst xs) ∧ TpAll H xs (cs.map dI) ∧ cs ≠ [] ∧ cs.length ≤ 900 ∧ (∀ c ∈ cs, okC m c) ∧ 1 ≤ n ∧ n ≤ 8 ∧ RetH H Q
theorem sc_law_named : FnScope ["_law_bag_here", "_law_many", "_law_found", "_law_calls", "_law_kept", "_law_call", "_law_numbers", "_law_menu", "_law_names", "_law_to", "_law_kind"] ["_law_bag_here", "_law_many", "_law_found", "_law_calls"] (defScope s_law_named) := ⟨rfl, rfl, rfl, by decide +kernel, rfl, by decide +kernel, by decide +kernel⟩
theorem c_law_named (T : Txt K mg) : C8.Cal P w K mg base 4 "_law_named" (sp_law_named K) [] := by
  refine T.cal 44 38 rfl rfl sc_law_named
    (fun _ _ _ _ _ _ us h => match us, h with | [_, _, _, _], _ => rfl)
    (fun vs H Q E h => by obtain ⟨_, _, _, _, rfl, _⟩ := h; rfl) (fun f cdv A outer s H vs Q E hr h => ?_)
  have nd := sc_law_named.nd
  refine ⟨_, (pss_cons (ps_set (i := 4) nd rfl (.inr rfl) (pe_lst pa_nil))
     (pss_cons (ps_for PassesOwn.never rfl (k_piL K (pi_list (pv 2))) (pg_name (i := 5) nd rfl (by first | exact .inl rfl | exact .inr rfl))
      (pss_one (ps_if (PW.pt (pw_and (pt_cmpR (k_notInA K (α := (PySem.W.Tup Int)) hr (by decide)) (pv 5) (pv 4) rfl) (pw_and1 (pt_cmpR op_lt (pe_callB (k_len K) (by rfl) (T.free 52) rfl (pa_cons (pv 4) pa_nil)) (pv 3) rfl)))) (pss_one (ps_expr (k_bm K (pe_bm PySem.F.plainAttrs_list PySem.F.slot_list_append PySem.F.type_list_append mt_append (pv 4) (pa_cons (pv 5) pa_nil))))) pss_nil)))
     (pss_cons (ps_setLc (i := 6) rfl nd rfl rfl rfl (pi_range1 (by rfl) (T.free 65) (pa_cons (pv 1) pa_nil)) (blkOk_by (own := [("_law_kind", 10)]) (by rfl)) (fun _ _ _ _ _ => (pg_name (i := 10) nd rfl (by first | exact .inl rfl | exact .inr rfl))) (fun _ _ _ _ _ => (pts_one (pt_cmpR (k_neA K (α := (List (PySem.W.Tup Int))) hr (by decide)) (pe_lc rfl nd (k_piL K (pi_list (pv 4))) (blkOk_by (own := [("_law_call", 5)]) (by rfl)) (fun _ _ _ _ _ => (pg_name (i := 5) nd rfl (by first | exact .inl rfl | exact .inr rfl))) (fun _ _ _ _ _ => (pts_one (pt_cmpR (k_inA K (α := Int) hr (by decide)) (pv 10) (pv 5) rfl))) (fun _ _ _ _ _ => (pv 5))) (pe_lst pa_nil) rfl))) (fun _ _ _ _ _ => (pv 10)))
     (pss_cons (ps_set (i := 7) nd rfl (.inl rfl) (pe_lst (pa_cons pe_str (pa_cons pe_str (pa_cons pe_str (pa_cons pe_str (pa_cons pe_str (pa_cons pe_str (pa_cons pe_str (pa_cons pe_str (pa_cons pe_str (pa_cons pe_str (pa_cons pe_str (pa_cons pe_str (pa_cons pe_str (pa_cons pe_str (pa_cons pe_str pa_nil)))))))))))))))))
     (pss_cons (ps_set (i := 8) nd rfl (.inl rfl) (pe_ifExp (pt_cmpR op_gt (pe_c (c_law_take T) hr (by decide) (by rfl) (pa_cons (pv 0) (pa_cons pe_int pa_nil))) pe_int rfl) (pe_slice (k_slL K) (pe_c (c_law_mixed T) hr (by decide) (by rfl) (pa_cons (pv 0) (pa_cons (pv 7) pa_nil))) po_none (po_some (pe_callB (k_len K) (by rfl) (T.free 52) rfl (pa_cons (pv 6) pa_nil)))) (pe_slice (k_slL K) (pv 7) po_none (po_some (pe_callB (k_len K) (by rfl) (T.free 52) rfl (pa_cons (pv 6) pa_nil))))))
     (pss_cons (ps_set (i := 9) nd rfl (.inr rfl) (pe_callTy (k_dictP K rfl) (by rfl) (T.free 66) rfl (pa_cons (pe_listZip rfl (by rfl) (T.free 59) (by rfl) (T.free 56) (pa_cons (pv 6) (pa_cons (pv 8) pa_nil))) pa_nil)))
     (pss_one (ps_ret (pe_tup (pa_cons (pe_callTy (k_tuple K) (by rfl) (T.free 55) rfl (pa_cons (pv 8) pa_nil)) (pa_cons (pe_callTy (k_tuple K) (by rfl) (T.free 55) rfl (pa_cons (pe_callB (k_sortedD K hr) (by rfl) (T.free 58) rfl (pa_cons (pe_lc rfl nd (k_piL K (pi_list (pv 4))) (blkOk_by (own := [("_law_call", 5)]) (by rfl)) (fun _ _ _ _ _ => (pg_name (i := 5) nd rfl (by first | exact .inl rfl | exact .inr rfl))) (fun _ _ _ _ _ => pts_nil) (fun _ _ _ _ _ => (pe_callTy (k_tuple K) (by rfl) (T.free 55) rfl (pa_cons (pe_lc rfl nd (k_piT K (pi_tup (pv 5))) (blkOk_by (own := [("_law_kind", 10)]) (by rfl)) (fun _ _ _ _ _ => (pg_name (i := 10) nd rfl (by first | exact .inl rfl | exact .inr rfl))) (fun _ _ _ _ _ => pts_nil) (fun _ _ _ _ _ => (pe_dget (hu_of hr) (pv 9) (pv 10) (fun _ _ => rfl)))) pa_nil)))) pa_nil)) pa_nil)) pa_nil))))))))))), ?_⟩
  obtain ⟨v0, v1, v2, v3, rfl, h⟩ := h
  rw [show L2.start ["_law_bag_here", "_law_many", "_law_found", "_law_calls", "_law_kept", "_law_call", "_law_numbers", "_law_menu", "_law_names", "_law_to", "_law_kind"] [v0, v1, v2, v3] = [some v0, some v1, some v2, some v3, none, none, none, none, none, none, none] from rfl]
  obtain ⟨b, m, p, xs, cs, n, rfl, rfl, rfl, rfl, hb, m1, m6, ep, tp, cne, cl, g, n1, n8, q⟩ := h
  simp only [tBM, SlX.tMethSl, tSeq, tIfS, tOr, tAnd, tNot, tB, tCB, tCons, tNil, tVar, tC, tTest, tChain, tRet, tRetN, tNext, tOp, tAndV, tOrV, tNotV, tIf, tThen, tYes, tTup, tLst, tCall, tAsg, tDrop, tDNewK, gName, gTup, gCons, gNil, rI0, rI, CMul, CDiv, tUn, rU, rEq, rNe, scal, LenV, RetB, RetD, List.set_cons_zero, List.set_cons_succ, List.getElem?_cons_zero, List.getElem?_cons_succ, Option.some.injEq, exists_eq_left', exists_eq_left, List.cons.injEq, and_true, true_and, V.int.injEq, V.str.injEq, V.bl.injEq, V.ref.injEq, if_true, if_false, Bool.not_true, Bool.not_false, reduceCtorEq, decide_true, decide_false, Bool.false_eq_true, exists_and_left, Bool.not_eq_true', decide_eq_true_eq, decide_eq_false_iff_not, rLenK, tLenSetT, List.append_nil, and_assoc, or_false, false_or, exists_false, false_and, and_false, rGetL, rSetL, gSub, tAugS, ipI, tPart, tNoPart, not_true, not_false_iff, ite_true, ite_false, List.map_cons, List.map_nil, sp_law_mixed, sp_law_take]
  refine ⟨Nat.zero_le _, fun r hr => ?_⟩
  have s0 : Same H (upd H r (.lst [])) := sm_new hr
  have pr : p ≠ r := ne_of_none ep hr
  refine ⟨_, rfl, p, rfl, ⟨_, .of (s0 _ _ ep)⟩, for_it (walk_list (xs := xs)) (fun i σ H3 => ∃ y, σ = [some (.ref b), some (.int m), some (.ref p), some (.int n), some (.ref r), y, none, none, none, none, none] ∧ Same H H3 ∧ ∃ (ys : List V) (ds : List (List Int)), H3 r = some (.lst ys) ∧ TpAll H3 ys (ds.map dI) ∧ (ds.length : Int) ≤ n ∧ ds.Nodup ∧ (∀ c ∈ ds, okC m c) ∧ (0 < i → ds ≠ [])) ?_ ?_ ?_ ?_⟩
  · exact ⟨none, rfl, s0, [], [], upd_same, .nil, by simp only [List.length_nil]; omega, .nil, fun c h => (nomatch h), fun h => absurd h (Nat.lt_irrefl 0)⟩
  · rintro i σ H3 _ ⟨y, rfl, s3, _⟩
    exact .of (s3 _ _ ep)
  · rintro i x σ H3 H4 hi ⟨y, rfl, s3, ys, ds, e3, t3, l3, nd3, o3, z3⟩ ⟨rfl, hx⟩
    obtain ⟨c, hc, tc⟩ := tp.mem (List.mem_of_getElem? hx)
    have tc3 := tc.same s3
    have hyl := t3.len
    simp only [tBM, SlX.tMethSl, tSeq, tIfS, tOr, tAnd, tNot, tB, tCB, tCons, tNil, tVar, tC, tTest, tChain, tRet, tRetN, tNext, tOp, tAndV, tOrV, tNotV, tIf, tThen, tYes, tTup, tLst, tCall, tAsg, tDrop, tDNewK, gName, gTup, gCons, gNil, rI0, rI, CMul, CDiv, tUn, rU, rEq, rNe, scal, LenV, RetB, RetD, List.set_cons_zero, List.set_cons_succ, List.getElem?_cons_zero, List.getElem?_cons_succ, Option.some.injEq, exists_eq_left', exists_eq_left, List.cons.injEq, and_true, true_and, V.int.injEq, V.str.injEq, V.bl.injEq, V.ref.injEq, if_true, if_false, Bool.not_true, Bool.not_false, reduceCtorEq, decide_true, decide_false, Bool.false_eq_true, exists_and_left, Bool.not_eq_true', decide_eq_true_eq, decide_eq_false_iff_not, rLenK, tLenSetT, List.append_nil, and_assoc, or_false, false_or, exists_false, false_and, and_false, rGetL, rSetL, gSub, tAugS, ipI, tPart, tNoPart, not_true, not_false_iff, ite_true, ite_false, List.map_cons, List.map_nil, sp_law_mixed, sp_law_take]
    refine ⟨PySem.W.Tup.mk c, ds.map PySem.W.Tup.mk, r, ys, tc3.dp, rfl, .inl (.of e3), ?_, ?_⟩
    · rw [List.map_map]
      exact TpAll.dp t3
    have mm : (PySem.W.Tup.mk c ∈ ds.map PySem.W.Tup.mk) ↔ c ∈ ds := ⟨fun h => by
      obtain ⟨d, hd, e⟩ := List.mem_map.mp h
      cases e
      exact hd, fun h => List.mem_map.mpr ⟨c, h, rfl⟩⟩
    have stay : (0 < i + 1 → ds ≠ []) → Same H H4 ∧ ∃ ys, H4 r = some (.lst ys) ∧ ∃ x : List (List Int), TpAll H4 ys (List.map dI x) ∧ (x.length : Int) ≤ n ∧ x.Nodup ∧ (∀ (c : List Int), c ∈ x → okC m c) ∧ (0 < i + 1 → x ≠ []) := fun hz => ⟨s3, ys, e3, ds, t3, l3, nd3, o3, hz⟩
    by_cases hcd : c ∈ ds
    · rw [decide_eq_true (mm.mpr hcd)]
      refine ⟨false, rfl, ?_⟩
      rw [if_neg (by decide)]
      exact stay fun _ e => by rw [e] at hcd; exact nomatch hcd
    · rw [decide_eq_false (fun h => hcd (mm.mp h))]
      refine ⟨true, rfl, ?_⟩
      rw [if_pos rfl]
      refine ⟨ys.length, .inl ⟨ys, .of e3, rfl⟩, ?_⟩
      by_cases hlt : ((ys.length : Nat) : Int) < n
      · rw [if_pos hlt]
        refine ⟨.inl ⟨rfl, _, .of e3⟩, r, ys, x, rfl, rfl, e3, lt1 (by omega), sm_upd s3 hr, _, upd_same, ds ++ [c], ?_, ?_, ?_, ?_, fun _ => by simp⟩
        · rw [List.map_append]
          exact TpAll.keep (.updL e3) (t3.snoc tc3)
        · rw [List.length_append, ← hyl]
          show ((ys.length + 1 : Nat) : Int) ≤ n
          omega
        · exact List.nodup_append.mpr ⟨nd3, by simp, fun a ha b hb e => hcd (by rw [List.mem_singleton.mp hb] at e; exact e ▸ ha)⟩
        · intro d hd
          rcases List.mem_append.mp hd with h | h
          · exact o3 d h
          · rw [List.mem_singleton.mp h]; exact g c hc
      · rw [if_neg hlt]
        exact stay fun _ e => by
          rw [e, List.length_nil] at hyl
          rw [hyl] at hlt
          exact hlt (by omega)
  · rintro σ H3 ⟨y, rfl, s3, ys, ds, e3, t3, l3, nd3, o3, z3⟩
    have hyl := t3.len
    have kne : ds ≠ [] := z3 (by
      rw [tp.len]
      exact List.length_pos_iff.mpr cne)
    refine ⟨_, rfl, m, rfl, by omega, by omega, fun D hD => lc_rel (walk_range (lo := 0) (n := m.toNat)) hD (lt1 (by omega)) (fun j es => ∃ ns : List Int, es = ns.map .int ∧ ns.Pairwise (· < ·) ∧ ∀ k, k ∈ ns ↔ (0 ≤ k ∧ k < (j : Nat)) ∧ ∃ c ∈ ds, k ∈ c) ⟨[], rfl, .nil, fun k => ⟨fun h => (nomatch h), fun h => by have := h.1; omega⟩⟩ (fun _ _ => trivial) ?_ ?_⟩
    · rintro j es x H5 H6 Qe Qs hj sm ⟨ns, rfl, pn, hn⟩ ⟨rfl, rfl⟩ ke ks'
      refine ⟨rfl, ?_⟩
      have e6 := sm _ _ e3
      have t6 := TpAll.same sm t3
      simp only [tBM, SlX.tMethSl, tSeq, tIfS, tOr, tAnd, tNot, tB, tCB, tCons, tNil, tVar, tC, tTest, tChain, tRet, tRetN, tNext, tOp, tAndV, tOrV, tNotV, tIf, tThen, tYes, tTup, tLst, tCall, tAsg, tDrop, tDNewK, gName, gTup, gCons, gNil, rI0, rI, CMul, CDiv, tUn, rU, rEq, rNe, scal, LenV, RetB, RetD, List.set_cons_zero, List.set_cons_succ, List.getElem?_cons_zero, List.getElem?_cons_succ, Option.some.injEq, exists_eq_left', exists_eq_left, List.cons.injEq, and_true, true_and, V.int.injEq, V.str.injEq, V.bl.injEq, V.ref.injEq, if_true, if_false, Bool.not_true, Bool.not_false, reduceCtorEq, decide_true, decide_false, Bool.false_eq_true, exists_and_left, Bool.not_eq_true', decide_eq_true_eq, decide_eq_false_iff_not, rLenK, tLenSetT, List.append_nil, and_assoc, or_false, false_or, exists_false, false_and, and_false, rGetL, rSetL, gSub, tAugS, ipI, tPart, tNoPart, not_true, not_false_iff, ite_true, ite_false, List.map_cons, List.map_nil, sp_law_mixed, sp_law_take, wipe]
      refine ⟨_, rfl, r, rfl, ⟨_, .of e6⟩, fun D2 hD2 => lc_rel (walk_list (xs := ys)) hD2 (lt1 (by omega)) (RlF (fun c => if 0 + ((j : Nat) : Int) ∈ c then some (dI c) else none) ds) RlF.zero (fun H s => .of (s _ _ e6)) ?_ ?_⟩
      · rintro i2 es2 x2 Ha Hb Qe2 Qs2 hi2 sm2 rl ⟨rfl, hx2⟩ ke2 ks2
        obtain ⟨c, hc, tc⟩ := t6.nth hx2
        have tcb := tc.same sm2
        obtain ⟨pc, rfl, epc⟩ := tcb.ints_at
        refine ⟨rfl, ?_⟩
        simp only [tBM, SlX.tMethSl, tSeq, tIfS, tOr, tAnd, tNot, tB, tCB, tCons, tNil, tVar, tC, tTest, tChain, tRet, tRetN, tNext, tOp, tAndV, tOrV, tNotV, tIf, tThen, tYes, tTup, tLst, tCall, tAsg, tDrop, tDNewK, gName, gTup, gCons, gNil, rI0, rI, CMul, CDiv, tUn, rU, rEq, rNe, scal, LenV, RetB, RetD, List.set_cons_zero, List.set_cons_succ, List.getElem?_cons_zero, List.getElem?_cons_succ, Option.some.injEq, exists_eq_left', exists_eq_left, List.cons.injEq, and_true, true_and, V.int.injEq, V.str.injEq, V.bl.injEq, V.ref.injEq, if_true, if_false, Bool.not_true, Bool.not_false, reduceCtorEq, decide_true, decide_false, Bool.false_eq_true, exists_and_left, Bool.not_eq_true', decide_eq_true_eq, decide_eq_false_iff_not, rLenK, tLenSetT, List.append_nil, and_assoc, or_false, false_or, exists_false, false_and, and_false, rGetL, rSetL, gSub, tAugS, ipI, tPart, tNoPart, not_true, not_false_iff, ite_true, ite_false, List.map_cons, List.map_nil, sp_law_mixed, sp_law_take, wipe]
        refine ⟨0 + ((j : Nat) : Int), c, pc, _, .int _, rfl, .inr (.of epc), TpAll.dp (TpAll.ints.mpr rfl), ?_⟩
        by_cases q1 : 0 + ((j : Nat) : Int) ∈ c
        · exact ⟨true, by rw [decide_eq_true q1], by rw [if_pos rfl]; exact ke2 _ _ _ (.refl _) tcb (rl.put hc (if_pos q1))⟩
        · exact ⟨false, by rw [decide_eq_false q1], by rw [if_neg (by decide)]; exact ks2 _ (.refl _) (rl.skip hc (if_neg q1))⟩
      · rintro Ha acc es2 sa ea ra rl _
        rw [rl.all (by omega), filter_ite] at ra
        refine ⟨Nat.zero_le _, fun p5 h5 => ?_⟩
        have s5 := sm_new (o := .lst []) h5
        have ra' : TpAll (upd Ha p5 (.lst [])) acc (((ds.filter fun c => decide (0 + ((j : Nat) : Int) ∈ c)).map PySem.W.Tup.mk).map PySem.W.Datum.toD) := by
          rw [List.map_map]
          exact TpAll.same s5 ra
        refine ⟨(ds.filter fun c => decide (0 + ((j : Nat) : Int) ∈ c)).map PySem.W.Tup.mk, [], .lst (.of (s5 _ _ ea)) ra'.dp, .lst (.of upd_same) .nil, _, rfl, ?_⟩
        by_cases hex : ∃ c ∈ ds, 0 + ((j : Nat) : Int) ∈ c
        · have hne : (ds.filter fun c => decide (0 + ((j : Nat) : Int) ∈ c)).map PySem.W.Tup.mk ≠ [] := fun e => by
            obtain ⟨c, hc, hk⟩ := hex
            have e2 := List.filter_eq_nil_iff.mp (List.map_eq_nil_iff.mp e) c hc
            simp only [decide_eq_true_eq] at e2
            exact e2 hk
          rw [decide_eq_false hne]
          rw [if_pos (by rfl)]
          refine ke _ _ _ (sa.trans s5) (.int _) ⟨ns ++ [0 + ((j : Nat) : Int)], by rw [List.map_append]; rfl, ?_, fun k => ?_⟩
          · refine List.pairwise_append.mpr ⟨pn, List.pairwise_singleton _ _, fun a ha b hb => ?_⟩
            rw [List.mem_singleton.mp hb]
            have := ((hn a).mp ha).1
            omega
          · rw [List.mem_append, List.mem_singleton, hn k]
            constructor
            · rintro (⟨h1, h2⟩ | rfl)
              · exact ⟨by omega, h2⟩
              · exact ⟨by omega, hex⟩
            · rintro ⟨h1, h2⟩
              by_cases q : k < (j : Nat)
              · exact .inl ⟨by omega, h2⟩
              · exact .inr (by omega)
        · have hnil : (ds.filter fun c => decide (0 + ((j : Nat) : Int) ∈ c)).map PySem.W.Tup.mk = [] := by
            rw [List.map_eq_nil_iff]
            refine List.filter_eq_nil_iff.mpr fun c hc => ?_
            simp only [decide_eq_true_eq]
            exact fun hk => hex ⟨c, hc, hk⟩
          rw [decide_eq_true hnil]
          rw [if_neg (by decide)]
          refine ks' _ (sa.trans s5) ⟨ns, rfl, pn, fun k => ?_⟩
          rw [hn k]
          constructor
          · rintro ⟨h1, h2⟩
            exact ⟨by omega, h2⟩
          · rintro ⟨h1, h2⟩
            refine ⟨?_, h2⟩
            by_cases q : k = 0 + ((j : Nat) : Int)
            · rw [q] at h2
              exact absurd h2 hex
            · omega
    rintro H5 acc es s5 e5 r5 ⟨ns, rfl, pn, hn⟩ hnl
    have hacc := TpAll.ints.mp r5
    subst hacc
    have hb5 := hb.same (s3.trans s5)
    have er5 := s5 _ _ e3
    have t5 := TpAll.same s5 t3
    have hb6 : ∀ k ∈ ns, 0 ≤ k ∧ k < m := fun k hk => by
      have := ((hn k).mp hk).1
      omega
    have hnl6 : ns.length ≤ 6 := by
      have := pw_len pn hb6
      omega
    have nn : ns.Nodup := pn.imp fun h e => by omega
    have tail : ∀ (p7 p8 : Addr) (zs : List Str) (H6 : Hp), Same H5 H6 → H6 p8 = some (.lst (zs.map V.str)) → ns.length = zs.length → zs.Nodup → (∀ z ∈ zs, okN z = true) →
        tListZip K (tCons (tVar 6) (tCons (tVar 8) tNil)) [some (V.ref b), some (V.int m), some (V.ref p), some (V.int n), some (V.ref r), y, some (V.ref D), some (V.ref p7), some (.ref p8), none, none] H6 fun x_1 H1 =>
          rDictP K [x_1] H1 fun x_2 H1 => rTupOf K [.ref p8] H1 fun x_3 H1 =>
            tLc (iList K (tVar 4)) (gName 5) tYes (tCB (rTupOf K) (tCons (tLc (iTup K (tVar 5)) (gName 10) tYes (tDGet (tVar 9) (tVar 10)) [10]) tNil)) [5]
              [some (V.ref b), some (V.int m), some (V.ref p), some (V.int n), some (V.ref r), y, some (V.ref D), some (V.ref p7), some (.ref p8), some x_2, none] H1 fun x H1 =>
              rSortedD K [x] H1 fun x H1 => rTupOf K [x] H1 fun x H1 => [x_3, x].length ≤ sizeLine ∧ ∀ (p : Addr), H1 p = none → Q (V.ref p) (upd H1 p (HO.tup [x_3, x])) := by
      intro p7 p8 zs H6 s6 e8 lz zn zo
      refine ⟨_, rfl, _, rfl, D, p8, ns.map V.int, zs.map V.str, rfl, .inl (.of (s6 _ _ e5)), .of e8, by rw [List.length_map, List.length_map]; omega, fun l ps H7 s7 hl el lp pp => ?_⟩
      rw [List.length_map, List.length_map] at lp
      refine dict_zip el nn (by omega) lz pp fun pD hpD => ?_
      have sD := sm_new (o := .dK (kvZ ns zs)) hpD
      have eD : upd H7 pD (.dK (kvZ ns zs)) pD = some (.dK (kvZ ns zs)) := upd_same
      have s8 := s7.trans sD
      generalize upd H7 pD (.dK (kvZ ns zs)) = H8 at sD eD s8
      refine tuple_of (s8 _ _ e8) (TpAll.strs.mpr rfl) fun t1 H9 s9 tt1 => ?_
      have er9 := (s6.trans (s8.trans s9)) _ _ er5
      have t9 := TpAll.same (s6.trans (s8.trans s9)) t5
      have eD9 := s9 _ _ eD
      refine ⟨_, rfl, r, rfl, ⟨_, .of er9⟩, fun D3 hD3 => lc_rel (walk_list (xs := ys)) hD3 (lt1 (by omega)) (RlM (fun c => dS (c.map (nmOf ns zs))) ds) RlM.zero (fun H s => .of (s _ _ er9)) ?_ ?_⟩
      · rintro i2 es2 x2 Ha Hb Qe2 Qs2 hi2 sm2 rl ⟨rfl, hx2⟩ ke2 ks2
        obtain ⟨c, hc, tc⟩ := t9.nth hx2
        obtain ⟨pc, rfl, epc⟩ := (tc.same sm2).ints_at
        have hcl := okC_len (o3 c (List.mem_of_getElem? hc)) m6
        have hcn : ∀ k ∈ c, k ∈ ns := fun k hk => by
          have h1 := (o3 c (List.mem_of_getElem? hc)).2.2 k hk
          exact (hn k).mpr ⟨by omega, c, List.mem_of_getElem? hc, hk⟩
        refine ⟨rfl, ?_⟩
        simp only [tBM, SlX.tMethSl, tSeq, tIfS, tOr, tAnd, tNot, tB, tCB, tCons, tNil, tVar, tC, tTest, tChain, tRet, tRetN, tNext, tOp, tAndV, tOrV, tNotV, tIf, tThen, tYes, tTup, tLst, tCall, tAsg, tDrop, tDNewK, gName, gTup, gCons, gNil, rI0, rI, CMul, CDiv, tUn, rU, rEq, rNe, scal, LenV, RetB, RetD, List.set_cons_zero, List.set_cons_succ, List.getElem?_cons_zero, List.getElem?_cons_succ, Option.some.injEq, exists_eq_left', exists_eq_left, List.cons.injEq, and_true, true_and, V.int.injEq, V.str.injEq, V.bl.injEq, V.ref.injEq, if_true, if_false, Bool.not_true, Bool.not_false, reduceCtorEq, decide_true, decide_false, Bool.false_eq_true, exists_and_left, Bool.not_eq_true', decide_eq_true_eq, decide_eq_false_iff_not, rLenK, tLenSetT, List.append_nil, and_assoc, or_false, false_or, exists_false, false_and, and_false, rGetL, rSetL, gSub, tAugS, ipI, tPart, tNoPart, not_true, not_false_iff, ite_true, ite_false, List.map_cons, List.map_nil, sp_law_mixed, sp_law_take, wipe]
        refine ⟨_, rfl, pc, rfl, ⟨_, .of epc⟩, fun D4 hD4 => lc_rel (walk_tup (xs := c.map V.int)) hD4 ?_ (RlM (fun k => .str (nmOf ns zs k)) c) RlM.zero (fun H s => .of (s _ _ epc)) ?_ ?_⟩
        · rw [List.length_map]
          exact lt1 (by omega)
        · rintro i3 es3 x3 Hc Hd Qe3 Qs3 hi3 sm3 rl3 ⟨rfl, hx3⟩ ke3 ks3
          obtain ⟨k, hk, rfl⟩ := List.getElem?_map.symm.trans hx3 |> Option.map_eq_some_iff.mp
          have hv := kvZ_val lz (hcn k (List.mem_of_getElem? hk))
          have eDd := (sm2.trans sm3) _ _ eD9
          refine ⟨rfl, ?_⟩
          exact ⟨_, rfl, _, rfl, pD, _, rfl, .inl ⟨_, .inl k, .of eDd, rfl, hv.symm⟩, ke3 _ _ _ (.refl _) (.str _) (rl3.put hk)⟩
        · rintro Hc acc es3 s3c e3c r3c rl3 _
          rw [rl3.all (by rw [List.length_map]; exact Nat.le_refl _)] at r3c
          have r3d : TpAll Hc acc ((c.map (nmOf ns zs)).map .str) := by rw [List.map_map]; exact r3c
          exact tuple_of e3c r3d fun v He se tv => ke2 _ _ _ (s3c.trans se) tv (rl.put hc)
      · rintro Ha acc es2 sa ea ra rl _
        rw [rl.all (by omega)] at ra
        have ra' : TpAll Ha acc ((ds.map fun c => c.map (nmOf ns zs)).map dS) := by rw [List.map_map]; exact ra
        have G := goodH_named kne (by omega) nd3 o3 m6 pn hb6 (fun k => by rw [hn k]; constructor <;> (rintro ⟨h1, h2⟩; exact ⟨by omega, h2⟩)) lz zn zo
        refine sorted_of (.inl (.of ea)) ra' (al_dCs _) (so_dCs fun c hc => ?_) dp_dCs fun p9 ys2 Hb h9 sb eb rb => ?_
        · obtain ⟨c', hc', rfl⟩ := List.mem_map.mp hc
          exact fun e => (o3 c' hc').1 (List.map_eq_nil_iff.mp e)
        · rw [sortD_G] at rb
          refine tuple_of eb rb fun t2 Hc sc tt2 => ⟨by show 2 ≤ _; decide, fun p10 h10 => ?_⟩
          have sall := s3.trans (s5.trans (s6.trans (s8.trans (s9.trans (sa.trans (sb.trans sc))))))
          exact q _ _ _ _ (sall.trans (sm_new h10)) (ret_pair h10 (tt1.same (sa.trans (sb.trans sc))) tt2) G
    simp only [tSl, cxK, sp_law_mixed, tBM, SlX.tMethSl, tSeq, tIfS, tOr, tAnd, tNot, tB, tCB, tCons, tNil, tVar, tC, tTest, tChain, tRet, tRetN, tNext, tOp, tAndV, tOrV, tNotV, tIf, tThen, tYes, tTup, tLst, tCall, tAsg, tDrop, tDNewK, gName, gTup, gCons, gNil, rI0, rI, CMul, CDiv, tUn, rU, rEq, rNe, scal, LenV, RetB, RetD, List.set_cons_zero, List.set_cons_succ, List.getElem?_cons_zero, List.getElem?_cons_succ, Option.some.injEq, exists_eq_left', exists_eq_left, List.cons.injEq, and_true, true_and, V.int.injEq, V.str.injEq, V.bl.injEq, V.ref.injEq, if_true, if_false, Bool.not_true, Bool.not_false, reduceCtorEq, decide_true, decide_false, Bool.false_eq_true, exists_and_left, Bool.not_eq_true', decide_eq_true_eq, decide_eq_false_iff_not, rLenK, tLenSetT, List.append_nil, and_assoc, or_false, false_or, exists_false, false_and, and_false, rGetL, rSetL, gSub, tAugS, ipI, tPart, tNoPart, not_true, not_false_iff, ite_true, ite_false, List.map_cons, List.map_nil, sp_law_mixed, sp_law_take]
    refine ⟨by show 15 ≤ _; decide, fun p7 h7 => ?_⟩
    have s7 := sm_new (o := .lst (menuL.map V.str)) h7
    have e7 : upd H5 p7 (.lst (menuL.map V.str)) p7 = some (.lst (menuL.map V.str)) := upd_same
    refine ⟨hb5.same s7, by decide, by decide, fun v H8 _ _ s8 => ?_⟩
    have e8 := s8 _ _ e7
    have eD8 := (s7.trans s8) _ _ e5
    have ml : menuL.length = 15 := rfl
    by_cases hv : 0 < v
    · rw [if_pos hv]
      refine ⟨hb5.same (s7.trans s8), _, .of e8, by rw [List.length_map]; decide, fun p9 ys9 H9 s9 h9 e9 pm => ?_⟩
      obtain ⟨zs, rfl, pm2⟩ := perm_strs pm
      have zl := pm2.length_eq
      refine ⟨ns.length, .inl ⟨_, .of (s9 _ _ eD8), by rw [List.length_map]⟩, p9, _, rfl, .of e9, fun p11 h11 => ?_⟩
      rw [cut_to (by omega), Int.toNat_natCast, ← List.map_take]
      refine tail p7 p11 (zs.take ns.length) _ (s7.trans (s8.trans (s9.trans (sm_new h11)))) upd_same (by rw [List.length_take]; omega) ((pm2.nodup_iff.mpr menu_nd).sublist (List.take_sublist _ _)) fun z hz => menu_ok z (pm2.mem_iff.mp (List.mem_of_mem_take hz))
    · rw [if_neg hv]
      refine ⟨ns.length, .inl ⟨_, .of eD8, by rw [List.length_map]⟩, p7, _, rfl, .of e8, fun p11 h11 => ?_⟩
      rw [cut_to (by omega), Int.toNat_natCast, ← List.map_take]
      exact tail p7 p11 (menuL.take ns.length) _ (s7.trans (s8.trans (sm_new h11))) upd_same (by rw [List.length_take]; omega) (menu_nd.sublist (List.take_sublist _ _)) fun z hz => menu_ok z (List.mem_of_mem_take hz)
end
end C9
/-! ## F20 -/
set_option maxHeartbeats 4000000
namespace C9
open PySem PySem.Spec PyProof.Rows L2 C8
def intOf : V → Int
  | .int x => x
  | _ => 0
theorem perm_ints {ys : List V} {ks : List Int} (h : ys.Perm (ks.map V.int)) : ∃ ls : List Int, ys = ls.map V.int ∧ ls.Perm ks := by
  refine ⟨ys.map intOf, ?_, ?_⟩
  · rw [List.map_map]
    refine ((List.map_congr_left fun y hy => ?_).trans (List.map_id ys)).symm
    obtain ⟨k, _, rfl⟩ := List.mem_map.mp (h.mem_iff.mp hy)
    rfl
  · have := h.map intOf
    rw [List.map_map] at this
    exact this.trans (.of_eq ((List.map_congr_left fun _ _ => rfl).trans (List.map_id ks)))
theorem rg_ints (k : Int) : rgV 0 k = ((List.range k.toNat).map fun i => ((i : Nat) : Int)).map V.int := by
  unfold rgV
  rw [List.map_map, Int.sub_zero]
  exact List.map_congr_left fun i _ => by
    show V.int (0 + (i : Nat)) = V.int (i : Nat)
    rw [Int.zero_add]
theorem lay_ints : ∀ a : List Int, PyData.canLayAll0 (a.map .int) = true
  | [] => by simp [PyData.canLayAll0]
  | x :: a => by simp [PyData.canLayAll0, PyData.canLay0, lay_ints a]
theorem lay_fks : ∀ fs : List Fk, PyData.canLayAll0 (fs.map dFk) = true
  | [] => by simp [PyData.canLayAll0]
  | x :: fs => by simp [PyData.canLayAll0, PyData.canLay0, lay_ints, lay_fks fs]
theorem depth_fks : ∀ fs : List Fk, PyData.depthAll (fs.map dFk) ≤ 2
  | [] => by simp [PyData.depthAll]
  | x :: fs => by
    have := depth_fks fs
    have h := depth_dFk x
    rw [List.map_cons, PyData.depthAll, h]
    omega
theorem shaped_fks (fs : List Fk) : SeqAt.shaped (.list (fs.map dFk)) = true := by
  have := depth_fks fs
  unfold SeqAt.shaped
  rw [PyData.canLay0, lay_fks, PyData.depth]
  simp only [Bool.true_and, decide_eq_true_eq]
  omega
section
variable {K : PySem.W.Frag} {mg : Str → Option Value} {P : Program} {w : World} {base : Heap}
def sp_law_house (K : PySem.W.Frag) : Sp := fun vs H Q E => ∃ x y z, vs = [x, y, z] ∧ ∃ b, ∃ m n : Int, x = .ref b ∧ y = .int m ∧ z = .int n ∧ BagAt H b ∧ 1 ≤ m ∧ m ≤ 6 ∧ 1 ≤ n ∧ n ≤ 8 ∧ RetH H Q
theorem sc_law_house : FnScope ["_law_bag_here", "_law_kinds", "_law_calls", "_law_many", "_law_way", "_law_found", "_law_turn", "_law_two"] ["_law_bag_here", "_law_kinds", "_law_calls"] (defScope s_law_house) := ⟨rfl, rfl, rfl, by decide +kernel, rfl, by decide +kernel, by decide +kernel⟩
theorem c_law_house (T : Txt K mg) : C8.Cal P w K mg base 5 "_law_house" (sp_law_house K) [] := by
  refine T.cal 40 34 rfl rfl sc_law_house
    (fun _ _ _ _ _ _ us h => match us, h with | [_, _, _], _ => rfl)
    (fun vs H Q E h => by obtain ⟨_, _, _, rfl, _⟩ := h; rfl) (fun f cdv A outer s H vs Q E hr h => ?_)
  have nd := sc_law_house.nd
  refine ⟨_, (pss_cons (ps_par (i := 3) (j := 4) rfl nd rfl rfl (by decide) rfl rfl (pa_cons (pe_callB (call_min2 rfl) (by rfl) (T.free 64) rfl (pa_cons (pv 1) (pa_cons (pe_c (c_law_one T) hr (by decide) (by rfl) (pa_cons (pv 0) (pa_cons (pe_lst (pa_cons pe_int (pa_cons pe_int (pa_cons pe_int (pa_cons pe_int (pa_cons pe_int (pa_cons (pv 1) (pa_cons pe_int (pa_cons pe_int pa_nil))))))))) pa_nil))) pa_nil))) (pa_cons (pe_c (c_law_take T) hr (by decide) (by rfl) (pa_cons (pv 0) (pa_cons pe_int pa_nil))) pa_nil)) rfl)
     (pss_cons (ps_if (pt_cmpR op_lt (pv 4) pe_int rfl) (pss_cons (ps_set (i := 5) nd rfl (.inl rfl) (pe_c (c_law_paths T) hr (by decide) (by rfl) (pa_cons (pv 0) (pa_cons (pv 3) (pa_cons (pv 2) pa_nil)))))
     (pss_one (ps_for PassesOwn.never rfl (pi_range1 (by rfl) (T.free 65) (pa_cons (pe_op op_mul pe_int (pe_callTy call_intB (by rfl) (T.free 62) rfl (pa_cons (pe_and (pe_cmpR op_gt (pv 4) pe_int rfl) (pe_one (pe_cmpR op_gt (pv 3) pe_int rfl))) pa_nil))) pa_nil)) (pg_name (i := 6) nd rfl (by first | exact .inl rfl | exact .inr rfl))
      (pss_one (ps_if (pt_cmpR (k_eqD K hr) (pe_c (c_law_forks T) hr (by decide) (by rfl) (pa_cons (pe_tup (pa_cons (pe_tup pa_nil) (pa_cons (pv 5) pa_nil))) pa_nil)) (pe_lst pa_nil) rfl) (pss_one (ps_set (i := 5) nd rfl (.inl rfl) (pe_c (c_law_bent_call T) hr (by decide) (by rfl) (pa_cons (pv 0) (pa_cons (pv 3) (pa_cons (pv 5) pa_nil)))))) pss_nil))))) (pss_one (ps_if (PW.pt (pw_and (pt_cmpR op_eq (pv 4) pe_int rfl) (pw_and1 (pt_cmpR op_gt (pv 3) pe_int rfl)))) (pss_cons (ps_set (i := 7) nd rfl (.inl rfl) (pe_callB (k_sorted K) (by rfl) (T.free 58) rfl (pa_cons (pe_slice (k_slL K) (pe_c (c_law_mixed T) hr (by decide) (by rfl) (pa_cons (pv 0) (pa_cons (pe_listRg rfl (by rfl) (T.free 59) (prg_1 (by rfl) (T.free 65) (pv 3))) pa_nil))) po_none (po_some pe_int)) pa_nil)))
     (pss_one (ps_set (i := 5) nd rfl (.inl rfl) (pe_op op_cat (pe_lst (pa_cons (pe_callTy (k_tuple K) (by rfl) (T.free 55) rfl (pa_cons (pv 7) pa_nil)) (pa_cons (pe_tup (pa_cons (pe_ix (k_ixL K) (pv 7) pe_int (fun _ _ => rfl)) pa_nil)) (pa_cons (pe_tup (pa_cons (pe_ix (k_ixL K) (pv 7) pe_int (fun _ _ => rfl)) pa_nil)) pa_nil)))) (pe_c (c_law_any_calls T) hr (by decide) (by rfl) (pa_cons (pv 0) (pa_cons (pv 3) (pa_cons pe_int pa_nil)))))))) (pss_one (ps_set (i := 5) nd rfl (.inl rfl) (pe_c (c_law_any_calls T) hr (by decide) (by rfl) (pa_cons (pv 0) (pa_cons (pv 3) (pa_cons (pv 2) pa_nil)))))))))
     (pss_one (ps_ret (pe_c (c_law_named T) hr (by decide) (by rfl) (pa_cons (pv 0) (pa_cons (pv 3) (pa_cons (pv 5) (pa_cons (pv 2) pa_nil))))))))), ?_⟩
  obtain ⟨v0, v1, v2, rfl, h⟩ := h
  rw [show L2.start ["_law_bag_here", "_law_kinds", "_law_calls", "_law_many", "_law_way", "_law_found", "_law_turn", "_law_two"] [v0, v1, v2] = [some v0, some v1, some v2, none, none, none, none, none] from rfl]
  obtain ⟨b, m, n, rfl, rfl, rfl, hb, m1, m6, n1, n8, q⟩ := h
  simp only [tPar, tBM, SlX.tMethSl, tSeq, tIfS, tOr, tAnd, tNot, tB, tCB, tCons, tNil, tVar, tC, tTest, tChain, tRet, tRetN, tNext, tOp, tAndV, tOrV, tNotV, tIf, tThen, tYes, tTup, tLst, tCall, tAsg, tDrop, tDNewK, gName, gTup, gCons, gNil, rI0, rI, CMul, CDiv, tUn, rU, rEq, rNe, scal, LenV, RetB, RetD, List.set_cons_zero, List.set_cons_succ, List.getElem?_cons_zero, List.getElem?_cons_succ, Option.some.injEq, exists_eq_left', exists_eq_left, List.cons.injEq, and_true, true_and, V.int.injEq, V.str.injEq, V.bl.injEq, V.ref.injEq, if_true, if_false, Bool.not_true, Bool.not_false, reduceCtorEq, decide_true, decide_false, Bool.false_eq_true, exists_and_left, Bool.not_eq_true', decide_eq_true_eq, decide_eq_false_iff_not, rLenK, tLenSetT, List.append_nil, and_assoc, or_false, false_or, exists_false, false_and, and_false, rGetL, rSetL, gSub, tAugS, ipI, tPart, tNoPart, not_true, not_false_iff, ite_true, ite_false, List.map_cons, List.map_nil, sp_law_any_calls, sp_law_bent_call, sp_law_forks, sp_law_mixed, sp_law_named, sp_law_one, sp_law_paths, sp_law_take]
  refine ⟨by show 8 ≤ _; decide, fun p1 h1 => ⟨hb.same (sm_new h1), _, .inl (.of upd_same), by simp, by show 8 ≤ _; decide, fun v H2 hv s2 => ?_⟩⟩
  have s02 := (sm_new (o := .lst [V.int 2, V.int 3, V.int 1, V.int 4, V.int 3, V.int m, V.int 5, V.int 2]) h1).trans s2
  obtain ⟨v, rfl, v1⟩ : ∃ i : Int, v = .int i ∧ 1 ≤ i := by
    simp only [List.mem_cons, List.not_mem_nil, or_false] at hv
    rcases hv with rfl | rfl | rfl | rfl | rfl | rfl | rfl | rfl <;> exact ⟨_, rfl, by omega⟩
  have hm' : 1 ≤ (if v < m then v else m) ∧ (if v < m then v else m) ≤ 6 := by
    by_cases e : v < m
    · rw [if_pos e]; omega
    · rw [if_neg e]; omega
  refine ⟨v, rfl, hb.same s02, by decide, by decide, fun wy H3 w0 w1 s3 => ?_⟩
  obtain ⟨m1', m6'⟩ := hm'
  generalize (if v < m then v else m) = k at m1' m6' ⊢
  have s03 := s02.trans s3
  by_cases hw : wy < 7
  · rw [if_pos hw]
    refine ⟨hb.same s03, m1', m6', n1, n8, fun p xs cs H4 s4 hp ep tp cne cl g => ?_⟩
    have rng : ∀ (σ : L2.St) (H4 : Hp) (R : It → Hp → Prop), σ[3]? = some (some (.int k)) → σ[4]? = some (some (.int wy)) → (∀ n : Nat, n ≤ 4 → R (Itr 0 n) H4) → iRng1 (tCons (tOp (rI CMul fun i j => V.int (i * j)) (tC (V.int 4)) (tCB (fun xs H Q => ∃ k, xs = [V.bl k] ∧ Q (V.int (if k = true then 1 else 0)) H)
                (tCons (tAndV (tOp (rI0 fun i j => V.bl (decide (j < i))) (tVar 4) (tC (V.int 3))) (tOp (rI0 fun i j => V.bl (decide (j < i))) (tVar 3) (tC (V.int 1)))) tNil))) tNil) σ H4 R := fun σ H4 R e3 e4 hR => by
      simp only [iRng1, e3, e4, tBM, SlX.tMethSl, tSeq, tIfS, tOr, tAnd, tNot, tB, tCB, tCons, tNil, tVar, tC, tTest, tChain, tRet, tRetN, tNext, tOp, tAndV, tOrV, tNotV, tIf, tThen, tYes, tTup, tLst, tCall, tAsg, tDrop, tDNewK, gName, gTup, gCons, gNil, rI0, rI, CMul, CDiv, tUn, rU, rEq, rNe, scal, LenV, RetB, RetD, List.set_cons_zero, List.set_cons_succ, List.getElem?_cons_zero, List.getElem?_cons_succ, Option.some.injEq, exists_eq_left', exists_eq_left, List.cons.injEq, and_true, true_and, V.int.injEq, V.str.injEq, V.bl.injEq, V.ref.injEq, if_true, if_false, Bool.not_true, Bool.not_false, reduceCtorEq, decide_true, decide_false, Bool.false_eq_true, exists_and_left, Bool.not_eq_true', decide_eq_true_eq, decide_eq_false_iff_not, rLenK, tLenSetT, List.append_nil, and_assoc, or_false, false_or, exists_false, false_and, and_false, rGetL, rSetL, gSub, tAugS, ipI, tPart, tNoPart, not_true, not_false_iff, ite_true, ite_false, List.map_cons, List.map_nil, sp_law_any_calls, sp_law_bent_call, sp_law_forks, sp_law_mixed, sp_law_named, sp_law_one, sp_law_paths, sp_law_take]
      by_cases q1 : 3 < wy
      · rw [if_pos q1]
        by_cases q2 : 1 < k
        · simp only [if_pos q2]
          exact ⟨.inl ⟨by decide, by decide⟩, by decide, by decide, hR 4 (Nat.le_refl _)⟩
        · simp only [if_neg q2]
          exact ⟨.inl ⟨by decide, by decide⟩, by decide, by decide, hR 0 (Nat.zero_le _)⟩
      · rw [if_neg q1]
        exact ⟨.inl ⟨by decide, by decide⟩, by decide, by decide, hR 0 (Nat.zero_le _)⟩
    refine rng _ _ _ rfl rfl fun nn hnn => ?_
    refine for_it (walk_range (lo := 0) (n := nn)) (fun i σ H5 => ∃ pf y xs, ∃ cs : List (List Int), σ = [some (.ref b), some (.int m), some (.int n), some (.int k), some (.int wy), some (.ref pf), y, none] ∧ Same H H5 ∧ H5 pf = some (.lst xs) ∧ TpAll H5 xs (cs.map dI) ∧ cs ≠ [] ∧ cs.length ≤ 8 + i ∧ ∀ c ∈ cs, okC k c) ?_ (fun _ _ _ _ _ => trivial) ?_ ?_
    · exact ⟨p, none, xs, cs, rfl, s03.trans s4, ep, tp, cne, cl, g⟩
    · rintro i x σ H5 H6 hi ⟨pf, y, xs, cs, rfl, s5, ef, tf, fne, fl, gf⟩ ⟨rfl, rfl⟩
      simp only [tBM, SlX.tMethSl, tSeq, tIfS, tOr, tAnd, tNot, tB, tCB, tCons, tNil, tVar, tC, tTest, tChain, tRet, tRetN, tNext, tOp, tAndV, tOrV, tNotV, tIf, tThen, tYes, tTup, tLst, tCall, tAsg, tDrop, tDNewK, gName, gTup, gCons, gNil, rI0, rI, CMul, CDiv, tUn, rU, rEq, rNe, scal, LenV, RetB, RetD, List.set_cons_zero, List.set_cons_succ, List.getElem?_cons_zero, List.getElem?_cons_succ, Option.some.injEq, exists_eq_left', exists_eq_left, List.cons.injEq, and_true, true_and, V.int.injEq, V.str.injEq, V.bl.injEq, V.ref.injEq, if_true, if_false, Bool.not_true, Bool.not_false, reduceCtorEq, decide_true, decide_false, Bool.false_eq_true, exists_and_left, Bool.not_eq_true', decide_eq_true_eq, decide_eq_false_iff_not, rLenK, tLenSetT, List.append_nil, and_assoc, or_false, false_or, exists_false, false_and, and_false, rGetL, rSetL, gSub, tAugS, ipI, tPart, tNoPart, not_true, not_false_iff, ite_true, ite_false, List.map_cons, List.map_nil, sp_law_any_calls, sp_law_bent_call, sp_law_forks, sp_law_mixed, sp_law_named, sp_law_one, sp_law_paths, sp_law_take]
      refine ⟨Nat.zero_le _, fun q1 hq1 => ⟨by show 2 ≤ _; decide, fun q2 hq2 => ?_⟩⟩
      have sq := (sm_new (o := .tup []) hq1).trans (sm_new (o := .tup [.ref q1, .ref pf]) hq2)
      refine ⟨_, pf, .of upd_same, xs, .of (sq _ _ ef), cs, TpAll.same sq tf, by omega, fun c hc => ⟨(gf c hc).1, okC_len (gf c hc) m6'⟩, fun pk ks fs H7 s7 ek tk => ⟨Nat.zero_le _, fun q3 hq3 => ?_⟩⟩
      have sn := sm_new (o := .lst []) hq3
      have s57 := sq.trans (s7.trans sn)
      have s8 := s5.trans s57
      have ef8 := s57 _ _ ef
      have tf8 := TpAll.same s57 tf
      refine ⟨.list (fs.map dFk), .list [], .lst (.of (sn _ _ ek)) (TpAll.same sn tk).dp, .lst (.of upd_same) .nil, shaped_fks fs, shaped_fks [], _, rfl, ?_⟩
      by_cases qe : PyData.eqv (.list (fs.map dFk)) (.list []) = true
      · rw [if_pos qe]
        refine ⟨hb.same s8, m1', m6', xs, ef8, cs, tf8, fne, by omega, gf, fun p9 xs9 cs9 H9 s9 hp9 ep9 tp9 cne9 cl9 g9 => ⟨p9, rfl, s8.trans s9, xs9, ep9, cs9, tp9, cne9, by omega, g9⟩⟩
      · rw [if_neg qe]
        exact ⟨s8, xs, ef8, cs, tf8, fne, by omega, gf⟩
    · rintro σ H5 ⟨pf, y, xs, cs, rfl, s5, ef, tf, fne, fl, gf⟩
      simp only [sp_law_named, tBM, SlX.tMethSl, tSeq, tIfS, tOr, tAnd, tNot, tB, tCB, tCons, tNil, tVar, tC, tTest, tChain, tRet, tRetN, tNext, tOp, tAndV, tOrV, tNotV, tIf, tThen, tYes, tTup, tLst, tCall, tAsg, tDrop, tDNewK, gName, gTup, gCons, gNil, rI0, rI, CMul, CDiv, tUn, rU, rEq, rNe, scal, LenV, RetB, RetD, List.set_cons_zero, List.set_cons_succ, List.getElem?_cons_zero, List.getElem?_cons_succ, Option.some.injEq, exists_eq_left', exists_eq_left, List.cons.injEq, and_true, true_and, V.int.injEq, V.str.injEq, V.bl.injEq, V.ref.injEq, if_true, if_false, Bool.not_true, Bool.not_false, reduceCtorEq, decide_true, decide_false, Bool.false_eq_true, exists_and_left, Bool.not_eq_true', decide_eq_true_eq, decide_eq_false_iff_not, rLenK, tLenSetT, List.append_nil, and_assoc, or_false, false_or, exists_false, false_and, and_false, rGetL, rSetL, gSub, tAugS, ipI, tPart, tNoPart, not_true, not_false_iff, ite_true, ite_false, List.map_cons, List.map_nil, sp_law_any_calls, sp_law_bent_call, sp_law_forks, sp_law_mixed, sp_law_named, sp_law_one, sp_law_paths, sp_law_take]
      exact ⟨hb.same s5, m1', m6', xs, ef, cs, tf, fne, by omega, gf, n1, n8, fun v ks zs H' s' t' G => q v ks zs H' (s5.trans s') t' G⟩
  · rw [if_neg hw]
    by_cases h7 : wy = 7
    · by_cases hk : 1 < k
      · rw [if_pos h7, if_pos hk]
        simp only [tSl, tLstRg, tRg1, sp_law_mixed, cxK, sp_law_named, sp_law_any_calls, tBM, SlX.tMethSl, tSeq, tIfS, tOr, tAnd, tNot, tB, tCB, tCons, tNil, tVar, tC, tTest, tChain, tRet, tRetN, tNext, tOp, tAndV, tOrV, tNotV, tIf, tThen, tYes, tTup, tLst, tCall, tAsg, tDrop, tDNewK, gName, gTup, gCons, gNil, rI0, rI, CMul, CDiv, tUn, rU, rEq, rNe, scal, LenV, RetB, RetD, List.set_cons_zero, List.set_cons_succ, List.getElem?_cons_zero, List.getElem?_cons_succ, Option.some.injEq, exists_eq_left', exists_eq_left, List.cons.injEq, and_true, true_and, V.int.injEq, V.str.injEq, V.bl.injEq, V.ref.injEq, if_true, if_false, Bool.not_true, Bool.not_false, reduceCtorEq, decide_true, decide_false, Bool.false_eq_true, exists_and_left, Bool.not_eq_true', decide_eq_true_eq, decide_eq_false_iff_not, rLenK, tLenSetT, List.append_nil, and_assoc, or_false, false_or, exists_false, false_and, and_false, rGetL, rSetL, gSub, tAugS, ipI, tPart, tNoPart, not_true, not_false_iff, ite_true, ite_false, List.map_cons, List.map_nil, sp_law_any_calls, sp_law_bent_call, sp_law_forks, sp_law_mixed, sp_law_named, sp_law_one, sp_law_paths, sp_law_take]
        refine ⟨.of_le (by decide) (by omega) (by decide) (by omega), fun q1 hq1 => ⟨hb.same (s03.trans (sm_new hq1)), _, .of upd_same, by rw [rgV_length]; omega, fun q2 ys H4 s4 hq2 e2 pm => ?_⟩⟩
        have s04 := s03.trans ((sm_new (o := .lst (rgV 0 k)) hq1).trans s4)
        rw [rg_ints] at pm
        obtain ⟨ls, rfl, pm2⟩ := perm_ints pm
        have hll : ls.length = k.toNat := by rw [pm2.length_eq, List.length_map, List.length_range]
        have lnd : ls.Nodup := pm2.nodup_iff.mpr (List.Pairwise.map _ (fun a b (n : a ≠ b) e => n (Int.ofNat.inj e)) List.nodup_range)
        have lb : ∀ x ∈ ls, 0 ≤ x ∧ x < k := fun x hx => by
          obtain ⟨i, hi, rfl⟩ := List.mem_map.mp (pm2.mem_iff.mp hx)
          rw [List.mem_range] at hi
          omega
        obtain ⟨x1, x2, rest, rfl⟩ : ∃ x1 x2 rest, ls = x1 :: x2 :: rest := by
          match ls, hll with
          | [], h => simp only [List.length_nil] at h; omega
          | [_], h => simp only [List.length_singleton] at h; omega
          | x1 :: x2 :: rest, _ => exact ⟨x1, x2, rest, rfl⟩
        refine ⟨q2, _, rfl, .of e2, fun q3 hq3 => ?_⟩
        rw [cut_to (by decide)]
        show rSorted K [V.ref q3] (upd H4 q3 (.lst [V.int x1, V.int x2])) _
        have s3' := sm_new (o := .lst [V.int x1, V.int x2]) hq3
        refine ⟨q3, [x1, x2], rfl, .of upd_same, by show 2 < 64; decide, fun ns q4 pn pw hq4 => ?_⟩
        have s4' := sm_new (o := .lst (ns.map V.int)) hq4
        have s05 := s04.trans (s3'.trans s4')
        obtain ⟨y1, y2, rfl⟩ : ∃ y1 y2, ns = [y1, y2] := by
          match ns, pn.length_eq with
          | [y1, y2], _ => exact ⟨y1, y2, rfl⟩
        have nd2 : [y1, y2].Nodup := pn.nodup_iff.mpr (lnd.sublist (List.Sublist.cons₂ _ (List.Sublist.cons₂ _ (List.nil_sublist _))))
        have pw2 := pw_lt pw nd2
        have in2 : ∀ y ∈ [y1, y2], 0 ≤ y ∧ y < k := fun y hy => lb y (by
          have := pn.mem_iff.mp hy
          simp only [List.mem_cons, List.not_mem_nil, or_false] at this
          rcases this with rfl | rfl <;> simp)
        have e4 : upd (upd H4 q3 (.lst [V.int x1, V.int x2])) q4 (.lst ([y1, y2].map V.int)) q4 = some (.lst [V.int y1, V.int y2]) := upd_same
        generalize upd (upd H4 q3 (.lst [V.int x1, V.int x2])) q4 (.lst ([y1, y2].map V.int)) = H5 at e4 s05
        refine tuple_of e4 (TpAll.ints (ks := [y1, y2]).mpr rfl) fun t1 H6 s6 tt1 => ?_
        have e6 := s6 _ _ e4
        refine ix_l e6 (atI_0 _ _) ⟨by show 1 ≤ _; decide, fun q5 hq5 => ?_⟩
        have s7 := sm_new (o := .tup [V.int y1]) hq5
        refine ix_l (s7 _ _ e6) (atI_1 _ _ _) ⟨by show 1 ≤ _; decide, fun q6 hq6 => ⟨by show 3 ≤ _; decide, fun q7 hq7 => ?_⟩⟩
        have s8 := sm_new (o := .tup [V.int y2]) hq6
        have s9 := sm_new (o := .lst [t1, .ref q5, .ref q6]) hq7
        have t3 : TpAll (upd (upd (upd H6 q5 (.tup [V.int y1])) q6 (.tup [V.int y2])) q7 (.lst [t1, .ref q5, .ref q6])) [t1, .ref q5, .ref q6] ([[y1, y2], [y1], [y2]].map dI) :=
          .cons (tt1.same (s7.trans (s8.trans s9))) (.cons (.tup ((s8.trans s9) _ _ upd_same) (TpAll.ints (ks := [y1]).mpr rfl)) (.cons (.tup (s9 _ _ upd_same) (TpAll.ints (ks := [y2]).mpr rfl)) .nil))
        have s69 := s05.trans (s6.trans (s7.trans (s8.trans s9)))
        refine ⟨hb.same s69, m1', m6', by decide, by decide, fun p8 xs8 cs8 H8 s10 hp8 ep8 tp8 cne8 cl8 g8 => ?_⟩
        refine ⟨q7, p8, _, xs8, rfl, rfl, s10 _ _ upd_same, ep8, Nat.le_trans (by rw [tp8.len]; show 3 + _ ≤ 1000; omega) (by decide), fun q9 hq9 => ?_⟩
        have s11 := sm_new (o := .lst ([t1, .ref q5, .ref q6] ++ xs8)) hq9
        have sA := s69.trans (s10.trans s11)
        refine ⟨q9, rfl, hb.same sA, m1', m6', _, upd_same, [[y1, y2], [y1], [y2]] ++ cs8, ?_, by simp, by rw [List.length_append]; show 3 + _ ≤ 900; omega, fun c hc => ?_, n1, n8, fun v ks zs H' s' t' G => q v ks zs H' (sA.trans s') t' G⟩
        · rw [List.map_append]
          exact (TpAll.same (s10.trans s11) t3).app (TpAll.same s11 tp8)
        · rcases List.mem_append.mp hc with hc | hc
          · simp only [List.mem_cons, List.not_mem_nil, or_false] at hc
            rcases hc with rfl | rfl | rfl
            · exact ⟨by simp, pw2, in2⟩
            · exact ⟨by simp, List.pairwise_singleton _ _, fun z hz => in2 z (by rw [List.mem_singleton.mp hz]; simp)⟩
            · exact ⟨by simp, List.pairwise_singleton _ _, fun z hz => in2 z (by rw [List.mem_singleton.mp hz]; simp)⟩
          · exact g8 c hc
      · rw [if_pos h7, if_neg hk]
        exact ⟨hb.same s03, m1', m6', n1, n8, fun p xs cs H4 s4 hp ep tp cne cl g => ⟨p, rfl, hb.same (s03.trans s4), m1', m6', xs, ep, cs, tp, cne, by omega, g, n1, n8, fun v ks zs H' s' t' G => q v ks zs H' (s03.trans (s4.trans s')) t' G⟩⟩
    · rw [if_neg h7]
      exact ⟨hb.same s03, m1', m6', n1, n8, fun p xs cs H4 s4 hp ep tp cne cl g => ⟨p, rfl, hb.same (s03.trans s4), m1', m6', xs, ep, cs, tp, cne, by omega, g, n1, n8, fun v ks zs H' s' t' G => q v ks zs H' (s03.trans (s4.trans s')) t' G⟩⟩
end
end C9
/-! ## F21 -/
set_option maxHeartbeats 4000000
namespace C9
open PySem PySem.Spec PyProof.Rows L2 C8
/-- a dict of names: what get gives, the name itself where it has none -/
def NDict (H : Hp) (v : V) (g : Str → Str) : Prop := ∃ D kvs, v = .ref D ∧ Rd H D (.dK kvs) ∧ ∀ n, (valV kvs (.inr n)).getD (.str n) = .str (g n)
theorem NDict.same {H H' : Hp} {v : V} {g : Str → Str} (h : NDict H v g) (s : Same H H') : NDict H' v g := by
  obtain ⟨D, kvs, rfl, e, q⟩ := h
  exact ⟨D, kvs, rfl, Rd.same e s, q⟩
def mapR (f g : Str → Str) : Row → Row
  | .put n k => .put (g n) (f k)
  | .drop n => .drop (g n)
  | .call c => .call (c.map f)
def kindsR (ks : List Str) : Row → Prop
  | .put _ k => k ∈ ks
  | .drop _ => True
  | .call c => c.length ≤ 900 ∧ ∀ k ∈ c, k ∈ ks
section
variable {K : PySem.W.Frag} {mg : Str → Option Value} {P : Program} {w : World} {base : Heap}
def sp_law_row_to (K : PySem.W.Frag) : Sp := fun vs H Q E => ∃ x y z, vs = [x, y, z] ∧ ∃ r ks f g, Tp H x (dR r) ∧ SDict H y ks f ∧ NDict H z g ∧ kindsR ks r ∧ RetD (dR (mapR f g r)) H Q
theorem sc_law_row_to : FnScope ["_law_row", "_law_kinds", "_law_names", "_law_kind"] ["_law_row", "_law_kinds", "_law_names"] (defScope s_law_row_to) := ⟨rfl, rfl, rfl, by decide +kernel, rfl, by decide +kernel, by decide +kernel⟩
theorem c_law_row_to (T : Txt K mg) : C8.Cal P w K mg base 1 "_law_row_to" (sp_law_row_to K) [] := by
  refine T.cal 52 46 rfl rfl sc_law_row_to
    (fun _ _ _ _ _ _ us h => match us, h with | [_, _, _], _ => rfl)
    (fun vs H Q E h => by obtain ⟨_, _, _, rfl, _⟩ := h; rfl) (fun f cdv A outer s H vs Q E hr h => ?_)
  have nd := sc_law_row_to.nd
  refine ⟨_, (pss_cons (ps_if (pt_cmpR op_eq (pe_ix (k_ixT K) (pv 0) pe_int (fun _ _ => rfl)) pe_str rfl) (pss_one (ps_ret (pe_tup (pa_cons pe_str (pa_cons (pe_dget2 (hu_of hr) (pv 2) (pe_ix (k_ixT K) (pv 0) pe_int (fun _ _ => rfl)) (pe_ix (k_ixT K) (pv 0) pe_int (fun _ _ => rfl)) ⟨rfl, rfl, rfl, rfl⟩) (pa_cons (pe_dget (hu_of hr) (pv 1) (pe_ix (k_ixT K) (pv 0) pe_int (fun _ _ => rfl)) (fun _ _ => rfl)) pa_nil)))))) pss_nil)
     (pss_cons (ps_if (pt_cmpR op_eq (pe_ix (k_ixT K) (pv 0) pe_int (fun _ _ => rfl)) pe_str rfl) (pss_one (ps_ret (pe_tup (pa_cons pe_str (pa_cons (pe_dget2 (hu_of hr) (pv 2) (pe_ix (k_ixT K) (pv 0) pe_int (fun _ _ => rfl)) (pe_ix (k_ixT K) (pv 0) pe_int (fun _ _ => rfl)) ⟨rfl, rfl, rfl, rfl⟩) pa_nil))))) pss_nil)
     (pss_one (ps_ret (pe_tup (pa_cons pe_str (pa_cons (pe_callTy (k_tuple K) (by rfl) (T.free 55) rfl (pa_cons (pe_lc rfl nd (k_piT K (pi_tup (pe_ix (k_ixT K) (pv 0) pe_int (fun _ _ => rfl)))) (blkOk_by (own := [("_law_kind", 3)]) (by rfl)) (fun _ _ _ _ _ => (pg_name (i := 3) nd rfl (by first | exact .inl rfl | exact .inr rfl))) (fun _ _ _ _ _ => pts_nil) (fun _ _ _ _ _ => (pe_dget (hu_of hr) (pv 1) (pv 3) (fun _ _ => rfl)))) pa_nil)) pa_nil))))))), ?_⟩
  obtain ⟨v0, v1, v2, rfl, h⟩ := h
  rw [show L2.start ["_law_row", "_law_kinds", "_law_names", "_law_kind"] [v0, v1, v2] = [some v0, some v1, some v2, none] from rfl]
  obtain ⟨r, ks, f1, g1, hx, hy, hz, hk, q⟩ := h
  cases r with
  | put n k =>
    obtain ⟨a, w1, w2, w3, rfl, ea, h1, h2, h3⟩ := hx.three
    cases h1; cases h2; cases h3
    simp only [tBM, SlX.tMethSl, tSeq, tIfS, tOr, tAnd, tNot, tB, tCB, tCons, tNil, tVar, tC, tTest, tChain, tRet, tRetN, tNext, tOp, tAndV, tOrV, tNotV, tIf, tThen, tYes, tTup, tLst, tCall, tAsg, tDrop, tDNewK, gName, gTup, gCons, gNil, rI0, rI, CMul, CDiv, tUn, rU, rEq, rNe, scal, LenV, RetB, RetD, List.set_cons_zero, List.set_cons_succ, List.getElem?_cons_zero, List.getElem?_cons_succ, Option.some.injEq, exists_eq_left', exists_eq_left, List.cons.injEq, and_true, true_and, V.int.injEq, V.str.injEq, V.bl.injEq, V.ref.injEq, if_true, if_false, Bool.not_true, Bool.not_false, reduceCtorEq, decide_true, decide_false, Bool.false_eq_true, exists_and_left, Bool.not_eq_true', decide_eq_true_eq, decide_eq_false_iff_not, rLenK, tLenSetT, List.append_nil, and_assoc, or_false, false_or, exists_false, false_and, and_false, rGetL, rSetL, gSub, tAugS, ipI, tPart, tNoPart, not_true, not_false_iff, ite_true, ite_false, List.map_cons, List.map_nil]
    refine ix_t ea (atI_0 _ _) ⟨rfl, ?_⟩
    rw [if_pos rfl]
    obtain ⟨D2, kvs2, rfl, e2, q2⟩ := hz
    obtain ⟨D1, kvs1, rfl, e1, q1⟩ := hy
    have hk1 := q1 k hk
    refine ⟨_, rfl, D2, rfl, .inl ⟨_, e2⟩, _, rfl, a, _, 1, _, rfl, rfl, .of ea, atI_1 _ _ _, _, rfl, a, _, 1, _, rfl, rfl, .of ea, atI_1 _ _ _, _, .inl ⟨kvs2, .inr n, e2, rfl, rfl⟩, ?_⟩
    rw [q2 n]
    refine ⟨_, rfl, _, rfl, a, _, 2, _, rfl, rfl, .of ea, atI_2 _ _ _ _, D1, _, rfl, .inl ⟨kvs1, .inr k, e1, rfl, hk1.symm⟩, by show 3 ≤ _; decide, fun p hp => ?_⟩
    exact q _ _ (sm_new hp) (.mk hp (.cons (.str _) (.cons (.str _) (.cons (.str _) .nil))))
  | drop n =>
    obtain ⟨a, w1, w2, rfl, ea, h1, h2⟩ := hx.two
    cases h1; cases h2
    simp only [tBM, SlX.tMethSl, tSeq, tIfS, tOr, tAnd, tNot, tB, tCB, tCons, tNil, tVar, tC, tTest, tChain, tRet, tRetN, tNext, tOp, tAndV, tOrV, tNotV, tIf, tThen, tYes, tTup, tLst, tCall, tAsg, tDrop, tDNewK, gName, gTup, gCons, gNil, rI0, rI, CMul, CDiv, tUn, rU, rEq, rNe, scal, LenV, RetB, RetD, List.set_cons_zero, List.set_cons_succ, List.getElem?_cons_zero, List.getElem?_cons_succ, Option.some.injEq, exists_eq_left', exists_eq_left, List.cons.injEq, and_true, true_and, V.int.injEq, V.str.injEq, V.bl.injEq, V.ref.injEq, if_true, if_false, Bool.not_true, Bool.not_false, reduceCtorEq, decide_true, decide_false, Bool.false_eq_true, exists_and_left, Bool.not_eq_true', decide_eq_true_eq, decide_eq_false_iff_not, rLenK, tLenSetT, List.append_nil, and_assoc, or_false, false_or, exists_false, false_and, and_false, rGetL, rSetL, gSub, tAugS, ipI, tPart, tNoPart, not_true, not_false_iff, ite_true, ite_false, List.map_cons, List.map_nil]
    refine ix_t ea (atI_0 _ _) ⟨rfl, ?_⟩
    rw [if_neg (by decide)]
    refine ix_t ea (atI_0 _ _) ⟨rfl, ?_⟩
    rw [if_pos rfl]
    obtain ⟨D2, kvs2, rfl, e2, q2⟩ := hz
    refine ⟨_, rfl, D2, rfl, .inl ⟨_, e2⟩, _, rfl, a, _, 1, _, rfl, rfl, .of ea, atI_1 _ _ _, _, rfl, a, _, 1, _, rfl, rfl, .of ea, atI_1 _ _ _, _, .inl ⟨kvs2, .inr n, e2, rfl, rfl⟩, ?_⟩
    rw [q2 n]
    refine ⟨by show 2 ≤ _; decide, fun p hp => ?_⟩
    exact q _ _ (sm_new hp) (.mk hp (.cons (.str _) (.cons (.str _) .nil)))
  | call c =>
    obtain ⟨a, w1, w2, rfl, ea, h1, h2⟩ := hx.two
    cases h1
    obtain ⟨b, rfl, eb⟩ := h2.strs_at
    simp only [tBM, SlX.tMethSl, tSeq, tIfS, tOr, tAnd, tNot, tB, tCB, tCons, tNil, tVar, tC, tTest, tChain, tRet, tRetN, tNext, tOp, tAndV, tOrV, tNotV, tIf, tThen, tYes, tTup, tLst, tCall, tAsg, tDrop, tDNewK, gName, gTup, gCons, gNil, rI0, rI, CMul, CDiv, tUn, rU, rEq, rNe, scal, LenV, RetB, RetD, List.set_cons_zero, List.set_cons_succ, List.getElem?_cons_zero, List.getElem?_cons_succ, Option.some.injEq, exists_eq_left', exists_eq_left, List.cons.injEq, and_true, true_and, V.int.injEq, V.str.injEq, V.bl.injEq, V.ref.injEq, if_true, if_false, Bool.not_true, Bool.not_false, reduceCtorEq, decide_true, decide_false, Bool.false_eq_true, exists_and_left, Bool.not_eq_true', decide_eq_true_eq, decide_eq_false_iff_not, rLenK, tLenSetT, List.append_nil, and_assoc, or_false, false_or, exists_false, false_and, and_false, rGetL, rSetL, gSub, tAugS, ipI, tPart, tNoPart, not_true, not_false_iff, ite_true, ite_false, List.map_cons, List.map_nil]
    refine ix_t ea (atI_0 _ _) ⟨rfl, ?_⟩
    rw [if_neg (by decide)]
    refine ix_t ea (atI_0 _ _) ⟨rfl, ?_⟩
    rw [if_neg (by decide)]
    obtain ⟨D1, kvs1, rfl, e1, q1⟩ := hy
    refine ⟨_, rfl, a, _, 1, _, rfl, rfl, .of ea, atI_1 _ _ _, b, rfl, ⟨_, .of eb⟩, fun D hD => lc_rel (walk_tup (xs := c.map V.str)) hD ?_ (RlM (fun k => .str (f1 k)) c) RlM.zero (fun H s => .of (s _ _ eb)) ?_ ?_⟩
    · rw [List.length_map]
      exact lt1 (by have := hk.1; omega)
    · rintro i es x Ha Hb Qe Qs hi sm rl ⟨rfl, hx3⟩ ke ks'
      obtain ⟨k, hk', rfl⟩ := List.getElem?_map.symm.trans hx3 |> Option.map_eq_some_iff.mp
      have hv := q1 k (hk.2 k (List.mem_of_getElem? hk'))
      refine ⟨rfl, ?_⟩
      exact ⟨_, rfl, _, rfl, D1, _, rfl, .inl ⟨_, .inr k, Rd.same e1 sm, rfl, hv.symm⟩, ke _ _ _ (.refl _) (.str _) (rl.put hk')⟩
    · rintro Ha acc es sa ea ra rl _
      rw [rl.all (by rw [List.length_map]; exact Nat.le_refl _)] at ra
      have ra' : TpAll Ha acc ((c.map f1).map .str) := by rw [List.map_map]; exact ra
      refine tuple_of ea ra' fun v He se tv => ⟨by show 2 ≤ _; decide, fun p hp => ?_⟩
      exact q _ _ (sa.trans (se.trans (sm_new hp))) (.mk hp (.cons (.str _) (.cons tv .nil)))
end
end C9
/-! ## G1 -/
set_option maxHeartbeats 4000000
namespace C9
open PySem PySem.Spec PyProof.Rows L2 C8
/-! ### defs that call repr: nothing is being shown around them -/
abbrev NoG (A : Around) : Prop := A.guards = some []
theorem NoG.deeper {A : Around} (h : NoG A) (env : Env) : NoG (A.deeper env) := h
structure FnG (P : Program) (w : World) (K : PySem.W.Frag) (mg : Str → Option Value) (base : Heap) (k : Nat) (f : Addr) (fd : FuncData) (ps : List Str) (sp : Sp) : Prop where
  len : ∀ vs H Q E, sp vs H Q E → vs.length = ps.length
  go : ∀ (B : Around) (up : List Env) (z : Shared) (H : Hp) (as : Args) (us : List Value) (vs : List V) (Q : VK) (E : XK), NoG B → Room k B → Env0 P w K mg base B up z H → BindsTo z fd as (ps.zip us) → Vals vs us → sp vs H Q E →
    codeAny (model P w) B (.call (.ref f) as) (CR C8.CX0 up P w H z Q E) z
structure CalG (P : Program) (w : World) (K : PySem.W.Frag) (mg : Str → Option Value) (base : Heap) (k : Nat) (x : Str) (sp : Sp) : Prop where
  ex : ∃ (f : Addr) (fd : FuncData) (ps : List Str), FnG P w K mg base k f fd ps sp ∧ mg x = some (.ref f) ∧ PySem.W.keepIn K (.ref f) = true ∧ Binds K fd ps []
section
variable {P : Program} {w : World} {K : PySem.W.Frag} {mg : Str → Option Value} {base : Heap}
theorem fnG_of {k : Nat} {f : Addr} {name qual : Str} {params : Arguments} {body : List Stmt} {scope : Scope} {dvs : List V} {kws : List (Str × V)} {fd : FuncData} {N ps : List Str} {sp : Sp} (F : FunD K name qual params body scope dvs kws f fd) (S : FnScope N ps scope)
    (len : ∀ vs H Q E, sp vs H Q E → vs.length = ps.length)
    (hbody : ∀ (cdv : Value) (B : Around) (up : List Env) (z : Shared) (H : Hp) (vs : List V) (Q : VK) (E : XK), NoG (B.deeper (envOfC qual scope z.heap.objs.size f cdv)) → Room k (B.deeper (envOfC qual scope z.heap.objs.size f cdv)) → sp vs H Q E →
      ∃ t, PSs (cxOf C8.CX0 P w K mg base N qual scope f cdv B up z H E) body t ∧ t { nx := fun _ H' => Q .non H', rt := Q } (start N vs) H) :
    FnG P w K mg base (k + 1) f fd ps sp := by
  obtain ⟨oc, od, dV, kV, doc, pm, an, cdv, ct, osl, rfl, lk, hcd, _, _⟩ := F.ex
  refine ⟨len, fun B up z H as us vs Q E hG hr e0 hb r hsp => ?_⟩
  have hl := len _ _ _ _ hsp
  have kin : K.In z.heap := e0.mod.kin.keeps fun b o e => (e0.bs b o e).1
  have kinds : ∀ y ∈ ps.zip us, scope.names.lookup y.1 = some .local ∨ (scope.names.lookup y.1 = some .cell ∧ ((cellsFrom (z.heap.objs.size + 1) scope.names []).lookup y.1).isSome = true) := by
    rintro ⟨n, v⟩ hy
    exact (S.par n (List.of_mem_zip hy).1).imp id fun q => ⟨q, PySem.W.cellsFrom_some _ _ _ (.inl q)⟩
  refine codeAny_call_function hr.depth (kin _ _ lk) rfl S.co S.gen rfl (PySem.W.codeRec_of kin hcd) (hb _ _ _ _ ?_)
  refine wpAny_newFunctionEnv_cells S.kind kinds fun env he s1 x => ?_
  subst he
  refine ⟨(e0.mod.nolimit.keeps fun b o e => (e0.bs b o e).1).keeps x.toInCall.keep, codeAny_func ?_⟩
  obtain ⟨t, ht, hq⟩ := hbody cdv B up z H vs Q E (hG.deeper _) (hr.deeper _) hsp
  refine wpAny_mono (ht.run [] s1 (start N vs) H _ (inv_start S hr.hd e0 hl r x) hq) (fun fl s' hs => ?_) fun e s' hs => hs
  cases fl with
  | ret u =>
    obtain ⟨v, σ', H', J, rv, q⟩ := hs
    exact ⟨v, H', J.os, J.bare, J.base, J.hok, rv, q⟩
  | next =>
    obtain ⟨σ', H', J, q⟩ := hs
    exact ⟨.non, H', J.os, J.bare, J.base, J.hok, rfl, q⟩
  | brk => exact hs.elim fun _ h => h.elim fun _ h => h.2.elim
  | cont => exact hs.elim fun _ h => h.elim fun _ h => h.2.elim
end
section
variable {X : Cx} {x : Str} {p pos : Pos} {e : Expr} {es : List Expr} {t : TA} {k j : Nat} {sp : Sp}
/-- f(e, ..) where nothing is being shown -/
theorem pe_g (c : CalG X.prog X.w X.K X.mg X.base k x sp) (hG : NoG X.A) (hr : Room j X.A) (hk : k ≤ j) (hg : Gl X x) (ha : PA X (e :: es) t)
    (hdb : (x == ("__debug__" : Str)) = false := by decide) (he : starEach (e :: es) X.env = (false, eval e X.env) :: starEach es X.env := by rfl) (hpl : (backTo pos (starEach es X.env)).any (·.1) = false := by rfl) :
    PE X (.Call (.Name x p) (e :: es) [] pos) (tCall sp [] C8.E0 t) := by
  obtain ⟨f, fd, ps, F, hm, kp, b⟩ := c.ex
  refine ⟨fun pins s σ H Q I h => wpAny_Call_Name_kw (ld_glob I hg hm (PySem.W.callWith_K (h₀ := X.base) I.ok.mod.kin kp (thn (ha.run pos pins s σ H _ I h) fun us s1 ⟨vs, H1, I1, r, q⟩ => ⟨I1.kIn, ?_⟩) he hpl) hdb)⟩
  have q : sp (vs ++ []) H1 Q C8.E0 := q
  have hl : us.length = ps.length := by
    have := F.len _ _ _ _ q
    rw [List.append_nil] at this
    rw [← r.length, this]
  rw [List.append_nil] at q
  have hb := b s1 us I1.kIn (by rw [List.append_nil]; exact hl)
  rw [List.append_nil] at hb
  refine wpAny_call (codeAny_mono (F.go X.A X.stack s1 H1 ⟨us, []⟩ us vs Q C8.E0 hG (hr.mono hk) I1.env0 hb r q) fun r2 s' hq => ?_)
  cases r2 with
  | error e => exact (C8.pass0 (X := X) : Passes C8.CX0 X C8.E0) pins σ H1 s1 e s' I1 hq
  | ok fl =>
    cases fl with
    | ret u => exact I1.after hq
    | next => exact False.elim hq
    | brk => exact False.elim hq
    | cont => exact False.elim hq
end
end C9
/-! ## A1 -/
set_option maxHeartbeats 4000000
namespace C9
open PySem PySem.Spec PyProof.Rows L2
/-! ### data with dicts: flat dicts, and lists of such -/
def kD : Key → PyData
  | .inl i => .int i
  | .inr x => .str x
inductive LfV : V → PyData → Prop
  | non : LfV .non .none
  | int (i : Int) : LfV (.int i) (.int i)
  | str (x : Str) : LfV (.str x) (.str x)
abbrev DicL : List (Key × V) → List (PyData × PyData) → Prop := Paired fun p q => q.1 = kD p.1 ∧ LfV p.2 q.2
inductive Dq1 (H : Hp) : V → PyData → Prop
  | tp {v : V} {d : PyData} (h : Tp H v d) (q : d.depth ≤ 40) : Dq1 H v d
  | dic {a : Addr} {o : Obj} {kvs : List (Key × V)} {ds : List (PyData × PyData)} (e : H a = some (.frz o (.dK kvs))) (l : DicL kvs ds) : Dq1 H (.ref a) (.dict ds)
  | lst {a : Addr} {xs : List V} {ds : List PyData} (e : H a = some (.lst xs)) (l : TpAll H xs ds) (q : ∀ d ∈ ds, d.depth ≤ 40) : Dq1 H (.ref a) (.list ds)
inductive Dq (H : Hp) : V → PyData → Prop
  | one {v : V} {d : PyData} (h : Dq1 H v d) : Dq H v d
  | lst {a : Addr} {xs : List V} {ds : List PyData} (e : H a = some (.lst xs)) (h : Paired (Dq1 H) xs ds) : Dq H (.ref a) (.list ds)
section
variable {X : Cx} {pins : List (Addr × Obj)} {σ : L2.St} {H : Hp} {s : Shared}
theorem sys_none (I : Inv X pins σ H s) (h : ∃ o, X.K.lookup sysModules = some o) : H sysModules = none := by
  obtain ⟨o, h⟩ := h
  have e := I.ok.mod.kin _ _ h
  obtain ⟨e1, e2⟩ := I.ok.bs _ _ e
  exact I.base.free _ _ e1 e2 (I.ok.noex _ _ e)
mutual
theorem Tp.reads (I : Inv X pins σ H s) : ∀ {d : PyData} {v : V} {u : Value}, Tp H v d → RelV v u → Reads s.heap u d []
  | .none, _, _, h, r => by cases h; cases r; exact .none
  | .bool b, _, _, h, r => by cases h; cases r; exact .bool b
  | .int i, _, _, h, r => by cases h; obtain ⟨t, rfl⟩ := r; exact .int i t
  | .str x, _, _, h, r => by cases h; obtain ⟨t, rfl⟩ := r; exact .str x t
  | .tuple ds, _, _, h, r => by
    cases h with
    | tup e q =>
      cases r
      obtain ⟨its, rv, ⟨o, ho, hc, n, hd⟩, _⟩ := I.tuple (.of e)
      exact .tuple ho hc hd (TpAll.reads I q rv)
  | .list ds, _, _, h, _ => by cases h
  | .dict ds, _, _, h, _ => by cases h
theorem TpAll.reads (I : Inv X pins σ H s) : ∀ {ds : List PyData} {vs : List V} {us : List Value}, TpAll H vs ds → Vals vs us → ReadsAll s.heap us ds []
  | [], _, _, h, r => by cases h; cases r; exact .nil
  | d :: ds, _, _, h, r => by
    cases h with
    | cons h1 h2 => cases r with
      | cons r1 r2 => exact .cons (as := []) (Tp.reads I h1 r1) (TpAll.reads I h2 r2)
end
theorem LfV.reads {v : V} {d : PyData} {u : Value} {h : Heap} (l : LfV v d) (r : RelV v u) : Reads h u d [] := by
  cases l with
  | non => cases r; exact .none
  | int i => obtain ⟨t, rfl⟩ := r; exact .int i t
  | str x => obtain ⟨t, rfl⟩ := r; exact .str x t
theorem pairs_reads {P : Program} {w : World} {h : Heap} : ∀ {es : List DictEntry} {vs : List (Key × Value)} {kvs : List (Key × V)} {ds : List (PyData × PyData)}, Pairs (mixKind P w) es vs → KV kvs vs → DicL kvs ds →
    ReadsAll h (es.map (·.key)) (ds.map (·.1)) [] ∧ ReadsAll h (es.map (·.val)) (ds.map (·.2)) []
  | _, _, _, _, .nil, k, l => by
    cases k
    cases l
    exact ⟨.nil, .nil⟩
  | _, _, _, _, .cons (e := e) (kv := kv) h1 h2 t, k, l => by
    cases k with
    | cons k1 k2 => cases l with
      | cons l1 l2 =>
        obtain ⟨a, b⟩ := pairs_reads (h := h) t k2 l2
        refine ⟨.cons (as := []) ?_ a, .cons (as := []) ?_ b⟩
        · show Reads h e.key (Prod.fst _) []
          rw [l1.1]
          have hk : keyIs kv.1 e.key = true := h1
          rw [← k1.1] at hk
          rcases keyIs_shape hk with ⟨i, t, e1, e2⟩ | ⟨x, t, e1, e2⟩
          · rw [e1, e2]; exact .int i t
          · rw [e1, e2]; exact .str x t
        · show Reads h e.val (Prod.snd _) []
          rw [h2]
          exact l1.2.reads k1.2
theorem Dq1.reads (I : Inv X pins σ H s) (hs : H sysModules = none) {v : V} {d : PyData} {u : Value} (h : Dq1 H v d) (r : RelV v u) : ∃ as, Reads s.heap u d as ∧ sysModules ∉ as := by
  cases h with
  | tp h _ => exact ⟨[], h.reads I r, by simp⟩
  | @lst a xs ds e q _ =>
    cases r
    obtain ⟨its, rv, ⟨o, n, ho, hc, _, hd⟩, _⟩ := I.list (.of e)
    refine ⟨[a], .list ho hc hd (by simpa using q.reads I rv), fun m => ?_⟩
    rw [← List.mem_singleton.mp m, hs] at e
    cases e
  | @dic a o kvs ds e l =>
    cases r
    obtain ⟨ho, hz, hne, vs, kv, o2, es, ep, e2, ex, hd, ks, ps, nd⟩ := I.hok a _ e
    obtain ⟨r1, r2⟩ := pairs_reads (h := s.heap) ps kv l
    refine ⟨_, .dict e2 ex.1 hd r1 r2, ?_⟩
    intro hm
    simp only [List.append_nil, List.mem_singleton] at hm
    rw [← hm, hs] at e
    cases e
theorem Dq1.readsAll (I : Inv X pins σ H s) (hs : H sysModules = none) : ∀ {ds : List PyData} {vs : List V} {us : List Value}, Paired (Dq1 H) vs ds → Vals vs us → ∃ as, ReadsAll s.heap us ds as ∧ sysModules ∉ as
  | _, _, _, .nil, .nil => ⟨[], .nil, by simp⟩
  | _, _, _, .cons h t, .cons r q => by
    obtain ⟨a, h1, h2⟩ := h.reads I hs r
    obtain ⟨b, h3, h4⟩ := Dq1.readsAll I hs t q
    exact ⟨a ++ b, .cons h1 h3, fun m => (List.mem_append.mp m).elim h2 h4⟩
theorem Dq.reads (I : Inv X pins σ H s) (hs : H sysModules = none) {v : V} {d : PyData} {u : Value} (h : Dq H v d) (r : RelV v u) : ∃ as, Reads s.heap u d as ∧ sysModules ∉ as := by
  cases h with
  | one h => exact h.reads I hs r
  | @lst a xs ds e q =>
    cases r
    obtain ⟨its, rv, ⟨o, n, ho, hc, _, hd⟩, _⟩ := I.list (.of e)
    obtain ⟨as, h1, h2⟩ := Dq1.readsAll I hs q rv
    refine ⟨a :: as, .list ho hc hd h1, fun m => ?_⟩
    rcases List.mem_cons.mp m with e' | m
    · rw [← e', hs] at e
      cases e
    · exact h2 m
end
end C9
/-! ## A2 -/
set_option maxHeartbeats 4000000
namespace C9
open PySem PySem.Spec PyProof.Rows L2
open PySem.W (EqTree alike alikeAll)
mutual
theorem tp_alike {H : Hp} : ∀ {d : PyData} {v : V}, Tp H v d → alike d d = true ∧ PyData.eqv d d = true
  | .none, _, h => by simp [alike, PyData.eqv]
  | .bool b, _, h => by simp [alike, PyData.eqv]
  | .int i, _, h => by simp [alike, PyData.eqv]
  | .str x, _, h => by simp [alike, PyData.eqv]
  | .tuple ds, _, h => by
    cases h with
    | tup e r =>
      obtain ⟨a, b⟩ := tp_alikeAll r
      simp [alike, PyData.eqv, a, b]
  | .list ds, _, h => by cases h
  | .dict ds, _, h => by cases h
theorem tp_alikeAll {H : Hp} : ∀ {ds : List PyData} {vs : List V}, TpAll H vs ds → alikeAll ds ds = true ∧ PyData.eqvAll ds ds = true
  | [], _, h => by simp [alikeAll, PyData.eqvAll]
  | d :: ds, _, h => by
    cases h with
    | cons a r =>
      obtain ⟨h1, h2⟩ := tp_alike a
      obtain ⟨h3, h4⟩ := tp_alikeAll r
      simp [alikeAll, PyData.eqvAll, h1, h2, h3, h4]
end
theorem lf_tp {H : Hp} {v : V} {d : PyData} (l : LfV v d) : Tp H v d := by
  cases l with
  | non => exact .non
  | int i => exact .int i
  | str x => exact .str x
theorem kD_inj {a b : Key} (h : kD a = kD b) : a = b := by
  cases a <;> cases b <;> simp [kD] at h <;> rw [h]
theorem lf_uniq {v u : V} {d : PyData} (a : LfV v d) (b : LfV u d) : v = u := by
  cases a <;> cases b <;> rfl
theorem lfs_uniq : ∀ {k1 k2 : List (Key × V)} {ds : List (PyData × PyData)}, DicL k1 ds → DicL k2 ds → k1 = k2
  | _, _, _, .nil, .nil => rfl
  | _, _, _, .cons h t, .cons h' t' => by
    rw [lfs_uniq t t']
    exact congrArg (· :: _) (Prod.ext (kD_inj (h.1.symm.trans h'.1)) (lf_uniq h.2 h'.2))
theorem DicL.mem : ∀ {kvs : List (Key × V)} {ds : List (PyData × PyData)} {p : Key × V}, DicL kvs ds → p ∈ kvs → ∃ d, LfV p.2 d
  | _, _, _, .nil, m => nomatch m
  | _, _, _, .cons h t, m => by
    rcases List.mem_cons.mp m with e | m
    · rw [e]; exact ⟨_, h.2⟩
    · exact DicL.mem t m
theorem lf_depth {v : V} {d : PyData} (l : LfV v d) : d.depth = 0 := by
  cases l <;> rfl
section
variable {X : Cx} {pins : List (Addr × Obj)} {σ : L2.St} {H : Hp} {s : Shared}
theorem tp_tree {n : Nat} {d : PyData} {v v' : V} {u u' : Value} (I : Inv X pins σ H s) (h : Tp H v d) (h' : Tp H v' d) (r : RelV v u) (r' : RelV v' u') (hn : d.depth ≤ n) : EqTree X.prog X.w s n u u' true := by
  refine .leaf fun A hA => ?_
  have := PySem.W.eqAt_alike d d A s u u' [] [] (h.reads I r) (h'.reads I r') (tp_alike h).1 (by omega)
  rwa [(tp_alike h).2] at this
theorem kv_both {kvs : List (Key × V)} {as bs : List (Key × Value)} {k : Key} {u y : Value} (ka : KV kvs as) (kb : KV kvs bs) (nd : (as.map (·.1)).Nodup) (hu : (k, u) ∈ as) (hy : PySem.valueAt bs k = some y) : ∃ p ∈ kvs, RelV p.2 u ∧ RelV p.2 y := by
  have q1 := ka.val k
  have q2 := kb.val k
  rw [PySem.valueAt_of_mem nd hu] at q1
  rw [hy] at q2
  unfold valV at q1 q2
  cases e : kvs.find? (fun p => decide (p.1 = k)) with
  | none =>
    rw [e] at q1
    exact q1.elim
  | some p =>
    rw [e] at q1 q2
    exact ⟨p, List.mem_of_find?_eq_some e, q1, q2⟩
theorem kv_all {kvs : List (Key × V)} {as bs : List (Key × Value)} (ka : KV kvs as) (kb : KV kvs bs) : (as.length == bs.length && as.all fun p => (PySem.valueAt bs p.1).isSome && true) = true := by
  rw [← ka.length, ← kb.length, beq_self_eq_true, Bool.true_and, List.all_eq_true]
  intro p hp
  rw [Bool.and_true]
  have hk : p.1 ∈ bs.map (·.1) := by
    rw [← kb.keys, ka.keys]
    exact List.mem_map.mpr ⟨p, hp, rfl⟩
  obtain ⟨q, hq, e⟩ := List.mem_map.mp hk
  unfold PySem.valueAt
  rw [Option.isSome_map, List.find?_isSome]
  exact ⟨q, hq, by simpa using e⟩
/-- two dicts of the same leaves -/
theorem dic_of (I : Inv X pins σ H s) (hs : H sysModules = none) {a : Addr} {o : Obj} {kvs : List (Key × V)} (e : H a = some (.frz o (.dK kvs))) : ∃ vs, KV kvs vs ∧ s.heap.DictOf (mixKind X.prog X.w) a vs ∧ (a == sysModules) = false := by
  obtain ⟨ho, hz, hne, vs, kv, D⟩ := I.hok a _ e
  exact ⟨vs, kv, D, hne⟩
theorem dict_nodup {P : Program} {w : World} {h : Heap} {a : Addr} {vs : List (Key × Value)} (D : h.DictOf (mixKind P w) a vs) : (vs.map (·.1)).Nodup := by
  obtain ⟨_, _, _, _, _, _, _, _, nd⟩ := D
  exact nd
theorem leaf_tree {n : Nat} {kvs : List (Key × V)} {ds : List (PyData × PyData)} (I : Inv X pins σ H s) (l : DicL kvs ds) {p : Key × V} (hp : p ∈ kvs) {u y : Value} (r1 : RelV p.2 u) (r2 : RelV p.2 y) : EqTree X.prog X.w s n u y true := by
  obtain ⟨d, hd⟩ := l.mem hp
  exact tp_tree I (lf_tp hd) (lf_tp hd) r1 r2 (by rw [lf_depth hd]; omega)
theorem all_range (n : Nat) : ((List.range n).all fun _ => true) = true := by simp
theorem dq1_tree (hs : H sysModules = none) {d : PyData} {v v' : V} {u u' : Value} (I : Inv X pins σ H s) (h : Dq1 H v d) (h' : Dq1 H v' d) (r : RelV v u) (r' : RelV v' u') : EqTree X.prog X.w s 41 u u' true := by
  cases h with
  | tp h q =>
    cases h' with
    | tp h' _ => exact tp_tree I h h' r r' (by omega)
    | dic e l => cases h
    | lst e l _ => cases h
  | @dic a o kvs ds e l =>
    cases h' with
    | tp h' _ => cases h'
    | @dic a' o' kvs' _ e' l' =>
      cases r
      cases r'
      obtain rfl := lfs_uniq l l'
      by_cases q : a = a'
      · rw [q]; exact .same
      · obtain ⟨va, ka, da, na⟩ := dic_of I hs e
        obtain ⟨vb, kb, db, nb⟩ := dic_of I hs e'
        have t := EqTree.dicts (prog := X.prog) (w := X.w) (n := 40) (e := fun _ => true) q na nb da db fun k v y hv hy => by
          obtain ⟨p, hp, r1, r2⟩ := kv_both ka kb (dict_nodup da) hv hy
          exact leaf_tree I l hp r1 r2
        rw [kv_all ka kb] at t
        exact t
  | @lst a xs ds e l q =>
    cases h' with
    | tp h' _ => cases h'
    | @lst a' xs' _ e' l' q' =>
      cases r
      cases r'
      by_cases ne : a = a'
      · rw [ne]; exact .same
      · obtain ⟨its, rv, pl, _⟩ := I.list (.of e)
        obtain ⟨its', rv', pl', _⟩ := I.list (.of e')
        have z1 : its.length = ds.length := by rw [← rv.length, l.length]
        have z2 : its'.length = ds.length := by rw [← rv'.length, l'.length]
        have t := EqTree.lists (prog := X.prog) (w := X.w) (n := 40) (e := fun _ => true) ne pl.isList pl'.isList (by simp [z1, z2]) fun j h1 h2 => by
          have j1 : j < ds.length := by simpa [z1] using h1
          obtain ⟨x, hx, tx⟩ := l.at_ (List.getElem?_eq_getElem j1)
          obtain ⟨y, hy, ty⟩ := l'.at_ (List.getElem?_eq_getElem j1)
          obtain ⟨u1, e1, r1⟩ := rv.get hx
          obtain ⟨u2, e2, r2⟩ := rv'.get hy
          have f1 : its.toArray[j] = u1 := by
            have : its.toArray[j]? = some u1 := by simpa using e1
            rw [Array.getElem?_eq_getElem h1] at this
            exact Option.some.inj this
          have f2 : its'.toArray[j] = u2 := by
            have : its'.toArray[j]? = some u2 := by simpa using e2
            rw [Array.getElem?_eq_getElem h2] at this
            exact Option.some.inj this
          rw [f1, f2]
          exact tp_tree I tx ty r1 r2 (q _ (List.getElem_mem j1))
        rw [all_range] at t
        exact t
theorem pr_at {α β : Type} {R : α → β → Prop} : ∀ {xs : List α} {ys : List β} {i : Nat} {y : β}, Paired R xs ys → ys[i]? = some y → ∃ x, xs[i]? = some x ∧ R x y
  | _, _, i, _, .nil, h => by simp at h
  | _, _, 0, _, .cons r _, h => ⟨_, rfl, Option.some.inj h ▸ r⟩
  | _, _, i + 1, _, .cons _ t, h => pr_at (i := i) t h
theorem vals_item {xs : List V} {its : List Value} {j : Nat} {x : V} (rv : Vals xs its) (hx : xs[j]? = some x) (h1 : j < its.toArray.size) : RelV x its.toArray[j] := by
  obtain ⟨u1, e1, r1⟩ := rv.get hx
  have : its.toArray[j]? = some u1 := by simpa using e1
  rw [Array.getElem?_eq_getElem h1] at this
  rw [Option.some.inj this]
  exact r1
/-- what == is asked of: two things at addresses that read alike -/
theorem eq_q {k : Nat} (hr : Room k X.A) (hs : H sysModules = none) {d : PyData} {a a' : Addr} {E : Value → Shared → Prop} {Q : Value → Shared → Prop} (I : Inv X pins σ H s) (h : Dq H (.ref a) d) (h' : Dq H (.ref a') d)
    (q : Q (.bool true) s) : wpAny (model X.prog X.w) X.A (compareOp .Eq (.ref a) (.ref a')) Q E s := by
  have hu := hr.units
  -- two lists whose items go by trees
  have lists : ∀ {xs xs' : List V} {n : Nat}, n ≤ 41 → H a = some (.lst xs) → H a' = some (.lst xs') → xs.length = xs'.length → (∀ j x y (u u' : Value), xs[j]? = some x → xs'[j]? = some y → RelV x u → RelV y u' → EqTree X.prog X.w s n u u' true) →
      wpAny (model X.prog X.w) X.A (compareOp .Eq (.ref a) (.ref a')) Q E s := fun {xs xs' n} hn e e' hl t => by
    obtain ⟨its, rv, pl, _⟩ := I.list (.of e)
    obtain ⟨its', rv', pl', _⟩ := I.list (.of e')
    have z1 : its.length = xs.length := rv.length.symm
    have z2 : its'.length = xs.length := by rw [hl]; exact rv'.length.symm
    refine PySem.W.eq_listsT (n := n) (e := fun _ => true) pl.isList pl'.isList (by simp [z1, z2]) (fun j h1 h2 => ?_) (by omega) (by rw [all_range]; exact q)
    have j1 : j < xs.length := by simpa [z1] using h1
    have j2 : j < xs'.length := by omega
    exact t j xs[j] xs'[j] _ _ (List.getElem?_eq_getElem j1) (List.getElem?_eq_getElem j2) (vals_item rv (List.getElem?_eq_getElem j1) h1) (vals_item rv' (List.getElem?_eq_getElem j2) h2)
  have two : ∀ {xs xs' : List V} {ds : List PyData}, Paired (Dq1 H) xs ds → Paired (Dq1 H) xs' ds → ∀ j x y (u u' : Value), xs[j]? = some x → xs'[j]? = some y → RelV x u → RelV y u' → EqTree X.prog X.w s 41 u u' true := fun {xs xs' ds} p p' j x y u u' hx hy r1 r2 => by
    have hj : j < ds.length := by rw [← p.length]; exact (List.getElem?_eq_some_iff.mp hx).1
    obtain ⟨x', hx', q1⟩ := pr_at p (List.getElem?_eq_getElem hj)
    obtain ⟨y', hy', q2⟩ := pr_at p' (List.getElem?_eq_getElem hj)
    rw [hx] at hx'; rw [hy] at hy'
    cases hx'; cases hy'
    exact dq1_tree hs I q1 q2 r1 r2
  have dq1s : ∀ {xs : List V} {ds : List PyData}, TpAll H xs ds → (∀ d ∈ ds, d.depth ≤ 40) → Paired (Dq1 H) xs ds := fun {xs ds} p hd => by
    induction p with
    | nil => exact .nil
    | cons r t ih => exact .cons (.tp r (hd _ List.mem_cons_self)) (ih fun d m => hd d (List.mem_cons_of_mem _ m))
  cases h with
  | one h =>
    cases h with
    | tp h qd =>
      cases h' with
      | one h' =>
        cases h' with
        | dic e l => cases h
        | lst e l _ => cases h
        | tp h' _ =>
          cases h with
          | @tup _ xs ds e l =>
            cases h' with
            | @tup _ xs' _ e' l' =>
              obtain ⟨its, rv, pl, _⟩ := I.tuple (.of e)
              obtain ⟨its', rv', pl', _⟩ := I.tuple (.of e')
              have z1 : its.length = ds.length := by rw [← rv.length, l.length]
              have z2 : its'.length = ds.length := by rw [← rv'.length, l'.length]
              have dd : ∀ d ∈ ds, d.depth ≤ 40 := by
                have : ∀ (ds : List PyData) d, d ∈ ds → d.depth ≤ PyData.depthAll ds := by
                  intro ds
                  induction ds with
                  | nil => exact fun d h => nomatch h
                  | cons x ds ih =>
                    intro d h
                    rw [PyData.depthAll]
                    rcases List.mem_cons.mp h with e | h
                    · rw [e]; omega
                    · have := ih d h; omega
                intro d hd
                have := this ds d hd
                rw [PyData.depth] at qd
                omega
              refine PySem.W.eq_tuplesT (n := 41) (e := fun _ => true) pl pl' (fun j h1 h2 => ?_) (by omega) (by rw [all_range]; simpa [z1, z2] using q)
              have j1 : j < xs.length := by rw [rv.length]; simpa using h1
              have j2 : j < xs'.length := by rw [rv'.length]; simpa using h2
              exact two (dq1s l dd) (dq1s l' dd) j _ _ _ _ (List.getElem?_eq_getElem j1) (List.getElem?_eq_getElem j2) (vals_item rv (List.getElem?_eq_getElem j1) h1) (vals_item rv' (List.getElem?_eq_getElem j2) h2)
      | lst e l => cases h
    | @dic _ o kvs ds e l =>
      cases h' with
      | one h' =>
        cases h' with
        | tp h' _ => cases h'
        | @dic _ o' kvs' _ e' l' =>
          obtain rfl := lfs_uniq l l'
          obtain ⟨va, ka, da, na⟩ := dic_of I hs e
          obtain ⟨vb, kb, db, nb⟩ := dic_of I hs e'
          refine PySem.W.eq_dictsT (n := 40) (e := fun _ => true) na nb da db (fun k v y hv hy => ?_) (by omega) ?_
          · obtain ⟨p, hp, r1, r2⟩ := kv_both ka kb (dict_nodup da) hv hy
            exact leaf_tree I l hp r1 r2
          · rw [kv_all ka kb]
            exact q
    | @lst _ xs ds e l qd =>
      cases h' with
      | one h' =>
        cases h' with
        | tp h' _ => cases h'
        | @lst _ xs' _ e' l' q' => exact lists (Nat.le_refl _) e e' (by rw [l.length, l'.length]) (two (dq1s l qd) (dq1s l' qd))
      | @lst _ xs' _ e' l' => exact lists (Nat.le_refl _) e e' (by rw [l.length, l'.length]) (two (dq1s l qd) l')
  | @lst _ xs ds e l =>
    cases h' with
    | one h' =>
      cases h' with
      | tp h' _ => cases h'
      | @lst _ xs' _ e' l' q' => exact lists (Nat.le_refl _) e e' (by rw [l.length, l'.length]) (two l (dq1s l' q'))
    | @lst _ xs' _ e' l' => exact lists (Nat.le_refl _) e e' (by rw [l.length, l'.length]) (two l l')
end
end C9
/-! ## A3 -/
set_option maxHeartbeats 4000000
namespace C9
open PySem PySem.Spec PyProof.Rows L2 C8
/-! ### small data: what repr may be asked of -/
structure Sm (d : PyData) (n : Nat) : Prop where
  sh : d.showable = true
  lv : d.leavesShort 13 = true
  bu : d.bulk ≤ n
theorem Sm.mono {d : PyData} {n m : Nat} (h : Sm d n) (l : n ≤ m) : Sm d m := ⟨h.sh, h.lv, Nat.le_trans h.bu l⟩
theorem Sm.fits {d : PyData} {n : Nat} (h : Sm d n) (l : n ≤ 2 ^ 20) : d.shown.length ≤ sizeLine := PyData.shown_fits_bulk (by decide) (by decide) h.lv (Nat.le_trans h.bu l)
theorem Sm.none : Sm .none 0 := ⟨rfl, rfl, Nat.le_refl _⟩
theorem Sm.int {i : Int} (h : i.natAbs < 1000000000) : Sm (.int i) 0 := by
  refine ⟨?_, ?_, Nat.le_refl _⟩
  · rw [PyData.showable, decide_eq_true_eq]
    have : i.natAbs.log2 < 1920 := by
      by_cases z : i.natAbs = 0
      · rw [z]; decide
      · refine (Nat.log2_lt z).mpr (Nat.lt_of_lt_of_le h ?_)
        exact Nat.le_trans (by decide : (1000000000 : Nat) ≤ 2 ^ 30) (Nat.pow_le_pow_right (by decide) (by decide))
    exact this
  · rw [PyData.leavesShort, decide_eq_true_eq]
    exact PyData.shown_int_le (Nat.lt_trans h (by decide))
theorem Sm.str {x : Str} {n : Nat} (h : ∀ c ∈ x.cps.toList, c < 1000) (l : x.length ≤ n) : Sm (.str x) n := by
  refine ⟨rfl, ?_, l⟩
  rw [PyData.leavesShort, List.all_eq_true]
  intro c hc
  have := h c hc
  rw [decide_eq_true_eq]
  exact Nat.lt_trans this (by decide)
theorem sm_all {n : Nat} : ∀ {ds : List PyData}, (∀ d ∈ ds, Sm d n) → PyData.showableAll ds = true ∧ PyData.leavesShortAll 13 ds = true ∧ PyData.bulkAll ds ≤ ds.length * (n + 1)
  | [], _ => ⟨rfl, rfl, Nat.zero_le _⟩
  | d :: ds, h => by
    obtain ⟨a, b, c⟩ := sm_all (n := n) (ds := ds) fun e m => h e (List.mem_cons_of_mem _ m)
    have hd := h d List.mem_cons_self
    refine ⟨by rw [PyData.showableAll, hd.sh, a]; rfl, by rw [PyData.leavesShortAll, hd.lv, b]; rfl, ?_⟩
    rw [PyData.bulkAll, List.length_cons, Nat.succ_mul]
    have := hd.bu
    omega
theorem Sm.tuple {ds : List PyData} {n m : Nat} (h : ∀ d ∈ ds, Sm d n) (l : ds.length * (n + 1) ≤ m) : Sm (.tuple ds) m := by
  obtain ⟨a, b, c⟩ := sm_all h
  exact ⟨by rw [PyData.showable]; exact a, by rw [PyData.leavesShort]; exact b, by rw [PyData.bulk]; exact Nat.le_trans c l⟩
theorem Sm.list {ds : List PyData} {n m : Nat} (h : ∀ d ∈ ds, Sm d n) (l : ds.length * (n + 1) ≤ m) : Sm (.list ds) m := by
  obtain ⟨a, b, c⟩ := sm_all h
  exact ⟨by rw [PyData.showable]; exact a, by rw [PyData.leavesShort]; exact b, by rw [PyData.bulk]; exact Nat.le_trans c l⟩
theorem sm_kv {n : Nat} : ∀ {ds : List (PyData × PyData)}, (∀ p ∈ ds, Sm p.1 n ∧ Sm p.2 n) → PyData.showableKv ds = true ∧ PyData.leavesShortKv 13 ds = true ∧ PyData.bulkKv ds ≤ ds.length * (2 * n + 2)
  | [], _ => ⟨rfl, rfl, Nat.zero_le _⟩
  | (k, v) :: ds, h => by
    obtain ⟨a, b, c⟩ := sm_kv (n := n) (ds := ds) fun e m => h e (List.mem_cons_of_mem _ m)
    obtain ⟨hk, hv⟩ := h (k, v) List.mem_cons_self
    refine ⟨by rw [PyData.showableKv, hk.sh, hv.sh, a]; rfl, by rw [PyData.leavesShortKv, hk.lv, hv.lv, b]; rfl, ?_⟩
    rw [PyData.bulkKv, List.length_cons, Nat.succ_mul]
    have := hk.bu
    have := hv.bu
    dsimp only at *
    omega
theorem Sm.dict {ds : List (PyData × PyData)} {n m : Nat} (h : ∀ p ∈ ds, Sm p.1 n ∧ Sm p.2 n) (l : ds.length * (2 * n + 2) ≤ m) : Sm (.dict ds) m := by
  obtain ⟨a, b, c⟩ := sm_kv h
  exact ⟨by rw [PyData.showable]; exact a, by rw [PyData.leavesShort]; exact b, by rw [PyData.bulk]; exact Nat.le_trans c l⟩
/-! ### depths -/
theorem depthAll_le {n : Nat} : ∀ {ds : List PyData}, (∀ d ∈ ds, d.depth ≤ n) → PyData.depthAll ds ≤ n
  | [], _ => by rw [PyData.depthAll]; exact Nat.zero_le _
  | d :: ds, h => by
    rw [PyData.depthAll]
    have := h d List.mem_cons_self
    have := depthAll_le (n := n) (ds := ds) fun e m => h e (List.mem_cons_of_mem _ m)
    omega
theorem dic_depth : ∀ {kvs : List (Key × V)} {ds : List (PyData × PyData)}, DicL kvs ds → PyData.depthKv ds ≤ 0
  | _, _, .nil => by rw [PyData.depthKv]; exact Nat.le_refl _
  | _, _, .cons (b := b) h t => by
    obtain ⟨k, v⟩ := b
    have h1 : k.depth = 0 := by
      have := h.1
      dsimp only at this
      rw [this]
      unfold kD
      split <;> rw [PyData.depth]
    have h2 : v.depth = 0 := lf_depth h.2
    have := dic_depth t
    rw [PyData.depthKv]
    omega
theorem Dq1.depth {H : Hp} {v : V} {d : PyData} (h : Dq1 H v d) : d.depth ≤ 41 := by
  cases h with
  | tp _ q => omega
  | dic e l =>
    have := dic_depth l
    rw [PyData.depth]
    omega
  | lst e l q =>
    have := depthAll_le q
    rw [PyData.depth]
    omega
theorem Dq.depth {H : Hp} {v : V} {d : PyData} (h : Dq H v d) : d.depth ≤ 42 := by
  cases h with
  | one h =>
    have := h.depth
    omega
  | @lst a xs ds e h =>
    have : PyData.depthAll ds ≤ 41 := depthAll_le fun d hd => by
      obtain ⟨i, hi⟩ := List.mem_iff_getElem?.mp hd
      obtain ⟨x, _, q⟩ := pr_at h hi
      exact q.depth
    rw [PyData.depth]
    omega
/-! ### == and repr -/
def rEqQ : R2 := fun x y H Q => ∃ a b d, x = .ref a ∧ y = .ref b ∧ Dq H x d ∧ Dq H y d ∧ Q (.bl true) H
def rReprQ : List V → Hp → VK → Prop := fun xs H Q => ∃ a d, xs = [.ref a] ∧ Dq H (.ref a) d ∧ Sm d 1000000 ∧ Q (.str d.shown) H
section
variable {X : Cx} {k : Nat}
theorem op_eqQ (hr : Room k X.A) (hs : ∃ o, X.K.lookup sysModules = some o) : OpR X (compareOp .Eq) rEqQ := by
  rintro pins s σ H x y v u Q I rx ry ⟨a, b, d, rfl, rfl, h1, h2, q⟩
  cases rx
  cases ry
  exact eq_q hr (sys_none I hs) I h1 h2 ⟨.bl true, H, I, rfl, q⟩
theorem cr_reprQ (hr : Room k X.A) (hG : NoG X.A) (hs : ∃ o, X.K.lookup sysModules = some o) : CallR X (.builtin "repr") rReprQ := by
  rintro pins s σ H xs us Q I r ⟨a, d, rfl, h, sm, q⟩
  rw [Vals.ref1 r]
  have hu := hr.units
  have hd := h.depth
  obtain ⟨as, rd, hno⟩ := h.reads I (sys_none I hs) rfl
  refine repr_of_reads' rd sm.sh (fun _ => hno) hG (by omega) (fun _ _ e => e) (fun h' u tk kp => ⟨.str d.shown, H, I.kept (t' := tk) kp, ⟨_, rfl⟩, q⟩) (sm.fits (by decide))
end
section
variable {K : PySem.W.Frag} {mg : Str → Option Value} {P : Program} {w : World} {base : Heap}
theorem Txt.calG (T : Txt K mg) {x q : Str} {args : Arguments} {body : List Stmt} {sc : Scope} (i j : Nat) (hd : fn[i]? = some ⟨(x, none), x, q, args, body, sc, [], []⟩) (hg : fa[j]? = some (.glo x)) {N ps : List Str} {sp : Sp} {k : Nat} (S : FnScope N ps sc)
    (hb : ∀ (kV doc pm : Value) (an : Option Addr) (cdv ct : Value) (us : List Value), us.length = ps.length → bindArgs (PySem.W.fnOf x q args body sc .none kV doc pm an cdv ct) ⟨us, []⟩ = pure (ps.zip us))
    (len : ∀ vs H Q E, sp vs H Q E → vs.length = ps.length)
    (hbody : ∀ (f : Addr) (cdv : Value) (A : Around) (outer : List Env) (s : Shared) (H : Hp) (vs : List V) (Q : VK) (E : XK), NoG (A.deeper (envOfC q sc s.heap.objs.size f cdv)) → Room k (A.deeper (envOfC q sc s.heap.objs.size f cdv)) → sp vs H Q E →
      ∃ t, PSs (cxOf C8.CX0 P w K mg base N q sc f cdv A outer s H E).nox body t ∧ t { nx := fun _ H' => Q .non H', rt := Q } (start N vs) H) : CalG P w K mg base (k + 1) x sp := by
  obtain ⟨fd, F⟩ := T.says.1.def_ i hd
  refine ⟨_, fd, ps, fnG_of F S len (fun cdv A outer s H vs Q E hG hr h => ?_), T.glo j hg, F.kp, F.bindsN hb⟩
  obtain ⟨t, hp, ht⟩ := hbody _ cdv A outer s H vs Q E hG hr h
  exact ⟨t, hp.nox, ht⟩
end
end C9
/-! ## N1 -/
set_option maxHeartbeats 4000000
namespace C9
open PySem PySem.Spec PyProof.Rows L2
/-! ### d.get(y, x), y a key or None -/
section
variable {X : Cx} {pins : List (Addr × Obj)} {σ : L2.St} {H : Hp} {s : Shared} {a : Addr} {kvs : List (Key × V)} {A : Around} {E : Value → Shared → Prop}
theorem d_getNone {r : Value} {Q : Value → Shared → Prop} (I : Inv X pins σ H s) (e : Rd H a (.dK kvs)) (h : ∀ s', Inv X pins σ H s' → Q r s') : wpAny (model X.prog X.w) A (call (.builtin "dict.get") [.ref a, .none, r]) Q E s := by
  obtain ⟨_, hd, vs, _, dd⟩ := dk_rd I.hok e
  obtain ⟨f, hm, hf⟩ := none_map dd
  refine call_meetsIn PySem.F.slot_dict_get dd.typeIs PySem.F.entry_dict_get (PySem.F.args_dict_get_3 _ _ _) (meets_dict_get_default (noneKind X.prog X.w) a (k := none) (show (noneKind X.prog X.w).is none .none = true from rfl) hd r) ⟨f, hm, ?_⟩
  rw [hf]
  exact h _ (I.tok _)
def tDGetN (td ty tx : TE) : TE := fun σ H Q => td σ H fun x H1 => ∃ a, x = .ref a ∧ IsD H1 a ∧ ty σ H1 fun y H2 => tx σ H2 fun z H3 => (∃ o, DGet H3 a y o ∧ Q (o.getD z) H3) ∨ (y = .non ∧ ∃ kvs, Rd H3 a (.dK kvs) ∧ Q z H3)
theorem pe_dgetN {o e f : Expr} {apos cpos : Pos} {td ty tx : TE} (hu : X.A.units + 1 < cLine) (ho : PE X o td) (he : PE X e ty) (hf : PE X f tx) (m : M2 X o "get" apos e f cpos) : PE X (.Call (.Attribute o "get" apos) [e, f] [] cpos) (tDGetN td ty tx) := by
  refine ⟨fun pins s σ H Q I h => wpAny_Call_method m.base m.few m.line PySem.F.plainAttrs_dict PySem.F.slot_dict_get PySem.F.type_dict_get (thn (ho.run pins s σ H _ I h) fun u s1 ⟨x, H1, I1, rx, a, ex, d, q1⟩ => ?_)⟩
  subst ex
  obtain rfl : u = Value.ref a := rx
  obtain ⟨t1, t2, _⟩ := isD_at I1 d
  refine ⟨t1, t2, ?_⟩
  rw [m.trees]
  refine Calls.callWith_builtin rfl (Calls.evalArgs_plain (Calls.spliced_cons (thn (he.run pins s1 σ H1 _ I1 q1) fun iv s2 ⟨y, H2, I2, ry, q2⟩ => Calls.spliced_cons (thn (hf.run pins s2 σ H2 _ I2 q2) fun fv s3 ⟨z, H3, I3, rz, q3⟩ => Calls.spliced_nil ?_))))
  rcases q3 with ⟨ov, g, q3⟩ | ⟨rfl, kvs, e, q3⟩
  · exact d_get2 hu I3 g ry rz fun w' s4 I4 rw' => ⟨_, H3, I4, rw', q3⟩
  · cases ry
    exact d_getNone I3 e fun s4 I4 => ⟨z, H3, I4, rz, q3⟩
end
end C9
/-! ## Q3 -/
set_option maxHeartbeats 4000000
namespace C9
open PySem PySem.Spec PyProof.Rows L2
/-! ### sets of tuples of texts: the table's own search (the table's laws are HandS.TupSets') -/
abbrev IsS (P : Program) (w : World) (h : Heap) (k : List Str) (a : Addr) : Prop := IsTupleKey (PySem.strKind P w) h k a
abbrev hashS (P : Program) (w : World) (k : List Str) : Int := tupleKeyHash (PySem.strKind P w) k
abbrev PK := Addr × List Str
section
variable {P : Program} {w : World} {A : Around} {E : Value → Shared → Prop} {s : Shared}
theorem items_str {k : List Str} {vs : List Value} (h : ItemsAre (PySem.strKind P w) k vs) : ∀ v ∈ vs, ∃ x t, v = Value.str x t := by
  induction h with
  | nil => exact fun v hv => nomatch hv
  | @cons k0 v' ks vs h1 _ ih =>
    intro v hv
    rcases List.mem_cons.mp hv with e | hv
    · obtain ⟨t, e2⟩ := Value.isStrOf_shape h1
      exact ⟨k0, t, e.trans e2⟩
    · exact ih v hv
theorem isS_keep {h h' : Heap} {k : List Str} {b : Addr} (x : IsS P w h k b) (hk : ∀ o, h.get? b = some o → h'.get? b = some o) : IsS P w h' k b := by
  obtain ⟨o, items, n, ho, r⟩ := x
  exact ⟨o, items, n, hk o ho, r⟩
theorem isS_but {h h' : Heap} {k : List Str} {a b : Addr} {o : Obj} {es : Array (Int × Value)} {ep : Nat} {t : SetTable} (x : IsS P w h k b) (ho : h.get? a = some o) (hd : o.data = .set es ep t) (sb : Heap.SameBut a h h') : IsS P w h' k b := by
  obtain ⟨o', items, n, ho', hc, hd', hi⟩ := x
  have ne : b ≠ a := by
    rintro rfl
    rw [ho] at ho'
    cases ho'
    rw [hd] at hd'
    cases hd'
  exact ⟨o', items, n, (sb.2 b ne).trans ho', hc, hd', hi⟩
/-- a walk over a tuple's texts that stops nowhere -/
theorem noClass_S {k : List Str} {b : Addr} {Q : Bool → Shared → Prop} (hk : IsS P w s.heap k b) (h : Q false s) : wpAny (model P w) A (ofAClassStatement 8 (.ref b)) Q E s := by
  have hT := hk.typeIs
  obtain ⟨o, items, n, ho, _, hd, hi⟩ := hk
  have hI := items_str hi
  unfold ofAClassStatement
  refine wpAny_bind (wpAny_typeOf hT ?_)
  dsimp only
  simp only [show (("tuple" : String) == "tuple") = true from by decide, if_true, Bool.not_true, Bool.false_eq_true, if_false]
  try refine wpAny_bind (wpAny_pure ?_)
  try simp only [Bool.not_true, Bool.false_eq_true, if_false]
  refine wpAny_bind (m := seqItems? (.ref b)) (wpAny_seqItems ho hd ?_)
  dsimp only
  refine wpAny_bind ?_
  show wpAny _ _ (forIn items _ _) _ _ s
  rw [← Array.forIn_toList]
  refine wpAny_forIn_list _ (fun rest r s' => r.1 = none ∧ s' = s ∧ ∀ v ∈ rest, ∃ x t, v = Value.str x t) _ ?_ ?_ _ _ ⟨rfl, rfl, hI⟩
  · rintro v rest r s' ⟨hr, rfl, all⟩
    obtain ⟨x, t, rfl⟩ := all v List.mem_cons_self
    refine wpAny_bind (wpAny_of_eq (a := false) rfl ?_)
    simp only [Bool.false_eq_true, if_false]
    exact wpAny_pure ⟨rfl, rfl, fun u hu => all u (List.mem_cons_of_mem _ hu)⟩
  · rintro ⟨r1, r2⟩ s' ⟨hr, rfl, _⟩
    simp only at hr
    subst hr
    exact wpAny_pure h
theorem byValue_S {k : List Str} {b : Addr} {Q : Bool → Shared → Prop} (hk : IsS P w s.heap k b) (h : ∀ z, Q z s) : wpAny (model P w) A (hashByValue 8 (.ref b)) Q E s := by
  have hT := hk.typeIs
  obtain ⟨o, items, n, ho, _, hd, hi⟩ := hk
  have hI := items_str hi
  unfold hashByValue
  refine wpAny_bind (wpAny_specialOf hT PySem.F.slot_tuple_hash.lookup ?_)
  refine wpAny_bind (m := seqItems? (.ref b)) (wpAny_seqItems ho hd ?_)
  refine wpAny_bind ?_
  show wpAny _ _ (forIn items _ _) _ _ s
  rw [← Array.forIn_toList]
  refine wpAny_forIn_list _ (fun rest r s' => r.1 = none ∧ s' = s ∧ ∀ v ∈ rest, ∃ x t, v = Value.str x t) _ ?_ ?_ _ _ ⟨rfl, rfl, hI⟩
  · rintro v rest r s' ⟨hr, rfl, all⟩
    obtain ⟨x, t, rfl⟩ := all v List.mem_cons_self
    refine wpAny_bind (wpAny_of_eq (a := false) rfl ?_)
    simp only [Bool.not_false, if_true]
    exact wpAny_pure (wpAny_pure (h _))
  · rintro ⟨r1, r2⟩ s' ⟨hr, rfl, _⟩
    simp only at hr
    subst hr
    exact wpAny_pure (h _)
theorem unseen_S {k : List Str} {b : Addr} {Q : Bool → Shared → Prop} (hk : IsS P w s.heap k b) {ys : List Value} (hy : ∀ y ∈ ys, ∃ k' c, y = Value.ref c ∧ IsS P w s.heap k' c) (h : Q false s) :
    wpAny (model P w) A (searchCouldBeSeen (.ref b) ys) Q E s := by
  unfold searchCouldBeSeen
  refine wpAny_bind (wpAny_forIn_list _ (fun rest r s' => r.1 = none ∧ s' = s ∧ ∀ y ∈ rest, ∃ k' c, y = Value.ref c ∧ IsS P w s.heap k' c) _ ?_ ?_ _ _ ⟨rfl, rfl, hy⟩)
  · rintro v rest r s' ⟨hr, rfl, all⟩
    obtain ⟨k', c, rfl, hc⟩ := all v List.mem_cons_self
    have rest' : ∀ y ∈ rest, ∃ k' c, y = Value.ref c ∧ IsS P w s'.heap k' c := fun u hu => all u (List.mem_cons_of_mem _ hu)
    dsimp only
    split
    · exact wpAny_pure ⟨rfl, rfl, rest'⟩
    · refine wpAny_bind (wpAny_eqIsQuiet_tuple hk ?_)
      simp only [Bool.not_true, Bool.false_eq_true, if_false]
      refine wpAny_bind (wpAny_eqIsQuiet_tuple hc ?_)
      simp only [Bool.not_true, Bool.false_eq_true, if_false]
      refine wpAny_bind (noClass_S hk ?_)
      simp only [Bool.false_eq_true, if_false]
      refine wpAny_bind (noClass_S hc ?_)
      simp only [Bool.false_eq_true, if_false]
      exact wpAny_pure ⟨rfl, rfl, rest'⟩
  · rintro ⟨r1, r2⟩ s' ⟨hr, rfl, _⟩
    simp only at hr
    subst hr
    exact wpAny_pure h
def rowsS (P : Program) (w : World) (L : List PK) : List (Int × Value) := L.map fun p => (hashS P w p.2, Value.ref p.1)
structure SetS (P : Program) (w : World) (h : Heap) (a : Addr) (L : List PK) (es : Array (Int × Value)) (ep : Nat) (t : SetTable) : Prop where
  ob : ∃ o, h.get? a = some o ∧ o.ExactSet ∧ o.data = .set es ep t
  rows : es.toList = rowsS P w L
  tab : TabOk t (L.map fun p => hashS P w p.2)
  nd : (L.map (·.2)).Nodup
  tup : ∀ p ∈ L, IsS P w h p.2 p.1
  led : w.params.followText "set-order" = true ∨ t.led = true
  room : L.length * 5 < t.mask * 3
  few : L.length < 64
variable {a : Addr} {L : List PK} {es : Array (Int × Value)} {ep : Nat} {t : SetTable}
theorem rowsS_len {L : List PK} {es : Array (Int × Value)} (h : es.toList = rowsS P w L) : es.size = L.length := by
  have := congrArg List.length h
  unfold rowsS at this
  rwa [Array.length_toList, List.length_map] at this
theorem SetS.fits (R : SetS P w s.heap a L es ep t) : t.fits es.size = true := by
  have h1 := R.tab.sz
  rw [List.length_map] at h1
  have h2 := rowsS_len R.rows
  have h3 := R.room
  unfold SetTable.fits SetTable.fill
  rw [R.tab.dm, Bool.and_eq_true, beq_iff_eq, decide_eq_true_eq]
  show t.place.size = es.size ∧ t.place.size + 0 ≤ t.mask
  omega
theorem rowsS_at {L : List PK} {es : Array (Int × Value)} (h : es.toList = rowsS P w L) {i : Nat} {p : PK} (hp : L[i]? = some p) : es[i]? = some (hashS P w p.2, Value.ref p.1) := by
  rw [← Array.getElem?_toList, h]
  unfold rowsS
  rw [List.getElem?_map, hp]
  rfl
/-- where the search for a hash stands behind c steps -/
abbrev stp (m : Nat) (z : Int) (c : Nat) : SetTable.Probe := nth m (runAt m (SetTable.bits z % (m + 1)) (SetTable.bits z)) c
theorem stp_plain (m : Nat) : ∀ (c : Nat) (p : SetTable.Probe), p.dummy = none → (nth m p c).dummy = none
  | 0, p, h => h
  | c + 1, p, h => stp_plain m c (adv m p) (by unfold adv; split <;> exact h)
theorem seekS (R : SetS P w s.heap a L es ep t) {x : Addr} {k : List Str} (hx : IsS P w s.heap k x) (hu : A.units < cLine) {K : Nat} (hKf : K < 10 * SetTable.turns t.mask)
    (hK : way t.mask (hashS P w k) K ∉ t.place.toList) (hKb : ∀ c, c < K → way t.mask (hashS P w k) c ∈ t.place.toList) {Q : SetFound → Shared → Prop}
    (hin : k ∈ L.map (·.2) → Q (.there none) s) (hout : k ∉ L.map (·.2) → Q (.free (way t.mask (hashS P w k) K) false) s) :
    ∀ (f c : Nat) (stand : Option SetTable.Probe), stand.getD (t.probeStart (hashS P w k)) = stp t.mask (hashS P w k) c → c ≤ K → K - c < f →
      (∀ (i : Nat) p, L[i]? = some p → p.2 = k → ∃ c', c ≤ c' ∧ c' < K ∧ t.place.toList[i]? = some (way t.mask (hashS P w k) c')) →
      wpAny (model P w) A (setSearchFrom a (.ref x) (hashS P w k) true f stand) Q E s
  | 0, c, stand, _, _, hf, _ => absurd hf (Nat.not_lt_zero _)
  | f + 1, c, stand, hst, hc, hf, hre => by
    obtain ⟨o, ho, hex, hd⟩ := R.ob
    have st := @wpAny_setState_of P w
    rw [setSearchFrom_succ]
    refine wpAny_bind (wpAny_setState_of ho hd R.fits ?_)
    dsimp only
    refine wp_if_neg (by unfold SetTable.gaveWay; rw [mask_odd R.tab.mok]; decide) ?_
    try refine wpAny_bind (wpAny_pure ?_)
    have sh : ∀ q, nth t.mask (stp t.mask (hashS P w k) c) q = stp t.mask (hashS P w k) (c + q) := fun q => (nth_add t.mask c _ q).symm
    have e1 : ∀ q, (nth t.mask (stp t.mask (hashS P w k) c) q).j = way t.mask (hashS P w k) (c + q) := fun q => congrArg SetTable.Probe.j (sh q)
    have hAt : ∀ (i : Nat) p, L[i]? = some p → (fun i => (es[i]?.map (·.1)).getD 0) i = hashS P w p.2 := fun i p hp => by
      show (es[i]?.map (·.1)).getD 0 = _
      rw [rowsS_at R.rows hp]
      rfl
    rcases go_spec t R.tab.ris R.tab.dm (fun i => (es[i]?.map (·.1)).getD 0) (hashS P w k) (10 * SetTable.turns t.mask) (K - c) (stp t.mask (hashS P w k) c) (stp_plain _ _ _ rfl) (by omega)
      (fun q hq => by rw [e1]; exact hKb (c + q) (by omega)) (by rw [e1, show c + (K - c) = K by omega]; exact hK) with ⟨q, i, hq, hi, hh, hno, hpr⟩ | ⟨hno, hpr⟩
    · rw [e1] at hi
      have hpr' : t.probe (fun i => (es[i]?.map (·.1)).getD 0) (hashS P w k) (stand.getD (t.probeStart (hashS P w k))) = some (.candidate (way t.mask (hashS P w k) (c + q)) i (stp t.mask (hashS P w k) (c + (q + 1)))) := by
        rw [hst, ← e1, ← sh]
        exact hpr
      rw [hpr']
      dsimp only
      have hil : i < L.length := by
        have h1 : i < t.place.toList.length := (List.getElem?_eq_some_iff.mp hi).1
        have h2 := R.tab.sz
        rw [List.length_map] at h2
        rw [Array.length_toList] at h1
        omega
      obtain ⟨p, hp⟩ : ∃ p, L[i]? = some p := ⟨_, List.getElem?_eq_getElem hil⟩
      have hm : p ∈ L := List.mem_of_getElem? hp
      have en := rowsS_at R.rows hp
      have hsl : t.slot (way t.mask (hashS P w k) (c + q)) = .live i := slot_live R.tab.ris hi
      have rest : wpAny (model P w) A (searchRest a (.ref x) (hashS P w k) true f es t (way t.mask (hashS P w k) (c + q)) i (stp t.mask (hashS P w k) (c + (q + 1)))) Q E s := by
        unfold searchRest
        rw [en]
        dsimp only
        refine wpAny_bind (wpAny_holding (wpAny_eqBool_tuple hu (R.tup p hm) hx ?_))
        refine wpAny_bind (wpAny_setState_of ho hd R.fits ?_)
        dsimp only
        by_cases hkk : p.2 = k
        · refine wp_if_pos (by simp [hkk]) (wpAny_pure (hin (List.mem_map.mpr ⟨p, hm, hkk⟩)))
        · refine wp_if_neg (by simp [hkk]) ?_
          try refine wpAny_bind (wpAny_pure ?_)
          rw [sameMem]
          dsimp only
          simp only [if_true, hsl, en]
          refine wpAny_bind (wpAny_isSame_ref_self (wpAny_bind (wpAny_pure ?_)))
          simp only [if_true]
          refine wp_if_neg (by simp [hkk]) (seekS R hx hu hKf hK hKb hin hout f (c + (q + 1)) _ rfl (by omega) (by omega) fun i0 p0 h0 hk0 => ?_)
          obtain ⟨c', a1, a2, a3⟩ := hre i0 p0 h0 hk0
          refine ⟨c', ?_, a2, a3⟩
          have n1 : ¬ c' < c + q := fun z => hno (c' - c) i0 (by omega) (by rw [e1, show c + (c' - c) = c' by omega]; exact a3) ((hAt i0 p0 h0).trans (congrArg (hashS P w) hk0))
          have n2 : c' ≠ c + q := fun z => by
            rw [z] at a3
            have s0 := slot_live R.tab.ris a3
            rw [hsl] at s0
            injection s0 with s0
            rw [← s0, hp] at h0
            exact hkk ((congrArg Prod.snd (Option.some.inj h0)).trans hk0)
          omega
      by_cases hl : t.led = true
      · refine wp_if_neg (by simp [hl]) ?_
        try refine wpAny_bind (wpAny_pure ?_)
        exact rest
      · refine wp_if_pos (by simp [hl]) (wpAny_bind (unseen_S hx (fun y hy => ?_) ?_))
        · obtain ⟨e, he, ee⟩ := List.mem_map.mp hy
          have he2 : e ∈ es.toList := by
            have : e ∈ es ∧ e.1 = hashS P w k := by simpa using he
            simpa using this.1
          rw [R.rows] at he2
          obtain ⟨p2, hp2, e2⟩ := List.mem_map.mp he2
          exact ⟨p2.2, p2.1, by rw [← ee, ← e2], R.tup p2 hp2⟩
        · refine wp_if_neg (by decide) ?_
          try refine wpAny_bind (wpAny_pure ?_)
          exact rest
    · have hpr' : t.probe (fun i => (es[i]?.map (·.1)).getD 0) (hashS P w k) (stand.getD (t.probeStart (hashS P w k))) = some (.empty (way t.mask (hashS P w k) K) none) := by
        have e2 : way t.mask (hashS P w k) K = (nth t.mask (stp t.mask (hashS P w k) c) (K - c)).j := by rw [e1, show c + (K - c) = K by omega]
        rw [hst, e2]
        exact hpr
      rw [hpr']
      dsimp only
      refine wpAny_pure (hout fun hm => ?_)
      obtain ⟨p0, h0, hk0⟩ := List.mem_map.mp hm
      obtain ⟨i0, h00⟩ := List.mem_iff_getElem?.mp h0
      obtain ⟨c', a1, a2, a3⟩ := hre i0 p0 h00 hk0
      exact hno (c' - c) i0 (by omega) (by rw [e1, show c + (c' - c) = c' by omega]; exact a3) ((hAt i0 p0 h00).trans (congrArg (hashS P w) hk0))
theorem soughtS (R : SetS P w s.heap a L es ep t) {x : Addr} {k : List Str} (hx : IsS P w s.heap k x) (hu : A.units < cLine) {Q : SetFound → Shared → Prop} (hin : k ∈ L.map (·.2) → Q (.there none) s)
    (hout : ∀ K, k ∉ L.map (·.2) → way t.mask (hashS P w k) K ∉ t.place.toList → (∀ c, c < K → way t.mask (hashS P w k) c ∈ t.place.toList) → Q (.free (way t.mask (hashS P w k) K) false) s) :
    wpAny (model P w) A (setSearch a (.ref x) (hashS P w k) true) Q E s := by
  have hroom := R.room
  obtain ⟨K, hKf, hK, hKb⟩ := R.tab.first (by rw [List.length_map]; omega) (hashS P w k)
  have hbig : 10 * SetTable.turns t.mask ≤ 1420 := by
    unfold SetTable.turns
    rcases R.tab.mok with e | e | e <;> omega
  unfold setSearch
  refine seekS R hx hu hKf hK hKb hin (fun hn => hout K hn hK hKb) 100000 0 none rfl (Nat.zero_le _) (by omega) fun i p hp hk => ?_
  have hi : (L.map fun p => hashS P w p.2)[i]? = some (hashS P w k) := by
    rw [List.getElem?_map, hp, ← hk]
    rfl
  have hil : i < t.place.toList.length := by
    have h1 : i < L.length := (List.getElem?_eq_some_iff.mp hp).1
    have h2 := R.tab.sz
    rw [List.length_map] at h2
    rw [Array.length_toList]
    omega
  have hj := List.getElem?_eq_getElem hil
  obtain ⟨c, hc, e⟩ := R.tab.before hK hi hj
  exact ⟨c, Nat.zero_le _, hc, by rw [hj, e]⟩
end
end C9
/-! ## Q4 -/
set_option maxHeartbeats 4000000
namespace C9
open PySem PySem.Spec PyProof.Rows L2
/-! ### sets of tuples of texts: adding -/
section
variable {P : Program} {w : World} {A : Around} {E : Value → Shared → Prop} {s : Shared} {a : Addr} {L : List PK} {es : Array (Int × Value)} {ep : Nat} {t : SetTable}
theorem ranged {α : Type} (L : List α) : (List.range L.length).filterMap (fun i => L[i]?) = L := by
  have : ∀ n, n ≤ L.length → (List.range n).filterMap (fun i => L[i]?) = L.take n := fun n => by
    induction n with
    | zero => intro _; rfl
    | succ n ih =>
      intro h
      have e : L[n]? = some L[n] := List.getElem?_eq_getElem h
      rw [List.range_succ, List.filterMap_append, ih (by omega), List.take_add_one, e, List.filterMap_cons_some e]
      rfl
  rw [this _ (Nat.le_refl _), List.take_length]
/-- the rows in another order -/
theorem rowsS_order {L : List PK} {es : Array (Int × Value)} {order : Array Nat} (hr : es.toList = rowsS P w L) (hp : order.toList.Perm (List.range L.length)) :
    ∃ L2, (order.filterMap (es[·]?)).toList = rowsS P w L2 ∧ L2.Perm L ∧ (L2.map fun p => hashS P w p.2) = order.toList.map fun i => (es.map (·.1)).getD i 0 := by
  have key : ∀ l : List Nat, (∀ i ∈ l, i < L.length) → l.filterMap (fun i => es[i]?) = rowsS P w (l.filterMap fun i => L[i]?) ∧ ((l.filterMap fun i => L[i]?).map fun p => hashS P w p.2) = l.map fun i => (es.map (·.1)).getD i 0 := by
    intro l
    induction l with
    | nil => exact fun _ => ⟨rfl, rfl⟩
    | cons i l ih =>
      intro hl
      have hi : i < L.length := hl i List.mem_cons_self
      have e : L[i]? = some L[i] := List.getElem?_eq_getElem hi
      obtain ⟨e1, e2⟩ := ih fun j hj => hl j (List.mem_cons_of_mem _ hj)
      have en := rowsS_at hr e
      have e3 : (es.map (·.1)).getD i 0 = hashS P w (L[i]).2 := by
        rw [Array.getD_eq_getD_getElem?, Array.getElem?_map, en]
        rfl
      rw [List.filterMap_cons_some en, List.filterMap_cons_some e, e1, List.map_cons, List.map_cons, e2, e3]
      exact ⟨rfl, rfl⟩
  obtain ⟨e1, e2⟩ := key order.toList fun i hi => List.mem_range.mp (hp.mem_iff.mp hi)
  refine ⟨_, by simpa using e1, ?_, e2⟩
  have := hp.filterMap (fun i => L[i]?)
  rwa [ranged] at this
theorem relaidS {o : Obj} (ho : s.heap.get? a = some o) (hex : o.ExactSet) (hd : o.data = .set es ep t) (hrows : es.toList = rowsS P w L) (T : TabOk t (L.map fun p => hashS P w p.2)) (hfl : es.size ≤ t.mask)
    (nd : (L.map (·.2)).Nodup) (tup : ∀ p ∈ L, IsS P w s.heap p.2 p.1) (ld : w.params.followText "set-order" = true ∨ t.led = true) (few : L.length < 64) {wanted M : Nat}
    (hw : SetTable.sizeAbove wanted - 1 = M) (hM : MaskOk M) (hw2 : SetTable.sizeAbove wanted ≤ 128) (hn : L.length * 5 < M * 3) {Q : Unit → Shared → Prop}
    (hQ : ∀ h' L' es' ep' t', Heap.SameBut a s.heap h' → SetS P w h' a L' es' ep' t' → L'.Perm L → Q () { s with heap := h' }) : wpAny (model P w) A (setRelay a wanted) Q E s := by
  have hsl := rowsS_len hrows
  have hfits : t.fits es.size = true := by
    have h1 := T.sz
    rw [List.length_map] at h1
    unfold SetTable.fits SetTable.fill
    rw [T.dm, Bool.and_eq_true, beq_iff_eq, decide_eq_true_eq]
    show t.place.size = es.size ∧ t.place.size + 0 ≤ t.mask
    omega
  obtain ⟨t', order, e, hp, T', em, el, _, ed⟩ := relaid_ok t (hs := es.map (·.1)) (wanted := wanted) hw hM (by rw [Array.size_map, hsl]; omega)
  rw [Array.size_map, hsl] at hp
  obtain ⟨L2, r1, r2, r3⟩ := rowsS_order hrows hp
  rw [← r3] at T'
  have hs2 : (order.filterMap (es[·]?)).size = es.size := by rw [rowsS_len r1, r2.length_eq, hsl]
  rw [setRelay_eq]
  refine wpAny_bind (wpAny_setState_of ho hd hfits ?_)
  dsimp only
  refine wp_if_neg (by rw [sizeLine_eq]; omega) ?_
  try refine wpAny_bind (wpAny_pure ?_)
  rw [e]
  dsimp only
  refine wpAny_bind (wp_if_neg (by rw [hs2]; simp) ?_)
  try refine wpAny_bind (wpAny_pure ?_)
  refine wpAny_pure ?_
  dsimp only
  refine wpAny_storeSet_of ho hd ?_ (by rw [hs2, hsl, sizeLine_eq]; omega)
  have sb : Heap.SameBut a s.heap (s.heap.update a (Obj.putSet (order.filterMap (es[·]?)) t')) := Heap.SameBut.update ..
  refine hQ _ L2 (order.filterMap (es[·]?)) (ep + 1) t' sb ⟨⟨_, store_at ho hd, ⟨hex.1, hex.2.1, hex.2.2⟩, rfl⟩, r1, T', ?_, fun p hpm => isS_but (tup p (r2.mem_iff.mp hpm)) ho hd sb, by rw [el]; exact ld, ?_, by rw [r2.length_eq]; exact few⟩ r2
  · exact (r2.map (·.2)).nodup_iff.mpr nd
  · rw [r2.length_eq, em]
    exact hn
theorem addS (R : SetS P w s.heap a L es ep t) {x : Addr} {k : List Str} (hx : IsS P w s.heap k x) (hu : A.units < cLine) (hfew : L.length + 1 < 64) {Q : Bool → Shared → Prop}
    (hQ : ∀ b h' L' es' ep' t', Heap.SameBut a s.heap h' → SetS P w h' a L' es' ep' t' → (k ∈ L.map (·.2) → L' = L) → (k ∉ L.map (·.2) → L'.Perm ((x, k) :: L)) → Q b { s with heap := h' }) :
    wpAny (model P w) A (setAddHashed a (.ref x) (hashS P w k)) Q E s := by
  obtain ⟨o, ho, hex, hd⟩ := R.ob
  have hsl := rowsS_len R.rows
  have hroom := R.room
  unfold setAddHashed
  refine wpAny_holding ?_
  rw [show (100000 : Nat) = 99999 + 1 from rfl, setAddHashedIn_succ]
  refine wpAny_bind (wpAny_setState_of ho hd R.fits ?_)
  dsimp only
  refine wp_if_neg (by simp [byScan, Value.scannable]) ?_
  try refine wpAny_bind (wpAny_pure ?_)
  refine wpAny_bind (soughtS R hx hu (fun hm => ?_) fun K hm hK hb => ?_)
  · exact wpAny_pure (hQ false s.heap L es ep t (Heap.SameBut.refl a s.heap) R (fun _ => rfl) fun z => absurd hm z)
  · dsimp only
    refine wpAny_bind (wpAny_setState_of ho hd R.fits ?_)
    dsimp only
    obtain ⟨q1, q2, q3, q4, q5, q6, q7, q8, q9⟩ := R.tab.put hK hb
    generalize hpt : t.put (way t.mask (hashS P w k) K) = pt at q1 q3 q4 q5 q6 q7 q8 q9 ⊢
    obtain ⟨t1, p⟩ := pt
    dsimp only at q1 q3 q4 q5 q6 q7 q8 q9 ⊢
    subst q1
    have hin : (SetTable.insertAt es (SetTable.below t.place (way t.mask (hashS P w k) K)) (hashS P w k, Value.ref x)).toList = rowsS P w (L.take (SetTable.below t.place (way t.mask (hashS P w k) K)) ++ (x, k) :: L.drop (SetTable.below t.place (way t.mask (hashS P w k) K))) := by
      rw [SetTable.toList_insertAt, R.rows]
      unfold rowsS
      rw [List.map_append, List.map_cons, List.map_take, List.map_drop]
    generalize SetTable.below t.place (way t.mask (hashS P w k) K) = p at q2 q3 hin ⊢
    have pm := put_perm L p (x, k)
    have hlen : (L.take p ++ (x, k) :: L.drop p).length = L.length + 1 := pm.length_eq
    have hhs : (L.take p ++ (x, k) :: L.drop p).map (fun p => hashS P w p.2) = (L.map fun p => hashS P w p.2).take p ++ hashS P w k :: (L.map fun p => hashS P w p.2).drop p := by
      rw [List.map_append, List.map_cons, List.map_take, List.map_drop]
    rw [← hhs] at q3
    have nd1 : ((L.take p ++ (x, k) :: L.drop p).map (·.2)).Nodup := (pm.map (·.2)).nodup_iff.mpr (by
      rw [List.map_cons]
      exact List.nodup_cons.mpr ⟨hm, R.nd⟩)
    have hes := rowsS_len hin
    rw [hlen] at hes
    generalize SetTable.insertAt es p (hashS P w k, Value.ref x) = es1 at hin hes ⊢
    generalize L.take p ++ (x, k) :: L.drop p = L1 at pm hlen q3 nd1 hin
    -- what is left, whatever the table says of its plainness
    have last : ∀ t2 : SetTable, TabOk t2 (L1.map fun p => hashS P w p.2) → t2.mask = t.mask → t2.led = t.led → t2.fill = L.length + 1 → wpAny (model P w) A (do
        storeSet a es1 t2
        if !false && t2.tooFull then setRelay a (SetTable.grown (es.size + 1))
        return true) Q E s := by
      intro t2 T2 m2 l2 f2
      refine wpAny_bind (wpAny_storeSet_of ho hd ?_ (by rw [hes, sizeLine_eq]; omega))
      have sb : Heap.SameBut a s.heap (s.heap.update a (Obj.putSet es1 t2)) := Heap.SameBut.update ..
      have ho1 := store_at (es' := es1) (t' := t2) ho hd
      generalize s.heap.update a (Obj.putSet es1 t2) = h1 at sb ho1 ⊢
      have tup1 : ∀ p ∈ L1, IsS P w h1 p.2 p.1 := fun p hp => by
        rcases List.mem_cons.mp (pm.mem_iff.mp hp) with e | hp
        · rw [e]; exact isS_but hx ho hd sb
        · exact isS_but (R.tup p hp) ho hd sb
      have ld1 : w.params.followText "set-order" = true ∨ t2.led = true := by rw [l2]; exact R.led
      have full : t2.tooFull = decide ((L.length + 1) * 5 ≥ t.mask * 3) := by
        unfold SetTable.tooFull
        rw [f2, m2]
      by_cases hf : t2.tooFull = true
      · have hfull : (L.length + 1) * 5 ≥ t.mask * 3 := by rwa [full, decide_eq_true_eq] at hf
        rw [hf, hsl]
        have two : (t.mask = 7 ∧ L.length = 4) ∨ (t.mask = 31 ∧ L.length = 18) := by
          rcases R.tab.mok with e | e | e <;> rw [e] at hfull hroom
          · exact .inl ⟨e, by omega⟩
          · exact .inr ⟨e, by omega⟩
          · omega
        have go : ∀ M, SetTable.sizeAbove (SetTable.grown (L.length + 1)) - 1 = M → MaskOk M → SetTable.sizeAbove (SetTable.grown (L.length + 1)) ≤ 128 → (L.length + 1) * 5 < M * 3 →
            wpAny (model P w) A (setRelay a (SetTable.grown (L.length + 1))) (fun _ s' => wpAny (model P w) A (pure true) Q E s') E { s with heap := h1 } := fun M h1' h2' h3' h4' =>
          relaidS (s := { s with heap := h1 }) ho1 ⟨hex.1, hex.2.1, hex.2.2⟩ rfl hin T2 (by rw [hes, m2]; rcases two with ⟨e, e2⟩ | ⟨e, e2⟩ <;> omega) nd1 tup1 ld1 (by rw [hlen]; exact hfew) h1' h2' h3' (by rw [hlen]; exact h4')
            fun h2 L2 es2 ep2 t2' sb2 R2 pm2 => wpAny_pure (hQ true h2 L2 es2 ep2 t2' (sb.trans sb2) R2 (fun z => absurd z hm) fun _ => pm2.trans pm)
        have fin : wpAny (model P w) A (setRelay a (SetTable.grown (L.length + 1))) (fun _ s' => wpAny (model P w) A (pure true) Q E s') E { s with heap := h1 } := by
          rcases two with ⟨_, e2⟩ | ⟨_, e2⟩
          · exact go 31 (by rw [e2, size_20]) (.inr (.inl rfl)) (by rw [e2, size_20]; decide) (by omega)
          · exact go 127 (by rw [e2, size_76]) (.inr (.inr rfl)) (by rw [e2, size_76]; decide) (by omega)
        exact wpAny_bind fin
      · have hff : t2.tooFull = false := by simpa using hf
        rw [hff]
        have nf : ¬ (L.length + 1) * 5 ≥ t.mask * 3 := by rwa [full, decide_eq_true_eq] at hf
        refine wpAny_pure (hQ true h1 L1 es1 (ep + 1) t2 sb ⟨⟨_, ho1, ⟨hex.1, hex.2.1, hex.2.2⟩, rfl⟩, hin, T2, nd1, tup1, ld1, ?_, by rw [hlen]; exact hfew⟩ (fun z => absurd z hm) fun _ => pm)
        rw [hlen, m2]
        omega
    have lastP : ∀ z : Bool, wpAny (model P w) A (do
        storeSet a es1 (if z = true then t1 else { t1 with plain := false })
        if !false && (if z = true then t1 else { t1 with plain := false }).tooFull then setRelay a (SetTable.grown (es.size + 1))
        return true) Q E s := fun z => by
      cases z with
      | true => exact last t1 q3 q4 q5 (by rw [q9, List.length_map])
      | false => exact last { t1 with plain := false } ⟨q3.ris, q3.dm, q3.sz, q3.mok, q3.bd, q3.reach⟩ q4 q5 (by
          have := q9
          rw [List.length_map] at this
          exact this)
    by_cases hp : t1.plain = true
    · refine wp_if_pos hp (wpAny_bind (byValue_S hx fun z => ?_))
      have := lastP z
      cases z <;> exact this
    · refine wp_if_neg hp (wpAny_bind (wpAny_pure ?_))
      exact lastP true
/-! ### set(xs) -/
theorem setS_fresh {h : Heap} {a : Addr} (ho : h.get? a = some (newSetO w)) : SetS P w h a [] #[] 0 (.fresh 0 0 (!w.params.followText "set-order")) where
  ob := ⟨_, ho, ⟨rfl, rfl, rfl⟩, rfl⟩
  rows := rfl
  tab := ⟨List.Pairwise.nil, rfl, rfl, .inl rfl, fun x hx => (by cases hx), fun i h j hi => (by simp at hi)⟩
  nd := List.nodup_nil
  tup := fun p hp => (by cases hp)
  led := by
    show _ ∨ (!w.params.followText "set-order") = true
    cases w.params.followText "set-order"
    · exact .inr rfl
    · exact .inl rfl
  room := by show 0 * 5 < 7 * 3; decide
  few := by show 0 < 64; decide
/-- what the set has of the first i items -/
structure HasS (ks : List PK) (i : Nat) (L : List PK) : Prop where
  sub : ∀ p ∈ L, p ∈ ks.take i
  all : ∀ p ∈ ks.take i, p.2 ∈ L.map (·.2)
  len : L.length ≤ i
theorem HasS.zero (ks : List PK) : HasS ks 0 [] := ⟨fun p hp => (nomatch hp), fun p hp => (by rw [List.take_zero] at hp; exact nomatch hp), Nat.le_refl _⟩
theorem HasS.next {ks L L' : List PK} {i : Nat} {x : PK} (g : HasS ks i L) (h : ks[i]? = some x) (c1 : x.2 ∈ L.map (·.2) → L' = L) (c2 : x.2 ∉ L.map (·.2) → L'.Perm (x :: L)) : HasS ks (i + 1) L' := by
  have et : ks.take (i + 1) = ks.take i ++ [x] := by rw [List.take_add_one, h]; rfl
  by_cases c : x.2 ∈ L.map (·.2)
  · rw [c1 c]
    refine ⟨fun p hp => et ▸ List.mem_append_left _ (g.sub p hp), fun p hp => ?_, Nat.le_succ_of_le g.len⟩
    rw [et] at hp
    rcases List.mem_append.mp hp with z | z
    · exact g.all p z
    · rw [List.mem_singleton.mp z]; exact c
  · have pm := c2 c
    refine ⟨fun p hp => ?_, fun p hp => ?_, by rw [pm.length_eq, List.length_cons]; exact Nat.succ_le_succ g.len⟩
    · rw [et]
      rcases List.mem_cons.mp (pm.mem_iff.mp hp) with e | z
      · rw [e]; exact List.mem_append_right _ (List.mem_singleton.mpr rfl)
      · exact List.mem_append_left _ (g.sub p z)
    · rw [(pm.map (·.2)).mem_iff, List.map_cons]
      rw [et] at hp
      rcases List.mem_append.mp hp with z | z
      · exact List.mem_cons_of_mem _ (g.all p z)
      · rw [List.mem_singleton.mp z]; exact List.mem_cons_self
theorem call_setS {l : Addr} {items : Array Value} (ks : List PK) {Q : Value → Shared → Prop} (hh : A.handled = none) (hl : s.heap.IsList l items) (hit : items.toList = ks.map fun p => Value.ref p.1)
    (hk : ∀ p ∈ ks, IsS P w s.heap p.2 p.1) (hfew : ks.length < 64) (hu : A.units + 3 < cLine)
    (h : ∀ (h' : Heap) (tk : Nat) L es ep t, SetS P w h' s.heap.objs.size L es ep t → HasS ks ks.length L → (∀ b o, s.heap.get? b = some o → h'.get? b = some o) → Q (.ref s.heap.objs.size) { s with heap := h', toks := tk }) :
    wpAny (model P w) A (call (.type "set") [.ref l]) Q E s := by
  have hisz : items.size = ks.length := by
    have q := congrArg List.length hit
    rwa [Array.length_toList, List.length_map] at q
  have old : ∀ {b : Addr} {o : Obj}, s.heap.get? b = some o → b < s.heap.objs.size := fun e => Heap.lt_size e
  refine setC_list (J := fun i h => (∀ b o, s.heap.get? b = some o → h.get? b = some o) ∧ ∃ L es ep t, SetS P w h s.heap.objs.size L es ep t ∧ HasS ks i L) hh hl (fun h1 k e => ⟨k, [], #[], 0, _, setS_fresh e, HasS.zero ks⟩)
    (fun i h h' ⟨k0, L, es, ep, t, R, g⟩ k => ?_) (fun A' hA hh' i v s2 E' Q' hi hv ⟨k0, L, es, ep, t, R, g⟩ hQ => ?_) fun h' tk ⟨k0, L, es, ep, t, R, g⟩ k => ?_
  · have k1 : ∀ b o, s.heap.get? b = some o → h'.get? b = some o := fun b o e => k b o (Nat.le_of_lt (old e)) (k0 b o e)
    obtain ⟨o, ho, r⟩ := R.ob
    exact ⟨k1, L, es, ep, t, ⟨⟨o, k _ _ (Nat.le_refl _) ho, r⟩, R.rows, R.tab, R.nd, fun p hp => isS_keep (hk p (List.mem_of_mem_take (g.sub p hp))) fun o e => k1 _ o e, R.led, R.room, R.few⟩, g⟩
  · rw [hisz] at hi
    obtain ⟨p, hp⟩ : ∃ p, ks[i]? = some p := ⟨_, List.getElem?_eq_getElem hi⟩
    have ev : v = .ref p.1 := by
      have q : items.toList[i]? = some v := by rw [Array.getElem?_toList]; exact hv
      rw [hit, List.getElem?_map, hp] at q
      exact (Option.some.inj q).symm
    subst ev
    have hx : IsS P w s2.heap p.2 p.1 := isS_keep (hk p (List.mem_of_getElem? hp)) fun o e => k0 _ o e
    have hu' : A'.units < cLine := by omega
    unfold setAdd
    refine wpAny_holding (wpAny_bind (wpAny_pyHash_tuple hu' hx ?_))
    refine addS (s := { s2 with toks := s2.toks + (p.2.length + 1) }) R hx hu' (by have := g.len; omega) fun b h' L' es' ep' t' sb R' c1 c2 => ?_
    refine hQ b h' _ sb ⟨fun c o e => (sb.2 c (Nat.ne_of_lt (old e))).trans (k0 c o e), L', es', ep', t', R', g.next hp c1 c2⟩
  · rw [hisz] at g
    exact h h' tk L es ep t R g k
end
end C9
/-! ## Q5 -/
set_option maxHeartbeats 1000000
namespace C9
open PySem PySem.Spec PyProof.Rows L2
open PySem.W (EachIs SortsAt AllAlike Sortable dataLe dataKind sortVals)
/-! ### sorted(set(xs)), xs a list of tuples of texts -/
theorem perm_unmap {α β : Type} {f : α → β} {m out : List β} (p : m.Perm out) : ∀ L : List α, m = L.map f → ∃ L1 : List α, L1.Perm L ∧ out = L1.map f := by
  induction p with
  | nil =>
    intro L h
    rw [(List.map_eq_nil_iff.mp h.symm)]
    exact ⟨[], .nil, rfl⟩
  | cons x p ih =>
    intro L h
    cases L with
    | nil => cases h
    | cons a L =>
      injection h with h1 h2
      obtain ⟨L1, q, e⟩ := ih L h2
      exact ⟨a :: L1, q.cons a, by rw [List.map_cons, ← h1, e]⟩
  | swap x y l =>
    intro L h
    cases L with
    | nil => cases h
    | cons a L =>
      cases L with
      | nil => cases h
      | cons b L =>
        injection h with h1 h2
        injection h2 with h2 h3
        exact ⟨b :: a :: L, .swap _ _ _, by rw [List.map_cons, List.map_cons, ← h1, ← h2, ← h3]⟩
  | trans p q ih1 ih2 =>
    intro L h
    obtain ⟨L1, q1, e1⟩ := ih1 L h
    obtain ⟨L2, q2, e2⟩ := ih2 L1 e1
    exact ⟨L2, q2.trans q1, e2⟩
def tSortSet (K : PySem.W.Frag) (ta : TE) : TE := fun σ H Q => ta σ H fun x H1 => ∃ (l : Addr) (xs : List V) (cs : List (List Str)), x = .ref l ∧ SqL K H1 l xs ∧ TpAll H1 xs (cs.map dS) ∧ cs.length < 64 ∧ AllAlike (cs.map dS) ∧ (∀ ds : List (List Str), (∀ c ∈ ds, c ∈ cs) → AllAlike (ds.map dS) ∧ Sortable (ds.map dS) ∧ ∀ d ∈ ds.map dS, d.depth ≤ 40) ∧
  ∀ p ys (ds : List (List Str)) H', Same H1 H' → H1 p = none → H' p = some (.lst ys) → TpAll H' ys (ds.map dS) → ds.Nodup → (∀ c, c ∈ ds ↔ c ∈ cs) → (ds.Pairwise fun a b => leG dS a b = true) → Q (.ref p) H'
section
variable {X : Cx} {pins : List (Addr × Obj)} {σ : L2.St} {H : Hp} {s : Shared}
theorem isS_of (I : Inv X pins σ H s) {b : Addr} {k : List Str} (h : H b = some (.tup (k.map V.str))) : IsS X.prog X.w s.heap k b := by
  obtain ⟨its, r, ⟨o, ho, hc, n, hd⟩, _⟩ := I.tuple (.of h)
  refine ⟨o, its.toArray, n, ho, hc, hd, ?_⟩
  have : ∀ {k : List Str} {us : List Value}, Vals (k.map V.str) us → ItemsAre (PySem.strKind X.prog X.w) k us := by
    intro k
    induction k with
    | nil => intro us r; cases r; exact .nil
    | cons x k ih =>
      intro us r
      cases r with
      | cons r1 r2 =>
        obtain ⟨t, rfl⟩ := r1
        exact .cons (strKind_is _ _ _ _) (ih r2)
  simpa using this r
theorem keys_of {H : Hp} : ∀ {xs : List V} {cs : List (List Str)}, TpAll H xs (cs.map dS) → ∃ ks : List PK, xs = ks.map (fun p => V.ref p.1) ∧ cs = ks.map (·.2) ∧ ∀ p ∈ ks, H p.1 = some (.tup (p.2.map V.str))
  | [], [], _ => ⟨[], rfl, rfl, fun p h => nomatch h⟩
  | [], _ :: _, h => nomatch h
  | _ :: _, [], h => nomatch h
  | x :: xs, c :: cs, h => by
    cases h with
    | cons a r =>
      obtain ⟨p, rfl, e⟩ := a.strs_at
      obtain ⟨ks, e1, e2, e3⟩ := keys_of r
      refine ⟨(p, c) :: ks, by rw [List.map_cons, ← e1], by rw [List.map_cons, ← e2], fun q hq => ?_⟩
      rcases List.mem_cons.mp hq with z | z
      · rw [z]; exact e
      · exact e3 q z
theorem refs_vals : ∀ {ks : List PK} {us : List Value}, Vals (ks.map fun p => V.ref p.1) us → us = ks.map fun p => Value.ref p.1
  | [], _, .nil => rfl
  | p :: ks, _, .cons r t => by
    cases r
    rw [refs_vals t]
    rfl
theorem vals_refs : ∀ (ks : List PK), Vals (ks.map fun p => V.ref p.1) (ks.map fun p => Value.ref p.1)
  | [] => .nil
  | p :: ks => .cons rfl (vals_refs ks)
/-- behind the walk over what is sorted -/
theorem sort_tail {k : Nat} (hr : Room k X.A) {xs : List V} {ds : List PyData} {vs : List Value} {s2 : Shared} {E : Value → Shared → Prop} {Q : PySem.Fin → Shared → Prop} (I1 : Inv X pins σ H s) (rv : Vals xs vs) (tp : TpAll H xs ds) (al : AllAlike ds) (so : Sortable ds) (dp : ∀ d ∈ ds, d.depth ≤ 40) (hL : vs.length ≤ sizeLine)
    (kk : ∀ b o, s.heap.get? b = some o → s2.heap.get? b = some o) (hp : s.heap.objs.size ≤ s2.heap.objs.size) (g1 : s2.gens = s.gens) (o1 : s2.os = s.os)
    (q : ∀ s3, Inv X pins σ (upd H s2.heap.objs.size (.lst ((sortedBy xs ds).map (·.1)))) s3 → H s2.heap.objs.size = none → Q (.done (.ret (.ref s2.heap.objs.size))) s3) :
    wpAny (model X.prog X.w) X.A.in1 (do
      let l ← newList vs
      let _ ← holding [l] (call (.builtin "list.sort") [l] [])
      ret l) Q E s2 := by
  have hu := hr.units
  have hlen := tp.length
  have I3 : Inv X pins σ H { s with heap := s2.heap, toks := s2.toks } := I1.kept kk
  have er : ∀ h2 : Heap, (∀ b o, s2.heap.get? b = some o → h2.get? b = some o) → EachIs (fun (u : Value) (b : V × PyData) => ∃ as, Reads h2 u b.2 as) vs (xs.zip ds) := fun h2 k2 =>
    (each_reads I3 rv tp.dp).mono fun _ _ ⟨as, r⟩ => ⟨as, PyProof.Rows.Reads.keeps (fun _ _ e => k2 _ _ e) r⟩
  have al' : AllAlike ((xs.zip ds).map fun b => b.2) := by rw [zip_snd hlen]; exact al
  have so' : Sortable ((xs.zip ds).map fun b => b.2) := by rw [zip_snd hlen]; exact so
  have k6 : ∀ b o, s2.heap.get? b = some o → (PySem.W.sortingHeap (s2.heap.push (seqObj "list" vs.toArray 0)) s2.heap.objs.size vs).get? b = some o := fun b o e =>
    PySem.W.sortingHeap_old (Nat.ne_of_lt (Heap.lt_size e)) (Heap.get?_push_of_some _ e)
  have S : SortsAt X.prog X.w X.A.in1.in1 { s2 with heap := PySem.W.sortingHeap (s2.heap.push (seqObj "list" vs.toArray 0)) s2.heap.objs.size vs } (dataKind (PySem.W.sortingHeap (s2.heap.push (seqObj "list" vs.toArray 0)) s2.heap.objs.size vs) ((xs.zip ds).map fun b => b.2)) vs :=
    SortsAt.data (s := { s2 with heap := PySem.W.sortingHeap (s2.heap.push (seqObj "list" vs.toArray 0)) s2.heap.objs.size vs })
      (PySem.W.each_map (R := fun v d => ∃ as, Reads (PySem.W.sortingHeap (s2.heap.push (seqObj "list" vs.toArray 0)) s2.heap.objs.size vs) v d as) (fun b : V × PyData => b.2) (er _ k6)) al' so' (fun d hm => by
        rw [zip_snd hlen] at hm
        have := dp d hm
        show X.A.units + 1 + 1 + d.depth < cLine
        omega)
  refine sort_behind hL S fun c h3 k3 hob => ?_
  have out : EachIs (fun (u : Value) (b : V × PyData) => RelV b.1 u) (sortVals (dataKind (PySem.W.sortingHeap (s2.heap.push (seqObj "list" vs.toArray 0)) s2.heap.objs.size vs) ((xs.zip ds).map fun b => b.2)) false vs vs) (sortedBy xs ds) :=
    PySem.W.sortVals_data (h' := PySem.W.sortingHeap (s2.heap.push (seqObj "list" vs.toArray 0)) s2.heap.objs.size vs) false (each_of_vals rv hlen) (er _ k6) al'
  have rout := vals_of_each out
  have hf : H s2.heap.objs.size = none := I1.hok.fresh hp
  have hll : ((sortedBy xs ds).map (·.1)).length ≤ sizeLine := by
    rw [List.length_map]
    unfold sortedBy
    rw [List.length_mergeSort, List.length_zip, rv.length]
    exact Nat.le_trans (Nat.min_le_left _ _) hL
  have kf : ∀ b o, s.heap.get? b = some o → h3.get? b = some o := fun b o e => k3 b o (kk b o e)
  have J : Inv X pins σ (upd H s2.heap.objs.size (.lst ((sortedBy xs ds).map (·.1)))) { s with heap := h3, gens := s2.gens, drawn := s2.drawn, toks := s2.toks } :=
    I1.call (ch := []) (Un.laid kf hp hf) (I1.hok.laid kf hp ⟨hll, _, c, rout, hob⟩) (by rw [g1]; exact I1.bare) (fun _ z => nomatch z)
  obtain ⟨hp2, g2, d2, t2, os2⟩ := s2
  simp only at o1
  subst o1
  exact q _ J hf
theorem pe_sortSet {a : Expr} {ta : TE} {p p2 q pos : Pos} {k : Nat} (hr : Room k X.A) (hg : Gl X "sorted") (hm : X.mg "sorted" = none) (hg2 : Gl X "set") (hm2 : X.mg "set" = none) (ha : PE X a ta) (hc : X.calm = true)
    (na : starEach [a] X.env = (false, eval a X.env) :: starEach [] X.env := by rfl) : PE X (.Call (.Name "sorted" p) [.Call (.Name "set" p2) [a] [] q] [] pos) (tSortSet X.K ta) := by
  refine ⟨fun pins s σ H Q I h => ?_⟩
  refine Call_ (ld_blt I hg hm PyProof.Rows.boot_sorted ?_)
  refine PyProof.Rows.callWith_builtin1 (PyProof.Rows.args_cons ?_ rfl) rfl rfl
  refine Call_ (ld_blt I hg2 hm2 PyProof.Rows.boot_set ?_)
  refine PyProof.Rows.callWith_type1 (PyProof.Rows.args_cons (thn (ha.run pins s σ H _ I h) fun v s1 hv => ?_) na) na rfl
  obtain ⟨x, H1, I1, r1, q1⟩ := hv
  refine PyProof.Rows.args_nil ?_
  obtain ⟨l, xs, cs, rfl, hq, tp, hfew, al0, good, q1⟩ := q1
  cases r1
  obtain ⟨ks, rfl, rfl, hks⟩ := keys_of tp
  rw [List.length_map] at hfew
  obtain ⟨its, r, pl, hz⟩ := I1.list hq
  have hu := hr.units
  have hh := I1.ok.hd hc
  refine call_setS (P := X.prog) (w := X.w) ks hh pl.isList (by simpa using refs_vals r) (fun p hp => isS_of I1 (hks p hp)) hfew (by omega) fun h' tk L es ep t R g k => ?_
  refine PyProof.Rows.args_nil ?_
  have I2 : Inv X pins σ H1 { s1 with heap := h', toks := tk } := I1.kept k
  have sub : ∀ p ∈ L, p ∈ ks := fun p hp => by
    have := g.sub p hp
    rwa [List.take_length] at this
  refine Calls.call_function_entry kind_sorted plain_sorted entry_sorted (args_sorted1 _) ?_
  unfold Builtin.«sorted»
  refine wpAny_bind (m := checkCount "sorted" 1 1 _) (wpAny_pure ?_)
  obtain ⟨o, ho, hex, hd⟩ := R.ob
  have hsz := rowsS_len R.rows
  have hfw := R.few
  refine wpAny_bind (collect_set (s := { s1 with heap := h', toks := tk }) (A := X.A.in1) hh ⟨o, ho, hex.1, hd⟩ (SetS.fits (s := { s1 with heap := h', toks := tk }) R) (by unfold scanBound; omega) R.tab.ris R.led fun s2 vs k1 hz1 g1 o1 pm => ?_)
  have hes : es.toList.map (·.2) = L.map fun q => Value.ref q.1 := by
    rw [R.rows]
    unfold rowsS
    rw [List.map_map]
    rfl
  rw [hes] at pm
  obtain ⟨L1, pL, rfl⟩ := perm_unmap pm.symm L rfl
  have hL1 : ∀ p ∈ L1, p ∈ ks := fun p hp => sub p (pL.mem_iff.mp hp)
  have eds : L1.map (fun p => dS p.2) = (L1.map (·.2)).map dS := by rw [List.map_map]; rfl
  obtain ⟨al, so, dp⟩ := good (L1.map (·.2)) fun c hcm => by
    obtain ⟨p, hp, rfl⟩ := List.mem_map.mp hcm
    exact List.mem_map.mpr ⟨p, hL1 p hp, rfl⟩
  have tp1 : TpAll H1 (L1.map fun p => V.ref p.1) ((L1.map (·.2)).map dS) := by
    have : ∀ M : List PK, (∀ p ∈ M, p ∈ ks) → TpAll H1 (M.map fun p => V.ref p.1) ((M.map (·.2)).map dS) := by
      intro M
      induction M with
      | nil => exact fun _ => .nil
      | cons p M ih => exact fun h => .cons (.tup (hks p (h p List.mem_cons_self)) (TpAll.strs.mpr rfl)) (ih fun q hq => h q (List.mem_cons_of_mem _ hq))
    exact this L1 hL1
  have hlen : (L1.map fun p => V.ref p.1).length = ((L1.map (·.2)).map dS).length := tp1.length
  have hp : s1.heap.objs.size ≤ s2.heap.objs.size := Nat.le_trans (Nat.le_of_lt (Heap.lt_size ho)) hz1
  have ts0 := tp_sorted tp1
  rw [sortD_G] at ts0
  have pg := sortG_perm dS (L1.map (·.2))
  refine sort_tail hr I1 (vals_refs L1) tp1 al so dp (by rw [List.length_map, pL.length_eq, sizeLine_eq]; omega) (fun b o e => k1 b o (k b o e)) hp g1 o1 fun s3 J hf => ?_
  refine ⟨_, rfl, .ref s2.heap.objs.size, _, J, rfl, ?_⟩
  refine q1 _ _ _ _ (sm_new hf) hf upd_same (TpAll.keep (.new hf) ts0) (pg.nodup_iff.mpr ((pL.map (·.2)).nodup_iff.mpr R.nd)) (fun c => ?_) (sortG_pw dS _)
  rw [pg.mem_iff, (pL.map (·.2)).mem_iff]
  constructor
  · intro hm
    obtain ⟨p, hp, rfl⟩ := List.mem_map.mp hm
    exact List.mem_map.mpr ⟨p, sub p hp, rfl⟩
  · intro hm
    obtain ⟨p, hp, rfl⟩ := List.mem_map.mp hm
    exact g.all p (by rw [List.take_length]; exact hp)
end
theorem k_sortSet {X : Cx} (K : PySem.W.Frag) {e : Expr} {t : TE} (h : PE X e (tSortSet X.K t)) (hK : X.K = K := by rfl) : PE X e (tSortSet K t) := by subst hK; exact h
end C9
/-! ## F22 -/
set_option maxHeartbeats 4000000
namespace C9
open PySem PySem.Spec PyProof.Rows L2 C8
section
variable {K : PySem.W.Frag} {mg : Str → Option Value} {P : Program} {w : World} {base : Heap}
def sp_law_alike (K : PySem.W.Frag) : Sp := fun vs H Q E => ∃ x y, vs = [x, y] ∧ ∃ a b d, x = .ref a ∧ y = .ref b ∧ Dq H x d ∧ Dq H y d ∧ Sm d 1000000 ∧ Q (.bl true) H
theorem sc_law_alike : FnScope ["_law_found", "_law_due"] ["_law_found", "_law_due"] (defScope s_law_alike) := ⟨rfl, rfl, rfl, by decide +kernel, rfl, by decide +kernel, by decide +kernel⟩
theorem g_law_alike (T : Txt K mg) : CalG P w K mg base 1 "_law_alike" (sp_law_alike K) := by
  refine T.calG 39 33 rfl rfl sc_law_alike
    (fun _ _ _ _ _ _ us h => match us, h with | [_, _], _ => rfl)
    (fun vs H Q E h => by obtain ⟨_, _, rfl, _⟩ := h; rfl) (fun f cdv A outer s H vs Q E hG hr h => ?_)
  have nd := sc_law_alike.nd
  refine ⟨_, (pss_one (ps_ret (pe_and (pe_cmpR (op_eqQ hr T.sys) (pv 0) (pv 1) rfl) (pe_one (pe_cmpR op_eq (pe_callB (cr_reprQ hr hG T.sys) (by rfl) (T.free 61) rfl (pa_cons (pv 0) pa_nil)) (pe_callB (cr_reprQ hr hG T.sys) (by rfl) (T.free 61) rfl (pa_cons (pv 1) pa_nil)) rfl))))), ?_⟩
  obtain ⟨v0, v1, rfl, h⟩ := h
  rw [show L2.start ["_law_found", "_law_due"] [v0, v1] = [some v0, some v1] from rfl]
  obtain ⟨a, b, d, rfl, rfl, h1, h2, sm, q⟩ := h
  simp only [tBM, SlX.tMethSl, tSeq, tIfS, tOr, tAnd, tNot, tB, tCB, tCons, tNil, tVar, tC, tTest, tChain, tRet, tRetN, tNext, tOp, tAndV, tOrV, tNotV, tIf, tThen, tYes, tTup, tLst, tCall, tAsg, tDrop, tDNewK, gName, gTup, gCons, gNil, rI0, rI, CMul, CDiv, tUn, rU, rEq, rNe, scal, LenV, RetB, RetD, List.set_cons_zero, List.set_cons_succ, List.getElem?_cons_zero, List.getElem?_cons_succ, Option.some.injEq, exists_eq_left', exists_eq_left, List.cons.injEq, and_true, true_and, V.int.injEq, V.str.injEq, V.bl.injEq, V.ref.injEq, if_true, if_false, Bool.not_true, Bool.not_false, reduceCtorEq, decide_true, decide_false, Bool.false_eq_true, exists_and_left, Bool.not_eq_true', decide_eq_true_eq, decide_eq_false_iff_not, rLenK, tLenSetT, List.append_nil, and_assoc, or_false, false_or, exists_false, false_and, and_false, rGetL, rSetL, gSub, tAugS, ipI, tPart, tNoPart, not_true, not_false_iff, ite_true, ite_false, List.map_cons, List.map_nil]
  refine ⟨a, b, d, rfl, rfl, h1, h2, ?_⟩
  refine ⟨true, rfl, ?_⟩
  rw [if_pos rfl]
  refine ⟨a, d, rfl, h1, sm, b, d, rfl, h2, sm, rfl, ?_⟩
  rw [decide_eq_true rfl]
  exact q
end
end C9
/-! ## P1 -/
set_option maxHeartbeats 4000000
namespace C9
open PySem PySem.Spec PyProof.Rows L2
open PySem.W (dataLt)
/-! ### the plain law: rows that a house takes -/
theorem rowsOk_of {ks : List Str} {cs : List (List Str)} (hp : ∀ c ∈ cs, (ks.filter fun k => decide (k ∈ c)) = c) : ∀ {rs : List Row} {nms : List Str}, (∀ r ∈ rs, okR ks cs r) → (nms ++ putN rs).Nodup → rowsOk ks cs nms rs
  | [], _, _, _ => trivial
  | r :: rs, nms, h, nd => by
    have h1 := h r List.mem_cons_self
    have h2 : ∀ x ∈ rs, okR ks cs x := fun x m => h x (List.mem_cons_of_mem _ m)
    cases r with
    | put n k =>
      have e : nms ++ putN (.put n k :: rs) = (nms ++ [n]) ++ putN rs := by
        rw [List.append_assoc]
        rfl
      rw [e] at nd
      exact ⟨⟨h1.1, h1.2, fun m => (List.nodup_append.mp (List.nodup_append.mp nd).1).2.2 n m n (by simp) rfl⟩, rowsOk_of hp h2 nd⟩
    | drop n => exact ⟨h1, rowsOk_of hp h2 nd⟩
    | call c => exact ⟨⟨hp c h1, h1⟩, rowsOk_of hp h2 nd⟩
theorem LogW.rows {ks : List Str} {cs : List (List Str)} {rs : List Row} (h : LogW ks cs rs) (g : GoodH ks cs) : rowsOk ks cs [] rs := rowsOk_of (fun c hc => (g.part c hc).1) h.1 (by rw [List.nil_append]; exact h.2)
theorem mem_of_remT {x th : Th} : ∀ {ths : List Th}, x ∈ remT th ths → x ∈ ths
  | [], h => h
  | y :: ths, h => by
    rw [remT] at h
    by_cases e : y = th
    · rw [if_pos e] at h
      exact List.mem_cons_of_mem _ h
    · rw [if_neg e] at h
      rcases List.mem_cons.mp h with h | h
      · rw [h]; exact List.mem_cons_self
      · exact List.mem_cons_of_mem _ (mem_of_remT h)
theorem mem_stT {x : Th} {ths : List Th} {r : Row} (h : x ∈ stT ths r) : x ∈ ths ∨ ∃ n k, r = .put n k ∧ x = (n, k) := by
  cases r with
  | put n k =>
    rcases List.mem_append.mp h with h | h
    · exact .inl h
    · exact .inr ⟨n, k, rfl, List.mem_singleton.mp h⟩
  | drop n => exact .inl (List.mem_filter.mp h).1
  | call c =>
    have h' : x ∈ takeT ths c := h
    unfold takeT at h'
    split at h'
    · exact .inl h'
    · exact .inl (mem_of_remT h')
/-- what is told is the name of a thing that was put -/
theorem told_names : ∀ (rs : List Row) (ths : List Th) (i : Nat), ∀ p ∈ toldAt ths i rs, ∀ n, p.2 = some n → n ∈ ths.map (·.1) ∨ n ∈ putN rs
  | [], _, _, p, h, _, _ => nomatch h
  | r :: rs, ths, i, p, h, n, e => by
    have later : p ∈ toldAt (stT ths r) (i + 1) rs → n ∈ ths.map (·.1) ∨ n ∈ putN (r :: rs) := fun h => by
      rcases told_names rs _ _ p h n e with m | m
      · obtain ⟨t, ht, rfl⟩ := List.mem_map.mp m
        rcases mem_stT ht with ht | ⟨a, k, rfl, rfl⟩
        · exact .inl (List.mem_map.mpr ⟨t, ht, rfl⟩)
        · exact .inr (List.mem_filterMap.mpr ⟨_, List.mem_cons_self, rfl⟩)
      · obtain ⟨x, hx, ex⟩ := List.mem_filterMap.mp m
        exact .inr (List.mem_filterMap.mpr ⟨x, List.mem_cons_of_mem _ hx, ex⟩)
    cases r with
    | put a k => exact later h
    | drop a => exact later h
    | call c =>
      rcases List.mem_cons.mp h with h | h
      · rw [h] at e
        have e' : (firstT ths c).map (·.1) = some n := e
        cases q : firstT ths c with
        | none => rw [q] at e'; cases e'
        | some t =>
          rw [q] at e'
          cases e'
          exact .inl (List.mem_map.mpr ⟨t, firstT_mem q, rfl⟩)
      · exact later h
/-! ### told dicts as data -/
def toldP (l : List (Nat × Option Str)) : List (PyData × PyData) := l.map fun p => (.int (p.1 : Nat), optD p.2)
theorem opt_leaf (o : Option Str) : LfV (optV o) (optD o) := by
  cases o with
  | none => exact .non
  | some k => exact .str k
theorem told_dic : ∀ l : List (Nat × Option Str), DicL (toldD l) (toldP l)
  | [] => .nil
  | p :: l => .cons ⟨rfl, opt_leaf p.2⟩ (told_dic l)
theorem sm_name {x : Str} (h : okN x = true) : Sm (.str x) 6 := Sm.str (fun c hc => by have := okN_at h hc; omega) (okN_len h).2
theorem told_sm {l : List (Nat × Option Str)} (hn : ∀ p ∈ l, p.1 < 1000) (ho : ∀ p ∈ l, ∀ n, p.2 = some n → okN n = true) (hl : l.length ≤ 1000) : Sm (.dict (toldP l)) 14000 := by
  refine Sm.dict (n := 6) (fun p hp => ?_) (by unfold toldP; rw [List.length_map]; omega)
  obtain ⟨q, hq, rfl⟩ := List.mem_map.mp hp
  have := hn q hq
  refine ⟨(Sm.int (by show ((q.1 : Nat) : Int).natAbs < _; omega)).mono (by omega), ?_⟩
  show Sm (optD q.2) 6
  cases e : q.2 with
  | none => exact Sm.none.mono (by omega)
  | some n => exact sm_name (ho q hq n e)
theorem told_all {ks : List Str} {cs : List (List Str)} {rs : List Row} (h : LogW ks cs rs) (hl : rs.length ≤ 900) : Sm (.dict (toldP (told rs))) 14000 := by
  have h1 := toldAt_len rs [] 0
  refine told_sm (fun p hp => ?_) (fun p hp n e => ?_) (by unfold told; omega)
  · have := (toldAt_lt rs [] 0 p hp).2
    omega
  · rcases told_names rs [] 0 p hp n e with m | m
    · exact nomatch m
    · exact putN_ok h.1 n m
/-! ### other names -/
abbrev mapT (f g : Str → Str) (t : Th) : Th := (g t.1, f t.2)
section
variable {ks : List Str} {f g : Str → Str}
theorem firstT_map (hf : ∀ a ∈ ks, ∀ b ∈ ks, f a = f b → a = b) {ths : List Th} (ht : ∀ t ∈ ths, t.2 ∈ ks) : ∀ {c : List Str}, (∀ k ∈ c, k ∈ ks) → firstT (ths.map (mapT f g)) (c.map f) = (firstT ths c).map (mapT f g)
  | [], _ => rfl
  | k :: c, hc => by
    have hk := hc k List.mem_cons_self
    have e : (ths.map (mapT f g)).find? (fun t => decide (t.2 = f k)) = (ths.find? fun t => decide (t.2 = k)).map (mapT f g) := by
      rw [List.find?_map]
      refine congrArg _ ?_
      have : ∀ l : List Th, (∀ t ∈ l, t ∈ ths) → l.find? ((fun t : Th => decide (t.2 = f k)) ∘ mapT f g) = l.find? fun t => decide (t.2 = k) := fun l => by
        induction l with
        | nil => exact fun _ => rfl
        | cons t l ih =>
          intro h
          have q : ((fun t : Th => decide (t.2 = f k)) ∘ mapT f g) t = decide (t.2 = k) := by
            show decide (f t.2 = f k) = decide (t.2 = k)
            by_cases z : t.2 = k
            · rw [decide_eq_true z, decide_eq_true (congrArg f z)]
            · rw [decide_eq_false z, decide_eq_false fun e => z (hf _ (ht t (h t List.mem_cons_self)) _ hk e)]
          rw [List.find?_cons, List.find?_cons, q, ih fun u m => h u (List.mem_cons_of_mem _ m)]
      exact this ths fun _ h => h
    have ih := firstT_map hf ht (c := c) fun j m => hc j (List.mem_cons_of_mem _ m)
    unfold firstT at ih ⊢
    rw [List.map_cons, List.findSome?_cons, List.findSome?_cons, e]
    cases ths.find? fun t => decide (t.2 = k) with
    | none => exact ih
    | some t => rfl
theorem remT_map {th : Th} : ∀ {ths : List Th}, (∀ t ∈ ths, mapT f g t = mapT f g th → t = th) → remT (mapT f g th) (ths.map (mapT f g)) = (remT th ths).map (mapT f g)
  | [], _ => rfl
  | t :: ths, h => by
    rw [List.map_cons, remT, remT]
    by_cases e : t = th
    · rw [if_pos (congrArg _ e), if_pos e]
    · rw [if_neg fun q => e (h t List.mem_cons_self q), if_neg e, List.map_cons, remT_map fun u m => h u (List.mem_cons_of_mem _ m)]
/-- rows whose kinds are among ks -/
def inK (ks : List Str) : Row → Prop
  | .put _ k => k ∈ ks
  | .drop _ => True
  | .call c => ∀ k ∈ c, k ∈ ks
theorem stT_map (hf : ∀ a ∈ ks, ∀ b ∈ ks, f a = f b → a = b) (hg : ∀ a b, g a = g b → a = b) {ths : List Th} (ht : ∀ t ∈ ths, t.2 ∈ ks) {r : Row} (hr : inK ks r) : stT (ths.map (mapT f g)) (mapR f g r) = (stT ths r).map (mapT f g) := by
  cases r with
  | put n k =>
    show ths.map (mapT f g) ++ [(g n, f k)] = (ths ++ [(n, k)]).map (mapT f g)
    rw [List.map_append]
    rfl
  | drop n =>
    show (ths.map (mapT f g)).filter (fun t => decide (t.1 ≠ g n)) = (ths.filter fun t => decide (t.1 ≠ n)).map (mapT f g)
    rw [List.filter_map]
    refine congrArg _ (List.filter_congr fun t _ => ?_)
    show decide (g t.1 ≠ g n) = decide (t.1 ≠ n)
    by_cases e : t.1 = n
    · rw [decide_eq_false (not_not_intro e), decide_eq_false (not_not_intro (congrArg g e))]
    · rw [decide_eq_true (p := g t.1 ≠ g n) fun q => e (hg _ _ q), decide_eq_true (p := t.1 ≠ n) e]
  | call c =>
    show takeT (ths.map (mapT f g)) (c.map f) = (takeT ths c).map (mapT f g)
    unfold takeT
    rw [firstT_map hf ht hr]
    cases q : firstT ths c with
    | none => rfl
    | some t =>
      have hm := firstT_mem q
      exact remT_map fun u hu e => Prod.ext (hg _ _ (congrArg Prod.fst e)) (hf _ (ht u hu) _ (ht t hm) (congrArg Prod.snd e))
theorem stT_in {ths : List Th} (ht : ∀ t ∈ ths, t.2 ∈ ks) {r : Row} (hr : inK ks r) : ∀ t ∈ stT ths r, t.2 ∈ ks := fun t h => by
  rcases mem_stT h with h | ⟨n, k, rfl, rfl⟩
  · exact ht t h
  · exact hr
theorem toldAt_map (hf : ∀ a ∈ ks, ∀ b ∈ ks, f a = f b → a = b) (hg : ∀ a b, g a = g b → a = b) : ∀ {rs : List Row} {ths : List Th} (i : Nat), (∀ t ∈ ths, t.2 ∈ ks) → (∀ r ∈ rs, inK ks r) →
    toldAt (ths.map (mapT f g)) i (rs.map (mapR f g)) = (toldAt ths i rs).map fun p => (p.1, p.2.map g)
  | [], _, _, _, _ => rfl
  | r :: rs, ths, i, ht, hr => by
    have h1 := hr r List.mem_cons_self
    have ih := toldAt_map hf hg (rs := rs) (ths := stT ths r) (i + 1) (stT_in ht h1) fun x m => hr x (List.mem_cons_of_mem _ m)
    have es := stT_map hf hg ht h1
    rw [← es] at ih
    cases r with
    | put n k => exact ih
    | drop n => exact ih
    | call c =>
      have e1 : tellR (ths.map (mapT f g)) (.call (c.map f)) = (tellR ths (.call c)).map g := by
        show (firstT (ths.map (mapT f g)) (c.map f)).map (·.1) = ((firstT ths c).map (·.1)).map g
        rw [firstT_map hf ht h1]
        cases firstT ths c <;> rfl
      show (i, tellR (ths.map (mapT f g)) (.call (c.map f))) :: toldAt (stT (ths.map (mapT f g)) (.call (c.map f))) (i + 1) (rs.map (mapR f g)) = _
      rw [e1]
      exact congrArg (List.cons _) ih
theorem ths_map (hf : ∀ a ∈ ks, ∀ b ∈ ks, f a = f b → a = b) (hg : ∀ a b, g a = g b → a = b) : ∀ {rs : List Row} {ths : List Th}, (∀ t ∈ ths, t.2 ∈ ks) → (∀ r ∈ rs, inK ks r) →
    (rs.map (mapR f g)).foldl stT (ths.map (mapT f g)) = (rs.foldl stT ths).map (mapT f g)
  | [], _, _, _ => rfl
  | r :: rs, ths, ht, hr => by
    have h1 := hr r List.mem_cons_self
    rw [List.map_cons, List.foldl_cons, List.foldl_cons, stT_map hf hg ht h1]
    exact ths_map hf hg (stT_in ht h1) fun x m => hr x (List.mem_cons_of_mem _ m)
theorem LogW.inK {cs : List (List Str)} {rs : List Row} (h : LogW ks cs rs) (g : GoodH ks cs) : ∀ r ∈ rs, inK ks r := fun r hr => by
  have := h.1 r hr
  cases r with
  | put n k => exact this.2
  | drop n => trivial
  | call c =>
    intro k hk
    rw [← (g.part c this).1] at hk
    exact (List.mem_filter.mp hk).1
theorem GoodH.in_ {cs : List (List Str)} (g : GoodH ks cs) {c : List Str} (hc : c ∈ cs) : ∀ k ∈ c, k ∈ ks := fun k hk => by
  rw [← (g.part c hc).1] at hk
  exact (List.mem_filter.mp hk).1
end
/-! ### houses made of a house -/
theorem lt_chain : ∀ {cs : List (List Str)}, (∀ i a b, cs[i]? = some a → cs[i + 1]? = some b → ltS a b = true) → cs.Pairwise fun a b => ltS a b = true
  | [], _ => .nil
  | [x], _ => .cons (fun y h => nomatch h) .nil
  | x :: y :: cs, h => by
    have ih := lt_chain (cs := y :: cs) fun i a b ha hb => h (i + 1) a b ha hb
    have xy := h 0 x y rfl rfl
    refine .cons (fun z hz => ?_) ih
    rcases List.mem_cons.mp hz with e | hz
    · rw [e]; exact xy
    · exact lt_tr xy ((List.pairwise_cons.mp ih).1 z hz)
theorem GoodH.nodup {ks : List Str} {cs : List (List Str)} (g : GoodH ks cs) : cs.Nodup := (lt_chain g.lt).imp fun {a b} h e => by
  rw [e] at h
  unfold ltS at h
  rw [lt_irr] at h
  cases h
theorem okNs_of {ks : List Str} (h1 : 1 ≤ ks.length) (h6 : ks.length ≤ 6) (ok : ∀ k ∈ ks, okN k = true) (nd : ks.Nodup) : okNs ks = true := by
  unfold okNs
  simp only [Bool.and_eq_true, decide_eq_true_eq, List.all_eq_true]
  exact ⟨⟨⟨h1, h6⟩, ok⟩, nd⟩
theorem okNs_at {ks : List Str} (h : okNs ks = true) : (∀ k ∈ ks, okN k = true) ∧ ks.Nodup := by
  unfold okNs at h
  simp only [Bool.and_eq_true, decide_eq_true_eq, List.all_eq_true] at h
  exact ⟨h.1.2, h.2⟩
theorem nodup_map_on {α : Type} {f : α → Str} {l : List α} (nd : l.Nodup) (h : ∀ a ∈ l, ∀ b ∈ l, f a = f b → a = b) : (l.map f).Nodup := List.pairwise_map.mpr (List.Pairwise.imp_of_mem (fun {a b} ha hb n e => n (h a ha b hb e)) nd)
theorem goodH_ren {ks : List Str} {cs : List (List Str)} {f : Str → Str} (g : GoodH ks cs) (hf : ∀ a ∈ ks, ∀ b ∈ ks, f a = f b → a = b) (ok : ∀ k ∈ ks, okN (f k) = true) : GoodH (ks.map f) (sortS (cs.map fun c => c.map f)) := by
  obtain ⟨_, nk⟩ := okNs_at g.names
  have hl := okNs_len g.names
  refine goodH_sorted (okNs_of (by rw [List.length_map]; exact hl.1) (by rw [List.length_map]; exact hl.2) (fun k hk => ?_) (nodup_map_on nk hf)) ?_ (by rw [List.length_map]; exact g.n1) (by rw [List.length_map]; exact g.n8) (fun c hc => ?_) (fun k hk => ?_)
  · obtain ⟨j, hj, rfl⟩ := List.mem_map.mp hk
    exact ok j hj
  · refine List.pairwise_map.mpr (List.Pairwise.imp_of_mem (fun {a b} ha hb n e => ?_) g.nodup)
    exact n (map_inj_on (p := (· ∈ ks)) (fun x y hx hy => hf x hx y hy) (g.in_ ha) (g.in_ hb) e)
  · obtain ⟨d, hd, rfl⟩ := List.mem_map.mp hc
    have pt := g.part d hd
    refine ⟨?_, fun e => pt.2 (List.map_eq_nil_iff.mp e)⟩
    rw [part_map fun a ha b hb e => hf a ha b (g.in_ hd b hb) e, pt.1]
  · obtain ⟨j, hj, rfl⟩ := List.mem_map.mp hk
    obtain ⟨c, hc, hjc⟩ := g.cov j hj
    exact ⟨c.map f, List.mem_map.mpr ⟨c, hc, rfl⟩, List.mem_map.mpr ⟨j, hjc, rfl⟩⟩
/-- the house of some of the calls -/
theorem goodH_part {ks : List Str} {cs c2 : List (List Str)} (g : GoodH ks cs) (nd : c2.Nodup) (ne : c2 ≠ []) (sub : ∀ c ∈ c2, c ∈ cs) (so : c2.Pairwise fun a b => leG dS a b = true) : GoodH (ks.filter fun k => c2.any fun c => decide (k ∈ c)) c2 := by
  obtain ⟨ok, nk⟩ := okNs_at g.names
  have hl := okNs_len g.names
  have e2 : sortG dS c2 = c2 := sorted_uniq dS dS_apart (sortG_perm dS c2) (sortG_pw dS c2) so
  have fl := List.length_filter_le (fun k => c2.any fun c => decide (k ∈ c)) ks
  obtain ⟨c0, h0⟩ := List.exists_mem_of_ne_nil c2 ne
  have inF : ∀ c ∈ c2, ∀ k ∈ c, k ∈ ks.filter fun k => c2.any fun c => decide (k ∈ c) := fun c hc k hk => List.mem_filter.mpr ⟨g.in_ (sub c hc) k hk, List.any_eq_true.mpr ⟨c, hc, by simpa using hk⟩⟩
  obtain ⟨k0, hk0⟩ := List.exists_mem_of_ne_nil c0 (g.part c0 (sub c0 h0)).2
  have n1 : 1 ≤ (ks.filter fun k => c2.any fun c => decide (k ∈ c)).length := List.length_pos_of_mem (inF c0 h0 k0 hk0)
  have len8 : c2.length ≤ 8 := by
    have : c2.length ≤ cs.length := by
      have : ∀ (a b : List (List Str)), a.Nodup → (∀ x ∈ a, x ∈ b) → a.length ≤ b.length := fun a => by
        induction a with
        | nil => exact fun _ _ _ => Nat.zero_le _
        | cons x a ih =>
          intro b nd h
          have n1 := List.nodup_cons.mp nd
          have hx := h x List.mem_cons_self
          have := ih (b.erase x) n1.2 fun y hy => (List.mem_erase_of_ne (fun e => n1.1 (by rw [← e]; exact hy))).mpr (h y (List.mem_cons_of_mem _ hy))
          rw [List.length_erase_of_mem hx] at this
          have hb := List.length_pos_of_mem hx
          rw [List.length_cons]
          omega
      exact this c2 cs nd sub
    have := g.n8
    omega
  rw [← e2]
  conv => enter [1]; rw [e2]
  refine goodH_sorted (okNs_of n1 (by omega) (fun k hk => ok k (List.mem_filter.mp hk).1) (nk.filter _)) nd (List.length_pos_of_mem h0) len8 (fun c hc => ⟨?_, (g.part c (sub c hc)).2⟩) (fun k hk => ?_)
  · rw [List.filter_filter]
    refine Eq.trans (List.filter_congr fun k hk => ?_) (g.part c (sub c hc)).1
    by_cases q : k ∈ c
    · have : (c2.any fun c => decide (k ∈ c)) = true := List.any_eq_true.mpr ⟨c, hc, by simpa using q⟩
      rw [this]
      simp [q]
    · simp [q]
  · obtain ⟨c, hc, hkc⟩ := List.any_eq_true.mp (List.mem_filter.mp hk).2
    exact ⟨c, hc, by simpa using hkc⟩
end C9
/-! ## F23 -/
set_option maxHeartbeats 4000000
namespace C9
open PySem PySem.Spec PyProof.Rows L2 C8
def callN1 : Row → Option (List Str)
  | .call c => some c
  | _ => none
def callN (rs : List Row) : List (List Str) := rs.filterMap callN1
theorem call_name {K : PySem.W.Frag} {H : Hp} {x : Row} {v : V} {Qe : VK} {Qs : Hp → Prop} (t : Tp H v (dR x)) (ke : ∀ c u, callN1 x = some c → Tp H u (dS c) → Qe u H) (ks : callN1 x = none → Qs H) :
    rIxT K v (.int 0) H fun y H1 => scal y (.str "call") = true ∧ if y = V.str "call" then rIxT K v (.int 1) H1 Qe else Qs H1 := by
  cases x with
  | put n k =>
    obtain ⟨a, w1, w2, w3, rfl, e, h1, h2, h3⟩ := t.three
    cases h1
    refine ix_t e (atI_0 _ _) ⟨rfl, ?_⟩
    rw [if_neg (by decide)]
    exact ks rfl
  | drop n =>
    obtain ⟨a, w1, w2, rfl, e, h1, h2⟩ := t.two
    cases h1
    refine ix_t e (atI_0 _ _) ⟨rfl, ?_⟩
    rw [if_neg (by decide)]
    exact ks rfl
  | call c =>
    obtain ⟨a, w1, w2, rfl, e, h1, h2⟩ := t.two
    cases h1
    refine ix_t e (atI_0 _ _) ⟨rfl, ?_⟩
    rw [if_pos rfl]
    exact ix_t e (atI_1 _ _ _) (ke c w2 rfl h2)
theorem callN_data (L : List Row) : L.filterMap (fun x => (callN1 x).map dS) = (callN L).map dS := by
  unfold callN
  rw [List.map_filterMap]
theorem callN_in {ks : List Str} {cs : List (List Str)} {L : List Row} (h : ∀ r ∈ L, okR ks cs r) : ∀ c ∈ callN L, c ∈ cs := fun c hc => by
  obtain ⟨r, hr, e⟩ := List.mem_filterMap.mp hc
  have := h r hr
  cases r with
  | put a k => cases e
  | drop a => cases e
  | call d => cases e; exact this
theorem callN_len (L : List Row) : (callN L).length ≤ L.length := List.length_filterMap_le _ _
/-- the rows that a part of the house has -/
def keepR (k2 : List Str) : Row → Bool
  | .put _ k => decide (k ∈ k2)
  | _ => true
section
variable {K : PySem.W.Frag} {mg : Str → Option Value} {P : Program} {w : World} {base : Heap}
def sp_law_is_part_right (K : PySem.W.Frag) : Sp := fun vs H Q E => ∃ x y z, vs = [x, y, z] ∧ ∃ b ks cs, ∃ rs : List Row, x = .ref b ∧ BagAt H b ∧ Tp H y (dH ks cs) ∧ GoodH ks cs ∧ Tp H z (.tuple (rs.map dR)) ∧ rs.length ≤ 30 ∧ LogW ks cs rs ∧ ∀ H', Same H H' → Q (.bl true) H'
theorem sc_law_is_part_right : FnScope ["_law_bag_here", "_law_house_here", "_law_log_here", "_law_calls", "_law_part", "_law_rows", "_law_row"] ["_law_bag_here", "_law_house_here", "_law_log_here"] (defScope s_law_is_part_right) := ⟨rfl, rfl, rfl, by decide +kernel, rfl, by decide +kernel, by decide +kernel⟩
theorem g_law_is_part_right (T : Txt K mg) : CalG P w K mg base 8 "_law_is_part_right" (sp_law_is_part_right K) := by
  refine T.calG 54 48 rfl rfl sc_law_is_part_right
    (fun _ _ _ _ _ _ us h => match us, h with | [_, _, _], _ => rfl)
    (fun vs H Q E h => by obtain ⟨_, _, _, rfl, _⟩ := h; rfl) (fun f cdv A outer s H vs Q E hG hr h => ?_)
  have nd := sc_law_is_part_right.nd
  refine ⟨_, (pss_cons (ps_set (i := 3) nd rfl (.inl rfl) (pe_callTy (k_tuple K) (by rfl) (T.free 55) rfl (pa_cons (k_sortSet K (pe_sortSet hr (by rfl) (T.free 58) (by rfl) (T.free 54) (pe_op op_cat (pe_lc rfl nd (k_piT K (pi_tup (pv 2))) (blkOk_by (own := [("_law_row", 6)]) (by rfl)) (fun _ _ _ _ _ => (pg_name (i := 6) nd rfl (by first | exact .inl rfl | exact .inr rfl))) (fun _ _ _ _ _ => (pts_one (pt_cmpR op_eq (pe_ix (k_ixT K) (pv 6) pe_int (fun _ _ => rfl)) pe_str rfl))) (fun _ _ _ _ _ => (pe_ix (k_ixT K) (pv 6) pe_int (fun _ _ => rfl)))) (pe_lst (pa_cons (pe_c (c_law_one T) hr (by decide) (by rfl) (pa_cons (pv 0) (pa_cons (pe_ix (k_ixT K) (pv 1) pe_int (fun _ _ => rfl)) pa_nil))) pa_nil))) rfl)) pa_nil)))
     (pss_cons (ps_set (i := 4) nd rfl (.inr rfl) (pe_c (c_part_of T) hr (by decide) (by rfl) (pa_cons (pv 1) (pa_cons (pv 3) pa_nil))))
     (pss_cons (ps_set (i := 5) nd rfl (.inl rfl) (pe_callTy (k_tuple K) (by rfl) (T.free 55) rfl (pa_cons (pe_lc rfl nd (k_piT K (pi_tup (pv 2))) (blkOk_by (own := [("_law_row", 6)]) (by rfl)) (fun _ _ _ _ _ => (pg_name (i := 6) nd rfl (by first | exact .inl rfl | exact .inr rfl))) (fun _ _ _ _ _ => (pts_one (PW.pt (pw_or (pt_cmpR op_ne (pe_ix (k_ixT K) (pv 6) pe_int (fun _ _ => rfl)) pe_str rfl) (pw_or1 (pt_cmpR (k_inA K (α := Str) hr (by decide)) (pe_ix (k_ixT K) (pv 6) pe_int (fun _ _ => rfl)) (pe_ix (k_ixT K) (pv 4) pe_int (fun _ _ => rfl)) rfl)))))) (fun _ _ _ _ _ => (pv 6))) pa_nil)))
     (pss_one (ps_ret (pe_g (g_law_alike T) hG hr (by decide) (by rfl) (pa_cons (pe_c (c_told_by T) hr (by decide) (by rfl) (pa_cons (pv 4) (pa_cons (pv 5) pa_nil))) (pa_cons (pe_c (c_told_by T) hr (by decide) (by rfl) (pa_cons (pv 1) (pa_cons (pv 5) pa_nil))) pa_nil)))))))), ?_⟩
  obtain ⟨v0, v1, v2, rfl, h⟩ := h
  rw [show L2.start ["_law_bag_here", "_law_house_here", "_law_log_here", "_law_calls", "_law_part", "_law_rows", "_law_row"] [v0, v1, v2] = [some v0, some v1, some v2, none, none, none, none] from rfl]
  obtain ⟨b, ks, cs, rs, rfl, hb, hy, g, hz, hl, lw, q⟩ := h
  obtain ⟨a, v1, v2, rfl, ea, h1, h2⟩ := hy.two
  obtain ⟨b1, rfl, eb1⟩ := h1.strs_at
  obtain ⟨b2, ys2, rfl, eb2, t2⟩ := h2.tup_at
  obtain ⟨l, ys, rfl, el, tl⟩ := hz.tup_at
  have hys := tl.len
  have hcl := callN_len rs
  have hin := callN_in lw.1
  have y2l := t2.len
  simp only [tBM, SlX.tMethSl, tSeq, tIfS, tOr, tAnd, tNot, tB, tCB, tCons, tNil, tVar, tC, tTest, tChain, tRet, tRetN, tNext, tOp, tAndV, tOrV, tNotV, tIf, tThen, tYes, tTup, tLst, tCall, tAsg, tDrop, tDNewK, gName, gTup, gCons, gNil, rI0, rI, CMul, CDiv, tUn, rU, rEq, rNe, scal, LenV, RetB, RetD, List.set_cons_zero, List.set_cons_succ, List.getElem?_cons_zero, List.getElem?_cons_succ, Option.some.injEq, exists_eq_left', exists_eq_left, List.cons.injEq, and_true, true_and, V.int.injEq, V.str.injEq, V.bl.injEq, V.ref.injEq, if_true, if_false, Bool.not_true, Bool.not_false, reduceCtorEq, decide_true, decide_false, Bool.false_eq_true, exists_and_left, Bool.not_eq_true', decide_eq_true_eq, decide_eq_false_iff_not, rLenK, tLenSetT, List.append_nil, and_assoc, or_false, false_or, exists_false, false_and, and_false, rGetL, rSetL, gSub, tAugS, ipI, tPart, tNoPart, not_true, not_false_iff, ite_true, ite_false, List.map_cons, List.map_nil, sp_law_alike, sp_law_one, sp_part_of, sp_told_by, tSortSet]
  refine ⟨_, rfl, l, rfl, ⟨_, .of el⟩, fun D hD => lc_rel (walk_tup (xs := ys)) hD (lt1 (by omega)) (RlF (fun x => (callN1 x).map dS) rs) RlF.zero (fun H s => .of (s _ _ el)) ?_ ?_⟩
  · rintro i ds x Ha Hb Qe Qs hi sm rl ⟨rfl, hx⟩ ke ks'
    obtain ⟨x1, hx1, tx1⟩ := tl.nth hx
    refine ⟨rfl, ?_⟩
    simp only [tBM, SlX.tMethSl, tSeq, tIfS, tOr, tAnd, tNot, tB, tCB, tCons, tNil, tVar, tC, tTest, tChain, tRet, tRetN, tNext, tOp, tAndV, tOrV, tNotV, tIf, tThen, tYes, tTup, tLst, tCall, tAsg, tDrop, tDNewK, gName, gTup, gCons, gNil, rI0, rI, CMul, CDiv, tUn, rU, rEq, rNe, scal, LenV, RetB, RetD, List.set_cons_zero, List.set_cons_succ, List.getElem?_cons_zero, List.getElem?_cons_succ, Option.some.injEq, exists_eq_left', exists_eq_left, List.cons.injEq, and_true, true_and, V.int.injEq, V.str.injEq, V.bl.injEq, V.ref.injEq, if_true, if_false, Bool.not_true, Bool.not_false, reduceCtorEq, decide_true, decide_false, Bool.false_eq_true, exists_and_left, Bool.not_eq_true', decide_eq_true_eq, decide_eq_false_iff_not, rLenK, tLenSetT, List.append_nil, and_assoc, or_false, false_or, exists_false, false_and, and_false, rGetL, rSetL, gSub, tAugS, ipI, tPart, tNoPart, not_true, not_false_iff, ite_true, ite_false, List.map_cons, List.map_nil, sp_law_alike, sp_law_one, sp_part_of, sp_told_by, wipe]
    exact call_name (tx1.same sm) (fun c u hn tu => ke _ _ _ (.refl _) tu (rl.put hx1 (by rw [hn]; rfl))) (fun hn => ks' _ (.refl _) (rl.skip hx1 (by rw [hn]; rfl)))
  rintro H3 acc ds s3 e3 r3 rl _
  rw [rl.all (by omega), callN_data] at r3
  refine ix_t (s3 _ _ ea) (atI_1 _ _ _) ⟨b2, rfl, hb.same s3, ys2, .inr (.of (s3 _ _ eb2)), ?_, by have := g.n8; omega, fun v H4 hv s4 => ⟨by show 1 ≤ _; decide, fun p5 h5 => ?_⟩⟩
  · intro e
    have := g.n1
    rw [e] at y2l
    rw [← y2l] at this
    exact absurd this (by decide)
  obtain ⟨c1, hc1, tv⟩ := t2.mem hv
  have s5 := sm_new (o := .lst [v]) h5
  have racl := r3.len
  refine ⟨D, p5, _, _, rfl, rfl, s5 _ _ (s4 _ _ e3), upd_same, Nat.le_trans (by show _ + 1 ≤ 1000; omega) (by decide), fun p6 h6 => ?_⟩
  have s6 := sm_new (o := .lst (acc ++ [v])) h6
  have s36 := s3.trans (s4.trans (s5.trans s6))
  have t6 : TpAll (upd (upd H4 p5 (.lst [v])) p6 (.lst (acc ++ [v]))) (acc ++ [v]) ((callN rs ++ [c1]).map dS) := by
    rw [List.map_append]
    exact (TpAll.same (s4.trans (s5.trans s6)) r3).snoc (tv.same s36)
  have e6 : upd (upd H4 p5 (.lst [v])) p6 (.lst (acc ++ [v])) p6 = some (.lst (acc ++ [v])) := upd_same
  generalize upd (upd H4 p5 (.lst [v])) p6 (.lst (acc ++ [v])) = H6 at s36 t6 e6
  have cin : ∀ c ∈ callN rs ++ [c1], c ∈ cs := fun c hc => by
    rcases List.mem_append.mp hc with h | h
    · exact hin c h
    · rw [List.mem_singleton.mp h]; exact hc1
  refine ⟨p6, rfl, _, .of e6, callN rs ++ [c1], t6, by rw [List.length_append]; show _ + 1 < 64; omega, al_dCs _, fun ds hds => ⟨al_dCs _, so_dCs fun c hc => (g.part c (cin c (hds c hc))).2, dp_dCs⟩, fun p7 ys7 c2 H7 s7 h7 e7 t7 nd7 mem7 pw7 => ?_⟩
  have c2in : ∀ c ∈ c2, c ∈ cs := fun c hc => cin c ((mem7 c).mp hc)
  have c2ne : c2 ≠ [] := fun e => by
    have := (mem7 c1).mpr (by simp)
    rw [e] at this
    exact nomatch this
  have g2 := goodH_part g nd7 c2ne c2in pw7
  have hk6 := (okNs_len g.names).2
  refine tuple_of e7 t7 fun v8 H8 s8 t8 => ?_
  have s38 := s36.trans (s7.trans s8)
  refine ⟨ks, cs, hy.same s38, c2, t8, by omega, by have := g2.n8; omega, fun v9 H9 s9 t9 => ?_⟩
  have s39 := s38.trans s9
  obtain ⟨a9, w1, w2, rfl, ea9, u1, u2⟩ := t9.two
  obtain ⟨b9, rfl, eb9⟩ := u1.strs_at
  have el9 := s39 _ _ el
  have tl9 := TpAll.same s39 tl
  generalize hk2 : (ks.filter fun k => c2.any fun c => decide (k ∈ c)) = k2 at t9 u1 eb9 g2
  refine ⟨_, rfl, l, rfl, ⟨_, .of el9⟩, fun D2 hD2 => lc_rel (walk_tup (xs := ys)) hD2 (lt1 (by omega)) (RlF (fun x => if keepR k2 x = true then some (dR x) else none) rs) RlF.zero (fun H s => .of (s _ _ el9)) ?_ ?_⟩
  · rintro i ds x Ha Hb Qe Qs hi sm rl ⟨rfl, hx⟩ ke ks'
    obtain ⟨x1, hx1, tx1⟩ := tl9.nth hx
    have tx := tx1.same sm
    refine ⟨rfl, ?_⟩
    simp only [tBM, SlX.tMethSl, tSeq, tIfS, tOr, tAnd, tNot, tB, tCB, tCons, tNil, tVar, tC, tTest, tChain, tRet, tRetN, tNext, tOp, tAndV, tOrV, tNotV, tIf, tThen, tYes, tTup, tLst, tCall, tAsg, tDrop, tDNewK, gName, gTup, gCons, gNil, rI0, rI, CMul, CDiv, tUn, rU, rEq, rNe, scal, LenV, RetB, RetD, List.set_cons_zero, List.set_cons_succ, List.getElem?_cons_zero, List.getElem?_cons_succ, Option.some.injEq, exists_eq_left', exists_eq_left, List.cons.injEq, and_true, true_and, V.int.injEq, V.str.injEq, V.bl.injEq, V.ref.injEq, if_true, if_false, Bool.not_true, Bool.not_false, reduceCtorEq, decide_true, decide_false, Bool.false_eq_true, exists_and_left, Bool.not_eq_true', decide_eq_true_eq, decide_eq_false_iff_not, rLenK, tLenSetT, List.append_nil, and_assoc, or_false, false_or, exists_false, false_and, and_false, rGetL, rSetL, gSub, tAugS, ipI, tPart, tNoPart, not_true, not_false_iff, ite_true, ite_false, List.map_cons, List.map_nil, sp_law_alike, sp_law_one, sp_part_of, sp_told_by, wipe]
    cases x1 with
    | put n k =>
      obtain ⟨c1, w1, w2, w3, rfl, e, u1, u2, u3⟩ := tx.three
      cases u1; cases u2; cases u3
      refine ix_t e (atI_0 _ _) ⟨rfl, ?_⟩
      rw [if_neg fun h => h rfl]
      refine ix_t e (atI_2 _ _ _ _) (ix_t (sm _ _ ea9) (atI_0 _ _) ⟨k, k2, b9, _, .str k, rfl, .inr (.of (sm _ _ eb9)), TpAll.dp (TpAll.strs.mpr rfl), _, rfl, ?_⟩)
      by_cases hk : k ∈ k2
      · rw [if_pos (decide_eq_true hk)]
        exact ke _ _ _ (.refl _) tx (rl.put hx1 (if_pos (decide_eq_true hk)))
      · rw [if_neg (by rw [decide_eq_false hk]; decide)]
        exact ks' _ (.refl _) (rl.skip hx1 (if_neg (by show ¬ decide (k ∈ k2) = true; rw [decide_eq_false hk]; decide)))
    | drop n =>
      obtain ⟨c1, w1, w2, rfl, e, u1, u2⟩ := tx.two
      cases u1
      refine ix_t e (atI_0 _ _) ⟨rfl, ?_⟩
      rw [if_pos (by decide)]
      exact ke _ _ _ (.refl _) tx (rl.put hx1 (if_pos rfl))
    | call c =>
      obtain ⟨c1, w1, w2, rfl, e, u1, u2⟩ := tx.two
      cases u1
      refine ix_t e (atI_0 _ _) ⟨rfl, ?_⟩
      rw [if_pos (by decide)]
      exact ke _ _ _ (.refl _) tx (rl.put hx1 (if_pos rfl))
  rintro H10 acc2 ds10 s10 e10 r10 rl10 _
  rw [rl10.all (by omega), filter_ite] at r10
  simp only [Bool.decide_eq_true] at r10
  refine tuple_of e10 r10 fun v11 H11 s11 t11 => ?_
  have fl := List.length_filter_le (keepR k2) rs
  have s1011 := s10.trans s11
  have lw1 : LogW ks cs (rs.filter (keepR k2)) := ⟨fun r hr => lw.1 r (List.mem_filter.mp hr).1, (putN_sub List.filter_sublist).nodup lw.2⟩
  have lw2 : LogW k2 c2 (rs.filter (keepR k2)) := ⟨fun r hr => by
    obtain ⟨hm, hk⟩ := List.mem_filter.mp hr
    have := lw.1 r hm
    cases r with
    | put n k => exact ⟨this.1, of_decide_eq_true hk⟩
    | drop n => exact this
    | call c => exact (mem7 c).mpr (List.mem_append_left _ (List.mem_filterMap.mpr ⟨_, hm, rfl⟩)), lw1.2⟩
  refine ⟨k2, c2, t9.same s1011, g2, rs.filter (keepR k2), t11, lw2.rows g2, by omega, fun D12 o12 H12 s12 e12 => ?_⟩
  refine ⟨ks, cs, hy.same (s39.trans (s1011.trans s12)), g, rs.filter (keepR k2), t11.same s12, lw1.rows g, by omega, fun D13 o13 H13 s13 e13 => ?_⟩
  exact ⟨_, .one (.dic (s13 _ _ e12) (told_dic _)), .one (.dic e13 (told_dic _)), (told_all lw1 (by omega)).mono (by omega), q _ (s39.trans (s1011.trans (s12.trans s13)))⟩
end
end C9
/-! ## P2 -/
set_option maxHeartbeats 4000000
namespace C9
open PySem PySem.Spec PyProof.Rows L2
open PySem.W (dataLt keyToks keyToksAll AllAlike Sortable alike alikeAll)
/-! ### the plain law: acts with other names -/
def mapD (f : Str → Str) : Deed → Deed
  | .put k => .put (f k)
  | .call c => .call (c.map f)
section
variable {ks : List Str} {f : Str → Str} {a b : Str → Int}
theorem takenK_map (e : ∀ k ∈ ks, b (f k) = a k) {c : List Str} (hc : ∀ k ∈ c, k ∈ ks) : takenK b (.call (c.map f)) = (takenK a (.call c)).map f := by
  show (c.map f).find? (fun k => decide (0 < b k)) = (c.find? fun k => decide (0 < a k)).map f
  rw [List.find?_map]
  refine congrArg _ ?_
  induction c with
  | nil => rfl
  | cons k c ih =>
    have q : ((fun k => decide (0 < b k)) ∘ f) k = decide (0 < a k) := by
      show decide (0 < b (f k)) = _
      rw [e k (hc k List.mem_cons_self)]
    rw [List.find?_cons, List.find?_cons, q, ih fun j m => hc j (List.mem_cons_of_mem _ m)]
theorem doD_map (hf : ∀ x ∈ ks, ∀ y ∈ ks, f x = f y → x = y) (e : ∀ k ∈ ks, b (f k) = a k) {d : Deed} (hd : deedIn ks d) : ∀ k ∈ ks, doD b (mapD f d) (f k) = doD a d k := by
  intro k hk
  have one : ∀ {j : Str} (u v : Int), j ∈ ks → u = v → (if f k = f j then u else b (f k)) = if k = j then v else a k := fun {j} u v hj h => by
    by_cases q : k = j
    · rw [if_pos (congrArg f q), if_pos q, h]
    · rw [if_neg fun z => q (hf k hk j hj z), if_neg q, e k hk]
  cases d with
  | put j => exact one _ _ hd (by rw [e j hd])
  | call c =>
    have t := takenK_map e hd.2
    show (match takenK b (.call (c.map f)) with
      | none => b
      | some k => fun j => if j = k then b k - 1 else b j) (f k) = (match takenK a (.call c) with
      | none => a
      | some k => fun j => if j = k then a k - 1 else a j) k
    rw [t]
    cases q : takenK a (.call c) with
    | none => exact e k hk
    | some j =>
      have hj : j ∈ ks := hd.2 j (List.mem_of_find?_eq_some q)
      exact one _ _ hj (by rw [e j hj])
theorem actK_map (hf : ∀ x ∈ ks, ∀ y ∈ ks, f x = f y → x = y) : ∀ {ds : List Deed} {a b : Str → Int}, (∀ k ∈ ks, b (f k) = a k) → (∀ d ∈ ds, deedIn ks d) → ∀ k ∈ ks, actK b (ds.map (mapD f)) (f k) = actK a ds k
  | [], _, _, e, _, k, hk => e k hk
  | d :: ds, a, b, e, hd, k, hk => actK_map hf (ds := ds) (a := doD a d) (b := doD b (mapD f d)) (doD_map hf e (hd d List.mem_cons_self)) (fun x m => hd x (List.mem_cons_of_mem _ m)) k hk
theorem deedIn_map {d : Deed} (h : deedIn ks d) : deedIn (ks.map f) (mapD f d) := by
  cases d with
  | put k => exact List.mem_map.mpr ⟨k, h, rfl⟩
  | call c =>
    refine ⟨by rw [List.length_map]; exact h.1, fun z hz => ?_⟩
    obtain ⟨k, hk, rfl⟩ := List.mem_map.mp hz
    exact List.mem_map.mpr ⟨k, h.2 k hk, rfl⟩
end
/-! ### how great they get -/
theorem doD_bd {a : Str → Int} {n : Nat} (h : ∀ k, (a k).natAbs ≤ n) (d : Deed) : ∀ k, (doD a d k).natAbs ≤ n + 1 := by
  intro k
  have hk := h k
  cases d with
  | put j =>
    have hj := h j
    show (if k = j then a j + 1 else a k).natAbs ≤ _
    split <;> omega
  | call c =>
    show ((match takenK a (.call c) with
      | none => a
      | some k => fun j => if j = k then a k - 1 else a j) k).natAbs ≤ _
    cases takenK a (.call c) with
    | none =>
      show (a k).natAbs ≤ _
      omega
    | some j =>
      have hj := h j
      show (if k = j then a j - 1 else a k).natAbs ≤ _
      split <;> omega
theorem actK_bd : ∀ {ds : List Deed} {a : Str → Int} {n : Nat}, (∀ k, (a k).natAbs ≤ n) → ∀ k, (actK a ds k).natAbs ≤ n + ds.length
  | [], _, _, h, k => h k
  | d :: ds, a, n, h, k => by
    have := actK_bd (ds := ds) (doD_bd h d) k
    rw [List.length_cons]
    show (actK (doD a d) ds k).natAbs ≤ _
    omega
/-! ### pairs of a text and an int, sorted -/
theorem si_toks (e : Str × Int) : keyToks (dSI e) = [.inl 1, .inr e.1.cps.toList, .inl 1, .inl e.2, .inl 0] := by simp [keyToks, keyToksAll]
theorem si_lt {a b : Str × Int} (h : dataLt (.str a.1) (.str b.1) = true) : dataLt (dSI a) (dSI b) = true := by
  unfold dataLt at h ⊢
  rw [si_toks, si_toks]
  simp only [keyToks] at h
  have ne : (Sum.inr a.1.cps.toList : Int ⊕ List Nat) ≠ .inr b.1.cps.toList := fun e => by
    rw [e, PyProof.Rows.lex_irrefl (O := itemOrd)] at h
    cases h
  exact (PySem.W.lex_pre [.inl 1] (.inr a.1.cps.toList :: _) (.inr b.1.cps.toList :: _)).trans ((PySem.W.lex_atom ne _ _).trans h)
theorem si_le {a b : Str × Int} (h : leG dSI a b = true) : leG PyData.str a.1 b.1 = true := by
  unfold leG at h ⊢
  cases q : dataLt (.str b.1) (.str a.1) with
  | false => rfl
  | true =>
    rw [si_lt q] at h
    cases h
theorem si_alike (es : List (Str × Int)) : AllAlike (es.map dSI) := AllAlike.of fun a b => by simp [alike, alikeAll]
theorem si_so (es : List (Str × Int)) : Sortable (es.map dSI) := .inl fun d hd => by
  obtain ⟨c, hc, rfl⟩ := List.mem_map.mp hd
  exact ⟨_, _, rfl⟩
theorem si_dp (es : List (Str × Int)) : ∀ d ∈ es.map dSI, d.depth ≤ 40 := fun d hd => by
  obtain ⟨c, hc, rfl⟩ := List.mem_map.mp hd
  simp [PyData.depth, PyData.depthAll]
/-- the pairs of different texts, sorted: by their texts -/
theorem si_sorted {es : List (Str × Int)} {ls : List Str} {v : Str → Int} (nd : ls.Nodup) (h : es.Perm (ls.map fun k => (k, v k))) : (sortG dSI es).map kvSI = dF (sortK ls) v := by
  have p1 := (sortG_perm dSI es).trans h
  have ek : (ls.map fun k => (k, v k)).map (·.1) = ls := by
    rw [List.map_map]
    exact List.map_id ls
  have p2 : ((sortG dSI es).map (·.1)).Perm ls := by
    have := p1.map (·.1)
    rwa [ek] at this
  have pw : ((sortG dSI es).map (·.1)).Pairwise fun a b => leG PyData.str a b = true := List.pairwise_map.mpr ((sortG_pw dSI es).imp si_le)
  have eq : (sortG dSI es).map (·.1) = sortK ls := sorted_uniq PyData.str str_apart (p2.trans (sortG_perm PyData.str ls).symm) pw (sortG_pw PyData.str ls)
  have ndk : ((sortG dSI es).map (·.1)).Nodup := p2.nodup_iff.mpr nd
  rw [dF_of ndk, eq]
  unfold dF dV
  refine List.map_congr_left fun k hk => ?_
  rw [← eq] at hk
  obtain ⟨e, he, rfl⟩ := List.mem_map.mp hk
  show (Sum.inr e.1, V.int (atF (sortG dSI es) e.1)) = (Sum.inr e.1, V.int (v e.1))
  rw [atF_mem ndk he]
  obtain ⟨k, _, rfl⟩ := List.mem_map.mp (p1.mem_iff.mp he)
  rfl
theorem sortK_perm {a b : List Str} (p : a.Perm b) : sortK a = sortK b := sorted_uniq PyData.str str_apart (((sortG_perm PyData.str a).trans p).trans (sortG_perm PyData.str b).symm) (sortG_pw PyData.str a) (sortG_pw PyData.str b)
theorem dF_congr {ks : List Str} {f g : Str → Int} (h : ∀ k ∈ ks, f k = g k) : dF ks f = dF ks g := by
  unfold dF dV
  refine List.map_congr_left fun k hk => ?_
  exact congrArg (fun v => ((Sum.inr k : Key), V.int v)) (h k hk)
/-- int dicts as data -/
def dFP (ks : List Str) (f : Str → Int) : List (PyData × PyData) := ks.map fun k => (.str k, .int (f k))
theorem dF_dic (f : Str → Int) : ∀ ks : List Str, DicL (dF ks f) (dFP ks f)
  | [] => .nil
  | k :: ks => .cons ⟨rfl, .int (f k)⟩ (dF_dic f ks)
theorem dF_sm {ks : List Str} {f : Str → Int} (ok : ∀ k ∈ ks, okN k = true) (hl : ks.length ≤ 6) (hb : ∀ k, (f k).natAbs < 1000000000) : Sm (.dict (dFP ks f)) 84 := by
  refine Sm.dict (n := 6) (fun p hp => ?_) (by unfold dFP; rw [List.length_map]; omega)
  obtain ⟨k, hk, rfl⟩ := List.mem_map.mp hp
  exact ⟨sm_name (ok k hk), (Sm.int (hb k)).mono (by omega)⟩
/-! ### dicts of names -/
def lkS (ks zs : List Str) (k : Str) : Option Str := ((ks.zip zs).find? fun p => decide (p.1 = k)).map (·.2)
/-- the other name of k: its own where it has none -/
def nmS (ks zs : List Str) (k : Str) : Str := (lkS ks zs k).getD k
theorem lkS_at : ∀ {ks zs : List Str} {i : Nat} {k z : Str}, ks.Nodup → ks[i]? = some k → zs[i]? = some z → lkS ks zs k = some z
  | [], _, _, _, _, _, h, _ => by simp at h
  | _ :: _, [], _, _, _, _, _, h => by simp at h
  | a :: ks, b :: zs, 0, k, z, _, h1, h2 => by
    cases h1
    cases h2
    unfold lkS
    rw [List.zip_cons_cons, List.find?_cons, decide_eq_true rfl]
    rfl
  | a :: ks, b :: zs, i + 1, k, z, nd, h1, h2 => by
    have n1 := List.nodup_cons.mp nd
    have ne : a ≠ k := fun e => n1.1 (by rw [e]; exact List.mem_of_getElem? (i := i) h1)
    have ih := lkS_at (ks := ks) (zs := zs) (i := i) n1.2 h1 h2
    unfold lkS at ih ⊢
    rw [List.zip_cons_cons, List.find?_cons, decide_eq_false ne]
    exact ih
theorem lkS_free {ks zs : List Str} {k : Str} (h : k ∉ ks) : lkS ks zs k = none := by
  unfold lkS
  rw [Option.map_eq_none_iff, List.find?_eq_none]
  intro p hp e
  have e' : p.1 = k := by simpa using e
  exact h (e' ▸ (List.of_mem_zip (show (p.1, p.2) ∈ ks.zip zs from hp)).1)
theorem lkS_mem {ks zs : List Str} (nd : ks.Nodup) (hl : ks.length ≤ zs.length) {k : Str} (h : k ∈ ks) : ∃ (i : Nat) (z : Str), ks[i]? = some k ∧ zs[i]? = some z ∧ lkS ks zs k = some z := by
  obtain ⟨i, hi⟩ := List.mem_iff_getElem?.mp h
  have lt := (List.getElem?_eq_some_iff.mp hi).1
  have hz : zs[i]? = some zs[i] := List.getElem?_eq_getElem (by omega)
  exact ⟨i, _, hi, hz, lkS_at nd hi hz⟩
theorem nmS_in {ks zs : List Str} (nd : ks.Nodup) (hl : ks.length ≤ zs.length) {k : Str} (h : k ∈ ks) : nmS ks zs k ∈ zs := by
  obtain ⟨i, z, _, hz, e⟩ := lkS_mem nd hl h
  unfold nmS
  rw [e]
  exact List.mem_of_getElem? hz
theorem nmS_inj {ks zs : List Str} (nd : ks.Nodup) (nz : zs.Nodup) (hl : ks.length ≤ zs.length) : ∀ a ∈ ks, ∀ b ∈ ks, nmS ks zs a = nmS ks zs b → a = b := fun a ha b hb e => by
  obtain ⟨i, z, hi, hz, e1⟩ := lkS_mem nd hl ha
  obtain ⟨j, y, hj, hy, e2⟩ := lkS_mem nd hl hb
  unfold nmS at e
  rw [e1, e2] at e
  have e' : z = y := e
  subst e'
  have := nodup_ix nz hz hy
  subst this
  rw [hi] at hj
  exact Option.some.inj hj
/-- names among each other -/
theorem nmS_perm {ks zs : List Str} (nd : ks.Nodup) (p : zs.Perm ks) : ∀ a b, nmS ks zs a = nmS ks zs b → a = b := fun a b e => by
  have hl : ks.length ≤ zs.length := Nat.le_of_eq p.length_eq.symm
  have nz := p.nodup_iff.mpr nd
  have out : ∀ {c : Str}, c ∉ ks → nmS ks zs c = c := fun h => by unfold nmS; rw [lkS_free h]; rfl
  by_cases ha : a ∈ ks
  · by_cases hb : b ∈ ks
    · exact nmS_inj nd nz hl a ha b hb e
    · rw [out hb] at e
      exact absurd (p.mem_iff.mp (e ▸ nmS_in nd hl ha)) hb
  · by_cases hb : b ∈ ks
    · rw [out ha] at e
      exact absurd (p.mem_iff.mp (e ▸ nmS_in nd hl hb)) ha
    · rwa [out ha, out hb] at e
theorem zip_valV (k : Str) : ∀ l : List (Str × Str), valV (l.map kvSS) (.inr k) = ((l.find? fun p => decide (p.1 = k)).map (·.2)).map V.str
  | [] => rfl
  | p :: l => by
    rw [List.map_cons, List.find?_cons]
    by_cases e : p.1 = k
    · rw [valV_pos (congrArg Sum.inr e), decide_eq_true e]
      rfl
    · rw [valV_neg (fun q => e (Sum.inr.inj q)), decide_eq_false e]
      exact zip_valV k l
theorem zip_pairs {K : PySem.W.Frag} {H : Hp} : ∀ {ps : List Addr} {ks zs : List Str}, ps.length = min ks.length zs.length → PairsAt (ks.map V.str) (zs.map V.str) H ps → Paired (fun p (x : Key × V) => SqT K H p [kV x.1, x.2]) ps ((ks.zip zs).map kvSS)
  | [], [], _, _, _ => .nil
  | [], _ :: _, [], _, _ => .nil
  | [], _ :: _, _ :: _, h, _ => by simp at h
  | _ :: _, [], _, h, _ => by simp at h
  | _ :: _, _ :: _, [], h, _ => by simp at h
  | p :: ps, k :: ks, z :: zs, h, hp => by
    obtain ⟨x, y, e1, e2, e3⟩ := hp 0 p rfl
    have e1' : V.str k = x := Option.some.inj e1
    have e2' : V.str z = y := Option.some.inj e2
    subst e1'; subst e2'
    refine .cons (.of e3) (zip_pairs ?_ fun j q hq => hp (j + 1) q hq)
    simp only [List.length_cons] at h
    omega
/-- dict(list(zip(names, other names))) -/
theorem dict_zipS {K : PySem.W.Frag} {H : Hp} {l : Addr} {ps : List Addr} {ks zs : List Str} {Q : VK} (e : H l = some (.lst (ps.map V.ref))) (nd : ks.Nodup) (h : ps.length = min ks.length zs.length) (hp : PairsAt (ks.map V.str) (zs.map V.str) H ps)
    (q : ∀ p, H p = none → Q (.ref p) (upd H p (.dK ((ks.zip zs).map kvSS)))) : rDictP K [.ref l] H Q := by
  refine ⟨l, ps, (ks.zip zs).map kvSS, rfl, .of e, zip_pairs h hp, fun p hn => ?_⟩
  have ndk : (((ks.zip zs).map kvSS).map (·.1)).Nodup := by
    have : ∀ (ks zs : List Str), ks.Nodup → (((ks.zip zs).map kvSS).map (·.1)).Nodup := fun ks => by
      induction ks with
      | nil => exact fun _ _ => .nil
      | cons k ks ih =>
        intro zs nd
        cases zs with
        | nil => exact .nil
        | cons z zs =>
          have n1 := List.nodup_cons.mp nd
          refine List.nodup_cons.mpr ⟨fun m => ?_, ih zs n1.2⟩
          obtain ⟨x, hx, ex⟩ := List.mem_map.mp m
          obtain ⟨y, hy, rfl⟩ := List.mem_map.mp hx
          have e' : y.1 = k := Sum.inr.inj ex
          exact n1.1 (e' ▸ (List.of_mem_zip (show (y.1, y.2) ∈ ks.zip zs from hy)).1)
    exact this ks zs nd
  rw [mergeK_new _ [] (by rw [List.nil_append]; exact ndk)]
  exact q p hn
theorem sdict_zip {H : Hp} {D : Addr} {ks zs : List Str} (e : H D = some (.dK ((ks.zip zs).map kvSS))) (nd : ks.Nodup) (hl : ks.length ≤ zs.length) : SDict H (.ref D) ks (nmS ks zs) := by
  refine ⟨D, _, rfl, .inl e, fun k hk => ?_⟩
  obtain ⟨i, z, _, _, ez⟩ := lkS_mem nd hl hk
  rw [zip_valV]
  show (lkS ks zs k).map V.str = _
  unfold nmS
  rw [ez]
  rfl
theorem ndict_zip {H : Hp} {D : Addr} {ks zs : List Str} (e : H D = some (.dK ((ks.zip zs).map kvSS))) : NDict H (.ref D) (nmS ks zs) := by
  refine ⟨D, _, rfl, .inl e, fun n => ?_⟩
  rw [zip_valV]
  show ((lkS ks zs n).map V.str).getD (.str n) = _
  unfold nmS
  cases lkS ks zs n <;> rfl
end C9
/-! ## P3 -/
set_option maxHeartbeats 4000000
namespace C9
open PySem PySem.Spec PyProof.Rows L2
/-! ### the plain law: logs with other names -/
section
variable {ks : List Str} {cs : List (List Str)} {f g : Str → Str} {rs : List Row}
theorem putN_map (rs : List Row) : putN (rs.map (mapR f g)) = (putN rs).map g := by
  unfold putN
  rw [List.filterMap_map, List.map_filterMap]
  congr 1
  funext r
  cases r <;> rfl
theorem logW_map (lw : LogW ks cs rs) (ok : ∀ n, okN n = true → okN (g n) = true) (hg : ∀ a b, g a = g b → a = b) : LogW (ks.map f) (sortS (cs.map fun c => c.map f)) (rs.map (mapR f g)) := by
  refine ⟨fun x hx => ?_, ?_⟩
  · obtain ⟨r, hr, rfl⟩ := List.mem_map.mp hx
    have := lw.1 r hr
    cases r with
    | put n k => exact ⟨ok n this.1, List.mem_map.mpr ⟨k, this.2, rfl⟩⟩
    | drop n => exact ok n this
    | call c => exact (sortG_perm _ _).mem_iff.mpr (List.mem_map.mpr ⟨c, this, rfl⟩)
  · rw [putN_map]
    exact nodup_map_on lw.2 fun a _ b _ e => hg a b e
theorem kinds_ok (lw : LogW ks cs rs) (gd : GoodH ks cs) : ∀ r ∈ rs, kindsR ks r := fun r hr => by
  have h := lw.inK gd r hr
  have ho := lw.1 r hr
  cases r with
  | put n k => exact h
  | drop n => trivial
  | call c =>
    have := part_len (gd.part c ho).1 (okNs_len gd.names).2
    exact ⟨by omega, h⟩
theorem told_map (hf : ∀ a ∈ ks, ∀ b ∈ ks, f a = f b → a = b) (hg : ∀ a b, g a = g b → a = b) (hr : ∀ r ∈ rs, inK ks r) : told (rs.map (mapR f g)) = (told rs).map fun p => (p.1, p.2.map g) :=
  toldAt_map hf hg (ths := []) 0 (fun t h => nomatch h) hr
theorem told_kinds (hf : ∀ a ∈ ks, ∀ b ∈ ks, f a = f b → a = b) (hr : ∀ r ∈ rs, inK ks r) : told (rs.map (mapR f id)) = told rs := by
  rw [told_map (g := id) hf (fun a b e => e) hr]
  refine (List.map_congr_left fun p _ => ?_).trans (List.map_id _)
  show (p.1, p.2.map id) = p
  rw [Option.map_id]
  rfl
theorem things_kinds (hf : ∀ a ∈ ks, ∀ b ∈ ks, f a = f b → a = b) (hr : ∀ r ∈ rs, inK ks r) : thsOf (rs.map (mapR f id)) = (thsOf rs).map (mapT f id) :=
  ths_map hf (fun a b e => e) (ths := []) (fun t h => nomatch h) hr
theorem foldT_in : ∀ {rs : List Row} {ths : List Th}, (∀ t ∈ ths, t.2 ∈ ks) → (∀ r ∈ rs, inK ks r) → ∀ t ∈ rs.foldl stT ths, t.2 ∈ ks
  | [], _, h, _ => h
  | r :: rs, ths, h, hr => foldT_in (rs := rs) (stT_in h (hr r List.mem_cons_self)) fun x m => hr x (List.mem_cons_of_mem _ m)
theorem thsOf_in (hr : ∀ r ∈ rs, inK ks r) : ∀ t ∈ thsOf rs, t.2 ∈ ks := foldT_in (fun t h => nomatch h) hr
/-- names of things are names put -/
theorem foldT_names : ∀ {rs : List Row} {ths : List Th}, ∀ t ∈ rs.foldl stT ths, t ∈ ths ∨ t.1 ∈ putN rs
  | [], _, t, h => .inl h
  | r :: rs, ths, t, h => by
    rcases foldT_names (rs := rs) t h with h | h
    · rcases mem_stT h with h | ⟨n, k, rfl, rfl⟩
      · exact .inl h
      · exact .inr (List.mem_filterMap.mpr ⟨_, List.mem_cons_self, rfl⟩)
    · obtain ⟨x, hx, ex⟩ := List.mem_filterMap.mp h
      exact .inr (List.mem_filterMap.mpr ⟨x, List.mem_cons_of_mem _ hx, ex⟩)
theorem thsOf_names {t : Th} (h : t ∈ thsOf rs) : t.1 ∈ putN rs := by
  rcases foldT_names t h with h | h
  · exact nomatch h
  · exact h
theorem thsOf_len : (thsOf rs).length ≤ rs.length := by
  have := stT_len rs []
  rw [List.length_nil, Nat.zero_add] at this
  exact this
theorem things_sm {l : List Th} (hn : ∀ t ∈ l, okN t.1 = true ∧ okN t.2 = true) (hl : l.length ≤ 1000) : Sm (.list (l.map dT)) 15000 := by
  refine Sm.list (n := 14) (fun d hd => ?_) (by rw [List.length_map]; omega)
  obtain ⟨t, ht, rfl⟩ := List.mem_map.mp hd
  obtain ⟨h1, h2⟩ := hn t ht
  refine Sm.tuple (n := 6) (fun d hd => ?_) (by show 2 * 7 ≤ 14; decide)
  rcases List.mem_cons.mp hd with e | hd
  · rw [e]; exact sm_name h1
  · rw [List.mem_singleton.mp hd]; exact sm_name h2
theorem name_str {x : Str} (n : Nat) (h : ∀ c ∈ x.cps.toList, c < 1000) (l : x.length ≤ n) : Sm (.str x) n := Sm.str h l
theorem row_sm {r : Row} (h : okR ks cs r) (gd : GoodH ks cs) : Sm (dR r) 100 := by
  obtain ⟨okk, _⟩ := okNs_at gd.names
  have w1 : Sm (.str "put") 6 := Sm.str (by decide +kernel) (by decide +kernel)
  have w2 : Sm (.str "call") 6 := Sm.str (by decide +kernel) (by decide +kernel)
  have w3 : Sm (.str "drop") 6 := Sm.str (by decide +kernel) (by decide +kernel)
  cases r with
  | put n k =>
    refine Sm.tuple (n := 6) (fun d hd => ?_) (by show 3 * 7 ≤ 100; decide)
    simp only [List.mem_cons, List.not_mem_nil, or_false] at hd
    rcases hd with rfl | rfl | rfl
    · exact w1
    · exact sm_name h.1
    · exact sm_name (okk k h.2)
  | drop n =>
    refine Sm.tuple (n := 6) (fun d hd => ?_) (by show 2 * 7 ≤ 100; decide)
    simp only [List.mem_cons, List.not_mem_nil, or_false] at hd
    rcases hd with rfl | rfl
    · exact w3
    · exact sm_name h
  | call c =>
    refine Sm.tuple (n := 42) (fun d hd => ?_) (by show 2 * 43 ≤ 100; decide)
    simp only [List.mem_cons, List.not_mem_nil, or_false] at hd
    rcases hd with rfl | rfl
    · exact w2.mono (by decide)
    · have hc : c ∈ cs := h
      have cl := part_len (gd.part c hc).1 (okNs_len gd.names).2
      refine Sm.tuple (n := 6) (fun d hd => ?_) (by rw [List.length_map]; omega)
      obtain ⟨k, hk, rfl⟩ := List.mem_map.mp hd
      exact sm_name (okk k (gd.in_ hc k hk))
theorem rows_sm (lw : LogW ks cs rs) (gd : GoodH ks cs) (hl : rs.length ≤ 1000) : Sm (.tuple (rs.map dR)) 101000 := by
  refine Sm.tuple (n := 100) (fun d hd => ?_) (by rw [List.length_map]; omega)
  obtain ⟨r, hr, rfl⟩ := List.mem_map.mp hd
  exact row_sm (lw.1 r hr) gd
theorem dR_depth (r : Row) : (dR r).depth ≤ 40 := by
  cases r with
  | put n k => simp [dR, PyData.depth, PyData.depthAll]
  | drop n => simp [dR, PyData.depth, PyData.depthAll]
  | call c => simp [dR, PyData.depth, PyData.depthAll, depth_strs]
theorem rows_depth (rs : List Row) : (PyData.tuple (rs.map dR)).depth ≤ 40 := by
  rw [PyData.depth]
  have : PyData.depthAll (rs.map dR) ≤ 2 := depthAll_le fun d hd => by
    obtain ⟨r, _, rfl⟩ := List.mem_map.mp hd
    cases r with
    | put n k => simp [dR, PyData.depth, PyData.depthAll]
    | drop n => simp [dR, PyData.depth, PyData.depthAll]
    | call c => simp [dR, PyData.depth, PyData.depthAll, depth_strs]
  omega
theorem dT_depth {l : List Th} : ∀ d ∈ l.map dT, d.depth ≤ 40 := fun d hd => by
  obtain ⟨t, _, rfl⟩ := List.mem_map.mp hd
  simp [PyData.depth, PyData.depthAll]
/-- rows short enough for the text -/
theorem rows_short (lw : LogW ks cs rs) (gd : GoodH ks cs) : ∀ r ∈ rs, shortR r := fun r hr => by
  obtain ⟨okk, _⟩ := okNs_at gd.names
  have h := lw.1 r hr
  cases r with
  | put n k => exact ⟨(okN_len h.1).2, (okN_len (okk k h.2)).2⟩
  | drop n => exact (okN_len h).2
  | call c => exact ⟨part_len (gd.part c h).1 (okNs_len gd.names).2, fun k hk => (okN_len (okk k (gd.in_ h k hk))).2⟩
/-! ### what is told, with other names of things -/
theorem told_asc : ∀ (rs : List Row) (ths : List Th) (i : Nat), ((toldAt ths i rs).map (·.1)).Pairwise (· < ·)
  | [], _, _ => .nil
  | r :: rs, ths, i => by
    cases r with
    | put n k => exact told_asc rs _ _
    | drop n => exact told_asc rs _ _
    | call c =>
      refine .cons (fun j hj => ?_) (told_asc rs _ _)
      obtain ⟨p, hp, rfl⟩ := List.mem_map.mp hj
      exact (toldAt_lt rs _ _ p hp).1
theorem told_nodup (rs : List Row) : (((told rs).map fun p => ((.inl (p.1 : Nat) : Key))) : List Key).Nodup := by
  have := told_asc rs [] 0
  have h2 : ((told rs).map (·.1)).Nodup := this.imp fun h e => by omega
  have e : ((told rs).map fun p => ((.inl (p.1 : Nat) : Key))) = ((told rs).map (·.1)).map fun n => ((.inl (n : Nat) : Key)) := by rw [List.map_map]; rfl
  rw [e]
  exact List.Pairwise.map _ (fun a b n e => n (by have := Sum.inl.inj e; omega)) h2
end
end C9
/-! ## P4 -/
set_option maxHeartbeats 4000000
namespace C9
open PySem PySem.Spec PyProof.Rows L2
/-! ### the plain law: amounts with other names, gathered for the walk -/
theorem dF_keys {ks : List Str} {f : Str → Int} : (dF ks f).map (·.1) = ks.map .inr := by
  unfold dF dV
  rw [List.map_map]
  rfl
theorem dF_at {ks : List Str} {f : Str → Int} {i : Nat} {x y : V} (h1 : ((dF ks f)[i]?).map (fun kv => kV kv.1) = some x) (h2 : ((dF ks f)[i]?).map Prod.snd = some y) : ∃ k, ks[i]? = some k ∧ x = .str k ∧ y = .int (f k) := by
  unfold dF dV at h1 h2
  rw [List.getElem?_map] at h1 h2
  cases e : ks[i]? with
  | none => rw [e] at h1; cases h1
  | some k =>
    rw [e] at h1 h2
    cases h1
    cases h2
    exact ⟨k, rfl, rfl, rfl⟩
section
variable {ks ls : List Str} {f1 : Str → Str} {f0 : Str → Int} {ds : List Deed}
/-- the amounts by the other names -/
def esN (ls : List Str) (f1 : Str → Str) (f0 : Str → Int) : List (Str × Int) := ls.map fun k => (f1 k, f0 k)
def bN (ls : List Str) (f1 : Str → Str) (f0 : Str → Int) : Str → Int := atF (esN ls f1 f0)
def esD (ks : List Str) (f1 : Str → Str) (A : Str → Int) : List (Str × Int) := (sortK ks).map fun k => (f1 k, A k)
theorem esN_keys : (esN ls f1 f0).map (·.1) = ls.map f1 := by
  unfold esN
  rw [List.map_map]
  rfl
theorem esN_nd (hf : ∀ a ∈ ks, ∀ b ∈ ks, f1 a = f1 b → a = b) (pm : ls.Perm ks) (nk : ks.Nodup) : ((esN ls f1 f0).map (·.1)).Nodup := by
  rw [esN_keys]
  exact nodup_map_on (pm.nodup_iff.mpr nk) fun a ha b hb e => hf a (pm.mem_iff.mp ha) b (pm.mem_iff.mp hb) e
theorem bN_at (hf : ∀ a ∈ ks, ∀ b ∈ ks, f1 a = f1 b → a = b) (pm : ls.Perm ks) (nk : ks.Nodup) : ∀ k ∈ ks, bN ls f1 f0 (f1 k) = f0 k := fun k hk => by
  unfold bN
  exact atF_mem (esN_nd hf pm nk) (e := (f1 k, f0 k)) (List.mem_map.mpr ⟨k, pm.mem_iff.mpr hk, rfl⟩)
theorem bN_bd (h : ∀ k, 0 ≤ f0 k ∧ f0 k ≤ 101) (k : Str) : (bN ls f1 f0 k).natAbs ≤ 101 := by
  have := atF_bd (es := esN ls f1 f0) (fun e he => by
    obtain ⟨j, _, rfl⟩ := List.mem_map.mp he
    exact h j) k
  unfold bN
  omega
/-- what the new house makes of the new amounts -/
abbrev AN (ls : List Str) (f1 : Str → Str) (f0 : Str → Int) (ds : List Deed) : Str → Int := actK (bN ls f1 f0) (ds.map (mapD f1))
theorem AN_at (hf : ∀ a ∈ ks, ∀ b ∈ ks, f1 a = f1 b → a = b) (pm : ls.Perm ks) (nk : ks.Nodup) (hd : ∀ d ∈ ds, deedIn ks d) : ∀ k ∈ ks, AN ls f1 f0 ds (f1 k) = actK f0 ds k := actK_map hf (bN_at hf pm nk) hd
theorem esD_perm (hf : ∀ a ∈ ks, ∀ b ∈ ks, f1 a = f1 b → a = b) (pm : ls.Perm ks) (nk : ks.Nodup) (hd : ∀ d ∈ ds, deedIn ks d) : (esD ks f1 (actK f0 ds)).Perm ((ks.map f1).map fun z => (z, AN ls f1 f0 ds z)) := by
  have e : (ks.map f1).map (fun z => (z, AN ls f1 f0 ds z)) = ks.map fun k => (f1 k, actK f0 ds k) := by
    rw [List.map_map]
    refine List.map_congr_left fun k hk => ?_
    show (f1 k, AN ls f1 f0 ds (f1 k)) = _
    rw [AN_at hf pm nk hd k hk]
  rw [e]
  unfold esD
  exact (sortG_perm PyData.str ks).map _
theorem esD_sorted (hf : ∀ a ∈ ks, ∀ b ∈ ks, f1 a = f1 b → a = b) (pm : ls.Perm ks) (nk : ks.Nodup) (hd : ∀ d ∈ ds, deedIn ks d) : (sortG dSI (esD ks f1 (actK f0 ds))).map kvSI = dF (sortK (ks.map f1)) (AN ls f1 f0 ds) :=
  si_sorted (nodup_map_on nk hf) (esD_perm hf pm nk hd)
theorem esD_nd (hf : ∀ a ∈ ks, ∀ b ∈ ks, f1 a = f1 b → a = b) (pm : ls.Perm ks) (nk : ks.Nodup) (hd : ∀ d ∈ ds, deedIn ks d) : (((sortG dSI (esD ks f1 (actK f0 ds))).map kvSI).map (·.1)).Nodup := by
  rw [esD_sorted hf pm nk hd, dF_keys]
  exact nd_inr ((sortG_perm PyData.str _).nodup_iff.mpr (nodup_map_on nk hf))
theorem esN_dict (hf : ∀ a ∈ ks, ∀ b ∈ ks, f1 a = f1 b → a = b) (pm : ls.Perm ks) (nk : ks.Nodup) : (esN ls f1 f0).map kvSI = dF (ls.map f1) (bN ls f1 f0) := by
  rw [dF_of (esN_nd hf pm nk), esN_keys]
  rfl
theorem esN_nd2 (hf : ∀ a ∈ ks, ∀ b ∈ ks, f1 a = f1 b → a = b) (pm : ls.Perm ks) (nk : ks.Nodup) : (((esN ls f1 f0).map kvSI).map (·.1)).Nodup := by
  have := nd_inr (esN_nd (f0 := f0) hf pm nk)
  rw [List.map_map] at this ⊢
  exact this
theorem okD_in {cs : List (List Str)} (gd : GoodH ks cs) {d : Deed} (h : okD ks cs d) : deedIn ks d := by
  cases d with
  | put k => exact h
  | call c =>
    have := part_len (gd.part c h).1 (okNs_len gd.names).2
    exact ⟨by omega, gd.in_ h⟩
theorem AN_sm (hb : ∀ k, 0 ≤ f0 k ∧ f0 k ≤ 101) (ok : ∀ k ∈ ks, okN (f1 k) = true) (hl : ks.length ≤ 6) (dl : ds.length ≤ 1000) : Sm (.dict (dFP (sortK (ks.map f1)) (AN ls f1 f0 ds))) 84 := by
  have pm := sortG_perm PyData.str (ks.map f1)
  refine dF_sm (fun k hk => ?_) (by rw [pm.length_eq, List.length_map]; exact hl) fun k => ?_
  · obtain ⟨j, hj, rfl⟩ := List.mem_map.mp (pm.mem_iff.mp hk)
    exact ok j hj
  · have := actK_bd (ds := ds.map (mapD f1)) (bN_bd (ls := ls) (f1 := f1) hb) k
    rw [List.length_map] at this
    exact Nat.lt_of_le_of_lt this (by omega)
end
end C9
/-! ## P5 -/
set_option maxHeartbeats 4000000
namespace C9
open PySem PySem.Spec PyProof.Rows L2
/-! ### the plain law: other names of things, gathered for the walk -/
section
variable {ks : List Str} {cs : List (List Str)} {g1 : Str → Str} {rs : List Row}
theorem logW_names (lw : LogW ks cs rs) (ok : ∀ n, okN n = true → okN (g1 n) = true) (hg : ∀ a b, g1 a = g1 b → a = b) : LogW ks cs (rs.map (mapR id g1)) := by
  refine ⟨fun x hx => ?_, ?_⟩
  · obtain ⟨r, hr, rfl⟩ := List.mem_map.mp hx
    have := lw.1 r hr
    cases r with
    | put n k => exact ⟨ok n this.1, this.2⟩
    | drop n => exact ok n this
    | call c =>
      show c.map id ∈ cs
      rw [List.map_id]
      exact this
  · rw [putN_map]
    exact nodup_map_on lw.2 fun a _ b _ e => hg a b e
theorem nmS_ok {xs zs : List Str} (nd : xs.Nodup) (p : zs.Perm xs) (ok : ∀ n ∈ xs, okN n = true) : ∀ n, okN n = true → okN (nmS xs zs n) = true := fun n hn => by
  by_cases h : n ∈ xs
  · exact ok _ (p.mem_iff.mp (nmS_in nd (Nat.le_of_eq p.length_eq.symm) h))
  · unfold nmS
    rw [lkS_free h]
    exact hn
theorem told_other (hg : ∀ a b, g1 a = g1 b → a = b) (hr : ∀ r ∈ rs, inK ks r) : told (rs.map (mapR id g1)) = (told rs).map fun p => (p.1, p.2.map g1) := told_map (ks := ks) (f := id) (fun a _ b _ e => e) hg hr
theorem valV_at : ∀ {l : List (Nat × Option Str)} {i : Nat} {p : Nat × Option Str}, (l.map (·.1)).Nodup → l[i]? = some p → valV (toldD l) (.inl (p.1 : Nat)) = some (optV p.2)
  | [], _, _, _, h => by simp at h
  | q :: l, 0, p, _, h => by
    cases h
    exact valV_pos rfl
  | q :: l, i + 1, p, nd, h => by
    have n1 := List.nodup_cons.mp nd
    have ne : q.1 ≠ p.1 := fun e => n1.1 (List.mem_map.mpr ⟨p, List.mem_of_getElem? (i := i) h, e.symm⟩)
    show valV ((.inl (q.1 : Nat), optV q.2) :: toldD l) _ = _
    rw [valV_neg (fun e => ne (by have := Sum.inl.inj e; omega))]
    exact valV_at (i := i) n1.2 h
theorem told_nd (rs : List Row) : ((told rs).map (·.1)).Nodup := (told_asc rs [] 0).imp fun h e => by omega
theorem toldD_at {l : List (Nat × Option Str)} {i : Nat} {k : Key} {v : V} (h : (toldD l)[i]? = some (k, v)) : ∃ p, l[i]? = some p ∧ k = .inl (p.1 : Nat) := by
  unfold toldD at h
  rw [List.getElem?_map] at h
  cases e : l[i]? with
  | none => rw [e] at h; cases h
  | some p =>
    rw [e] at h
    cases h
    exact ⟨p, rfl, rfl⟩
/-- pairs of an index and a name or none -/
abbrev dIO (p : Nat × Option Str) : PyData := .tuple [.int (p.1 : Nat), optD p.2]
abbrev kvIO (p : Nat × Option Str) : Key × V := (.inl (p.1 : Nat), optV p.2)
theorem io_at {H : Hp} (e : Nat × Option Str) (v : V) (h : Tp H v (dIO e)) : ∃ a, v = .ref a ∧ H a = some (.tup [kV (kvIO e).1, (kvIO e).2]) := by
  obtain ⟨a, v1, v2, rfl, ea, h1, h2⟩ := h.two
  rw [h1.int_at] at ea
  refine ⟨a, rfl, ?_⟩
  have : v2 = optV e.2 := by
    cases q : e.2 with
    | none => rw [q] at h2; exact h2.non_at
    | some n => rw [q] at h2; exact h2.str_at
  rw [this] at ea
  exact ea
theorem toldD_kv (l : List (Nat × Option Str)) : l.map kvIO = toldD l := rfl
theorem toldD_nd (rs : List Row) : (((told rs).map kvIO).map (·.1)).Nodup := by
  rw [List.map_map]
  exact told_nodup rs
theorem same_dict {H : Hp} {D : Addr} (e : H D = some (.dK ((ks.map fun k => (k, k)).map kvSS))) : SDict H (.ref D) ks id := by
  refine ⟨D, _, rfl, .inl e, fun k hk => ?_⟩
  have : (ks.map fun k => (k, k)).map kvSS = dV ks V.str := by
    rw [List.map_map]
    rfl
  rw [this]
  exact dV_val hk
end
end C9
/-! ## F24 -/
set_option maxHeartbeats 4000000
namespace C9
open PySem PySem.Spec PyProof.Rows L2 C8
def freshL : List Str := ["q", "call", "put", "zz", "a", "b", "abcdef", "kinds"]
theorem fresh_nd : freshL.Nodup := by decide +kernel
theorem fresh_ok : ∀ z ∈ freshL, okN z = true := by decide +kernel
section
variable {K : PySem.W.Frag} {mg : Str → Option Value} {P : Program} {w : World} {base : Heap}
def sp_law_goes_along (K : PySem.W.Frag) : Sp := fun vs H Q E => ∃ x y z u t, vs = [x, y, z, u, t] ∧ ∃ b ks cs, ∃ rs : List Row, ∃ ds : List Deed, ∃ f0 : Str → Int, x = .ref b ∧ BagAt H b ∧ Tp H y (dH ks cs) ∧ GoodH ks cs ∧ Tp H z (.tuple (rs.map dR)) ∧ rs.length ≤ 30 ∧ LogW ks cs rs ∧
  Tp H u (.tuple (ds.map dD)) ∧ ds.length ≤ 100 ∧ (∀ d ∈ ds, okD ks cs d) ∧ (∃ D o ls, t = .ref D ∧ ls.Perm ks ∧ (∀ k, 0 ≤ f0 k ∧ f0 k ≤ 101) ∧ H D = some (.frz o (.dK (dF ls f0)))) ∧ ∀ H', Same H H' → Q (.bl true) H'
theorem sc_law_goes_along : FnScope ["_law_bag_here", "_law_house_here", "_law_log_here", "_law_stretch_here", "_law_amounts_here", "_law_fresh", "_law_kinds", "_law_same", "_law_names", "_law_other", "_law_new", "_law_turned", "_law_there", "_law_due", "_law_deeds", "_law_told", "_law_was", "_law_kind", "_law_row", "_law_name", "_law_many", "_law_at"] ["_law_bag_here", "_law_house_here", "_law_log_here", "_law_stretch_here", "_law_amounts_here"] (defScope s_law_goes_along) := ⟨rfl, rfl, rfl, by decide +kernel, rfl, by decide +kernel, by decide +kernel⟩
theorem g_law_goes_along (T : Txt K mg) : CalG P w K mg base 9 "_law_goes_along" (sp_law_goes_along K) := by
  refine T.calG 53 47 rfl rfl sc_law_goes_along
    (fun _ _ _ _ _ _ us h => match us, h with | [_, _, _, _, _], _ => rfl)
    (fun vs H Q E h => by obtain ⟨_, _, _, _, _, rfl, _⟩ := h; rfl) (fun f cdv A outer s H vs Q E hG hr h => ?_)
  have nd := sc_law_goes_along.nd
  refine ⟨_, (pss_cons (ps_set (i := 5) nd rfl (.inl rfl) (pe_c (c_law_mixed T) hr (by decide) (by rfl) (pa_cons (pv 0) (pa_cons (pe_lst (pa_cons pe_str (pa_cons pe_str (pa_cons pe_str (pa_cons pe_str (pa_cons pe_str (pa_cons pe_str (pa_cons pe_str (pa_cons pe_str pa_nil))))))))) pa_nil))))
     (pss_cons (ps_asg (pe_tup (pa_cons (pe_callTy (k_dictP K rfl) (by rfl) (T.free 66) rfl (pa_cons (pe_listZip rfl (by rfl) (T.free 59) (by rfl) (T.free 56) (pa_cons (pe_ix (k_ixT K) (pv 1) pe_int (fun _ _ => rfl)) (pa_cons (pv 5) pa_nil))) pa_nil)) (pa_cons (pe_callTy (k_dictP K rfl) (by rfl) (T.free 66) rfl (pa_cons (pe_lc rfl nd (k_piT K (pi_tup (pe_ix (k_ixT K) (pv 1) pe_int (fun _ _ => rfl)))) (blkOk_by (own := [("_law_kind", 17)]) (by rfl)) (fun _ _ _ _ _ => (pg_name (i := 17) nd rfl (by first | exact .inl rfl | exact .inr rfl))) (fun _ _ _ _ _ => pts_nil) (fun _ _ _ _ _ => (pe_tup (pa_cons (pv 17) (pa_cons (pv 17) pa_nil))))) pa_nil)) pa_nil))) (k_tup K (pg_tup (n := 2) rfl (pgs_cons (pg_name (i := 6) nd rfl (by first | exact .inl rfl | exact .inr rfl)) (pgs_cons (pg_name (i := 7) nd rfl (by first | exact .inl rfl | exact .inr rfl)) pgs_nil)))))
     (pss_cons (ps_setLc (i := 8) rfl nd rfl rfl rfl (k_piT K (pi_tup (pv 2))) (blkOk_by (own := [("_law_row", 18)]) (by rfl)) (fun _ _ _ _ _ => (pg_name (i := 18) nd rfl (by first | exact .inl rfl | exact .inr rfl))) (fun _ _ _ _ _ => (pts_one (pt_cmpR op_eq (pe_ix (k_ixT K) (pv 18) pe_int (fun _ _ => rfl)) pe_str rfl))) (fun _ _ _ _ _ => (pe_ix (k_ixT K) (pv 18) pe_int (fun _ _ => rfl))))
     (pss_cons (ps_set (i := 9) nd rfl (.inr rfl) (pe_callTy (k_dictP K rfl) (by rfl) (T.free 66) rfl (pa_cons (pe_listZip rfl (by rfl) (T.free 59) (by rfl) (T.free 56) (pa_cons (pv 8) (pa_cons (pe_c (c_law_mixed T) hr (by decide) (by rfl) (pa_cons (pv 0) (pa_cons (pv 8) pa_nil))) pa_nil))) pa_nil)))
     (pss_cons (ps_par (i := 10) (j := 11) rfl nd rfl rfl (by decide) rfl rfl (pa_cons (pe_c (c_renamed_house T) hr (by decide) (by rfl) (pa_cons (pv 1) (pa_cons (pv 6) pa_nil))) (pa_cons (pe_callTy (k_tuple K) (by rfl) (T.free 55) rfl (pa_cons (pe_lc rfl nd (k_piT K (pi_tup (pv 2))) (blkOk_by (own := [("_law_row", 18)]) (by rfl)) (fun _ _ _ _ _ => (pg_name (i := 18) nd rfl (by first | exact .inl rfl | exact .inr rfl))) (fun _ _ _ _ _ => pts_nil) (fun _ _ _ _ _ => (pe_c (c_law_row_to T) hr (by decide) (by rfl) (pa_cons (pv 18) (pa_cons (pv 6) (pa_cons pe_dnewK pa_nil)))))) pa_nil)) pa_nil)) rfl)
     (pss_cons (ps_setLc (i := 12) rfl nd rfl rfl rfl (k_piL K (pi_list (pe_c (c_there_at T) hr (by decide) (by rfl) (pa_cons (pv 1) (pa_cons (pv 2) (pa_cons (pe_callB (k_len K) (by rfl) (T.free 52) rfl (pa_cons (pv 2) pa_nil)) pa_nil)))))) (blkOk_by (own := [("_law_name", 19), ("_law_kind", 17)]) (by rfl)) (fun _ _ _ _ _ => (k_tup K (pg_tup (n := 2) rfl (pgs_cons (pg_name (i := 19) nd rfl (by first | exact .inl rfl | exact .inr rfl)) (pgs_cons (pg_name (i := 17) nd rfl (by first | exact .inl rfl | exact .inr rfl)) pgs_nil))))) (fun _ _ _ _ _ => pts_nil) (fun _ _ _ _ _ => (pe_tup (pa_cons (pv 19) (pa_cons (pe_dget (hu_of hr) (pv 6) (pv 17) (fun _ _ => rfl)) pa_nil)))))
     (pss_cons (ps_if (pt_not (pt_val (pe_g (g_law_alike T) hG hr (by decide) (by rfl) (pa_cons (pe_lst (pa_cons (pe_c (c_told_by T) hr (by decide) (by rfl) (pa_cons (pv 10) (pa_cons (pv 11) pa_nil))) (pa_cons (pe_c (c_there_at T) hr (by decide) (by rfl) (pa_cons (pv 10) (pa_cons (pv 11) (pa_cons (pe_callB (k_len K) (by rfl) (T.free 52) rfl (pa_cons (pv 2) pa_nil)) pa_nil)))) pa_nil))) (pa_cons (pe_lst (pa_cons (pe_c (c_told_by T) hr (by decide) (by rfl) (pa_cons (pv 1) (pa_cons (pv 2) pa_nil))) (pa_cons (pv 12) pa_nil))) pa_nil))))) (pss_one (ps_ret pe_bl)) pss_nil)
     (pss_cons (ps_if (pt_not (pt_val (pe_g (g_law_alike T) hG hr (by decide) (by rfl) (pa_cons (pe_c (c_read_log T) hr (by decide) (by rfl) (pa_cons (pv 10) (pa_cons (pe_c (c_show_log T) hr (by decide) (by rfl) (pa_cons (pv 11) pa_nil)) pa_nil))) (pa_cons (pv 11) pa_nil))))) (pss_one (ps_ret pe_bl)) pss_nil)
     (pss_cons (ps_set (i := 13) nd rfl (.inl rfl) (pe_frz (pe_callTy (k_dictP K rfl) (by rfl) (T.free 66) rfl (pa_cons (pe_callB (k_sortedD K hr) (by rfl) (T.free 58) rfl (pa_cons (pe_lc rfl nd (pi_items (pe_c (c_acted T) hr (by decide) (by rfl) (pa_cons (pv 1) (pa_cons (pv 3) (pa_cons (pv 4) pa_nil))))) (blkOk_by (own := [("_law_kind", 17), ("_law_many", 20)]) (by rfl)) (fun _ _ _ _ _ => (k_tup K (pg_tup (n := 2) rfl (pgs_cons (pg_name (i := 17) nd rfl (by first | exact .inl rfl | exact .inr rfl)) (pgs_cons (pg_name (i := 20) nd rfl (by first | exact .inl rfl | exact .inr rfl)) pgs_nil))))) (fun _ _ _ _ _ => pts_nil) (fun _ _ _ _ _ => (pe_tup (pa_cons (pe_dget (hu_of hr) (pv 6) (pv 17) (fun _ _ => rfl)) (pa_cons (pv 20) pa_nil))))) pa_nil)) pa_nil))))
     (pss_cons (ps_set (i := 14) nd rfl (.inl rfl) (pe_callTy (k_tuple K) (by rfl) (T.free 55) rfl (pa_cons (pe_lc rfl nd (k_piT K (pi_tup (pv 3))) (blkOk_by (own := [("_law_row", 18)]) (by rfl)) (fun _ _ _ _ _ => (pg_name (i := 18) nd rfl (by first | exact .inl rfl | exact .inr rfl))) (fun _ _ _ _ _ => pts_nil) (fun _ _ _ _ _ => (pe_ifExp (pt_cmpR op_eq (pe_ix (k_ixT K) (pv 18) pe_int (fun _ _ => rfl)) pe_str rfl) (pe_tup (pa_cons (pe_ix (k_ixT K) (pv 18) pe_int (fun _ _ => rfl)) (pa_cons (pe_dget (hu_of hr) (pv 6) (pe_ix (k_ixT K) (pv 18) pe_int (fun _ _ => rfl)) (fun _ _ => rfl)) pa_nil))) (pe_c (c_law_row_to T) hr (by decide) (by rfl) (pa_cons (pv 18) (pa_cons (pv 6) (pa_cons pe_dnewK pa_nil))))))) pa_nil)))
     (pss_cons (ps_if (pt_not (pt_val (pe_g (g_law_alike T) hG hr (by decide) (by rfl) (pa_cons (pe_c (c_acted T) hr (by decide) (by rfl) (pa_cons (pv 10) (pa_cons (pv 14) (pa_cons (pe_callTy (k_dictP K rfl) (by rfl) (T.free 66) rfl (pa_cons (pe_lc rfl nd (pi_keys (pv 4)) (blkOk_by (own := [("_law_kind", 17)]) (by rfl)) (fun _ _ _ _ _ => (pg_name (i := 17) nd rfl (by first | exact .inl rfl | exact .inr rfl))) (fun _ _ _ _ _ => pts_nil) (fun _ _ _ _ _ => (pe_tup (pa_cons (pe_dget (hu_of hr) (pv 6) (pv 17) (fun _ _ => rfl)) (pa_cons (pe_dget (hu_of hr) (pv 4) (pv 17) (fun _ _ => rfl)) pa_nil))))) pa_nil)) pa_nil)))) (pa_cons (pv 13) pa_nil))))) (pss_one (ps_ret pe_bl)) pss_nil)
     (pss_cons (ps_set (i := 15) nd rfl (.inl rfl) (pe_c (c_told_by T) hr (by decide) (by rfl) (pa_cons (pv 1) (pa_cons (pe_callTy (k_tuple K) (by rfl) (T.free 55) rfl (pa_cons (pe_lc rfl nd (k_piT K (pi_tup (pv 2))) (blkOk_by (own := [("_law_row", 18)]) (by rfl)) (fun _ _ _ _ _ => (pg_name (i := 18) nd rfl (by first | exact .inl rfl | exact .inr rfl))) (fun _ _ _ _ _ => pts_nil) (fun _ _ _ _ _ => (pe_c (c_law_row_to T) hr (by decide) (by rfl) (pa_cons (pv 18) (pa_cons (pv 7) (pa_cons (pv 9) pa_nil)))))) pa_nil)) pa_nil))))
     (pss_cons (ps_set (i := 16) nd rfl (.inr rfl) (pe_c (c_told_by T) hr (by decide) (by rfl) (pa_cons (pv 1) (pa_cons (pv 2) pa_nil))))
     (pss_one (ps_ret (pe_g (g_law_alike T) hG hr (by decide) (by rfl) (pa_cons (pv 15) (pa_cons (pe_frz (pe_callTy (k_dictP K rfl) (by rfl) (T.free 66) rfl (pa_cons (pe_lc rfl nd (pi_keys (pv 16)) (blkOk_by (own := [("_law_at", 21)]) (by rfl)) (fun _ _ _ _ _ => (pg_name (i := 21) nd rfl (by first | exact .inl rfl | exact .inr rfl))) (fun _ _ _ _ _ => pts_nil) (fun _ _ _ _ _ => (pe_tup (pa_cons (pv 21) (pa_cons (pe_dgetN (hu_of hr) (pv 9) (pe_dget (hu_of hr) (pv 16) (pv 21) (fun _ _ => rfl)) pe_non ⟨rfl, rfl, rfl, rfl⟩) pa_nil))))) pa_nil))) pa_nil)))))))))))))))))), ?_⟩
  obtain ⟨v0, v1, v2, v3, v4, rfl, h⟩ := h
  rw [show L2.start ["_law_bag_here", "_law_house_here", "_law_log_here", "_law_stretch_here", "_law_amounts_here", "_law_fresh", "_law_kinds", "_law_same", "_law_names", "_law_other", "_law_new", "_law_turned", "_law_there", "_law_due", "_law_deeds", "_law_told", "_law_was", "_law_kind", "_law_row", "_law_name", "_law_many", "_law_at"] [v0, v1, v2, v3, v4] = [some v0, some v1, some v2, some v3, some v4, none, none, none, none, none, none, none, none, none, none, none, none, none, none, none, none, none] from rfl]
  obtain ⟨b, ks, cs, rs, ds, f0, rfl, hb, hy, g, hz, rl, lw, hu, dl, gd, ⟨D0, o0, ls, rfl, pm0, bd0, eD0⟩, q⟩ := h
  obtain ⟨a, v1, v2, rfl, ea, h1, h2⟩ := hy.two
  obtain ⟨b1, rfl, eb1⟩ := h1.strs_at
  obtain ⟨l, ys, rfl, el, tl⟩ := hz.tup_at
  obtain ⟨l2, ys2, rfl, el2, tl2⟩ := hu.tup_at
  simp only [tPar, tListZip, tDGetN, tBM, SlX.tMethSl, tSeq, tIfS, tOr, tAnd, tNot, tB, tCB, tCons, tNil, tVar, tC, tTest, tChain, tRet, tRetN, tNext, tOp, tAndV, tOrV, tNotV, tIf, tThen, tYes, tTup, tLst, tCall, tAsg, tDrop, tDNewK, gName, gTup, gCons, gNil, rI0, rI, CMul, CDiv, tUn, rU, rEq, rNe, scal, LenV, RetB, RetD, List.set_cons_zero, List.set_cons_succ, List.getElem?_cons_zero, List.getElem?_cons_succ, Option.some.injEq, exists_eq_left', exists_eq_left, List.cons.injEq, and_true, true_and, V.int.injEq, V.str.injEq, V.bl.injEq, V.ref.injEq, if_true, if_false, Bool.not_true, Bool.not_false, reduceCtorEq, decide_true, decide_false, Bool.false_eq_true, exists_and_left, Bool.not_eq_true', decide_eq_true_eq, decide_eq_false_iff_not, rLenK, tLenSetT, List.append_nil, and_assoc, or_false, false_or, exists_false, false_and, and_false, rGetL, rSetL, gSub, tAugS, ipI, tPart, tNoPart, not_true, not_false_iff, ite_true, ite_false, List.map_cons, List.map_nil, sp_law_alike, sp_law_mixed, sp_law_row_to, sp_acted, sp_read_log, sp_renamed_house, sp_show_log, sp_there_at, sp_told_by]
  have hk6 := okNs_len g.names
  obtain ⟨okk, nk⟩ := okNs_at g.names
  have hyl := tl.len
  refine ⟨by show 8 ≤ _; decide, fun p1 n1 => ⟨hb.same (sm_new n1), _, .of upd_same, by show 8 ≤ 1000; decide, fun p2 zs0 H2 s2 n2 e2 pm2 => ?_⟩⟩
  obtain ⟨zs, rfl, pz⟩ := perm_strs (ks := freshL) pm2
  have nz := pz.nodup_iff.mpr fresh_nd
  have okz : ∀ z ∈ zs, okN z = true := fun z hz => fresh_ok z (pz.mem_iff.mp hz)
  have zl : zs.length = 8 := pz.length_eq
  have s02 := (sm_new (o := .lst (freshL.map V.str)) n1).trans s2
  refine ix_t (s02 _ _ ea) (atI_0 _ _) ⟨b1, rfl, _, .inr (.of (s02 _ _ eb1)), _, .of e2, by rw [List.length_map, List.length_map]; omega, fun l3 ps3 H3 s3 n3 e3 pl3 pa3 => ?_⟩
  refine dict_zipS e3 nk (by simpa using pl3) pa3 fun D1 nD1 => ?_
  have s4 := sm_new (o := .dK ((ks.zip zs).map kvSS)) nD1
  have eD1 : upd H3 D1 (.dK ((ks.zip zs).map kvSS)) D1 = some (.dK ((ks.zip zs).map kvSS)) := upd_same
  have s04 := s02.trans (s3.trans s4)
  generalize upd H3 D1 (.dK ((ks.zip zs).map kvSS)) = H4 at s4 eD1 s04
  have sd1 := sdict_zip eD1 nk (by omega)
  refine ⟨_, rfl, a, _, 0, _, rfl, rfl, .of (s04 _ _ ea), atI_0 _ _, b1, rfl, ⟨_, .of (s04 _ _ eb1)⟩, fun D hD => lc_rel (walk_tup (xs := ks.map V.str)) hD (by rw [List.length_map]; exact lt1 (by omega)) (RlM (fun k => dSS (k, k)) ks) RlM.zero (fun H s => .of (s _ _ (s04 _ _ eb1))) ?_ ?_⟩
  · rintro i es x Ha Hb Qe Qs hi sm rl ⟨rfl, hx⟩ ke ks'
    obtain ⟨k, hk', rfl⟩ := List.getElem?_map.symm.trans hx |> Option.map_eq_some_iff.mp
    refine ⟨rfl, ?_⟩
    simp only [tBM, SlX.tMethSl, tSeq, tIfS, tOr, tAnd, tNot, tB, tCB, tCons, tNil, tVar, tC, tTest, tChain, tRet, tRetN, tNext, tOp, tAndV, tOrV, tNotV, tIf, tThen, tYes, tTup, tLst, tCall, tAsg, tDrop, tDNewK, gName, gTup, gCons, gNil, rI0, rI, CMul, CDiv, tUn, rU, rEq, rNe, scal, LenV, RetB, RetD, List.set_cons_zero, List.set_cons_succ, List.getElem?_cons_zero, List.getElem?_cons_succ, Option.some.injEq, exists_eq_left', exists_eq_left, List.cons.injEq, and_true, true_and, V.int.injEq, V.str.injEq, V.bl.injEq, V.ref.injEq, if_true, if_false, Bool.not_true, Bool.not_false, reduceCtorEq, decide_true, decide_false, Bool.false_eq_true, exists_and_left, Bool.not_eq_true', decide_eq_true_eq, decide_eq_false_iff_not, rLenK, tLenSetT, List.append_nil, and_assoc, or_false, false_or, exists_false, false_and, and_false, rGetL, rSetL, gSub, tAugS, ipI, tPart, tNoPart, not_true, not_false_iff, ite_true, ite_false, List.map_cons, List.map_nil, sp_law_alike, sp_law_mixed, sp_law_row_to, sp_acted, sp_read_log, sp_renamed_house, sp_show_log, sp_there_at, sp_told_by, wipe]
    refine ⟨by show 2 ≤ _; decide, fun p hp => ?_⟩
    exact ke _ _ _ (sm_new hp) (.mk hp (.cons (.str k) (.cons (.str k) .nil))) (rl.put hk')
  rintro H5 acc5 es5 s5 e5 r5 rl5 _
  rw [rl5.all (by rw [List.length_map]; exact Nat.le_refl _)] at r5
  have es5' : ks.map (fun k => dSS (k, k)) = (ks.map fun k => (k, k)).map dSS := by rw [List.map_map]; rfl
  rw [es5'] at r5
  refine dict_of e5 ss_at r5 (by rw [List.map_map, List.map_map]; exact nd_inr nk) fun D2 H6 n6 s6 eD2 => ?_
  refine ⟨by show 2 ≤ _; decide, fun p7 n7 => ?_⟩
  have s7 := sm_new (o := .tup [V.ref D1, V.ref D2]) n7
  have e7 : upd H6 p7 (.tup [V.ref D1, V.ref D2]) p7 = some (.tup [V.ref D1, V.ref D2]) := upd_same
  have s47 := s5.trans (s6.trans s7)
  have s07 := s04.trans s47
  have eD1' := s47 _ _ eD1
  have eD2' := s7 _ _ eD2
  refine ⟨_, .of e7, rfl, _, _, rfl, _, _, rfl, rfl, ?_⟩
  generalize upd H6 p7 (.tup [V.ref D1, V.ref D2]) = H7 at s7 e7 s47 s07 eD1' eD2'
  refine ⟨_, rfl, l, rfl, ⟨_, .of (s07 _ _ el)⟩, fun D hD => lc_rel (walk_tup (xs := ys)) hD (lt1 (by omega)) (RlF (fun x => (putN1 x).map PyData.str) rs) RlF.zero (fun H s => .of (s _ _ (s07 _ _ el))) ?_ ?_⟩
  · rintro i es x Ha Hb Qe Qs hi sm rl ⟨rfl, hx⟩ ke ks'
    obtain ⟨x1, hx1, tx1⟩ := tl.nth hx
    have td := tx1.same (s07.trans sm)
    refine ⟨rfl, ?_⟩
    simp only [tBM, SlX.tMethSl, tSeq, tIfS, tOr, tAnd, tNot, tB, tCB, tCons, tNil, tVar, tC, tTest, tChain, tRet, tRetN, tNext, tOp, tAndV, tOrV, tNotV, tIf, tThen, tYes, tTup, tLst, tCall, tAsg, tDrop, tDNewK, gName, gTup, gCons, gNil, rI0, rI, CMul, CDiv, tUn, rU, rEq, rNe, scal, LenV, RetB, RetD, List.set_cons_zero, List.set_cons_succ, List.getElem?_cons_zero, List.getElem?_cons_succ, Option.some.injEq, exists_eq_left', exists_eq_left, List.cons.injEq, and_true, true_and, V.int.injEq, V.str.injEq, V.bl.injEq, V.ref.injEq, if_true, if_false, Bool.not_true, Bool.not_false, reduceCtorEq, decide_true, decide_false, Bool.false_eq_true, exists_and_left, Bool.not_eq_true', decide_eq_true_eq, decide_eq_false_iff_not, rLenK, tLenSetT, List.append_nil, and_assoc, or_false, false_or, exists_false, false_and, and_false, rGetL, rSetL, gSub, tAugS, ipI, tPart, tNoPart, not_true, not_false_iff, ite_true, ite_false, List.map_cons, List.map_nil, sp_law_alike, sp_law_mixed, sp_law_row_to, sp_acted, sp_read_log, sp_renamed_house, sp_show_log, sp_there_at, sp_told_by, wipe]
    exact put_name td (fun n hn => ke _ _ _ (.refl _) (.str n) (rl.put hx1 (by rw [hn]; rfl))) (fun hn => ks' _ (.refl _) (rl.skip hx1 (by rw [hn]; rfl)))
  rintro H8 acc8 es8 s8 e8 r8 rl8 _
  rw [rl8.all (by omega), putN_strs] at r8
  have hacc := TpAll.strs.mp r8
  subst hacc
  have s08 := s07.trans s8
  have pl := putN_len rs
  refine ⟨D, rfl, hb.same s08, _, .of e8, by rw [List.length_map]; omega, fun p9 ns0 H9 s9 n9 e9 pm9 => ?_⟩
  obtain ⟨ns, rfl, pn⟩ := perm_strs pm9
  have nl := pn.length_eq
  refine ⟨D, rfl, _, .inl (.of (s9 _ _ e8)), _, .of e9, by rw [List.length_map, List.length_map]; omega, fun l10 ps10 H10 s10 n10 e10 pl10 pa10 => ?_⟩
  refine dict_zipS e10 lw.2 (by simpa using pl10) pa10 fun D4 nD4 => ?_
  have s11 := sm_new (o := .dK (((putN rs).zip ns).map kvSS)) nD4
  have eD4 : upd H10 D4 (.dK (((putN rs).zip ns).map kvSS)) D4 = some (.dK (((putN rs).zip ns).map kvSS)) := upd_same
  have s711 := s8.trans (s9.trans (s10.trans s11))
  have s011 := s07.trans s711
  have eD1b := s711 _ _ eD1'
  have eD2b := s711 _ _ eD2'
  generalize upd H10 D4 (.dK (((putN rs).zip ns).map kvSS)) = H11 at s11 eD4 s711 s011 eD1b eD2b
  have hfi := nmS_inj nk nz (by omega)
  have okf : ∀ k ∈ ks, okN (nmS ks zs k) = true := fun k hk => okz _ (nmS_in nk (by omega) hk)
  have gi := nmS_perm lw.2 pn
  have sdb := sdict_zip eD1b nk (by omega)
  have ndb := ndict_zip eD4
  have sd4 := sdict_zip eD4 lw.2 (by omega)
  generalize hf : nmS ks zs = f1 at hfi okf sdb sd1
  generalize hg : nmS (putN rs) ns = g1 at gi ndb sd4
  have gN := goodH_ren g hfi okf
  have lwN : LogW (ks.map f1) (sortS (cs.map fun c => c.map f1)) (rs.map (mapR f1 id)) := logW_map lw (fun n h => h) (fun a b e => e)
  have ink := lw.inK g
  have kok := kinds_ok lw g
  have cn8 := g.n8
  refine ⟨ks, cs, hy.same s011, f1, sdb, by omega, by omega, fun c hc => ⟨(g.part c hc).2, by have := part_len (g.part c hc).1 hk6.2; omega, g.in_ hc⟩, fun vN H12 s12 tN => ?_⟩
  have s012 := s011.trans s12
  have sdc := sdb.same s12
  refine ⟨_, rfl, l, rfl, ⟨_, .of (s012 _ _ el)⟩, fun D5 hD5 => lc_rel (walk_tup (xs := ys)) hD5 (lt1 (by omega)) (RlM (fun r => dR (mapR f1 id r)) rs) RlM.zero (fun H s => .of (s _ _ (s012 _ _ el))) ?_ ?_⟩
  · rintro i es x Ha Hb Qe Qs hi sm rl ⟨rfl, hx⟩ ke ks'
    obtain ⟨x1, hx1, tx1⟩ := tl.nth hx
    refine ⟨rfl, ?_⟩
    simp only [tBM, SlX.tMethSl, tSeq, tIfS, tOr, tAnd, tNot, tB, tCB, tCons, tNil, tVar, tC, tTest, tChain, tRet, tRetN, tNext, tOp, tAndV, tOrV, tNotV, tIf, tThen, tYes, tTup, tLst, tCall, tAsg, tDrop, tDNewK, gName, gTup, gCons, gNil, rI0, rI, CMul, CDiv, tUn, rU, rEq, rNe, scal, LenV, RetB, RetD, List.set_cons_zero, List.set_cons_succ, List.getElem?_cons_zero, List.getElem?_cons_succ, Option.some.injEq, exists_eq_left', exists_eq_left, List.cons.injEq, and_true, true_and, V.int.injEq, V.str.injEq, V.bl.injEq, V.ref.injEq, if_true, if_false, Bool.not_true, Bool.not_false, reduceCtorEq, decide_true, decide_false, Bool.false_eq_true, exists_and_left, Bool.not_eq_true', decide_eq_true_eq, decide_eq_false_iff_not, rLenK, tLenSetT, List.append_nil, and_assoc, or_false, false_or, exists_false, false_and, and_false, rGetL, rSetL, gSub, tAugS, ipI, tPart, tNoPart, not_true, not_false_iff, ite_true, ite_false, List.map_cons, List.map_nil, sp_law_alike, sp_law_mixed, sp_law_row_to, sp_acted, sp_read_log, sp_renamed_house, sp_show_log, sp_there_at, sp_told_by, wipe]
    refine fun dn ndn => ⟨x1, tx1.same (s012.trans (sm.trans (sm_new ndn))), ks, f1, sdc.same (sm.trans (sm_new ndn)), id, ⟨dn, [], rfl, .inl upd_same, fun n => rfl⟩, kok x1 (List.mem_of_getElem? hx1), fun v Hc sc tv => ?_⟩
    exact ke _ _ _ ((sm_new ndn).trans sc) tv (rl.put hx1)
  rintro H13 acc13 es13 s13 e13 r13 rl13 _
  rw [rl13.all (by omega)] at r13
  have er13 : rs.map (fun r => dR (mapR f1 id r)) = (rs.map (mapR f1 id)).map dR := by rw [List.map_map]; rfl
  rw [er13] at r13
  refine tuple_of e13 r13 fun vT H14 s14 tT => ?_
  have s014 := s012.trans (s13.trans s14)
  have sdd := sdc.same (s13.trans s14)
  have tNd := tN.same (s13.trans s14)
  refine ⟨_, rfl, _, rfl, _, rfl, .ref l, ys.length, rfl, .inr ⟨_, .of (s014 _ _ el), rfl⟩, .ref a, .ref l, .int (ys.length : Nat), rfl, ks, cs, rs, hy.same s014, g, hz.same s014, by rw [hyl], lw.rows g, by omega, fun pt xst Ht st nt et rt => ⟨pt, rfl, ⟨_, .of et⟩, fun D6 hD6 => lc_rel (walk_list (xs := xst)) hD6 ?_ (RlM (fun t : Th => dT (mapT f1 id t)) (thsOf rs)) RlM.zero (fun H s => .of (s _ _ et)) ?_ ?_⟩⟩
  · have := rt.len
    have := thsOf_len (rs := rs)
    exact lt1 (by omega)
  · rintro i es x Ha Hb Qe Qs hi sm rl ⟨rfl, hx⟩ ke ks'
    obtain ⟨x1, hx1, tx1⟩ := rt.nth hx
    obtain ⟨c1, w1, w2, rfl, hc1, t1, t2⟩ := (tx1.same sm).two
    cases t1
    cases t2
    obtain ⟨Dn, eDn, gn⟩ := ((sdd.same st).same sm).get (thsOf_in ink x1 (List.mem_of_getElem? hx1))
    refine ⟨c1, [.str x1.1, .str x1.2], rfl, .of hc1, rfl, _, _, rfl, _, _, rfl, rfl, ?_⟩
    refine ⟨rfl, ?_⟩
    simp only [tBM, SlX.tMethSl, tSeq, tIfS, tOr, tAnd, tNot, tB, tCB, tCons, tNil, tVar, tC, tTest, tChain, tRet, tRetN, tNext, tOp, tAndV, tOrV, tNotV, tIf, tThen, tYes, tTup, tLst, tCall, tAsg, tDrop, tDNewK, gName, gTup, gCons, gNil, rI0, rI, CMul, CDiv, tUn, rU, rEq, rNe, scal, LenV, RetB, RetD, List.set_cons_zero, List.set_cons_succ, List.getElem?_cons_zero, List.getElem?_cons_succ, Option.some.injEq, exists_eq_left', exists_eq_left, List.cons.injEq, and_true, true_and, V.int.injEq, V.str.injEq, V.bl.injEq, V.ref.injEq, if_true, if_false, Bool.not_true, Bool.not_false, reduceCtorEq, decide_true, decide_false, Bool.false_eq_true, exists_and_left, Bool.not_eq_true', decide_eq_true_eq, decide_eq_false_iff_not, rLenK, tLenSetT, List.append_nil, and_assoc, or_false, false_or, exists_false, false_and, and_false, rGetL, rSetL, gSub, tAugS, ipI, tPart, tNoPart, not_true, not_false_iff, ite_true, ite_false, List.map_cons, List.map_nil, sp_law_alike, sp_law_mixed, sp_law_row_to, sp_acted, sp_read_log, sp_renamed_house, sp_show_log, sp_there_at, sp_told_by, wipe]
    refine ⟨_, rfl, _, rfl, Dn, _, eDn, gn, by show 2 ≤ _; decide, fun p hp => ?_⟩
    exact ke _ _ _ (sm_new hp) (.mk hp (.cons (.str _) (.cons (.str _) .nil))) (rl.put hx1)
  rintro H15 acc15 es15 s15 e15 r15 rl15 _
  have etk : told (rs.map (mapR f1 id)) = told rs := told_kinds hfi ink
  have ehk : thsOf (rs.map (mapR f1 id)) = (thsOf rs).map (mapT f1 id) := things_kinds hfi ink
  have rtl := rt.len
  have thl := thsOf_len (rs := rs)
  rw [rl15.all (by omega)] at r15
  have er15 : (thsOf rs).map (fun t : Th => dT (mapT f1 id t)) = ((thsOf rs).map (mapT f1 id)).map dT := by rw [List.map_map]; rfl
  rw [er15] at r15
  have s415 := st.trans s15
  have s015 := s014.trans s415
  have tN15 := tNd.same s415
  have tT15 := tT.same s415
  have len2 : (rs.map (mapR f1 id)).length ≤ 900 := by rw [List.length_map]; omega
  refine ⟨_, _, tN15, gN, rs.map (mapR f1 id), tT15, lwN.rows gN, len2, fun Da oa Ha sa ea' => ?_⟩
  refine ⟨ys.length, .inr ⟨_, .of (sa _ _ (s015 _ _ el)), rfl⟩, _, _, tN15.same sa, gN, rs.map (mapR f1 id), tT15.same sa, by rw [List.length_map, hyl], lwN.rows gN, len2, fun pb xsb Hb sb nb eb' rb => ⟨by show 2 ≤ _; decide, fun p16 n16 => ?_⟩⟩
  have s16 := sm_new (o := .lst [V.ref Da, V.ref pb]) n16
  have e16 : upd Hb p16 (.lst [V.ref Da, V.ref pb]) p16 = some (.lst [V.ref Da, V.ref pb]) := upd_same
  generalize upd Hb p16 (.lst [V.ref Da, V.ref pb]) = H16 at s16 e16
  have s1516 := sa.trans (sb.trans s16)
  have s016 := s015.trans s1516
  refine ⟨ks, cs, hy.same s016, g, rs, hz.same s016, lw.rows g, by omega, fun Dc oc Hc sc ec => ⟨by show 2 ≤ _; decide, fun p17 n17 => ?_⟩⟩
  have s17 := sm_new (o := .lst [V.ref Dc, V.ref D6]) n17
  have e17 : upd Hc p17 (.lst [V.ref Dc, V.ref D6]) p17 = some (.lst [V.ref Dc, V.ref D6]) := upd_same
  generalize upd Hc p17 (.lst [V.ref Dc, V.ref D6]) = H17 at s17 e17
  have s1617 := sc.trans s17
  have s017 := s016.trans s1617
  rw [etk] at ea'
  rw [ehk] at rb
  have okT : ∀ t ∈ (thsOf rs).map (mapT f1 id), okN t.1 = true ∧ okN t.2 = true := fun t ht => by
    obtain ⟨u, hu, rfl⟩ := List.mem_map.mp ht
    exact ⟨putN_ok lw.1 u.1 (thsOf_names hu), okf _ (thsOf_in ink u hu)⟩
  refine ⟨.list [.dict (toldP (told rs)), .list (((thsOf rs).map (mapT f1 id)).map dT)], .lst (s1617 _ _ e16) (.cons (.dic (s1617 _ _ (s16 _ _ (sb _ _ ea'))) (told_dic _)) (.cons (.lst (s1617 _ _ (s16 _ _ eb')) (TpAll.same (s16.trans s1617) rb) dT_depth) .nil)),
    .lst e17 (.cons (.dic (s17 _ _ ec) (told_dic _)) (.cons (.lst (s1617 _ _ (s1516 _ _ e15)) (TpAll.same (s1516.trans s1617) r15) dT_depth) .nil)), ?_, ?_⟩
  · refine Sm.list (n := 15000) (fun d hd => ?_) (by show 2 * 15001 ≤ 1000000; decide)
    rcases List.mem_cons.mp hd with e | hd
    · rw [e]; exact (told_all lw (by omega)).mono (by decide)
    · rw [List.mem_singleton.mp hd]
      exact things_sm okT (by rw [List.length_map]; omega)
  refine ⟨rs.map (mapR f1 id), tT15.same (s1516.trans s1617), by rw [List.length_map]; omega, rows_short lwN gN, fun H18 s18 => ?_⟩
  have s1518 := s1516.trans (s1617.trans s18)
  have s018 := s015.trans s1518
  refine ⟨_, _, tN15.same s1518, gN, rs.map (mapR f1 id), rfl, lwN.rows gN, by rw [List.length_map]; omega, fun vR H19 s19 tR => ?_⟩
  have s1519 := s1518.trans s19
  have s019 := s018.trans s19
  have tN19 := tN15.same s1519
  have tT19 := tT15.same s1519
  have sd19 := (sdd.same s415).same s1519
  have nd19 := ndb.same (s12.trans (s13.trans (s14.trans (s415.trans s1519))))
  have eD2c := (s12.trans (s13.trans (s14.trans (s415.trans s1519)))) _ _ eD2b
  have hy19 := hy.same s019
  have hz19 := hz.same s019
  have hu19 := hu.same s019
  obtain ⟨aR, _, rfl, _, _⟩ := tR.tup_at
  obtain ⟨aT, _, rfl, _, _⟩ := tT19.tup_at
  refine ⟨aR, rfl, aT, rfl, .tuple ((rs.map (mapR f1 id)).map dR), .one (.tp tR (rows_depth _)), .one (.tp tT19 (rows_depth _)), (rows_sm lwN gN (by omega)).mono (by decide), ?_⟩
  have din : ∀ d ∈ ds, deedIn ks d := fun d hd => okD_in g (gd d hd)
  have id19 : IDict H19 (.ref D0) ks f0 := ⟨D0, _, rfl, .inr ⟨o0, s019 _ _ eD0⟩, fun k hk => dV_val (pm0.mem_iff.mpr hk)⟩
  refine ⟨_, rfl, _, rfl, _, rfl, .ref a, .ref l2, .ref D0, rfl, ks, cs, f0, ds, hy19, hu19, id19, nk, by omega, by omega, din, fun De oe He se ee => ⟨De, oe, _, rfl, ee, fun D7 hD7 => lc_rel walk_items hD7 ?_ (RlM (fun k => dSI (f1 k, actK f0 ds k)) (sortK ks)) RlM.zero (fun H s => s _ _ ee) ?_ ?_⟩⟩
  · rw [dV_length, (sortG_perm PyData.str ks).length_eq]
    exact lt1 (by omega)
  · rintro i es x Ha Hb Qe Qs hi sm rl ⟨T2, x1, y1, rfl, hT, rfl, fx, fy⟩ ke ks'
    obtain ⟨k, hk', rfl, rfl⟩ := dF_at fx fy
    have hk : k ∈ ks := (sortG_perm PyData.str ks).mem_iff.mp (List.mem_of_getElem? hk')
    have sx := sm_new (o := .tup [V.str k, V.int (actK f0 ds k)]) hT
    obtain ⟨Dn, eDn, gn⟩ := (((sd19.same se).same sm).same sx).get hk
    refine ⟨T2, [V.str k, V.int (actK f0 ds k)], rfl, .of upd_same, rfl, _, _, rfl, _, _, rfl, rfl, ?_⟩
    refine ⟨rfl, ?_⟩
    simp only [tBM, SlX.tMethSl, tSeq, tIfS, tOr, tAnd, tNot, tB, tCB, tCons, tNil, tVar, tC, tTest, tChain, tRet, tRetN, tNext, tOp, tAndV, tOrV, tNotV, tIf, tThen, tYes, tTup, tLst, tCall, tAsg, tDrop, tDNewK, gName, gTup, gCons, gNil, rI0, rI, CMul, CDiv, tUn, rU, rEq, rNe, scal, LenV, RetB, RetD, List.set_cons_zero, List.set_cons_succ, List.getElem?_cons_zero, List.getElem?_cons_succ, Option.some.injEq, exists_eq_left', exists_eq_left, List.cons.injEq, and_true, true_and, V.int.injEq, V.str.injEq, V.bl.injEq, V.ref.injEq, if_true, if_false, Bool.not_true, Bool.not_false, reduceCtorEq, decide_true, decide_false, Bool.false_eq_true, exists_and_left, Bool.not_eq_true', decide_eq_true_eq, decide_eq_false_iff_not, rLenK, tLenSetT, List.append_nil, and_assoc, or_false, false_or, exists_false, false_and, and_false, rGetL, rSetL, gSub, tAugS, ipI, tPart, tNoPart, not_true, not_false_iff, ite_true, ite_false, List.map_cons, List.map_nil, sp_law_alike, sp_law_mixed, sp_law_row_to, sp_acted, sp_read_log, sp_renamed_house, sp_show_log, sp_there_at, sp_told_by, wipe]
    refine ⟨_, rfl, _, rfl, Dn, _, eDn, gn, ?_⟩
    refine ⟨by show 2 ≤ _; decide, fun p hp => ?_⟩
    exact ke _ _ _ (sx.trans (sm_new hp)) (.mk hp (.cons (.str _) (.cons (.int _) .nil))) (rl.put hk')
  rintro H20 acc20 es20 s20 e20 r20 rl20 _
  rw [rl20.all (by rw [dV_length]; exact Nat.le_refl _)] at r20
  have er20 : (sortK ks).map (fun k => dSI (f1 k, actK f0 ds k)) = (esD ks f1 (actK f0 ds)).map dSI := by
    unfold esD
    rw [List.map_map]
    rfl
  rw [er20] at r20
  dsimp only [tNil]
  refine sorted_of (.inl (.of e20)) r20 (si_alike _) (si_so _) (si_dp _) fun p21 ys21 H21 n21 s21 e21 r21 => ?_
  rw [sortD_G] at r21
  refine dict_of e21 si_at r21 (esD_nd hfi pm0 nk din) fun D8 H22 n22 s22 eD8 => ?_
  rw [esD_sorted hfi pm0 nk din] at eD8
  refine ⟨D8, _, rfl, eD8, trivial, fun o8 => ?_⟩
  have hn22 : H20 D8 = none := s21.free n22
  have s2022 : Same H20 (upd H22 D8 (.frz o8 (.dK (dF (sortK (ks.map f1)) (AN ls f1 f0 ds))))) := sm_upd (s21.trans s22) hn22
  have eD8' : upd H22 D8 (.frz o8 (.dK (dF (sortK (ks.map f1)) (AN ls f1 f0 ds)))) D8 = some (.frz o8 (.dK (dF (sortK (ks.map f1)) (AN ls f1 f0 ds)))) := upd_same
  generalize upd H22 D8 (.frz o8 (.dK (dF (sortK (ks.map f1)) (AN ls f1 f0 ds)))) = H23 at s2022 eD8'
  have s1923 := se.trans (s20.trans s2022)
  have s023 := s019.trans s1923
  have sd23 := sd19.same s1923
  have hyl2 := tl2.len
  refine ⟨_, rfl, l2, rfl, ⟨_, .of (s023 _ _ el2)⟩, fun D9 hD9 => lc_rel (walk_tup (xs := ys2)) hD9 (lt1 (by omega)) (RlM (fun d => dD (mapD f1 d)) ds) RlM.zero (fun H s => .of (s _ _ (s023 _ _ el2))) ?_ ?_⟩
  · rintro i es x Ha Hb Qe Qs hi sm rl ⟨rfl, hx⟩ ke ks'
    obtain ⟨x1, hx1, tx1⟩ := tl2.nth hx
    have dix := din x1 (List.mem_of_getElem? hx1)
    have tx := tx1.same (s023.trans sm)
    have sdx := sd23.same sm
    refine ⟨rfl, ?_⟩
    simp only [tBM, SlX.tMethSl, tSeq, tIfS, tOr, tAnd, tNot, tB, tCB, tCons, tNil, tVar, tC, tTest, tChain, tRet, tRetN, tNext, tOp, tAndV, tOrV, tNotV, tIf, tThen, tYes, tTup, tLst, tCall, tAsg, tDrop, tDNewK, gName, gTup, gCons, gNil, rI0, rI, CMul, CDiv, tUn, rU, rEq, rNe, scal, LenV, RetB, RetD, List.set_cons_zero, List.set_cons_succ, List.getElem?_cons_zero, List.getElem?_cons_succ, Option.some.injEq, exists_eq_left', exists_eq_left, List.cons.injEq, and_true, true_and, V.int.injEq, V.str.injEq, V.bl.injEq, V.ref.injEq, if_true, if_false, Bool.not_true, Bool.not_false, reduceCtorEq, decide_true, decide_false, Bool.false_eq_true, exists_and_left, Bool.not_eq_true', decide_eq_true_eq, decide_eq_false_iff_not, rLenK, tLenSetT, List.append_nil, and_assoc, or_false, false_or, exists_false, false_and, and_false, rGetL, rSetL, gSub, tAugS, ipI, tPart, tNoPart, not_true, not_false_iff, ite_true, ite_false, List.map_cons, List.map_nil, sp_law_alike, sp_law_mixed, sp_law_row_to, sp_acted, sp_read_log, sp_renamed_house, sp_show_log, sp_there_at, sp_told_by, wipe]
    cases x1 with
    | put k =>
      obtain ⟨c1, w1, w2, rfl, hc1, t1, t2⟩ := tx.two
      cases t1
      cases t2
      refine ix_t hc1 (atI_0 _ _) ⟨rfl, ?_⟩
      rw [if_pos rfl]
      obtain ⟨Dn, eDn, gn⟩ := sdx.get dix
      refine ix_t hc1 (atI_0 _ _) ⟨_, rfl, _, rfl, c1, _, 1, _, rfl, rfl, .of hc1, atI_1 _ _ _, Dn, _, eDn, gn, by show 2 ≤ _; decide, fun p hp => ?_⟩
      exact ke _ _ _ (sm_new hp) (.mk hp (.cons (.str _) (.cons (.str _) .nil)) : Tp _ _ (dD (mapD f1 (.put k)))) (rl.put hx1)
    | call c =>
      have gc := gd _ (List.mem_of_getElem? hx1)
      have cl6 := part_len (g.part c gc).1 hk6.2
      obtain ⟨c1, w1, w2, rfl, hc1, t1, t2⟩ := tx.two
      cases t1
      refine ix_t hc1 (atI_0 _ _) ⟨rfl, ?_⟩
      rw [if_neg (by decide)]
      refine fun dn ndn => ⟨.call c, tx.same (sm_new ndn), ks, f1, sdx.same (sm_new ndn), id, ⟨dn, [], rfl, .inl upd_same, fun n => rfl⟩, ⟨by omega, dix.2⟩, fun v Hc sc tv => ?_⟩
      exact ke _ (dD (mapD f1 (.call c))) _ ((sm_new ndn).trans sc) tv (rl.put hx1)
  rintro H24 acc24 es24 s24 e24 r24 rl24 _
  rw [rl24.all (by omega)] at r24
  have er24 : ds.map (fun d => dD (mapD f1 d)) = (ds.map (mapD f1)).map dD := by rw [List.map_map]; rfl
  rw [er24] at r24
  refine tuple_of e24 r24 fun vD H25 s25 tD => ?_
  have s2325 := s24.trans s25
  have s025 := s023.trans s2325
  have sd25 := sd23.same s2325
  have lsl := pm0.length_eq
  refine ⟨_, rfl, D0, o0, rfl, .inl ⟨_, s025 _ _ eD0, fun D10 hD10 => lc_rel walk_keys hD10 (by rw [dV_length]; exact lt1 (by omega)) (RlM (fun k => dSI (f1 k, f0 k)) ls) RlM.zero (fun H s => s _ _ (s025 _ _ eD0)) ?_ ?_⟩⟩
  · rintro i es x Ha Hb Qe Qs hi sm rl ⟨rfl, kk, vv, hx, rfl⟩ ke ks'
    obtain ⟨k, hk', ek⟩ : ∃ k, ls[i]? = some k ∧ (kk, vv) = (.inr k, .int (f0 k)) := by
      have hx' : (ls.map fun k => ((.inr k : Key), V.int (f0 k)))[i]? = some (kk, vv) := hx
      rw [List.getElem?_map] at hx'
      cases e : ls[i]? with
      | none => rw [e] at hx'; cases hx'
      | some k => rw [e] at hx'; cases hx'; exact ⟨k, rfl, rfl⟩
    cases ek
    have hkl := List.mem_of_getElem? hk'
    have hk : k ∈ ks := pm0.mem_iff.mp hkl
    obtain ⟨Dn, eDn, gn⟩ := (sd25.same sm).get hk
    refine ⟨rfl, ?_⟩
    simp only [tBM, SlX.tMethSl, tSeq, tIfS, tOr, tAnd, tNot, tB, tCB, tCons, tNil, tVar, tC, tTest, tChain, tRet, tRetN, tNext, tOp, tAndV, tOrV, tNotV, tIf, tThen, tYes, tTup, tLst, tCall, tAsg, tDrop, tDNewK, gName, gTup, gCons, gNil, rI0, rI, CMul, CDiv, tUn, rU, rEq, rNe, scal, LenV, RetB, RetD, List.set_cons_zero, List.set_cons_succ, List.getElem?_cons_zero, List.getElem?_cons_succ, Option.some.injEq, exists_eq_left', exists_eq_left, List.cons.injEq, and_true, true_and, V.int.injEq, V.str.injEq, V.bl.injEq, V.ref.injEq, if_true, if_false, Bool.not_true, Bool.not_false, reduceCtorEq, decide_true, decide_false, Bool.false_eq_true, exists_and_left, Bool.not_eq_true', decide_eq_true_eq, decide_eq_false_iff_not, rLenK, tLenSetT, List.append_nil, and_assoc, or_false, false_or, exists_false, false_and, and_false, rGetL, rSetL, gSub, tAugS, ipI, tPart, tNoPart, not_true, not_false_iff, ite_true, ite_false, List.map_cons, List.map_nil, sp_law_alike, sp_law_mixed, sp_law_row_to, sp_acted, sp_read_log, sp_renamed_house, sp_show_log, sp_there_at, sp_told_by, wipe]
    refine ⟨_, rfl, _, rfl, Dn, _, eDn, gn, _, rfl, _, rfl, D0, _, rfl, .inl ⟨_, .inr k, .inr ⟨o0, sm _ _ (s025 _ _ eD0)⟩, rfl, (dV_val hkl).symm⟩, by show 2 ≤ _; decide, fun p hp => ?_⟩
    exact ke _ _ _ (sm_new hp) (.mk hp (.cons (.str _) (.cons (.int _) .nil))) (rl.put hk')
  rintro H26 acc26 es26 s26 e26 r26 rl26 _
  rw [rl26.all (by rw [dV_length]; exact Nat.le_refl _)] at r26
  have er26 : ls.map (fun k => dSI (f1 k, f0 k)) = (esN ls f1 f0).map dSI := by
    unfold esN
    rw [List.map_map]
    rfl
  rw [er26] at r26
  refine dict_of e26 si_at r26 (esN_nd2 hfi pm0 nk) fun D11 H27 n27 s27 eD11 => ?_
  rw [esN_dict hfi pm0 nk] at eD11
  have s2527 := s26.trans s27
  have s1927 := s1923.trans (s2325.trans s2527)
  have nkf := nodup_map_on nk hfi
  have idN : IDict H27 (.ref D11) (ks.map f1) (bN ls f1 f0) := ⟨D11, _, rfl, .inl eD11, fun z hz => dV_val ((pm0.map f1).mem_iff.mpr hz)⟩
  refine ⟨ks.map f1, _, tN19.same s1927, bN ls f1 f0, ds.map (mapD f1), tD.same s2527, idN, nkf, by rw [List.length_map]; omega, by rw [List.length_map]; omega, fun d hd => ?_, fun D12 o12 H28 s28 e28 => ?_⟩
  · obtain ⟨d', hd', rfl⟩ := List.mem_map.mp hd
    exact deedIn_map (din d' hd')
  have s2328 := s2325.trans (s2527.trans s28)
  refine ⟨D8, rfl, .dict (dFP (sortK (ks.map f1)) (AN ls f1 f0 ds)), .one (.dic e28 (dF_dic _ _)), .one (.dic (s2328 _ _ eD8') (dF_dic _ _)), (AN_sm bd0 okf hk6.2 (by omega)).mono (by decide), ?_⟩
  have s1928 := s1927.trans s28
  have s028 := s019.trans s1928
  have sd2 := same_dict (s1928 _ _ eD2c)
  have nd28 := nd19.same s1928
  have okg : ∀ n, okN n = true → okN (g1 n) = true := fun n hn => by
    rw [← hg]
    exact nmS_ok lw.2 pn (putN_ok lw.1) n hn
  have lwG := logW_names lw okg gi
  refine ⟨_, rfl, l, rfl, ⟨_, .of (s028 _ _ el)⟩, fun D13 hD13 => lc_rel (walk_tup (xs := ys)) hD13 (lt1 (by omega)) (RlM (fun r => dR (mapR id g1 r)) rs) RlM.zero (fun H s => .of (s _ _ (s028 _ _ el))) ?_ ?_⟩
  · rintro i es x Ha Hb Qe Qs hi sm rl ⟨rfl, hx⟩ ke ks'
    obtain ⟨x1, hx1, tx1⟩ := tl.nth hx
    refine ⟨rfl, ?_⟩
    simp only [tBM, SlX.tMethSl, tSeq, tIfS, tOr, tAnd, tNot, tB, tCB, tCons, tNil, tVar, tC, tTest, tChain, tRet, tRetN, tNext, tOp, tAndV, tOrV, tNotV, tIf, tThen, tYes, tTup, tLst, tCall, tAsg, tDrop, tDNewK, gName, gTup, gCons, gNil, rI0, rI, CMul, CDiv, tUn, rU, rEq, rNe, scal, LenV, RetB, RetD, List.set_cons_zero, List.set_cons_succ, List.getElem?_cons_zero, List.getElem?_cons_succ, Option.some.injEq, exists_eq_left', exists_eq_left, List.cons.injEq, and_true, true_and, V.int.injEq, V.str.injEq, V.bl.injEq, V.ref.injEq, if_true, if_false, Bool.not_true, Bool.not_false, reduceCtorEq, decide_true, decide_false, Bool.false_eq_true, exists_and_left, Bool.not_eq_true', decide_eq_true_eq, decide_eq_false_iff_not, rLenK, tLenSetT, List.append_nil, and_assoc, or_false, false_or, exists_false, false_and, and_false, rGetL, rSetL, gSub, tAugS, ipI, tPart, tNoPart, not_true, not_false_iff, ite_true, ite_false, List.map_cons, List.map_nil, sp_law_alike, sp_law_mixed, sp_law_row_to, sp_acted, sp_read_log, sp_renamed_house, sp_show_log, sp_there_at, sp_told_by, wipe]
    refine ⟨x1, tx1.same (s028.trans sm), ks, id, sd2.same sm, g1, nd28.same sm, kok x1 (List.mem_of_getElem? hx1), fun v Hc sc tv => ?_⟩
    exact ke _ _ _ sc tv (rl.put hx1)
  rintro H29 acc29 es29 s29 e29 r29 rl29 _
  rw [rl29.all (by omega)] at r29
  have er29 : rs.map (fun r => dR (mapR id g1 r)) = (rs.map (mapR id g1)).map dR := by rw [List.map_map]; rfl
  rw [er29] at r29
  refine tuple_of e29 r29 fun vG H30 s30 tG => ?_
  have s2830 := s29.trans s30
  have s030 := s028.trans s2830
  refine ⟨ks, cs, hy.same s030, g, rs.map (mapR id g1), tG, lwG.rows g, by rw [List.length_map]; omega, fun D14 o14 H31 s31 e31 => ?_⟩
  refine ⟨ks, cs, hy.same (s030.trans s31), g, rs, hz.same (s030.trans s31), lw.rows g, by omega, fun D15 o15 H32 s32 e32 => ?_⟩
  have s1132 := s12.trans (s13.trans (s14.trans (s415.trans (s1519.trans (s1928.trans (s2830.trans (s31.trans s32)))))))
  have sd4b := sd4.same s1132
  have eD4b := s1132 _ _ eD4
  have s032 := s030.trans (s31.trans s32)
  have tnd := told_nd rs
  have tll := toldAt_len rs [] 0
  refine ⟨_, rfl, D15, o15, rfl, .inl ⟨_, e32, fun D16 hD16 => lc_rel walk_keys hD16 ?_ (RlM (fun p => dIO (p.1, p.2.map g1)) (told rs)) RlM.zero (fun H s => s _ _ e32) ?_ ?_⟩⟩
  · unfold toldD
    rw [List.length_map]
    unfold told
    exact lt1 (by omega)
  · rintro i es x Ha Hb Qe Qs hi sm rl ⟨rfl, kk, vv, hx, rfl⟩ ke ks'
    obtain ⟨p, hp, rfl⟩ := toldD_at hx
    refine ⟨rfl, ?_⟩
    simp only [tBM, SlX.tMethSl, tSeq, tIfS, tOr, tAnd, tNot, tB, tCB, tCons, tNil, tVar, tC, tTest, tChain, tRet, tRetN, tNext, tOp, tAndV, tOrV, tNotV, tIf, tThen, tYes, tTup, tLst, tCall, tAsg, tDrop, tDNewK, gName, gTup, gCons, gNil, rI0, rI, CMul, CDiv, tUn, rU, rEq, rNe, scal, LenV, RetB, RetD, List.set_cons_zero, List.set_cons_succ, List.getElem?_cons_zero, List.getElem?_cons_succ, Option.some.injEq, exists_eq_left', exists_eq_left, List.cons.injEq, and_true, true_and, V.int.injEq, V.str.injEq, V.bl.injEq, V.ref.injEq, if_true, if_false, Bool.not_true, Bool.not_false, reduceCtorEq, decide_true, decide_false, Bool.false_eq_true, exists_and_left, Bool.not_eq_true', decide_eq_true_eq, decide_eq_false_iff_not, rLenK, tLenSetT, List.append_nil, and_assoc, or_false, false_or, exists_false, false_and, and_false, rGetL, rSetL, gSub, tAugS, ipI, tPart, tNoPart, not_true, not_false_iff, ite_true, ite_false, List.map_cons, List.map_nil, sp_law_alike, sp_law_mixed, sp_law_row_to, sp_acted, sp_read_log, sp_renamed_house, sp_show_log, sp_there_at, sp_told_by, wipe]
    refine ⟨_, rfl, D4, rfl, .inl ⟨_, .inl (sm _ _ eD4b)⟩, _, rfl, _, rfl, D15, optV p.2, rfl, .inl ⟨_, .inl (p.1 : Nat), .inr ⟨o15, sm _ _ e32⟩, rfl, (valV_at tnd hp).symm⟩, ?_⟩
    cases q2 : p.2 with
    | none =>
      refine .inr ⟨rfl, _, .inl (sm _ _ eD4b), by show 2 ≤ _; decide, fun pp hpp => ?_⟩
      refine ke _ _ _ (sm_new hpp) (.mk hpp (.cons (.int _) (.cons .non .nil))) (rl.put hp |> fun z => ?_)
      rw [q2] at z
      exact z
    | some n =>
      have hn : n ∈ putN rs := by
        rcases told_names rs [] 0 p (List.mem_of_getElem? hp) n q2 with m | m
        · exact nomatch m
        · exact m
      obtain ⟨Dn, eDn, gn⟩ := (sd4b.same sm).get hn
      cases eDn
      refine .inl ⟨_, gn, by show 2 ≤ _; decide, fun pp hpp => ?_⟩
      refine ke _ _ _ (sm_new hpp) (.mk hpp (.cons (.int _) (.cons (.str _) .nil))) (rl.put hp |> fun z => ?_)
      rw [q2] at z
      exact z
  rintro H33 acc33 es33 s33 e33 r33 rl33 _
  rw [rl33.all (by unfold toldD; rw [List.length_map]; exact Nat.le_refl _)] at r33
  have er33 : (told rs).map (fun p => dIO (p.1, p.2.map g1)) = (told (rs.map (mapR id g1))).map dIO := by
    rw [told_other gi ink, List.map_map]
    rfl
  rw [er33] at r33
  dsimp only [tNil]
  refine dict_of e33 io_at r33 (toldD_nd _) fun D17 H34 n34 s34 eD17 => ?_
  refine ⟨D17, _, rfl, eD17, trivial, fun o17 => ⟨D17, rfl, .dict (toldP (told (rs.map (mapR id g1)))), .one (.dic (o := o14) ?_ (told_dic _)), .one (.dic upd_same (told_dic _)), (told_all lwG (by rw [List.length_map]; omega)).mono (by decide), q _ ?_⟩⟩
  · rw [upd_ne (ne_of_none (s33 _ _ (s32 _ _ e31)) n34)]
    exact s34 _ _ (s33 _ _ (s32 _ _ e31))
  · exact sm_upd (s032.trans (s33.trans s34)) ((s032.trans s33).free n34)
end
end C9
/-! ## F25 -/
set_option maxHeartbeats 4000000
namespace C9
open PySem PySem.Spec PyProof.Rows L2 C8
theorem LogW.sub {ks : List Str} {cs : List (List Str)} {rs rs' : List Row} (h : LogW ks cs rs) (s : rs'.Sublist rs) : LogW ks cs rs' := ⟨fun r hr => h.1 r (s.subset hr), (putN_sub s).nodup h.2⟩
/-- log[:n] -/
theorem slice_rows {K : PySem.W.Frag} {H : Hp} {v : V} {rs : List Row} {n : Int} {Q : VK} (t : Tp H v (.tuple (rs.map dR))) (hn : 0 ≤ n) (q : ∀ v' H' (rs' : List Row), Same H H' → Tp H' v' (.tuple (rs'.map dR)) → rs'.Sublist rs → Q v' H') : rSlA K v none (some n) H Q := by
  obtain ⟨a, xs, rfl, e, tx⟩ := t.tup_at
  refine ⟨a, xs, rfl, .of e, fun _ => q _ _ rs (.refl _) t (List.Sublist.refl _), fun _ p hp => ?_⟩
  rw [cut_to hn]
  refine q _ _ (rs.take n.toNat) (sm_new hp) (.mk hp ?_) (List.take_sublist _ _)
  rw [List.map_take]
  exact TpAll.take _ tx
def singleD : Deed → Bool
  | .put _ => true
  | .call c => decide (c.length = 1)
section
variable {K : PySem.W.Frag} {mg : Str → Option Value} {P : Program} {w : World} {base : Heap}
def sp_law (K : PySem.W.Frag) : Sp := fun vs H Q E => ∃ x, vs = [x] ∧ ∃ (a : Addr) (ns : List Int), x = .ref a ∧ SqL K H a (ns.map V.int) ∧ ns.length ≤ 63 ∧ ∀ H', Q (.bl true) H'
theorem sc_law : FnScope ["_law_script", "_law_bag_here", "_law_turn", "_law_house_here", "_law_log_here", "_law_stretch_here", "_law_kinds", "_law_single", "_law_amounts_here", "_law_deed"] ["_law_script"] (defScope s_law) := ⟨rfl, rfl, rfl, by decide +kernel, rfl, by decide +kernel, by decide +kernel⟩
theorem g_law (T : Txt K mg) : CalG P w K mg base 10 "law" (sp_law K) := by
  refine T.calG 55 49 rfl rfl sc_law
    (fun _ _ _ _ _ _ us h => match us, h with | [_], _ => rfl)
    (fun vs H Q E h => by obtain ⟨_, rfl, _⟩ := h; rfl) (fun f cdv A outer s H vs Q E hG hr h => ?_)
  have nd := sc_law.nd
  refine ⟨_, (pss_cons (ps_set (i := 1) nd rfl (.inl rfl) (pe_c (c_law_bag T) hr (by decide) (by rfl) (pa_cons (pv 0) pa_nil)))
     (pss_cons (ps_for PassesOwn.never rfl (pi_range1 (by rfl) (T.free 65) (pa_cons pe_int pa_nil)) (pg_name (i := 2) nd rfl (by first | exact .inl rfl | exact .inr rfl))
      (pss_cons (ps_set (i := 3) nd rfl (.inl rfl) (pe_c (c_law_house T) hr (by decide) (by rfl) (pa_cons (pv 1) (pa_cons (pe_c (c_law_one T) hr (by decide) (by rfl) (pa_cons (pv 1) (pa_cons (pe_lst (pa_cons pe_int (pa_cons pe_int (pa_cons pe_int pa_nil)))) pa_nil))) (pa_cons (pe_c (c_law_one T) hr (by decide) (by rfl) (pa_cons (pv 1) (pa_cons (pe_lst (pa_cons pe_int (pa_cons pe_int (pa_cons pe_int pa_nil)))) pa_nil))) pa_nil)))))
     (pss_cons (ps_par (i := 4) (j := 5) rfl nd rfl rfl (by decide) rfl rfl (pa_cons (pe_c (c_law_log T) hr (by decide) (by rfl) (pa_cons (pv 1) (pa_cons (pv 3) (pa_cons pe_int pa_nil)))) (pa_cons (pe_c (c_law_stretch T) hr (by decide) (by rfl) (pa_cons (pv 1) (pa_cons (pv 3) (pa_cons pe_int pa_nil)))) pa_nil)) rfl)
     (pss_cons (ps_if (pt_not (pt_val (pe_g (g_law_goes_along T) hG hr (by decide) (by rfl) (pa_cons (pv 1) (pa_cons (pv 3) (pa_cons (pv 4) (pa_cons (pv 5) (pa_cons (pe_c (c_law_amounts T) hr (by decide) (by rfl) (pa_cons (pv 1) (pa_cons (pv 3) (pa_cons pe_int pa_nil)))) pa_nil)))))))) (pss_one (ps_ret pe_bl)) pss_nil)
     (pss_cons (ps_if (pt_not (pt_val (pe_g (g_law_is_part_right T) hG hr (by decide) (by rfl) (pa_cons (pv 1) (pa_cons (pv 3) (pa_cons (pe_slice (k_slT K) (pv 4) po_none (po_some pe_int)) pa_nil)))))) (pss_one (ps_ret pe_bl)) pss_nil)
     (pss_cons (ps_set (i := 6) nd rfl (.inl rfl) (pe_callTy (k_tuple K) (by rfl) (T.free 55) rfl (pa_cons (pe_c (c_law_mixed T) hr (by decide) (by rfl) (pa_cons (pv 1) (pa_cons (pe_callTy (k_list K) (by rfl) (T.free 59) rfl (pa_cons (pe_ix (k_ixT K) (pv 3) pe_int (fun _ _ => rfl)) pa_nil)) pa_nil))) pa_nil)))
     (pss_cons (ps_set (i := 7) nd rfl (.inl rfl) (pe_callTy (k_tuple K) (by rfl) (T.free 55) rfl (pa_cons (pe_lc rfl nd (k_piT K (pi_tup (pv 5))) (blkOk_by (own := [("_law_deed", 9)]) (by rfl)) (fun _ _ _ _ _ => (pg_name (i := 9) nd rfl (by first | exact .inl rfl | exact .inr rfl))) (fun _ _ _ _ _ => (pts_one (PW.pt (pw_or (pt_cmpR op_eq (pe_ix (k_ixT K) (pv 9) pe_int (fun _ _ => rfl)) pe_str rfl) (pw_or1 (pt_cmpR op_eq (pe_callB (k_len K) (by rfl) (T.free 52) rfl (pa_cons (pe_ix (k_ixT K) (pv 9) pe_int (fun _ _ => rfl)) pa_nil)) pe_int rfl)))))) (fun _ _ _ _ _ => (pv 9))) pa_nil)))
     (pss_cons (ps_set (i := 8) nd rfl (.inl rfl) (pe_c (c_law_amounts T) hr (by decide) (by rfl) (pa_cons (pv 1) (pa_cons (pv 3) (pa_cons pe_int pa_nil)))))
     (pss_one (ps_if (pt_not (pt_val (pe_g (g_law_alike T) hG hr (by decide) (by rfl) (pa_cons (pe_c (c_acted T) hr (by decide) (by rfl) (pa_cons (pe_c (c_reordered T) hr (by decide) (by rfl) (pa_cons (pv 3) (pa_cons (pv 6) pa_nil))) (pa_cons (pv 7) (pa_cons (pv 8) pa_nil)))) (pa_cons (pe_c (c_acted T) hr (by decide) (by rfl) (pa_cons (pv 3) (pa_cons (pv 7) (pa_cons (pv 8) pa_nil)))) pa_nil))))) (pss_one (ps_ret pe_bl)) pss_nil))))))))))
     (pss_one (ps_ret pe_bl)))), ?_⟩
  obtain ⟨v0, rfl, h⟩ := h
  rw [show L2.start ["_law_script", "_law_bag_here", "_law_turn", "_law_house_here", "_law_log_here", "_law_stretch_here", "_law_kinds", "_law_single", "_law_amounts_here", "_law_deed"] [v0] = [some v0, none, none, none, none, none, none, none, none, none] from rfl]
  obtain ⟨a, ns, rfl, ha, hl, q⟩ := h
  simp only [tPar, tBM, SlX.tMethSl, tSeq, tIfS, tOr, tAnd, tNot, tB, tCB, tCons, tNil, tVar, tC, tTest, tChain, tRet, tRetN, tNext, tOp, tAndV, tOrV, tNotV, tIf, tThen, tYes, tTup, tLst, tCall, tAsg, tDrop, tDNewK, gName, gTup, gCons, gNil, rI0, rI, CMul, CDiv, tUn, rU, rEq, rNe, scal, LenV, RetB, RetD, List.set_cons_zero, List.set_cons_succ, List.getElem?_cons_zero, List.getElem?_cons_succ, Option.some.injEq, exists_eq_left', exists_eq_left, List.cons.injEq, and_true, true_and, V.int.injEq, V.str.injEq, V.bl.injEq, V.ref.injEq, if_true, if_false, Bool.not_true, Bool.not_false, reduceCtorEq, decide_true, decide_false, Bool.false_eq_true, exists_and_left, Bool.not_eq_true', decide_eq_true_eq, decide_eq_false_iff_not, rLenK, tLenSetT, List.append_nil, and_assoc, or_false, false_or, exists_false, false_and, and_false, rGetL, rSetL, gSub, tAugS, ipI, tPart, tNoPart, not_true, not_false_iff, ite_true, ite_false, List.map_cons, List.map_nil, sp_law_alike, sp_law_amounts, sp_law_bag, sp_law_goes_along, sp_law_house, sp_law_is_part_right, sp_law_log, sp_law_mixed, sp_law_one, sp_law_stretch, sp_acted, sp_reordered]
  refine ⟨ns, ha, hl, fun b H1 s1 hb => ?_⟩
  refine ⟨2, rfl, by decide, by decide, for_it (walk_range (lo := 0) (n := 2)) (fun i σ H3 => ∃ x2 x3 x4 x5 x6 x7 x8, σ = [some (.ref a), some (.ref b), x2, x3, x4, x5, x6, x7, x8, none] ∧ Same H1 H3) ?_ ?_ ?_ ?_⟩
  · exact ⟨none, none, none, none, none, none, none, rfl, .refl _⟩
  · exact fun i σ H3 _ _ => trivial
  · rintro i x σ H3 H4 hi ⟨x2, x3, x4, x5, x6, x7, x8, rfl, s3⟩ ⟨rfl, rfl⟩
    have hb3 := hb.same s3
    simp only [tPar, tBM, SlX.tMethSl, tSeq, tIfS, tOr, tAnd, tNot, tB, tCB, tCons, tNil, tVar, tC, tTest, tChain, tRet, tRetN, tNext, tOp, tAndV, tOrV, tNotV, tIf, tThen, tYes, tTup, tLst, tCall, tAsg, tDrop, tDNewK, gName, gTup, gCons, gNil, rI0, rI, CMul, CDiv, tUn, rU, rEq, rNe, scal, LenV, RetB, RetD, List.set_cons_zero, List.set_cons_succ, List.getElem?_cons_zero, List.getElem?_cons_succ, Option.some.injEq, exists_eq_left', exists_eq_left, List.cons.injEq, and_true, true_and, V.int.injEq, V.str.injEq, V.bl.injEq, V.ref.injEq, if_true, if_false, Bool.not_true, Bool.not_false, reduceCtorEq, decide_true, decide_false, Bool.false_eq_true, exists_and_left, Bool.not_eq_true', decide_eq_true_eq, decide_eq_false_iff_not, rLenK, tLenSetT, List.append_nil, and_assoc, or_false, false_or, exists_false, false_and, and_false, rGetL, rSetL, gSub, tAugS, ipI, tPart, tNoPart, not_true, not_false_iff, ite_true, ite_false, List.map_cons, List.map_nil, sp_law_alike, sp_law_amounts, sp_law_bag, sp_law_goes_along, sp_law_house, sp_law_is_part_right, sp_law_log, sp_law_mixed, sp_law_one, sp_law_stretch, sp_acted, sp_reordered]
    refine ⟨by show 3 ≤ _; decide, fun p1 n1 => ⟨hb3.same (sm_new n1), _, .inl (.of upd_same), by simp, by show 3 ≤ 1000; decide, fun v H5 hv s5 => ⟨by show 3 ≤ _; decide, fun p2 n2 => ?_⟩⟩⟩
    have s45 := (sm_new (o := .lst [V.int 3, V.int 4, V.int 6]) n1).trans s5
    refine ⟨hb3.same (s45.trans (sm_new n2)), _, .inl (.of upd_same), by simp, by show 3 ≤ 1000; decide, fun v' H6 hv' s6 => ?_⟩
    have s46 := s45.trans ((sm_new (o := .lst [V.int 4, V.int 3, V.int 8]) n2).trans s6)
    obtain ⟨m, rfl, m1, m6⟩ : ∃ m : Int, v = .int m ∧ 1 ≤ m ∧ m ≤ 6 := by
      simp only [List.mem_cons, List.not_mem_nil, or_false] at hv
      rcases hv with rfl | rfl | rfl <;> exact ⟨_, rfl, by decide, by decide⟩
    obtain ⟨n, rfl, k1, k8⟩ : ∃ n : Int, v' = .int n ∧ 1 ≤ n ∧ n ≤ 8 := by
      simp only [List.mem_cons, List.not_mem_nil, or_false] at hv'
      rcases hv' with rfl | rfl | rfl <;> exact ⟨_, rfl, by decide, by decide⟩
    refine ⟨m, rfl, n, rfl, hb3.same s46, m1, m6, k1, k8, fun vh ks cs H7 s7 th g => ?_⟩
    have s47 := s46.trans s7
    have hk6 := okNs_len g.names
    obtain ⟨okk, nk⟩ := okNs_at g.names
    have c1 := g.n1
    have c8 := g.n8
    have kne : ks ≠ [] := fun e => by rw [e] at hk6; exact absurd hk6.1 (by decide)
    have cne : cs ≠ [] := fun e => by rw [e] at c1; exact absurd c1 (by decide)
    refine ⟨hb3.same s47, ks, cs, th, 30, rfl, by decide, kne, cne, hk6.2, c8, fun vl rs H8 s8 tl ll lw => ?_⟩
    have s48 := s47.trans s8
    refine ⟨hb3.same s48, ks, cs, th.same s8, by decide, by decide, kne, cne, hk6.2, c8, fun vs' ds H9 s9 ts dl gd => ?_⟩
    have s49 := s48.trans s9
    have s79 := s8.trans s9
    refine ⟨hb3.same s49, ks, cs, th.same s79, by decide, by decide, nk, hk6.2, fun D10 o10 ls f0 H10 s10 pm0 bd0 e10 => ?_⟩
    have s410 := s49.trans s10
    have s710 := s79.trans s10
    have dl16 : ds.length ≤ 16 := by omega
    refine ⟨hb3.same s410, ks, cs, th.same s710, g, rs, tl.same (s9.trans s10), ll, lw, ds, ts.same s10, by omega, gd, f0, ⟨o10, ls, pm0, bd0, e10⟩, fun H11 s11 => ?_⟩
    have s411 := s410.trans s11
    have s711 := s710.trans s11
    refine ⟨_, rfl, 12, rfl, slice_rows (tl.same (s9.trans (s10.trans s11))) (by decide) fun vl2 H12 rs2 s12 tl2 sub => ?_⟩
    have s412 := s411.trans s12
    have s712 := s711.trans s12
    refine ⟨hb3.same s412, ks, cs, th.same s712, g, rs2, tl2, by have := sub.length_le; omega, lw.sub sub, fun H13 s13 => ?_⟩
    have s413 := s412.trans s13
    have s713 := s712.trans s13
    obtain ⟨ah, w1, w2, rfl, eah, u1, u2⟩ := (th.same s713).two
    obtain ⟨bk, rfl, ebk⟩ := u1.strs_at
    refine ix_t eah (atI_0 _ _) ⟨bk, _, rfl, .inr (.of ebk), fun l14 n14 => ⟨l14, rfl, hb3.same (s413.trans (sm_new n14)), _, .of upd_same, by rw [List.length_map]; omega, fun p15 ys15 H15 s15 n15 e15 pm15 => ?_⟩⟩
    obtain ⟨k2, rfl, pk2⟩ := perm_strs pm15
    have s1315 := (sm_new (o := .lst (ks.map V.str)) n14).trans s15
    have tk15 : TpAll H15 (k2.map V.str) (k2.map .str) := TpAll.strs.mpr rfl
    refine tuple_of e15 tk15 fun vk H16 s16 tk => ?_
    have s1316 := s1315.trans s16
    have s716 := s713.trans s1316
    have s416 := s413.trans s1316
    have ts16 := ts.same (s10.trans (s11.trans (s12.trans (s13.trans s1316))))
    obtain ⟨ad, yd, rfl, ead, td⟩ := ts16.tup_at
    have ydl := td.len
    refine ⟨_, rfl, ad, rfl, ⟨_, .of ead⟩, fun D hD => lc_rel (walk_tup (xs := yd)) hD (lt1 (by omega)) (RlF (fun d => if singleD d = true then some (dD d) else none) ds) RlF.zero (fun H s => .of (s _ _ ead)) ?_ ?_⟩
    · rintro j es x Ha Hb Qe Qs hj sm rl ⟨rfl, hx⟩ ke ks'
      obtain ⟨x1, hx1, tx1⟩ := td.nth hx
      have tx := tx1.same sm
      refine ⟨rfl, ?_⟩
      simp only [tBM, SlX.tMethSl, tSeq, tIfS, tOr, tAnd, tNot, tB, tCB, tCons, tNil, tVar, tC, tTest, tChain, tRet, tRetN, tNext, tOp, tAndV, tOrV, tNotV, tIf, tThen, tYes, tTup, tLst, tCall, tAsg, tDrop, tDNewK, gName, gTup, gCons, gNil, rI0, rI, CMul, CDiv, tUn, rU, rEq, rNe, scal, LenV, RetB, RetD, List.set_cons_zero, List.set_cons_succ, List.getElem?_cons_zero, List.getElem?_cons_succ, Option.some.injEq, exists_eq_left', exists_eq_left, List.cons.injEq, and_true, true_and, V.int.injEq, V.str.injEq, V.bl.injEq, V.ref.injEq, if_true, if_false, Bool.not_true, Bool.not_false, reduceCtorEq, decide_true, decide_false, Bool.false_eq_true, exists_and_left, Bool.not_eq_true', decide_eq_true_eq, decide_eq_false_iff_not, rLenK, tLenSetT, List.append_nil, and_assoc, or_false, false_or, exists_false, false_and, and_false, rGetL, rSetL, gSub, tAugS, ipI, tPart, tNoPart, not_true, not_false_iff, ite_true, ite_false, List.map_cons, List.map_nil, sp_law_alike, sp_law_amounts, sp_law_bag, sp_law_goes_along, sp_law_house, sp_law_is_part_right, sp_law_log, sp_law_mixed, sp_law_one, sp_law_stretch, sp_acted, sp_reordered, wipe]
      cases x1 with
      | put k =>
        obtain ⟨c1, z1, z2, rfl, e, y1, y2⟩ := tx.two
        cases y1
        refine ix_t e (atI_0 _ _) ⟨rfl, ?_⟩
        rw [if_pos rfl]
        exact ke _ _ _ (.refl _) tx (rl.put hx1 (if_pos rfl))
      | call c =>
        obtain ⟨c1, z1, z2, rfl, e, y1, y2⟩ := tx.two
        cases y1
        obtain ⟨bc, rfl, ebc⟩ := y2.strs_at
        refine ix_t e (atI_0 _ _) ⟨rfl, ?_⟩
        rw [if_neg (by decide)]
        refine ix_t e (atI_1 _ _ _) ⟨c.length, .inr ⟨_, .of ebc, by rw [List.length_map]⟩, ?_⟩
        by_cases h1 : c.length = 1
        · rw [if_pos (by omega)]
          exact ke _ _ _ (.refl _) tx (rl.put hx1 (if_pos (decide_eq_true h1)))
        · rw [if_neg (by omega)]
          exact ks' _ (.refl _) (rl.skip hx1 (if_neg (by show ¬ decide (c.length = 1) = true; rw [decide_eq_false h1]; decide)))
    rintro H17 acc17 es17 s17 e17 r17 rl17 _
    rw [rl17.all (by omega), filter_ite] at r17
    simp only [Bool.decide_eq_true] at r17
    refine tuple_of e17 r17 fun vS H18 s18 tS => ?_
    have s1618 := s17.trans s18
    have s718 := s716.trans s1618
    have s418 := s416.trans s1618
    have fl := List.length_filter_le singleD ds
    have din : ∀ d ∈ ds.filter singleD, deedIn ks d := fun d hd => okD_in g (gd d (List.mem_filter.mp hd).1)
    have nk2 := pk2.nodup_iff.mpr nk
    have l2 := pk2.length_eq
    refine ⟨hb3.same s418, ks, cs, th.same s718, by decide, by decide, nk, hk6.2, fun D19 o19 ls2 f2 H19 s19 pm2 bd2 e19 => ?_⟩
    have s1619 := s1618.trans s19
    have s719 := s718.trans s19
    refine ⟨ks, cs, th.same s719, k2, tk.same s1619, by omega, by omega, fun c hc => ?_, fun vR H20 s20 tR => ?_⟩
    · obtain ⟨k0, hk0⟩ := List.exists_mem_of_ne_nil c (g.part c hc).2
      intro e
      have : k0 ∈ k2.filter fun k => decide (k ∈ c) := List.mem_filter.mpr ⟨pk2.mem_iff.mpr (g.in_ hc k0 hk0), by simpa using hk0⟩
      rw [e] at this
      exact nomatch this
    have idk : ∀ {H' : Hp}, Same H19 H' → ∀ ks', (∀ k ∈ ks', k ∈ ks) → IDict H' (.ref D19) ks' f2 := fun s ks' h => ⟨D19, _, rfl, .inr ⟨o19, s _ _ e19⟩, fun k hk => dV_val (pm2.mem_iff.mpr (h k hk))⟩
    refine ⟨k2, _, tR, f2, ds.filter singleD, tS.same (s19.trans s20), idk s20 k2 (fun k hk => pk2.mem_iff.mp hk), nk2, by omega, by omega, fun d hd => ?_, fun Da oa Ha sa ea => ?_⟩
    · have := din d hd
      cases d with
      | put k => exact pk2.mem_iff.mpr this
      | call c => exact ⟨this.1, fun k hk => pk2.mem_iff.mpr (this.2 k hk)⟩
    have s20a := s20.trans sa
    refine ⟨ks, cs, th.same (s719.trans s20a), f2, ds.filter singleD, tS.same (s19.trans s20a), idk s20a ks (fun k hk => hk), nk, by omega, by omega, din, fun Db ob Hb sb eb => ?_⟩
    rw [sortK_perm pk2] at ea
    have pks := sortG_perm PyData.str ks
    have sm : Sm (.dict (dFP (sortK ks) (actK f2 (ds.filter singleD)))) 84 := dF_sm (fun k hk => okk k (pks.mem_iff.mp hk)) (by rw [pks.length_eq]; exact hk6.2) fun k => by
      have := actK_bd (ds := ds.filter singleD) (a := f2) (n := 101) (fun j => by have := bd2 j; omega) k
      omega
    refine ⟨.dict (dFP (sortK ks) (actK f2 (ds.filter singleD))), .one (.dic (sb _ _ ea) (dF_dic _ _)), .one (.dic eb (dF_dic _ _)), sm.mono (by decide), ?_⟩
    have sEnd := s3.trans (s418.trans (s19.trans (s20a.trans sb)))
    exact sEnd
  · rintro σ H3 ⟨x2, x3, x4, x5, x6, x7, x8, rfl, s3⟩
    exact q _
end
end C9
/-! ## E1 -/
set_option maxHeartbeats 4000000
namespace C9
open PySem PySem.Spec PyProof.Rows L2 C8
/-! ### the law's call where nothing is being shown -/
section
variable {P : Program} {w : World} {K : PySem.W.Frag} {mg mb : Str → Option Value} {k : Nat} {fa a : Addr} {sp : Sp} {s₁ : Shared} {vs : List Value} {ns : List Int}
theorem law_core (KX : K.In s₁.heap) (hns : s₁.heap.Ns mainGlobals mg) (hb : s₁.heap.Ns builtinsNs mb) (hbb : ∀ x : Str, x ≠ "__name__" → mb x = bootBuiltins x) (hlim : s₁.heap.NoLimit) (hg : s₁.gens = #[])
    (ha : s₁.heap.get? a = some { cls := .type "list", data := .seq vs.toArray }) (hr : Room k callerA) (F : ∀ base : Heap, K.In base → base.Ns mainGlobals mg → ∃ (fd : FuncData) (ps : List Str), FnG P w K mg base k fa fd ps sp ∧ Binds K fd ps [])
    {H : Hp} (hO : Only H) (hok : HOk P w H s₁.heap) (own : ∀ b, H b ≠ none → b = a ∧ K.lookup a = none) (hsp : sp [.ref a] H (fun v _ => v = .bl true) C8.E0) :
    codeAny (model P w) callerA (.call (.ref fa) ⟨[.ref a], []⟩) (fun r s' => r = .ok (.ret (.bool true)) ∧ OldK s₁.heap s'.heap ∧ s'.os = s₁.os ∧ AllBare s'.gens) s₁ := by
  -- what the module and the built-ins say stands apart from the script
  have dictNone : ∀ {b : Addr} {o : Obj} {es : Array DictEntry} {ep : Nat}, s₁.heap.get? b = some o → o.data = .dict es ep → H b = none := fun {b o es ep} e d => by
    cases q : H b with
    | none => rfl
    | some u =>
      obtain ⟨rfl, _⟩ := own b (by rw [q]; exact Option.some_ne_none u)
      rw [ha] at e
      cases e
      cases (show Data.seq vs.toArray _ = Data.dict es ep from d)
  have ns' : ∀ {b : Addr} {m : Str → Option Value}, s₁.heap.Ns b m → (hidT s₁.heap H).Ns b m := fun ⟨o, es, ep, e, d, r⟩ => ⟨o, es, ep, hidT_get e (dictNone e d), d, r⟩
  have kin : K.In (hidT s₁.heap H) := fun b o e => hidT_get (KX b o e) (by
    cases q : H b with
    | none => rfl
    | some u =>
      obtain ⟨rfl, n⟩ := own b (by rw [q]; exact Option.some_ne_none u)
      rw [n] at e
      cases e)
  have md : Mod K mg (hidT s₁.heap H) := ⟨kin, ns' hns, ⟨mb, ns' hb, hbb⟩, let ⟨mc, h1, h2⟩ := hlim; ⟨mc, ns' h1, h2⟩⟩
  have e0 : Env0 P w K mg (hidT s₁.heap H) callerA [] s₁ H := ⟨rfl, md, fun b o e => of_hidT e, Nat.le_of_eq (hidT_size _ _), trivial, fun b hm => (nomatch (show b ∈ ([] : List Addr) from hm)), hok, .of_eq hg⟩
  obtain ⟨fd, ps, G, bd⟩ := F _ kin (ns' hns)
  have pl : ps.length = 1 := (G.len _ _ _ _ hsp).symm
  have bs := bd s₁ [.ref a] KX (by rw [pl]; rfl)
  rw [List.append_nil] at bs
  refine codeAny_mono (G.go callerA [] s₁ H ⟨[.ref a], []⟩ [.ref a] [.ref a] _ _ rfl hr e0 bs (.cons rfl .nil) hsp) fun r s' h => ?_
  cases r with
  | error e => exact False.elim h
  | ok fl =>
    cases fl with
    | next => exact False.elim h
    | brk => exact False.elim h
    | cont => exact False.elim h
    | ret u =>
      obtain ⟨v, H', os, bare, un, hok', r', q⟩ := h
      obtain rfl : v = .bl true := q
      obtain rfl : u = Value.bool true := r'
      refine ⟨rfl, OldK.of_keep fun b o e => ?_, os, bare⟩
      rcases hO b with z | ⟨ob, xs, z⟩
      · exact un.keep b o e z (fun m => (nomatch (show b ∈ ([] : List Addr) from m))) (by simp)
      · have e1 := (hok b _ z).1
        have e2 := (hok' b _ (un.frzs b ob _ z)).1
        rw [e] at e1
        cases e1
        exact e2
theorem law_callG (KX : K.In s₁.heap) (hns : s₁.heap.Ns mainGlobals mg) (hb : s₁.heap.Ns builtinsNs mb) (hbb : ∀ x : Str, x ≠ "__name__" → mb x = bootBuiltins x) (hlim : s₁.heap.NoLimit) (hg : s₁.gens = #[])
    (ha : s₁.heap.get? a = some { cls := .type "list", data := .seq vs.toArray }) (hi : IntsAre vs ns) (hl : ns.length ≤ sizeLine) (hr : Room k callerA) (F : ∀ base : Heap, K.In base → base.Ns mainGlobals mg → ∃ (fd : FuncData) (ps : List Str), FnG P w K mg base k fa fd ps sp ∧ Binds K fd ps [])
    (hsp : ∀ H : Hp, SqL K H a (ns.map V.int) → sp [.ref a] H (fun v _ => v = .bl true) C8.E0) :
    codeAny (model P w) callerA (.call (.ref fa) ⟨[.ref a], []⟩) (fun r s' => r = .ok (.ret (.bool true)) ∧ OldK s₁.heap s'.heap ∧ s'.os = s₁.os ∧ AllBare s'.gens) s₁ := by
  have rv := vals_ints hi
  cases hk : K.lookup a with
  | some o =>
    have e := KX a o hk
    rw [ha] at e
    cases e
    exact law_core (H := fun _ => none) KX hns hb hbb hlim hg ha hr F (fun _ => .inl rfl) (fun b u z => nomatch (show (none : Option HO) = some u from z)) (fun b z => absurd rfl z)
      (hsp _ (.inr ⟨_, vs.toArray, _, hk, rfl, rfl, rfl, by rw [List.size_toArray, hi.length]; exact hl, by simpa using rv⟩))
  | none =>
    let o : Obj := { cls := .type "list", data := .seq vs.toArray }
    let H : Hp := fun b => if b = a then some (.frz o (.lst (ns.map V.int))) else none
    have at_ : H a = some (.frz o (.lst (ns.map V.int))) := if_pos rfl
    have off : ∀ {b : Addr}, b ≠ a → H b = none := fun h => if_neg h
    refine law_core (H := H) KX hns hb hbb hlim hg ha hr F (fun b => ?_) (fun b u z => ?_) (fun b z => ?_) (hsp _ (.inl (.inr ⟨o, at_⟩)))
    · by_cases h : b = a
      · rw [h]; exact .inr ⟨_, _, at_⟩
      · exact .inl (off h)
    · by_cases h : b = a
      · subst h
        rw [at_] at z
        cases z
        exact ⟨ha, by rw [List.length_map]; exact hl, vs, _, rv, ha⟩
      · rw [off h] at z
        cases z
    · by_cases h : b = a
      · exact ⟨h, hk⟩
      · exact absurd (off h) z
end
/-- the law's end -/
theorem walk_ofG {l : PySem.W.OpenLaw} {n k : Nat} {q : Program} {loose : List Str} {XP : (Str → Option Value) → Heap → Prop} {YP : World → Heap → Prop} {d : DefRec} (hn : l.most = some n) (hn2 : n ≤ sizeLine) (hdf : d.params.defaults = []) (hr : Room k callerA)
    (F : ∀ (w : World) (mg : Str → Option Value) (fa : Addr) (h : Heap), YP w h → h.Ns mainGlobals mg → mg d.name = some (.ref fa) →
      ∃ (K : PySem.W.Frag) (sp : Sp), K.In h ∧
        (∀ (H : Hp) (a : Addr) (ns : List Int), ns.length ≤ n → SqL K H a (ns.map V.int) → sp [.ref a] H (fun v _ => v = .bl true) C8.E0) ∧
        ∀ base : Heap, K.In base → base.Ns mainGlobals mg → ∃ (fd : FuncData) (ps : List Str), FnG l.prog w K mg base k fa fd ps sp ∧ Binds K fd ps []) :
    PySem.W.WalkO q loose XP YP l.row.toRowW d [] (fun f vs => PySem.call f vs) :=
  Att.attach_call hn hdf fun w s₀ s₁ mg mb fa o pm cd doc a vs ns G Y ho hd hcd hmg hobj hints hlen hg => by
    obtain ⟨K, sp, KX, hsp, hF⟩ := F w mg fa _ Y G.T.g hmg
    exact law_callG KX G.T.g G.T.b G.T.builtins G.T.nolimit hg hobj hints (Nat.le_trans hlen hn2) hr hF fun H hS => hsp H a ns hlen hS
end C9
/-! ## E2 -/
set_option maxHeartbeats 0
open PySem PySem.W PySem.Calls PyProof.Rows
theorem PySem.Challenge.cw_calledbest_k09_whole_renamed_and_reorder_holds : PySem.Challenge.rw_calledbest_k09_whole_renamed_and_reorder.Holds := by
  w_on; o_law
  refine HandSHeadRun.head_any (r := OpenLaw.row PySem.Challenge.rw_calledbest_k09_whole_renamed_and_reorder) (q := view (OpenLaw.row PySem.Challenge.rw_calledbest_k09_whole_renamed_and_reorder).prog [71]) (H := C9.hk) (ob := C9.ob) (M := 20000) (loose := C9.loose)
    (d := HandSHeadRun.topDef (OpenLaw.row PySem.Challenge.rw_calledbest_k09_whole_renamed_and_reorder).prog 71) (kwd := []) C9.ob_eq (by kernel_rfl) (fun s => by kernel_rfl) C9.run (by kernel_rfl) (by kernel_rfl) (by kernel_rfl) (by rfl) (by first | assumption | decide +kernel) (by decide +kernel)
    ⟨rfl, rfl, rfl, rfl, rfl, by decide +kernel⟩ ?hw ?hc
  case hw => w_witness2
  case hc =>
    refine C9.walk_ofG (l := PySem.Challenge.rw_calledbest_k09_whole_renamed_and_reorder) (n := 63) (k := 10) rfl (by decide) (by kernel_rfl) ⟨rfl, by decide, by decide⟩ ?F
    intro w mg fa h Y G hmg0
    obtain ⟨K, KX, c⟩ := Y
    have hmg : mg ("law" : PySem.Str) = some (.ref fa) := by
      have e : (HandSHeadRun.topDef (OpenLaw.row PySem.Challenge.rw_calledbest_k09_whole_renamed_and_reorder).prog 71).name = ("law" : PySem.Str) := by kernel_rfl
      rw [← e]
      exact hmg0
    have T : C9.Txt K mg := ⟨c, h, KX, G⟩
    refine ⟨K, C9.sp_law K, KX, fun H a ns hl hS => ⟨_, rfl, a, ns, rfl, hS, hl, fun _ => rfl⟩, fun base kb nb => ?_⟩
    obtain ⟨f, fd, ps, F, e, _, b⟩ := (C9.g_law (P := (PySem.Challenge.rw_calledbest_k09_whole_renamed_and_reorder).prog) (w := w) (base := base) T).ex
    have ef := hmg.symm.trans e
    cases ef
    exact ⟨fd, ps, F, b⟩
