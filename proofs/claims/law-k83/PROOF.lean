import PyProof.Rows.All
import Wide.All
import OpenK.AllK
import Wide.FinOn
import KE.KStateDown
import HandS.ForMost
import HandS.ForExc
import HandS.Defaults
import HandS.HeadHook4
import HandS.HeadWalk
import HandS.AnyAll
import HandS.TupAny
import HandS.ExcField
import HandS.ExcInit
import HandS.StrMore
import HandS.WideBits
import HandS.IsInst
import HandS.Zip
import HandS.Walk
import HandS.SetKeys
import HandS.Strs
import HandS.More
import HandS.CallLocal
import HandS.Style
import HandS.TryOnly
import HandS.DictTup
import HandS.Flow
import HandS.Replace
import KE.BitLaws
import KE.KExcSuper
import PySem.Challenge.RW_sumgrove_k83_whole_money_only_by_minting
import HandS.Head0
import HandS.Head1
import HandS.Head2
import HandS.HeadEnd
import HandS.SetFor
import HandS.ExcSuper
import KE.GoesEnum
import KE.GoesMore
import KE.KDictCopyH
import KE.KDictOf
import HandS.RaiseMore
import HandS.ExcOwn
section
set_option Elab.async false
set_option linter.all false
set_option maxRecDepth 100000
set_option maxHeartbeats 2000000
namespace G
open PySem PySem.Spec PyProof.Rows L2
def top (i : Nat) : Stmt := PySem.Challenge.pw_sumgrove_k83_whole_money_only_by_minting.main.body.getD i (.Pass ⟨0, 0, 0, 0⟩)
abbrev s_lock_of : Stmt := top 6
abbrev s_is_notes : Stmt := top 7
abbrev s_is_enough : Stmt := top 8
abbrev s_new_account : Stmt := top 9
abbrev s_is_name : Stmt := top 15
abbrev s_number_of : Stmt := top 16
abbrev s_bit_at : Stmt := top 17
abbrev s_parting : Stmt := top 18
abbrev s_Rules_init : Stmt := inClass (top 40) 0
abbrev s_is_rate : Stmt := top 41
abbrev s_Group_init : Stmt := inClass (top 42) 0
abbrev s_is_amount : Stmt := top 43
abbrev s_is_kind : Stmt := top 44
abbrev s_is_deed : Stmt := top 45
abbrev s_is_signature : Stmt := top 46
abbrev s_check_group : Stmt := top 47
abbrev s_group_names : Stmt := top 48
abbrev s_minted : Stmt := top 49
abbrev s_least_of : Stmt := top 52
abbrev s_greatest_of : Stmt := top 53
abbrev s_leaf_row : Stmt := top 54
abbrev s_summary_numbers : Stmt := top 55
abbrev s_branch_row : Stmt := top 56
abbrev s_branch_summary : Stmt := top 57
abbrev s_summary_of : Stmt := top 58
abbrev s_top_row : Stmt := top 59
abbrev s_root_of : Stmt := top 60
abbrev s_beside : Stmt := top 62
abbrev s_goes_into : Stmt := top 63
abbrev s_side_of : Stmt := top 64
abbrev s_put : Stmt := top 65
abbrev s_is_between : Stmt := top 66
abbrev s_get : Stmt := top 67
abbrev s_without : Stmt := top 68
abbrev s_drop : Stmt := top 69
abbrev s_leaves_of : Stmt := top 70
abbrev s_cut_off : Stmt := top 85
abbrev s_prune : Stmt := top 86
abbrev s_Chronicle_init : Stmt := inClass (top 91) 0
abbrev s_Shelf_init : Stmt := inClass (top 92) 0
abbrev s_Doing_init : Stmt := inClass (top 96) 0
abbrev s_Doing_refuse : Stmt := inClass (top 96) 1
abbrev s_Doing_account : Stmt := inClass (top 96) 2
abbrev s_Doing_notes_before : Stmt := inClass (top 96) 3
abbrev s_Doing_sign : Stmt := inClass (top 96) 4
abbrev s_Doing_need_signed : Stmt := inClass (top 96) 5
abbrev s_Doing_set_worth : Stmt := inClass (top 96) 6
abbrev s_Doing_pay : Stmt := inClass (top 96) 7
abbrev s_Doing_take : Stmt := inClass (top 96) 8
abbrev s_Doing_keep_terms : Stmt := inClass (top 96) 9
abbrev s_do_open : Stmt := top 97
abbrev s_do_close : Stmt := top 98
abbrev s_do_move : Stmt := top 99
abbrev s_do_mint : Stmt := top 100
abbrev s_do_burn : Stmt := top 101
abbrev s_do_change : Stmt := top 102
abbrev s_do_rule : Stmt := top 103
abbrev s_do_group : Stmt := top 105
abbrev s_deed_words : Stmt := top 107
abbrev s_write_group : Stmt := top 108
abbrev s_frame : Stmt := top 109
abbrev s_group_line : Stmt := top 110
abbrev s_deed_row : Stmt := top 113
abbrev s_row_of_group : Stmt := top 114
abbrev s_mark_of_group : Stmt := top 115
abbrev s_receipt_name : Stmt := top 116
abbrev s_Receipts_init : Stmt := inClass (top 117) 0
abbrev s_Receipts_add : Stmt := inClass (top 117) 1
abbrev s_Receipts_root : Stmt := inClass (top 117) 2
abbrev s_step_of : Stmt := top 118
abbrev s_Ledger_init : Stmt := inClass (top 121) 0
abbrev s_Ledger_root : Stmt := inClass (top 121) 1
abbrev s_Ledger_tree : Stmt := inClass (top 121) 2
abbrev s_Ledger_epoch : Stmt := inClass (top 121) 3
abbrev s_Ledger_do : Stmt := inClass (top 121) 7
abbrev s_Sealer_init : Stmt := inClass (top 125) 0
abbrev s_Sealer_modulus : Stmt := inClass (top 125) 1
abbrev s_Sealer_seal : Stmt := inClass (top 125) 2
abbrev s_law_cell : Stmt := top 127
abbrev s_law_numbers : Stmt := top 128
abbrev s_law_seal : Stmt := top 129
abbrev s_law_modulus : Stmt := top 130
abbrev s_law_lock : Stmt := top 131
abbrev s_law_begin : Stmt := top 132
abbrev s_law_notes : Stmt := top 133
abbrev s_law_names : Stmt := top 134
abbrev s_law_deed : Stmt := top 135
abbrev s_law_signer : Stmt := top 136
abbrev s_law_signature : Stmt := top 137
abbrev s_law_group : Stmt := top 138
abbrev s_law_done : Stmt := top 139
abbrev s_law_rules : Stmt := top 140
abbrev s_law_sync : Stmt := top 141
abbrev s_law_ledger : Stmt := top 142
abbrev s_law_do : Stmt := top 143
abbrev s_law_net : Stmt := top 144
abbrev s_law : Stmt := top 145
def d_lock_of : He.DefD := ⟨("lock_of", none), "lock_of", "lock_of", defArgs s_lock_of, defBody s_lock_of, defScope s_lock_of, [], []⟩
def d_is_notes : He.DefD := ⟨("is_notes", none), "is_notes", "is_notes", defArgs s_is_notes, defBody s_is_notes, defScope s_is_notes, [], []⟩
def d_is_enough : He.DefD := ⟨("is_enough", none), "is_enough", "is_enough", defArgs s_is_enough, defBody s_is_enough, defScope s_is_enough, [], []⟩
def d_new_account : He.DefD := ⟨("new_account", none), "new_account", "new_account", defArgs s_new_account, defBody s_new_account, defScope s_new_account, [], []⟩
def d_is_name : He.DefD := ⟨("is_name", none), "is_name", "is_name", defArgs s_is_name, defBody s_is_name, defScope s_is_name, [], []⟩
def d_number_of : He.DefD := ⟨("number_of", none), "number_of", "number_of", defArgs s_number_of, defBody s_number_of, defScope s_number_of, [], []⟩
def d_bit_at : He.DefD := ⟨("bit_at", none), "bit_at", "bit_at", defArgs s_bit_at, defBody s_bit_at, defScope s_bit_at, [], []⟩
def d_parting : He.DefD := ⟨("parting", none), "parting", "parting", defArgs s_parting, defBody s_parting, defScope s_parting, [], []⟩
def d_Rules_init : He.DefD := ⟨("Rules", some "__init__"), "__init__", "Rules.__init__", defArgs s_Rules_init, defBody s_Rules_init, defScope s_Rules_init, [], []⟩
def d_is_rate : He.DefD := ⟨("is_rate", none), "is_rate", "is_rate", defArgs s_is_rate, defBody s_is_rate, defScope s_is_rate, [], []⟩
def d_Group_init : He.DefD := ⟨("Group", some "__init__"), "__init__", "Group.__init__", defArgs s_Group_init, defBody s_Group_init, defScope s_Group_init, [], []⟩
def d_is_amount : He.DefD := ⟨("is_amount", none), "is_amount", "is_amount", defArgs s_is_amount, defBody s_is_amount, defScope s_is_amount, [], []⟩
def d_is_kind : He.DefD := ⟨("is_kind", none), "is_kind", "is_kind", defArgs s_is_kind, defBody s_is_kind, defScope s_is_kind, [], []⟩
def d_is_deed : He.DefD := ⟨("is_deed", none), "is_deed", "is_deed", defArgs s_is_deed, defBody s_is_deed, defScope s_is_deed, [], []⟩
def d_is_signature : He.DefD := ⟨("is_signature", none), "is_signature", "is_signature", defArgs s_is_signature, defBody s_is_signature, defScope s_is_signature, [], []⟩
def d_check_group : He.DefD := ⟨("check_group", none), "check_group", "check_group", defArgs s_check_group, defBody s_check_group, defScope s_check_group, [], []⟩
def d_group_names : He.DefD := ⟨("group_names", none), "group_names", "group_names", defArgs s_group_names, defBody s_group_names, defScope s_group_names, [], []⟩
def d_minted : He.DefD := ⟨("minted", none), "minted", "minted", defArgs s_minted, defBody s_minted, defScope s_minted, [], []⟩
def d_least_of : He.DefD := ⟨("least_of", none), "least_of", "least_of", defArgs s_least_of, defBody s_least_of, defScope s_least_of, [], []⟩
def d_greatest_of : He.DefD := ⟨("greatest_of", none), "greatest_of", "greatest_of", defArgs s_greatest_of, defBody s_greatest_of, defScope s_greatest_of, [], []⟩
def d_leaf_row : He.DefD := ⟨("leaf_row", none), "leaf_row", "leaf_row", defArgs s_leaf_row, defBody s_leaf_row, defScope s_leaf_row, [], []⟩
def d_summary_numbers : He.DefD := ⟨("summary_numbers", none), "summary_numbers", "summary_numbers", defArgs s_summary_numbers, defBody s_summary_numbers, defScope s_summary_numbers, [], []⟩
def d_branch_row : He.DefD := ⟨("branch_row", none), "branch_row", "branch_row", defArgs s_branch_row, defBody s_branch_row, defScope s_branch_row, [], []⟩
def d_branch_summary : He.DefD := ⟨("branch_summary", none), "branch_summary", "branch_summary", defArgs s_branch_summary, defBody s_branch_summary, defScope s_branch_summary, [], []⟩
def d_summary_of : He.DefD := ⟨("summary_of", none), "summary_of", "summary_of", defArgs s_summary_of, defBody s_summary_of, defScope s_summary_of, [], []⟩
def d_top_row : He.DefD := ⟨("top_row", none), "top_row", "top_row", defArgs s_top_row, defBody s_top_row, defScope s_top_row, [], []⟩
def d_root_of : He.DefD := ⟨("root_of", none), "root_of", "root_of", defArgs s_root_of, defBody s_root_of, defScope s_root_of, [], []⟩
def d_beside : He.DefD := ⟨("beside", none), "beside", "beside", defArgs s_beside, defBody s_beside, defScope s_beside, [], []⟩
def d_goes_into : He.DefD := ⟨("goes_into", none), "goes_into", "goes_into", defArgs s_goes_into, defBody s_goes_into, defScope s_goes_into, [], []⟩
def d_side_of : He.DefD := ⟨("side_of", none), "side_of", "side_of", defArgs s_side_of, defBody s_side_of, defScope s_side_of, [], []⟩
def d_put : He.DefD := ⟨("put", none), "put", "put", defArgs s_put, defBody s_put, defScope s_put, [], []⟩
def d_is_between : He.DefD := ⟨("is_between", none), "is_between", "is_between", defArgs s_is_between, defBody s_is_between, defScope s_is_between, [], []⟩
def d_get : He.DefD := ⟨("get", none), "get", "get", defArgs s_get, defBody s_get, defScope s_get, [], []⟩
def d_without : He.DefD := ⟨("without", none), "without", "without", defArgs s_without, defBody s_without, defScope s_without, [], []⟩
def d_drop : He.DefD := ⟨("drop", none), "drop", "drop", defArgs s_drop, defBody s_drop, defScope s_drop, [], []⟩
def d_leaves_of : He.DefD := ⟨("leaves_of", none), "leaves_of", "leaves_of", defArgs s_leaves_of, defBody s_leaves_of, defScope s_leaves_of, [], []⟩
def d_cut_off : He.DefD := ⟨("cut_off", none), "cut_off", "cut_off", defArgs s_cut_off, defBody s_cut_off, defScope s_cut_off, [], []⟩
def d_prune : He.DefD := ⟨("prune", none), "prune", "prune", defArgs s_prune, defBody s_prune, defScope s_prune, [], []⟩
def d_Chronicle_init : He.DefD := ⟨("Chronicle", some "__init__"), "__init__", "Chronicle.__init__", defArgs s_Chronicle_init, defBody s_Chronicle_init, defScope s_Chronicle_init, [], []⟩
def d_Shelf_init : He.DefD := ⟨("Shelf", some "__init__"), "__init__", "Shelf.__init__", defArgs s_Shelf_init, defBody s_Shelf_init, defScope s_Shelf_init, [], []⟩
def d_Doing_init : He.DefD := ⟨("Doing", some "__init__"), "__init__", "Doing.__init__", defArgs s_Doing_init, defBody s_Doing_init, defScope s_Doing_init, [], []⟩
def d_Doing_refuse : He.DefD := ⟨("Doing", some "refuse"), "refuse", "Doing.refuse", defArgs s_Doing_refuse, defBody s_Doing_refuse, defScope s_Doing_refuse, [], []⟩
def d_Doing_account : He.DefD := ⟨("Doing", some "account"), "account", "Doing.account", defArgs s_Doing_account, defBody s_Doing_account, defScope s_Doing_account, [], []⟩
def d_Doing_notes_before : He.DefD := ⟨("Doing", some "notes_before"), "notes_before", "Doing.notes_before", defArgs s_Doing_notes_before, defBody s_Doing_notes_before, defScope s_Doing_notes_before, [], []⟩
def d_Doing_sign : He.DefD := ⟨("Doing", some "sign"), "sign", "Doing.sign", defArgs s_Doing_sign, defBody s_Doing_sign, defScope s_Doing_sign, [], []⟩
def d_Doing_need_signed : He.DefD := ⟨("Doing", some "need_signed"), "need_signed", "Doing.need_signed", defArgs s_Doing_need_signed, defBody s_Doing_need_signed, defScope s_Doing_need_signed, [], []⟩
def d_Doing_set_worth : He.DefD := ⟨("Doing", some "set_worth"), "set_worth", "Doing.set_worth", defArgs s_Doing_set_worth, defBody s_Doing_set_worth, defScope s_Doing_set_worth, [], []⟩
def d_Doing_pay : He.DefD := ⟨("Doing", some "pay"), "pay", "Doing.pay", defArgs s_Doing_pay, defBody s_Doing_pay, defScope s_Doing_pay, [], []⟩
def d_Doing_take : He.DefD := ⟨("Doing", some "take"), "take", "Doing.take", defArgs s_Doing_take, defBody s_Doing_take, defScope s_Doing_take, [], []⟩
def d_Doing_keep_terms : He.DefD := ⟨("Doing", some "keep_terms"), "keep_terms", "Doing.keep_terms", defArgs s_Doing_keep_terms, defBody s_Doing_keep_terms, defScope s_Doing_keep_terms, [], []⟩
def d_do_open : He.DefD := ⟨("do_open", none), "do_open", "do_open", defArgs s_do_open, defBody s_do_open, defScope s_do_open, [], []⟩
def d_do_close : He.DefD := ⟨("do_close", none), "do_close", "do_close", defArgs s_do_close, defBody s_do_close, defScope s_do_close, [], []⟩
def d_do_move : He.DefD := ⟨("do_move", none), "do_move", "do_move", defArgs s_do_move, defBody s_do_move, defScope s_do_move, [], []⟩
def d_do_mint : He.DefD := ⟨("do_mint", none), "do_mint", "do_mint", defArgs s_do_mint, defBody s_do_mint, defScope s_do_mint, [], []⟩
def d_do_burn : He.DefD := ⟨("do_burn", none), "do_burn", "do_burn", defArgs s_do_burn, defBody s_do_burn, defScope s_do_burn, [], []⟩
def d_do_change : He.DefD := ⟨("do_change", none), "do_change", "do_change", defArgs s_do_change, defBody s_do_change, defScope s_do_change, [], []⟩
def d_do_rule : He.DefD := ⟨("do_rule", none), "do_rule", "do_rule", defArgs s_do_rule, defBody s_do_rule, defScope s_do_rule, [], []⟩
def d_do_group : He.DefD := ⟨("do_group", none), "do_group", "do_group", defArgs s_do_group, defBody s_do_group, defScope s_do_group, [], []⟩
def d_deed_words : He.DefD := ⟨("deed_words", none), "deed_words", "deed_words", defArgs s_deed_words, defBody s_deed_words, defScope s_deed_words, [], []⟩
def d_write_group : He.DefD := ⟨("write_group", none), "write_group", "write_group", defArgs s_write_group, defBody s_write_group, defScope s_write_group, [], []⟩
def d_frame : He.DefD := ⟨("frame", none), "frame", "frame", defArgs s_frame, defBody s_frame, defScope s_frame, [], []⟩
def d_group_line : He.DefD := ⟨("group_line", none), "group_line", "group_line", defArgs s_group_line, defBody s_group_line, defScope s_group_line, [], []⟩
def d_deed_row : He.DefD := ⟨("deed_row", none), "deed_row", "deed_row", defArgs s_deed_row, defBody s_deed_row, defScope s_deed_row, [], []⟩
def d_row_of_group : He.DefD := ⟨("row_of_group", none), "row_of_group", "row_of_group", defArgs s_row_of_group, defBody s_row_of_group, defScope s_row_of_group, [], []⟩
def d_mark_of_group : He.DefD := ⟨("mark_of_group", none), "mark_of_group", "mark_of_group", defArgs s_mark_of_group, defBody s_mark_of_group, defScope s_mark_of_group, [], []⟩
def d_receipt_name : He.DefD := ⟨("receipt_name", none), "receipt_name", "receipt_name", defArgs s_receipt_name, defBody s_receipt_name, defScope s_receipt_name, [], []⟩
def d_Receipts_init : He.DefD := ⟨("Receipts", some "__init__"), "__init__", "Receipts.__init__", defArgs s_Receipts_init, defBody s_Receipts_init, defScope s_Receipts_init, [], []⟩
def d_Receipts_add : He.DefD := ⟨("Receipts", some "add"), "add", "Receipts.add", defArgs s_Receipts_add, defBody s_Receipts_add, defScope s_Receipts_add, [], []⟩
def d_Receipts_root : He.DefD := ⟨("Receipts", some "root"), "root", "Receipts.root", defArgs s_Receipts_root, defBody s_Receipts_root, defScope s_Receipts_root, [], []⟩
def d_step_of : He.DefD := ⟨("step_of", none), "step_of", "step_of", defArgs s_step_of, defBody s_step_of, defScope s_step_of, [], []⟩
def d_Ledger_init : He.DefD := ⟨("Ledger", some "__init__"), "__init__", "Ledger.__init__", defArgs s_Ledger_init, defBody s_Ledger_init, defScope s_Ledger_init, [], []⟩
def d_Ledger_root : He.DefD := ⟨("Ledger", some "root"), "root", "Ledger.root", defArgs s_Ledger_root, defBody s_Ledger_root, defScope s_Ledger_root, [], []⟩
def d_Ledger_tree : He.DefD := ⟨("Ledger", some "tree"), "tree", "Ledger.tree", defArgs s_Ledger_tree, defBody s_Ledger_tree, defScope s_Ledger_tree, [], []⟩
def d_Ledger_epoch : He.DefD := ⟨("Ledger", some "epoch"), "epoch", "Ledger.epoch", defArgs s_Ledger_epoch, defBody s_Ledger_epoch, defScope s_Ledger_epoch, [], []⟩
def d_Ledger_do : He.DefD := ⟨("Ledger", some "do"), "do", "Ledger.do", defArgs s_Ledger_do, defBody s_Ledger_do, defScope s_Ledger_do, [], []⟩
def d_Sealer_init : He.DefD := ⟨("Sealer", some "__init__"), "__init__", "Sealer.__init__", defArgs s_Sealer_init, defBody s_Sealer_init, defScope s_Sealer_init, [], []⟩
def d_Sealer_modulus : He.DefD := ⟨("Sealer", some "modulus"), "modulus", "Sealer.modulus", defArgs s_Sealer_modulus, defBody s_Sealer_modulus, defScope s_Sealer_modulus, [], []⟩
def d_Sealer_seal : He.DefD := ⟨("Sealer", some "seal"), "seal", "Sealer.seal", defArgs s_Sealer_seal, defBody s_Sealer_seal, defScope s_Sealer_seal, [], []⟩
def d_law_cell : He.DefD := ⟨("_law_cell", none), "_law_cell", "_law_cell", defArgs s_law_cell, defBody s_law_cell, defScope s_law_cell, [], []⟩
def d_law_numbers : He.DefD := ⟨("_law_numbers", none), "_law_numbers", "_law_numbers", defArgs s_law_numbers, defBody s_law_numbers, defScope s_law_numbers, [], []⟩
def d_law_seal : He.DefD := ⟨("_law_seal", none), "_law_seal", "_law_seal", defArgs s_law_seal, defBody s_law_seal, defScope s_law_seal, [], []⟩
def d_law_modulus : He.DefD := ⟨("_law_modulus", none), "_law_modulus", "_law_modulus", defArgs s_law_modulus, defBody s_law_modulus, defScope s_law_modulus, [], []⟩
def d_law_lock : He.DefD := ⟨("_law_lock", none), "_law_lock", "_law_lock", defArgs s_law_lock, defBody s_law_lock, defScope s_law_lock, [], []⟩
def d_law_begin : He.DefD := ⟨("_law_begin", none), "_law_begin", "_law_begin", defArgs s_law_begin, defBody s_law_begin, defScope s_law_begin, [], []⟩
def d_law_notes : He.DefD := ⟨("_law_notes", none), "_law_notes", "_law_notes", defArgs s_law_notes, defBody s_law_notes, defScope s_law_notes, [], []⟩
def d_law_names : He.DefD := ⟨("_law_names", none), "_law_names", "_law_names", defArgs s_law_names, defBody s_law_names, defScope s_law_names, [], []⟩
def d_law_deed : He.DefD := ⟨("_law_deed", none), "_law_deed", "_law_deed", defArgs s_law_deed, defBody s_law_deed, defScope s_law_deed, [], []⟩
def d_law_signer : He.DefD := ⟨("_law_signer", none), "_law_signer", "_law_signer", defArgs s_law_signer, defBody s_law_signer, defScope s_law_signer, [], []⟩
def d_law_signature : He.DefD := ⟨("_law_signature", none), "_law_signature", "_law_signature", defArgs s_law_signature, defBody s_law_signature, defScope s_law_signature, [], []⟩
def d_law_group : He.DefD := ⟨("_law_group", none), "_law_group", "_law_group", defArgs s_law_group, defBody s_law_group, defScope s_law_group, [], []⟩
def d_law_done : He.DefD := ⟨("_law_done", none), "_law_done", "_law_done", defArgs s_law_done, defBody s_law_done, defScope s_law_done, [], []⟩
def d_law_rules : He.DefD := ⟨("_law_rules", none), "_law_rules", "_law_rules", defArgs s_law_rules, defBody s_law_rules, defScope s_law_rules, [], []⟩
def d_law_sync : He.DefD := ⟨("_law_sync", none), "_law_sync", "_law_sync", defArgs s_law_sync, defBody s_law_sync, defScope s_law_sync, [], []⟩
def d_law_ledger : He.DefD := ⟨("_law_ledger", none), "_law_ledger", "_law_ledger", defArgs s_law_ledger, defBody s_law_ledger, defScope s_law_ledger, [], []⟩
def d_law_do : He.DefD := ⟨("_law_do", none), "_law_do", "_law_do", defArgs s_law_do, defBody s_law_do, defScope s_law_do, [], []⟩
def d_law_net : He.DefD := ⟨("_law_net", none), "_law_net", "_law_net", defArgs s_law_net, defBody s_law_net, defScope s_law_net, [], []⟩
def d_law : He.DefD := ⟨("law", none), "law", "law", defArgs s_law, defBody s_law, defScope s_law, [], []⟩
def fn : List He.DefD := [d_lock_of, d_is_notes, d_is_enough, d_new_account, d_is_name, d_number_of, d_bit_at, d_parting, d_Rules_init, d_is_rate, d_Group_init, d_is_amount] ++ [d_is_kind, d_is_deed, d_is_signature, d_check_group, d_group_names, d_minted, d_least_of, d_greatest_of, d_leaf_row, d_summary_numbers, d_branch_row, d_branch_summary] ++ [d_summary_of, d_top_row, d_root_of, d_beside, d_goes_into, d_side_of, d_put, d_is_between, d_get, d_without, d_drop, d_leaves_of] ++ [d_cut_off, d_prune, d_Chronicle_init, d_Shelf_init, d_Doing_init, d_Doing_refuse, d_Doing_account, d_Doing_notes_before, d_Doing_sign, d_Doing_need_signed, d_Doing_set_worth, d_Doing_pay] ++ [d_Doing_take, d_Doing_keep_terms, d_do_open, d_do_close, d_do_move, d_do_mint, d_do_burn, d_do_change, d_do_rule, d_do_group, d_deed_words, d_write_group] ++ [d_frame, d_group_line, d_deed_row, d_row_of_group, d_mark_of_group, d_receipt_name, d_Receipts_init, d_Receipts_add, d_Receipts_root, d_step_of, d_Ledger_init, d_Ledger_root] ++ [d_Ledger_tree, d_Ledger_epoch, d_Ledger_do, d_Sealer_init, d_Sealer_modulus, d_Sealer_seal, d_law_cell, d_law_numbers, d_law_seal, d_law_modulus, d_law_lock, d_law_begin] ++ [d_law_notes, d_law_names, d_law_deed, d_law_signer, d_law_signature, d_law_group, d_law_done, d_law_rules, d_law_sync, d_law_ledger, d_law_do, d_law_net] ++ [d_law]
def fa0 : List He.Fa := [.glo "lock_of", .glo "is_notes", .glo "is_enough", .glo "new_account", .glo "is_name", .glo "number_of", .glo "bit_at", .glo "parting", .glo "is_rate", .glo "is_amount", .glo "is_kind", .glo "is_deed"]
def fa1 : List He.Fa := [.glo "is_signature", .glo "check_group", .glo "group_names", .glo "minted", .glo "least_of", .glo "greatest_of", .glo "leaf_row", .glo "summary_numbers", .glo "branch_row", .glo "branch_summary", .glo "summary_of", .glo "top_row"]
def fa2 : List He.Fa := [.glo "root_of", .glo "beside", .glo "goes_into", .glo "side_of", .glo "put", .glo "is_between", .glo "get", .glo "without", .glo "drop", .glo "leaves_of", .glo "cut_off", .glo "prune"]
def fa3 : List He.Fa := [.glo "do_open", .glo "do_close", .glo "do_move", .glo "do_mint", .glo "do_burn", .glo "do_change", .glo "do_rule", .glo "do_group", .glo "deed_words", .glo "write_group", .glo "frame", .glo "group_line"]
def fa4 : List He.Fa := [.glo "deed_row", .glo "row_of_group", .glo "mark_of_group", .glo "receipt_name", .glo "step_of", .glo "_law_cell", .glo "_law_numbers", .glo "_law_seal", .glo "_law_modulus", .glo "_law_lock", .glo "_law_begin", .glo "_law_notes"]
def fa5 : List He.Fa := [.glo "_law_names", .glo "_law_deed", .glo "_law_signer", .glo "_law_signature", .glo "_law_group", .glo "_law_done", .glo "_law_rules", .glo "_law_sync", .glo "_law_ledger", .glo "_law_do", .glo "_law_net", .glo "law"]
def fa6 : List He.Fa := [.glo "root_of_trees", .glo "Rules", .glo "Group", .glo "Chronicle", .glo "Shelf", .glo "Doing", .glo "Receipts", .glo "Ledger", .glo "Sealer", .glo "GroupRefused", .glo "WORDS", .glo "EMPTY_ROW"]
def fa7 : List He.Fa := [.glo "DOINGS", .free "len", .free "any", .free "all", .free "int", .free "abs", .free "min", .free "max", .free "sorted", .free "range", .free "tuple", .free "list"]
def fa8 : List He.Fa := [.free "set", .free "dict", .free "str", .free "zip", .free "enumerate", .free "isinstance", .free "sum", .free "super", .int "MOST_WORTH" 1000000000000, .int "MOST_EPOCH" 1000000, .int "NOTES" 8, .int "KEY_TAG" 7]
def fa9 : List He.Fa := [.int "NAME_LIMIT" 8, .int "PLACES" 48, .int "MOST_KINDS" 3, .int "MOST_FEE" 1000, .int "MOST_RATE" 1000, .int "MOST_DEEDS" 20, .int "MOST_KEY" 10000000000000000000000000000000000000000, .int "MOST_SHELF" 20, .int "SNAPSHOTS" 5, .int "LEAST_MODULUS" 3, .int "GREATEST_MODULUS" 2305843009213693951, .str "ALPHABET" "0123456789_abcdefghijklmnopqrstuvwxyz"]
def fa10 : List He.Fa := [.str "BANK" "bank", .str "MINT" "mint", .cls "Rules", .mkr "Rules", .noat "Rules" "kinds", .noat "Rules" "fee", .noat "Rules" "rates", .cls "Group", .mkr "Group", .noat "Group" "deeds", .noat "Group" "signatures", .noat "Group" "epoch"]
def fa11 : List He.Fa := [.cls "Chronicle", .mkr "Chronicle", .noat "Chronicle" "_sealer", .noat "Chronicle" "_tree", .noat "Chronicle" "_rows", .cls "Shelf", .mkr "Shelf", .noat "Shelf" "_most", .noat "Shelf" "_seen", .noat "Shelf" "_trees", .cls "Doing", .mkr "Doing"]
def fa12 : List He.Fa := [.noat "Doing" "sealer", .noat "Doing" "rules", .noat "Doing" "epoch", .noat "Doing" "tree", .noat "Doing" "group", .noat "Doing" "place", .noat "Doing" "signed", .noat "Doing" "terms", .noat "Doing" "given", .meth "Doing" "refuse", .meth "Doing" "account", .meth "Doing" "notes_before"]
def fa13 : List He.Fa := [.meth "Doing" "sign", .meth "Doing" "need_signed", .meth "Doing" "set_worth", .meth "Doing" "pay", .meth "Doing" "take", .meth "Doing" "keep_terms", .cls "Receipts", .mkr "Receipts", .noat "Receipts" "_sealer", .noat "Receipts" "_tree", .noat "Receipts" "_many", .meth "Receipts" "add"]
def fa14 : List He.Fa := [.meth "Receipts" "root", .cls "Ledger", .mkr "Ledger", .noat "Ledger" "_sealer", .noat "Ledger" "_rules", .noat "Ledger" "_tree", .noat "Ledger" "_epoch", .noat "Ledger" "_receipts", .noat "Ledger" "_trail", .noat "Ledger" "_chronicle", .noat "Ledger" "_shelf", .noat "Ledger" "_journal"]
def fa15 : List He.Fa := [.meth "Ledger" "root", .meth "Ledger" "tree", .meth "Ledger" "epoch", .meth "Ledger" "do", .cls "Sealer", .mkr "Sealer", .noat "Sealer" "_modulus", .meth "Sealer" "modulus", .meth "Sealer" "seal"]
def fa : List He.Fa := fa0 ++ (fa1 ++ (fa2 ++ (fa3 ++ (fa4 ++ (fa5 ++ (fa6 ++ (fa7 ++ (fa8 ++ (fa9 ++ (fa10 ++ (fa11 ++ (fa12 ++ (fa13 ++ (fa14 ++ (fa15)))))))))))))))
def ts : List He.Tab := [(fun K => He.ga K "DOINGS", ["open", "close", "move", "mint", "burn", "change", "rule"])]
def tf : List He.Defn := [("is_notes", none), ("is_rate", none), ("do_close", none)]
def nodB (K : PySem.W.Frag) (a : Addr) : Bool := match K.lookup a with
  | some ⟨.type c, none, _, _⟩ => decide (c = "tuple")
  | _ => false
/-- what else is asked of the written part -/
def exK (K : PySem.W.Frag) : Bool :=
  He.tupB K "WORDS" [.str "", .str "open", .str "close", .str "move", .str "mint", .str "burn", .str "change", .str "rule"] && (He.tupB K "EMPTY_ROW" [.int 2] &&
  (He.valsB K (He.ga K "DOINGS") [("open", .glo "do_open"), ("close", .glo "do_close"), ("move", .glo "do_move"), ("mint", .glo "do_mint"), ("burn", .glo "do_burn"), ("change", .glo "do_change"), ("rule", .glo "do_rule")] &&
  (decide (He.ga K "root_of_trees" = He.ga K "root_of") && nodB K (He.ga K "WORDS"))))

abbrev s_GR : Stmt := inClass (top 28) 0
/-- the function of GroupRefused's __init__, without its places -/
abbrev GrV : Type := Option (Str × Str × Arguments × FuncBody × Scope × Addr × List Str × Value × Addr)
def grI (K : PySem.W.Frag) : Addr := He.ma K (He.ga K "GroupRefused") "__init__"
def grV (K : PySem.W.Frag) : GrV := match K.lookup (grI K) with
  | some ⟨_, _, .func fd, _⟩ => some (fd.name, fd.qualname, fd.params, fd.body, fd.scope, fd.globals, fd.closure.map (·.1), fd.defaults, fd.builtins)
  | _ => none
def grW : GrV := some ("__init__", "GroupRefused.__init__", defArgs s_GR, .stmts (defBody s_GR), defScope s_GR, mainGlobals, ["__class__"], .none, builtinsNs)
def fileS : Str := "/claim/cut.py"
/-- what is asked of the class, its __init__'s code, its cell -/
def oexB (K : PySem.W.Frag) (C : Addr) : Bool := match K.lookup C with
  | some ⟨.type t, _, .cls cd, sl⟩ => decide (t = "type") && (match cd.mro, sl.toList with
    | .ref D :: bm, [_, _, _, _, some (.builtin n), _] => decide (D = C) && (decide (n = "ValueError.__new__") && (!cd.hasDel && (cd.hasDict && PySem.HandSPX.refsVE bm)))
    | _, _ => false)
  | _ => false
def celB (K : PySem.W.Frag) (f C : Addr) : Bool := match K.lookup f with
  | some ⟨_, _, .func fd, _⟩ => (match fd.closure, fd.code with
    | [(_, cc)], .ref cda => PySem.W.codeIn K (.ref cda) "GroupRefused.__init__" && ((match K.lookup cc with
      | some ⟨_, _, .cell (some (.ref D)), _⟩ => decide (D = C)
      | _ => false) && (match K.lookup cda with
      | some ⟨_, _, .fields vs, _⟩ => (match (vs[2]? : Option Value) with
        | some (Value.str z _) => decide (z = fileS)
        | _ => false)
      | _ => false))
    | _, _ => false)
  | _ => false
def grB (K : PySem.W.Frag) : Bool :=
  let C := He.ga K "GroupRefused"
  oexB K C && (celB K (grI K) C && (He.eqO (PySem.W.findIn K (.ref C) "__setattr__") (some (some (.builtin "object.__setattr__"))) && (He.eqO (PySem.W.findIn K (.ref C) "index_of_deed") (some none) && (He.eqO (PySem.W.findIn K (.ref C) "word") (some none) &&
  (He.eqO (PySem.W.findIn K (.ref C) "__init__") (some (some (.ref (grI K)))) && (decide (PySem.W.typeIn K (.ref (grI K)) = some (.type "function")) && (PySem.W.keepIn K (.ref C) && (decide (PySem.W.subIn K (.ref C) (.type "BaseException") = some true) &&
  (decide (PySem.W.subIn K (.ref C) (.type "ValueError") = some true) && (decide (PySem.W.typeIn K (.ref C) = some (.type "type")) && (He.eqO (PySem.W.ks_superIn K C C "__init__") (some (some (.builtin "ValueError.__init__"))) &&
  (He.eqO (PySem.W.nsIn K cStatics "thirdparty.any") (some none) && (decide (PySem.W.mroIn K C (.ref C) = some true) && (He.eqO (PySem.W.findIn K (.ref C) "__getattribute__") (some (some (.builtin "BaseException.__getattribute__"))) &&
  (He.eqO (PySem.W.findIn K (.ref C) "__getattr__") (some none) && (PySem.W.hasDictIn K C && decide (PySem.W.exmOne K (.ref C) (.ref C) = some true)))))))))))))))))

/-- what stands behind the top -/
structure Zed (w : World) (K : PySem.W.Frag) (mg : Str → Option Value) : Prop where
  here : ∃ h : Heap, K.In h ∧ h.Ns mainGlobals mg
  t : He.SaysT fa fn ts w K
  more : exK K = true
  gr1 : grB K = true
  gr2 : grV K = grW
variable {w : World} {K : PySem.W.Frag} {mg : Str → Option Value}
abbrev FnP (K : PySem.W.Frag) (p : Str × Option Str) (x q : Str) (st : Stmt) (f : Addr) (fd : FuncData) : Prop := FunD K x q (defArgs st) (defBody st) (defScope st) [] [] f fd
namespace Zed
theorem g_lock_of (Z : Zed w K mg) : mg "lock_of" = some (.ref (He.ga K "lock_of")) := let ⟨_, X, G⟩ := Z.here; He.glo_ok X G (Z.t.d.fact 0 rfl)
theorem g_is_notes (Z : Zed w K mg) : mg "is_notes" = some (.ref (He.ga K "is_notes")) := let ⟨_, X, G⟩ := Z.here; He.glo_ok X G (Z.t.d.fact 1 rfl)
theorem g_is_enough (Z : Zed w K mg) : mg "is_enough" = some (.ref (He.ga K "is_enough")) := let ⟨_, X, G⟩ := Z.here; He.glo_ok X G (Z.t.d.fact 2 rfl)
theorem g_new_account (Z : Zed w K mg) : mg "new_account" = some (.ref (He.ga K "new_account")) := let ⟨_, X, G⟩ := Z.here; He.glo_ok X G (Z.t.d.fact 3 rfl)
theorem g_is_name (Z : Zed w K mg) : mg "is_name" = some (.ref (He.ga K "is_name")) := let ⟨_, X, G⟩ := Z.here; He.glo_ok X G (Z.t.d.fact 4 rfl)
theorem g_number_of (Z : Zed w K mg) : mg "number_of" = some (.ref (He.ga K "number_of")) := let ⟨_, X, G⟩ := Z.here; He.glo_ok X G (Z.t.d.fact 5 rfl)
theorem g_bit_at (Z : Zed w K mg) : mg "bit_at" = some (.ref (He.ga K "bit_at")) := let ⟨_, X, G⟩ := Z.here; He.glo_ok X G (Z.t.d.fact 6 rfl)
theorem g_parting (Z : Zed w K mg) : mg "parting" = some (.ref (He.ga K "parting")) := let ⟨_, X, G⟩ := Z.here; He.glo_ok X G (Z.t.d.fact 7 rfl)
theorem g_is_rate (Z : Zed w K mg) : mg "is_rate" = some (.ref (He.ga K "is_rate")) := let ⟨_, X, G⟩ := Z.here; He.glo_ok X G (Z.t.d.fact 8 rfl)
theorem g_is_amount (Z : Zed w K mg) : mg "is_amount" = some (.ref (He.ga K "is_amount")) := let ⟨_, X, G⟩ := Z.here; He.glo_ok X G (Z.t.d.fact 9 rfl)
theorem g_is_kind (Z : Zed w K mg) : mg "is_kind" = some (.ref (He.ga K "is_kind")) := let ⟨_, X, G⟩ := Z.here; He.glo_ok X G (Z.t.d.fact 10 rfl)
theorem g_is_deed (Z : Zed w K mg) : mg "is_deed" = some (.ref (He.ga K "is_deed")) := let ⟨_, X, G⟩ := Z.here; He.glo_ok X G (Z.t.d.fact 11 rfl)
theorem g_is_signature (Z : Zed w K mg) : mg "is_signature" = some (.ref (He.ga K "is_signature")) := let ⟨_, X, G⟩ := Z.here; He.glo_ok X G (Z.t.d.fact 12 rfl)
theorem g_check_group (Z : Zed w K mg) : mg "check_group" = some (.ref (He.ga K "check_group")) := let ⟨_, X, G⟩ := Z.here; He.glo_ok X G (Z.t.d.fact 13 rfl)
theorem g_group_names (Z : Zed w K mg) : mg "group_names" = some (.ref (He.ga K "group_names")) := let ⟨_, X, G⟩ := Z.here; He.glo_ok X G (Z.t.d.fact 14 rfl)
theorem g_minted (Z : Zed w K mg) : mg "minted" = some (.ref (He.ga K "minted")) := let ⟨_, X, G⟩ := Z.here; He.glo_ok X G (Z.t.d.fact 15 rfl)
theorem g_least_of (Z : Zed w K mg) : mg "least_of" = some (.ref (He.ga K "least_of")) := let ⟨_, X, G⟩ := Z.here; He.glo_ok X G (Z.t.d.fact 16 rfl)
theorem g_greatest_of (Z : Zed w K mg) : mg "greatest_of" = some (.ref (He.ga K "greatest_of")) := let ⟨_, X, G⟩ := Z.here; He.glo_ok X G (Z.t.d.fact 17 rfl)
theorem g_leaf_row (Z : Zed w K mg) : mg "leaf_row" = some (.ref (He.ga K "leaf_row")) := let ⟨_, X, G⟩ := Z.here; He.glo_ok X G (Z.t.d.fact 18 rfl)
theorem g_summary_numbers (Z : Zed w K mg) : mg "summary_numbers" = some (.ref (He.ga K "summary_numbers")) := let ⟨_, X, G⟩ := Z.here; He.glo_ok X G (Z.t.d.fact 19 rfl)
theorem g_branch_row (Z : Zed w K mg) : mg "branch_row" = some (.ref (He.ga K "branch_row")) := let ⟨_, X, G⟩ := Z.here; He.glo_ok X G (Z.t.d.fact 20 rfl)
theorem g_branch_summary (Z : Zed w K mg) : mg "branch_summary" = some (.ref (He.ga K "branch_summary")) := let ⟨_, X, G⟩ := Z.here; He.glo_ok X G (Z.t.d.fact 21 rfl)
theorem g_summary_of (Z : Zed w K mg) : mg "summary_of" = some (.ref (He.ga K "summary_of")) := let ⟨_, X, G⟩ := Z.here; He.glo_ok X G (Z.t.d.fact 22 rfl)
theorem g_top_row (Z : Zed w K mg) : mg "top_row" = some (.ref (He.ga K "top_row")) := let ⟨_, X, G⟩ := Z.here; He.glo_ok X G (Z.t.d.fact 23 rfl)
theorem g_root_of (Z : Zed w K mg) : mg "root_of" = some (.ref (He.ga K "root_of")) := let ⟨_, X, G⟩ := Z.here; He.glo_ok X G (Z.t.d.fact 24 rfl)
theorem g_beside (Z : Zed w K mg) : mg "beside" = some (.ref (He.ga K "beside")) := let ⟨_, X, G⟩ := Z.here; He.glo_ok X G (Z.t.d.fact 25 rfl)
theorem g_goes_into (Z : Zed w K mg) : mg "goes_into" = some (.ref (He.ga K "goes_into")) := let ⟨_, X, G⟩ := Z.here; He.glo_ok X G (Z.t.d.fact 26 rfl)
theorem g_side_of (Z : Zed w K mg) : mg "side_of" = some (.ref (He.ga K "side_of")) := let ⟨_, X, G⟩ := Z.here; He.glo_ok X G (Z.t.d.fact 27 rfl)
theorem g_put (Z : Zed w K mg) : mg "put" = some (.ref (He.ga K "put")) := let ⟨_, X, G⟩ := Z.here; He.glo_ok X G (Z.t.d.fact 28 rfl)
theorem g_is_between (Z : Zed w K mg) : mg "is_between" = some (.ref (He.ga K "is_between")) := let ⟨_, X, G⟩ := Z.here; He.glo_ok X G (Z.t.d.fact 29 rfl)
theorem g_get (Z : Zed w K mg) : mg "get" = some (.ref (He.ga K "get")) := let ⟨_, X, G⟩ := Z.here; He.glo_ok X G (Z.t.d.fact 30 rfl)
theorem g_without (Z : Zed w K mg) : mg "without" = some (.ref (He.ga K "without")) := let ⟨_, X, G⟩ := Z.here; He.glo_ok X G (Z.t.d.fact 31 rfl)
theorem g_drop (Z : Zed w K mg) : mg "drop" = some (.ref (He.ga K "drop")) := let ⟨_, X, G⟩ := Z.here; He.glo_ok X G (Z.t.d.fact 32 rfl)
theorem g_leaves_of (Z : Zed w K mg) : mg "leaves_of" = some (.ref (He.ga K "leaves_of")) := let ⟨_, X, G⟩ := Z.here; He.glo_ok X G (Z.t.d.fact 33 rfl)
theorem g_cut_off (Z : Zed w K mg) : mg "cut_off" = some (.ref (He.ga K "cut_off")) := let ⟨_, X, G⟩ := Z.here; He.glo_ok X G (Z.t.d.fact 34 rfl)
theorem g_prune (Z : Zed w K mg) : mg "prune" = some (.ref (He.ga K "prune")) := let ⟨_, X, G⟩ := Z.here; He.glo_ok X G (Z.t.d.fact 35 rfl)
theorem g_do_open (Z : Zed w K mg) : mg "do_open" = some (.ref (He.ga K "do_open")) := let ⟨_, X, G⟩ := Z.here; He.glo_ok X G (Z.t.d.fact 36 rfl)
theorem g_do_close (Z : Zed w K mg) : mg "do_close" = some (.ref (He.ga K "do_close")) := let ⟨_, X, G⟩ := Z.here; He.glo_ok X G (Z.t.d.fact 37 rfl)
theorem g_do_move (Z : Zed w K mg) : mg "do_move" = some (.ref (He.ga K "do_move")) := let ⟨_, X, G⟩ := Z.here; He.glo_ok X G (Z.t.d.fact 38 rfl)
theorem g_do_mint (Z : Zed w K mg) : mg "do_mint" = some (.ref (He.ga K "do_mint")) := let ⟨_, X, G⟩ := Z.here; He.glo_ok X G (Z.t.d.fact 39 rfl)
theorem g_do_burn (Z : Zed w K mg) : mg "do_burn" = some (.ref (He.ga K "do_burn")) := let ⟨_, X, G⟩ := Z.here; He.glo_ok X G (Z.t.d.fact 40 rfl)
theorem g_do_change (Z : Zed w K mg) : mg "do_change" = some (.ref (He.ga K "do_change")) := let ⟨_, X, G⟩ := Z.here; He.glo_ok X G (Z.t.d.fact 41 rfl)
theorem g_do_rule (Z : Zed w K mg) : mg "do_rule" = some (.ref (He.ga K "do_rule")) := let ⟨_, X, G⟩ := Z.here; He.glo_ok X G (Z.t.d.fact 42 rfl)
theorem g_do_group (Z : Zed w K mg) : mg "do_group" = some (.ref (He.ga K "do_group")) := let ⟨_, X, G⟩ := Z.here; He.glo_ok X G (Z.t.d.fact 43 rfl)
theorem g_deed_words (Z : Zed w K mg) : mg "deed_words" = some (.ref (He.ga K "deed_words")) := let ⟨_, X, G⟩ := Z.here; He.glo_ok X G (Z.t.d.fact 44 rfl)
theorem g_write_group (Z : Zed w K mg) : mg "write_group" = some (.ref (He.ga K "write_group")) := let ⟨_, X, G⟩ := Z.here; He.glo_ok X G (Z.t.d.fact 45 rfl)
theorem g_frame (Z : Zed w K mg) : mg "frame" = some (.ref (He.ga K "frame")) := let ⟨_, X, G⟩ := Z.here; He.glo_ok X G (Z.t.d.fact 46 rfl)
theorem g_group_line (Z : Zed w K mg) : mg "group_line" = some (.ref (He.ga K "group_line")) := let ⟨_, X, G⟩ := Z.here; He.glo_ok X G (Z.t.d.fact 47 rfl)
theorem g_deed_row (Z : Zed w K mg) : mg "deed_row" = some (.ref (He.ga K "deed_row")) := let ⟨_, X, G⟩ := Z.here; He.glo_ok X G (Z.t.d.fact 48 rfl)
theorem g_row_of_group (Z : Zed w K mg) : mg "row_of_group" = some (.ref (He.ga K "row_of_group")) := let ⟨_, X, G⟩ := Z.here; He.glo_ok X G (Z.t.d.fact 49 rfl)
theorem g_mark_of_group (Z : Zed w K mg) : mg "mark_of_group" = some (.ref (He.ga K "mark_of_group")) := let ⟨_, X, G⟩ := Z.here; He.glo_ok X G (Z.t.d.fact 50 rfl)
theorem g_receipt_name (Z : Zed w K mg) : mg "receipt_name" = some (.ref (He.ga K "receipt_name")) := let ⟨_, X, G⟩ := Z.here; He.glo_ok X G (Z.t.d.fact 51 rfl)
theorem g_step_of (Z : Zed w K mg) : mg "step_of" = some (.ref (He.ga K "step_of")) := let ⟨_, X, G⟩ := Z.here; He.glo_ok X G (Z.t.d.fact 52 rfl)
theorem g__law_cell (Z : Zed w K mg) : mg "_law_cell" = some (.ref (He.ga K "_law_cell")) := let ⟨_, X, G⟩ := Z.here; He.glo_ok X G (Z.t.d.fact 53 rfl)
theorem g__law_numbers (Z : Zed w K mg) : mg "_law_numbers" = some (.ref (He.ga K "_law_numbers")) := let ⟨_, X, G⟩ := Z.here; He.glo_ok X G (Z.t.d.fact 54 rfl)
theorem g__law_seal (Z : Zed w K mg) : mg "_law_seal" = some (.ref (He.ga K "_law_seal")) := let ⟨_, X, G⟩ := Z.here; He.glo_ok X G (Z.t.d.fact 55 rfl)
theorem g__law_modulus (Z : Zed w K mg) : mg "_law_modulus" = some (.ref (He.ga K "_law_modulus")) := let ⟨_, X, G⟩ := Z.here; He.glo_ok X G (Z.t.d.fact 56 rfl)
theorem g__law_lock (Z : Zed w K mg) : mg "_law_lock" = some (.ref (He.ga K "_law_lock")) := let ⟨_, X, G⟩ := Z.here; He.glo_ok X G (Z.t.d.fact 57 rfl)
theorem g__law_begin (Z : Zed w K mg) : mg "_law_begin" = some (.ref (He.ga K "_law_begin")) := let ⟨_, X, G⟩ := Z.here; He.glo_ok X G (Z.t.d.fact 58 rfl)
theorem g__law_notes (Z : Zed w K mg) : mg "_law_notes" = some (.ref (He.ga K "_law_notes")) := let ⟨_, X, G⟩ := Z.here; He.glo_ok X G (Z.t.d.fact 59 rfl)
theorem g__law_names (Z : Zed w K mg) : mg "_law_names" = some (.ref (He.ga K "_law_names")) := let ⟨_, X, G⟩ := Z.here; He.glo_ok X G (Z.t.d.fact 60 rfl)
theorem g__law_deed (Z : Zed w K mg) : mg "_law_deed" = some (.ref (He.ga K "_law_deed")) := let ⟨_, X, G⟩ := Z.here; He.glo_ok X G (Z.t.d.fact 61 rfl)
theorem g__law_signer (Z : Zed w K mg) : mg "_law_signer" = some (.ref (He.ga K "_law_signer")) := let ⟨_, X, G⟩ := Z.here; He.glo_ok X G (Z.t.d.fact 62 rfl)
theorem g__law_signature (Z : Zed w K mg) : mg "_law_signature" = some (.ref (He.ga K "_law_signature")) := let ⟨_, X, G⟩ := Z.here; He.glo_ok X G (Z.t.d.fact 63 rfl)
theorem g__law_group (Z : Zed w K mg) : mg "_law_group" = some (.ref (He.ga K "_law_group")) := let ⟨_, X, G⟩ := Z.here; He.glo_ok X G (Z.t.d.fact 64 rfl)
theorem g__law_done (Z : Zed w K mg) : mg "_law_done" = some (.ref (He.ga K "_law_done")) := let ⟨_, X, G⟩ := Z.here; He.glo_ok X G (Z.t.d.fact 65 rfl)
theorem g__law_rules (Z : Zed w K mg) : mg "_law_rules" = some (.ref (He.ga K "_law_rules")) := let ⟨_, X, G⟩ := Z.here; He.glo_ok X G (Z.t.d.fact 66 rfl)
theorem g__law_sync (Z : Zed w K mg) : mg "_law_sync" = some (.ref (He.ga K "_law_sync")) := let ⟨_, X, G⟩ := Z.here; He.glo_ok X G (Z.t.d.fact 67 rfl)
theorem g__law_ledger (Z : Zed w K mg) : mg "_law_ledger" = some (.ref (He.ga K "_law_ledger")) := let ⟨_, X, G⟩ := Z.here; He.glo_ok X G (Z.t.d.fact 68 rfl)
theorem g__law_do (Z : Zed w K mg) : mg "_law_do" = some (.ref (He.ga K "_law_do")) := let ⟨_, X, G⟩ := Z.here; He.glo_ok X G (Z.t.d.fact 69 rfl)
theorem g__law_net (Z : Zed w K mg) : mg "_law_net" = some (.ref (He.ga K "_law_net")) := let ⟨_, X, G⟩ := Z.here; He.glo_ok X G (Z.t.d.fact 70 rfl)
theorem g_law (Z : Zed w K mg) : mg "law" = some (.ref (He.ga K "law")) := let ⟨_, X, G⟩ := Z.here; He.glo_ok X G (Z.t.d.fact 71 rfl)
theorem g_root_of_trees (Z : Zed w K mg) : mg "root_of_trees" = some (.ref (He.ga K "root_of_trees")) := let ⟨_, X, G⟩ := Z.here; He.glo_ok X G (Z.t.d.fact 72 rfl)
theorem g_Rules (Z : Zed w K mg) : mg "Rules" = some (.ref (He.ga K "Rules")) := let ⟨_, X, G⟩ := Z.here; He.glo_ok X G (Z.t.d.fact 73 rfl)
theorem g_Group (Z : Zed w K mg) : mg "Group" = some (.ref (He.ga K "Group")) := let ⟨_, X, G⟩ := Z.here; He.glo_ok X G (Z.t.d.fact 74 rfl)
theorem g_Chronicle (Z : Zed w K mg) : mg "Chronicle" = some (.ref (He.ga K "Chronicle")) := let ⟨_, X, G⟩ := Z.here; He.glo_ok X G (Z.t.d.fact 75 rfl)
theorem g_Shelf (Z : Zed w K mg) : mg "Shelf" = some (.ref (He.ga K "Shelf")) := let ⟨_, X, G⟩ := Z.here; He.glo_ok X G (Z.t.d.fact 76 rfl)
theorem g_Doing (Z : Zed w K mg) : mg "Doing" = some (.ref (He.ga K "Doing")) := let ⟨_, X, G⟩ := Z.here; He.glo_ok X G (Z.t.d.fact 77 rfl)
theorem g_Receipts (Z : Zed w K mg) : mg "Receipts" = some (.ref (He.ga K "Receipts")) := let ⟨_, X, G⟩ := Z.here; He.glo_ok X G (Z.t.d.fact 78 rfl)
theorem g_Ledger (Z : Zed w K mg) : mg "Ledger" = some (.ref (He.ga K "Ledger")) := let ⟨_, X, G⟩ := Z.here; He.glo_ok X G (Z.t.d.fact 79 rfl)
theorem g_Sealer (Z : Zed w K mg) : mg "Sealer" = some (.ref (He.ga K "Sealer")) := let ⟨_, X, G⟩ := Z.here; He.glo_ok X G (Z.t.d.fact 80 rfl)
theorem g_GroupRefused (Z : Zed w K mg) : mg "GroupRefused" = some (.ref (He.ga K "GroupRefused")) := let ⟨_, X, G⟩ := Z.here; He.glo_ok X G (Z.t.d.fact 81 rfl)
theorem g_WORDS (Z : Zed w K mg) : mg "WORDS" = some (.ref (He.ga K "WORDS")) := let ⟨_, X, G⟩ := Z.here; He.glo_ok X G (Z.t.d.fact 82 rfl)
theorem g_EMPTY_ROW (Z : Zed w K mg) : mg "EMPTY_ROW" = some (.ref (He.ga K "EMPTY_ROW")) := let ⟨_, X, G⟩ := Z.here; He.glo_ok X G (Z.t.d.fact 83 rfl)
theorem g_DOINGS (Z : Zed w K mg) : mg "DOINGS" = some (.ref (He.ga K "DOINGS")) := let ⟨_, X, G⟩ := Z.here; He.glo_ok X G (Z.t.d.fact 84 rfl)
theorem n_len (Z : Zed w K mg) : mg "len" = none := let ⟨_, X, G⟩ := Z.here; He.free_ok X G (Z.t.d.fact 85 rfl)
theorem n_any (Z : Zed w K mg) : mg "any" = none := let ⟨_, X, G⟩ := Z.here; He.free_ok X G (Z.t.d.fact 86 rfl)
theorem n_all (Z : Zed w K mg) : mg "all" = none := let ⟨_, X, G⟩ := Z.here; He.free_ok X G (Z.t.d.fact 87 rfl)
theorem n_int (Z : Zed w K mg) : mg "int" = none := let ⟨_, X, G⟩ := Z.here; He.free_ok X G (Z.t.d.fact 88 rfl)
theorem n_abs (Z : Zed w K mg) : mg "abs" = none := let ⟨_, X, G⟩ := Z.here; He.free_ok X G (Z.t.d.fact 89 rfl)
theorem n_min (Z : Zed w K mg) : mg "min" = none := let ⟨_, X, G⟩ := Z.here; He.free_ok X G (Z.t.d.fact 90 rfl)
theorem n_max (Z : Zed w K mg) : mg "max" = none := let ⟨_, X, G⟩ := Z.here; He.free_ok X G (Z.t.d.fact 91 rfl)
theorem n_sorted (Z : Zed w K mg) : mg "sorted" = none := let ⟨_, X, G⟩ := Z.here; He.free_ok X G (Z.t.d.fact 92 rfl)
theorem n_range (Z : Zed w K mg) : mg "range" = none := let ⟨_, X, G⟩ := Z.here; He.free_ok X G (Z.t.d.fact 93 rfl)
theorem n_tuple (Z : Zed w K mg) : mg "tuple" = none := let ⟨_, X, G⟩ := Z.here; He.free_ok X G (Z.t.d.fact 94 rfl)
theorem n_list (Z : Zed w K mg) : mg "list" = none := let ⟨_, X, G⟩ := Z.here; He.free_ok X G (Z.t.d.fact 95 rfl)
theorem n_set (Z : Zed w K mg) : mg "set" = none := let ⟨_, X, G⟩ := Z.here; He.free_ok X G (Z.t.d.fact 96 rfl)
theorem n_dict (Z : Zed w K mg) : mg "dict" = none := let ⟨_, X, G⟩ := Z.here; He.free_ok X G (Z.t.d.fact 97 rfl)
theorem n_str (Z : Zed w K mg) : mg "str" = none := let ⟨_, X, G⟩ := Z.here; He.free_ok X G (Z.t.d.fact 98 rfl)
theorem n_zip (Z : Zed w K mg) : mg "zip" = none := let ⟨_, X, G⟩ := Z.here; He.free_ok X G (Z.t.d.fact 99 rfl)
theorem n_enumerate (Z : Zed w K mg) : mg "enumerate" = none := let ⟨_, X, G⟩ := Z.here; He.free_ok X G (Z.t.d.fact 100 rfl)
theorem n_isinstance (Z : Zed w K mg) : mg "isinstance" = none := let ⟨_, X, G⟩ := Z.here; He.free_ok X G (Z.t.d.fact 101 rfl)
theorem n_sum (Z : Zed w K mg) : mg "sum" = none := let ⟨_, X, G⟩ := Z.here; He.free_ok X G (Z.t.d.fact 102 rfl)
theorem n_super (Z : Zed w K mg) : mg "super" = none := let ⟨_, X, G⟩ := Z.here; He.free_ok X G (Z.t.d.fact 103 rfl)
theorem i_MOST_WORTH (Z : Zed w K mg) : ∃ t, mg "MOST_WORTH" = some (.int 1000000000000 t) := let ⟨_, X, G⟩ := Z.here; He.int_ok X G (Z.t.d.fact 104 rfl)
theorem i_MOST_EPOCH (Z : Zed w K mg) : ∃ t, mg "MOST_EPOCH" = some (.int 1000000 t) := let ⟨_, X, G⟩ := Z.here; He.int_ok X G (Z.t.d.fact 105 rfl)
theorem i_NOTES (Z : Zed w K mg) : ∃ t, mg "NOTES" = some (.int 8 t) := let ⟨_, X, G⟩ := Z.here; He.int_ok X G (Z.t.d.fact 106 rfl)
theorem i_KEY_TAG (Z : Zed w K mg) : ∃ t, mg "KEY_TAG" = some (.int 7 t) := let ⟨_, X, G⟩ := Z.here; He.int_ok X G (Z.t.d.fact 107 rfl)
theorem i_NAME_LIMIT (Z : Zed w K mg) : ∃ t, mg "NAME_LIMIT" = some (.int 8 t) := let ⟨_, X, G⟩ := Z.here; He.int_ok X G (Z.t.d.fact 108 rfl)
theorem i_PLACES (Z : Zed w K mg) : ∃ t, mg "PLACES" = some (.int 48 t) := let ⟨_, X, G⟩ := Z.here; He.int_ok X G (Z.t.d.fact 109 rfl)
theorem i_MOST_KINDS (Z : Zed w K mg) : ∃ t, mg "MOST_KINDS" = some (.int 3 t) := let ⟨_, X, G⟩ := Z.here; He.int_ok X G (Z.t.d.fact 110 rfl)
theorem i_MOST_FEE (Z : Zed w K mg) : ∃ t, mg "MOST_FEE" = some (.int 1000 t) := let ⟨_, X, G⟩ := Z.here; He.int_ok X G (Z.t.d.fact 111 rfl)
theorem i_MOST_RATE (Z : Zed w K mg) : ∃ t, mg "MOST_RATE" = some (.int 1000 t) := let ⟨_, X, G⟩ := Z.here; He.int_ok X G (Z.t.d.fact 112 rfl)
theorem i_MOST_DEEDS (Z : Zed w K mg) : ∃ t, mg "MOST_DEEDS" = some (.int 20 t) := let ⟨_, X, G⟩ := Z.here; He.int_ok X G (Z.t.d.fact 113 rfl)
theorem i_MOST_KEY (Z : Zed w K mg) : ∃ t, mg "MOST_KEY" = some (.int 10000000000000000000000000000000000000000 t) := let ⟨_, X, G⟩ := Z.here; He.int_ok X G (Z.t.d.fact 114 rfl)
theorem i_MOST_SHELF (Z : Zed w K mg) : ∃ t, mg "MOST_SHELF" = some (.int 20 t) := let ⟨_, X, G⟩ := Z.here; He.int_ok X G (Z.t.d.fact 115 rfl)
theorem i_SNAPSHOTS (Z : Zed w K mg) : ∃ t, mg "SNAPSHOTS" = some (.int 5 t) := let ⟨_, X, G⟩ := Z.here; He.int_ok X G (Z.t.d.fact 116 rfl)
theorem i_LEAST_MODULUS (Z : Zed w K mg) : ∃ t, mg "LEAST_MODULUS" = some (.int 3 t) := let ⟨_, X, G⟩ := Z.here; He.int_ok X G (Z.t.d.fact 117 rfl)
theorem i_GREATEST_MODULUS (Z : Zed w K mg) : ∃ t, mg "GREATEST_MODULUS" = some (.int 2305843009213693951 t) := let ⟨_, X, G⟩ := Z.here; He.int_ok X G (Z.t.d.fact 118 rfl)
theorem z_ALPHABET (Z : Zed w K mg) : ∃ t, mg "ALPHABET" = some (.str "0123456789_abcdefghijklmnopqrstuvwxyz" t) := let ⟨_, X, G⟩ := Z.here; He.str_ok X G (Z.t.d.fact 119 rfl)
theorem z_BANK (Z : Zed w K mg) : ∃ t, mg "BANK" = some (.str "bank" t) := let ⟨_, X, G⟩ := Z.here; He.str_ok X G (Z.t.d.fact 120 rfl)
theorem z_MINT (Z : Zed w K mg) : ∃ t, mg "MINT" = some (.str "mint" t) := let ⟨_, X, G⟩ := Z.here; He.str_ok X G (Z.t.d.fact 121 rfl)
theorem c_Rules (Z : Zed w K mg) : Cls K (He.ga K "Rules") := He.cls_ok (Z.t.d.fact 122 rfl)
theorem m_Rules (Z : Zed w K mg) : Mk K (He.ga K "Rules") (He.ma K (He.ga K "Rules") "__init__") := He.mkr_ok (Z.t.d.fact 123 rfl)
theorem a_Rules_kinds (Z : Zed w K mg) : NoAttr K (He.ga K "Rules") "kinds" := He.noat_ok (Z.t.d.fact 124 rfl)
theorem a_Rules_fee (Z : Zed w K mg) : NoAttr K (He.ga K "Rules") "fee" := He.noat_ok (Z.t.d.fact 125 rfl)
theorem a_Rules_rates (Z : Zed w K mg) : NoAttr K (He.ga K "Rules") "rates" := He.noat_ok (Z.t.d.fact 126 rfl)
theorem c_Group (Z : Zed w K mg) : Cls K (He.ga K "Group") := He.cls_ok (Z.t.d.fact 127 rfl)
theorem m_Group (Z : Zed w K mg) : Mk K (He.ga K "Group") (He.ma K (He.ga K "Group") "__init__") := He.mkr_ok (Z.t.d.fact 128 rfl)
theorem a_Group_deeds (Z : Zed w K mg) : NoAttr K (He.ga K "Group") "deeds" := He.noat_ok (Z.t.d.fact 129 rfl)
theorem a_Group_signatures (Z : Zed w K mg) : NoAttr K (He.ga K "Group") "signatures" := He.noat_ok (Z.t.d.fact 130 rfl)
theorem a_Group_epoch (Z : Zed w K mg) : NoAttr K (He.ga K "Group") "epoch" := He.noat_ok (Z.t.d.fact 131 rfl)
theorem c_Chronicle (Z : Zed w K mg) : Cls K (He.ga K "Chronicle") := He.cls_ok (Z.t.d.fact 132 rfl)
theorem m_Chronicle (Z : Zed w K mg) : Mk K (He.ga K "Chronicle") (He.ma K (He.ga K "Chronicle") "__init__") := He.mkr_ok (Z.t.d.fact 133 rfl)
theorem a_Chronicle__sealer (Z : Zed w K mg) : NoAttr K (He.ga K "Chronicle") "_sealer" := He.noat_ok (Z.t.d.fact 134 rfl)
theorem a_Chronicle__tree (Z : Zed w K mg) : NoAttr K (He.ga K "Chronicle") "_tree" := He.noat_ok (Z.t.d.fact 135 rfl)
theorem a_Chronicle__rows (Z : Zed w K mg) : NoAttr K (He.ga K "Chronicle") "_rows" := He.noat_ok (Z.t.d.fact 136 rfl)
theorem c_Shelf (Z : Zed w K mg) : Cls K (He.ga K "Shelf") := He.cls_ok (Z.t.d.fact 137 rfl)
theorem m_Shelf (Z : Zed w K mg) : Mk K (He.ga K "Shelf") (He.ma K (He.ga K "Shelf") "__init__") := He.mkr_ok (Z.t.d.fact 138 rfl)
theorem a_Shelf__most (Z : Zed w K mg) : NoAttr K (He.ga K "Shelf") "_most" := He.noat_ok (Z.t.d.fact 139 rfl)
theorem a_Shelf__seen (Z : Zed w K mg) : NoAttr K (He.ga K "Shelf") "_seen" := He.noat_ok (Z.t.d.fact 140 rfl)
theorem a_Shelf__trees (Z : Zed w K mg) : NoAttr K (He.ga K "Shelf") "_trees" := He.noat_ok (Z.t.d.fact 141 rfl)
theorem c_Doing (Z : Zed w K mg) : Cls K (He.ga K "Doing") := He.cls_ok (Z.t.d.fact 142 rfl)
theorem m_Doing (Z : Zed w K mg) : Mk K (He.ga K "Doing") (He.ma K (He.ga K "Doing") "__init__") := He.mkr_ok (Z.t.d.fact 143 rfl)
theorem a_Doing_sealer (Z : Zed w K mg) : NoAttr K (He.ga K "Doing") "sealer" := He.noat_ok (Z.t.d.fact 144 rfl)
theorem a_Doing_rules (Z : Zed w K mg) : NoAttr K (He.ga K "Doing") "rules" := He.noat_ok (Z.t.d.fact 145 rfl)
theorem a_Doing_epoch (Z : Zed w K mg) : NoAttr K (He.ga K "Doing") "epoch" := He.noat_ok (Z.t.d.fact 146 rfl)
theorem a_Doing_tree (Z : Zed w K mg) : NoAttr K (He.ga K "Doing") "tree" := He.noat_ok (Z.t.d.fact 147 rfl)
theorem a_Doing_group (Z : Zed w K mg) : NoAttr K (He.ga K "Doing") "group" := He.noat_ok (Z.t.d.fact 148 rfl)
theorem a_Doing_place (Z : Zed w K mg) : NoAttr K (He.ga K "Doing") "place" := He.noat_ok (Z.t.d.fact 149 rfl)
theorem a_Doing_signed (Z : Zed w K mg) : NoAttr K (He.ga K "Doing") "signed" := He.noat_ok (Z.t.d.fact 150 rfl)
theorem a_Doing_terms (Z : Zed w K mg) : NoAttr K (He.ga K "Doing") "terms" := He.noat_ok (Z.t.d.fact 151 rfl)
theorem a_Doing_given (Z : Zed w K mg) : NoAttr K (He.ga K "Doing") "given" := He.noat_ok (Z.t.d.fact 152 rfl)
theorem t_Doing_refuse (Z : Zed w K mg) : Meth K (He.ga K "Doing") "refuse" (He.ma K (He.ga K "Doing") "refuse") := He.meth_ok (Z.t.d.fact 153 rfl)
theorem t_Doing_account (Z : Zed w K mg) : Meth K (He.ga K "Doing") "account" (He.ma K (He.ga K "Doing") "account") := He.meth_ok (Z.t.d.fact 154 rfl)
theorem t_Doing_notes_before (Z : Zed w K mg) : Meth K (He.ga K "Doing") "notes_before" (He.ma K (He.ga K "Doing") "notes_before") := He.meth_ok (Z.t.d.fact 155 rfl)
theorem t_Doing_sign (Z : Zed w K mg) : Meth K (He.ga K "Doing") "sign" (He.ma K (He.ga K "Doing") "sign") := He.meth_ok (Z.t.d.fact 156 rfl)
theorem t_Doing_need_signed (Z : Zed w K mg) : Meth K (He.ga K "Doing") "need_signed" (He.ma K (He.ga K "Doing") "need_signed") := He.meth_ok (Z.t.d.fact 157 rfl)
theorem t_Doing_set_worth (Z : Zed w K mg) : Meth K (He.ga K "Doing") "set_worth" (He.ma K (He.ga K "Doing") "set_worth") := He.meth_ok (Z.t.d.fact 158 rfl)
theorem t_Doing_pay (Z : Zed w K mg) : Meth K (He.ga K "Doing") "pay" (He.ma K (He.ga K "Doing") "pay") := He.meth_ok (Z.t.d.fact 159 rfl)
theorem t_Doing_take (Z : Zed w K mg) : Meth K (He.ga K "Doing") "take" (He.ma K (He.ga K "Doing") "take") := He.meth_ok (Z.t.d.fact 160 rfl)
theorem t_Doing_keep_terms (Z : Zed w K mg) : Meth K (He.ga K "Doing") "keep_terms" (He.ma K (He.ga K "Doing") "keep_terms") := He.meth_ok (Z.t.d.fact 161 rfl)
theorem c_Receipts (Z : Zed w K mg) : Cls K (He.ga K "Receipts") := He.cls_ok (Z.t.d.fact 162 rfl)
theorem m_Receipts (Z : Zed w K mg) : Mk K (He.ga K "Receipts") (He.ma K (He.ga K "Receipts") "__init__") := He.mkr_ok (Z.t.d.fact 163 rfl)
theorem a_Receipts__sealer (Z : Zed w K mg) : NoAttr K (He.ga K "Receipts") "_sealer" := He.noat_ok (Z.t.d.fact 164 rfl)
theorem a_Receipts__tree (Z : Zed w K mg) : NoAttr K (He.ga K "Receipts") "_tree" := He.noat_ok (Z.t.d.fact 165 rfl)
theorem a_Receipts__many (Z : Zed w K mg) : NoAttr K (He.ga K "Receipts") "_many" := He.noat_ok (Z.t.d.fact 166 rfl)
theorem t_Receipts_add (Z : Zed w K mg) : Meth K (He.ga K "Receipts") "add" (He.ma K (He.ga K "Receipts") "add") := He.meth_ok (Z.t.d.fact 167 rfl)
theorem t_Receipts_root (Z : Zed w K mg) : Meth K (He.ga K "Receipts") "root" (He.ma K (He.ga K "Receipts") "root") := He.meth_ok (Z.t.d.fact 168 rfl)
theorem c_Ledger (Z : Zed w K mg) : Cls K (He.ga K "Ledger") := He.cls_ok (Z.t.d.fact 169 rfl)
theorem m_Ledger (Z : Zed w K mg) : Mk K (He.ga K "Ledger") (He.ma K (He.ga K "Ledger") "__init__") := He.mkr_ok (Z.t.d.fact 170 rfl)
theorem a_Ledger__sealer (Z : Zed w K mg) : NoAttr K (He.ga K "Ledger") "_sealer" := He.noat_ok (Z.t.d.fact 171 rfl)
theorem a_Ledger__rules (Z : Zed w K mg) : NoAttr K (He.ga K "Ledger") "_rules" := He.noat_ok (Z.t.d.fact 172 rfl)
theorem a_Ledger__tree (Z : Zed w K mg) : NoAttr K (He.ga K "Ledger") "_tree" := He.noat_ok (Z.t.d.fact 173 rfl)
theorem a_Ledger__epoch (Z : Zed w K mg) : NoAttr K (He.ga K "Ledger") "_epoch" := He.noat_ok (Z.t.d.fact 174 rfl)
theorem a_Ledger__receipts (Z : Zed w K mg) : NoAttr K (He.ga K "Ledger") "_receipts" := He.noat_ok (Z.t.d.fact 175 rfl)
theorem a_Ledger__trail (Z : Zed w K mg) : NoAttr K (He.ga K "Ledger") "_trail" := He.noat_ok (Z.t.d.fact 176 rfl)
theorem a_Ledger__chronicle (Z : Zed w K mg) : NoAttr K (He.ga K "Ledger") "_chronicle" := He.noat_ok (Z.t.d.fact 177 rfl)
theorem a_Ledger__shelf (Z : Zed w K mg) : NoAttr K (He.ga K "Ledger") "_shelf" := He.noat_ok (Z.t.d.fact 178 rfl)
theorem a_Ledger__journal (Z : Zed w K mg) : NoAttr K (He.ga K "Ledger") "_journal" := He.noat_ok (Z.t.d.fact 179 rfl)
theorem t_Ledger_root (Z : Zed w K mg) : Meth K (He.ga K "Ledger") "root" (He.ma K (He.ga K "Ledger") "root") := He.meth_ok (Z.t.d.fact 180 rfl)
theorem t_Ledger_tree (Z : Zed w K mg) : Meth K (He.ga K "Ledger") "tree" (He.ma K (He.ga K "Ledger") "tree") := He.meth_ok (Z.t.d.fact 181 rfl)
theorem t_Ledger_epoch (Z : Zed w K mg) : Meth K (He.ga K "Ledger") "epoch" (He.ma K (He.ga K "Ledger") "epoch") := He.meth_ok (Z.t.d.fact 182 rfl)
theorem t_Ledger_do (Z : Zed w K mg) : Meth K (He.ga K "Ledger") "do" (He.ma K (He.ga K "Ledger") "do") := He.meth_ok (Z.t.d.fact 183 rfl)
theorem c_Sealer (Z : Zed w K mg) : Cls K (He.ga K "Sealer") := He.cls_ok (Z.t.d.fact 184 rfl)
theorem m_Sealer (Z : Zed w K mg) : Mk K (He.ga K "Sealer") (He.ma K (He.ga K "Sealer") "__init__") := He.mkr_ok (Z.t.d.fact 185 rfl)
theorem a_Sealer__modulus (Z : Zed w K mg) : NoAttr K (He.ga K "Sealer") "_modulus" := He.noat_ok (Z.t.d.fact 186 rfl)
theorem t_Sealer_modulus (Z : Zed w K mg) : Meth K (He.ga K "Sealer") "modulus" (He.ma K (He.ga K "Sealer") "modulus") := He.meth_ok (Z.t.d.fact 187 rfl)
theorem t_Sealer_seal (Z : Zed w K mg) : Meth K (He.ga K "Sealer") "seal" (He.ma K (He.ga K "Sealer") "seal") := He.meth_ok (Z.t.d.fact 188 rfl)
end Zed
theorem F_lock_of (Z : Zed w K mg) : ∃ fd, FunD K "lock_of" "lock_of" (defArgs s_lock_of) (defBody s_lock_of) (defScope s_lock_of) [] [] (He.ga K "lock_of") fd := Z.t.d.def_ 0 (d := d_lock_of) rfl
theorem F_is_notes (Z : Zed w K mg) : ∃ fd, FunD K "is_notes" "is_notes" (defArgs s_is_notes) (defBody s_is_notes) (defScope s_is_notes) [] [] (He.ga K "is_notes") fd := Z.t.d.def_ 1 (d := d_is_notes) rfl
theorem F_is_enough (Z : Zed w K mg) : ∃ fd, FunD K "is_enough" "is_enough" (defArgs s_is_enough) (defBody s_is_enough) (defScope s_is_enough) [] [] (He.ga K "is_enough") fd := Z.t.d.def_ 2 (d := d_is_enough) rfl
theorem F_new_account (Z : Zed w K mg) : ∃ fd, FunD K "new_account" "new_account" (defArgs s_new_account) (defBody s_new_account) (defScope s_new_account) [] [] (He.ga K "new_account") fd := Z.t.d.def_ 3 (d := d_new_account) rfl
theorem F_is_name (Z : Zed w K mg) : ∃ fd, FunD K "is_name" "is_name" (defArgs s_is_name) (defBody s_is_name) (defScope s_is_name) [] [] (He.ga K "is_name") fd := Z.t.d.def_ 4 (d := d_is_name) rfl
theorem F_number_of (Z : Zed w K mg) : ∃ fd, FunD K "number_of" "number_of" (defArgs s_number_of) (defBody s_number_of) (defScope s_number_of) [] [] (He.ga K "number_of") fd := Z.t.d.def_ 5 (d := d_number_of) rfl
theorem F_bit_at (Z : Zed w K mg) : ∃ fd, FunD K "bit_at" "bit_at" (defArgs s_bit_at) (defBody s_bit_at) (defScope s_bit_at) [] [] (He.ga K "bit_at") fd := Z.t.d.def_ 6 (d := d_bit_at) rfl
theorem F_parting (Z : Zed w K mg) : ∃ fd, FunD K "parting" "parting" (defArgs s_parting) (defBody s_parting) (defScope s_parting) [] [] (He.ga K "parting") fd := Z.t.d.def_ 7 (d := d_parting) rfl
theorem F_Rules_init (Z : Zed w K mg) : ∃ fd, FunD K "__init__" "Rules.__init__" (defArgs s_Rules_init) (defBody s_Rules_init) (defScope s_Rules_init) [] [] (He.ma K (He.ga K "Rules") "__init__") fd := Z.t.d.def_ 8 (d := d_Rules_init) rfl
theorem F_is_rate (Z : Zed w K mg) : ∃ fd, FunD K "is_rate" "is_rate" (defArgs s_is_rate) (defBody s_is_rate) (defScope s_is_rate) [] [] (He.ga K "is_rate") fd := Z.t.d.def_ 9 (d := d_is_rate) rfl
theorem F_Group_init (Z : Zed w K mg) : ∃ fd, FunD K "__init__" "Group.__init__" (defArgs s_Group_init) (defBody s_Group_init) (defScope s_Group_init) [] [] (He.ma K (He.ga K "Group") "__init__") fd := Z.t.d.def_ 10 (d := d_Group_init) rfl
theorem F_is_amount (Z : Zed w K mg) : ∃ fd, FunD K "is_amount" "is_amount" (defArgs s_is_amount) (defBody s_is_amount) (defScope s_is_amount) [] [] (He.ga K "is_amount") fd := Z.t.d.def_ 11 (d := d_is_amount) rfl
theorem F_is_kind (Z : Zed w K mg) : ∃ fd, FunD K "is_kind" "is_kind" (defArgs s_is_kind) (defBody s_is_kind) (defScope s_is_kind) [] [] (He.ga K "is_kind") fd := Z.t.d.def_ 12 (d := d_is_kind) rfl
theorem F_is_deed (Z : Zed w K mg) : ∃ fd, FunD K "is_deed" "is_deed" (defArgs s_is_deed) (defBody s_is_deed) (defScope s_is_deed) [] [] (He.ga K "is_deed") fd := Z.t.d.def_ 13 (d := d_is_deed) rfl
theorem F_is_signature (Z : Zed w K mg) : ∃ fd, FunD K "is_signature" "is_signature" (defArgs s_is_signature) (defBody s_is_signature) (defScope s_is_signature) [] [] (He.ga K "is_signature") fd := Z.t.d.def_ 14 (d := d_is_signature) rfl
theorem F_check_group (Z : Zed w K mg) : ∃ fd, FunD K "check_group" "check_group" (defArgs s_check_group) (defBody s_check_group) (defScope s_check_group) [] [] (He.ga K "check_group") fd := Z.t.d.def_ 15 (d := d_check_group) rfl
theorem F_group_names (Z : Zed w K mg) : ∃ fd, FunD K "group_names" "group_names" (defArgs s_group_names) (defBody s_group_names) (defScope s_group_names) [] [] (He.ga K "group_names") fd := Z.t.d.def_ 16 (d := d_group_names) rfl
theorem F_minted (Z : Zed w K mg) : ∃ fd, FunD K "minted" "minted" (defArgs s_minted) (defBody s_minted) (defScope s_minted) [] [] (He.ga K "minted") fd := Z.t.d.def_ 17 (d := d_minted) rfl
theorem F_least_of (Z : Zed w K mg) : ∃ fd, FunD K "least_of" "least_of" (defArgs s_least_of) (defBody s_least_of) (defScope s_least_of) [] [] (He.ga K "least_of") fd := Z.t.d.def_ 18 (d := d_least_of) rfl
theorem F_greatest_of (Z : Zed w K mg) : ∃ fd, FunD K "greatest_of" "greatest_of" (defArgs s_greatest_of) (defBody s_greatest_of) (defScope s_greatest_of) [] [] (He.ga K "greatest_of") fd := Z.t.d.def_ 19 (d := d_greatest_of) rfl
theorem F_leaf_row (Z : Zed w K mg) : ∃ fd, FunD K "leaf_row" "leaf_row" (defArgs s_leaf_row) (defBody s_leaf_row) (defScope s_leaf_row) [] [] (He.ga K "leaf_row") fd := Z.t.d.def_ 20 (d := d_leaf_row) rfl
theorem F_summary_numbers (Z : Zed w K mg) : ∃ fd, FunD K "summary_numbers" "summary_numbers" (defArgs s_summary_numbers) (defBody s_summary_numbers) (defScope s_summary_numbers) [] [] (He.ga K "summary_numbers") fd := Z.t.d.def_ 21 (d := d_summary_numbers) rfl
theorem F_branch_row (Z : Zed w K mg) : ∃ fd, FunD K "branch_row" "branch_row" (defArgs s_branch_row) (defBody s_branch_row) (defScope s_branch_row) [] [] (He.ga K "branch_row") fd := Z.t.d.def_ 22 (d := d_branch_row) rfl
theorem F_branch_summary (Z : Zed w K mg) : ∃ fd, FunD K "branch_summary" "branch_summary" (defArgs s_branch_summary) (defBody s_branch_summary) (defScope s_branch_summary) [] [] (He.ga K "branch_summary") fd := Z.t.d.def_ 23 (d := d_branch_summary) rfl
theorem F_summary_of (Z : Zed w K mg) : ∃ fd, FunD K "summary_of" "summary_of" (defArgs s_summary_of) (defBody s_summary_of) (defScope s_summary_of) [] [] (He.ga K "summary_of") fd := Z.t.d.def_ 24 (d := d_summary_of) rfl
theorem F_top_row (Z : Zed w K mg) : ∃ fd, FunD K "top_row" "top_row" (defArgs s_top_row) (defBody s_top_row) (defScope s_top_row) [] [] (He.ga K "top_row") fd := Z.t.d.def_ 25 (d := d_top_row) rfl
theorem F_root_of (Z : Zed w K mg) : ∃ fd, FunD K "root_of" "root_of" (defArgs s_root_of) (defBody s_root_of) (defScope s_root_of) [] [] (He.ga K "root_of") fd := Z.t.d.def_ 26 (d := d_root_of) rfl
theorem F_beside (Z : Zed w K mg) : ∃ fd, FunD K "beside" "beside" (defArgs s_beside) (defBody s_beside) (defScope s_beside) [] [] (He.ga K "beside") fd := Z.t.d.def_ 27 (d := d_beside) rfl
theorem F_goes_into (Z : Zed w K mg) : ∃ fd, FunD K "goes_into" "goes_into" (defArgs s_goes_into) (defBody s_goes_into) (defScope s_goes_into) [] [] (He.ga K "goes_into") fd := Z.t.d.def_ 28 (d := d_goes_into) rfl
theorem F_side_of (Z : Zed w K mg) : ∃ fd, FunD K "side_of" "side_of" (defArgs s_side_of) (defBody s_side_of) (defScope s_side_of) [] [] (He.ga K "side_of") fd := Z.t.d.def_ 29 (d := d_side_of) rfl
theorem F_put (Z : Zed w K mg) : ∃ fd, FunD K "put" "put" (defArgs s_put) (defBody s_put) (defScope s_put) [] [] (He.ga K "put") fd := Z.t.d.def_ 30 (d := d_put) rfl
theorem F_is_between (Z : Zed w K mg) : ∃ fd, FunD K "is_between" "is_between" (defArgs s_is_between) (defBody s_is_between) (defScope s_is_between) [] [] (He.ga K "is_between") fd := Z.t.d.def_ 31 (d := d_is_between) rfl
theorem F_get (Z : Zed w K mg) : ∃ fd, FunD K "get" "get" (defArgs s_get) (defBody s_get) (defScope s_get) [] [] (He.ga K "get") fd := Z.t.d.def_ 32 (d := d_get) rfl
theorem F_without (Z : Zed w K mg) : ∃ fd, FunD K "without" "without" (defArgs s_without) (defBody s_without) (defScope s_without) [] [] (He.ga K "without") fd := Z.t.d.def_ 33 (d := d_without) rfl
theorem F_drop (Z : Zed w K mg) : ∃ fd, FunD K "drop" "drop" (defArgs s_drop) (defBody s_drop) (defScope s_drop) [] [] (He.ga K "drop") fd := Z.t.d.def_ 34 (d := d_drop) rfl
theorem F_leaves_of (Z : Zed w K mg) : ∃ fd, FunD K "leaves_of" "leaves_of" (defArgs s_leaves_of) (defBody s_leaves_of) (defScope s_leaves_of) [] [] (He.ga K "leaves_of") fd := Z.t.d.def_ 35 (d := d_leaves_of) rfl
theorem F_cut_off (Z : Zed w K mg) : ∃ fd, FunD K "cut_off" "cut_off" (defArgs s_cut_off) (defBody s_cut_off) (defScope s_cut_off) [] [] (He.ga K "cut_off") fd := Z.t.d.def_ 36 (d := d_cut_off) rfl
theorem F_prune (Z : Zed w K mg) : ∃ fd, FunD K "prune" "prune" (defArgs s_prune) (defBody s_prune) (defScope s_prune) [] [] (He.ga K "prune") fd := Z.t.d.def_ 37 (d := d_prune) rfl
theorem F_Chronicle_init (Z : Zed w K mg) : ∃ fd, FunD K "__init__" "Chronicle.__init__" (defArgs s_Chronicle_init) (defBody s_Chronicle_init) (defScope s_Chronicle_init) [] [] (He.ma K (He.ga K "Chronicle") "__init__") fd := Z.t.d.def_ 38 (d := d_Chronicle_init) rfl
theorem F_Shelf_init (Z : Zed w K mg) : ∃ fd, FunD K "__init__" "Shelf.__init__" (defArgs s_Shelf_init) (defBody s_Shelf_init) (defScope s_Shelf_init) [] [] (He.ma K (He.ga K "Shelf") "__init__") fd := Z.t.d.def_ 39 (d := d_Shelf_init) rfl
theorem F_Doing_init (Z : Zed w K mg) : ∃ fd, FunD K "__init__" "Doing.__init__" (defArgs s_Doing_init) (defBody s_Doing_init) (defScope s_Doing_init) [] [] (He.ma K (He.ga K "Doing") "__init__") fd := Z.t.d.def_ 40 (d := d_Doing_init) rfl
theorem F_Doing_refuse (Z : Zed w K mg) : ∃ fd, FunD K "refuse" "Doing.refuse" (defArgs s_Doing_refuse) (defBody s_Doing_refuse) (defScope s_Doing_refuse) [] [] (He.ma K (He.ga K "Doing") "refuse") fd := Z.t.d.def_ 41 (d := d_Doing_refuse) rfl
theorem F_Doing_account (Z : Zed w K mg) : ∃ fd, FunD K "account" "Doing.account" (defArgs s_Doing_account) (defBody s_Doing_account) (defScope s_Doing_account) [] [] (He.ma K (He.ga K "Doing") "account") fd := Z.t.d.def_ 42 (d := d_Doing_account) rfl
theorem F_Doing_notes_before (Z : Zed w K mg) : ∃ fd, FunD K "notes_before" "Doing.notes_before" (defArgs s_Doing_notes_before) (defBody s_Doing_notes_before) (defScope s_Doing_notes_before) [] [] (He.ma K (He.ga K "Doing") "notes_before") fd := Z.t.d.def_ 43 (d := d_Doing_notes_before) rfl
theorem F_Doing_sign (Z : Zed w K mg) : ∃ fd, FunD K "sign" "Doing.sign" (defArgs s_Doing_sign) (defBody s_Doing_sign) (defScope s_Doing_sign) [] [] (He.ma K (He.ga K "Doing") "sign") fd := Z.t.d.def_ 44 (d := d_Doing_sign) rfl
theorem F_Doing_need_signed (Z : Zed w K mg) : ∃ fd, FunD K "need_signed" "Doing.need_signed" (defArgs s_Doing_need_signed) (defBody s_Doing_need_signed) (defScope s_Doing_need_signed) [] [] (He.ma K (He.ga K "Doing") "need_signed") fd := Z.t.d.def_ 45 (d := d_Doing_need_signed) rfl
theorem F_Doing_set_worth (Z : Zed w K mg) : ∃ fd, FunD K "set_worth" "Doing.set_worth" (defArgs s_Doing_set_worth) (defBody s_Doing_set_worth) (defScope s_Doing_set_worth) [] [] (He.ma K (He.ga K "Doing") "set_worth") fd := Z.t.d.def_ 46 (d := d_Doing_set_worth) rfl
theorem F_Doing_pay (Z : Zed w K mg) : ∃ fd, FunD K "pay" "Doing.pay" (defArgs s_Doing_pay) (defBody s_Doing_pay) (defScope s_Doing_pay) [] [] (He.ma K (He.ga K "Doing") "pay") fd := Z.t.d.def_ 47 (d := d_Doing_pay) rfl
theorem F_Doing_take (Z : Zed w K mg) : ∃ fd, FunD K "take" "Doing.take" (defArgs s_Doing_take) (defBody s_Doing_take) (defScope s_Doing_take) [] [] (He.ma K (He.ga K "Doing") "take") fd := Z.t.d.def_ 48 (d := d_Doing_take) rfl
theorem F_Doing_keep_terms (Z : Zed w K mg) : ∃ fd, FunD K "keep_terms" "Doing.keep_terms" (defArgs s_Doing_keep_terms) (defBody s_Doing_keep_terms) (defScope s_Doing_keep_terms) [] [] (He.ma K (He.ga K "Doing") "keep_terms") fd := Z.t.d.def_ 49 (d := d_Doing_keep_terms) rfl
theorem F_do_open (Z : Zed w K mg) : ∃ fd, FunD K "do_open" "do_open" (defArgs s_do_open) (defBody s_do_open) (defScope s_do_open) [] [] (He.ga K "do_open") fd := Z.t.d.def_ 50 (d := d_do_open) rfl
theorem F_do_close (Z : Zed w K mg) : ∃ fd, FunD K "do_close" "do_close" (defArgs s_do_close) (defBody s_do_close) (defScope s_do_close) [] [] (He.ga K "do_close") fd := Z.t.d.def_ 51 (d := d_do_close) rfl
theorem F_do_move (Z : Zed w K mg) : ∃ fd, FunD K "do_move" "do_move" (defArgs s_do_move) (defBody s_do_move) (defScope s_do_move) [] [] (He.ga K "do_move") fd := Z.t.d.def_ 52 (d := d_do_move) rfl
theorem F_do_mint (Z : Zed w K mg) : ∃ fd, FunD K "do_mint" "do_mint" (defArgs s_do_mint) (defBody s_do_mint) (defScope s_do_mint) [] [] (He.ga K "do_mint") fd := Z.t.d.def_ 53 (d := d_do_mint) rfl
theorem F_do_burn (Z : Zed w K mg) : ∃ fd, FunD K "do_burn" "do_burn" (defArgs s_do_burn) (defBody s_do_burn) (defScope s_do_burn) [] [] (He.ga K "do_burn") fd := Z.t.d.def_ 54 (d := d_do_burn) rfl
theorem F_do_change (Z : Zed w K mg) : ∃ fd, FunD K "do_change" "do_change" (defArgs s_do_change) (defBody s_do_change) (defScope s_do_change) [] [] (He.ga K "do_change") fd := Z.t.d.def_ 55 (d := d_do_change) rfl
theorem F_do_rule (Z : Zed w K mg) : ∃ fd, FunD K "do_rule" "do_rule" (defArgs s_do_rule) (defBody s_do_rule) (defScope s_do_rule) [] [] (He.ga K "do_rule") fd := Z.t.d.def_ 56 (d := d_do_rule) rfl
theorem F_do_group (Z : Zed w K mg) : ∃ fd, FunD K "do_group" "do_group" (defArgs s_do_group) (defBody s_do_group) (defScope s_do_group) [] [] (He.ga K "do_group") fd := Z.t.d.def_ 57 (d := d_do_group) rfl
theorem F_deed_words (Z : Zed w K mg) : ∃ fd, FunD K "deed_words" "deed_words" (defArgs s_deed_words) (defBody s_deed_words) (defScope s_deed_words) [] [] (He.ga K "deed_words") fd := Z.t.d.def_ 58 (d := d_deed_words) rfl
theorem F_write_group (Z : Zed w K mg) : ∃ fd, FunD K "write_group" "write_group" (defArgs s_write_group) (defBody s_write_group) (defScope s_write_group) [] [] (He.ga K "write_group") fd := Z.t.d.def_ 59 (d := d_write_group) rfl
theorem F_frame (Z : Zed w K mg) : ∃ fd, FunD K "frame" "frame" (defArgs s_frame) (defBody s_frame) (defScope s_frame) [] [] (He.ga K "frame") fd := Z.t.d.def_ 60 (d := d_frame) rfl
theorem F_group_line (Z : Zed w K mg) : ∃ fd, FunD K "group_line" "group_line" (defArgs s_group_line) (defBody s_group_line) (defScope s_group_line) [] [] (He.ga K "group_line") fd := Z.t.d.def_ 61 (d := d_group_line) rfl
theorem F_deed_row (Z : Zed w K mg) : ∃ fd, FunD K "deed_row" "deed_row" (defArgs s_deed_row) (defBody s_deed_row) (defScope s_deed_row) [] [] (He.ga K "deed_row") fd := Z.t.d.def_ 62 (d := d_deed_row) rfl
theorem F_row_of_group (Z : Zed w K mg) : ∃ fd, FunD K "row_of_group" "row_of_group" (defArgs s_row_of_group) (defBody s_row_of_group) (defScope s_row_of_group) [] [] (He.ga K "row_of_group") fd := Z.t.d.def_ 63 (d := d_row_of_group) rfl
theorem F_mark_of_group (Z : Zed w K mg) : ∃ fd, FunD K "mark_of_group" "mark_of_group" (defArgs s_mark_of_group) (defBody s_mark_of_group) (defScope s_mark_of_group) [] [] (He.ga K "mark_of_group") fd := Z.t.d.def_ 64 (d := d_mark_of_group) rfl
theorem F_receipt_name (Z : Zed w K mg) : ∃ fd, FunD K "receipt_name" "receipt_name" (defArgs s_receipt_name) (defBody s_receipt_name) (defScope s_receipt_name) [] [] (He.ga K "receipt_name") fd := Z.t.d.def_ 65 (d := d_receipt_name) rfl
theorem F_Receipts_init (Z : Zed w K mg) : ∃ fd, FunD K "__init__" "Receipts.__init__" (defArgs s_Receipts_init) (defBody s_Receipts_init) (defScope s_Receipts_init) [] [] (He.ma K (He.ga K "Receipts") "__init__") fd := Z.t.d.def_ 66 (d := d_Receipts_init) rfl
theorem F_Receipts_add (Z : Zed w K mg) : ∃ fd, FunD K "add" "Receipts.add" (defArgs s_Receipts_add) (defBody s_Receipts_add) (defScope s_Receipts_add) [] [] (He.ma K (He.ga K "Receipts") "add") fd := Z.t.d.def_ 67 (d := d_Receipts_add) rfl
theorem F_Receipts_root (Z : Zed w K mg) : ∃ fd, FunD K "root" "Receipts.root" (defArgs s_Receipts_root) (defBody s_Receipts_root) (defScope s_Receipts_root) [] [] (He.ma K (He.ga K "Receipts") "root") fd := Z.t.d.def_ 68 (d := d_Receipts_root) rfl
theorem F_step_of (Z : Zed w K mg) : ∃ fd, FunD K "step_of" "step_of" (defArgs s_step_of) (defBody s_step_of) (defScope s_step_of) [] [] (He.ga K "step_of") fd := Z.t.d.def_ 69 (d := d_step_of) rfl
theorem F_Ledger_init (Z : Zed w K mg) : ∃ fd, FunD K "__init__" "Ledger.__init__" (defArgs s_Ledger_init) (defBody s_Ledger_init) (defScope s_Ledger_init) [] [] (He.ma K (He.ga K "Ledger") "__init__") fd := Z.t.d.def_ 70 (d := d_Ledger_init) rfl
theorem F_Ledger_root (Z : Zed w K mg) : ∃ fd, FunD K "root" "Ledger.root" (defArgs s_Ledger_root) (defBody s_Ledger_root) (defScope s_Ledger_root) [] [] (He.ma K (He.ga K "Ledger") "root") fd := Z.t.d.def_ 71 (d := d_Ledger_root) rfl
theorem F_Ledger_tree (Z : Zed w K mg) : ∃ fd, FunD K "tree" "Ledger.tree" (defArgs s_Ledger_tree) (defBody s_Ledger_tree) (defScope s_Ledger_tree) [] [] (He.ma K (He.ga K "Ledger") "tree") fd := Z.t.d.def_ 72 (d := d_Ledger_tree) rfl
theorem F_Ledger_epoch (Z : Zed w K mg) : ∃ fd, FunD K "epoch" "Ledger.epoch" (defArgs s_Ledger_epoch) (defBody s_Ledger_epoch) (defScope s_Ledger_epoch) [] [] (He.ma K (He.ga K "Ledger") "epoch") fd := Z.t.d.def_ 73 (d := d_Ledger_epoch) rfl
theorem F_Ledger_do (Z : Zed w K mg) : ∃ fd, FunD K "do" "Ledger.do" (defArgs s_Ledger_do) (defBody s_Ledger_do) (defScope s_Ledger_do) [] [] (He.ma K (He.ga K "Ledger") "do") fd := Z.t.d.def_ 74 (d := d_Ledger_do) rfl
theorem F_Sealer_init (Z : Zed w K mg) : ∃ fd, FunD K "__init__" "Sealer.__init__" (defArgs s_Sealer_init) (defBody s_Sealer_init) (defScope s_Sealer_init) [] [] (He.ma K (He.ga K "Sealer") "__init__") fd := Z.t.d.def_ 75 (d := d_Sealer_init) rfl
theorem F_Sealer_modulus (Z : Zed w K mg) : ∃ fd, FunD K "modulus" "Sealer.modulus" (defArgs s_Sealer_modulus) (defBody s_Sealer_modulus) (defScope s_Sealer_modulus) [] [] (He.ma K (He.ga K "Sealer") "modulus") fd := Z.t.d.def_ 76 (d := d_Sealer_modulus) rfl
theorem F_Sealer_seal (Z : Zed w K mg) : ∃ fd, FunD K "seal" "Sealer.seal" (defArgs s_Sealer_seal) (defBody s_Sealer_seal) (defScope s_Sealer_seal) [] [] (He.ma K (He.ga K "Sealer") "seal") fd := Z.t.d.def_ 77 (d := d_Sealer_seal) rfl
theorem F_law_cell (Z : Zed w K mg) : ∃ fd, FunD K "_law_cell" "_law_cell" (defArgs s_law_cell) (defBody s_law_cell) (defScope s_law_cell) [] [] (He.ga K "_law_cell") fd := Z.t.d.def_ 78 (d := d_law_cell) rfl
theorem F_law_numbers (Z : Zed w K mg) : ∃ fd, FunD K "_law_numbers" "_law_numbers" (defArgs s_law_numbers) (defBody s_law_numbers) (defScope s_law_numbers) [] [] (He.ga K "_law_numbers") fd := Z.t.d.def_ 79 (d := d_law_numbers) rfl
theorem F_law_seal (Z : Zed w K mg) : ∃ fd, FunD K "_law_seal" "_law_seal" (defArgs s_law_seal) (defBody s_law_seal) (defScope s_law_seal) [] [] (He.ga K "_law_seal") fd := Z.t.d.def_ 80 (d := d_law_seal) rfl
theorem F_law_modulus (Z : Zed w K mg) : ∃ fd, FunD K "_law_modulus" "_law_modulus" (defArgs s_law_modulus) (defBody s_law_modulus) (defScope s_law_modulus) [] [] (He.ga K "_law_modulus") fd := Z.t.d.def_ 81 (d := d_law_modulus) rfl
theorem F_law_lock (Z : Zed w K mg) : ∃ fd, FunD K "_law_lock" "_law_lock" (defArgs s_law_lock) (defBody s_law_lock) (defScope s_law_lock) [] [] (He.ga K "_law_lock") fd := Z.t.d.def_ 82 (d := d_law_lock) rfl
theorem F_law_begin (Z : Zed w K mg) : ∃ fd, FunD K "_law_begin" "_law_begin" (defArgs s_law_begin) (defBody s_law_begin) (defScope s_law_begin) [] [] (He.ga K "_law_begin") fd := Z.t.d.def_ 83 (d := d_law_begin) rfl
theorem F_law_notes (Z : Zed w K mg) : ∃ fd, FunD K "_law_notes" "_law_notes" (defArgs s_law_notes) (defBody s_law_notes) (defScope s_law_notes) [] [] (He.ga K "_law_notes") fd := Z.t.d.def_ 84 (d := d_law_notes) rfl
theorem F_law_names (Z : Zed w K mg) : ∃ fd, FunD K "_law_names" "_law_names" (defArgs s_law_names) (defBody s_law_names) (defScope s_law_names) [] [] (He.ga K "_law_names") fd := Z.t.d.def_ 85 (d := d_law_names) rfl
theorem F_law_deed (Z : Zed w K mg) : ∃ fd, FunD K "_law_deed" "_law_deed" (defArgs s_law_deed) (defBody s_law_deed) (defScope s_law_deed) [] [] (He.ga K "_law_deed") fd := Z.t.d.def_ 86 (d := d_law_deed) rfl
theorem F_law_signer (Z : Zed w K mg) : ∃ fd, FunD K "_law_signer" "_law_signer" (defArgs s_law_signer) (defBody s_law_signer) (defScope s_law_signer) [] [] (He.ga K "_law_signer") fd := Z.t.d.def_ 87 (d := d_law_signer) rfl
theorem F_law_signature (Z : Zed w K mg) : ∃ fd, FunD K "_law_signature" "_law_signature" (defArgs s_law_signature) (defBody s_law_signature) (defScope s_law_signature) [] [] (He.ga K "_law_signature") fd := Z.t.d.def_ 88 (d := d_law_signature) rfl
theorem F_law_group (Z : Zed w K mg) : ∃ fd, FunD K "_law_group" "_law_group" (defArgs s_law_group) (defBody s_law_group) (defScope s_law_group) [] [] (He.ga K "_law_group") fd := Z.t.d.def_ 89 (d := d_law_group) rfl
theorem F_law_done (Z : Zed w K mg) : ∃ fd, FunD K "_law_done" "_law_done" (defArgs s_law_done) (defBody s_law_done) (defScope s_law_done) [] [] (He.ga K "_law_done") fd := Z.t.d.def_ 90 (d := d_law_done) rfl
theorem F_law_rules (Z : Zed w K mg) : ∃ fd, FunD K "_law_rules" "_law_rules" (defArgs s_law_rules) (defBody s_law_rules) (defScope s_law_rules) [] [] (He.ga K "_law_rules") fd := Z.t.d.def_ 91 (d := d_law_rules) rfl
theorem F_law_sync (Z : Zed w K mg) : ∃ fd, FunD K "_law_sync" "_law_sync" (defArgs s_law_sync) (defBody s_law_sync) (defScope s_law_sync) [] [] (He.ga K "_law_sync") fd := Z.t.d.def_ 92 (d := d_law_sync) rfl
theorem F_law_ledger (Z : Zed w K mg) : ∃ fd, FunD K "_law_ledger" "_law_ledger" (defArgs s_law_ledger) (defBody s_law_ledger) (defScope s_law_ledger) [] [] (He.ga K "_law_ledger") fd := Z.t.d.def_ 93 (d := d_law_ledger) rfl
theorem F_law_do (Z : Zed w K mg) : ∃ fd, FunD K "_law_do" "_law_do" (defArgs s_law_do) (defBody s_law_do) (defScope s_law_do) [] [] (He.ga K "_law_do") fd := Z.t.d.def_ 94 (d := d_law_do) rfl
theorem F_law_net (Z : Zed w K mg) : ∃ fd, FunD K "_law_net" "_law_net" (defArgs s_law_net) (defBody s_law_net) (defScope s_law_net) [] [] (He.ga K "_law_net") fd := Z.t.d.def_ 95 (d := d_law_net) rfl
theorem F_law (Z : Zed w K mg) : ∃ fd, FunD K "law" "law" (defArgs s_law) (defBody s_law) (defScope s_law) [] [] (He.ga K "law") fd := Z.t.d.def_ 96 (d := d_law) rfl
theorem sc_lock_of : FnScope ["sealer", "key"] ["sealer", "key"] (defScope s_lock_of) := ⟨rfl, rfl, rfl, by decide +kernel, rfl, by decide +kernel, by decide +kernel⟩
theorem sc_is_notes : FnScope ["notes", "kinds", "modulus", "locks", "lock"] ["notes", "kinds", "modulus"] (defScope s_is_notes) := ⟨rfl, rfl, rfl, by decide +kernel, rfl, by decide +kernel, by decide +kernel⟩
theorem sc_is_enough : FnScope ["notes", "worths", "epoch"] ["notes", "worths", "epoch"] (defScope s_is_enough) := ⟨rfl, rfl, rfl, by decide +kernel, rfl, by decide +kernel, by decide +kernel⟩
theorem sc_new_account : FnScope ["name", "kinds", "notes", "_"] ["name", "kinds", "notes"] (defScope s_new_account) := ⟨rfl, rfl, rfl, by decide +kernel, rfl, by decide +kernel, by decide +kernel⟩
theorem sc_is_name : FnScope ["value", "char"] ["value"] (defScope s_is_name) := ⟨rfl, rfl, rfl, by decide +kernel, rfl, by decide +kernel, by decide +kernel⟩
theorem sc_number_of : FnScope ["name", "number", "k"] ["name"] (defScope s_number_of) := ⟨rfl, rfl, rfl, by decide +kernel, rfl, by decide +kernel, by decide +kernel⟩
theorem sc_bit_at : FnScope ["name", "place"] ["name", "place"] (defScope s_bit_at) := ⟨rfl, rfl, rfl, by decide +kernel, rfl, by decide +kernel, by decide +kernel⟩
theorem sc_parting : FnScope ["first", "second", "unlike"] ["first", "second"] (defScope s_parting) := ⟨rfl, rfl, rfl, by decide +kernel, rfl, by decide +kernel, by decide +kernel⟩
theorem sc_Rules_init : FnScope ["self", "kinds", "fee", "rates", "pair"] ["self", "kinds", "fee", "rates"] (defScope s_Rules_init) := ⟨rfl, rfl, rfl, by decide +kernel, rfl, by decide +kernel, by decide +kernel⟩
theorem sc_is_rate : FnScope ["pair", "rate", "kinds"] ["pair", "rate", "kinds"] (defScope s_is_rate) := ⟨rfl, rfl, rfl, by decide +kernel, rfl, by decide +kernel, by decide +kernel⟩
theorem sc_Group_init : FnScope ["self", "deeds", "signatures", "epoch"] ["self", "deeds", "signatures", "epoch"] (defScope s_Group_init) := ⟨rfl, rfl, rfl, by decide +kernel, rfl, by decide +kernel, by decide +kernel⟩
theorem sc_is_amount : FnScope ["amount"] ["amount"] (defScope s_is_amount) := ⟨rfl, rfl, rfl, by decide +kernel, rfl, by decide +kernel, by decide +kernel⟩
theorem sc_is_kind : FnScope ["kind", "rules"] ["kind", "rules"] (defScope s_is_kind) := ⟨rfl, rfl, rfl, by decide +kernel, rfl, by decide +kernel, by decide +kernel⟩
theorem sc_is_deed : FnScope ["sealer", "rules", "deed", "word", "names_are_valid", "form_is_valid"] ["sealer", "rules", "deed"] (defScope s_is_deed) := ⟨rfl, rfl, rfl, by decide +kernel, rfl, by decide +kernel, by decide +kernel⟩
theorem sc_is_signature : FnScope ["sealer", "signature", "name", "keys", "last", "place", "key", "next_lock"] ["sealer", "signature"] (defScope s_is_signature) := ⟨rfl, rfl, rfl, by decide +kernel, rfl, by decide +kernel, by decide +kernel⟩
theorem sc_check_group : FnScope ["sealer", "rules", "group", "index", "deed", "names", "signature"] ["sealer", "rules", "group"] (defScope s_check_group) := ⟨rfl, rfl, rfl, by decide +kernel, rfl, by decide +kernel, by decide +kernel⟩
theorem sc_group_names : FnScope ["rules", "group", "names", "deed", "signature"] ["rules", "group"] (defScope s_group_names) := ⟨rfl, rfl, rfl, by decide +kernel, rfl, by decide +kernel, by decide +kernel⟩
theorem sc_minted : FnScope ["group", "kind", "total", "deed"] ["group", "kind"] (defScope s_minted) := ⟨rfl, rfl, rfl, by decide +kernel, rfl, by decide +kernel, by decide +kernel⟩
theorem sc_least_of : FnScope ["tree"] ["tree"] (defScope s_least_of) := ⟨rfl, rfl, rfl, by decide +kernel, rfl, by decide +kernel, by decide +kernel⟩
theorem sc_greatest_of : FnScope ["tree"] ["tree"] (defScope s_greatest_of) := ⟨rfl, rfl, rfl, by decide +kernel, rfl, by decide +kernel, by decide +kernel⟩
theorem sc_leaf_row : FnScope ["leaf"] ["leaf"] (defScope s_leaf_row) := ⟨rfl, rfl, rfl, by decide +kernel, rfl, by decide +kernel, by decide +kernel⟩
theorem sc_summary_numbers : FnScope ["summary", "seal", "count", "sums", "least", "greatest"] ["summary"] (defScope s_summary_numbers) := ⟨rfl, rfl, rfl, by decide +kernel, rfl, by decide +kernel, by decide +kernel⟩
theorem sc_branch_row : FnScope ["left", "right"] ["left", "right"] (defScope s_branch_row) := ⟨rfl, rfl, rfl, by decide +kernel, rfl, by decide +kernel, by decide +kernel⟩
theorem sc_branch_summary : FnScope ["sealer", "left", "right", "sums", "one", "other"] ["sealer", "left", "right"] (defScope s_branch_summary) := ⟨rfl, rfl, rfl, by decide +kernel, rfl, by decide +kernel, by decide +kernel⟩
theorem sc_summary_of : FnScope ["sealer", "tree"] ["sealer", "tree"] (defScope s_summary_of) := ⟨rfl, rfl, rfl, by decide +kernel, rfl, by decide +kernel, by decide +kernel⟩
theorem sc_top_row : FnScope ["sealer", "tree", "summary"] ["sealer", "tree"] (defScope s_top_row) := ⟨rfl, rfl, rfl, by decide +kernel, rfl, by decide +kernel, by decide +kernel⟩
theorem sc_root_of : FnScope ["sealer", "tree"] ["sealer", "tree"] (defScope s_root_of) := ⟨rfl, rfl, rfl, by decide +kernel, rfl, by decide +kernel, by decide +kernel⟩
theorem sc_beside : FnScope ["tree", "leaf", "place"] ["tree", "leaf", "place"] (defScope s_beside) := ⟨rfl, rfl, rfl, by decide +kernel, rfl, by decide +kernel, by decide +kernel⟩
theorem sc_goes_into : FnScope ["tree", "name", "least", "greatest", "parted"] ["tree", "name"] (defScope s_goes_into) := ⟨rfl, rfl, rfl, by decide +kernel, rfl, by decide +kernel, by decide +kernel⟩
theorem sc_side_of : FnScope ["tree", "name"] ["tree", "name"] (defScope s_side_of) := ⟨rfl, rfl, rfl, by decide +kernel, rfl, by decide +kernel, by decide +kernel⟩
theorem sc_put : FnScope ["tree", "leaf"] ["tree", "leaf"] (defScope s_put) := ⟨rfl, rfl, rfl, by decide +kernel, rfl, by decide +kernel, by decide +kernel⟩
theorem sc_is_between : FnScope ["tree", "name"] ["tree", "name"] (defScope s_is_between) := ⟨rfl, rfl, rfl, by decide +kernel, rfl, by decide +kernel, by decide +kernel⟩
theorem sc_get : FnScope ["tree", "name"] ["tree", "name"] (defScope s_get) := ⟨rfl, rfl, rfl, by decide +kernel, rfl, by decide +kernel, by decide +kernel⟩
theorem sc_without : FnScope ["tree", "name", "at", "rest"] ["tree", "name"] (defScope s_without) := ⟨rfl, rfl, rfl, by decide +kernel, rfl, by decide +kernel, by decide +kernel⟩
theorem sc_drop : FnScope ["tree", "name"] ["tree", "name"] (defScope s_drop) := ⟨rfl, rfl, rfl, by decide +kernel, rfl, by decide +kernel, by decide +kernel⟩
theorem sc_leaves_of : FnScope ["tree"] ["tree"] (defScope s_leaves_of) := ⟨rfl, rfl, rfl, by decide +kernel, rfl, by decide +kernel, by decide +kernel⟩
theorem sc_cut_off : FnScope ["sealer", "tree"] ["sealer", "tree"] (defScope s_cut_off) := ⟨rfl, rfl, rfl, by decide +kernel, rfl, by decide +kernel, by decide +kernel⟩
theorem sc_prune : FnScope ["sealer", "tree", "names", "name"] ["sealer", "tree", "names"] (defScope s_prune) := ⟨rfl, rfl, rfl, by decide +kernel, rfl, by decide +kernel, by decide +kernel⟩
theorem sc_Chronicle_init : FnScope ["self", "sealer"] ["self", "sealer"] (defScope s_Chronicle_init) := ⟨rfl, rfl, rfl, by decide +kernel, rfl, by decide +kernel, by decide +kernel⟩
theorem sc_Shelf_init : FnScope ["self", "most"] ["self", "most"] (defScope s_Shelf_init) := ⟨rfl, rfl, rfl, by decide +kernel, rfl, by decide +kernel, by decide +kernel⟩
theorem sc_Doing_init : FnScope ["self", "sealer", "rules", "epoch", "tree", "group"] ["self", "sealer", "rules", "epoch", "tree", "group"] (defScope s_Doing_init) := ⟨rfl, rfl, rfl, by decide +kernel, rfl, by decide +kernel, by decide +kernel⟩
theorem sc_Doing_refuse : FnScope ["self", "word"] ["self", "word"] (defScope s_Doing_refuse) := ⟨rfl, rfl, rfl, by decide +kernel, rfl, by decide +kernel, by decide +kernel⟩
theorem sc_Doing_account : FnScope ["self", "name", "leaf"] ["self", "name"] (defScope s_Doing_account) := ⟨rfl, rfl, rfl, by decide +kernel, rfl, by decide +kernel, by decide +kernel⟩
theorem sc_Doing_notes_before : FnScope ["self", "name"] ["self", "name"] (defScope s_Doing_notes_before) := ⟨rfl, rfl, rfl, by decide +kernel, rfl, by decide +kernel, by decide +kernel⟩
theorem sc_Doing_sign : FnScope ["self", "signature", "name", "keys", "leaf", "notes", "place", "key", "next_lock"] ["self", "signature"] (defScope s_Doing_sign) := ⟨rfl, rfl, rfl, by decide +kernel, rfl, by decide +kernel, by decide +kernel⟩
theorem sc_Doing_need_signed : FnScope ["self", "name"] ["self", "name"] (defScope s_Doing_need_signed) := ⟨rfl, rfl, rfl, by decide +kernel, rfl, by decide +kernel, by decide +kernel⟩
theorem sc_Doing_set_worth : FnScope ["self", "name", "kind", "worth", "leaf", "worths"] ["self", "name", "kind", "worth"] (defScope s_Doing_set_worth) := ⟨rfl, rfl, rfl, by decide +kernel, rfl, by decide +kernel, by decide +kernel⟩
theorem sc_Doing_pay : FnScope ["self", "name", "kind", "amount", "limited", "worths", "notes", "spent", "left"] ["self", "name", "kind", "amount", "limited"] (defScope s_Doing_pay) := ⟨rfl, rfl, rfl, by decide +kernel, rfl, by decide +kernel, by decide +kernel⟩
theorem sc_Doing_take : FnScope ["self", "name", "kind", "amount", "worth"] ["self", "name", "kind", "amount"] (defScope s_Doing_take) := ⟨rfl, rfl, rfl, by decide +kernel, rfl, by decide +kernel, by decide +kernel⟩
theorem sc_Doing_keep_terms : FnScope ["self", "name", "leaf"] ["self", "name"] (defScope s_Doing_keep_terms) := ⟨rfl, rfl, rfl, by decide +kernel, rfl, by decide +kernel, by decide +kernel⟩
theorem sc_do_open : FnScope ["doing", "deed", "kind"] ["doing", "deed"] (defScope s_do_open) := ⟨rfl, rfl, rfl, by decide +kernel, rfl, by decide +kernel, by decide +kernel⟩
theorem sc_do_close : FnScope ["doing", "deed", "leaf"] ["doing", "deed"] (defScope s_do_close) := ⟨rfl, rfl, rfl, by decide +kernel, rfl, by decide +kernel, by decide +kernel⟩
theorem sc_do_move : FnScope ["doing", "deed", "name", "other", "kind", "amount"] ["doing", "deed"] (defScope s_do_move) := ⟨rfl, rfl, rfl, by decide +kernel, rfl, by decide +kernel, by decide +kernel⟩
theorem sc_do_mint : FnScope ["doing", "deed"] ["doing", "deed"] (defScope s_do_mint) := ⟨rfl, rfl, rfl, by decide +kernel, rfl, by decide +kernel, by decide +kernel⟩
theorem sc_do_burn : FnScope ["doing", "deed"] ["doing", "deed"] (defScope s_do_burn) := ⟨rfl, rfl, rfl, by decide +kernel, rfl, by decide +kernel, by decide +kernel⟩
theorem sc_do_change : FnScope ["doing", "deed", "name", "given", "taken", "amount", "rate", "back"] ["doing", "deed"] (defScope s_do_change) := ⟨rfl, rfl, rfl, by decide +kernel, rfl, by decide +kernel, by decide +kernel⟩
theorem sc_do_rule : FnScope ["doing", "deed", "leaf"] ["doing", "deed"] (defScope s_do_rule) := ⟨rfl, rfl, rfl, by decide +kernel, rfl, by decide +kernel, by decide +kernel⟩
theorem sc_do_group : FnScope ["sealer", "rules", "epoch", "tree", "group", "doing", "signature", "index", "deed", "action"] ["sealer", "rules", "epoch", "tree", "group"] (defScope s_do_group) := ⟨rfl, rfl, rfl, by decide +kernel, rfl, by decide +kernel, by decide +kernel⟩
theorem sc_deed_words : FnScope ["deed", "words", "item", "number"] ["deed"] (defScope s_deed_words) := ⟨rfl, rfl, rfl, by decide +kernel, rfl, by decide +kernel, by decide +kernel⟩
theorem sc_write_group : FnScope ["group", "words", "deed", "name", "keys", "triple", "number"] ["group"] (defScope s_write_group) := ⟨rfl, rfl, rfl, by decide +kernel, rfl, by decide +kernel, by decide +kernel⟩
theorem sc_frame : FnScope ["body"] ["body"] (defScope s_frame) := ⟨rfl, rfl, rfl, by decide +kernel, rfl, by decide +kernel, by decide +kernel⟩
theorem sc_group_line : FnScope ["group"] ["group"] (defScope s_group_line) := ⟨rfl, rfl, rfl, by decide +kernel, rfl, by decide +kernel, by decide +kernel⟩
theorem sc_deed_row : FnScope ["deed", "row", "item"] ["deed"] (defScope s_deed_row) := ⟨rfl, rfl, rfl, by decide +kernel, rfl, by decide +kernel, by decide +kernel⟩
theorem sc_row_of_group : FnScope ["group", "row", "deed", "name", "keys", "triple"] ["group"] (defScope s_row_of_group) := ⟨rfl, rfl, rfl, by decide +kernel, rfl, by decide +kernel, by decide +kernel⟩
theorem sc_mark_of_group : FnScope ["sealer", "group"] ["sealer", "group"] (defScope s_mark_of_group) := ⟨rfl, rfl, rfl, by decide +kernel, rfl, by decide +kernel, by decide +kernel⟩
theorem sc_receipt_name : FnScope ["number"] ["number"] (defScope s_receipt_name) := ⟨rfl, rfl, rfl, by decide +kernel, rfl, by decide +kernel, by decide +kernel⟩
theorem sc_Receipts_init : FnScope ["self", "sealer"] ["self", "sealer"] (defScope s_Receipts_init) := ⟨rfl, rfl, rfl, by decide +kernel, rfl, by decide +kernel, by decide +kernel⟩
theorem sc_Receipts_add : FnScope ["self", "group", "root", "notes"] ["self", "group", "root"] (defScope s_Receipts_add) := ⟨rfl, rfl, rfl, by decide +kernel, rfl, by decide +kernel, by decide +kernel⟩
theorem sc_Receipts_root : FnScope ["self"] ["self"] (defScope s_Receipts_root) := ⟨rfl, rfl, rfl, by decide +kernel, rfl, by decide +kernel, by decide +kernel⟩
theorem sc_step_of : FnScope ["sealer", "rules", "tree", "group"] ["sealer", "rules", "tree", "group"] (defScope s_step_of) := ⟨rfl, rfl, rfl, by decide +kernel, rfl, by decide +kernel, by decide +kernel⟩
theorem sc_Ledger_init : FnScope ["self", "sealer", "rules", "notes"] ["self", "sealer", "rules", "notes"] (defScope s_Ledger_init) := ⟨rfl, rfl, rfl, by decide +kernel, rfl, by decide +kernel, by decide +kernel⟩
theorem sc_Ledger_root : FnScope ["self"] ["self"] (defScope s_Ledger_root) := ⟨rfl, rfl, rfl, by decide +kernel, rfl, by decide +kernel, by decide +kernel⟩
theorem sc_Ledger_tree : FnScope ["self"] ["self"] (defScope s_Ledger_tree) := ⟨rfl, rfl, rfl, by decide +kernel, rfl, by decide +kernel, by decide +kernel⟩
theorem sc_Ledger_epoch : FnScope ["self"] ["self"] (defScope s_Ledger_epoch) := ⟨rfl, rfl, rfl, by decide +kernel, rfl, by decide +kernel, by decide +kernel⟩
theorem sc_Ledger_do : FnScope ["self", "group", "before"] ["self", "group"] (defScope s_Ledger_do) := ⟨rfl, rfl, rfl, by decide +kernel, rfl, by decide +kernel, by decide +kernel⟩
theorem sc_Sealer_init : FnScope ["self", "modulus"] ["self", "modulus"] (defScope s_Sealer_init) := ⟨rfl, rfl, rfl, by decide +kernel, rfl, by decide +kernel, by decide +kernel⟩
theorem sc_Sealer_modulus : FnScope ["self"] ["self"] (defScope s_Sealer_modulus) := ⟨rfl, rfl, rfl, by decide +kernel, rfl, by decide +kernel, by decide +kernel⟩
theorem sc_Sealer_seal : FnScope ["self", "row", "value", "number"] ["self", "row"] (defScope s_Sealer_seal) := ⟨rfl, rfl, rfl, by decide +kernel, rfl, by decide +kernel, by decide +kernel⟩
theorem sc_law_cell : FnScope ["_law_script", "_law_k"] ["_law_script", "_law_k"] (defScope s_law_cell) := ⟨rfl, rfl, rfl, by decide +kernel, rfl, by decide +kernel, by decide +kernel⟩
theorem sc_law_numbers : FnScope ["_law_cell_here", "_law_count", "_law_rest", "_law_large", "_law_mixed", "_law_row", "_law_k"] ["_law_cell_here", "_law_count"] (defScope s_law_numbers) := ⟨rfl, rfl, rfl, by decide +kernel, rfl, by decide +kernel, by decide +kernel⟩
theorem sc_law_seal : FnScope ["_law_modulus_here", "_law_row", "_law_value", "_law_number"] ["_law_modulus_here", "_law_row"] (defScope s_law_seal) := ⟨rfl, rfl, rfl, by decide +kernel, rfl, by decide +kernel, by decide +kernel⟩
theorem sc_law_modulus : FnScope ["_law_cell_here", "_law_kind"] ["_law_cell_here"] (defScope s_law_modulus) := ⟨rfl, rfl, rfl, by decide +kernel, rfl, by decide +kernel, by decide +kernel⟩
theorem sc_law_lock : FnScope ["_law_modulus_here", "_law_key"] ["_law_modulus_here", "_law_key"] (defScope s_law_lock) := ⟨rfl, rfl, rfl, by decide +kernel, rfl, by decide +kernel, by decide +kernel⟩
theorem sc_law_begin : FnScope ["_law_modulus_here", "_law_kinds", "_law_cell_here", "_law_notes_here", "_law_accounts"] ["_law_modulus_here", "_law_kinds", "_law_cell_here"] (defScope s_law_begin) := ⟨rfl, rfl, rfl, by decide +kernel, rfl, by decide +kernel, by decide +kernel⟩
theorem sc_law_notes : FnScope ["_law_state", "_law_row", "_law_name", "_law_keys", "_law_notes_here", "_law_place", "_law_count", "_law_limit", "_law_hold", "_law_key"] ["_law_state", "_law_row", "_law_name"] (defScope s_law_notes) := ⟨rfl, rfl, rfl, by decide +kernel, rfl, by decide +kernel, by decide +kernel⟩
theorem sc_law_names : FnScope [] [] (defScope s_law_names) := ⟨rfl, rfl, rfl, by decide +kernel, rfl, by decide +kernel, by decide +kernel⟩
theorem sc_law_deed : FnScope ["_law_state", "_law_row", "_law_names_here", "_law_there", "_law_name", "_law_other", "_law_any_name", "_law_kind", "_law_amount", "_law_word"] ["_law_state", "_law_row"] (defScope s_law_deed) := ⟨rfl, rfl, rfl, by decide +kernel, rfl, by decide +kernel, by decide +kernel⟩
theorem sc_law_signer : FnScope ["_law_deed_here"] ["_law_deed_here"] (defScope s_law_signer) := ⟨rfl, rfl, rfl, by decide +kernel, rfl, by decide +kernel, by decide +kernel⟩
theorem sc_law_signature : FnScope ["_law_state", "_law_name", "_law_row", "_law_keys", "_law_place", "_law_key"] ["_law_state", "_law_name", "_law_row"] (defScope s_law_signature) := ⟨rfl, rfl, rfl, by decide +kernel, rfl, by decide +kernel, by decide +kernel⟩
theorem sc_law_group : FnScope ["_law_state", "_law_cell_here", "_law_epoch", "_law_numbers_here", "_law_deeds", "_law_opened", "_law_k", "_law_deed_here", "_law_signatures", "_law_given", "_law_name", "_law_found", "_law_row", "_law_at", "_law_one"] ["_law_state", "_law_cell_here", "_law_epoch"] (defScope s_law_group) := ⟨rfl, rfl, rfl, by decide +kernel, rfl, by decide +kernel, by decide +kernel⟩
theorem sc_law_done : FnScope ["_law_state", "_law_group_here", "_law_name", "_law_one", "_law_keys", "_law_row", "_law_deed_here"] ["_law_state", "_law_group_here"] (defScope s_law_done) := ⟨rfl, rfl, rfl, by decide +kernel, rfl, by decide +kernel, by decide +kernel⟩
theorem sc_law_rules : FnScope ["_law_cell_here", "_law_kinds", "_law_numbers_here", "_law_rates", "_law_given", "_law_taken", "_law_row"] ["_law_cell_here", "_law_kinds"] (defScope s_law_rules) := ⟨rfl, rfl, rfl, by decide +kernel, rfl, by decide +kernel, by decide +kernel⟩
theorem sc_law_sync : FnScope ["_law_state", "_law_ledger_here", "_law_leaf"] ["_law_state", "_law_ledger_here"] (defScope s_law_sync) := ⟨rfl, rfl, rfl, by decide +kernel, rfl, by decide +kernel, by decide +kernel⟩
theorem sc_law_ledger : FnScope ["_law_script", "_law_modulus_here", "_law_kinds", "_law_state", "_law_rules_here", "_law_notes_here", "_law_sealer", "_law_told"] ["_law_script"] (defScope s_law_ledger) := ⟨rfl, rfl, rfl, by decide +kernel, rfl, by decide +kernel, by decide +kernel⟩
theorem sc_law_do : FnScope ["_law_state", "_law_ledger_here", "_law_group_here", "e"] ["_law_state", "_law_ledger_here", "_law_group_here"] (defScope s_law_do) := ⟨rfl, rfl, rfl, by decide +kernel, rfl, by decide +kernel, by decide +kernel⟩
theorem sc_law_net : FnScope ["_law_group_here", "_law_kind", "_law_net_here", "_law_deed_here"] ["_law_group_here", "_law_kind"] (defScope s_law_net) := ⟨rfl, rfl, rfl, by decide +kernel, rfl, by decide +kernel, by decide +kernel⟩
theorem sc_law : FnScope ["_law_script", "_law_state", "_law_sealer", "_law_told", "_law_notes_here", "_law_ledger_here", "_law_k", "_law_group_here", "_law_before", "_law_refused", "_law_after", "_law_kind", "_law_change", "_law_leaf"] ["_law_script"] (defScope s_law) := ⟨rfl, rfl, rfl, by decide +kernel, rfl, by decide +kernel, by decide +kernel⟩
end G
end
section
set_option Elab.async false
set_option linter.all false
set_option maxRecDepth 100000
set_option maxHeartbeats 0
namespace HeadT
open PySem PySem.W PySem.Calls PyProof.Rows
abbrev R : OpenRow := OpenLaw.row PySem.Challenge.rw_sumgrove_k83_whole_money_only_by_minting
abbrev qv : Program := view R.prog [145]
def nm0 : List PySem.Str := ["_wall", "MOST_WORTH", "MOST_EPOCH", "NOTES", "KEY_TAG", "lock_of", "is_notes", "is_enough", "new_account", "ALPHABET", "NAME_LIMIT", "CODE_BITS"]
def nm1 : List PySem.Str := ["PLACES", "is_name", "number_of", "bit_at", "parting", "GroveError", "InvalidSealer", "NoSuchName", "NotShown", "InvalidRules", "InvalidNotes", "InvalidGroup"]
def nm2 : List PySem.Str := ["GroupRefused", "TooManyEpochs", "NoSuchEpoch", "CutOff", "InvalidShelf", "NoAccount", "MOST_KINDS", "MOST_FEE", "MOST_RATE", "MOST_DEEDS", "MOST_KEY", "Rules"]
def nm3 : List PySem.Str := ["is_rate", "Group", "is_amount", "is_kind", "is_deed", "is_signature", "check_group", "group_names", "minted", "EMPTY_ROW", "least_of", "greatest_of"]
def nm4 : List PySem.Str := ["leaf_row", "summary_numbers", "branch_row", "branch_summary", "summary_of", "top_row", "root_of", "root_of_trees", "beside", "goes_into", "side_of", "put"]
def nm5 : List PySem.Str := ["is_between", "get", "without", "drop", "leaves_of", "leaf_told", "range_told", "rank_told", "place_told", "next_told", "told", "side_questions"]
def nm6 : List PySem.Str := ["joined_ranges", "part_answer", "branch_answer", "empty_answer", "ask", "cut_off", "prune", "MOST_EPOCHS", "MOST_SHELF", "epoch_name", "Chronicle", "Shelf"]
def nm7 : List PySem.Str := ["BANK", "MINT", "Doing", "do_open", "do_close", "do_move", "do_mint", "do_burn", "do_change", "do_rule", "DOINGS", "do_group"]
def nm8 : List PySem.Str := ["deed_words", "write_group", "frame", "group_line", "WORDS", "deed_row", "row_of_group", "mark_of_group", "receipt_name", "Receipts", "step_of", "SNAPSHOTS"]
def nm9 : List PySem.Str := ["Ledger", "LEAST_MODULUS", "GREATEST_MODULUS", "Sealer", "_law_cell", "_law_numbers", "_law_seal", "_law_modulus", "_law_lock", "_law_begin", "_law_notes", "_law_names"]
def nm10 : List PySem.Str := ["_law_deed", "_law_signer", "_law_signature", "_law_group", "_law_done", "_law_rules", "_law_sync", "_law_ledger", "_law_do", "_law_net"]
def names : List PySem.Str := nm0 ++ nm1 ++ nm2 ++ nm3 ++ nm4 ++ nm5 ++ nm6 ++ nm7 ++ nm8 ++ nm9 ++ nm10


/-! ### the head's Hook: the kit's, and the cell of GroupRefused's __init__ -/
/-- a dict's values, a class's names, a function's parts -/
def valsA (g : Addr → Option Obj) (a : Addr) : List Addr := match g a with
  | some ⟨_, _, .dict es _, _⟩ => es.toList.flatMap fun e => He.refV e.val
  | _ => []
def nsA (g : Addr → Option Obj) (a : Addr) : List Addr := match g a with
  | some ⟨_, _, .cls cd, _⟩ => [cd.ns]
  | _ => []
def fnA (g : Addr → Option Obj) (a : Addr) : List Addr := match g a with
  | some ⟨_, _, .func fd, _⟩ => He.refV fd.code ++ (fd.closure.map (·.2) ++ (He.refV fd.defaults ++ He.refV fd.kwdefaults))
  | _ => []
def as1 (g : Addr → Option Obj) : List Addr := valsA g mainGlobals
def as2 (g : Addr → Option Obj) : List Addr := (as1 g).flatMap (nsA g)
def as3 (g : Addr → Option Obj) : List Addr := as1 g ++ (as2 g).flatMap (valsA g)
def asZ (g : Addr → Option Obj) : List Addr := mainGlobals :: PySem.cStatics :: (as2 g ++ (as3 g ++ (as3 g).flatMap (fnA g)))
def exZ (K : Frag) : Bool := G.exK K && G.grB K
abbrev AlZ : Type := He.AlX × G.GrV
def obsZ (g : Addr → Option Obj) : AlZ := ((He.obsT G.fa G.fn G.ts (He.frT g (asZ g)), exZ (He.frT g (asZ g)) && He.tabsB g G.tf (He.frT g (asZ g))), G.grV (He.frT g (asZ g)))
theorem saysZ_of {w : World} {h : Heap} (e : obsZ h.get? = (He.valX G.fn G.ts w, G.grW)) : He.SaysX G.fa G.fn G.ts G.tf exZ w h (He.frT h.get? (asZ h.get?)) ∧ G.grV (He.frT h.get? (asZ h.get?)) = G.grW := by
  have e1 : He.obsT G.fa G.fn G.ts (He.frT h.get? (asZ h.get?)) = He.valT G.fn G.ts w := congrArg (fun z : AlZ => z.1.1) e
  have e2 : (exZ (He.frT h.get? (asZ h.get?)) && He.tabsB h.get? G.tf (He.frT h.get? (asZ h.get?))) = true := congrArg (fun z : AlZ => z.1.2) e
  have e3 : G.grV (He.frT h.get? (asZ h.get?)) = G.grW := congrArg (fun z : AlZ => z.2) e
  obtain ⟨h1, h2⟩ := He.ba e2
  generalize hK : He.frT h.get? (asZ h.get?) = K at e1 e2 e3 h1 h2
  have key : ∀ p ∈ G.tf, codeHdIn K (He.cT K p).1 (He.cT K p).2 = true ∧ ∃ o, h.get? (He.cT K p).2 = some o ∧ He.emptyTab o = true := fun p hp => by
    obtain ⟨a, b⟩ := He.ba (List.all_eq_true.mp h2 p hp)
    refine ⟨a, ?_⟩
    cases q : h.get? (He.cT K p).2 with
    | none => rw [q] at b; cases b
    | some o => rw [q] at b; exact ⟨o, rfl, b⟩
  refine ⟨⟨e1, h1, fun p hp => (key p hp).1, fun p hp => ?_, fun p hp => ?_⟩, e3⟩
  · obtain ⟨_, o, q, z⟩ := key p hp
    rw [← hK]
    rw [← hK] at q
    exact He.frT_none q z
  · obtain ⟨_, o, q, z⟩ := key p hp
    rw [q, He.emptyTab_eq z]
def hookZ : Hook where
  α := AlZ
  obs := fun s => obsZ s.heap.get?
  val := fun w => (He.valX G.fn G.ts w, G.grW)
  says := fun w h => ∃ K : Frag, K.In h ∧ He.SaysX G.fa G.fn G.ts G.tf exZ w h K ∧ G.grV K = G.grW
  of := fun _ _ e => ⟨_, He.frT_in, saysZ_of e⟩
  keeps := fun _ _ _ ⟨K, hK, c, g⟩ k => ⟨K, Frag.In.keeps hK k, ⟨c.t, c.more, c.hd, c.out, fun p hp => k _ _ (c.empty p hp)⟩, g⟩
def ob (s : SharedT) : AlZ := obsZ (HandSHeadRun.getT s)
theorem ob_eq (s : SharedT) : ob s = hookZ.obs s.abs := by
  have e : HandSHeadRun.getT s = s.abs.heap.get? := funext (HandSHeadRun.getT_eq s)
  show obsZ (HandSHeadRun.getT s) = obsZ s.abs.heap.get?
  rw [e]
/-- the run's end, no more -/
noncomputable abbrev endZ (w : World) (os : OsState) : Option SharedT := HandSHeadRun.endF (HandSHeadRun.stepQ (HandSHeadRun.denQ HandSHeadRun.tabQ) R.prog w) 20000 R.prog w os
def obA (s : SharedT) : Bool := G.fa.all fun f => f.ok (He.frT (HandSHeadRun.getT s) (asZ (HandSHeadRun.getT s)))
def obB (s : SharedT) : Bool := G.fn.all fun d => d.ok (He.frT (HandSHeadRun.getT s) (asZ (HandSHeadRun.getT s)))
def obC (s : SharedT) : List He.FnW × List (Option (List (Option (PySem.Str × Int)))) × Bool × G.GrV :=
  (G.fn.map fun d => He.fnW (He.frT (HandSHeadRun.getT s) (asZ (HandSHeadRun.getT s))) d.at_, G.ts.map fun t => He.dicW (He.frT (HandSHeadRun.getT s) (asZ (HandSHeadRun.getT s))) (t.1 (He.frT (HandSHeadRun.getT s) (asZ (HandSHeadRun.getT s)))), exZ (He.frT (HandSHeadRun.getT s) (asZ (HandSHeadRun.getT s))) && He.tabsB (HandSHeadRun.getT s) G.tf (He.frT (HandSHeadRun.getT s) (asZ (HandSHeadRun.getT s))), G.grV (He.frT (HandSHeadRun.getT s) (asZ (HandSHeadRun.getT s))))
theorem ob_of {s : SharedT} {w : World} (a : obA s = true) (b : obB s = true) (c : obC s = (G.fn.map He.DefD.val, G.ts.map (fun t => some (He.keysIn w.params t.2)), true, G.grW)) : ob s = hookZ.val w := by
  unfold obA at a
  unfold obB at b
  unfold obC at c
  obtain ⟨b4, c⟩ := Prod.mk.inj c
  obtain ⟨b5, b6⟩ := Prod.mk.inj c
  obtain ⟨b7, b8⟩ := Prod.mk.inj b6
  show ((((_ && _, _), _), _), _) = _
  rw [a, b, b4, b5, b7, b8]
  rfl
/-- the parts of one run -/
noncomputable abbrev lookZ (w : World) (s : SharedT) : Bool := HandSHeadRun.looksF R.prog (boot_heap w.params) s.abs
noncomputable abbrev seenZ (s : SharedT) := HandSHeadRun.seenQ qv names (importedModules R.prog.main.body) (fun s => xlAt qv [] s && recOk R.toRowW.records s) s.abs
theorem run_of {w : World} (h1 : ∀ os, (endZ w os).map (lookZ w) = some true) (h2 : ∀ os, (endZ w os).map seenZ = some (openGood qv names)) (h3 : ∀ os, (endZ w os).map obA = some true)
    (h4 : ∀ os, (endZ w os).map obB = some true) (h5 : ∀ os, (endZ w os).map obC = some (G.fn.map He.DefD.val, G.ts.map (fun t => some (He.keysIn w.params t.2)), true, G.grW)) : HandSHeadRun.RunEq R qv hookZ ob 20000 names w := by
  intro os
  have h1 := h1 os
  have h2 := h2 os
  have h3 := h3 os
  have h4 := h4 os
  have h5 := h5 os
  show (endZ w os).map (fun s => (lookZ w s, seenZ s, ob s)) = _
  generalize endZ w os = e at h1 h2 h3 h4 h5 ⊢
  cases e with
  | none => cases h1
  | some s =>
    have e1 : lookZ w s = true := Option.some.inj h1
    have e2 : seenZ s = openGood qv names := Option.some.inj h2
    have e3 := ob_of (w := w) (Option.some.inj h3) (Option.some.inj h4) (Option.some.inj h5)
    show some (lookZ w s, seenZ s, ob s) = _
    rw [e1, e2, e3]
    rfl
end HeadT
end
section
set_option Elab.async false
set_option linter.all false
set_option maxRecDepth 100000
set_option maxHeartbeats 0
namespace HeadT
open PySem PySem.W PySem.Calls PyProof.Rows
/-- the law by its row -/
theorem of_row (h : R.wellSaid = true → R.Holds) : PySem.Challenge.rw_sumgrove_k83_whole_money_only_by_minting.Holds := by
  w_on; o_law
  exact h (by assumption)
theorem h_w : R.toRowW.promised := by w_witness2
theorem h_e : opening R.prog = plainProg R.prog.main.scope.names := by kernel_rfl
theorem h_f : ∀ s, fenceModules? R.prog s = some s := fun s => by kernel_rfl
theorem h_def : defOf qv R.name = some (HandSHeadRun.topDef R.prog 145, []) := by kernel_rfl
theorem h_p : R.prog.theDef R.name = some ((HandSHeadRun.topDef R.prog 145).params, (HandSHeadRun.topDef R.prog 145).body, (HandSHeadRun.topDef R.prog 145).scope) := by kernel_rfl
theorem h_k : kwWritten? (HandSHeadRun.topDef R.prog 145).params.kwonlyargs (HandSHeadRun.topDef R.prog 145).params.kw_defaults = some [] := by kernel_rfl
theorem h_wr : (!R.writes || R.records.isEmpty) = true := by kernel_rfl
theorem h_ok : (chainsOk qv && opensWell R.prog && (frees R.toRowW && R.within.isEmpty)) = true := by kernel_rfl
theorem h_b : R.prog.bare := ⟨rfl, rfl, rfl, rfl, rfl, by decide +kernel⟩
end HeadT
end
section
set_option Elab.async false
set_option linter.all false
set_option maxRecDepth 100000
set_option maxHeartbeats 0
namespace HeadT
open PySem PySem.W PySem.Calls PyProof.Rows
theorem look_false (w : World) (os : OsState) : (endZ (w.withFollow "special-get-raises" false) os).map (lookZ (w.withFollow "special-get-raises" false)) = some true := by
  kernel_rfl
theorem seen_false (w : World) (os : OsState) : (endZ (w.withFollow "special-get-raises" false) os).map seenZ = some (openGood qv names) := by
  kernel_rfl
theorem facs_false (w : World) (os : OsState) : (endZ (w.withFollow "special-get-raises" false) os).map obA = some true := by
  kernel_rfl
theorem defs_false (w : World) (os : OsState) : (endZ (w.withFollow "special-get-raises" false) os).map obB = some true := by
  kernel_rfl
theorem rest_false (w : World) (os : OsState) : (endZ (w.withFollow "special-get-raises" false) os).map obC = some (G.fn.map He.DefD.val, G.ts.map (fun t => some (He.keysIn (w.withFollow "special-get-raises" false).params t.2)), true, G.grW) := by
  kernel_rfl
theorem look_true (w : World) (os : OsState) : (endZ (w.withFollow "special-get-raises" true) os).map (lookZ (w.withFollow "special-get-raises" true)) = some true := by
  kernel_rfl
theorem seen_true (w : World) (os : OsState) : (endZ (w.withFollow "special-get-raises" true) os).map seenZ = some (openGood qv names) := by
  kernel_rfl
theorem facs_true (w : World) (os : OsState) : (endZ (w.withFollow "special-get-raises" true) os).map obA = some true := by
  kernel_rfl
theorem defs_true (w : World) (os : OsState) : (endZ (w.withFollow "special-get-raises" true) os).map obB = some true := by
  kernel_rfl
theorem rest_true (w : World) (os : OsState) : (endZ (w.withFollow "special-get-raises" true) os).map obC = some (G.fn.map He.DefD.val, G.ts.map (fun t => some (He.keysIn (w.withFollow "special-get-raises" true).params t.2)), true, G.grW) := by
  kernel_rfl
theorem run1 (w : World) (b : Bool) : HandSHeadRun.RunEq R qv hookZ ob 20000 names (w.withFollow "special-get-raises" b) := by
  cases b
  · exact run_of (look_false w) (seen_false w) (facs_false w) (defs_false w) (rest_false w)
  · exact run_of (look_true w) (seen_true w) (facs_true w) (defs_true w) (rest_true w)
theorem run (w : World) : HandSHeadRun.RunEq R qv hookZ ob 20000 names w := by
  have h := run1 w (w.params.followText "special-get-raises")
  rwa [World.withFollow_self] at h
end HeadT
end
section
set_option Elab.async false
set_option linter.all false
set_option maxRecDepth 100000
set_option maxHeartbeats 1000000
namespace G
open PySem PySem.Spec PyProof.Rows L2

/-! ### heaps: what stays -/
def Fix : HO → Prop
  | .tup _ => True
  | .frz _ _ => True
  | _ => False
abbrev TabG := GxR.TabG
/-- all that is tracked outside of S stays; what never changes stays; tables may grow -/
structure Lx (S : Addr → Prop) (H H' : Hp) : Prop where
  keep : ∀ a o, H a = some o → (S a → Fix o) → (∀ ps, o ≠ .tbl ps) → H' a = some o
  tab : ∀ a, TabG H a → TabG H' a
  dom : ∀ a, H' a = none → H a = none
abbrev Le : Hp → Hp → Prop := Lx (fun _ => False)
section
variable {S S' : Addr → Prop} {H H' H1 H2 : Hp} {a p : Addr} {o : HO} {xs : List V} {K : PySem.W.Frag}
theorem Lx.refl : Lx S H H := ⟨fun _ _ h _ _ => h, fun _ h => h, fun _ h => h⟩
theorem Lx.trans (x : Lx S H H1) (y : Lx S H1 H2) : Lx S H H2 :=
  ⟨fun a o h s t => y.keep a o (x.keep a o h s t) s t, fun a h => y.tab a (x.tab a h), fun a h => x.dom a (y.dom a h)⟩
theorem Lx.mono (x : Lx S H H') (h : ∀ a, S a → S' a) : Lx S' H H' := ⟨fun a o e s t => x.keep a o e (fun z => s (h a z)) t, x.tab, x.dom⟩
theorem Lx.of (x : Le H H') : Lx S H H' := x.mono fun _ z => z.elim
theorem Lx.at (x : Lx S H H') (h : H a = some o) (hs : S a → Fix o) (ht : ∀ ps, o ≠ .tbl ps := by intro ps z; cases z) : H' a = some o := x.keep a o h hs ht
theorem Lx.lst (x : Le H H') (h : H a = some (.lst xs)) : H' a = some (.lst xs) := x.keep a _ h (fun z => z.elim) (by intro ps z; cases z)
theorem Lx.tup (x : Lx S H H') (h : H a = some (.tup xs)) : H' a = some (.tup xs) := x.keep a _ h (fun _ => trivial) (by intro ps z; cases z)
theorem Lx.get (x : Le H H') (h : H a = some o) (ht : ∀ ps, o ≠ .tbl ps := by intro ps z; cases z) : H' a = some o := x.keep a _ h (fun z => z.elim) ht
theorem Lx.there (x : Lx S H H') (h : H a ≠ none) : H' a ≠ none := fun z => h (x.dom a z)
theorem Lx.nn (x : Lx S H H') (h : H a = some o) : H' a ≠ none := x.there (by rw [h]; exact fun z => nomatch z)
theorem Le.new (h : H p = none) : Le H (upd H p o) := by
  refine ⟨fun a u e _ _ => ?_, fun a t => ?_, fun a e => ?_⟩
  · rw [upd_ne (ne_of_none e h)]
    exact e
  · obtain ⟨ps, e, r⟩ := t
    exact ⟨ps, by rw [upd_ne (ne_of_none e h)]; exact e, r⟩
  · by_cases z : a = p
    · rw [z]
      exact h
    · rw [upd_ne z] at e
      exact e
theorem Lx.wr {u : HO} (hs : S p) (h : H p = some u) (hf : ¬ Fix u) (ht : ∀ ps, u ≠ .tbl ps) : Lx S H (upd H p o) := by
  refine ⟨fun a v e s _ => ?_, fun a t => ?_, fun a e => ?_⟩
  · have ne : a ≠ p := by
      rintro rfl
      rw [h] at e
      cases e
      exact hf (s hs)
    rw [upd_ne ne]
    exact e
  · obtain ⟨ps, e, r⟩ := t
    have ne : a ≠ p := by
      rintro rfl
      rw [h] at e
      cases e
      exact ht _ rfl
    exact ⟨ps, by rw [upd_ne ne]; exact e, r⟩
  · by_cases z : a = p
    · rw [z, upd_same] at e
      cases e
    · rw [upd_ne z] at e
      exact e
/-- what was not tracked may be written -/
theorem Lx.own (x : Lx S H H') (hp : H p = none) (h : H' p ≠ none) : Lx S H (upd H' p o) := by
  refine ⟨fun a v e s t => ?_, fun a t => ?_, fun a e => ?_⟩
  · rw [upd_ne (ne_of_none e hp)]
    exact x.keep a v e s t
  · obtain ⟨ps, e, r⟩ := x.tab a t
    have ne : a ≠ p := by
      rintro rfl
      obtain ⟨qs, e2, _⟩ := t
      rw [hp] at e2
      cases e2
    exact ⟨ps, by rw [upd_ne ne]; exact e, r⟩
  · by_cases z : a = p
    · rw [z]
      exact hp
    · rw [upd_ne z] at e
      exact x.dom a e
theorem Lx.sqt (x : Lx S H H') (h : SqT K H a xs) : SqT K H' a xs := by
  rcases h with (h | ⟨o, h⟩) | h
  · exact .inl (.inl (x.tup h))
  · exact .inl (.inr ⟨o, x.keep a _ h (fun _ => trivial) (by intro ps z; cases z)⟩)
  · exact .inr h
theorem Lx.sql (x : Le H H') (h : SqL K H a xs) : SqL K H' a xs := by
  rcases h with (h | ⟨o, h⟩) | h
  · exact .inl (.inl (x.lst h))
  · exact .inl (.inr ⟨o, x.keep a _ h (fun _ => trivial) (by intro ps z; cases z)⟩)
  · exact .inr h
end

/-! ### data that never change -/
mutual
inductive Is (K : PySem.W.Frag) (H : Hp) : V → PyData → Prop
  | non : Is K H .non .none
  | bl (b : Bool) : Is K H (.bl b) (.bool b)
  | int (i : Int) : Is K H (.int i) (.int i)
  | str (x : Str) : Is K H (.str x) (.str x)
  | tup {a : Addr} {xs : List V} {ds : List PyData} : SqT K H a xs → Isl K H xs ds → Is K H (.ref a) (.tuple ds)
inductive Isl (K : PySem.W.Frag) (H : Hp) : List V → List PyData → Prop
  | nil : Isl K H [] []
  | cons {v : V} {vs : List V} {d : PyData} {ds : List PyData} : Is K H v d → Isl K H vs ds → Isl K H (v :: vs) (d :: ds)
end
section
variable {S : Addr → Prop} {H H' : Hp} {K : PySem.W.Frag}
mutual
theorem Is.lx (x : Lx S H H') : ∀ {v : V} {d : PyData}, Is K H v d → Is K H' v d
  | _, _, .non => .non
  | _, _, .bl b => .bl b
  | _, _, .int i => .int i
  | _, _, .str s => .str s
  | _, _, .tup h r => .tup (x.sqt h) (Isl.lx x r)
theorem Isl.lx (x : Lx S H H') : ∀ {vs : List V} {ds : List PyData}, Isl K H vs ds → Isl K H' vs ds
  | _, _, .nil => .nil
  | _, _, .cons h r => .cons (Is.lx x h) (Isl.lx x r)
end
mutual
theorem Is.dp : ∀ {v : V} {d : PyData}, Is K H v d → Dp K H v d
  | _, _, .non => .non
  | _, _, .bl b => .bl b
  | _, _, .int i => .int i
  | _, _, .str s => .str s
  | _, _, .tup h r => .tup h (Isl.dp r)
theorem Isl.dp : ∀ {vs : List V} {ds : List PyData}, Isl K H vs ds → DpAll K H vs ds
  | _, _, .nil => .nil
  | _, _, .cons h r => .cons (Is.dp h) (Isl.dp r)
end
theorem Is.int_inv {v : V} {i : Int} (h : Is K H v (.int i)) : v = .int i := by cases h; rfl
theorem Is.str_inv {v : V} {s : Str} (h : Is K H v (.str s)) : v = .str s := by cases h; rfl
theorem Is.tup_inv {v : V} {ds : List PyData} (h : Is K H v (.tuple ds)) : ∃ a xs, v = .ref a ∧ SqT K H a xs ∧ Isl K H xs ds := by
  cases h with
  | tup h r => exact ⟨_, _, rfl, h, r⟩
theorem Isl.ints : ∀ {xs : List V} {ns : List Int}, Isl K H xs (ns.map PyData.int) → xs = ns.map V.int
  | _, [], h => by cases h; rfl
  | _, n :: ns, h => by
    cases h with
    | cons h r =>
      cases h
      rw [Isl.ints r]
      rfl
theorem Isl.of_ints : ∀ (ns : List Int), Isl K H (ns.map V.int) (ns.map PyData.int)
  | [] => .nil
  | n :: ns => .cons (.int n) (Isl.of_ints ns)
theorem Isl.length : ∀ {xs : List V} {ds : List PyData}, Isl K H xs ds → xs.length = ds.length
  | _, _, .nil => rfl
  | _, _, .cons _ r => congrArg Nat.succ (Isl.length r)
theorem Isl.get : ∀ {xs : List V} {ds : List PyData} {i : Nat} {x : V}, Isl K H xs ds → xs[i]? = some x → ∃ d, ds[i]? = some d ∧ Is K H x d
  | _, _, 0, x, .cons h _, e => by
    cases e
    exact ⟨_, rfl, h⟩
  | _, _, i + 1, x, .cons _ r, e => Isl.get (i := i) r e
theorem Isl.append : ∀ {xs ys : List V} {ds es : List PyData}, Isl K H xs ds → Isl K H ys es → Isl K H (xs ++ ys) (ds ++ es)
  | _, _, _, _, .nil, r => r
  | _, _, _, _, .cons h t, r => .cons h (Isl.append t r)
theorem Isl.cons_inv {xs : List V} {d : PyData} {ds : List PyData} (h : Isl K H xs (d :: ds)) : ∃ x ys, xs = x :: ys ∧ Is K H x d ∧ Isl K H ys ds := by
  cases h with
  | cons h r => exact ⟨_, _, rfl, h, r⟩
theorem Isl.nil_inv {xs : List V} (h : Isl K H xs []) : xs = [] := by cases h; rfl
/-- a tuple of ints -/
abbrev dI (ns : List Int) : PyData := .tuple (ns.map PyData.int)
theorem Is.ints_inv {v : V} {ns : List Int} (h : Is K H v (dI ns)) : ∃ a, v = .ref a ∧ SqT K H a (ns.map V.int) := by
  obtain ⟨a, xs, rfl, s, r⟩ := h.tup_inv
  rw [r.ints] at s
  exact ⟨a, rfl, s⟩
theorem Is.of_ints {a : Addr} {ns : List Int} (h : SqT K H a (ns.map V.int)) : Is K H (.ref a) (dI ns) := .tup h (Isl.of_ints ns)
end

/-! ### defs and their promises -/
variable {P : Program} {w : World} {K : PySem.W.Frag} {mg : Str → Option Value} {base : Heap}
/-- a def at f keeps the promise sp -/
structure Fn (P : Program) (w : World) (K : PySem.W.Frag) (mg : Str → Option Value) (base : Heap) (CX : CXT) (k : Nat) (f : Addr) (sp : Sp) : Prop where
  ex : ∃ fd ps, FnOk P w K mg base CX k f fd ps sp ∧ Binds K fd ps []
  kp : PySem.W.keepIn K (.ref f) = true
theorem Fn.mono {CX : CXT} {k j : Nat} {f : Addr} {sp : Sp} (F : Fn P w K mg base CX k f sp) (h : k ≤ j) : Fn P w K mg base CX j f sp := by
  obtain ⟨fd, ps, o, b⟩ := F.ex
  exact ⟨⟨fd, ps, o.mono h, b⟩, F.kp⟩
theorem Fn.imp {CX : CXT} {k : Nat} {f : Addr} {sp sp' : Sp} (F : Fn P w K mg base CX k f sp) (h : ∀ vs H Q E, sp' vs H Q E → sp vs H Q E) : Fn P w K mg base CX k f sp' := by
  obtain ⟨fd, ps, o, b⟩ := F.ex
  exact ⟨⟨fd, ps, o.imp h, b⟩, F.kp⟩
def tCl (sp : Sp) (E : XK) (t : TA) : TE := fun σ H Q => t σ H fun vs H1 => sp vs H1 Q E
def tMt (C : Addr) (m : Str) (sp : Sp) (E : XK) (ta : TE) (t : TA) : TE := fun σ H Q => ta σ H fun x H1 => ∃ a dx fs, x = .ref a ∧ H1 a = some (.ins C dx fs) ∧ fs.lookup m = none ∧ t σ H1 fun vs H2 => sp (x :: vs) H2 Q E
def tMk (C : Addr) (sp : Sp) (E : XK) (t : TA) : TE := fun σ H Q => t σ H fun vs H1 => ∀ x dx, H1 x = none → H1 dx = none → dx ≠ x →
  sp (.ref x :: vs) (upd (upd H1 dx (.own x)) x (.ins C dx [])) (fun v H2 => v = .non ∧ Q (.ref x) H2) E
section
variable {X : Cx} {CX : CXT} {k j : Nat} {f C : Addr} {sp : Sp} {E : XK} {x m : Str} {p pos apos : Pos} {e o : Expr} {es : List Expr} {ta te : TE} {t : TA}
theorem pe_eq {t u : TE} (h : PE X e t) (q : ∀ σ H Q, u σ H Q → t σ H Q) : PE X e u := ⟨fun pins s σ H Q I z => h.run pins s σ H Q I (q σ H Q z)⟩
theorem pe_f (F : Fn X.prog X.w X.K X.mg X.base CX k f sp) (hr : Room j X.A) (hk : k ≤ j) (hm : X.mg x = some (.ref f)) (hx : Passes CX X E) (ha : PA X (e :: es) t) (hg : Gl X x := by rfl)
    (hdb : (x == ("__debug__" : Str)) = false := by decide) (he : starEach (e :: es) X.env = (false, eval e X.env) :: starEach es X.env := by rfl) (hpl : (backTo pos (starEach es X.env)).any (·.1) = false := by rfl) :
    PE X (.Call (.Name x p) (e :: es) [] pos) (tCl sp E t) := by
  obtain ⟨fd, ps, o, b⟩ := F.ex
  refine pe_eq (pe_call o (hr.mono hk) hg hm F.kp b .nil hx ha hdb he hpl) fun σ H Q z => ?_
  simpa only [tCall, tCl, List.append_nil] using z
theorem pe_f0 (F : Fn X.prog X.w X.K X.mg X.base CX k f sp) (hr : Room j X.A) (hk : k ≤ j) (hm : X.mg x = some (.ref f)) (hx : Passes CX X E) (hg : Gl X x := by rfl)
    (hdb : (x == ("__debug__" : Str)) = false := by decide) : PE X (.Call (.Name x p) [] [] pos) (tCl sp E tNil) := by
  obtain ⟨fd, ps, o, b⟩ := F.ex
  refine pe_eq (pe_call0 o (hr.mono hk) hg hm F.kp b .nil hx hdb) fun σ H Q z => ?_
  simpa only [tCall, tCl, List.append_nil] using z
theorem pe_m {pl : Sem Bool} (c : Cls X.K C) (hm : Meth X.K C m f) (F : Fn X.prog X.w X.K X.mg X.base CX k f sp) (hr : Room j X.A) (hk : k ≤ j) (hx : Passes CX X E) (he : PE X o ta) (ha : PA X (e :: es) t)
    (hst : starEach (e :: es) X.env = (false, eval e X.env) :: starEach es X.env := by rfl) (hpl : (backTo pos (starEach es X.env)).any (·.1) = false := by rfl)
    (ht : eval (.Call (.Attribute o m apos) (e :: es) [] pos) X.env = (do
      let ov ← eval o X.env
      standAt apos.atName
      let (f, first) ← holding [ov] (getMethod ov m pl)
      callWith pos f first (backTo pos (starEach (e :: es) X.env)) (backToKw pos (keywordEach [] X.env))) := by rfl) :
    PE X (.Call (.Attribute o m apos) (e :: es) [] pos) (tMt C m sp E ta t) := by
  obtain ⟨fd, ps, ok, b⟩ := F.ex
  refine pe_eq (pe_meth he c hm ok (hr.mono hk) b .nil hx ha hst hpl ht) fun σ H Q z => ?_
  simpa only [tMeth, tMt, List.append_nil] using z
theorem pe_m0 {pl : Sem Bool} (c : Cls X.K C) (hm : Meth X.K C m f) (F : Fn X.prog X.w X.K X.mg X.base CX k f sp) (hr : Room j X.A) (hk : k ≤ j) (hx : Passes CX X E) (he : PE X o ta)
    (ht : eval (.Call (.Attribute o m apos) [] [] pos) X.env = (do
      let ov ← eval o X.env
      standAt apos.atName
      let (f, first) ← holding [ov] (getMethod ov m pl)
      callWith pos f first (backTo pos (starEach [] X.env)) (backToKw pos (keywordEach [] X.env))) := by rfl) :
    PE X (.Call (.Attribute o m apos) [] [] pos) (tMt C m sp E ta tNil) := by
  obtain ⟨fd, ps, ok, b⟩ := F.ex
  refine pe_eq (pe_meth0 he c hm ok (hr.mono hk) b .nil hx ht) fun σ H Q z => ?_
  simpa only [tMeth, tMt, List.append_nil] using z
theorem pe_mk (M : Mk X.K C f) (F : Fn X.prog X.w X.K X.mg X.base CX k f sp) (hr : Room j X.A) (hk : k + 1 ≤ j) (hm : X.mg x = some (.ref C)) (hx : Passes CX X E) (ha : PA X (e :: es) t) (hg : Gl X x := by rfl)
    (hdb : (x == ("__debug__" : Str)) = false := by decide) (he : starEach (e :: es) X.env = (false, eval e X.env) :: starEach es X.env := by rfl) (hpl : (backTo pos (starEach es X.env)).any (·.1) = false := by rfl) :
    PE X (.Call (.Name x p) (e :: es) [] pos) (tMk C sp E t) := by
  obtain ⟨fd, ps, ok, b⟩ := F.ex
  refine pe_eq (pe_make M ok (hr.mono hk) hg hm b .nil hx ha hdb he hpl) fun σ H Q z => ?_
  simpa only [tMake, tMk, List.append_nil] using z
/-- the def's own wish passes on -/
theorem passX {N : List Str} {qual : Str} {scope : Scope} {cd : Value} {A : Around} {outer : List Env} {s : Shared} {H : Hp} :
    Passes (L2.CX P w) (cxOf (L2.CX P w) P w K mg base N qual scope f cd A outer s H E) E := passes_call (takes_of rfl rfl rfl rfl) (fun _ _ _ _ h => h)
theorem pe_gi {i : Int} (h : ∃ t, X.mg x = some (.int i t)) (hg : Gl X x := by rfl) (hd : (x == ("__debug__" : Str)) = false := by decide) : PE X (.Name x pos) (tC (.int i)) := by
  obtain ⟨t, h⟩ := h
  exact pe_glob hg h ⟨t, rfl⟩ hd
theorem pe_gz {z : Str} (h : ∃ t, X.mg x = some (.str z t)) (hg : Gl X x := by rfl) (hd : (x == ("__debug__" : Str)) = false := by decide) : PE X (.Name x pos) (tC (.str z)) := by
  obtain ⟨t, h⟩ := h
  exact pe_glob hg h ⟨t, rfl⟩ hd
theorem pe_ga {a : Addr} (h : X.mg x = some (.ref a)) (hg : Gl X x := by rfl) (hd : (x == ("__debug__" : Str)) = false := by decide) : PE X (.Name x pos) (tC (.ref a)) := pe_glob hg h rfl hd
end
/-- THE RULE for a def that lets nothing out -/
theorem Fn.of0 {x qual : Str} {st : Stmt} {f : Addr} {N ps : List Str} {k : Nat} {sp : Sp} (Fe : ∃ fd, FunD K x qual (defArgs st) (defBody st) (defScope st) [] [] f fd) (S : FnScope N ps (defScope st))
    (hb : ∀ (kV doc pm : Value) (an : Option Addr) (cdv ct : Value) (us : List Value), us.length = ps.length → bindArgs (PySem.W.fnOf x qual (defArgs st) (defBody st) (defScope st) .none kV doc pm an cdv ct) ⟨us, []⟩ = pure (ps.zip us))
    (len : ∀ vs H Q E, sp vs H Q E → vs.length = ps.length)
    (hbody : ∀ (cdv : Value) (A : Around) (outer : List Env) (s : Shared) (H : Hp) (vs : List V) (Q : VK) (E : XK), Room k (A.deeper (envOfC qual (defScope st) s.heap.objs.size f cdv)) → sp vs H Q E →
      ∃ t, PSs (cxOf CX0 P w K mg base N qual (defScope st) f cdv A outer s H E).nox (defBody st) t ∧ t { nx := fun _ H' => Q .non H', rt := Q } (start N vs) H) : Fn P w K mg base CX0 (k + 1) f sp := by
  obtain ⟨fd, F⟩ := Fe
  refine ⟨⟨fd, ps, F.ok S len fun cdv A outer s H vs Q E hr h => ?_, F.bindsN hb⟩, F.kp⟩
  obtain ⟨t, h1, h2⟩ := hbody cdv A outer s H vs Q E hr h
  exact ⟨t, h1.nox, h2⟩
theorem Fn.vac {x qual : Str} {st : Stmt} {f : Addr} {N ps : List Str} {k : Nat} {sp : Sp} (Fe : ∃ fd, FunD K x qual (defArgs st) (defBody st) (defScope st) [] [] f fd) (S : FnScope N ps (defScope st))
    (hb : ∀ (kV doc pm : Value) (an : Option Addr) (cdv ct : Value) (us : List Value), us.length = ps.length → bindArgs (PySem.W.fnOf x qual (defArgs st) (defBody st) (defScope st) .none kV doc pm an cdv ct) ⟨us, []⟩ = pure (ps.zip us))
    (h : ∀ vs H Q E, ¬ sp vs H Q E) : Fn P w K mg base CX0 (k + 1) f sp := Fn.of0 Fe S hb (fun _ _ _ _ z => (h _ _ _ _ z).elim) (fun _ _ _ _ _ _ _ _ _ z => (h _ _ _ _ z).elim)
/-- THE RULE for a def that may raise -/
theorem Fn.ofX {x qual : Str} {st : Stmt} {f : Addr} {N ps : List Str} {k : Nat} {sp : Sp} (Fe : ∃ fd, FunD K x qual (defArgs st) (defBody st) (defScope st) [] [] f fd) (S : FnScope N ps (defScope st))
    (hb : ∀ (kV doc pm : Value) (an : Option Addr) (cdv ct : Value) (us : List Value), us.length = ps.length → bindArgs (PySem.W.fnOf x qual (defArgs st) (defBody st) (defScope st) .none kV doc pm an cdv ct) ⟨us, []⟩ = pure (ps.zip us))
    (len : ∀ vs H Q E, sp vs H Q E → vs.length = ps.length)
    (hbody : ∀ (cdv : Value) (A : Around) (outer : List Env) (s : Shared) (H : Hp) (vs : List V) (Q : VK) (E : XK), Room k (A.deeper (envOfC qual (defScope st) s.heap.objs.size f cdv)) → sp vs H Q E →
      ∃ t, PSs (cxOf (L2.CX P w) P w K mg base N qual (defScope st) f cdv A outer s H E) (defBody st) t ∧ t { nx := fun _ H' => Q .non H', rt := Q } (start N vs) H) : Fn P w K mg base (L2.CX P w) (k + 1) f sp := by
  obtain ⟨fd, F⟩ := Fe
  exact ⟨⟨fd, ps, F.ok S len hbody, F.bindsN hb⟩, F.kp⟩

/-! ### readings, step by step -/
section
variable {σ : L2.St} {H : Hp} {i : Nat} {v x y z : V} {ta tb te tv tc : TE} {b : Bool} {a C dx : Addr} {fs : List (Str × V)} {fn : Str} {t u c : TT} {Q : VK} {QT : Bool → Hp → Prop} {D : Ends} {t1 t2 t3 : TS} {g : TG}
theorem k_seq (h : t1 { D with nx := t2 D } σ H) : tSeq t1 t2 D σ H := h
theorem k_asg (h : te σ H fun x H1 => g x σ H1 D.nx) : tAsg te g D σ H := h
theorem k_gn {QN : L2.St → Hp → Prop} (h : QN (σ.set i (some v)) H) : gName i v σ H QN := h
theorem k_ret (h : te σ H D.rt) : tRet te D σ H := h
theorem k_retN (h : D.rt .non H) : tRetN D σ H := h
theorem k_next (h : D.nx σ H) : tNext D σ H := h
theorem k_cont (h : D.ct σ H) : tCont D σ H := h
theorem k_drop (h : te σ H fun _ H1 => D.nx σ H1) : tDrop te D σ H := h
theorem k_if (h : c σ H fun b H1 => if b = true then t1 D σ H1 else t2 D σ H1) : tIfS c t1 t2 D σ H := h
theorem k_var (h : σ[i]? = some (some v)) (q : Q v H) : tVar i σ H Q := ⟨v, h, q⟩
theorem k_c (q : Q v H) : tC v σ H Q := q
theorem k_op {r : R2} (h : ta σ H fun x H1 => tb σ H1 fun y H2 => r x y H2 Q) : tOp r ta tb σ H Q := h
theorem k_un {r : V → Hp → VK → Prop} (h : ta σ H fun x H1 => r x H1 Q) : tUn r ta σ H Q := h
theorem k_I0 {gg : Int → Int → V} {m n : Int} (q : Q (gg m n) H) : rI0 gg (.int m) (.int n) H Q := ⟨m, n, rfl, rfl, q⟩
theorem k_I {CC : Int → Int → Prop} {gg : Int → Int → V} {m n : Int} (hc : CC m n) (q : Q (gg m n) H) : rI CC gg (.int m) (.int n) H Q := ⟨m, n, rfl, rfl, hc, q⟩
theorem k_eq (h : scal x y = true) (q : Q (.bl (decide (x = y))) H) : rEq x y H Q := ⟨h, q⟩
theorem k_ne (h : scal x y = true) (q : Q (.bl (!decide (x = y))) H) : rNe x y H Q := ⟨h, q⟩
theorem k_test (h : te σ H fun x H' => ∃ k, x = .bl k ∧ QT k H') : tTest te σ H QT := h
theorem k_tB (h : te σ H fun x H' => ∃ k, x = .bl k ∧ QT k H') : tB te σ H QT := h
theorem k_bl {k : Bool} {A : Bool → Prop} (q : A k) : ∃ k', V.bl k = .bl k' ∧ A k' := ⟨k, rfl, q⟩
theorem k_exI {n : Int} {A : Int → Prop} (q : A n) : ∃ i, V.int n = .int i ∧ A i := ⟨n, rfl, q⟩
theorem k_bits (h : ta σ H fun x H1 => ∃ i, x = .int i ∧ Q (.int (Builtin.Int.intBits i : Nat)) H1) : tBits ta σ H Q := h
theorem k_chain {r r' : R2} (h : ta σ H fun x H1 => tb σ H1 fun y H2 => r x y H2 fun z H3 => ∃ k, z = .bl k ∧ (if k = true then tc σ H3 fun w' H4 => r' y w' H4 Q else Q (.bl false) H3)) : tChain r r' ta tb tc σ H Q := h
theorem k_aug {i : Nat} {ti : TIp} (hx : σ[i]? = some (some x)) (h : te σ H fun y H1 => ti x y H1 fun z H2 => D.nx (σ.set i (some z)) H2) : tAug i te ti D σ H := ⟨x, hx, h⟩
theorem k_ipI {f : Int → Int → Int} {m n : Int} (h : Q (.int (f m n)) H) : ipI f (.int m) (.int n) H Q := ⟨m, n, rfl, rfl, h⟩
/-- one sign in a text -/
def rInG : R2 := fun x y H Q => ∃ (c : Nat) (z : Str), x = .str ⟨#[c]⟩ ∧ y = .str z ∧ Q (.bl (decide (c ∈ z.cps.toList))) H
theorem op_inG {X : Cx} : OpR X (compareOp .In) rInG := op_in_sign
theorem k_inG {c : Nat} {z : Str} (q : Q (.bl (decide (c ∈ z.cps.toList))) H) : rInG (.str ⟨#[c]⟩) (.str z) H Q := ⟨c, z, rfl, rfl, q⟩
/-- a method of a text, one argument -/
def kM1 (r : V → List V → Hp → VK → Prop) (te : TE) (σ : L2.St) (Q : VK) (x : V) (H : Hp) : Prop := (∃ a, x = .str a) ∧ te σ H fun y H2 => r x [y] H2 Q
theorem k_m1 {r : V → List V → Hp → VK → Prop} (h : ta σ H (kM1 r te σ Q)) : tM1 r ta te σ H Q := h
theorem kM1.mk {r : V → List V → Hp → VK → Prop} {a : Str} (h : te σ H fun y H2 => r (.str a) [y] H2 Q) : kM1 r te σ Q (.str a) H := ⟨⟨a, rfl⟩, h⟩
theorem k_yes (q : QT true H) : tYes σ H QT := q
theorem k_and (h : t σ H fun c H1 => if c = true then u σ H1 QT else QT false H1) : tAnd t u σ H QT := h
theorem k_or (h : t σ H fun c H1 => if c = true then QT true H1 else u σ H1 QT) : tOr t u σ H QT := h
theorem k_not (h : t σ H fun c H1 => QT (!c) H1) : tNot t σ H QT := h
theorem k_andV (h : ta σ H fun x H1 => ∃ c, x = .bl c ∧ if c = true then tb σ H1 Q else Q (.bl false) H1) : tAndV ta tb σ H Q := h
theorem k_orV (h : ta σ H fun x H1 => ∃ c, x = .bl c ∧ if c = true then Q (.bl true) H1 else tb σ H1 Q) : tOrV ta tb σ H Q := h
theorem k_nil {QA : List V → Hp → Prop} (q : QA [] H) : tNil σ H QA := q
theorem k_cons {tr : TA} {QA : List V → Hp → Prop} (h : ta σ H fun x H1 => tr σ H1 fun xs H2 => QA (x :: xs) H2) : tCons ta tr σ H QA := h
theorem k_cb {r : List V → Hp → VK → Prop} {tr : TA} (h : tr σ H fun vs H1 => r vs H1 Q) : tCB r tr σ H Q := h
theorem k_cl {sp : Sp} {E : XK} {tr : TA} (h : tr σ H fun vs H1 => sp vs H1 Q E) : tCl sp E tr σ H Q := h

/-! named ends -/
def kTup (Q : VK) (xs : List V) (H : Hp) : Prop := xs.length ≤ sizeLine ∧ ∀ p, H p = none → Q (.ref p) (upd H p (.tup xs))
def kLst (Q : VK) (xs : List V) (H : Hp) : Prop := xs.length ≤ sizeLine ∧ ∀ p, H p = none → Q (.ref p) (upd H p (.lst xs))
theorem k_tup {tr : TA} (h : tr σ H (kTup Q)) : tTup tr σ H Q := h
theorem k_lst {tr : TA} (h : tr σ H (kLst Q)) : tLst tr σ H Q := h
theorem kTup.mk {xs : List V} (hl : xs.length ≤ 1000) (h : ∀ p H', Le H H' → H p = none → H' p = some (.tup xs) → Q (.ref p) H') : kTup Q xs H := ⟨Nat.le_trans hl (by decide), fun p hp => h p _ (Le.new hp) hp upd_same⟩
theorem kLst.mk {xs : List V} (hl : xs.length ≤ 1000) (h : ∀ p H', Le H H' → H p = none → H' p = some (.lst xs) → Q (.ref p) H') : kLst Q xs H := ⟨Nat.le_trans hl (by decide), fun p hp => h p _ (Le.new hp) hp upd_same⟩
variable {xs ys : List V} {n m : Int} {K : PySem.W.Frag}
theorem k_ixT (h : SqT K H a xs) (ha : atI xs n = some v) (q : Q v H) : rIxT K (.ref a) (.int n) H Q := ⟨a, xs, n, v, rfl, rfl, h, ha, q⟩
theorem k_ixL (h : SqL K H a xs) (ha : atI xs n = some v) (q : Q v H) : rIxL K (.ref a) (.int n) H Q := ⟨a, xs, n, v, rfl, rfl, h, ha, q⟩
/-- e.f -/
def kFld (K : PySem.W.Frag) (f : Str) (Q : VK) (x : V) (H : Hp) : Prop := ∃ a C dx fs v, x = .ref a ∧ H a = some (.ins C dx fs) ∧ Cls K C ∧ NoAttr K C f ∧ fs.lookup f = some v ∧ Q v H
theorem k_fld {f : Str} (h : ta σ H (kFld K f Q)) : tFld K ta f σ H Q := h
theorem kFld.mk {f : Str} (h : H a = some (.ins C dx fs)) (c : Cls K C) (na : NoAttr K C f) (l : fs.lookup f = some v) (q : Q v H) : kFld K f Q (.ref a) H := ⟨a, C, dx, fs, v, rfl, h, c, na, l, q⟩
/-- o.m(..) -/
def kMt (C : Addr) (m : Str) (k : V → L2.St → Hp → Prop) (σ : L2.St) (x : V) (H : Hp) : Prop := ∃ a dx fs, x = .ref a ∧ H a = some (.ins C dx fs) ∧ fs.lookup m = none ∧ k x σ H
theorem k_mt {sp : Sp} {E : XK} {ta : TE} {tr : TA} {m : Str} (h : ta σ H (kMt C m (fun x σ H1 => tr σ H1 fun vs H2 => sp (x :: vs) H2 Q E) σ)) : tMt C m sp E ta tr σ H Q := h
theorem kMt.mk {m : Str} {k : V → L2.St → Hp → Prop} (h : H a = some (.ins C dx fs)) (l : fs.lookup m = none) (q : k (.ref a) σ H) : kMt C m k σ (.ref a) H := ⟨a, dx, fs, rfl, h, l, q⟩
/-- len, int, tuple, list, str -/
def gLen (K : PySem.W.Frag) : List V → Hp → VK → Prop := fun xs H Q => ∃ x n, xs = [x] ∧ LenV K x H n ∧ Q (.int n) H
theorem cr_len {X : Cx} : CallR X (.builtin "len") (gLen X.K) := call_len
theorem k_lenT (h : SqT K H a xs) (q : Q (.int (xs.length : Nat)) H) : gLen K [.ref a] H Q := ⟨_, _, rfl, .inr ⟨xs, h, rfl⟩, q⟩
theorem k_lenL (h : SqL K H a xs) (q : Q (.int (xs.length : Nat)) H) : gLen K [.ref a] H Q := ⟨_, _, rfl, .inl ⟨xs, h, rfl⟩, q⟩
theorem k_lenS {z : Str} (h : z.length ≤ 1000000) (q : Q (.int (z.length : Nat)) H) : gLen K [.str z] H Q := ⟨_, _, rfl, ⟨Nat.le_trans h (by decide), rfl⟩, q⟩
def gInt : List V → Hp → VK → Prop := fun xs H Q => (∃ i, xs = [.int i] ∧ Q (.int i) H) ∨ ∃ k, xs = [.bl k] ∧ Q (.int (if k then 1 else 0)) H
theorem cr_int {X : Cx} : CallR X (.type "int") gInt := call_int1
theorem k_int (q : Q (.int n) H) : gInt [.int n] H Q := .inl ⟨n, rfl, q⟩
def gTuple (K : PySem.W.Frag) : List V → Hp → VK → Prop := fun xs H Q => ∃ p ys, xs = [.ref p] ∧ ((SqL K H p ys ∧ ∀ l, H l = none → Q (.ref l) (upd H l (.tup ys))) ∨ (SqT K H p ys ∧ Q (.ref p) H))
theorem cr_tuple {X : Cx} : CallR X (.type "tuple") (gTuple X.K) := call_tuple_of
theorem k_tupleL (h : SqL K H a xs) (q : ∀ p H', Le H H' → H p = none → H' p = some (.tup xs) → Q (.ref p) H') : gTuple K [.ref a] H Q := ⟨a, xs, rfl, .inl ⟨h, fun p hp => q p _ (Le.new hp) hp upd_same⟩⟩
theorem k_tupleT (h : SqT K H a xs) (q : Q (.ref a) H) : gTuple K [.ref a] H Q := ⟨a, xs, rfl, .inr ⟨h, q⟩⟩
def gList (K : PySem.W.Frag) : List V → Hp → VK → Prop := fun xs H Q => ∃ p ys, xs = [.ref p] ∧ (SqL K H p ys ∨ SqT K H p ys) ∧ ∀ l, H l = none → Q (.ref l) (upd H l (.lst ys))
theorem cr_list {X : Cx} : CallR X (.type "list") (gList X.K) := call_list_of
theorem k_listL (h : SqL K H a xs) (q : ∀ p H', Le H H' → H p = none → H' p = some (.lst xs) → Q (.ref p) H') : gList K [.ref a] H Q := ⟨a, xs, rfl, .inl h, fun p hp => q p _ (Le.new hp) hp upd_same⟩
theorem k_listT (h : SqT K H a xs) (q : ∀ p H', Le H H' → H p = none → H' p = some (.lst xs) → Q (.ref p) H') : gList K [.ref a] H Q := ⟨a, xs, rfl, .inr h, fun p hp => q p _ (Le.new hp) hp upd_same⟩
theorem k_all {bs : List Bool} (h : SqL K H a (bs.map V.bl)) (q : Q (.bl (bs.all id)) H) : rAll K [.ref a] H Q := ⟨a, bs, rfl, h, q⟩
theorem k_any {bs : List Bool} (h : SqL K H a (bs.map V.bl)) (q : Q (.bl (bs.any id)) H) : rAny K [.ref a] H Q := ⟨a, bs, rfl, h, q⟩
theorem k_sum {ns : List Int} (h : SqL K H a (ns.map V.int)) (q : Q (.int ns.sum) H) : rSum K [.ref a] H Q := ⟨a, ns, rfl, h, q⟩
theorem k_strIx {z : Str} {c : Nat} (hl : z.length ≤ 1000) (h : atI z.cps.toList n = some c) (q : Q (.str ⟨#[c]⟩) H) : rIxS (.str z) (.int n) H Q := ⟨z, n, c, rfl, rfl, Nat.le_trans hl (by decide), h, q⟩
/-- text.index(sign) -/
def gIdx : V → List V → Hp → VK → Prop := fun x xs H Q => ∃ a b i rest, x = .str a ∧ xs = [.str b] ∧ Builtin.Str.occurrences a b 0 a.length 1 = i :: rest ∧ Q (.int (i : Nat)) H
theorem mt_idx {X : Cx} : MtR X "str.index" gIdx := mt_sindex
theorem k_idx {z z2 : Str} {j : Nat} (h : (Builtin.Str.occurrences z z2 0 z.length 1).head? = some j) (q : Q (.int (j : Nat)) H) : gIdx (.str z) [.str z2] H Q := by
  cases e : Builtin.Str.occurrences z z2 0 z.length 1 with
  | nil =>
    rw [e] at h
    cases h
  | cons i r =>
    rw [e] at h
    cases h
    exact ⟨z, z2, _, r, rfl, rfl, e, q⟩
def gStrI : List V → Hp → VK → Prop := fun xs H Q => ∃ i, xs = [.int i] ∧ i.natAbs.log2 < 1920 ∧ Q (.str (toString i)) H
theorem cr_strI {X : Cx} : CallR X (.type "str") gStrI := call_str_int
/-- tuple + tuple, list + list -/
theorem k_catA {p q' : Addr} (h1 : SqT K H p xs) (h2 : SqT K H q' ys) (hl : xs.length + ys.length ≤ 1000) (q : ∀ r H', Le H H' → SqT K H' r (xs ++ ys) → Q (.ref r) H') : rCatA K (.ref p) (.ref q') H Q := by
  refine ⟨p, q', xs, ys, rfl, rfl, h1, h2, Nat.le_trans hl (by decide), fun e => ?_, fun _ e => ?_, fun _ _ r hr => ?_⟩
  · rw [e] at q
    exact q q' H Lx.refl h2
  · rw [e, List.append_nil] at q
    exact q p H Lx.refl h1
  · exact q r _ (Le.new hr) (SqT.of upd_same)
theorem k_cat {p q' : Addr} (h1 : H p = some (.lst xs)) (h2 : H q' = some (.lst ys)) (hl : xs.length + ys.length ≤ 1000) (q : ∀ r H', Le H H' → H r = none → H' r = some (.lst (xs ++ ys)) → Q (.ref r) H') : rCat (.ref p) (.ref q') H Q :=
  ⟨p, q', xs, ys, rfl, rfl, h1, h2, Nat.le_trans hl (by decide), fun r hr => q r _ (Le.new hr) hr upd_same⟩
/-! loops -/
def kFor (g : TG) (tb : TS) (D : Ends) (σ : L2.St) (J : It) (H1 : Hp) : Prop := ∃ W : Nat → Nat → L2.St → Hp → Prop, (∃ m, W 0 m σ H1) ∧ ∀ i m σ H, W i m σ H →
  (J.stop i H ∧ D.nx σ H) ∨ (J.go i H ∧ ∃ N : L2.St → Hp → Prop, (∀ σ' H', N σ' H' → ∃ m', m' < m ∧ W (i + 1) m' σ' H') ∧ ∀ x H', J.yld i H x H' → g x σ H' fun σ2 H2 => tb { D with nx := N, ct := N, bk := D.nx } σ2 H2)
theorem k_for {wi : TI} (h : wi σ H (kFor g t1 D σ)) : tFor wi g t1 D σ H := h
def kIL (K : PySem.W.Frag) (R : It → Hp → Prop) (x : V) (H : Hp) : Prop := ∃ a, x = .ref a ∧ (∃ xs, SqL K H a xs) ∧ R (Itl K a) H
def kIT (K : PySem.W.Frag) (R : It → Hp → Prop) (x : V) (H : Hp) : Prop := ∃ a, x = .ref a ∧ (∃ xs, SqT K H a xs) ∧ R (Itt K a) H
theorem k_iL {R : It → Hp → Prop} (h : ta σ H (kIL K R)) : iList K ta σ H R := h
theorem k_iT {R : It → Hp → Prop} (h : ta σ H (kIT K R)) : iTup K ta σ H R := h
theorem kIL.mk {R : It → Hp → Prop} (h : SqL K H a xs) (q : R (Itl K a) H) : kIL K R (.ref a) H := ⟨a, rfl, ⟨_, h⟩, q⟩
theorem kIT.mk {R : It → Hp → Prop} (h : SqT K H a xs) (q : R (Itt K a) H) : kIT K R (.ref a) H := ⟨a, rfl, ⟨_, h⟩, q⟩
def kIS (R : It → Hp → Prop) (x : V) (H : Hp) : Prop := ∃ z, x = .str z ∧ R (Its z) H
theorem k_iS {R : It → Hp → Prop} (h : ta σ H (kIS R)) : iStr ta σ H R := h
theorem kIS.mk {R : It → Hp → Prop} {z : Str} (q : R (Its z) H) : kIS R (.str z) H := ⟨z, rfl, q⟩
def kZA (K : PySem.W.Frag) (R : It → Hp → Prop) (vs : List V) (H : Hp) : Prop := ∃ a b xs ys, vs = [.ref a, .ref b] ∧ ((SqL K H a xs ∧ SqL K H b ys ∧ R (Itz K a b) H) ∨ (SqT K H a xs ∧ SqT K H b ys ∧ R (RZ.ItzT K a b) H))
theorem k_iZA {R : It → Hp → Prop} {tr : TA} (h : tr σ H (kZA K R)) : RZ.iZipA K tr σ H R := h
theorem kZA.mk {R : It → Hp → Prop} {a2 : Addr} (h1 : SqT K H a xs) (h2 : SqT K H a2 ys) (q : R (RZ.ItzT K a a2) H) : kZA K R [.ref a, .ref a2] H := ⟨a, a2, xs, ys, rfl, .inr ⟨h1, h2, q⟩⟩
theorem walk_zipT {a2 : Addr} : Walk (RZ.ItzT K a a2) (min xs.length ys.length) (fun H => SqT K H a xs ∧ SqT K H a2 ys) (YPair (fun i => xs[i]?) (fun i => ys[i]?)) := by
  refine ⟨fun i H hi q => ?_, fun H q => ⟨xs, ys, q.1, q.2, by omega⟩, fun i H v H' _ q y => ?_⟩
  · have h1 : i < xs.length := by omega
    have h2 : i < ys.length := by omega
    exact ⟨xs, ys, xs[i], ys[i], q.1, q.2, by simp [h1], by simp [h2]⟩
  · obtain ⟨T, x, z, h1, h2, h3, h4, h5⟩ := y
    exact ⟨T, x, z, h1, h2, h3, h4 xs q.1, h5 ys q.2⟩
theorem kFor.go {J : It} {n : Nat} {G : Hp → Prop} {Y : Nat → Hp → V → Hp → Prop} (w : Walk J n G Y) (Pv : Nat → L2.St → Hp → Prop) (h0 : Pv 0 σ H) (hG : ∀ i σ H, i ≤ n → Pv i σ H → G H)
    (hs : ∀ i x σ H H', i < n → Pv i σ H → Y i H x H' → g x σ H' fun σ2 H2 => t1 { D with nx := Pv (i + 1), ct := Pv (i + 1), bk := D.nx } σ2 H2) (hd : ∀ σ H, Pv n σ H → D.nx σ H) : kFor g t1 D σ J H := for_it w Pv h0 hG hs hd
/-- a list, a tuple walked: the heap grows -/
theorem kFor.lst {Pv : Nat → L2.St → Prop} (xs : List V) (h : SqL K H a xs) (h0 : Pv 0 σ)
    (hs : ∀ i x σ H', xs[i]? = some x → Le H H' → Pv i σ → g x σ H' fun σ2 H2 => t1 { D with nx := fun σ' H'' => Le H H'' ∧ Pv (i + 1) σ', ct := fun σ' H'' => Le H H'' ∧ Pv (i + 1) σ', bk := D.nx } σ2 H2)
    (hd : ∀ σ H', Le H H' → Pv xs.length σ → D.nx σ H') : kFor g t1 D σ (Itl K a) H :=
  kFor.go (walk_list (xs := xs)) (fun i σ H' => Le H H' ∧ Pv i σ) ⟨Lx.refl, h0⟩ (fun i σ H' _ z => z.1.sql h) (fun i x σ H1 H2 hi z y => by rw [y.1]; exact hs i x σ H1 y.2 z.1 z.2) (fun σ H' z => hd σ H' z.1 z.2)
theorem kFor.tup {Pv : Nat → L2.St → Prop} (xs : List V) (h : SqT K H a xs) (h0 : Pv 0 σ)
    (hs : ∀ i x σ H', xs[i]? = some x → Le H H' → Pv i σ → g x σ H' fun σ2 H2 => t1 { D with nx := fun σ' H'' => Le H H'' ∧ Pv (i + 1) σ', ct := fun σ' H'' => Le H H'' ∧ Pv (i + 1) σ', bk := D.nx } σ2 H2)
    (hd : ∀ σ H', Le H H' → Pv xs.length σ → D.nx σ H') : kFor g t1 D σ (Itt K a) H :=
  kFor.go (walk_tup (xs := xs)) (fun i σ H' => Le H H' ∧ Pv i σ) ⟨Lx.refl, h0⟩ (fun i σ H' _ z => z.1.sqt h) (fun i x σ H1 H2 hi z y => by rw [y.1]; exact hs i x σ H1 y.2 z.1 z.2) (fun σ H' z => hd σ H' z.1 z.2)
theorem kFor.rng {Pv : Nat → L2.St → Hp → Prop} (k : Nat) (h0 : Pv 0 σ H)
    (hs : ∀ i σ H, i < k → Pv i σ H → g (.int (i : Nat)) σ H fun σ2 H2 => t1 { D with nx := Pv (i + 1), ct := Pv (i + 1), bk := D.nx } σ2 H2) (hd : ∀ σ H, Pv k σ H → D.nx σ H) : kFor g t1 D σ (Itr 0 k) H :=
  kFor.go (walk_range (lo := 0) (n := k)) Pv h0 (fun _ _ _ _ _ => trivial) (fun i x σ H1 H2 hi z y => by
    have e0 : (0 : Int) + (i : Int) = (i : Int) := Int.zero_add _
    rw [y.1, y.2]
    show g (.int ((0 : Int) + (i : Int))) σ H1 _
    rw [e0]
    exact hs i σ H1 hi z) hd
/-- comprehensions -/
def kLc (g : TG) (tt : TT) (te : TE) (vs : List Nat) (σ : L2.St) (Q : VK) (J : It) (H1 : Hp) : Prop := ∀ D, H1 D = none → ∃ W : Nat → Nat → Hp → Prop, (∃ m, W 0 m (upd H1 D (.lst []))) ∧ ∀ i m H, W i m H →
  (J.stop i H ∧ Q (.ref D) H) ∨ (J.go i H ∧ ∃ Nx : Hp → Prop, (∀ H', Nx H' → ∃ m', m' < m ∧ W (i + 1) m' H') ∧ ∀ x H', J.yld i H x H' → g x (wipe σ vs) H' fun σ2 H2 => wipe σ2 vs = wipe σ vs ∧ tt σ2 H2 fun b H3 =>
    if b = true then te σ2 H3 fun y H4 => ∃ acc, H4 D = some (.lst acc) ∧ acc.length < sizeLine ∧ Nx (upd H4 D (.lst (acc ++ [y]))) else Nx H3)
theorem k_lc {wi : TI} {tt : TT} {vs : List Nat} (h : wi σ H (kLc g tt te vs σ Q)) : tLc wi g tt te vs σ H Q := h
def kEl (D : Addr) (Nx : Hp → Prop) (y : V) (H4 : Hp) : Prop := ∃ acc, H4 D = some (.lst acc) ∧ acc.length < sizeLine ∧ Nx (upd H4 D (.lst (acc ++ [y])))
theorem kLc.go {J : It} {n : Nat} {G : Hp → Prop} {Y : Nat → Hp → V → Hp → Prop} {tt : TT} {vs : List Nat} (w : Walk J n G Y) (hn : n ≤ 100000) (Pv : Nat → List V → Hp → Prop) (hst : ∀ i acc S H H', Lx S H H' → Pv i acc H → Pv i acc H') (h0 : Pv 0 [] H)
    (hG : ∀ H', Le H H' → G H')
    (hs : ∀ E Nx i acc x H1 H2, i < n → Le H H1 → Pv i acc H1 → Y i H1 x H2 → (∀ y H3, Le H1 H3 → Pv (i + 1) (acc ++ [y]) H3 → kEl E Nx y H3) → (∀ H3, Le H1 H3 → Pv (i + 1) acc H3 → Nx H3) →
      g x (wipe σ vs) H2 fun σ2 H2 => wipe σ2 vs = wipe σ vs ∧ tt σ2 H2 fun b H3 => if b = true then te σ2 H3 (kEl E Nx) else Nx H3)
    (hd : ∀ p acc H', Le H H' → H p = none → H' p = some (.lst acc) → acc.length ≤ n → Pv n acc H' → Q (.ref p) H') : kLc g tt te vs σ Q J H := by
  intro E hE
  refine lc_it w (fun i H' => ∃ acc, Le H H' ∧ H' E = some (.lst acc) ∧ acc.length ≤ i ∧ Pv i acc H') ⟨[], Le.new hE, upd_same, Nat.le_refl _, hst _ _ _ _ _ (Le.new hE) h0⟩ (fun i H' _ ⟨_, e, _⟩ => hG H' e) (fun i x H1 H2 hi ⟨acc, e, ea, el, p⟩ y => ?_)
    (fun H' ⟨acc, e, ea, el, p⟩ => hd E acc H' e hE ea el p)
  refine hs E (fun H' => ∃ acc, Le H H' ∧ H' E = some (.lst acc) ∧ acc.length ≤ i + 1 ∧ Pv (i + 1) acc H') i acc x H1 H2 hi e p y (fun y H3 e3 p3 => ?_) (fun H3 e3 p3 => ?_)
  · have ea3 := e3.lst ea
    refine ⟨acc, ea3, Nat.lt_of_le_of_lt (Nat.le_trans el (Nat.le_trans (Nat.le_of_lt hi) hn)) (by decide), acc ++ [y], (e.trans e3).own hE (by rw [ea3]; exact fun z => nomatch z), upd_same, by simp; omega, ?_⟩
    exact hst _ _ (fun a => a = E) _ _ (Lx.wr rfl ea3 (fun z => z) (by intro ps z; cases z)) p3
  · exact ⟨acc, e.trans e3, e3.lst ea, by omega, p3⟩
def kR1 (R : It → Hp → Prop) (vs : List V) (H : Hp) : Prop := ∃ j : Int, vs = [.int j] ∧ -(2 ^ 62) ≤ j ∧ j < 2 ^ 62 ∧ R (Itr 0 j.toNat) H
theorem k_iR1 {R : It → Hp → Prop} {tr : TA} (h : tr σ H (kR1 R)) : iRng1 tr σ H R := h
theorem kR1.mk {R : It → Hp → Prop} (k : Nat) (hk : n = (k : Int)) (hk2 : k ≤ 100000) (q : R (Itr 0 k) H) : kR1 R [.int n] H := by
  subst hk
  exact ⟨_, rfl, by omega, by omega, q⟩
theorem k_gtup {n : Nat} {tg : TGs} {QN : L2.St → Hp → Prop} (h : SqT K H a xs) (hl : xs.length = n) (q : tg xs σ H QN) : gTup K n tg (.ref a) σ H QN := ⟨a, xs, rfl, h, hl, q⟩
theorem k_gcons {tg : TGs} {QN : L2.St → Hp → Prop} (q : g v σ H fun σ' H' => tg xs σ' H' QN) : gCons g tg (v :: xs) σ H QN := ⟨v, xs, rfl, q⟩
theorem k_gnil {QN : L2.St → Hp → Prop} (q : QN σ H) : gNil [] σ H QN := ⟨rfl, q⟩
theorem k_rfl2 {A : Prop} {v : V} (q : A) : v = v ∧ A := ⟨rfl, q⟩
theorem Zed.e_row (Z : Zed w K mg) (H : Hp) : SqT K H (He.ga K "EMPTY_ROW") [.int 2] := He.tupB_ok (vs := [.int 2]) (He.ba (He.ba Z.more).2).1 H
theorem Zed.e_words (Z : Zed w K mg) (H : Hp) : SqT K H (He.ga K "WORDS") [.str "", .str "open", .str "close", .str "move", .str "mint", .str "burn", .str "change", .str "rule"] :=
  He.tupB_ok (vs := [.str "", .str "open", .str "close", .str "move", .str "mint", .str "burn", .str "change", .str "rule"]) (He.ba Z.more).1 H
theorem k_par {i j : Nat} {tr : TA} (h : tr σ H fun vs H1 => ∃ v w', vs = [v, w'] ∧ D.nx ((σ.set i (some v)).set j (some w')) H1) : tPar i j tr D σ H := h
theorem k_ex2 {a b : V} {A : V → V → Prop} (q : A a b) : ∃ v w', [a, b] = [v, w'] ∧ A v w' := ⟨a, b, rfl, q⟩
/-! while -/
def kWh (tb : TS) (D : Ends) (W : Nat → L2.St → Hp → Prop) (m : Nat) (σ : L2.St) (b : Bool) (H1 : Hp) : Prop := if b = true then ∃ N : L2.St → Hp → Prop, (∀ σ' H', N σ' H' → ∃ m', m' < m ∧ W m' σ' H') ∧ tb { D with nx := N, ct := N, bk := D.nx } σ H1 else D.nx σ H1
theorem k_while (W : Nat → L2.St → Hp → Prop) (m0 : Nat) (h0 : W m0 σ H) (hs : ∀ m σ H, W m σ H → c σ H (kWh t1 D W m σ)) : tWhile c t1 D σ H := ⟨W, ⟨m0, h0⟩, hs⟩
theorem kWh.yes {W : Nat → L2.St → Hp → Prop} {m : Nat} {b : Bool} (hb : b = true) (h : t1 { D with nx := fun σ' H' => ∃ m', m' < m ∧ W m' σ' H', ct := fun σ' H' => ∃ m', m' < m ∧ W m' σ' H', bk := D.nx } σ H) : kWh t1 D W m σ b H := by
  subst hb
  exact ⟨_, fun _ _ z => z, h⟩
theorem kWh.no {W : Nat → L2.St → Hp → Prop} {m : Nat} {b : Bool} (hb : b = false) (h : D.nx σ H) : kWh t1 D W m σ b H := by
  subst hb
  exact h
/-- if, its answer known -/
theorem k_ifT {A B : Prop} {b : Bool} (h : b = true) (q : A) : if b = true then A else B := by rw [if_pos h]; exact q
theorem k_ifF {A B : Prop} {b : Bool} (h : b = false) (q : B) : if b = true then A else B := by rw [h, if_neg Bool.false_ne_true]; exact q
theorem k_if2 {A B : Prop} {b : Bool} (h1 : b = true → A) (h2 : b = false → B) : if b = true then A else B := by
  cases b with
  | true => rw [if_pos rfl]; exact h1 rfl
  | false => rw [if_neg Bool.false_ne_true]; exact h2 rfl
end
end G
end
section
set_option Elab.async false
set_option linter.all false
namespace G
/-! ### keys of 48 bits: prefixes, bits, the place of parting -/
/-- the first q bits -/
def sh (x q : Nat) : Nat := x / 2 ^ (48 - q)
def bt (x q : Nat) : Nat := x / 2 ^ (47 - q) % 2
theorem sh_succ {x q : Nat} (h : q < 48) : sh x (q + 1) = 2 * sh x q + bt x q := by
  unfold sh bt
  have e : 48 - q = (47 - q) + 1 := by omega
  have e2 : 48 - (q + 1) = 47 - q := by omega
  rw [e, e2, Nat.pow_succ, ← Nat.div_div_eq_div_mul]
  omega
theorem bt_lt (x q : Nat) : bt x q < 2 := Nat.mod_lt _ (by decide)
theorem sh_down {x y q : Nat} (h : q < 48) (e : sh x (q + 1) = sh y (q + 1)) : sh x q = sh y q := by
  rw [sh_succ h, sh_succ h] at e
  have := bt_lt x q
  have := bt_lt y q
  omega
theorem sh_le {x y : Nat} : ∀ {p q : Nat}, p ≤ q → q ≤ 48 → sh x q = sh y q → sh x p = sh y p
  | p, 0, h, _, e => by
    have e0 : p = 0 := by omega
    rw [e0]
    exact e
  | p, q + 1, h, h2, e => by
    by_cases c : p = q + 1
    · rw [c]
      exact e
    · exact sh_le (p := p) (q := q) (by omega) (by omega) (sh_down (by omega) e)
theorem sh_mono {x y q : Nat} (h : x ≤ y) : sh x q ≤ sh y q := Nat.div_le_div_right h
/-- x and y agree on the first p bits and differ at the next -/
structure Part (x y p : Nat) : Prop where
  lt : p < 48
  same : sh x p = sh y p
  diff : bt x p ≠ bt y p
theorem Part.symm {x y p : Nat} (h : Part x y p) : Part y x p := ⟨h.lt, h.same.symm, h.diff.symm⟩
theorem Part.next {x y p : Nat} (h : Part x y p) : sh x (p + 1) ≠ sh y (p + 1) := by
  rw [sh_succ h.lt, sh_succ h.lt]
  have := h.diff
  have := h.same
  omega
/-- to agree on q bits is to part not before q -/
theorem Part.iff {x y p q : Nat} (h : Part x y p) (hq : q ≤ 48) : sh x q = sh y q ↔ q ≤ p := by
  constructor
  · intro e
    by_cases c : q ≤ p
    · exact c
    · exact absurd (sh_le (p := p + 1) (q := q) (by omega) hq e) h.next
  · intro c
    exact sh_le c (by have := h.lt; omega) h.same
theorem Part.uniq {x y p q : Nat} (h : Part x y p) (k : Part x y q) : p = q := by
  have a := (h.iff (q := q) (by have := k.lt; omega)).mp k.same
  have b := (k.iff (q := p) (by have := h.lt; omega)).mp h.same
  omega
theorem Part.ne {x y p : Nat} (h : Part x y p) : x ≠ y := fun e => h.diff (by rw [e])

/-! ### trees -/
structure Lf (ν : Type) where
  n : ν
  k : Nat
  ws : List Int
  ns : List Int
inductive Tr (ν : Type) where
  | leaf (l : Lf ν)
  | br (l r : Tr ν)
variable {ν : Type}
def Tr.lvs : Tr ν → List (Lf ν)
  | .leaf l => [l]
  | .br l r => l.lvs ++ r.lvs
def Tr.lo : Tr ν → Lf ν
  | .leaf l => l
  | .br l _ => l.lo
def Tr.hi : Tr ν → Lf ν
  | .leaf l => l
  | .br _ r => r.hi
def Tr.dep : Tr ν → Nat
  | .leaf _ => 0
  | .br l r => max l.dep r.dep + 1
/-- all keys begin with c, p bits long -/
def Pre (t : Tr ν) (p c : Nat) : Prop := ∀ x ∈ t.lvs, sh x.k p = c
/-- the tree of its leaves; N: what a leaf must be -/
inductive Wf (N : Lf ν → Prop) : Tr ν → Prop
  | leaf {l : Lf ν} : N l → Wf N (.leaf l)
  | br {l r : Tr ν} (p c : Nat) : p < 48 → Pre l (p + 1) (2 * c) → Pre r (p + 1) (2 * c + 1) → Wf N l → Wf N r → Wf N (.br l r)
theorem lo_mem : ∀ t : Tr ν, t.lo ∈ t.lvs
  | .leaf l => List.mem_singleton.mpr rfl
  | .br l r => List.mem_append_left _ (lo_mem l)
theorem hi_mem : ∀ t : Tr ν, t.hi ∈ t.lvs
  | .leaf l => List.mem_singleton.mpr rfl
  | .br l r => List.mem_append_right _ (hi_mem r)
section
variable {N : Lf ν → Prop} {t l r : Tr ν} {p c k : Nat}
theorem Wf.all (h : Wf N t) : ∀ x ∈ t.lvs, N x := by
  induction h with
  | leaf h =>
    intro x hx
    rw [List.mem_singleton.mp hx]
    exact h
  | br p c _ _ _ _ _ ih1 ih2 =>
    intro x hx
    rcases List.mem_append.mp hx with hx | hx
    · exact ih1 x hx
    · exact ih2 x hx
theorem Wf.mono {M : Lf ν → Prop} (h : Wf N t) (q : ∀ x, N x → M x) : Wf M t := by
  induction h with
  | leaf h => exact .leaf (q _ h)
  | br p c a b d _ _ ih1 ih2 => exact .br p c a b d ih1 ih2
theorem bt_of {x p c b : Nat} (hp : p < 48) (h : sh x (p + 1) = 2 * c + b) (hb : b < 2) : sh x p = c ∧ bt x p = b := by
  rw [sh_succ hp] at h
  have := bt_lt x p
  omega
theorem sh_of {x p c b : Nat} (hp : p < 48) (h1 : sh x p = c) (h2 : bt x p = b) : sh x (p + 1) = 2 * c + b := by
  rw [sh_succ hp]
  omega
/-- the branch's place -/
theorem br_part (hp : p < 48) (hl : Pre l (p + 1) (2 * c)) (hr : Pre r (p + 1) (2 * c + 1)) {x y : Lf ν} (hx : x ∈ l.lvs) (hy : y ∈ r.lvs) : Part x.k y.k p := by
  obtain ⟨a1, a2⟩ := bt_of (b := 0) hp (hl x hx) (by decide)
  obtain ⟨b1, b2⟩ := bt_of (b := 1) hp (hr y hy) (by decide)
  exact ⟨hp, a1.trans b1.symm, by omega⟩
theorem br_pre (hp : p < 48) (hl : Pre l (p + 1) (2 * c)) (hr : Pre r (p + 1) (2 * c + 1)) : Pre (.br l r) p c := by
  intro x hx
  rcases List.mem_append.mp hx with hx | hx
  · exact (bt_of (b := 0) hp (hl x hx) (by decide)).1
  · exact (bt_of (b := 1) hp (hr x hx) (by decide)).1
theorem dep_pre {q d : Nat} (h : Wf N t) : q ≤ 48 → Pre t q d → t.dep + q ≤ 48 := by
  induction h generalizing q d with
  | leaf _ =>
    intro hq _
    show 0 + q ≤ 48
    omega
  | br p c hp hl hr _ _ ih1 ih2 =>
    rename_i l r _ _
    intro hq hd
    have pt := br_part hp hl hr (lo_mem l) (lo_mem r)
    have e : sh l.lo.k q = sh r.lo.k q := by
      rw [hd _ (List.mem_append_left _ (lo_mem l)), hd _ (List.mem_append_right _ (lo_mem r))]
    have hqp := (pt.iff hq).mp e
    have a := ih1 (q := p + 1) (by omega) hl
    have b := ih2 (q := p + 1) (by omega) hr
    show max l.dep r.dep + 1 + q ≤ 48
    omega
theorem Wf.dep (h : Wf N t) (hk : ∀ x, N x → x.k < 2 ^ 48) : t.dep ≤ 48 := by
  have q := dep_pre (q := 0) (d := 0) h (by decide) fun x hx => by
    have := hk x (h.all x hx)
    show x.k / 2 ^ 48 = 0
    exact Nat.div_eq_of_lt this
  omega
/-- least and greatest -/
theorem Wf.between (h : Wf N t) : ∀ x ∈ t.lvs, t.lo.k ≤ x.k ∧ x.k ≤ t.hi.k := by
  induction h with
  | leaf _ =>
    intro x hx
    rw [List.mem_singleton.mp hx]
    exact ⟨Nat.le_refl _, Nat.le_refl _⟩
  | br p c hp hl hr _ _ ih1 ih2 =>
    rename_i l r _ _
    have lt : ∀ x ∈ l.lvs, ∀ y ∈ r.lvs, x.k < y.k := fun x hx y hy => by
      by_cases c : x.k < y.k
      · exact c
      · have := sh_mono (q := p + 1) (show y.k ≤ x.k by omega)
        rw [hl x hx, hr y hy] at this
        omega
    intro x hx
    show l.lo.k ≤ x.k ∧ x.k ≤ r.hi.k
    rcases List.mem_append.mp hx with hx | hx
    · exact ⟨(ih1 x hx).1, Nat.le_of_lt (lt x hx _ (hi_mem r))⟩
    · exact ⟨Nat.le_of_lt (lt _ (lo_mem l) x hx), (ih2 x hx).2⟩
theorem Wf.nodup (h : Wf N t) : t.lvs.Pairwise fun x y => x.k ≠ y.k := by
  induction h with
  | leaf _ => exact List.pairwise_singleton _ _
  | br p c hp hl hr _ _ ih1 ih2 =>
    exact List.pairwise_append.mpr ⟨ih1, ih2, fun x hx y hy => (br_part hp hl hr hx hy).ne⟩
/-- a key that goes another way is not there -/
theorem not_in (h : Pre t p c) (hk : sh k p ≠ c) : ∀ x ∈ t.lvs, x.k ≠ k := fun x hx e => hk (by rw [← e]; exact h x hx)
theorem filt_out {l : List (Lf ν)} (h : ∀ x ∈ l, x.k ≠ k) : l.filter (fun x => decide (x.k ≠ k)) = l := List.filter_eq_self.mpr fun x hx => decide_eq_true (h x hx)
end

/-! ### put -/
section
variable {N : Lf ν → Prop} {t l r : Tr ν} {p c : Nat} {L : Lf ν}
/-- what putting a leaf gives -/
structure Put (N : Lf ν → Prop) (t : Tr ν) (L : Lf ν) (t' : Tr ν) : Prop where
  wf : Wf N t'
  lvs : t'.lvs.Perm (L :: t.lvs.filter fun x => decide (x.k ≠ L.k))
theorem Put.pre {q d : Nat} {t' : Tr ν} (h : Put N t L t') (ht : Pre t q d) (hL : sh L.k q = d) : Pre t' q d := fun x hx => by
  have m := h.lvs.mem_iff.mp hx
  rcases List.mem_cons.mp m with e | m
  · rw [e]
    exact hL
  · exact ht x (List.mem_filter.mp m).1
theorem put_same {l : Lf ν} (hL : N L) (e : l.k = L.k) : Put N (.leaf l) L (.leaf L) := ⟨.leaf hL, by
  show [L].Perm (L :: [l].filter fun x => decide (x.k ≠ L.k))
  rw [List.filter_cons, if_neg (by simp [e])]
  exact List.Perm.refl _⟩
/-- beside: no key of t is L's, and they part at q -/
theorem put_beside {q : Nat} (hw : Wf N t) (hL : N L) (hq : Part t.lo.k L.k q) (hp : Pre t q (sh L.k q)) (hb : ∀ x ∈ t.lvs, bt x.k q = bt t.lo.k q) : Put N t L (if bt L.k q = 0 then .br (.leaf L) t else .br t (.leaf L)) := by
  have out : ∀ x ∈ t.lvs, x.k ≠ L.k := fun x hx e => by
    have d := hq.diff
    rw [← hb x hx, e] at d
    exact d rfl
  have l1 := bt_lt L.k q
  have l2 := bt_lt t.lo.k q
  have d := hq.diff
  have pL : ∀ b, bt L.k q = b → Pre (.leaf L : Tr ν) (q + 1) (2 * sh L.k q + b) := fun b e x hx => by
    rw [List.mem_singleton.mp hx]
    exact sh_of hq.lt rfl e
  have pt : ∀ b, bt t.lo.k q = b → Pre t (q + 1) (2 * sh L.k q + b) := fun b e x hx => sh_of hq.lt (hp x hx) ((hb x hx).trans e)
  by_cases z : bt L.k q = 0
  · rw [if_pos z]
    refine ⟨.br q (sh L.k q) hq.lt (pL 0 z) (pt 1 (by omega)) (.leaf hL) hw, ?_⟩
    rw [filt_out out]
    exact List.Perm.refl _
  · rw [if_neg z]
    refine ⟨.br q (sh L.k q) hq.lt (pt 0 (by omega)) (pL 1 (by omega)) hw (.leaf hL), ?_⟩
    rw [filt_out out]
    exact List.perm_append_comm
theorem put_left {l' : Tr ν} (hp : p < 48) (hl : Pre l (p + 1) (2 * c)) (hr : Pre r (p + 1) (2 * c + 1)) (wr : Wf N r) (h1 : sh L.k p = c) (h2 : bt L.k p = 0) (h : Put N l L l') : Put N (.br l r) L (.br l' r) := by
  have hL := sh_of hp h1 h2
  refine ⟨.br p c hp (h.pre hl hL) hr h.wf wr, ?_⟩
  show (l'.lvs ++ r.lvs).Perm (L :: (l.lvs ++ r.lvs).filter fun x => decide (x.k ≠ L.k))
  rw [List.filter_append, filt_out (not_in hr (by omega))]
  exact h.lvs.append_right _
theorem put_right {r' : Tr ν} (hp : p < 48) (hl : Pre l (p + 1) (2 * c)) (hr : Pre r (p + 1) (2 * c + 1)) (wl : Wf N l) (h1 : sh L.k p = c) (h2 : bt L.k p = 1) (h : Put N r L r') : Put N (.br l r) L (.br l r') := by
  have hL := sh_of hp h1 h2
  refine ⟨.br p c hp hl (h.pre hr hL) wl h.wf, ?_⟩
  show (l.lvs ++ r'.lvs).Perm (L :: (l.lvs ++ r.lvs).filter fun x => decide (x.k ≠ L.k))
  rw [List.filter_append, filt_out (not_in hl (by omega))]
  exact (h.lvs.append_left _).trans List.perm_middle
/-! ### without -/
structure Wo (N : Lf ν → Prop) (t : Tr ν) (k : Nat) (o : Option (Tr ν)) : Prop where
  wf : ∀ t', o = some t' → Wf N t'
  lvs : ((o.map Tr.lvs).getD []).Perm (t.lvs.filter fun x => decide (x.k ≠ k))
theorem Wo.pre {q d k : Nat} {t' : Tr ν} (h : Wo N t k (some t')) (ht : Pre t q d) : Pre t' q d := fun x hx => ht x (List.mem_filter.mp (h.lvs.mem_iff.mp hx)).1
theorem wo_leaf {l : Lf ν} : Wo N (.leaf l) l.k none := ⟨fun _ h => (nomatch h), by
  show ([] : List (Lf ν)).Perm ([l].filter fun x => decide (x.k ≠ l.k))
  rw [List.filter_cons, if_neg (by simp)]
  exact List.Perm.refl _⟩
theorem wo_left {k : Nat} {o : Option (Tr ν)} (hp : p < 48) (hl : Pre l (p + 1) (2 * c)) (hr : Pre r (p + 1) (2 * c + 1)) (wr : Wf N r) (h1 : sh k p = c) (h2 : bt k p = 0) (h : Wo N l k o) :
    Wo N (.br l r) k (some (match o with | none => r | some l' => .br l' r)) := by
  have hL := sh_of hp h1 h2
  have e : (Tr.br l r).lvs.filter (fun x => decide (x.k ≠ k)) = l.lvs.filter (fun x => decide (x.k ≠ k)) ++ r.lvs := by
    show (l.lvs ++ r.lvs).filter _ = _
    rw [List.filter_append, filt_out (not_in hr (by omega))]
  cases o with
  | none =>
    refine ⟨fun t' e => by cases e; exact wr, ?_⟩
    rw [e]
    have z := h.lvs
    show r.lvs.Perm _
    have z2 : ([] : List (Lf ν)).Perm (l.lvs.filter fun x => decide (x.k ≠ k)) := z
    exact z2.append_right r.lvs
  | some l' =>
    refine ⟨fun t' e => by cases e; exact .br p c hp (h.pre hl) hr (h.wf _ rfl) wr, ?_⟩
    rw [e]
    exact h.lvs.append_right r.lvs
theorem wo_right {k : Nat} {o : Option (Tr ν)} (hp : p < 48) (hl : Pre l (p + 1) (2 * c)) (hr : Pre r (p + 1) (2 * c + 1)) (wl : Wf N l) (h1 : sh k p = c) (h2 : bt k p = 1) (h : Wo N r k o) :
    Wo N (.br l r) k (some (match o with | none => l | some r' => .br l r')) := by
  have hL := sh_of hp h1 h2
  have e : (Tr.br l r).lvs.filter (fun x => decide (x.k ≠ k)) = l.lvs ++ r.lvs.filter (fun x => decide (x.k ≠ k)) := by
    show (l.lvs ++ r.lvs).filter _ = _
    rw [List.filter_append, filt_out (not_in hl (by omega))]
  cases o with
  | none =>
    refine ⟨fun t' e => by cases e; exact wl, ?_⟩
    rw [e]
    have z2 : ([] : List (Lf ν)).Perm (r.lvs.filter fun x => decide (x.k ≠ k)) := h.lvs
    have z3 := z2.append_left l.lvs
    rw [List.append_nil] at z3
    exact z3
  | some r' =>
    refine ⟨fun t' e => by cases e; exact .br p c hp hl (h.pre hr) wl (h.wf _ rfl), ?_⟩
    rw [e]
    exact h.lvs.append_left l.lvs
/-! ### sums -/
def sm (f : Lf ν → Int) (l : List (Lf ν)) : Int := (l.map f).sum
theorem sm_perm {f : Lf ν → Int} {a b : List (Lf ν)} (h : a.Perm b) : sm f a = sm f b := by
  unfold sm
  induction h with
  | nil => rfl
  | cons x _ ih => rw [List.map_cons, List.map_cons, List.sum_cons, List.sum_cons, ih]
  | swap x y l => rw [List.map_cons, List.map_cons, List.map_cons, List.map_cons, List.sum_cons, List.sum_cons, List.sum_cons, List.sum_cons]; omega
  | trans _ _ a b => exact a.trans b
theorem sm_out {f : Lf ν → Int} {k : Nat} : ∀ {l : List (Lf ν)} {x : Lf ν}, (l.Pairwise fun x y => x.k ≠ y.k) → x ∈ l → x.k = k → sm f (l.filter fun y => decide (y.k ≠ k)) + f x = sm f l
  | [], _, _, h, _ => nomatch h
  | y :: l, x, nd, h, e => by
    obtain ⟨n1, n2⟩ := List.pairwise_cons.mp nd
    rcases List.mem_cons.mp h with z | z
    · have out : ∀ u ∈ l, u.k ≠ k := fun u hu q => n1 u hu (by rw [← z, e, q])
      rw [List.filter_cons, if_neg (by simp [← z, e]), filt_out out, z]
      show sm f l + f y = ((y :: l).map f).sum
      rw [List.map_cons, List.sum_cons]
      show sm f l + f y = f y + sm f l
      omega
    · have ne : y.k ≠ k := fun q => n1 x z (by rw [q, e])
      rw [List.filter_cons, if_pos (by simpa using ne)]
      have ih := sm_out (f := f) n2 z e
      show ((y :: _).map f).sum + f x = ((y :: l).map f).sum
      rw [List.map_cons, List.sum_cons, List.map_cons, List.sum_cons]
      show f y + sm f (l.filter fun y => decide (y.k ≠ k)) + f x = f y + sm f l
      omega
theorem Put.sum_old {t' : Tr ν} {x : Lf ν} (h : Put N t L t') (hw : Wf N t) (hx : x ∈ t.lvs) (e : x.k = L.k) (f : Lf ν → Int) : sm f t'.lvs + f x = sm f t.lvs + f L := by
  rw [sm_perm h.lvs]
  have q := sm_out (f := f) hw.nodup hx e
  show (_ :: _ : List Int).sum + f x = _
  rw [List.sum_cons]
  show f L + sm f (t.lvs.filter fun y => decide (y.k ≠ L.k)) + f x = _
  omega
theorem Put.sum_new {t' : Tr ν} (h : Put N t L t') (hx : ∀ x ∈ t.lvs, x.k ≠ L.k) (f : Lf ν → Int) : sm f t'.lvs = sm f t.lvs + f L := by
  rw [sm_perm h.lvs, filt_out hx]
  show (_ :: _ : List Int).sum = _
  rw [List.sum_cons]
  show f L + sm f t.lvs = _
  omega
theorem Wo.sum {k : Nat} {o : Option (Tr ν)} {x : Lf ν} (h : Wo N t k o) (hw : Wf N t) (hx : x ∈ t.lvs) (e : x.k = k) (f : Lf ν → Int) : sm f ((o.map Tr.lvs).getD []) + f x = sm f t.lvs := by
  rw [sm_perm h.lvs]
  exact sm_out hw.nodup hx e
end
end G
end
section
set_option Elab.async false
set_option linter.all false
set_option maxRecDepth 100000
set_option maxHeartbeats 1000000
namespace G
open PySem PySem.Spec PyProof.Rows L2
local macro_rules | `(tactic| walk_at "st") => `(tactic| repeat (first
  | with_reducible refine k_seq ?_
  | with_reducible refine k_asg ?_
  | with_reducible refine k_gn ?_
  | with_reducible refine k_op ?_
  | ((with_reducible refine' k_var ?vh ?_); (case vh => rfl))
  | with_reducible refine k_c ?_
  | with_reducible refine k_cons ?_
  | with_reducible refine k_nil ?_
  | with_reducible refine k_I0 ?_
  | with_reducible refine k_ret ?_
  | with_reducible refine k_if ?_
  | with_reducible refine k_test ?_
  | with_reducible refine k_bl ?_
  | with_reducible refine k_cb ?_
  | with_reducible refine k_cl ?_
  | with_reducible refine k_int ?_
  | with_reducible refine k_tup ?_
  | with_reducible refine k_lst ?_
  | with_reducible refine k_fld ?_
  | with_reducible refine k_mt ?_
  | with_reducible refine k_for ?_
  | with_reducible refine k_iL ?_
  | with_reducible refine k_iT ?_
  | with_reducible refine k_iR1 ?_
  | with_reducible refine k_iS ?_
  | with_reducible refine k_par ?_
  | with_reducible refine k_ex2 ?_
  | with_reducible refine k_rfl2 ?_
  | with_reducible refine k_iZA ?_
  | with_reducible refine k_gcons ?_
  | with_reducible refine k_gnil ?_
  | with_reducible refine k_exI ?_
  | with_reducible refine k_bits ?_
  | with_reducible refine k_chain ?_
  | ((with_reducible refine' k_aug ?vh ?_); (case vh => rfl))
  | with_reducible refine k_ipI ?_
  | with_reducible refine k_inG ?_
  | with_reducible refine k_m1 ?_
  | with_reducible refine kM1.mk ?_
  | with_reducible refine k_yes ?_
  | with_reducible refine k_lc ?_
  | with_reducible refine k_andV ?_
  | with_reducible refine k_orV ?_
  | with_reducible refine k_tB ?_
  | with_reducible refine k_and ?_
  | with_reducible refine k_or ?_
  | with_reducible refine k_not ?_
  | with_reducible refine k_retN ?_
  | with_reducible refine k_next ?_
  | with_reducible refine k_fset ?_
  | with_reducible refine k_faug ?_
  | with_reducible refine k_sl ?_
  | with_reducible refine k_part ?_
  | with_reducible refine k_nopart ?_
  | with_reducible refine k_un ?_
  | with_reducible refine k_u1 ?_
  | with_reducible refine k_dget ?_
  | with_reducible refine k_din ?_
  | with_reducible refine k_dnin ?_
  | with_reducible refine k_dput ?_
  | with_reducible refine k_dget2 ?_
  | with_reducible refine k_bm ?_
  | with_reducible refine k_augs ?_
  | with_reducible refine k_gsub ?_
  | with_reducible refine k_enT ?_
  | with_reducible refine k_anyI ?_
  | with_reducible refine k_allI ?_
  | with_reducible refine k_lenX ?_
  | with_reducible refine k_sortX ?_
  | with_reducible refine k_drop ?_))
local macro_rules | `(tactic| walk_at "go") => `(tactic| ((try dsimp only [cxOf]); walk_at "st"))
local macro_rules | `(tactic| walk_at "len") => `(tactic| (simp only [List.length_append, List.length_map, List.length_cons, List.length_nil, List.length_replicate] at *; omega))

variable {P : Program} {w : World} {K : PySem.W.Frag} {mg : Str → Option Value} {base : Heap}
/-! ### seals -/
def seF (m : Int) : List (Str × V) := [("_modulus", .int m)]
def SeA (K : PySem.W.Frag) (H : Hp) (s : Addr) (m : Int) : Prop := (∃ dx, H s = some (.ins (He.ga K "Sealer") dx (seF m))) ∧ 3 ≤ m ∧ m < 2 ^ 61
theorem SeA.le {H H' : Hp} {s : Addr} {m : Int} (h : SeA K H s m) (e : Le H H') : SeA K H' s m := ⟨let ⟨dx, q⟩ := h.1; ⟨dx, e.get q⟩, h.2⟩
def spMod (K : PySem.W.Frag) : Sp := fun vs H Q _ => ∃ s m, vs = [.ref s] ∧ SeA K H s m ∧ Q (.int m) H
theorem ok_Sealer_modulus (Z : Zed w K mg) : Fn P w K mg base CX0 1 (He.ma K (He.ga K "Sealer") "modulus") (spMod K) := by
  refine Fn.of0 (F_Sealer_modulus Z) sc_Sealer_modulus (fun _ _ _ _ _ _ us hl => match us, hl with | [_], _ => rfl) (fun vs H Q E h => ?_) (fun cdv A outer s H vs Q E hr h => ?_)
  · obtain ⟨s, m, rfl, _⟩ := h
    rfl
  · obtain ⟨s, m, rfl, ⟨⟨dx, h1⟩, h2⟩, k⟩ := h
    refine ⟨_, (pss_one (ps_ret (pe_fld (pv 0) rfl))), ?_⟩
    walk_at "go"
    exact kFld.mk h1 Z.c_Sealer Z.a_Sealer__modulus (by kernel_rfl) k
def spSeal (K : PySem.W.Frag) : Sp := fun vs H Q _ => ∃ (s : Addr) (m : Int) (r : Addr) (ns : List Int), vs = [.ref s, .ref r] ∧ SeA K H s m ∧ SqT K H r (ns.map V.int) ∧ ns.length ≤ 900 ∧ ∀ (z : Int) H', 0 ≤ z → z < m → Le H H' → Q (.int z) H'
theorem ok_Sealer_seal (Z : Zed w K mg) : Fn P w K mg base CX0 1 (He.ma K (He.ga K "Sealer") "seal") (spSeal K) := by
  refine Fn.of0 (F_Sealer_seal Z) sc_Sealer_seal (fun _ _ _ _ _ _ us hl => match us, hl with | [_, _], _ => rfl) (fun vs H Q E h => ?_) (fun cdv A outer s H vs Q E hr h => ?_)
  · obtain ⟨s, m, r, ns, rfl, _⟩ := h
    rfl
  · obtain ⟨s, m, r, ns, rfl, hs, hr1, hn, k⟩ := h
    obtain ⟨⟨dx, h1⟩, h3, h4⟩ := id hs
    refine ⟨_, (pss_cons (ps_set (i := 2) sc_Sealer_seal.nd rfl (Or.inl rfl) pe_int) (pss_cons (ps_for PassesOwn.never rfl (pi_list (pe_op op_cat (pe_callTy cr_list (by rfl) Z.n_list (by decide +kernel) (pa_cons (pv 1) pa_nil)) (pe_lst (pa_cons (pe_callB cr_len (by rfl) Z.n_len PySem.boot_len (pa_cons (pv 1) pa_nil)) pa_nil)))) (pg_name (i := 3) sc_Sealer_seal.nd rfl (Or.inl rfl)) (pss_one (ps_set (i := 2) sc_Sealer_seal.nd rfl (Or.inl rfl) (pe_op op_mod (pe_callTy cr_int (by rfl) Z.n_int (by decide +kernel) (pa_cons (pe_op op_add (pe_op op_add (pe_op op_add (pe_op op_mul (pe_op op_mul (pv 2) (pv 2)) (pv 2)) (pe_op op_mul pe_int (pv 2))) (pe_op op_mul pe_int (pv 3))) pe_int) pa_nil)) (pe_fld (pv 0) rfl))))) (pss_one (ps_ret (pv 2))))), ?_⟩
    walk_at "go"
    refine k_listT hr1 fun p1 H1 e1 n1 g1 => ?_
    walk_at "st"
    refine k_lenT (e1.sqt hr1) ?_
    walk_at "st"
    refine kLst.mk (by show 1 ≤ 1000; decide) fun p2 H2 e2 n2 g2 => ?_
    refine k_cat (e2.lst g1) g2 (by rw [List.length_map, List.length_singleton]; omega) fun p3 H3 e3 n3 g3 => ?_
    refine kIL.mk (SqL.of g3) (kFor.lst (Pv := fun i σ => ∃ z : Int, 0 ≤ z ∧ z < 2 ^ 61 ∧ (i = 0 ∨ z < m) ∧ ∃ v, σ = [some (.ref s), some (.ref r), some (.int z), v]) _ (SqL.of g3) ⟨1, by decide, by decide, .inl rfl, _, rfl⟩
      (fun i x σ H' hx e hz => ?_) fun σ H' e hz => ?_)
    · obtain ⟨z, z0, z1, _, v, rfl⟩ := hz
      obtain ⟨j, rfl⟩ : ∃ j : Int, x = .int j := by
        have hm := List.mem_of_getElem? hx
        rcases List.mem_append.mp hm with q | q
        · obtain ⟨j, _, rfl⟩ := List.mem_map.mp q
          exact ⟨j, rfl⟩
        · rw [List.mem_singleton] at q
          exact ⟨_, q⟩
      walk_at "st"
      refine k_I (.inl ⟨by omega, by omega⟩) ?_
      walk_at "st"
      refine k_I (.inr ⟨by omega, by omega⟩) ?_
      walk_at "st"
      refine k_I (.inl ⟨by decide, by decide⟩) ?_
      walk_at "st"
      refine k_I (.inl ⟨by decide, by decide⟩) ?_
      walk_at "st"
      have hm : 0 < m := by omega
      refine kFld.mk (e.get (e3.get (e2.get (e1.get h1)))) Z.c_Sealer Z.a_Sealer__modulus (by kernel_rfl) (k_I hm ?_)
      walk_at "st"
      exact ⟨e, _, Int.emod_nonneg _ (by omega), Int.lt_trans (Int.emod_lt_of_pos _ hm) h4, .inr (Int.emod_lt_of_pos _ hm), _, rfl⟩
    · obtain ⟨z, z0, _, hz, v, rfl⟩ := hz
      walk_at "st"
      refine k z _ z0 ?_ (((e1.trans e2).trans e3).trans e)
      rcases hz with hz | hz
      · rw [List.length_append] at hz
        exact absurd hz (by simp)
      · exact hz
end G
end
section
set_option Elab.async false
set_option linter.all false
set_option maxRecDepth 100000
set_option maxHeartbeats 1000000
namespace G
open PySem PySem.Spec PyProof.Rows L2
local macro_rules | `(tactic| walk_at "st") => `(tactic| repeat (first
  | with_reducible refine k_seq ?_
  | with_reducible refine k_asg ?_
  | with_reducible refine k_gn ?_
  | with_reducible refine k_op ?_
  | ((with_reducible refine' k_var ?vh ?_); (case vh => rfl))
  | with_reducible refine k_c ?_
  | with_reducible refine k_cons ?_
  | with_reducible refine k_nil ?_
  | with_reducible refine k_I0 ?_
  | with_reducible refine k_ret ?_
  | with_reducible refine k_if ?_
  | with_reducible refine k_test ?_
  | with_reducible refine k_bl ?_
  | with_reducible refine k_cb ?_
  | with_reducible refine k_cl ?_
  | with_reducible refine k_int ?_
  | with_reducible refine k_tup ?_
  | with_reducible refine k_lst ?_
  | with_reducible refine k_fld ?_
  | with_reducible refine k_mt ?_
  | with_reducible refine k_for ?_
  | with_reducible refine k_iL ?_
  | with_reducible refine k_iT ?_
  | with_reducible refine k_iR1 ?_
  | with_reducible refine k_iS ?_
  | with_reducible refine k_par ?_
  | with_reducible refine k_ex2 ?_
  | with_reducible refine k_rfl2 ?_
  | with_reducible refine k_iZA ?_
  | with_reducible refine k_gcons ?_
  | with_reducible refine k_gnil ?_
  | with_reducible refine k_exI ?_
  | with_reducible refine k_bits ?_
  | with_reducible refine k_chain ?_
  | ((with_reducible refine' k_aug ?vh ?_); (case vh => rfl))
  | with_reducible refine k_ipI ?_
  | with_reducible refine k_inG ?_
  | with_reducible refine k_m1 ?_
  | with_reducible refine kM1.mk ?_
  | with_reducible refine k_yes ?_
  | with_reducible refine k_lc ?_
  | with_reducible refine k_andV ?_
  | with_reducible refine k_orV ?_
  | with_reducible refine k_tB ?_
  | with_reducible refine k_and ?_
  | with_reducible refine k_or ?_
  | with_reducible refine k_not ?_
  | with_reducible refine k_retN ?_
  | with_reducible refine k_next ?_
  | with_reducible refine k_fset ?_
  | with_reducible refine k_faug ?_
  | with_reducible refine k_sl ?_
  | with_reducible refine k_part ?_
  | with_reducible refine k_nopart ?_
  | with_reducible refine k_un ?_
  | with_reducible refine k_u1 ?_
  | with_reducible refine k_dget ?_
  | with_reducible refine k_din ?_
  | with_reducible refine k_dnin ?_
  | with_reducible refine k_dput ?_
  | with_reducible refine k_dget2 ?_
  | with_reducible refine k_bm ?_
  | with_reducible refine k_augs ?_
  | with_reducible refine k_gsub ?_
  | with_reducible refine k_enT ?_
  | with_reducible refine k_anyI ?_
  | with_reducible refine k_allI ?_
  | with_reducible refine k_lenX ?_
  | with_reducible refine k_sortX ?_
  | with_reducible refine k_drop ?_))
local macro_rules | `(tactic| walk_at "go") => `(tactic| ((try dsimp only [cxOf]); walk_at "st"))
local macro_rules | `(tactic| walk_at "len") => `(tactic| (simp only [List.length_append, List.length_map, List.length_cons, List.length_nil, List.length_replicate] at *; omega))

variable {P : Program} {w : World} {K : PySem.W.Frag} {mg : Str → Option Value} {base : Heap}
/-! ### names -/
def nmA : List (Str × Nat) := [("mint", 106954869440512), ("bank", 58026451009536), ("a", 52776558133248), ("b_1", 57932666372096), ("ab", 53669911330816), ("z9", 163414915678208), ("0", 4398046511104), ("abcdefgh", 53685199639699)]
def nmG : List (Str × Nat) := [("g0", 79233556676608), ("g1", 79302276153344), ("g2", 79370995630080), ("g3", 79439715106816), ("g4", 79508434583552), ("g5", 79577154060288), ("g6", 79645873537024), ("g7", 79714593013760), ("g8", 79783312490496), ("g9", 79852031967232), ("g10", 79303349895168), ("g11", 79304423636992), ("g12", 79305497378816), ("g13", 79306571120640), ("g14", 79307644862464), ("g15", 79308718604288), ("g16", 79309792346112), ("g17", 79310866087936)]
def nmL : List (Str × Nat) := nmA ++ nmG
def alphaS : Str := "0123456789_abcdefghijklmnopqrstuvwxyz"
def alphaL : List Nat := alphaS.cps.toList
def numF (l : List Nat) : Nat → Int
  | 0 => 0
  | k + 1 => numF l k * 64 + (match l[k]? with | some c => (alphaL.idxOf c : Nat) + 1 | none => 0)
theorem nm_len : ∀ p ∈ nmL, 1 ≤ p.1.length ∧ p.1.length ≤ 8 := by decide +kernel
theorem nm_chars : ∀ p ∈ nmL, ∀ c ∈ p.1.cps.toList, c ∈ alphaL := by decide +kernel
theorem nm_num : ∀ p ∈ nmL, numF p.1.cps.toList 8 = (p.2 : Nat) := by decide +kernel
theorem nm_lt : ∀ p ∈ nmL, p.2 < 2 ^ 48 := by decide +kernel
theorem nm_inj : ∀ p ∈ nmL, ∀ q ∈ nmL, p.2 = q.2 → p.1 = q.1 := by decide +kernel
theorem nm_inj2 : ∀ p ∈ nmL, ∀ q ∈ nmL, p.1 = q.1 → p.2 = q.2 := by decide +kernel
def uOf (x y : Nat) : Int := Builtin.bitXor (x : Nat) (y : Nat)
def pOf (x y : Nat) : Nat := 48 - Builtin.Int.intBits (uOf x y)
theorem nm_part0 : ∀ p ∈ nmL, ∀ q ∈ nmL, p.2 ≠ q.2 → uOf p.2 q.2 ≠ 0 ∧ Builtin.Int.intBits (uOf p.2 q.2) ≤ 48 ∧ pOf p.2 q.2 < 48 ∧ sh p.2 (pOf p.2 q.2) = sh q.2 (pOf p.2 q.2) ∧ bt p.2 (pOf p.2 q.2) ≠ bt q.2 (pOf p.2 q.2) := by decide +kernel
theorem alpha_at : ∀ c ∈ alphaL, (Builtin.Str.occurrences alphaS ⟨#[c]⟩ 0 alphaS.length 1).head? = some (alphaL.idxOf c) := by decide +kernel

/-! is_name -/
def spIsName : Sp := fun vs H Q _ => ∃ (n : Str) (k : Nat), vs = [.str n] ∧ (n, k) ∈ nmL ∧ ∀ H', Le H H' → Q (.bl true) H'
theorem ok_is_name (Z : Zed w K mg) : Fn P w K mg base CX0 1 (He.ga K "is_name") spIsName := by
  refine Fn.of0 (F_is_name Z) sc_is_name (fun _ _ _ _ _ _ us hl => match us, hl with | [_], _ => rfl) (fun vs H Q E h => ?_) (fun cdv A outer s H vs Q E hr h => ?_)
  · obtain ⟨n, k, rfl, _⟩ := h
    rfl
  · obtain ⟨n, k, rfl, hn, q⟩ := h
    obtain ⟨l1, l2⟩ := nm_len _ hn
    have hc := nm_chars _ hn
    dsimp only at l1 l2 hc
    refine ⟨_, (pss_one (ps_ret (pe_and (pe_chain op_le op_le pe_int (pe_callB cr_len (by rfl) Z.n_len PySem.boot_len (pa_cons (pv 0) pa_nil)) (pe_gi Z.i_NAME_LIMIT)) (pe_one (pe_callB (cr_all rfl) (by rfl) Z.n_all (by decide +kernel) (pa_cons (pe_lc (own := [("char", 1)]) rfl sc_is_name.nd (pi_str (pv 0)) (blkOk_by (own := [("char", 1)]) (N := ["value", "char"]) (sc := defScope s_is_name) (by decide +kernel)) (fun _ _ _ _ _ => (pg_name (i := 1) sc_is_name.nd rfl (Or.inl rfl))) (fun _ _ _ _ _ => pts_nil) (fun _ _ _ _ _ => (pe_cmpR op_inG (pv 1) (pe_gz Z.z_ALPHABET) rfl))) pa_nil)))))), ?_⟩
    walk_at "go"
    refine k_lenS (by omega) ?_
    walk_at "st"
    refine k_ifT (decide_eq_true (by omega)) ?_
    walk_at "st"
    refine k_ifT (decide_eq_true (by omega)) ?_
    walk_at "st"
    refine kIS.mk (kLc.go walk_str (show n.cps.size ≤ 100000 by have : n.cps.size ≤ 8 := l2; omega) (fun i acc _ => ∃ k : Nat, acc = (List.replicate k true).map V.bl) (fun _ _ _ _ _ _ z => z) ⟨0, rfl⟩ (fun _ _ => trivial) (fun E Nx i acc x H1 H2 hi e ⟨k, p⟩ y fin _ => ?_) fun p acc H' e _ hp _ ⟨k, hk⟩ => ?_)
    · obtain ⟨rfl, c, hx, rfl⟩ := y
      refine ⟨rfl, ?_⟩
      walk_at "st"
      refine k_ifT rfl ?_
      walk_at "st"
      have m : c ∈ alphaL := hc c (List.mem_of_getElem? (by rw [Array.getElem?_toList]; exact hx))
      have m2 : decide (c ∈ (Str.ofString "0123456789_abcdefghijklmnopqrstuvwxyz").cps.toList) = true := decide_eq_true m
      rw [m2]
      refine fin _ _ Lx.refl ⟨k + 1, ?_⟩
      rw [p, List.replicate_succ', List.map_append]
      rfl
    · walk_at "st"
      rw [hk] at hp
      refine k_all (SqL.of hp) ?_
      have : (List.replicate k true).all id = true := by simp
      rw [this]
      exact q H' e
def spNum : Sp := fun vs H Q _ => ∃ (n : Str) (k : Nat), vs = [.str n] ∧ (n, k) ∈ nmL ∧ Q (.int (k : Nat)) H
theorem ok_number_of (Z : Zed w K mg) : Fn P w K mg base CX0 1 (He.ga K "number_of") spNum := by
  refine Fn.of0 (F_number_of Z) sc_number_of (fun _ _ _ _ _ _ us hl => match us, hl with | [_], _ => rfl) (fun vs H Q E h => ?_) (fun cdv A outer s H vs Q E hr h => ?_)
  · obtain ⟨n, k, rfl, _⟩ := h
    rfl
  · obtain ⟨n, k, rfl, hn, q⟩ := h
    obtain ⟨l1, l2⟩ := nm_len _ hn
    have hc := nm_chars _ hn
    have hk := nm_num _ hn
    dsimp only at l1 l2 hc hk
    refine ⟨_, (pss_cons (ps_set (i := 1) sc_number_of.nd rfl (Or.inl rfl) pe_int) (pss_cons (ps_for PassesOwn.never rfl (pi_range1 (by rfl) Z.n_range (pa_cons (pe_gi Z.i_NAME_LIMIT) pa_nil)) (pg_name (i := 2) sc_number_of.nd rfl (Or.inl rfl)) (pss_cons (ps_set (i := 1) sc_number_of.nd rfl (Or.inl rfl) (pe_op op_mul (pv 1) pe_int)) (pss_one (ps_if (pt_cmpR op_lt (pv 2) (pe_callB cr_len (by rfl) Z.n_len PySem.boot_len (pa_cons (pv 0) pa_nil)) (nomark _)) (pss_one (ps_aug (i := 1) sc_number_of.nd rfl (Or.inl rfl) (pe_op op_add (pe_m1 PySem.F.slot_str_index PySem.F.type_str_index mt_idx (pe_gz Z.z_ALPHABET) (pe_ix ix_str (pv 0) (pv 2) (fun _ _ => rfl))) pe_int) ip_add)) pss_nil)))) (pss_one (ps_ret (pv 1))))), ?_⟩
    walk_at "go"
    refine kR1.mk 8 rfl (by decide) (kFor.rng (Pv := fun i σ H' => H' = H ∧ ∃ v, σ = [some (.str n), some (.int (numF n.cps.toList i)), v]) 8 ⟨rfl, _, rfl⟩ (fun i σ H' hi z => ?_) fun σ H' z => ?_)
    · obtain ⟨rfl, v, rfl⟩ := z
      walk_at "st"
      refine k_I (.inr ⟨by decide, by decide⟩) ?_
      walk_at "st"
      refine k_lenS (by omega) ?_
      walk_at "st"
      refine k_if2 (fun hb => ?_) (fun hb => ?_)
      · have hb := of_decide_eq_true hb
        have hi2 : i < n.cps.toList.length := by
          have e : n.length = n.cps.toList.length := by rw [Array.length_toList]; rfl
          omega
        have hx : n.cps.toList[i]? = some n.cps.toList[i] := List.getElem?_eq_getElem hi2
        walk_at "st"
        refine k_strIx (by omega) (atI_nat hx) ?_
        refine k_idx (alpha_at _ (hc _ (List.getElem_mem hi2))) ?_
        walk_at "st"
        refine ⟨rfl, some (.int (i : Nat)), ?_⟩
        show _ = [some (V.str n), some (V.int (numF n.cps.toList i * 64 + (match n.cps.toList[i]? with | some c => (alphaL.idxOf c : Nat) + 1 | none => 0))), _]
        rw [hx]
        rfl
      · have hb := of_decide_eq_false hb
        walk_at "st"
        refine ⟨rfl, some (.int (i : Nat)), ?_⟩
        have hx : n.cps.toList[i]? = none := List.getElem?_eq_none_iff.mpr (by
          have e : n.length = n.cps.toList.length := by rw [Array.length_toList]; rfl
          omega)
        show _ = [some (V.str n), some (V.int (numF n.cps.toList i * 64 + (match n.cps.toList[i]? with | some c => (alphaL.idxOf c : Nat) + 1 | none => 0))), _]
        rw [hx, Int.add_zero]
        rfl
    · obtain ⟨rfl, v, rfl⟩ := z
      walk_at "st"
      rw [hk]
      exact q
/-! bit_at, parting -/
def spBit : Sp := fun vs H Q _ => ∃ (n : Str) (k p : Nat), vs = [.str n, .int (p : Nat)] ∧ (n, k) ∈ nmL ∧ p < 48 ∧ Q (.int (bt k p : Nat)) H
theorem ok_bit_at (Z : Zed w K mg) : Fn P w K mg base CX0 2 (He.ga K "bit_at") spBit := by
  have O_number_of := ok_number_of (P := P) (base := base) Z
  refine Fn.of0 (F_bit_at Z) sc_bit_at (fun _ _ _ _ _ _ us hl => match us, hl with | [_, _], _ => rfl) (fun vs H Q E h => ?_) (fun cdv A outer s H vs Q E hr h => ?_)
  · obtain ⟨n, k, p, rfl, _⟩ := h
    rfl
  · obtain ⟨n, k, p, rfl, hn, hp, q⟩ := h
    refine ⟨_, (pss_one (ps_ret (pe_op op_mod (pe_callTy cr_int (by rfl) Z.n_int (by decide +kernel) (pa_cons (pe_op op_shr (pe_f O_number_of hr (by decide) Z.g_number_of pass0 (pa_cons (pv 0) pa_nil)) (pe_op op_sub (pe_op op_sub (pe_gi Z.i_PLACES) pe_int) (pv 1))) pa_nil)) pe_int))), ?_⟩
    walk_at "go"
    refine ⟨n, k, rfl, hn, ?_⟩
    walk_at "st"
    refine k_I (by omega) ?_
    walk_at "st"
    refine k_I (by decide) ?_
    have e : ((48 : Int) - 1 - (p : Int)).toNat = 47 - p := by omega
    have e2 : (((k : Int) / 2 ^ ((48 : Int) - 1 - (p : Int)).toNat) % 2) = ((bt k p : Nat) : Int) := by
      rw [e]
      unfold bt
      have e3 : (2 : Int) ^ (47 - p) = ((2 ^ (47 - p) : Nat) : Int) := by rw [Int.natCast_pow]; rfl
      rw [e3]
      rfl
    rw [e2]
    exact q
/-- where two names part -/
theorem nm_part {n m : Str} {x y : Nat} (hn : (n, x) ∈ nmL) (hm : (m, y) ∈ nmL) (h : x ≠ y) : Part x y (pOf x y) ∧ uOf x y ≠ 0 ∧ ((48 : Int) - (Builtin.Int.intBits (uOf x y) : Nat) = ((pOf x y : Nat) : Int)) := by
  obtain ⟨h1, h2, h3, h4, h5⟩ := nm_part0 _ hn _ hm h
  refine ⟨⟨h3, h4, h5⟩, h1, ?_⟩
  unfold pOf
  dsimp only at h2
  omega
def spPart : Sp := fun vs H Q _ => ∃ (n m : Str) (x y : Nat), vs = [.str n, .str m] ∧ (n, x) ∈ nmL ∧ (m, y) ∈ nmL ∧ (x = y → Q .non H) ∧ (∀ p, x ≠ y → Part x y p → Q (.int (p : Nat)) H)
theorem ok_parting (Z : Zed w K mg) : Fn P w K mg base CX0 2 (He.ga K "parting") spPart := by
  have O_number_of := ok_number_of (P := P) (base := base) Z
  refine Fn.of0 (F_parting Z) sc_parting (fun _ _ _ _ _ _ us hl => match us, hl with | [_, _], _ => rfl) (fun vs H Q E h => ?_) (fun cdv A outer s H vs Q E hr h => ?_)
  · obtain ⟨n, m, x, y, rfl, _⟩ := h
    rfl
  · obtain ⟨n, m, x, y, rfl, hn, hm, q1, q2⟩ := h
    refine ⟨_, (pss_cons (ps_set (i := 2) sc_parting.nd rfl (Or.inl rfl) (pe_op op_xor (pe_f O_number_of hr (by decide) Z.g_number_of pass0 (pa_cons (pv 0) pa_nil)) (pe_f O_number_of hr (by decide) Z.g_number_of pass0 (pa_cons (pv 1) pa_nil)))) (pss_cons (ps_if (pt_cmpR op_eq (pv 2) pe_int (nomark _)) (pss_one (ps_ret pe_non)) pss_nil) (pss_one (ps_ret (pe_op op_sub (pe_gi Z.i_PLACES) (pe_bits (pv 2))))))), ?_⟩
    walk_at "go"
    refine ⟨n, x, rfl, hn, ?_⟩
    walk_at "st"
    refine ⟨m, y, rfl, hm, ?_⟩
    walk_at "st"
    refine k_eq rfl ?_
    walk_at "st"
    by_cases e : x = y
    · have z : Builtin.bitXor (x : Int) (y : Int) = 0 := by rw [e]; exact bitXor_self _
      refine k_ifT (decide_eq_true (by rw [z])) ?_
      walk_at "st"
      exact q1 e
    · obtain ⟨h1, h2, h3⟩ := nm_part hn hm e
      refine k_ifF (decide_eq_false (fun z => h2 (V.int.inj z))) ?_
      walk_at "st"
      show Q (V.int ((48 : Int) - (Builtin.Int.intBits (uOf x y) : Nat))) H
      rw [h3]
      exact q2 _ e h1
end G
end
section
set_option Elab.async false
set_option linter.all false
set_option maxRecDepth 100000
set_option maxHeartbeats 1000000
namespace G
open PySem PySem.Spec PyProof.Rows L2
local macro_rules | `(tactic| walk_at "st") => `(tactic| repeat (first
  | with_reducible refine k_seq ?_
  | with_reducible refine k_asg ?_
  | with_reducible refine k_gn ?_
  | with_reducible refine k_op ?_
  | ((with_reducible refine' k_var ?vh ?_); (case vh => rfl))
  | with_reducible refine k_c ?_
  | with_reducible refine k_cons ?_
  | with_reducible refine k_nil ?_
  | with_reducible refine k_I0 ?_
  | with_reducible refine k_ret ?_
  | with_reducible refine k_if ?_
  | with_reducible refine k_test ?_
  | with_reducible refine k_bl ?_
  | with_reducible refine k_cb ?_
  | with_reducible refine k_cl ?_
  | with_reducible refine k_int ?_
  | with_reducible refine k_tup ?_
  | with_reducible refine k_lst ?_
  | with_reducible refine k_fld ?_
  | with_reducible refine k_mt ?_
  | with_reducible refine k_for ?_
  | with_reducible refine k_iL ?_
  | with_reducible refine k_iT ?_
  | with_reducible refine k_iR1 ?_
  | with_reducible refine k_iS ?_
  | with_reducible refine k_par ?_
  | with_reducible refine k_ex2 ?_
  | with_reducible refine k_rfl2 ?_
  | with_reducible refine k_iZA ?_
  | with_reducible refine k_gcons ?_
  | with_reducible refine k_gnil ?_
  | with_reducible refine k_exI ?_
  | with_reducible refine k_bits ?_
  | with_reducible refine k_chain ?_
  | ((with_reducible refine' k_aug ?vh ?_); (case vh => rfl))
  | with_reducible refine k_ipI ?_
  | with_reducible refine k_inG ?_
  | with_reducible refine k_m1 ?_
  | with_reducible refine kM1.mk ?_
  | with_reducible refine k_yes ?_
  | with_reducible refine k_lc ?_
  | with_reducible refine k_andV ?_
  | with_reducible refine k_orV ?_
  | with_reducible refine k_tB ?_
  | with_reducible refine k_and ?_
  | with_reducible refine k_or ?_
  | with_reducible refine k_not ?_
  | with_reducible refine k_retN ?_
  | with_reducible refine k_next ?_
  | with_reducible refine k_fset ?_
  | with_reducible refine k_faug ?_
  | with_reducible refine k_sl ?_
  | with_reducible refine k_part ?_
  | with_reducible refine k_nopart ?_
  | with_reducible refine k_un ?_
  | with_reducible refine k_u1 ?_
  | with_reducible refine k_dget ?_
  | with_reducible refine k_din ?_
  | with_reducible refine k_dnin ?_
  | with_reducible refine k_dput ?_
  | with_reducible refine k_dget2 ?_
  | with_reducible refine k_bm ?_
  | with_reducible refine k_augs ?_
  | with_reducible refine k_gsub ?_
  | with_reducible refine k_enT ?_
  | with_reducible refine k_anyI ?_
  | with_reducible refine k_allI ?_
  | with_reducible refine k_lenX ?_
  | with_reducible refine k_sortX ?_
  | with_reducible refine k_drop ?_))
local macro_rules | `(tactic| walk_at "go") => `(tactic| ((try dsimp only [cxOf]); walk_at "st"))
local macro_rules | `(tactic| walk_at "len") => `(tactic| (simp only [List.length_append, List.length_map, List.length_cons, List.length_nil, List.length_replicate] at *; omega))

variable {P : Program} {w : World} {K : PySem.W.Frag} {mg : Str → Option Value} {base : Heap}
/-! ### trees as data -/
abbrev Leaf := Lf Str
abbrev Tree := Tr Str
def leafD (l : Leaf) : PyData := .tuple [.str "leaf", .str l.n, dI l.ws, dI l.ns]
def trD : Tree → PyData
  | .leaf l => leafD l
  | .br a b => .tuple [.str "branch", trD a, trD b]
def optD : Option Tree → PyData
  | none => .none
  | some t => trD t
/-- what every leaf is -/
def Nm (l : Leaf) : Prop := (l.n, l.k) ∈ nmL ∧ l.ws.length ≤ 3 ∧ l.ns.length ≤ 8
section
variable {S : Addr → Prop} {H H' : Hp} {v u x y : V} {l : Leaf} {a b : Tree}
theorem leaf_inv (h : Is K H v (leafD l)) : ∃ p q r, v = .ref p ∧ SqT K H p [.str "leaf", .str l.n, .ref q, .ref r] ∧ SqT K H q (l.ws.map V.int) ∧ SqT K H r (l.ns.map V.int) := by
  obtain ⟨p, xs, rfl, s, r⟩ := h.tup_inv
  obtain ⟨x1, r1, rfl, i1, r⟩ := r.cons_inv
  obtain ⟨x2, r2, rfl, i2, r⟩ := r.cons_inv
  obtain ⟨x3, r3, rfl, i3, r⟩ := r.cons_inv
  obtain ⟨x4, r4, rfl, i4, r⟩ := r.cons_inv
  obtain rfl := r.nil_inv
  obtain rfl := i1.str_inv
  obtain rfl := i2.str_inv
  obtain ⟨q, rfl, s3⟩ := i3.ints_inv
  obtain ⟨r4, rfl, s4⟩ := i4.ints_inv
  exact ⟨p, q, r4, rfl, s, s3, s4⟩
theorem leaf_mk {p q r : Addr} (s : SqT K H p [.str "leaf", .str l.n, .ref q, .ref r]) (s1 : SqT K H q (l.ws.map V.int)) (s2 : SqT K H r (l.ns.map V.int)) : Is K H (.ref p) (leafD l) :=
  .tup s (.cons (.str _) (.cons (.str _) (.cons (.of_ints s1) (.cons (.of_ints s2) .nil))))
theorem br_inv (h : Is K H v (trD (.br a b))) : ∃ p x y, v = .ref p ∧ SqT K H p [.str "branch", x, y] ∧ Is K H x (trD a) ∧ Is K H y (trD b) := by
  have h2 : Is K H v (.tuple [.str "branch", trD a, trD b]) := by
    have e : trD (.br a b) = .tuple [.str "branch", trD a, trD b] := by rw [trD]
    rw [← e]
    exact h
  obtain ⟨p, xs, rfl, s, r⟩ := h2.tup_inv
  obtain ⟨x1, r1, rfl, i1, r⟩ := r.cons_inv
  obtain ⟨x2, r2, rfl, i2, r⟩ := r.cons_inv
  obtain ⟨x3, r3, rfl, i3, r⟩ := r.cons_inv
  obtain rfl := r.nil_inv
  obtain rfl := i1.str_inv
  exact ⟨p, x2, x3, rfl, s, i2, i3⟩
theorem br_mk {p : Addr} (s : SqT K H p [.str "branch", x, y]) (h1 : Is K H x (trD a)) (h2 : Is K H y (trD b)) : Is K H (.ref p) (trD (.br a b)) := by
  rw [trD]
  exact .tup s (.cons (.str _) (.cons h1 (.cons h2 .nil)))
theorem leaf_tr : trD (.leaf l) = leafD l := by rw [trD]
end
theorem lf_ne_br : decide (V.str "leaf" = V.str "branch") = false := by decide +kernel
theorem br_eq_br : decide (V.str "branch" = V.str "branch") = true := by decide +kernel
theorem lf_eq_lf : decide (V.str "leaf" = V.str "leaf") = true := by decide +kernel
theorem br_ne_lf : decide (V.str "branch" = V.str "leaf") = false := by decide +kernel
theorem br_ne_cut : decide (V.str "branch" = V.str "cut") = false := by decide +kernel
theorem lf_ne_cut : decide (V.str "leaf" = V.str "cut") = false := by decide +kernel
/-! ### least_of, greatest_of -/
def spLeast (K : PySem.W.Frag) : Sp := fun vs H Q _ => ∃ (v : V) (t : Tree), vs = [v] ∧ Is K H v (trD t) ∧ Q (.str t.lo.n) H
theorem ok_least_of (Z : Zed w K mg) : Fn P w K mg base CX0 1 (He.ga K "least_of") (spLeast K) := by
  refine Fn.of0 (F_least_of Z) sc_least_of (fun _ _ _ _ _ _ us hl => match us, hl with | [_], _ => rfl) (fun vs H Q E h => ?_) (fun cdv A outer s H vs Q E hr h => ?_)
  · obtain ⟨v, t, rfl, _⟩ := h
    rfl
  · obtain ⟨v, t, rfl, ht, q⟩ := h
    refine ⟨_, (pss_cons (ps_while PassesOwn.never (pt_cmpR op_eq (pe_ix ix_tup (pv 0) pe_int (fun _ _ => rfl)) pe_str (nomark _)) (pss_one (ps_set (i := 0) sc_least_of.nd rfl (Or.inl rfl) (pe_ix ix_tup (pv 0) pe_int (fun _ _ => rfl))))) (pss_cons (ps_if (pt_cmpR op_eq (pe_ix ix_tup (pv 0) pe_int (fun _ _ => rfl)) pe_str (nomark _)) (pss_one (ps_ret (pe_ix ix_tup (pv 0) pe_int (fun _ _ => rfl)))) pss_nil) (pss_one (ps_ret (pe_ix ix_tup (pe_ix ix_tup (pv 0) pe_int (fun _ _ => rfl)) pe_int (fun _ _ => rfl)))))), ?_⟩
    walk_at "go"
    refine k_while (fun m σ H' => H' = H ∧ ∃ v' t', σ = [some v'] ∧ Is K H v' (trD t') ∧ t'.lo = t.lo ∧ m = t'.dep) t.dep ⟨rfl, v, t, rfl, ht, rfl, rfl⟩ (fun m σ H' h => ?_)
    obtain ⟨rfl, v', t', rfl, i', e, rfl⟩ := h
    cases t' with
    | leaf l =>
      rw [leaf_tr] at i'
      obtain ⟨p, q1, r1, rfl, s1, _, _⟩ := leaf_inv i'
      walk_at "st"
      refine k_ixT s1 rfl ?_
      walk_at "st"
      refine k_eq rfl ?_
      walk_at "st"
      refine kWh.no lf_ne_br ?_
      walk_at "st"
      refine k_ixT s1 rfl ?_
      walk_at "st"
      refine k_eq rfl ?_
      walk_at "st"
      refine k_ifT lf_eq_lf ?_
      walk_at "st"
      refine k_ixT s1 rfl ?_
      walk_at "st"
      have e2 : l = t.lo := e
      rw [← e2] at q
      exact q
    | br a b =>
      obtain ⟨p, x, y, rfl, s1, i1, i2⟩ := br_inv i'
      walk_at "st"
      refine k_ixT s1 rfl ?_
      walk_at "st"
      refine k_eq rfl ?_
      walk_at "st"
      refine kWh.yes br_eq_br ?_
      walk_at "st"
      refine k_ixT s1 rfl ?_
      walk_at "st"
      exact ⟨a.dep, (by show a.dep < max a.dep b.dep + 1; omega), rfl, x, a, rfl, i1, e, rfl⟩
def spGreatest (K : PySem.W.Frag) : Sp := fun vs H Q _ => ∃ (v : V) (t : Tree), vs = [v] ∧ Is K H v (trD t) ∧ Q (.str t.hi.n) H
theorem ok_greatest_of (Z : Zed w K mg) : Fn P w K mg base CX0 1 (He.ga K "greatest_of") (spGreatest K) := by
  refine Fn.of0 (F_greatest_of Z) sc_greatest_of (fun _ _ _ _ _ _ us hl => match us, hl with | [_], _ => rfl) (fun vs H Q E h => ?_) (fun cdv A outer s H vs Q E hr h => ?_)
  · obtain ⟨v, t, rfl, _⟩ := h
    rfl
  · obtain ⟨v, t, rfl, ht, q⟩ := h
    refine ⟨_, (pss_cons (ps_while PassesOwn.never (pt_cmpR op_eq (pe_ix ix_tup (pv 0) pe_int (fun _ _ => rfl)) pe_str (nomark _)) (pss_one (ps_set (i := 0) sc_greatest_of.nd rfl (Or.inl rfl) (pe_ix ix_tup (pv 0) pe_int (fun _ _ => rfl))))) (pss_cons (ps_if (pt_cmpR op_eq (pe_ix ix_tup (pv 0) pe_int (fun _ _ => rfl)) pe_str (nomark _)) (pss_one (ps_ret (pe_ix ix_tup (pv 0) pe_int (fun _ _ => rfl)))) pss_nil) (pss_one (ps_ret (pe_ix ix_tup (pe_ix ix_tup (pv 0) pe_int (fun _ _ => rfl)) pe_int (fun _ _ => rfl)))))), ?_⟩
    walk_at "go"
    refine k_while (fun m σ H' => H' = H ∧ ∃ v' t', σ = [some v'] ∧ Is K H v' (trD t') ∧ t'.hi = t.hi ∧ m = t'.dep) t.dep ⟨rfl, v, t, rfl, ht, rfl, rfl⟩ (fun m σ H' h => ?_)
    obtain ⟨rfl, v', t', rfl, i', e, rfl⟩ := h
    cases t' with
    | leaf l =>
      rw [leaf_tr] at i'
      obtain ⟨p, q1, r1, rfl, s1, _, _⟩ := leaf_inv i'
      walk_at "st"
      refine k_ixT s1 rfl ?_
      walk_at "st"
      refine k_eq rfl ?_
      walk_at "st"
      refine kWh.no lf_ne_br ?_
      walk_at "st"
      refine k_ixT s1 rfl ?_
      walk_at "st"
      refine k_eq rfl ?_
      walk_at "st"
      refine k_ifT lf_eq_lf ?_
      walk_at "st"
      refine k_ixT s1 rfl ?_
      walk_at "st"
      have e2 : l = t.hi := e
      rw [← e2] at q
      exact q
    | br a b =>
      obtain ⟨p, x, y, rfl, s1, i1, i2⟩ := br_inv i'
      walk_at "st"
      refine k_ixT s1 rfl ?_
      walk_at "st"
      refine k_eq rfl ?_
      walk_at "st"
      refine kWh.yes br_eq_br ?_
      walk_at "st"
      refine k_ixT s1 rfl ?_
      walk_at "st"
      exact ⟨b.dep, (by show b.dep < max a.dep b.dep + 1; omega), rfl, y, b, rfl, i2, e, rfl⟩
/-! ### rows and summaries -/
/-- a new tuple of at most n ints -/
def QInts (K : PySem.W.Frag) (n : Nat) (H : Hp) (Q : VK) : Prop := ∀ (r : Addr) (ns : List Int) H', Le H H' → SqT K H' r (ns.map V.int) → ns.length ≤ n → Q (.ref r) H'
def spLeafRow (K : PySem.W.Frag) : Sp := fun vs H Q _ => ∃ (v : V) (l : Leaf), vs = [v] ∧ Is K H v (leafD l) ∧ Nm l ∧ QInts K 20 H Q
theorem ok_leaf_row (Z : Zed w K mg) : Fn P w K mg base CX0 2 (He.ga K "leaf_row") (spLeafRow K) := by
  have O_number_of := ok_number_of (P := P) (base := base) Z
  refine Fn.of0 (F_leaf_row Z) sc_leaf_row (fun _ _ _ _ _ _ us hl => match us, hl with | [_], _ => rfl) (fun vs H Q E h => ?_) (fun cdv A outer s H vs Q E hr h => ?_)
  · obtain ⟨v, t, rfl, _⟩ := h
    rfl
  · obtain ⟨v, l, rfl, hl, ⟨hn, hw, hs⟩, q⟩ := h
    obtain ⟨p, p1, p2, rfl, s0, s1, s2⟩ := leaf_inv hl
    refine ⟨_, (pss_one (ps_ret (pe_op op_catA (pe_op op_catA (pe_tup (pa_cons pe_int (pa_cons (pe_f O_number_of hr (by decide) Z.g_number_of pass0 (pa_cons (pe_ix ix_tup (pv 0) pe_int (fun _ _ => rfl)) pa_nil)) (pa_cons (pe_callB cr_len (by rfl) Z.n_len PySem.boot_len (pa_cons (pe_ix ix_tup (pv 0) pe_int (fun _ _ => rfl)) pa_nil)) pa_nil)))) (pe_ix ix_tup (pv 0) pe_int (fun _ _ => rfl))) (pe_ix ix_tup (pv 0) pe_int (fun _ _ => rfl))))), ?_⟩
    walk_at "go"
    refine k_ixT s0 rfl ?_
    walk_at "st"
    refine ⟨l.n, l.k, rfl, hn, ?_⟩
    walk_at "st"
    refine k_ixT s0 rfl ?_
    walk_at "st"
    refine k_lenT s1 ?_
    walk_at "st"
    refine kTup.mk (by show 3 ≤ 1000; decide) fun t1 H1 e1 n1 g1 => ?_
    walk_at "st"
    refine k_ixT (e1.sqt s0) rfl ?_
    walk_at "st"
    refine k_catA (SqT.of g1) (e1.sqt s1) (by rw [List.length_map]; show 3 + _ ≤ 1000; omega) fun t2 H2 e2 g2 => ?_
    walk_at "st"
    refine k_ixT (e2.sqt (e1.sqt s0)) rfl ?_
    walk_at "st"
    refine k_catA g2 (e2.sqt (e1.sqt s2)) (by rw [List.length_append, List.length_map, List.length_map]; show 3 + _ + _ ≤ 1000; omega) fun t3 H3 e3 g3 => ?_
    have e : [V.int 0, V.int ↑l.k, V.int ↑(l.ws.map V.int).length] ++ l.ws.map V.int ++ l.ns.map V.int = (([0, (l.k : Int), ((l.ws.map V.int).length : Nat)] : List Int) ++ l.ws ++ l.ns).map V.int := by
      rw [List.map_append, List.map_append]
      rfl
    rw [e] at g3
    exact q t3 _ H3 ((e1.trans e2).trans e3) g3 (by rw [List.length_append, List.length_append]; show 3 + _ + _ ≤ 20; omega)
/-- a summary -/
def SmD (K : PySem.W.Frag) (H : Hp) (v : V) : Prop := ∃ (p q : Addr) (se ct : Int) (ss : List Int) (lo hi : Str) (kl kh : Nat), v = .ref p ∧ SqT K H p [.int se, .int ct, .ref q, .str lo, .str hi] ∧ SqT K H q (ss.map V.int) ∧ ss.length ≤ 3 ∧ (lo, kl) ∈ nmL ∧ (hi, kh) ∈ nmL
theorem SmD.lx {S : Addr → Prop} {H H' : Hp} {v : V} (h : SmD K H v) (e : Lx S H H') : SmD K H' v := by
  obtain ⟨p, q, se, ct, ss, lo, hi, kl, kh, rfl, h1, h2, h3⟩ := h
  exact ⟨p, q, se, ct, ss, lo, hi, kl, kh, rfl, e.sqt h1, e.sqt h2, h3⟩
def spSumNum (K : PySem.W.Frag) : Sp := fun vs H Q _ => ∃ v, vs = [v] ∧ SmD K H v ∧ QInts K 7 H Q
theorem ok_summary_numbers (Z : Zed w K mg) : Fn P w K mg base CX0 2 (He.ga K "summary_numbers") (spSumNum K) := by
  have O_number_of := ok_number_of (P := P) (base := base) Z
  refine Fn.of0 (F_summary_numbers Z) sc_summary_numbers (fun _ _ _ _ _ _ us hl => match us, hl with | [_], _ => rfl) (fun vs H Q E h => ?_) (fun cdv A outer s H vs Q E hr h => ?_)
  · obtain ⟨v, rfl, _⟩ := h
    rfl
  · obtain ⟨v, rfl, ⟨p, q', se, ct, ss, lo, hi, kl, kh, rfl, s0, s1, hl, n1, n2⟩, q⟩ := h
    refine ⟨_, (pss_cons (ps_asg (pv 0) (pg_tup rfl (pgs_cons (pg_name (i := 1) sc_summary_numbers.nd rfl (Or.inl rfl)) (pgs_cons (pg_name (i := 2) sc_summary_numbers.nd rfl (Or.inl rfl)) (pgs_cons (pg_name (i := 3) sc_summary_numbers.nd rfl (Or.inl rfl)) (pgs_cons (pg_name (i := 4) sc_summary_numbers.nd rfl (Or.inl rfl)) (pgs_cons (pg_name (i := 5) sc_summary_numbers.nd rfl (Or.inl rfl)) pgs_nil))))))) (pss_one (ps_ret (pe_op op_catA (pe_op op_catA (pe_tup (pa_cons (pv 1) (pa_cons (pv 2) pa_nil))) (pv 3)) (pe_tup (pa_cons (pe_f O_number_of hr (by decide) Z.g_number_of pass0 (pa_cons (pv 4) pa_nil)) (pa_cons (pe_f O_number_of hr (by decide) Z.g_number_of pass0 (pa_cons (pv 5) pa_nil)) pa_nil))))))), ?_⟩
    walk_at "go"
    refine k_gtup s0 rfl ?_
    walk_at "st"
    refine kTup.mk (by show 2 ≤ 1000; decide) fun t1 H1 e1 _ g1 => ?_
    walk_at "st"
    refine k_catA (SqT.of g1) (e1.sqt s1) (by walk_at "len") fun t2 H2 e2 g2 => ?_
    walk_at "st"
    refine ⟨lo, kl, rfl, n1, ?_⟩
    walk_at "st"
    refine ⟨hi, kh, rfl, n2, ?_⟩
    walk_at "st"
    refine kTup.mk (by show 2 ≤ 1000; decide) fun t3 H3 e3 _ g3 => ?_
    refine k_catA (e3.sqt g2) (SqT.of g3) (by rw [List.length_append, List.length_map]; show 2 + _ + 2 ≤ 1000; omega) fun t4 H4 e4 g4 => ?_
    have e : [V.int se, V.int ct] ++ ss.map V.int ++ [V.int ↑kl, V.int ↑kh] = (([se, ct] : List Int) ++ ss ++ [(kl : Int), (kh : Int)]).map V.int := by
      rw [List.map_append, List.map_append]
      rfl
    rw [e] at g4
    exact q t4 _ H4 (((e1.trans e2).trans e3).trans e4) g4 (by rw [List.length_append, List.length_append]; show 2 + _ + 2 ≤ 7; omega)
def spBranchRow (K : PySem.W.Frag) : Sp := fun vs H Q _ => ∃ v u, vs = [v, u] ∧ SmD K H v ∧ SmD K H u ∧ QInts K 16 H Q
theorem ok_branch_row (Z : Zed w K mg) : Fn P w K mg base CX0 3 (He.ga K "branch_row") (spBranchRow K) := by
  have O_summary_numbers := ok_summary_numbers (P := P) (base := base) Z
  refine Fn.of0 (F_branch_row Z) sc_branch_row (fun _ _ _ _ _ _ us hl => match us, hl with | [_, _], _ => rfl) (fun vs H Q E h => ?_) (fun cdv A outer s H vs Q E hr h => ?_)
  · obtain ⟨v, u, rfl, _⟩ := h
    rfl
  · obtain ⟨v, u, rfl, h1, h2, q⟩ := h
    obtain ⟨p, p', se, ct, ss, lo, hi, kl, kh, rfl, s0, s1, hl, n1, n2⟩ := id h1
    refine ⟨_, (pss_one (ps_ret (pe_op op_catA (pe_op op_catA (pe_tup (pa_cons pe_int (pa_cons (pe_callB cr_len (by rfl) Z.n_len PySem.boot_len (pa_cons (pe_ix ix_tup (pv 0) pe_int (fun _ _ => rfl)) pa_nil)) pa_nil))) (pe_f O_summary_numbers hr (by decide) Z.g_summary_numbers pass0 (pa_cons (pv 0) pa_nil))) (pe_f O_summary_numbers hr (by decide) Z.g_summary_numbers pass0 (pa_cons (pv 1) pa_nil))))), ?_⟩
    walk_at "go"
    refine k_ixT s0 rfl ?_
    walk_at "st"
    refine k_lenT s1 ?_
    walk_at "st"
    refine kTup.mk (by show 2 ≤ 1000; decide) fun t1 H1 e1 _ g1 => ?_
    walk_at "st"
    refine ⟨_, rfl, h1.lx e1, fun r2 ns2 H2 e2 g2 l2 => ?_⟩
    walk_at "st"
    refine k_catA (e2.sqt (SqT.of g1)) g2 (by walk_at "len") fun t3 H3 e3 g3 => ?_
    walk_at "st"
    refine ⟨_, rfl, ((h2.lx e1).lx e2).lx e3, fun r4 ns4 H4 e4 g4 l4 => ?_⟩
    refine k_catA (e4.sqt g3) g4 (by walk_at "len") fun t5 H5 e5 g5 => ?_
    have e : [V.int 1, V.int ↑(ss.map V.int).length] ++ ns2.map V.int ++ ns4.map V.int = (([1, (((ss.map V.int).length : Nat) : Int)] : List Int) ++ ns2 ++ ns4).map V.int := by
      rw [List.map_append, List.map_append]
      rfl
    rw [e] at g5
    exact q t5 _ H5 ((((e1.trans e2).trans e3).trans e4).trans e5) g5 (by walk_at "len")
def spBranchSum (K : PySem.W.Frag) : Sp := fun vs H Q _ => ∃ s m v u, vs = [.ref s, v, u] ∧ SeA K H s m ∧ SmD K H v ∧ SmD K H u ∧ ∀ r H', Le H H' → SmD K H' r → Q r H'
theorem ok_branch_summary (Z : Zed w K mg) : Fn P w K mg base CX0 4 (He.ga K "branch_summary") (spBranchSum K) := by
  have O_Sealer_seal := ok_Sealer_seal (P := P) (base := base) Z
  have O_branch_row := ok_branch_row (P := P) (base := base) Z
  refine Fn.of0 (F_branch_summary Z) sc_branch_summary (fun _ _ _ _ _ _ us hl => match us, hl with | [_, _, _], _ => rfl) (fun vs H Q E h => ?_) (fun cdv A outer s H vs Q E hr h => ?_)
  · obtain ⟨s, m, v, u, rfl, _⟩ := h
    rfl
  · obtain ⟨s, m, v, u, rfl, hs, h1, h2, q⟩ := h
    obtain ⟨p, p', se, ct, ss, lo, hi, kl, kh, rfl, s0, s1, hl, n1, n2⟩ := id h1
    obtain ⟨p2, p2', se2, ct2, ss2, lo2, hi2, kl2, kh2, rfl, s02, s12, hl2, n12, n22⟩ := id h2
    refine ⟨_, (pss_cons (ps_set (i := 3) sc_branch_summary.nd rfl (Or.inl rfl) (pe_callTy cr_tuple (by rfl) Z.n_tuple (by decide +kernel) (pa_cons (pe_lc (own := [("one", 4), ("other", 5)]) (g := gTup K 2 (gCons (gName 4) (gCons (gName 5) gNil))) rfl sc_branch_summary.nd (RZ.pi_zipA (by rfl) Z.n_zip (pa_cons (pe_ix ix_tup (pv 1) pe_int (fun _ _ => rfl)) (pa_cons (pe_ix ix_tup (pv 2) pe_int (fun _ _ => rfl)) pa_nil))) (blkOk_by (own := [("one", 4), ("other", 5)]) (N := ["sealer", "left", "right", "sums", "one", "other"]) (sc := defScope s_branch_summary) (by decide +kernel)) (fun _ _ _ _ _ => (pg_tup (by rfl) (pgs_cons (pg_name (i := 4) sc_branch_summary.nd rfl (Or.inl rfl)) (pgs_cons (pg_name (i := 5) sc_branch_summary.nd rfl (Or.inl rfl)) pgs_nil)))) (fun _ _ _ _ _ => pts_nil) (fun _ _ _ _ _ => (pe_op op_add (pv 4) (pv 5)))) pa_nil))) (pss_one (ps_ret (pe_tup (pa_cons (pe_m Z.c_Sealer Z.t_Sealer_seal O_Sealer_seal hr (by decide) pass0 (pv 0) (pa_cons (pe_f O_branch_row hr (by decide) Z.g_branch_row pass0 (pa_cons (pv 1) (pa_cons (pv 2) pa_nil))) pa_nil)) (pa_cons (pe_op op_add (pe_ix ix_tup (pv 1) pe_int (fun _ _ => rfl)) (pe_ix ix_tup (pv 2) pe_int (fun _ _ => rfl))) (pa_cons (pv 3) (pa_cons (pe_ix ix_tup (pv 1) pe_int (fun _ _ => rfl)) (pa_cons (pe_ix ix_tup (pv 2) pe_int (fun _ _ => rfl)) pa_nil))))))))), ?_⟩
    walk_at "go"
    refine k_ixT s0 rfl ?_
    walk_at "st"
    refine k_ixT s02 rfl ?_
    walk_at "st"
    refine kZA.mk s1 s12 (kLc.go walk_zipT (Nat.le_trans (Nat.min_le_left _ _) (by walk_at "len")) (fun i acc _ => ∃ zs : List Int, acc = zs.map V.int) (fun _ _ _ _ _ _ z => z) ⟨[], rfl⟩ (fun _ e => ⟨e.sqt s1, e.sqt s12⟩)
      (fun E Nx i acc x H1 H2 hi e ⟨zs, p⟩ y fin _ => ?_) fun t0 acc H' e _ hp hl ⟨zs, hz⟩ => ?_)
    · obtain ⟨T, u1, u2, rfl, hT, rfl, y1, y2⟩ := y
      dsimp only at y1 y2
      rw [List.getElem?_map] at y1 y2
      obtain ⟨z1, _, rfl⟩ := Option.map_eq_some_iff.mp y1
      obtain ⟨z2, _, rfl⟩ := Option.map_eq_some_iff.mp y2
      refine k_gtup (SqT.of upd_same) rfl ?_
      walk_at "st"
      refine ⟨rfl, ?_⟩
      walk_at "st"
      refine k_ifT rfl ?_
      walk_at "st"
      exact fin _ _ (Le.new hT) ⟨zs ++ [z1 + z2], by rw [p, List.map_append]; rfl⟩
    · walk_at "st"
      rw [hz] at hp hl
      have hl2 : zs.length ≤ 3 := by
        have := Nat.min_le_left (ss.map V.int).length (ss2.map V.int).length
        walk_at "len"
      refine k_tupleL (SqL.of hp) fun t1 H2 e2 _ g2 => ?_
      walk_at "st"
      have a1 := e.trans e2
      refine kMt.mk (a1.get hs.1.choose_spec) (by kernel_rfl) ?_
      walk_at "st"
      refine ⟨_, _, rfl, h1.lx a1, h2.lx a1, fun r ns H3 e3 g3 l3 => ?_⟩
      have a2 := a1.trans e3
      refine ⟨s, m, r, ns, rfl, hs.le a2, g3, by omega, fun z H4 _ _ e4 => ?_⟩
      have a3 := a2.trans e4
      walk_at "st"
      refine k_ixT (a3.sqt s0) rfl ?_
      walk_at "st"
      refine k_ixT (a3.sqt s02) rfl ?_
      walk_at "st"
      refine k_ixT (a3.sqt s0) rfl ?_
      walk_at "st"
      refine k_ixT (a3.sqt s02) rfl ?_
      walk_at "st"
      refine kTup.mk (by walk_at "len") fun t5 H5 e5 _ g5 => ?_
      exact q _ _ (a3.trans e5) ⟨t5, t1, _, _, zs, lo, hi2, kl, kh2, rfl, SqT.of g5, e5.sqt (e4.sqt (e3.sqt (SqT.of g2))), hl2, n1, n22⟩
/-! ### summary_of, root_of -/
theorem sm_leaf {H : Hp} {l : Leaf} {p q : Addr} {z : Int} (hl : Nm l) (h1 : SqT K H p [.int z, .int 1, .ref q, .str l.n, .str l.n]) (h2 : SqT K H q (l.ws.map V.int)) : SmD K H (.ref p) :=
  ⟨p, q, z, 1, l.ws, l.n, l.n, l.k, l.k, rfl, h1, h2, hl.2.1, hl.1, hl.1⟩
def spSummary (K : PySem.W.Frag) (n : Nat) : Sp := fun vs H Q _ => ∃ (s : Addr) (m : Int) (v : V) (t : Tree), vs = [.ref s, v] ∧ SeA K H s m ∧ Is K H v (trD t) ∧ Wf Nm t ∧ t.dep < n ∧ ∀ r H', Le H H' → SmD K H' r → Q r H'
theorem st_summary_of (Z : Zed w K mg) (n : Nat) (O_summary_of : Fn P w K mg base CX0 (n + 5) (He.ga K "summary_of") (spSummary K n)) : Fn P w K mg base CX0 (n + 1 + 5) (He.ga K "summary_of") (spSummary K (n + 1)) := by
  have O_Sealer_seal := ok_Sealer_seal (P := P) (base := base) Z
  have O_branch_summary := ok_branch_summary (P := P) (base := base) Z
  have O_leaf_row := ok_leaf_row (P := P) (base := base) Z
  refine Fn.of0 (F_summary_of Z) sc_summary_of (fun _ _ _ _ _ _ us hl => match us, hl with | [_, _], _ => rfl) (fun vs H Q E h => ?_) (fun cdv A outer s H vs Q E hr h => ?_)
  · obtain ⟨s, m, v, t, rfl, _⟩ := h
    rfl
  · obtain ⟨s, m, v, t, rfl, hs, ht, hw, hd, q⟩ := h
    refine ⟨_, (pss_cons (ps_if (pt_cmpR op_eq (pe_ix ix_tup (pv 1) pe_int (fun _ _ => rfl)) pe_str (nomark _)) (pss_one (ps_ret (pe_ix ix_tup (pv 1) pe_int (fun _ _ => rfl)))) pss_nil) (pss_cons (ps_if (pt_cmpR op_eq (pe_ix ix_tup (pv 1) pe_int (fun _ _ => rfl)) pe_str (nomark _)) (pss_one (ps_ret (pe_tup (pa_cons (pe_m Z.c_Sealer Z.t_Sealer_seal O_Sealer_seal hr (by omega) pass0 (pv 0) (pa_cons (pe_f O_leaf_row hr (by omega) Z.g_leaf_row pass0 (pa_cons (pv 1) pa_nil)) pa_nil)) (pa_cons pe_int (pa_cons (pe_ix ix_tup (pv 1) pe_int (fun _ _ => rfl)) (pa_cons (pe_ix ix_tup (pv 1) pe_int (fun _ _ => rfl)) (pa_cons (pe_ix ix_tup (pv 1) pe_int (fun _ _ => rfl)) pa_nil)))))))) pss_nil) (pss_one (ps_ret (pe_f O_branch_summary hr (by omega) Z.g_branch_summary pass0 (pa_cons (pv 0) (pa_cons (pe_f O_summary_of hr (by omega) Z.g_summary_of pass0 (pa_cons (pv 0) (pa_cons (pe_ix ix_tup (pv 1) pe_int (fun _ _ => rfl)) pa_nil))) (pa_cons (pe_f O_summary_of hr (by omega) Z.g_summary_of pass0 (pa_cons (pv 0) (pa_cons (pe_ix ix_tup (pv 1) pe_int (fun _ _ => rfl)) pa_nil))) pa_nil)))))))), ?_⟩
    walk_at "go"
    cases hw with
    | leaf hn =>
      rename_i l
      rw [leaf_tr] at ht
      obtain ⟨p, p1, p2, rfl, s0, s1, s2⟩ := leaf_inv ht
      refine k_ixT s0 rfl ?_
      walk_at "st"
      refine k_eq rfl ?_
      walk_at "st"
      refine k_ifF lf_ne_cut ?_
      walk_at "st"
      refine k_ixT s0 rfl ?_
      walk_at "st"
      refine k_eq rfl ?_
      walk_at "st"
      refine k_ifT lf_eq_lf ?_
      walk_at "st"
      refine kMt.mk hs.1.choose_spec (by kernel_rfl) ?_
      walk_at "st"
      refine ⟨_, l, rfl, ht, hn, fun r ns H1 e1 g1 l1 => ?_⟩
      walk_at "st"
      refine ⟨s, m, r, ns, rfl, hs.le e1, g1, by omega, fun z H2 _ _ e2 => ?_⟩
      have a1 := e1.trans e2
      walk_at "st"
      refine k_ixT (a1.sqt s0) rfl ?_
      walk_at "st"
      refine k_ixT (a1.sqt s0) rfl ?_
      walk_at "st"
      refine k_ixT (a1.sqt s0) rfl ?_
      walk_at "st"
      refine kTup.mk (by walk_at "len") fun t5 H5 e5 _ g5 => ?_
      exact q _ _ (a1.trans e5) (sm_leaf hn (SqT.of g5) (e5.sqt (a1.sqt s1)))
    | br p c hp hl hr2 w1 w2 =>
      rename_i a b
      obtain ⟨p, x, y, rfl, s0, i1, i2⟩ := br_inv ht
      have hd2 : max a.dep b.dep + 1 < n + 1 := hd
      refine k_ixT s0 rfl ?_
      walk_at "st"
      refine k_eq rfl ?_
      walk_at "st"
      refine k_ifF br_ne_cut ?_
      walk_at "st"
      refine k_ixT s0 rfl ?_
      walk_at "st"
      refine k_eq rfl ?_
      walk_at "st"
      refine k_ifF br_ne_lf ?_
      walk_at "st"
      refine k_ixT s0 rfl ?_
      walk_at "st"
      refine ⟨s, m, x, a, rfl, hs, i1, w1, by omega, fun r1 H1 e1 g1 => ?_⟩
      walk_at "st"
      refine k_ixT (e1.sqt s0) rfl ?_
      walk_at "st"
      refine ⟨s, m, y, b, rfl, hs.le e1, i2.lx e1, w2, by omega, fun r2 H2 e2 g2 => ?_⟩
      walk_at "st"
      exact ⟨s, m, r1, r2, rfl, (hs.le e1).le e2, g1.lx e2, g2, fun r3 H3 e3 g3 => q _ _ ((e1.trans e2).trans e3) g3⟩
theorem ok_summary_of (Z : Zed w K mg) : ∀ n, Fn P w K mg base CX0 (n + 5) (He.ga K "summary_of") (spSummary K n)
  | 0 => Fn.vac (F_summary_of Z) sc_summary_of (fun _ _ _ _ _ _ us hl => match us, hl with | [_, _], _ => rfl) fun vs H Q E h => by
    obtain ⟨s, m, v, t, rfl, _, _, _, hd, _⟩ := h
    exact Nat.not_lt_zero _ hd
  | n + 1 => st_summary_of Z n (ok_summary_of Z n)
/-- a tree or none, and its root -/
def WfO (o : Option Tree) : Prop := ∀ t, o = some t → Wf Nm t
theorem dep_lt {t : Tree} (h : Wf Nm t) : t.dep < 49 := Nat.lt_succ_of_le (h.dep fun x hx => nm_lt _ hx.1)
def spTopRow (K : PySem.W.Frag) : Sp := fun vs H Q _ => ∃ (s : Addr) (m : Int) (v : V) (o : Option Tree), vs = [.ref s, v] ∧ SeA K H s m ∧ Is K H v (optD o) ∧ WfO o ∧ QInts K 9 H Q
theorem ok_top_row (Z : Zed w K mg) : Fn P w K mg base CX0 55 (He.ga K "top_row") (spTopRow K) := by
  have O_summary_numbers := ok_summary_numbers (P := P) (base := base) Z
  have O_summary_of := ok_summary_of (P := P) (base := base) Z 49
  refine Fn.of0 (F_top_row Z) sc_top_row (fun _ _ _ _ _ _ us hl => match us, hl with | [_, _], _ => rfl) (fun vs H Q E h => ?_) (fun cdv A outer s H vs Q E hr h => ?_)
  · obtain ⟨s, m, v, t, rfl, _⟩ := h
    rfl
  · obtain ⟨s, m, v, o, rfl, hs, ht, hw, q⟩ := h
    refine ⟨_, (pss_cons (ps_if (pt_cmpR op_isN (pv 1) pe_non (nomark _)) (pss_one (ps_ret (pe_ga Z.g_EMPTY_ROW))) pss_nil) (pss_cons (ps_set (i := 2) sc_top_row.nd rfl (Or.inl rfl) (pe_f O_summary_of hr (by decide) Z.g_summary_of pass0 (pa_cons (pv 0) (pa_cons (pv 1) pa_nil)))) (pss_one (ps_ret (pe_op op_catA (pe_tup (pa_cons pe_int (pa_cons (pe_callB cr_len (by rfl) Z.n_len PySem.boot_len (pa_cons (pe_ix ix_tup (pv 2) pe_int (fun _ _ => rfl)) pa_nil)) pa_nil))) (pe_f O_summary_numbers hr (by decide) Z.g_summary_numbers pass0 (pa_cons (pv 2) pa_nil))))))), ?_⟩
    walk_at "go"
    cases o with
    | none =>
      have hv : v = .non := by
        have h2 : Is K H v .none := ht
        cases h2
        rfl
      subst hv
      refine k_ifT rfl ?_
      walk_at "st"
      exact q _ [2] H Lx.refl (Z.e_row H) (by decide)
    | some t =>
      have ht2 : Is K H v (trD t) := ht
      have hv : decide (v = V.non) = false := by
        cases t with
        | leaf l =>
          obtain ⟨_, _, _, rfl, _⟩ := leaf_inv (by rw [← leaf_tr]; exact ht2)
          exact decide_eq_false (fun z => nomatch z)
        | br a b =>
          obtain ⟨_, _, _, rfl, _⟩ := br_inv ht2
          exact decide_eq_false (fun z => nomatch z)
      refine k_ifF hv ?_
      walk_at "st"
      refine ⟨s, m, v, t, rfl, hs, ht2, hw t rfl, dep_lt (hw t rfl), fun r H1 e1 g1 => ?_⟩
      obtain ⟨p, p', se, ct, ss, lo, hi, kl, kh, rfl, s0, s1, hl, n1, n2⟩ := id g1
      walk_at "st"
      refine k_ixT s0 rfl ?_
      walk_at "st"
      refine k_lenT s1 ?_
      walk_at "st"
      refine kTup.mk (by walk_at "len") fun t5 H5 e5 _ g5 => ?_
      walk_at "st"
      refine ⟨_, rfl, g1.lx e5, fun r6 ns6 H6 e6 g6 l6 => ?_⟩
      refine k_catA (e6.sqt (SqT.of g5)) g6 (by walk_at "len") fun t7 H7 e7 g7 => ?_
      have e : [V.int 3, V.int ↑(ss.map V.int).length] ++ ns6.map V.int = (([3, (((ss.map V.int).length : Nat) : Int)] : List Int) ++ ns6).map V.int := by
        rw [List.map_append]
        rfl
      rw [e] at g7
      exact q t7 _ H7 (((e1.trans e5).trans e6).trans e7) g7 (by walk_at "len")
def spRootOf (K : PySem.W.Frag) : Sp := fun vs H Q _ => ∃ (s : Addr) (m : Int) (v : V) (o : Option Tree), vs = [.ref s, v] ∧ SeA K H s m ∧ Is K H v (optD o) ∧ WfO o ∧ ∀ (z : Int) H', Le H H' → Q (.int z) H'
theorem ok_root_of (Z : Zed w K mg) : Fn P w K mg base CX0 56 (He.ga K "root_of") (spRootOf K) := by
  have O_Sealer_seal := ok_Sealer_seal (P := P) (base := base) Z
  have O_top_row := ok_top_row (P := P) (base := base) Z
  refine Fn.of0 (F_root_of Z) sc_root_of (fun _ _ _ _ _ _ us hl => match us, hl with | [_, _], _ => rfl) (fun vs H Q E h => ?_) (fun cdv A outer s H vs Q E hr h => ?_)
  · obtain ⟨s, m, v, t, rfl, _⟩ := h
    rfl
  · obtain ⟨s, m, v, o, rfl, hs, ht, hw, q⟩ := h
    refine ⟨_, (pss_one (ps_ret (pe_m Z.c_Sealer Z.t_Sealer_seal O_Sealer_seal hr (by decide) pass0 (pv 0) (pa_cons (pe_f O_top_row hr (by decide) Z.g_top_row pass0 (pa_cons (pv 0) (pa_cons (pv 1) pa_nil))) pa_nil)))), ?_⟩
    walk_at "go"
    refine kMt.mk hs.1.choose_spec (by kernel_rfl) ?_
    walk_at "st"
    refine ⟨s, m, v, o, rfl, hs, ht, hw, fun r ns H1 e1 g1 l1 => ?_⟩
    walk_at "st"
    exact ⟨s, m, r, ns, rfl, hs.le e1, g1, by omega, fun z H2 _ _ e2 => q z H2 (e1.trans e2)⟩
end G
end
section
set_option Elab.async false
set_option linter.all false
set_option maxRecDepth 100000
set_option maxHeartbeats 1000000
namespace G
open PySem PySem.Spec PyProof.Rows L2
local macro_rules | `(tactic| walk_at "st") => `(tactic| repeat (first
  | with_reducible refine k_seq ?_
  | with_reducible refine k_asg ?_
  | with_reducible refine k_gn ?_
  | with_reducible refine k_op ?_
  | ((with_reducible refine' k_var ?vh ?_); (case vh => rfl))
  | with_reducible refine k_c ?_
  | with_reducible refine k_cons ?_
  | with_reducible refine k_nil ?_
  | with_reducible refine k_I0 ?_
  | with_reducible refine k_ret ?_
  | with_reducible refine k_if ?_
  | with_reducible refine k_test ?_
  | with_reducible refine k_bl ?_
  | with_reducible refine k_cb ?_
  | with_reducible refine k_cl ?_
  | with_reducible refine k_int ?_
  | with_reducible refine k_tup ?_
  | with_reducible refine k_lst ?_
  | with_reducible refine k_fld ?_
  | with_reducible refine k_mt ?_
  | with_reducible refine k_for ?_
  | with_reducible refine k_iL ?_
  | with_reducible refine k_iT ?_
  | with_reducible refine k_iR1 ?_
  | with_reducible refine k_iS ?_
  | with_reducible refine k_par ?_
  | with_reducible refine k_ex2 ?_
  | with_reducible refine k_rfl2 ?_
  | with_reducible refine k_iZA ?_
  | with_reducible refine k_gcons ?_
  | with_reducible refine k_gnil ?_
  | with_reducible refine k_exI ?_
  | with_reducible refine k_bits ?_
  | with_reducible refine k_chain ?_
  | ((with_reducible refine' k_aug ?vh ?_); (case vh => rfl))
  | with_reducible refine k_ipI ?_
  | with_reducible refine k_inG ?_
  | with_reducible refine k_m1 ?_
  | with_reducible refine kM1.mk ?_
  | with_reducible refine k_yes ?_
  | with_reducible refine k_lc ?_
  | with_reducible refine k_andV ?_
  | with_reducible refine k_orV ?_
  | with_reducible refine k_tB ?_
  | with_reducible refine k_and ?_
  | with_reducible refine k_or ?_
  | with_reducible refine k_not ?_
  | with_reducible refine k_retN ?_
  | with_reducible refine k_next ?_
  | with_reducible refine k_fset ?_
  | with_reducible refine k_faug ?_
  | with_reducible refine k_sl ?_
  | with_reducible refine k_part ?_
  | with_reducible refine k_nopart ?_
  | with_reducible refine k_un ?_
  | with_reducible refine k_u1 ?_
  | with_reducible refine k_dget ?_
  | with_reducible refine k_din ?_
  | with_reducible refine k_dnin ?_
  | with_reducible refine k_dput ?_
  | with_reducible refine k_dget2 ?_
  | with_reducible refine k_bm ?_
  | with_reducible refine k_augs ?_
  | with_reducible refine k_gsub ?_
  | with_reducible refine k_enT ?_
  | with_reducible refine k_anyI ?_
  | with_reducible refine k_allI ?_
  | with_reducible refine k_lenX ?_
  | with_reducible refine k_sortX ?_
  | with_reducible refine k_drop ?_))
local macro_rules | `(tactic| walk_at "go") => `(tactic| ((try dsimp only [cxOf]); walk_at "st"))
local macro_rules | `(tactic| walk_at "len") => `(tactic| (simp only [List.length_append, List.length_map, List.length_cons, List.length_nil, List.length_replicate] at *; omega))

variable {P : Program} {w : World} {K : PySem.W.Frag} {mg : Str → Option Value} {base : Heap}
/-! ### where a name goes -/
def spBeside (K : PySem.W.Frag) : Sp := fun vs H Q _ => ∃ (v u : V) (t : Tree) (L : Leaf) (p : Nat), vs = [v, u, .int (p : Nat)] ∧ Is K H v (trD t) ∧ Is K H u (leafD L) ∧ Nm L ∧ p < 48 ∧
  ∀ r H', Le H H' → Is K H' r (trD (if bt L.k p = 0 then .br (.leaf L) t else .br t (.leaf L))) → Q r H'
theorem ok_beside (Z : Zed w K mg) : Fn P w K mg base CX0 3 (He.ga K "beside") (spBeside K) := by
  have O_bit_at := ok_bit_at (P := P) (base := base) Z
  refine Fn.of0 (F_beside Z) sc_beside (fun _ _ _ _ _ _ us hl => match us, hl with | [_, _, _], _ => rfl) (fun vs H Q E h => ?_) (fun cdv A outer s H vs Q E hr h => ?_)
  · obtain ⟨v, u, t, L, p, rfl, _⟩ := h
    rfl
  · obtain ⟨v, u, t, L, p, rfl, ht, hL, hn, hp, q⟩ := h
    obtain ⟨p0, p1, p2, rfl, s0, s1, s2⟩ := leaf_inv hL
    refine ⟨_, (pss_cons (ps_if (pt_cmpR op_eq (pe_f O_bit_at hr (by decide) Z.g_bit_at pass0 (pa_cons (pe_ix ix_tup (pv 1) pe_int (fun _ _ => rfl)) (pa_cons (pv 2) pa_nil))) pe_int (nomark _)) (pss_one (ps_ret (pe_tup (pa_cons pe_str (pa_cons (pv 1) (pa_cons (pv 0) pa_nil)))))) pss_nil) (pss_one (ps_ret (pe_tup (pa_cons pe_str (pa_cons (pv 0) (pa_cons (pv 1) pa_nil))))))), ?_⟩
    walk_at "go"
    refine k_ixT s0 rfl ?_
    walk_at "st"
    refine ⟨L.n, L.k, p, rfl, hn.1, hp, ?_⟩
    walk_at "st"
    refine k_eq rfl ?_
    walk_at "st"
    by_cases z : bt L.k p = 0
    · rw [if_pos z] at q
      refine k_ifT (decide_eq_true (by rw [z]; rfl)) ?_
      walk_at "st"
      refine kTup.mk (by walk_at "len") fun t1 H1 e1 _ g1 => ?_
      exact q _ _ e1 (br_mk (SqT.of g1) (by rw [leaf_tr]; exact hL.lx e1) (ht.lx e1))
    · rw [if_neg z] at q
      refine k_ifF (decide_eq_false fun y => z (Int.ofNat.inj (V.int.inj y))) ?_
      walk_at "st"
      refine kTup.mk (by walk_at "len") fun t1 H1 e1 _ g1 => ?_
      exact q _ _ e1 (br_mk (SqT.of g1) (ht.lx e1) (by rw [leaf_tr]; exact hL.lx e1))
theorem Wf.lo_nm {t : Tree} (h : Wf Nm t) : (t.lo.n, t.lo.k) ∈ nmL := (h.all _ (lo_mem t)).1
theorem Wf.hi_nm {t : Tree} (h : Wf Nm t) : (t.hi.n, t.hi.k) ∈ nmL := (h.all _ (hi_mem t)).1
theorem nm_ne {n m : Str} {x y : Nat} (hn : (n, x) ∈ nmL) (hm : (m, y) ∈ nmL) (h : x ≠ y) : decide (V.str n = V.str m) = false := decide_eq_false fun e => h (nm_inj2 _ hn _ hm (V.str.inj e))
/-- a name goes into a part -/
def GoesB (t : Tree) (k : Nat) (b : Bool) : Prop := (∀ p, Part t.lo.k t.hi.k p → b = decide (sh k p = sh t.lo.k p)) ∧ ∀ l, t = .leaf l → b = decide (l.k = k)
def spGoes (K : PySem.W.Frag) : Sp := fun vs H Q _ => ∃ (v : V) (n : Str) (k : Nat) (t : Tree), vs = [v, .str n] ∧ Is K H v (trD t) ∧ Wf Nm t ∧ (n, k) ∈ nmL ∧ ∀ b, GoesB t k b → Q (.bl b) H
theorem ok_goes_into (Z : Zed w K mg) : Fn P w K mg base CX0 3 (He.ga K "goes_into") (spGoes K) := by
  have O_greatest_of := ok_greatest_of (P := P) (base := base) Z
  have O_least_of := ok_least_of (P := P) (base := base) Z
  have O_parting := ok_parting (P := P) (base := base) Z
  refine Fn.of0 (F_goes_into Z) sc_goes_into (fun _ _ _ _ _ _ us hl => match us, hl with | [_, _], _ => rfl) (fun vs H Q E h => ?_) (fun cdv A outer s H vs Q E hr h => ?_)
  · obtain ⟨v, n, k, t, rfl, _⟩ := h
    rfl
  · obtain ⟨v, n, k, t, rfl, ht, hw, hn, q⟩ := h
    refine ⟨_, (pss_cons (ps_par (i := 2) (j := 3) rfl sc_goes_into.nd rfl rfl (by decide) rfl rfl (pa_cons (pe_f O_least_of hr (by decide) Z.g_least_of pass0 (pa_cons (pv 0) pa_nil)) (pa_cons (pe_f O_greatest_of hr (by decide) Z.g_greatest_of pass0 (pa_cons (pv 0) pa_nil)) pa_nil)) rfl) (pss_cons (ps_set (i := 4) sc_goes_into.nd rfl (Or.inl rfl) (pe_f O_parting hr (by decide) Z.g_parting pass0 (pa_cons (pv 2) (pa_cons (pv 1) pa_nil)))) (pss_cons (ps_if (PW.pt (pw_or (pt_cmpR op_isN (pv 4) pe_non (nomark _)) (pw_or1 (pt_cmpR op_eq (pv 2) (pv 3) (nomark _))))) (pss_one (ps_ret (pe_cmpR op_isN (pv 4) pe_non (nomark _)))) pss_nil) (pss_one (ps_ret (pe_cmpR op_ge (pv 4) (pe_f O_parting hr (by decide) Z.g_parting pass0 (pa_cons (pv 2) (pa_cons (pv 3) pa_nil))) (nomark _))))))), ?_⟩
    walk_at "go"
    refine ⟨v, t, rfl, ht, ?_⟩
    walk_at "st"
    refine ⟨v, t, rfl, ht, ?_⟩
    walk_at "st"
    refine ⟨t.lo.n, n, t.lo.k, k, rfl, hw.lo_nm, hn, fun e => ?_, fun p' ne pt' => ?_⟩
    · walk_at "st"
      refine k_ifT rfl ?_
      walk_at "st"
      refine k_ifT rfl ?_
      walk_at "st"
      exact q _ ⟨fun p _ => by rw [e]; exact (decide_eq_true rfl).symm, fun l el => by rw [el] at e; exact (decide_eq_true e).symm⟩
    · walk_at "st"
      refine k_ifF rfl ?_
      walk_at "st"
      refine k_eq rfl ?_
      walk_at "st"
      cases hw with
      | @leaf l hl =>
        refine k_ifT (decide_eq_true rfl) ?_
        walk_at "st"
        exact q _ ⟨fun p pt => absurd rfl pt.ne, fun l2 el => by cases el; exact (decide_eq_false ne).symm⟩
      | @br a b p c hp hl hr2 w1 w2 =>
        have hw : Wf Nm (Tr.br a b) := .br p c hp hl hr2 w1 w2
        have pt : Part (Tr.br a b).lo.k (Tr.br a b).hi.k p := br_part hp hl hr2 (lo_mem a) (hi_mem b)
        refine k_ifF (nm_ne hw.lo_nm hw.hi_nm pt.ne) ?_
        walk_at "st"
        refine ⟨_, _, _, _, rfl, hw.lo_nm, hw.hi_nm, fun e => absurd e pt.ne, fun p2 _ pt2 => ?_⟩
        walk_at "st"
        obtain rfl := pt.uniq pt2
        refine q _ ⟨fun p3 pt3 => ?_, fun l el => nomatch el⟩
        obtain rfl := pt.uniq pt3
        have i := (pt'.iff (q := p) (by omega))
        by_cases c2 : p ≤ p'
        · rw [decide_eq_true (show ((p : Nat) : Int) ≤ (p' : Nat) by omega), decide_eq_true (i.mpr c2).symm]
        · rw [decide_eq_false (show ¬ ((p : Nat) : Int) ≤ (p' : Nat) by omega), decide_eq_false (fun z => c2 (i.mp z.symm))]
def spSide (K : PySem.W.Frag) : Sp := fun vs H Q _ => ∃ (v : V) (n : Str) (k p : Nat) (t : Tree), vs = [v, .str n] ∧ Is K H v (trD t) ∧ Wf Nm t ∧ (n, k) ∈ nmL ∧ Part t.lo.k t.hi.k p ∧ Q (.int ((1 + bt k p : Nat) : Int)) H
theorem ok_side_of (Z : Zed w K mg) : Fn P w K mg base CX0 3 (He.ga K "side_of") (spSide K) := by
  have O_bit_at := ok_bit_at (P := P) (base := base) Z
  have O_greatest_of := ok_greatest_of (P := P) (base := base) Z
  have O_least_of := ok_least_of (P := P) (base := base) Z
  have O_parting := ok_parting (P := P) (base := base) Z
  refine Fn.of0 (F_side_of Z) sc_side_of (fun _ _ _ _ _ _ us hl => match us, hl with | [_, _], _ => rfl) (fun vs H Q E h => ?_) (fun cdv A outer s H vs Q E hr h => ?_)
  · obtain ⟨v, n, k, p, t, rfl, _⟩ := h
    rfl
  · obtain ⟨v, n, k, p, t, rfl, ht, hw, hn, pt, q⟩ := h
    refine ⟨_, (pss_one (ps_ret (pe_op op_add pe_int (pe_f O_bit_at hr (by decide) Z.g_bit_at pass0 (pa_cons (pv 1) (pa_cons (pe_f O_parting hr (by decide) Z.g_parting pass0 (pa_cons (pe_f O_least_of hr (by decide) Z.g_least_of pass0 (pa_cons (pv 0) pa_nil)) (pa_cons (pe_f O_greatest_of hr (by decide) Z.g_greatest_of pass0 (pa_cons (pv 0) pa_nil)) pa_nil))) pa_nil)))))), ?_⟩
    walk_at "go"
    refine ⟨v, t, rfl, ht, ?_⟩
    walk_at "st"
    refine ⟨v, t, rfl, ht, ?_⟩
    walk_at "st"
    refine ⟨_, _, _, _, rfl, hw.lo_nm, hw.hi_nm, fun e => absurd e pt.ne, fun p2 _ pt2 => ?_⟩
    obtain rfl := pt.uniq pt2
    walk_at "st"
    refine ⟨n, k, p, rfl, hn, pt.lt, ?_⟩
    walk_at "st"
    have e : (1 : Int) + ((bt k p : Nat) : Int) = ((1 + bt k p : Nat) : Int) := by omega
    rw [e]
    exact q
/-! ### put -/
def PutO (o : Option Tree) (L : Leaf) (t' : Tree) : Prop := match o with
  | none => t' = .leaf L
  | some t => Put Nm t L t'
def spPut (K : PySem.W.Frag) (n : Nat) : Sp := fun vs H Q _ => ∃ (v u : V) (o : Option Tree) (L : Leaf), vs = [v, u] ∧ 0 < n ∧ Is K H v (optD o) ∧ WfO o ∧ (∀ t, o = some t → t.dep < n) ∧ Is K H u (leafD L) ∧ Nm L ∧
  ∀ r H' t', Le H H' → Is K H' r (trD t') → PutO o L t' → Q r H'
theorem tr_some {H : Hp} {v : V} {t : Tree} (h : Is K H v (trD t)) : decide (v = V.non) = false := by
  cases t with
  | leaf l =>
    obtain ⟨_, _, _, rfl, _⟩ := leaf_inv (by rw [← leaf_tr]; exact h)
    exact decide_eq_false (fun z => nomatch z)
  | br a b =>
    obtain ⟨_, _, _, rfl, _⟩ := br_inv h
    exact decide_eq_false (fun z => nomatch z)
theorem tr_none {H : Hp} {v : V} (h : Is K H v (optD none)) : v = .non := by
  have h2 : Is K H v .none := h
  cases h2
  rfl
theorem st_put (Z : Zed w K mg) (n : Nat) (O_put : Fn P w K mg base CX0 (n + 5) (He.ga K "put") (spPut K n)) : Fn P w K mg base CX0 (n + 1 + 5) (He.ga K "put") (spPut K (n + 1)) := by
  have O_beside := ok_beside (P := P) (base := base) Z
  have O_goes_into := ok_goes_into (P := P) (base := base) Z
  have O_least_of := ok_least_of (P := P) (base := base) Z
  have O_parting := ok_parting (P := P) (base := base) Z
  have O_side_of := ok_side_of (P := P) (base := base) Z
  refine Fn.of0 (F_put Z) sc_put (fun _ _ _ _ _ _ us hl => match us, hl with | [_, _], _ => rfl) (fun vs H Q E h => ?_) (fun cdv A outer s H vs Q E hr h => ?_)
  · obtain ⟨v, u, o, L, rfl, _⟩ := h
    rfl
  · obtain ⟨v, u, o, L, rfl, _, ht, hw, hd, hL, hn, q⟩ := h
    obtain ⟨p0, p1, p2, rfl, s0, s1, s2⟩ := leaf_inv hL
    refine ⟨_, (pss_cons (ps_if (pt_cmpR op_isN (pv 0) pe_non (nomark _)) (pss_one (ps_ret (pv 1))) pss_nil) (pss_cons (ps_if (pt_not (pt_val (pe_f O_goes_into hr (by omega) Z.g_goes_into pass0 (pa_cons (pv 0) (pa_cons (pe_ix ix_tup (pv 1) pe_int (fun _ _ => rfl)) pa_nil))))) (pss_one (ps_ret (pe_f O_beside hr (by omega) Z.g_beside pass0 (pa_cons (pv 0) (pa_cons (pv 1) (pa_cons (pe_f O_parting hr (by omega) Z.g_parting pass0 (pa_cons (pe_f O_least_of hr (by omega) Z.g_least_of pass0 (pa_cons (pv 0) pa_nil)) (pa_cons (pe_ix ix_tup (pv 1) pe_int (fun _ _ => rfl)) pa_nil))) pa_nil)))))) pss_nil) (pss_cons (ps_if (pt_cmpR op_eq (pe_ix ix_tup (pv 0) pe_int (fun _ _ => rfl)) pe_str (nomark _)) (pss_one ps_never) pss_nil) (pss_cons (ps_if (pt_cmpR op_eq (pe_ix ix_tup (pv 0) pe_int (fun _ _ => rfl)) pe_str (nomark _)) (pss_one (ps_ret (pv 1))) pss_nil) (pss_cons (ps_if (pt_cmpR op_eq (pe_f O_side_of hr (by omega) Z.g_side_of pass0 (pa_cons (pv 0) (pa_cons (pe_ix ix_tup (pv 1) pe_int (fun _ _ => rfl)) pa_nil))) pe_int (nomark _)) (pss_one (ps_ret (pe_tup (pa_cons pe_str (pa_cons (pe_f O_put hr (by omega) Z.g_put pass0 (pa_cons (pe_ix ix_tup (pv 0) pe_int (fun _ _ => rfl)) (pa_cons (pv 1) pa_nil))) (pa_cons (pe_ix ix_tup (pv 0) pe_int (fun _ _ => rfl)) pa_nil)))))) pss_nil) (pss_one (ps_ret (pe_tup (pa_cons pe_str (pa_cons (pe_ix ix_tup (pv 0) pe_int (fun _ _ => rfl)) (pa_cons (pe_f O_put hr (by omega) Z.g_put pass0 (pa_cons (pe_ix ix_tup (pv 0) pe_int (fun _ _ => rfl)) (pa_cons (pv 1) pa_nil))) pa_nil))))))))))), ?_⟩
    walk_at "go"
    cases o with
    | none =>
      obtain rfl := tr_none ht
      refine k_ifT rfl ?_
      walk_at "st"
      exact q _ H (.leaf L) Lx.refl (by rw [leaf_tr]; exact hL) rfl
    | some t =>
      have ht : Is K H v (trD t) := ht
      have hw := hw t rfl
      have hd := hd t rfl
      refine k_ifF (tr_some ht) ?_
      walk_at "st"
      refine k_ixT s0 rfl ?_
      walk_at "st"
      refine ⟨v, L.n, L.k, t, rfl, ht, hw, hn.1, fun b gb => ?_⟩
      walk_at "st"
      cases b with
      | false =>
        refine k_ifT rfl ?_
        walk_at "st"
        refine ⟨v, t, rfl, ht, ?_⟩
        walk_at "st"
        refine k_ixT s0 rfl ?_
        walk_at "st"
        refine ⟨_, _, _, _, rfl, hw.lo_nm, hn.1, fun e => ?_, fun p ne pt => ?_⟩
        · cases hw with
          | @leaf l hl => exact absurd (gb.2 l rfl) (by rw [decide_eq_true (show l.k = L.k from e)]; decide)
          | br p c hp hl hr2 w1 w2 => exact absurd (gb.1 p (br_part hp hl hr2 (lo_mem _) (hi_mem _))) (by rw [e, decide_eq_true rfl]; decide)
        · walk_at "st"
          refine ⟨_, _, t, L, p, rfl, ht, hL, hn, pt.lt, fun r H1 e1 g1 => q _ _ _ e1 g1 ?_⟩
          cases hw with
          | leaf hl =>
            refine put_beside (.leaf hl) hn pt (fun x hx => ?_) (fun x hx => ?_)
            · rw [List.mem_singleton.mp hx]
              exact pt.same
            · rw [List.mem_singleton.mp hx]
              rfl
          | @br a b p2 c hp hl hr2 w1 w2 =>
            have pt2 : Part (Tr.br a b).lo.k (Tr.br a b).hi.k p2 := br_part hp hl hr2 (lo_mem a) (hi_mem b)
            have hb := gb.1 p2 pt2
            have lt : p < p2 := by
              by_cases c2 : p < p2
              · exact c2
              · have := (pt.iff (q := p2) (by omega)).mpr (by omega)
                rw [decide_eq_true this.symm] at hb
                cases hb
            have pr := br_pre hp hl hr2
            have all : ∀ x ∈ (Tr.br a b).lvs, ∀ q, q ≤ p2 → sh x.k q = sh (Tr.br a b).lo.k q := fun x hx q hq => sh_le hq (by omega) ((pr x hx).trans (pr _ (lo_mem _)).symm)
            refine put_beside (.br p2 c hp hl hr2 w1 w2) hn pt (fun x hx => (all x hx p (by omega)).trans pt.same) (fun x hx => ?_)
            have z := all x hx (p + 1) (by omega)
            rw [sh_succ pt.lt, sh_succ pt.lt, all x hx p (by omega)] at z
            omega
      | true =>
        refine k_ifF rfl ?_
        walk_at "st"
        cases hw with
        | @leaf l hl =>
          rw [leaf_tr] at ht
          obtain ⟨p3, p4, p5, rfl, s3, _, _⟩ := leaf_inv ht
          refine k_ixT s3 rfl ?_
          walk_at "st"
          refine k_eq rfl ?_
          walk_at "st"
          refine k_ifF lf_ne_cut ?_
          walk_at "st"
          refine k_ixT s3 rfl ?_
          walk_at "st"
          refine k_eq rfl ?_
          walk_at "st"
          refine k_ifT lf_eq_lf ?_
          walk_at "st"
          have e : l.k = L.k := of_decide_eq_true (gb.2 l rfl).symm
          exact q _ H (.leaf L) Lx.refl (by rw [leaf_tr]; exact hL) (put_same hn e)
        | @br a b p c hp hl hr2 w1 w2 =>
          have pt : Part (Tr.br a b).lo.k (Tr.br a b).hi.k p := br_part hp hl hr2 (lo_mem a) (hi_mem b)
          have hd2 : max a.dep b.dep + 1 < n + 1 := hd
          have hc : sh L.k p = c := (of_decide_eq_true (gb.1 p pt).symm).trans (br_pre hp hl hr2 _ (lo_mem _))
          have lt := bt_lt L.k p
          have htt := ht
          obtain ⟨p3, x, y, rfl, s3, i1, i2⟩ := br_inv ht
          refine k_ixT s3 rfl ?_
          walk_at "st"
          refine k_eq rfl ?_
          walk_at "st"
          refine k_ifF br_ne_cut ?_
          walk_at "st"
          refine k_ixT s3 rfl ?_
          walk_at "st"
          refine k_eq rfl ?_
          walk_at "st"
          refine k_ifF br_ne_lf ?_
          walk_at "st"
          refine k_ixT s0 rfl ?_
          walk_at "st"
          refine ⟨_, L.n, L.k, p, _, rfl, htt, .br p c hp hl hr2 w1 w2, hn.1, pt, ?_⟩
          walk_at "st"
          refine k_eq rfl ?_
          walk_at "st"
          by_cases z : bt L.k p = 0
          · refine k_ifT (by rw [z]; decide) ?_
            walk_at "st"
            refine k_ixT s3 rfl ?_
            walk_at "st"
            refine ⟨_, _, some a, L, rfl, by omega, i1, fun t e => by cases e; exact w1, fun t e => by cases e; omega, hL, hn, fun r H1 t' e1 g1 pt1 => ?_⟩
            walk_at "st"
            refine k_ixT (e1.sqt s3) rfl ?_
            walk_at "st"
            refine kTup.mk (by walk_at "len") fun t1 H2 e2 _ g2 => ?_
            exact q _ _ _ (e1.trans e2) (br_mk (SqT.of g2) (g1.lx e2) (i2.lx (e1.trans e2))) (put_left hp hl hr2 w2 hc z pt1)
          · have z1 : bt L.k p = 1 := by omega
            refine k_ifF (by rw [z1]; decide) ?_
            walk_at "st"
            refine k_ixT s3 rfl ?_
            walk_at "st"
            refine k_ixT s3 rfl ?_
            walk_at "st"
            refine ⟨_, _, some b, L, rfl, by omega, i2, fun t e => by cases e; exact w2, fun t e => by cases e; omega, hL, hn, fun r H1 t' e1 g1 pt1 => ?_⟩
            refine kTup.mk (by walk_at "len") fun t1 H2 e2 _ g2 => ?_
            exact q _ _ _ (e1.trans e2) (br_mk (SqT.of g2) (i1.lx (e1.trans e2)) (g1.lx e2)) (put_right hp hl hr2 w1 hc z1 pt1)
theorem ok_put (Z : Zed w K mg) : ∀ n, Fn P w K mg base CX0 (n + 5) (He.ga K "put") (spPut K n)
  | 0 => Fn.vac (F_put Z) sc_put (fun _ _ _ _ _ _ us hl => match us, hl with | [_, _], _ => rfl) fun vs H Q E h => by
    obtain ⟨v, u, o, L, rfl, h0, _⟩ := h
    exact Nat.not_lt_zero _ h0
  | n + 1 => st_put Z n (ok_put Z n)
end G
end
section
set_option Elab.async false
set_option linter.all false
set_option maxRecDepth 100000
set_option maxHeartbeats 1000000
namespace G
open PySem PySem.Spec PyProof.Rows L2
local macro_rules | `(tactic| walk_at "st") => `(tactic| repeat (first
  | with_reducible refine k_seq ?_
  | with_reducible refine k_asg ?_
  | with_reducible refine k_gn ?_
  | with_reducible refine k_op ?_
  | ((with_reducible refine' k_var ?vh ?_); (case vh => rfl))
  | with_reducible refine k_c ?_
  | with_reducible refine k_cons ?_
  | with_reducible refine k_nil ?_
  | with_reducible refine k_I0 ?_
  | with_reducible refine k_ret ?_
  | with_reducible refine k_if ?_
  | with_reducible refine k_test ?_
  | with_reducible refine k_bl ?_
  | with_reducible refine k_cb ?_
  | with_reducible refine k_cl ?_
  | with_reducible refine k_int ?_
  | with_reducible refine k_tup ?_
  | with_reducible refine k_lst ?_
  | with_reducible refine k_fld ?_
  | with_reducible refine k_mt ?_
  | with_reducible refine k_for ?_
  | with_reducible refine k_iL ?_
  | with_reducible refine k_iT ?_
  | with_reducible refine k_iR1 ?_
  | with_reducible refine k_iS ?_
  | with_reducible refine k_par ?_
  | with_reducible refine k_ex2 ?_
  | with_reducible refine k_rfl2 ?_
  | with_reducible refine k_iZA ?_
  | with_reducible refine k_gcons ?_
  | with_reducible refine k_gnil ?_
  | with_reducible refine k_exI ?_
  | with_reducible refine k_bits ?_
  | with_reducible refine k_chain ?_
  | ((with_reducible refine' k_aug ?vh ?_); (case vh => rfl))
  | with_reducible refine k_ipI ?_
  | with_reducible refine k_inG ?_
  | with_reducible refine k_m1 ?_
  | with_reducible refine kM1.mk ?_
  | with_reducible refine k_yes ?_
  | with_reducible refine k_lc ?_
  | with_reducible refine k_andV ?_
  | with_reducible refine k_orV ?_
  | with_reducible refine k_tB ?_
  | with_reducible refine k_and ?_
  | with_reducible refine k_or ?_
  | with_reducible refine k_not ?_
  | with_reducible refine k_retN ?_
  | with_reducible refine k_next ?_
  | with_reducible refine k_fset ?_
  | with_reducible refine k_faug ?_
  | with_reducible refine k_sl ?_
  | with_reducible refine k_part ?_
  | with_reducible refine k_nopart ?_
  | with_reducible refine k_un ?_
  | with_reducible refine k_u1 ?_
  | with_reducible refine k_dget ?_
  | with_reducible refine k_din ?_
  | with_reducible refine k_dnin ?_
  | with_reducible refine k_dput ?_
  | with_reducible refine k_dget2 ?_
  | with_reducible refine k_bm ?_
  | with_reducible refine k_augs ?_
  | with_reducible refine k_gsub ?_
  | with_reducible refine k_enT ?_
  | with_reducible refine k_anyI ?_
  | with_reducible refine k_allI ?_
  | with_reducible refine k_lenX ?_
  | with_reducible refine k_sortX ?_
  | with_reducible refine k_drop ?_))
local macro_rules | `(tactic| walk_at "go") => `(tactic| ((try dsimp only [cxOf]); walk_at "st"))
local macro_rules | `(tactic| walk_at "len") => `(tactic| (simp only [List.length_append, List.length_map, List.length_cons, List.length_nil, List.length_replicate] at *; omega))

variable {P : Program} {w : World} {K : PySem.W.Frag} {mg : Str → Option Value} {base : Heap}
/-! ### get -/
def spBetween (K : PySem.W.Frag) : Sp := fun vs H Q _ => ∃ (v : V) (n : Str) (k : Nat) (t : Tree), vs = [v, .str n] ∧ Is K H v (trD t) ∧ Wf Nm t ∧ (n, k) ∈ nmL ∧ Q (.bl (decide (t.lo.k ≤ k ∧ k ≤ t.hi.k))) H
theorem ok_is_between (Z : Zed w K mg) : Fn P w K mg base CX0 2 (He.ga K "is_between") (spBetween K) := by
  have O_greatest_of := ok_greatest_of (P := P) (base := base) Z
  have O_least_of := ok_least_of (P := P) (base := base) Z
  have O_number_of := ok_number_of (P := P) (base := base) Z
  refine Fn.of0 (F_is_between Z) sc_is_between (fun _ _ _ _ _ _ us hl => match us, hl with | [_, _], _ => rfl) (fun vs H Q E h => ?_) (fun cdv A outer s H vs Q E hr h => ?_)
  · obtain ⟨v, n, k, t, rfl, _⟩ := h
    rfl
  · obtain ⟨v, n, k, t, rfl, ht, hw, hn, q⟩ := h
    refine ⟨_, (pss_one (ps_ret (pe_chain op_le op_le (pe_f O_number_of hr (by decide) Z.g_number_of pass0 (pa_cons (pe_f O_least_of hr (by decide) Z.g_least_of pass0 (pa_cons (pv 0) pa_nil)) pa_nil)) (pe_f O_number_of hr (by decide) Z.g_number_of pass0 (pa_cons (pv 1) pa_nil)) (pe_f O_number_of hr (by decide) Z.g_number_of pass0 (pa_cons (pe_f O_greatest_of hr (by decide) Z.g_greatest_of pass0 (pa_cons (pv 0) pa_nil)) pa_nil))))), ?_⟩
    walk_at "go"
    refine ⟨v, t, rfl, ht, ?_⟩
    walk_at "st"
    refine ⟨_, _, rfl, hw.lo_nm, ?_⟩
    walk_at "st"
    refine ⟨_, _, rfl, hn, ?_⟩
    walk_at "st"
    by_cases c1 : t.lo.k ≤ k
    · refine k_ifT (decide_eq_true (by omega)) ?_
      walk_at "st"
      refine ⟨v, t, rfl, ht, ?_⟩
      walk_at "st"
      refine ⟨_, _, rfl, hw.hi_nm, ?_⟩
      walk_at "st"
      have e : decide ((k : Int) ≤ (t.hi.k : Int)) = decide (t.lo.k ≤ k ∧ k ≤ t.hi.k) := by
        by_cases c2 : k ≤ t.hi.k
        · rw [decide_eq_true (show t.lo.k ≤ k ∧ k ≤ t.hi.k from ⟨c1, c2⟩), decide_eq_true (show (k : Int) ≤ (t.hi.k : Int) by omega)]
        · rw [decide_eq_false (show ¬ (t.lo.k ≤ k ∧ k ≤ t.hi.k) from fun z => c2 z.2), decide_eq_false (show ¬ (k : Int) ≤ (t.hi.k : Int) by omega)]
      rw [e]
      exact q
    · refine k_ifF (decide_eq_false (by omega)) ?_
      walk_at "st"
      rw [decide_eq_false (fun z => c1 z.1)] at q
      exact q
def spGet (K : PySem.W.Frag) : Sp := fun vs H Q _ => ∃ (v : V) (n : Str) (k : Nat) (o : Option Tree), vs = [v, .str n] ∧ Is K H v (optD o) ∧ WfO o ∧ (n, k) ∈ nmL ∧
  ((∀ t, o = some t → ∀ x ∈ t.lvs, x.k ≠ k) → Q .non H) ∧ ∀ (L : Leaf) (r : V) (t : Tree), o = some t → L ∈ t.lvs → L.k = k → Is K H r (leafD L) → Q r H
theorem ok_get (Z : Zed w K mg) : Fn P w K mg base CX0 4 (He.ga K "get") (spGet K) := by
  have O_is_between := ok_is_between (P := P) (base := base) Z
  have O_side_of := ok_side_of (P := P) (base := base) Z
  refine Fn.of0 (F_get Z) sc_get (fun _ _ _ _ _ _ us hl => match us, hl with | [_, _], _ => rfl) (fun vs H Q E h => ?_) (fun cdv A outer s H vs Q E hr h => ?_)
  · obtain ⟨v, n, k, o, rfl, _⟩ := h
    rfl
  · obtain ⟨v, n, k, o, rfl, ht, hw, hn, q1, q2⟩ := h
    refine ⟨_, (pss_cons (ps_while PassesOwn.never (PW.pt (pw_and (pt_cmpR op_notN (pv 0) pe_non (nomark _)) (pw_and1 (pt_val (pe_f O_is_between hr (by decide) Z.g_is_between pass0 (pa_cons (pv 0) (pa_cons (pv 1) pa_nil))))))) (pss_cons (ps_if (pt_cmpR op_eq (pe_ix ix_tup (pv 0) pe_int (fun _ _ => rfl)) pe_str (nomark _)) (pss_one ps_never) pss_nil) (pss_cons (ps_if (pt_cmpR op_eq (pe_ix ix_tup (pv 0) pe_int (fun _ _ => rfl)) pe_str (nomark _)) (pss_one (ps_ret (pv 0))) pss_nil) (pss_one (ps_set (i := 0) sc_get.nd rfl (Or.inl rfl) (pe_ix ix_tup (pv 0) (pe_f O_side_of hr (by decide) Z.g_side_of pass0 (pa_cons (pv 0) (pa_cons (pv 1) pa_nil))) (fun _ _ => rfl))))))) (pss_one (ps_ret pe_non))), ?_⟩
    walk_at "go"
    cases o with
    | none =>
      obtain rfl := tr_none ht
      refine k_while (fun m σ H' => H' = H ∧ σ = [some .non, some (.str n)]) 0 ⟨rfl, rfl⟩ (fun m σ H' h => ?_)
      obtain ⟨rfl, rfl⟩ := h
      walk_at "st"
      refine k_ifF rfl ?_
      walk_at "st"
      refine kWh.no rfl ?_
      walk_at "st"
      exact q1 (fun t e => nomatch e)
    | some t =>
      refine k_while (fun m σ H' => H' = H ∧ ∃ v' t', σ = [some v', some (.str n)] ∧ Is K H v' (trD t') ∧ Wf Nm t' ∧ (∀ x ∈ t'.lvs, x ∈ t.lvs) ∧ (∀ x ∈ t.lvs, x.k = k → x ∈ t'.lvs) ∧ m = t'.dep) t.dep ⟨rfl, v, t, rfl, ht, hw t rfl, fun _ h => h, fun _ h _ => h, rfl⟩ (fun m σ H' h => ?_)
      obtain ⟨rfl, v', t', rfl, i', w', sub, sup, rfl⟩ := h
      walk_at "st"
      refine k_ifT (by rw [tr_some i']; rfl) ?_
      walk_at "st"
      refine ⟨_, n, k, t', rfl, i', w', hn, ?_⟩
      walk_at "st"
      by_cases c : t'.lo.k ≤ k ∧ k ≤ t'.hi.k
      · refine kWh.yes (decide_eq_true c) ?_
        cases w' with
        | @leaf l hl =>
          rw [leaf_tr] at i'
          obtain ⟨p3, p4, p5, rfl, s3, _, _⟩ := leaf_inv i'
          walk_at "st"
          refine k_ixT s3 rfl ?_
          walk_at "st"
          refine k_eq rfl ?_
          walk_at "st"
          refine k_ifF lf_ne_cut ?_
          walk_at "st"
          refine k_ixT s3 rfl ?_
          walk_at "st"
          refine k_eq rfl ?_
          walk_at "st"
          refine k_ifT lf_eq_lf ?_
          walk_at "st"
          have e : l.k = k := Nat.le_antisymm c.1 c.2
          exact q2 l _ t rfl (sub l (List.mem_singleton.mpr rfl)) e i'
        | @br a b p cc hp hl hr2 w1 w2 =>
          have pt : Part (Tr.br a b).lo.k (Tr.br a b).hi.k p := br_part hp hl hr2 (lo_mem a) (hi_mem b)
          have i0 := i'
          obtain ⟨p3, x, y, rfl, s3, i1, i2⟩ := br_inv i'
          walk_at "st"
          refine k_ixT s3 rfl ?_
          walk_at "st"
          refine k_eq rfl ?_
          walk_at "st"
          refine k_ifF br_ne_cut ?_
          walk_at "st"
          refine k_ixT s3 rfl ?_
          walk_at "st"
          refine k_eq rfl ?_
          walk_at "st"
          refine k_ifF br_ne_lf ?_
          walk_at "st"
          refine ⟨_, n, k, p, _, rfl, i0, .br p cc hp hl hr2 w1 w2, hn, pt, ?_⟩
          have lt := bt_lt k p
          by_cases z : bt k p = 0
          · rw [z]
            refine k_ixT s3 rfl ?_
            walk_at "st"
            refine ⟨a.dep, (by show a.dep < max a.dep b.dep + 1; omega), rfl, x, a, rfl, i1, w1, fun u hu => sub u (List.mem_append_left _ hu), fun u hu e => ?_, rfl⟩
            rcases List.mem_append.mp (sup u hu e) with h | h
            · exact h
            · have := (bt_of (b := 1) hp (hr2 u h) (by decide)).2
              rw [e] at this
              omega
          · have z1 : bt k p = 1 := by omega
            rw [z1]
            refine k_ixT s3 rfl ?_
            walk_at "st"
            refine ⟨b.dep, (by show b.dep < max a.dep b.dep + 1; omega), rfl, y, b, rfl, i2, w2, fun u hu => sub u (List.mem_append_right _ hu), fun u hu e => ?_, rfl⟩
            rcases List.mem_append.mp (sup u hu e) with h | h
            · have := (bt_of (b := 0) hp (hl u h) (by decide)).2
              rw [e] at this
              omega
            · exact h
      · refine kWh.no (decide_eq_false c) ?_
        walk_at "st"
        refine q1 fun t2 e u hu eu => ?_
        cases e
        have := w'.between u (sup u hu eu)
        rw [eu] at this
        exact c this
/-! ### without, drop -/
def spWithout (K : PySem.W.Frag) (n : Nat) : Sp := fun vs H Q _ => ∃ (v : V) (nm : Str) (k : Nat) (t : Tree), vs = [v, .str nm] ∧ Is K H v (trD t) ∧ Wf Nm t ∧ t.dep < n ∧ (nm, k) ∈ nmL ∧ (∃ x ∈ t.lvs, x.k = k) ∧
  ∀ r H' o, Le H H' → Is K H' r (optD o) → Wo Nm t k o → Q r H'
theorem st_without (Z : Zed w K mg) (n : Nat) (O_without : Fn P w K mg base CX0 (n + 5) (He.ga K "without") (spWithout K n)) : Fn P w K mg base CX0 (n + 1 + 5) (He.ga K "without") (spWithout K (n + 1)) := by
  have O_side_of := ok_side_of (P := P) (base := base) Z
  refine Fn.of0 (F_without Z) sc_without (fun _ _ _ _ _ _ us hl => match us, hl with | [_, _], _ => rfl) (fun vs H Q E h => ?_) (fun cdv A outer s H vs Q E hr h => ?_)
  · obtain ⟨v, nm, k, t, rfl, _⟩ := h
    rfl
  · obtain ⟨v, nm, k, t, rfl, ht, hw, hd, hn, ⟨u, hu, eu⟩, q⟩ := h
    refine ⟨_, (pss_cons (ps_if (pt_cmpR op_eq (pe_ix ix_tup (pv 0) pe_int (fun _ _ => rfl)) pe_str (nomark _)) (pss_one (ps_ret pe_non)) pss_nil) (pss_cons (ps_set (i := 2) sc_without.nd rfl (Or.inl rfl) (pe_f O_side_of hr (by omega) Z.g_side_of pass0 (pa_cons (pv 0) (pa_cons (pv 1) pa_nil)))) (pss_cons (ps_set (i := 3) sc_without.nd rfl (Or.inl rfl) (pe_f O_without hr (by omega) Z.g_without pass0 (pa_cons (pe_ix ix_tup (pv 0) (pv 2) (fun _ _ => rfl)) (pa_cons (pv 1) pa_nil)))) (pss_cons (ps_if (pt_cmpR op_isN (pv 3) pe_non (nomark _)) (pss_one (ps_ret (pe_ix ix_tup (pv 0) (pe_op op_sub pe_int (pv 2)) (fun _ _ => rfl)))) pss_nil) (pss_cons (ps_if (pt_cmpR op_eq (pv 2) pe_int (nomark _)) (pss_one (ps_ret (pe_tup (pa_cons pe_str (pa_cons (pv 3) (pa_cons (pe_ix ix_tup (pv 0) pe_int (fun _ _ => rfl)) pa_nil)))))) pss_nil) (pss_one (ps_ret (pe_tup (pa_cons pe_str (pa_cons (pe_ix ix_tup (pv 0) pe_int (fun _ _ => rfl)) (pa_cons (pv 3) pa_nil))))))))))), ?_⟩
    walk_at "go"
    cases hw with
    | @leaf l hl =>
      rw [leaf_tr] at ht
      obtain ⟨p3, p4, p5, rfl, s3, _, _⟩ := leaf_inv ht
      refine k_ixT s3 rfl ?_
      walk_at "st"
      refine k_eq rfl ?_
      walk_at "st"
      refine k_ifT lf_eq_lf ?_
      walk_at "st"
      have e : u = l := List.mem_singleton.mp hu
      rw [← eu, e] at q
      exact q .non H none Lx.refl .non wo_leaf
    | @br a b p cc hp hl hr2 w1 w2 =>
      have pt : Part (Tr.br a b).lo.k (Tr.br a b).hi.k p := br_part hp hl hr2 (lo_mem a) (hi_mem b)
      have hd2 : max a.dep b.dep + 1 < n + 1 := hd
      have hc : sh k p = cc := by rw [← eu]; exact br_pre hp hl hr2 u hu
      have i0 := ht
      obtain ⟨p3, x, y, rfl, s3, i1, i2⟩ := br_inv ht
      refine k_ixT s3 rfl ?_
      walk_at "st"
      refine k_eq rfl ?_
      walk_at "st"
      refine k_ifF br_ne_lf ?_
      walk_at "st"
      refine ⟨_, nm, k, p, _, rfl, i0, .br p cc hp hl hr2 w1 w2, hn, pt, ?_⟩
      walk_at "st"
      have lt := bt_lt k p
      by_cases z : bt k p = 0
      · have hu1 : ∃ x ∈ a.lvs, x.k = k := by
          rcases List.mem_append.mp hu with h | h
          · exact ⟨u, h, eu⟩
          · have := (bt_of (b := 1) hp (hr2 u h) (by decide)).2
            rw [eu] at this
            omega
        rw [z]
        refine k_ixT s3 rfl ?_
        walk_at "st"
        refine ⟨x, nm, k, a, rfl, i1, w1, by omega, hn, hu1, fun r H1 o e1 g1 wo => ?_⟩
        walk_at "st"
        have w3 := wo_left hp hl hr2 w2 hc z wo
        cases o with
        | none =>
          obtain rfl := tr_none g1
          refine k_ifT rfl ?_
          walk_at "st"
          refine k_ixT (e1.sqt s3) rfl ?_
          walk_at "st"
          exact q y H1 (some b) e1 (i2.lx e1) w3
        | some a' =>
          refine k_ifF (tr_some g1) ?_
          walk_at "st"
          refine k_eq rfl ?_
          walk_at "st"
          refine k_ifT (by decide) ?_
          walk_at "st"
          refine k_ixT (e1.sqt s3) rfl ?_
          walk_at "st"
          refine kTup.mk (by walk_at "len") fun t1 H2 e2 _ g2 => ?_
          have g1' : Is K H1 r (trD a') := g1
          exact q _ _ (some (.br a' b)) (e1.trans e2) (br_mk (SqT.of g2) (g1'.lx e2) (i2.lx (e1.trans e2))) w3
      · have z1 : bt k p = 1 := by omega
        have hu1 : ∃ x ∈ b.lvs, x.k = k := by
          rcases List.mem_append.mp hu with h | h
          · have := (bt_of (b := 0) hp (hl u h) (by decide)).2
            rw [eu] at this
            omega
          · exact ⟨u, h, eu⟩
        rw [z1]
        refine k_ixT s3 rfl ?_
        walk_at "st"
        refine ⟨y, nm, k, b, rfl, i2, w2, by omega, hn, hu1, fun r H1 o e1 g1 wo => ?_⟩
        walk_at "st"
        have w3 := wo_right hp hl hr2 w1 hc z1 wo
        cases o with
        | none =>
          obtain rfl := tr_none g1
          refine k_ifT rfl ?_
          walk_at "st"
          refine k_ixT (e1.sqt s3) rfl ?_
          walk_at "st"
          exact q x H1 (some a) e1 (i1.lx e1) w3
        | some b' =>
          refine k_ifF (tr_some g1) ?_
          walk_at "st"
          refine k_eq rfl ?_
          walk_at "st"
          refine k_ifF (by decide) ?_
          walk_at "st"
          refine k_ixT (e1.sqt s3) rfl ?_
          walk_at "st"
          refine kTup.mk (by walk_at "len") fun t1 H2 e2 _ g2 => ?_
          have g1' : Is K H1 r (trD b') := g1
          exact q _ _ (some (.br a b')) (e1.trans e2) (br_mk (SqT.of g2) (i1.lx (e1.trans e2)) (g1'.lx e2)) w3
theorem ok_without (Z : Zed w K mg) : ∀ n, Fn P w K mg base CX0 (n + 5) (He.ga K "without") (spWithout K n)
  | 0 => Fn.vac (F_without Z) sc_without (fun _ _ _ _ _ _ us hl => match us, hl with | [_, _], _ => rfl) fun vs H Q E h => by
    obtain ⟨v, nm, k, t, rfl, _, _, hd, _⟩ := h
    exact Nat.not_lt_zero _ hd
  | n + 1 => st_without Z n (ok_without Z n)
def spDrop (K : PySem.W.Frag) : Sp := fun vs H Q _ => ∃ (v : V) (nm : Str) (k : Nat) (t : Tree), vs = [v, .str nm] ∧ Is K H v (trD t) ∧ Wf Nm t ∧ (nm, k) ∈ nmL ∧ (∃ x ∈ t.lvs, x.k = k) ∧
  ∀ r H' o, Le H H' → Is K H' r (optD o) → Wo Nm t k o → Q r H'
theorem ok_drop (Z : Zed w K mg) : Fn P w K mg base CX0 55 (He.ga K "drop") (spDrop K) := by
  have O_get := ok_get (P := P) (base := base) Z
  have O_without := ok_without (P := P) (base := base) Z 49
  refine Fn.of0 (F_drop Z) sc_drop (fun _ _ _ _ _ _ us hl => match us, hl with | [_, _], _ => rfl) (fun vs H Q E h => ?_) (fun cdv A outer s H vs Q E hr h => ?_)
  · obtain ⟨v, nm, k, t, rfl, _⟩ := h
    rfl
  · obtain ⟨v, nm, k, t, rfl, ht, hw, hn, ⟨u, hu, eu⟩, q⟩ := h
    refine ⟨_, (pss_cons (ps_if (pt_cmpR op_isN (pe_f O_get hr (by decide) Z.g_get pass0 (pa_cons (pv 0) (pa_cons (pv 1) pa_nil))) pe_non (nomark _)) (pss_one ps_never) pss_nil) (pss_one (ps_ret (pe_f O_without hr (by decide) Z.g_without pass0 (pa_cons (pv 0) (pa_cons (pv 1) pa_nil)))))), ?_⟩
    walk_at "go"
    refine ⟨v, nm, k, some t, rfl, ht, fun t' e => by cases e; exact hw, hn, fun no => absurd eu (no t rfl u hu), fun L r t' _ _ _ hL => ?_⟩
    walk_at "st"
    refine k_ifF (tr_some (t := .leaf L) (by rw [leaf_tr]; exact hL)) ?_
    walk_at "st"
    exact ⟨v, nm, k, t, rfl, ht, hw, dep_lt hw, hn, ⟨u, hu, eu⟩, q⟩
/-! ### leaves_of -/
theorem len_sub {α : Type} [DecidableEq α] : ∀ {l m : List α}, l.Nodup → (∀ x ∈ l, x ∈ m) → l.length ≤ m.length
  | [], m, _, _ => Nat.zero_le _
  | a :: l, m, nd, h => by
    obtain ⟨n1, n2⟩ := List.nodup_cons.mp nd
    have hm := h a List.mem_cons_self
    have ih := len_sub (l := l) (m := m.erase a) n2 fun x hx => (List.mem_erase_of_ne (fun e => n1 (by rw [← e]; exact hx))).mpr (h x (List.mem_cons_of_mem _ hx))
    rw [List.length_erase_of_mem hm] at ih
    have : 0 < m.length := List.length_pos_of_mem hm
    show l.length + 1 ≤ m.length
    omega
theorem nm_count : nmL.length = 26 := by decide +kernel
theorem Wf.count {t : Tree} (h : Wf Nm t) : t.lvs.length ≤ 26 := by
  have nd : (t.lvs.map fun l => (l.n, l.k)).Nodup := by
    rw [List.nodup_iff_pairwise_ne, List.pairwise_map]
    exact h.nodup.imp fun {a b} hk e => hk (Prod.mk.inj e).2
  have := len_sub nd (m := nmL) fun x hx => by
    obtain ⟨l, hl, rfl⟩ := List.mem_map.mp hx
    exact (h.all l hl).1
  rw [List.length_map, nm_count] at this
  exact this
def lvsO (o : Option Tree) : List Leaf := (o.map Tr.lvs).getD []
def spLeaves (K : PySem.W.Frag) (n : Nat) : Sp := fun vs H Q _ => ∃ (v : V) (o : Option Tree), vs = [v] ∧ 0 < n ∧ Is K H v (optD o) ∧ WfO o ∧ (∀ t, o = some t → t.dep < n) ∧
  ∀ r xs H', Le H H' → H r = none → H' r = some (.lst xs) → Isl K H' xs ((lvsO o).map leafD) → Q (.ref r) H'
theorem st_leaves_of (Z : Zed w K mg) (n : Nat) (O_leaves_of : Fn P w K mg base CX0 (n + 1) (He.ga K "leaves_of") (spLeaves K n)) : Fn P w K mg base CX0 (n + 1 + 1) (He.ga K "leaves_of") (spLeaves K (n + 1)) := by
  refine Fn.of0 (F_leaves_of Z) sc_leaves_of (fun _ _ _ _ _ _ us hl => match us, hl with | [_], _ => rfl) (fun vs H Q E h => ?_) (fun cdv A outer s H vs Q E hr h => ?_)
  · obtain ⟨v, o, rfl, _⟩ := h
    rfl
  · obtain ⟨v, o, rfl, _, ht, hw, hd, q⟩ := h
    refine ⟨_, (pss_cons (ps_if (PW.pt (pw_or (pt_cmpR op_isN (pv 0) pe_non (nomark _)) (pw_or1 (pt_cmpR op_eq (pe_ix ix_tup (pv 0) pe_int (fun _ _ => rfl)) pe_str (nomark _))))) (pss_one (ps_ret (pe_lst pa_nil))) pss_nil) (pss_cons (ps_if (pt_cmpR op_eq (pe_ix ix_tup (pv 0) pe_int (fun _ _ => rfl)) pe_str (nomark _)) (pss_one (ps_ret (pe_lst (pa_cons (pv 0) pa_nil)))) pss_nil) (pss_one (ps_ret (pe_op op_cat (pe_f O_leaves_of hr (by omega) Z.g_leaves_of pass0 (pa_cons (pe_ix ix_tup (pv 0) pe_int (fun _ _ => rfl)) pa_nil)) (pe_f O_leaves_of hr (by omega) Z.g_leaves_of pass0 (pa_cons (pe_ix ix_tup (pv 0) pe_int (fun _ _ => rfl)) pa_nil))))))), ?_⟩
    walk_at "go"
    cases o with
    | none =>
      obtain rfl := tr_none ht
      refine k_ifT rfl ?_
      walk_at "st"
      refine k_ifT rfl ?_
      walk_at "st"
      refine kLst.mk (by walk_at "len") fun p H1 e1 n1 g1 => ?_
      exact q p [] H1 e1 n1 g1 .nil
    | some t =>
      have hw := hw t rfl
      have hd := hd t rfl
      refine k_ifF (tr_some ht) ?_
      walk_at "st"
      cases hw with
      | @leaf l hl =>
        have ht : Is K H v (leafD l) := by rw [← leaf_tr]; exact ht
        obtain ⟨p3, p4, p5, rfl, s3, _, _⟩ := leaf_inv ht
        refine k_ixT s3 rfl ?_
        walk_at "st"
        refine k_eq rfl ?_
        walk_at "st"
        refine k_ifF lf_ne_cut ?_
        walk_at "st"
        refine k_ixT s3 rfl ?_
        walk_at "st"
        refine k_eq rfl ?_
        walk_at "st"
        refine k_ifT lf_eq_lf ?_
        walk_at "st"
        refine kLst.mk (by walk_at "len") fun p H1 e1 n1 g1 => ?_
        exact q p _ H1 e1 n1 g1 (.cons (ht.lx e1) .nil)
      | @br a b p cc hp hl hr2 w1 w2 =>
        have hd2 : max a.dep b.dep + 1 < n + 1 := hd
        have cn := (show Wf Nm (Tr.br a b) from .br p cc hp hl hr2 w1 w2).count
        have cn2 : a.lvs.length + b.lvs.length ≤ 26 := by rw [← List.length_append]; exact cn
        obtain ⟨p3, x, y, rfl, s3, i1, i2⟩ := br_inv ht
        refine k_ixT s3 rfl ?_
        walk_at "st"
        refine k_eq rfl ?_
        walk_at "st"
        refine k_ifF br_ne_cut ?_
        walk_at "st"
        refine k_ixT s3 rfl ?_
        walk_at "st"
        refine k_eq rfl ?_
        walk_at "st"
        refine k_ifF br_ne_lf ?_
        walk_at "st"
        refine k_ixT s3 rfl ?_
        walk_at "st"
        refine ⟨x, some a, rfl, by omega, i1, fun t e => by cases e; exact w1, fun t e => by cases e; omega, fun r1 xs1 H1 e1 n1 g1 j1 => ?_⟩
        walk_at "st"
        refine k_ixT (e1.sqt s3) rfl ?_
        walk_at "st"
        refine ⟨y, some b, rfl, by omega, i2.lx e1, fun t e => by cases e; exact w2, fun t e => by cases e; omega, fun r2 xs2 H2 e2 n2 g2 j2 => ?_⟩
        have l1 := j1.length
        have l2 := j2.length
        have l3 : xs1.length = a.lvs.length := by rw [l1, List.length_map]; rfl
        have l4 : xs2.length = b.lvs.length := by rw [l2, List.length_map]; rfl
        refine k_cat (e2.lst g1) g2 (by omega) fun r3 H3 e3 n3 g3 => ?_
        refine q r3 _ H3 ((e1.trans e2).trans e3) (e1.dom _ (e2.dom _ n3)) g3 ?_
        have e : (lvsO (some (Tr.br a b))).map leafD = (lvsO (some a)).map leafD ++ (lvsO (some b)).map leafD := by
          rw [← List.map_append]
          rfl
        rw [e]
        exact (Isl.lx (e2.trans e3) j1).append (Isl.lx e3 j2)
theorem ok_leaves_of (Z : Zed w K mg) : ∀ n, Fn P w K mg base CX0 (n + 1) (He.ga K "leaves_of") (spLeaves K n)
  | 0 => Fn.vac (F_leaves_of Z) sc_leaves_of (fun _ _ _ _ _ _ us hl => match us, hl with | [_], _ => rfl) fun vs H Q E h => by
    obtain ⟨v, o, rfl, h0, _⟩ := h
    exact Nat.not_lt_zero _ h0
  | n + 1 => st_leaves_of Z n (ok_leaves_of Z n)
/-! ### prune -/
def spCut (K : PySem.W.Frag) : Sp := fun vs H Q _ => ∃ (s : Addr) (m : Int) (v : V) (t : Tree), vs = [.ref s, v] ∧ SeA K H s m ∧ Is K H v (trD t) ∧ Wf Nm t ∧ ∀ r H', Le H H' → Q r H'
theorem ok_cut_off (Z : Zed w K mg) : Fn P w K mg base CX0 55 (He.ga K "cut_off") (spCut K) := by
  have O_summary_of := ok_summary_of (P := P) (base := base) Z 49
  refine Fn.of0 (F_cut_off Z) sc_cut_off (fun _ _ _ _ _ _ us hl => match us, hl with | [_, _], _ => rfl) (fun vs H Q E h => ?_) (fun cdv A outer s H vs Q E hr h => ?_)
  · obtain ⟨s, m, v, t, rfl, _⟩ := h
    rfl
  · obtain ⟨s, m, v, t, rfl, hs, ht, hw, q⟩ := h
    refine ⟨_, (pss_one (ps_ret (pe_tup (pa_cons pe_str (pa_cons (pe_f O_summary_of hr (by decide) Z.g_summary_of pass0 (pa_cons (pv 0) (pa_cons (pv 1) pa_nil))) pa_nil))))), ?_⟩
    walk_at "go"
    refine ⟨s, m, v, t, rfl, hs, ht, hw, dep_lt hw, fun r H1 e1 g1 => ?_⟩
    walk_at "st"
    refine kTup.mk (by walk_at "len") fun p H2 e2 n2 g2 => ?_
    exact q _ _ (e1.trans e2)
def spPrune (K : PySem.W.Frag) (n : Nat) : Sp := fun vs H Q _ => ∃ (s : Addr) (m : Int) (v : V) (o : Option Tree) (a : Addr) (ns : List Str), vs = [.ref s, v, .ref a] ∧ 0 < n ∧ SeA K H s m ∧ Is K H v (optD o) ∧ WfO o ∧ (∀ t, o = some t → t.dep < n) ∧
  H a = some (.lst (ns.map V.str)) ∧ ns.length ≤ 1000 ∧ (∀ x ∈ ns, ∃ k, (x, k) ∈ nmL) ∧ ∀ r H', Le H H' → Q r H'
theorem st_prune (Z : Zed w K mg) (n : Nat) (O_prune : Fn P w K mg base CX0 (n + 56) (He.ga K "prune") (spPrune K n)) : Fn P w K mg base CX0 (n + 1 + 56) (He.ga K "prune") (spPrune K (n + 1)) := by
  have O_cut_off := ok_cut_off (P := P) (base := base) Z
  have O_goes_into := ok_goes_into (P := P) (base := base) Z
  refine Fn.of0 (F_prune Z) sc_prune (fun _ _ _ _ _ _ us hl => match us, hl with | [_, _, _], _ => rfl) (fun vs H Q E h => ?_) (fun cdv A outer s H vs Q E hr h => ?_)
  · obtain ⟨s, m, v, o, a, ns, rfl, _⟩ := h
    rfl
  · obtain ⟨s, m, v, o, a, ns, rfl, _, hs, ht, hw, hd, hL, hl, hn, q⟩ := h
    refine ⟨_, (pss_cons (ps_if (pt_cmpR op_isN (pv 1) pe_non (nomark _)) (pss_one (ps_ret pe_non)) pss_nil) (pss_cons (ps_if (pt_not (pt_val (pe_callB (cr_any rfl) (by rfl) Z.n_any (by decide +kernel) (pa_cons (pe_lc (own := [("name", 3)]) rfl sc_prune.nd (pi_list (pv 2)) (blkOk_by (own := [("name", 3)]) (N := ["sealer", "tree", "names", "name"]) (sc := defScope s_prune) (by decide +kernel)) (fun _ _ _ _ _ => (pg_name (i := 3) sc_prune.nd rfl (Or.inl rfl))) (fun _ _ _ _ _ => pts_nil) (fun _ _ _ _ _ => (pe_f O_goes_into hr (by omega) Z.g_goes_into pass0 (pa_cons (pv 1) (pa_cons (pv 3) pa_nil))))) pa_nil)))) (pss_one (ps_ret (pe_f O_cut_off hr (by omega) Z.g_cut_off pass0 (pa_cons (pv 0) (pa_cons (pv 1) pa_nil))))) pss_nil) (pss_cons (ps_if (pt_cmpR op_ne (pe_ix ix_tup (pv 1) pe_int (fun _ _ => rfl)) pe_str (nomark _)) (pss_one (ps_ret (pv 1))) pss_nil) (pss_one (ps_ret (pe_tup (pa_cons pe_str (pa_cons (pe_f O_prune hr (by omega) Z.g_prune pass0 (pa_cons (pv 0) (pa_cons (pe_ix ix_tup (pv 1) pe_int (fun _ _ => rfl)) (pa_cons (pv 2) pa_nil)))) (pa_cons (pe_f O_prune hr (by omega) Z.g_prune pass0 (pa_cons (pv 0) (pa_cons (pe_ix ix_tup (pv 1) pe_int (fun _ _ => rfl)) (pa_cons (pv 2) pa_nil)))) pa_nil))))))))), ?_⟩
    walk_at "go"
    cases o with
    | none =>
      obtain rfl := tr_none ht
      refine k_ifT rfl ?_
      walk_at "st"
      exact q _ H Lx.refl
    | some t =>
      have hw := hw t rfl
      have hd := hd t rfl
      refine k_ifF (tr_some ht) ?_
      walk_at "st"
      refine kIL.mk (SqL.of hL) (kLc.go (walk_list (xs := ns.map V.str)) (by walk_at "len") (fun i acc _ => ∃ bs : List Bool, acc = bs.map V.bl) (fun _ _ _ _ _ _ z => z) ⟨[], rfl⟩ (fun _ e => e.sql (SqL.of hL)) (fun E Nx i acc x H1 H2 hi e ⟨bs, p⟩ y fin _ => ?_) fun p acc H' e _ hp _ ⟨bs, hb⟩ => ?_)
      · obtain ⟨rfl, hx⟩ := y
        rw [List.getElem?_map] at hx
        obtain ⟨nm, hnm, rfl⟩ := Option.map_eq_some_iff.mp hx
        obtain ⟨k, hk⟩ := hn nm (List.mem_of_getElem? hnm)
        refine ⟨rfl, ?_⟩
        walk_at "st"
        refine k_ifT rfl ?_
        walk_at "st"
        refine ⟨v, nm, k, t, rfl, ht.lx e, hw, hk, fun b _ => fin _ _ Lx.refl ⟨bs ++ [b], by rw [p, List.map_append]; rfl⟩⟩
      · walk_at "st"
        rw [hb] at hp
        refine k_any (SqL.of hp) ?_
        walk_at "st"
        cases bs.any id with
        | false =>
          refine k_ifT rfl ?_
          walk_at "st"
          exact ⟨s, m, v, t, rfl, hs.le e, ht.lx e, hw, fun r H1 e1 => q _ _ (e.trans e1)⟩
        | true =>
          refine k_ifF rfl ?_
          walk_at "st"
          cases hw with
          | @leaf l hl =>
            have ht : Is K H v (leafD l) := by rw [← leaf_tr]; exact ht
            obtain ⟨p3, p4, p5, rfl, s3, _, _⟩ := leaf_inv ht
            refine k_ixT (e.sqt s3) rfl ?_
            walk_at "st"
            refine k_ne rfl ?_
            walk_at "st"
            refine k_ifT (by rw [lf_ne_br]; rfl) ?_
            walk_at "st"
            exact q _ _ e
          | @br a1 b1 pp cc hp hl2 hr2 w1 w2 =>
            have hd2 : max a1.dep b1.dep + 1 < n + 1 := hd
            obtain ⟨p3, x, y, rfl, s3, i1, i2⟩ := br_inv ht
            refine k_ixT (e.sqt s3) rfl ?_
            walk_at "st"
            refine k_ne rfl ?_
            walk_at "st"
            refine k_ifF (by rw [br_eq_br]; rfl) ?_
            walk_at "st"
            refine k_ixT (e.sqt s3) rfl ?_
            walk_at "st"
            refine ⟨s, m, x, some a1, a, ns, rfl, by omega, hs.le e, i1.lx e, fun t e => by cases e; exact w1, fun t e => by cases e; omega, e.lst hL, hl, hn, fun r1 H1 e1 => ?_⟩
            walk_at "st"
            have e2 := e.trans e1
            refine k_ixT (e2.sqt s3) rfl ?_
            walk_at "st"
            refine ⟨s, m, y, some b1, a, ns, rfl, by omega, hs.le e2, i2.lx e2, fun t e => by cases e; exact w2, fun t e => by cases e; omega, e2.lst hL, hl, hn, fun r2 H2 e3 => ?_⟩
            refine kTup.mk (by walk_at "len") fun p4 H3 e4 _ g4 => ?_
            exact q _ _ ((e2.trans e3).trans e4)
theorem ok_prune (Z : Zed w K mg) : ∀ n, Fn P w K mg base CX0 (n + 56) (He.ga K "prune") (spPrune K n)
  | 0 => Fn.vac (F_prune Z) sc_prune (fun _ _ _ _ _ _ us hl => match us, hl with | [_, _, _], _ => rfl) fun vs H Q E h => by
    obtain ⟨s, m, v, o, a, ns, rfl, h0, _⟩ := h
    exact Nat.not_lt_zero _ h0
  | n + 1 => st_prune Z n (ok_prune Z n)
end G
end
section
set_option Elab.async false
set_option linter.all false
set_option maxRecDepth 100000
set_option maxHeartbeats 4000000
namespace G
open PySem PySem.Spec PyProof.Rows L2
/-! ### sets of texts -/
abbrev sK (P : Program) (w : World) := PySem.strKind P w
/-- the set of texts at a -/
def SetX (P : Program) (w : World) (h : Heap) (a : Addr) (S : Str → Bool) (n : Nat) : Prop :=
  ∃ o es ep t, h.get? a = some o ∧ o.ExactSet ∧ o.data = .set es ep t ∧ ElemsOf (sK P w) es.toList ∧ (∀ k, S k = true ↔ ∃ e ∈ es.toList, (sK P w).is k e.2 = true) ∧
    es.size < scanBound ∧ t.fits es.size = true ∧ es.size = n ∧ Ris t.place.toList ∧ (w.params.followText "set-order" = true ∨ t.led = true)
section
variable {P : Program} {w : World} {A : Around} {E : Value → Shared → Prop} {s : Shared} {a : Addr} {S : Str → Bool} {n : Nat}
theorem SetX.at {h h' : Heap} (R : SetX P w h a S n) (k : ∀ o, h.get? a = some o → h'.get? a = some o) : SetX P w h' a S n := by
  obtain ⟨o, es, ep, t, ho, r⟩ := R; exact ⟨o, es, ep, t, k o ho, r⟩
theorem SetX.congr {h : Heap} {S' : Str → Bool} {m : Nat} (R : SetX P w h a S n) (e : ∀ k, S' k = S k) (em : m = n) : SetX P w h a S' m := by
  have q : S' = S := funext e
  rw [q, em]; exact R
theorem SetX.setOf {h : Heap} (R : SetX P w h a S n) : h.SetOf (sK P w) a S n := by
  obtain ⟨o, es, ep, t, h1, h2, h3, h4, h5, h6, h7, h8, _⟩ := R
  exact ⟨o, es, ep, t, h1, h2, h3, h4, h5, h6, h7, h8⟩
theorem xStore {h : Heap} {o : Obj} {es es2 : Array (Int × Value)} {ep : Nat} {t u : SetTable} (ho : h.get? a = some o) (hd : o.data = .set es ep t) :
    (h.update a (Obj.putSet es2 u)).get? a = some { o with data := .set es2 (ep + 1) u } := by
  have q := Heap.get?_update_self (Obj.putSet es2 u) ho (by rw [putSet_of es2 u hd]; rfl)
  rw [putSet_of es2 u hd] at q; exact q
theorem xTail {g : Bool → Sem Unit} (hg : ∀ (b : Bool) (s1 : Shared) (Q' : Unit → Shared → Prop), Q' () s1 → wpAny (model P w) A (g b) Q' E s1)
    {o : Obj} {es : Array (Int × Value)} {ep : Nat} {t : SetTable} (ho : s.heap.get? a = some o) (hx : o.ExactSet) (hd : o.data = .set es ep t)
    {e1 : Array (Int × Value)} {u : SetTable} {S' : Str → Bool} (g1 : ElemsOf (sK P w) e1.toList) (m1 : ∀ k, S' k = true ↔ ∃ e ∈ e1.toList, (sK P w).is k e.2 = true)
    (hb : e1.size < scanBound) (hf : u.fits e1.size = true) (hr : Ris u.place.toList) (hl : w.params.followText "set-order" = true ∨ u.led = true) {wd : Bool} {R : Option Bool → Shared → Prop}
    (hR : ∀ h', Heap.SameBut a s.heap h' → SetX P w h' a S' e1.size → R (some true) { s with heap := h' }) :
    wpAny (model P w) A (do
        storeSet a e1 u
        if (!wd && u.tooFull) = true then do
            g (relayAll u e1 (SetTable.grown e1.size)).2.2
            storeSet a (relayAll u e1 (SetTable.grown e1.size)).1 (relayAll u e1 (SetTable.grown e1.size)).2.1
            pure (some true)
          else pure (some true)) R E s := by
  refine wpAny_bind (wpAny_storeSet_of ho hd ?_ (fits_of_scanBound hb))
  have o1 := xStore (es2 := e1) (u := u) ho hd
  have b1 := Heap.SameBut.update s.heap a (Obj.putSet e1 u)
  split
  · have pm := relayAll_perm u e1 (SetTable.grown e1.size)
    have f3 := relayAll_fits u e1 (SetTable.grown e1.size)
    have r3 := relayAll_ris u e1 (SetTable.grown e1.size)
    have l3 := relayAll_led u e1 (SetTable.grown e1.size)
    generalize relayAll u e1 (SetTable.grown e1.size) = Z at pm f3 r3 l3 ⊢
    obtain ⟨e2, t3, gv⟩ := Z
    dsimp only at pm f3 r3 l3 ⊢
    have hsz : e2.size = e1.size := by rw [← Array.length_toList, pm.length_eq, Array.length_toList]
    have hb2 : e2.size < scanBound := hsz ▸ hb
    refine wpAny_bind (hg _ _ _ (wpAny_bind (wpAny_storeSet_of o1 rfl ?_ (fits_of_scanBound hb2))))
    have o2 := xStore (es2 := e2) (u := t3) o1 rfl
    refine wpAny_pure (hR _ (b1.trans (Heap.SameBut.update _ a _)) ?_)
    refine ⟨_, e2, _, t3, o2, hx, rfl, fun e he => g1 e (pm.mem_iff.mp he), fun k => ?_, hb2, f3, hsz, r3, hl.imp id fun z => l3.trans z⟩
    rw [m1 k]
    exact ⟨fun ⟨e, he, q⟩ => ⟨e, pm.mem_iff.mpr he, q⟩, fun ⟨e, he, q⟩ => ⟨e, pm.mem_iff.mp he, q⟩⟩
  · exact wpAny_pure (hR _ b1 ⟨_, e1, _, u, o1, hx, rfl, g1, m1, hb, hf, rfl, hr, hl⟩)
theorem is_text {k j : Str} {tk : Tok} : (sK P w).is j (.str k tk) = true ↔ j = k :=
  ⟨fun z => (sK P w).inj (.str k tk) j k z (strKind_is _ _ _ _), fun z => z ▸ strKind_is _ _ _ _⟩
/-- setAdd of a text, its hash known -/
theorem xAdd {k : Str} {tk : Tok} {Q : Bool → Shared → Prop} (R : SetX P w s.heap a S n) (room : n + 1 < scanBound)
    (hQ : ∀ h' b, Heap.SameBut a s.heap h' → SetX P w h' a (fun j => S j || decide (j = k)) (if S k = true then n else n + 1) → Q b { s with heap := h' }) :
    wpAny (model P w) A (setAddHashed a (.str k tk) ((sK P w).hash k)) Q E s := by
  obtain ⟨o, es, ep, t, ho, hx, hd, g, hm, hb, hf, hn, hr, hl⟩ := R
  have hkey : (sK P w).is k (.str k tk) = true := strKind_is _ _ _ _
  have hsc : (Value.str k tk).scannable = true := rfl
  unfold setAddHashed setAddHashedIn
  refine wpAny_holding (wpAny_bind (wpAny_setState_of ho hd hf ?_))
  dsimp only
  rw [byScan_of hsc hb g]
  simp only [↓reduceIte]
  unfold setAddByScan
  refine wpAny_bind (wpAny_bind (wpAny_rule (wpAny_bind (wpAny_setScan_of hkey ho hd hf g ?_))))
  cases hfi : List.findIdx? (fun e => (sK P w).is k e.2) es.toList with
  | some j =>
    dsimp only
    obtain ⟨hj, pj, _⟩ := List.findIdx?_eq_some_iff_getElem.mp hfi
    have hSk : S k = true := (hm k).2 ⟨es.toList[j], List.getElem_mem hj, pj⟩
    refine wpAny_pure (wpAny_pure (hQ s.heap _ (Heap.SameBut.refl a s.heap) ⟨o, es, ep, t, ho, hx, hd, g, fun i => ?_, hb, hf, by rw [if_pos hSk]; exact hn, hr, hl⟩))
    rw [Bool.or_eq_true, decide_eq_true_eq, ← hm i]
    exact ⟨fun z => z.elim id (fun e => e ▸ hSk), .inl⟩
  | none =>
    dsimp only
    have hno : ∀ e ∈ es.toList, (sK P w).is k e.2 = false := fun e he => List.findIdx?_eq_none_iff.mp hfi e he
    have hSk : S k = false := by
      cases q : S k with
      | false => rfl
      | true =>
        obtain ⟨e, he, z⟩ := (hm k).1 q
        rw [hno e he] at z
        cases z
    have hgw : ∀ (b : Bool) {s1 : Shared} {Q' : Unit → Shared → Prop}, Q' () s1 → wpAny (model P w) A (match b with | true => rule "set.scan.the-table-gave-way" | false => pure ()) Q' E s1 :=
      fun b s1 Q' q => by
        cases b
        · exact wpAny_pure q
        · exact wpAny_rule q
    have pm := layNew_perm t es ((sK P w).hash k) (.str k tk)
    have f1 := layNew_fits t es ((sK P w).hash k) (.str k tk)
    have r1 := layNew_ris t es ((sK P w).hash k) (.str k tk) hr
    have l1 := layNew_led t es ((sK P w).hash k) (.str k tk)
    generalize layNew t es ((sK P w).hash k) (.str k tk) = Z at pm f1 r1 l1 ⊢
    obtain ⟨e1, t1, wd, gv⟩ := Z
    dsimp only at pm f1 r1 l1 ⊢
    rw [Array.toList_push] at pm
    have pc : e1.toList.Perm (((sK P w).hash k, Value.str k tk) :: es.toList) := pm.trans (List.perm_append_singleton _ _)
    have g1 : ElemsOf (sK P w) e1.toList := fun e he => by
      rcases List.mem_cons.mp (pc.mem_iff.mp he) with z | z
      · subst z; exact ⟨⟨k, hkey, rfl⟩, hsc⟩
      · exact g e z
    have m1 : ∀ i, (S i || decide (i = k)) = true ↔ ∃ e ∈ e1.toList, (sK P w).is i e.2 = true := fun i => by
      rw [Bool.or_eq_true, decide_eq_true_eq, hm i]
      constructor
      · rintro (⟨e, he, q⟩ | rfl)
        · exact ⟨e, pc.mem_iff.mpr (List.mem_cons_of_mem _ he), q⟩
        · exact ⟨_, pc.mem_iff.mpr List.mem_cons_self, hkey⟩
      · rintro ⟨e, he, q⟩
        rcases List.mem_cons.mp (pc.mem_iff.mp he) with z | z
        · subst z; exact .inr (is_text.mp q)
        · exact .inl ⟨e, z, q⟩
    have hsz : e1.size = n + 1 := by rw [← Array.length_toList, pc.length_eq, List.length_cons, Array.length_toList, hn]
    have hb1 : e1.size < scanBound := hsz ▸ room
    have hled : w.params.followText "set-order" = true ∨ t1.led = true := hl.imp id fun z => l1.trans z
    have fin : ∀ h' b, Heap.SameBut a s.heap h' → SetX P w h' a (fun j => S j || decide (j = k)) e1.size → Q b { s with heap := h' } := fun h' b sb r => hQ h' b sb (r.congr (fun _ => rfl) (by rw [hSk, if_neg Bool.false_ne_true, hsz]))
    refine wpAny_bind (hgw _ ?_)
    split
    · refine wpAny_bind ?_
      rw [hashByValue_scannable 8 hsc]
      refine wpAny_pure ?_
      refine xTail ?_ ho hx hd g1 m1 hb1 ?_ ?_ ?_ ?_
      · intro b s1 Q' q
        cases b <;> first | exact wpAny_pure q | exact wpAny_rule q
      · first | (split <;> first | exact f1 | exact SetTable.fits_plain_off f1) | exact f1
      · first | (split <;> exact r1) | exact r1
      · first | (split <;> exact hled) | exact hled
      · intro h' sb r
        dsimp only
        exact wpAny_pure (fin h' _ sb r)
    · refine wpAny_bind (wpAny_pure ?_)
      simp only [↓reduceIte]
      refine xTail ?_ ho hx hd g1 m1 hb1 f1 r1 hled ?_
      · intro b s1 Q' q
        cases b <;> first | exact wpAny_pure q | exact wpAny_rule q
      · intro h' sb r
        dsimp only
        exact wpAny_pure (fin h' _ sb r)
theorem xFresh {h : Heap} (ho : h.get? a = some { cls := .type "set", dict := none, data := .set #[] 0 (.fresh 0 0 (!w.params.followText "set-order")) }) : SetX P w h a (fun _ => false) 0 :=
  ⟨_, #[], 0, _, ho, ⟨rfl, rfl, rfl⟩, rfl, (fun e he => by simp at he), (fun k => by simp), (by decide), (by rfl), rfl, List.Pairwise.nil, by
    show _ ∨ (!w.params.followText "set-order") = true
    cases w.params.followText "set-order" <;> first | exact .inr rfl | exact .inl rfl⟩
/-- how many of them are there -/
def cnt : List Str → Nat
  | [] => 0
  | x :: xs => if x ∈ xs then cnt xs else cnt xs + 1
theorem cnt_le : ∀ xs : List Str, cnt xs ≤ xs.length
  | [] => Nat.le_refl _
  | x :: xs => by
    have := cnt_le xs
    unfold cnt
    split <;> simp only [List.length_cons] <;> omega
theorem cnt_nodup : ∀ {xs : List Str}, xs.Nodup → cnt xs = xs.length
  | [], _ => rfl
  | x :: xs, h => by
    obtain ⟨h1, h2⟩ := List.nodup_cons.mp h
    unfold cnt
    rw [if_neg h1, cnt_nodup h2, List.length_cons]
theorem take_snoc {xs : List Str} {i : Nat} {x : Str} (h : xs[i]? = some x) : (xs.take (i + 1)).reverse = x :: (xs.take i).reverse := by
  rw [List.take_add_one, h, List.reverse_append] <;> rfl
theorem xLoop {I : Addr} {fp wr : List Addr} {G : Array GenState → Array GenState → Prop} {m : Nat} {Pv : Nat → Value → Prop} {St : Nat → Shared → Prop} {R : Result → Shared → Prop}
    (W : WalksS P w A.in1 I fp wr G m Pv St) (D : Addr) (hD : D ∉ fp) (xs : List Str) (hm : m = xs.length) (hb : xs.length + 1 < scanBound) (hval : ∀ i v, Pv i v → ∃ k t, xs[i]? = some k ∧ v = .str k t) :
    ∀ (f i : Nat) (s : Shared), m - i = f → i ≤ m → St i s → SetX P w s.heap D (fun j => decide (j ∈ (xs.take i).reverse)) (cnt (xs.take i).reverse) →
      (∀ s', Moved (D :: wr) G s s' → SetX P w s'.heap D (fun j => decide (j ∈ xs.reverse)) (cnt xs.reverse) → R (.ok (.ret .none)) s') →
      codeAny (model P w) A (.builtin "set.update.loop" ⟨[.ref D, .ref I], []⟩) R s := by
  have hDw : D ∉ wr := fun h => hD (W.sub _ h)
  have sub : ∀ b ∈ wr, b ∈ D :: wr := fun b hb => List.mem_cons_of_mem _ hb
  intro f
  induction f with
  | zero =>
    intro i s hk hi hst hS hR
    obtain rfl : i = m := by omega
    refine codeAny_builtin F.entry_set_update_loop ?_
    rw [Around.under_plainId F.plain_set_update_loop _]
    show wpAny _ A.in1 (pyNext (.ref I) >>= _) _ _ s
    refine wpAny_bind (W.done s _ _ hst fun s' mv => ?_)
    have e : xs.take i = xs := List.take_of_length_le (by omega)
    rw [e] at hS
    show wpAny _ A.in1 (ret Value.none) _ _ s'
    exact wpAny_pure (hR s' (mv.mono sub) (hS.at fun o e => mv.heap D o hDw e))
  | succ f ih =>
    intro i s hk hi hst hS hR
    have hlt : i < m := by omega
    refine codeAny_builtin F.entry_set_update_loop ?_
    rw [Around.under_plainId F.plain_set_update_loop _]
    show wpAny _ A.in1 (pyNext (.ref I) >>= _) _ _ s
    refine wpAny_bind (W.item i s _ _ hlt hst fun v s' hP hst' mv => ?_)
    obtain ⟨z, t, hz, rfl⟩ := hval i v hP
    have hS' := hS.at fun o e => mv.heap D o hDw e
    show wpAny _ A.in1 (holding [Value.str z t] (setAdd D (.str z t)) >>= _) _ _ s'
    refine wpAny_bind (wpAny_holding ?_)
    unfold setAdd
    have hc : cnt (xs.take i).reverse + 1 < scanBound := by
      have := cnt_le (xs.take i).reverse
      rw [List.length_reverse, List.length_take] at this
      omega
    refine wpAny_holding (wpAny_bind ((sK P w).pyHash (k := z) (strKind_is _ _ _ _) (xAdd (s := { s' with toks := s'.toks + 1 }) hS' hc fun h' b hsb hS2 => ?_)))
    have hS3 : SetX P w h' D (fun j => decide (j ∈ (xs.take (i + 1)).reverse)) (cnt (xs.take (i + 1)).reverse) := hS2.congr (fun j => by
      rw [take_snoc hz]
      by_cases e : j = z <;> simp [e]) (by
      rw [take_snoc hz]
      show (if z ∈ (xs.take i).reverse then _ else _) = _
      by_cases e : z ∈ (xs.take i).reverse
      · rw [if_pos e, if_pos (decide_eq_true e)]
      · rw [if_neg e, if_neg (by rw [decide_eq_false e]; exact Bool.false_ne_true)])
    refine wpAny_pure ⟨plainId_quiet F.plain_set_update_loop _, ih (i + 1) _ (by omega) hlt (W.frame _ s' _ _ hst' (Nat.le_succ _) fun b hb o e => ?_) hS3 fun s2 mv2 hS4 => ?_⟩
    · rw [hsb.2 b (fun h : b = D => hD (h ▸ hb))]
      exact e
    · refine hR s2 (Moved.trans W.gtrans ((mv.mono sub).then_heap (Nat.le_succ _) fun b o hb e => ?_) mv2) hS4
      rw [hsb.2 b (fun h : b = D => hb (by rw [h]; exact List.mem_cons_self))]
      exact e

abbrev obX (w : World) : Obj := { cls := .type "set", dict := none, data := .set #[] 0 (.fresh 0 0 (!w.params.followText "set-order")) }
set_option maxHeartbeats 8000000 in
/-- set(xs) of a list of texts -/
theorem xMake {l : Addr} {items : Array Value} (xs : List Str) {Q : Value → Shared → Prop} (hh : A.handled = none) (hl : s.heap.IsList l items) (hit : StrsAre items.toList xs) (hb : xs.length + 1 < scanBound)
    (h : ∀ (h' : Heap) (tk : Nat), SetX P w h' s.heap.objs.size (fun j => decide (j ∈ xs.reverse)) (cnt xs.reverse) → (∀ b o, s.heap.get? b = some o → h'.get? b = some o) → Q (.ref s.heap.objs.size) { s with heap := h', toks := tk }) :
    wpAny (model P w) A (call (.type "set") [.ref l]) Q E s := by
  have hsz : items.size = xs.length := by rw [← StrsAre.len_eq hit, Array.length_toList]
  obtain ⟨c, tl, hmro⟩ := F.called_set.mro
  have q1 := F.called_set.made
  have q2 := F.called_set.sub
  refine wpAny_call (codeAny_of_tree ?_)
  show wpAny _ _ (callAny (.type "set") _) _ _ _
  refine wpAny_pure ⟨Code.quiet_builtin _ (by decide +kernel), codeAny_builtin F.entry_type_call ?_⟩
  rw [Around.under_plain (weight_type_call_type "set" [.ref l] []) rfl]
  have q3 := F.called_set.notType
  have q4 := F.called_set.canCreate
  have q5 := F.typeCall_set_1 (.ref l)
  repeat (any_goals (first | assumption | wp_step))
  refine codeAny_mono (code_set_led1 (.ref l) (E := E) (Q₁ := fun ob s1 => ob = .ref s.heap.objs.size ∧ s1 = { s with heap := s.heap.push (obX w) }) ⟨rfl, rfl⟩) fun r s1 hr => ?_
  cases r with
  | error e => exact hr
  | ok fl =>
    cases fl with
    | ret ob =>
      obtain ⟨rfl, rfl⟩ := hr
      have hS : (s.heap.push (obX w)).get? s.heap.objs.size = some (obX w) := Heap.get?_push_size _ rfl
      have hT : Shared.TypeIs { s with heap := s.heap.push (obX w) } (.ref s.heap.objs.size) "set" := ⟨_, hS, rfl⟩
      have q6 := F.called_set.init.lookup
      have q7 := F.called_set.init.bind (.ref s.heap.objs.size)
      repeat (any_goals (first | assumption | wp_step))
      refine codeAny_mono (codeAny_call_builtin (R := wants (fun r s2 => r = .none ∧ ∃ h' tk, s2 = { s with heap := h', toks := tk } ∧ SetX P w h' s.heap.objs.size (fun j => decide (j ∈ xs.reverse)) (cnt xs.reverse) ∧
          (∀ b o, s.heap.get? b = some o → h'.get? b = some o)) E) F.called_set.init.plain F.entry_set_init (check_set_init_1 hT ?_)) fun r2 s2 hr2 => ?_
      · obtain ⟨ol, hol, hcl, nl, hdl⟩ := hl
        obtain ⟨oc, od, oa, os⟩ := ol
        simp only at hcl hdl
        subst hcl
        subst hdl
        have hol1 : (s.heap.push (obX w)).get? l = some { cls := .type "list", dict := od, data := .seq items nl, slots := os } := Heap.get?_push_of_some _ hol
        have q8 := F.sub_list_set
        have q9 := F.sub_list_frozenset
        have q10 : (Value.type "list" == Value.type "dict") = false := by decide
        have hl1 : (s.heap.push (obX w)).IsList l items := ⟨_, hol1, rfl, nl, rfl⟩
        unfold Builtin.«set.__init__» noKeywords Builtin.Frozenset.updateFrom
        generalize hPI : pyIter = PI
        wp_walk
        subst hPI
        refine wpAny_pyIter_list hl1 (wpAny_bind (wpAny_runValue ?_))
        have hlS : l < s.heap.objs.size := Heap.lt_size hol
        have hh3 : A.in1.in1.in1.handled = none := by simp [hh]
        have hneI : l ≠ (s.heap.push (obX w)).objs.size := by
          rw [Heap.size_push]
          exact Nat.ne_of_lt (Nat.lt_succ_of_lt hlS)
        have hD : s.heap.objs.size ∉ [(s.heap.push (obX w)).objs.size, l] := by
          rw [Heap.size_push]
          intro z
          rcases List.mem_cons.mp z with z | z
          · exact Nat.ne_of_lt (Nat.lt_succ_self _) z
          · exact Nat.ne_of_gt hlS (List.mem_singleton.mp z)
        have hval : ∀ (i : Nat) (v : Value), items[i]? = some v → ∃ k t, xs[i]? = some k ∧ v = .str k t := fun i v hv => by
          have hi : i < xs.length := hsz ▸ (Array.getElem?_eq_some_iff.mp hv).1
          obtain ⟨t, e⟩ := SS.strs_at hit i v (by rw [Array.getElem?_toList]; exact hv)
          refine ⟨xs[i], t, List.getElem?_eq_getElem hi, ?_⟩
          rw [e, List.getD_eq_getElem?_getD, List.getElem?_eq_getElem hi] <;> rfl
        refine xLoop ((Walks.list hh3 _ l hneI items).toS) s.heap.objs.size hD xs hsz hb hval (items.size - 0) 0 _ (by omega) (Nat.zero_le _) ⟨⟨_, Heap.get?_push_size _ rfl, rfl, rfl⟩, (hl1.push _)⟩ ?h0 ?h1
        case h0 => exact xFresh (Heap.get?_push_of_some _ hS)
        case h1 =>
          intro s3 mv hS3
          obtain ⟨h3, g3, d3, tk3, os3⟩ := s3
          have eg : g3 = s.gens := mv.gens
          have ed : d3 = s.drawn := mv.drawn
          have eo : os3 = s.os := mv.os
          subst eg ed eo
          show wpAny _ _ _ _ _ _
          refine wpAny_pure ?_
          show wpAny _ _ (ret Value.none) _ _ _
          refine wpAny_pure ⟨rfl, h3, tk3, rfl, hS3, fun b o e => ?_⟩
          have b0 : b < s.heap.objs.size := Heap.lt_size e
          refine mv.heap b o (fun z => ?_) (Heap.get?_push_of_some _ (Heap.get?_push_of_some _ e))
          rcases List.mem_cons.mp z with z | z
          · exact Nat.ne_of_lt b0 z
          · have z := List.mem_singleton.mp z
            rw [Heap.size_push] at z
            exact Nat.ne_of_lt (Nat.lt_succ_of_lt b0) z
      · cases r2 with
        | error e => exact hr2
        | ok fl2 =>
          cases fl2 with
          | ret r =>
            obtain ⟨rfl, h3, tk3, rfl, hS3, k3⟩ := hr2
            repeat (any_goals (first | assumption | wp_step))
            exact h _ _ hS3 k3
          | _ => exact hr2.elim
    | _ => exact hr.elim
end
end G
end
section
set_option Elab.async false
set_option linter.all false
set_option maxRecDepth 100000
set_option maxHeartbeats 4000000
namespace G
open PySem PySem.Spec PyProof.Rows L2
section
variable {P : Program} {w : World} {A : Around} {E : Value → Shared → Prop} {s : Shared} {a : Addr} {S : Str → Bool} {n : Nat}
theorem xSorted {Q : Value → Shared → Prop} (R : SetX P w s.heap a S n) (hh : A.handled = none) (h64 : n < 64)
    (hQ : ∀ s' p (out : Array Value) (c : Nat) (ys : List Str), (∀ b o, s.heap.get? b = some o → s'.heap.get? b = some o) → s'.gens = s.gens → s'.os = s.os → s.heap.objs.size ≤ p →
      s'.heap.get? p = some (seqObj "list" out c) → StrsAre out.toList ys → (∀ k ∈ ys, S k = true) → ys.length = n → Q (.ref p) s') :
    wpAny (model P w) A (call (.builtin "sorted") [.ref a]) Q E s := by
  obtain ⟨o, es, ep, t, ho, hex, hd, g, hm, hb, hf, hn, hr, hl⟩ := R
  refine Calls.call_function_entry kind_sorted plain_sorted entry_sorted (args_sorted1 _) ?_
  unfold Builtin.«sorted»
  refine wpAny_bind (m := checkCount "sorted" 1 1 _) (wpAny_pure (wpAny_bind (collect_set (A := A.in1) hh ⟨o, ho, hex.1, hd⟩ hf hb hr hl fun s1 vs k1 hz g1 o1 pm => ?_)))
  have hvl : vs.length = n := by
    rw [pm.length_eq, List.length_map, Array.length_toList]
    exact hn
  have tx : ∀ v ∈ vs, ∃ x tk, v = .str x tk ∧ S x = true := fun v hv => by
    obtain ⟨e, he, rfl⟩ := List.mem_map.mp (pm.mem_iff.mp hv)
    obtain ⟨⟨k, hk, _⟩, _⟩ := g e he
    obtain ⟨tk, hk2⟩ := Value.isStrOf_shape hk
    exact ⟨k, tk, hk2, (hm k).2 ⟨e, he, hk⟩⟩
  have hS : StrsAre vs (vs.map PyProof.Rows.strOf) := strsAre_map vs fun v hv => by
    obtain ⟨x, tk, e, _⟩ := tx v hv
    exact ⟨x, tk, e⟩
  refine wpAny_bind (wpAny_newList ?_ (by rw [hvl, sizeLine_eq]; omega))
  have hoL : (s1.heap.push (seqObj "list" vs.toArray 0)).get? s1.heap.objs.size = some (seqObj "list" vs.toArray 0) := Heap.get?_push_size _ rfl
  refine wpAny_bind (wpAny_holding (wpAny_call_entry slot_list_sort ⟨_, hoL, rfl⟩ entry_list_sort
    (list_sort_treeK strKind_oneLt (s := { s1 with heap := s1.heap.push (seqObj "list" vs.toArray 0) }) hoL hS.keysOf (fun v1 v2 rest e => keyKind_strs (by rw [← e]; exact hS)) (by rw [hvl]; exact h64) fun st' hp hs => ⟨_, rfl, ?_⟩) (args_list_sort _)))
  obtain ⟨ys, a1, a2, _⟩ := sorted_out_str hS hp hs
  obtain ⟨c, hc⟩ := sortedHeap_at (vs := vs) (out := (arrOf st').map (·.2)) hoL
  refine wpAny_pure ⟨_, rfl, hQ _ s1.heap.objs.size _ c ys (fun b u e => ?_) g1 o1 hz hc a1 (fun k hk => ?_) ?_⟩
  · have q := k1 b u e
    have hlt := Heap.lt_size q
    refine Eq.trans (sortedHeap_old (Nat.ne_of_lt hlt) (by rw [size_push']; exact Nat.lt_succ_of_lt hlt)) ?_
    exact Heap.get?_push_of_some _ q
  · obtain ⟨v, hv, rfl⟩ := List.mem_map.mp (a2.mem_iff.mp hk)
    obtain ⟨x, tk, rfl, hx⟩ := tx v hv
    exact hx
  · rw [a2.length_eq, List.length_map]
    exact hvl
end
section
variable {X : Cx} {ta : TE}
/-- len(set(xs)), texts that are all unlike -/
def tLenX (K : PySem.W.Frag) (ta : TE) : TE := fun σ H Q => ta σ H fun x H1 => ∃ (l : Addr) (xs : List Str), x = .ref l ∧ SqL K H1 l (xs.map V.str) ∧ xs.length ≤ 1000 ∧ (xs.Nodup → Q (.int (xs.length : Nat)) H1) ∧ (¬ xs.Nodup → ∀ n : Nat, Q (.int (n : Nat)) H1)
theorem pe_lenX {a : Expr} {p p2 q pos : Pos} (hc : X.calm = true) (hg : Gl X "len") (hm : X.mg "len" = none) (hg2 : Gl X "set") (hm2 : X.mg "set" = none) (ha : PE X a ta)
    (na : starEach [a] X.env = (false, eval a X.env) :: starEach [] X.env := by rfl) : PE X (.Call (.Name "len" p) [.Call (.Name "set" p2) [a] [] q] [] pos) (tLenX X.K ta) := by
  refine ⟨fun pins s σ H Q I h => ?_⟩
  refine Call_ (ld_blt I hg hm boot_len (PyProof.Rows.callWith_builtin1 (PyProof.Rows.args_cons ?_ rfl) rfl rfl))
  refine Call_ (ld_blt I hg2 hm2 boot_set (PyProof.Rows.callWith_type1 (PyProof.Rows.args_cons (thn (ha.run pins s σ H _ I h) fun v s1 ⟨x, H1, I1, r1, q1⟩ => PyProof.Rows.args_nil ?_) na) na rfl))
  obtain ⟨l, xs, rfl, hq, h1, q1, q2⟩ := q1
  cases r1
  obtain ⟨its, r, pl, hz⟩ := I1.list hq
  refine xMake (P := X.prog) (w := X.w) xs (I1.ok.hd hc) pl.isList (by simpa using strsAre_of r) (by unfold scanBound; omega) fun h' tk hS hk => PyProof.Rows.args_nil ?_
  obtain ⟨o, es, ep, t, ho, hex, hd, _, _, _, hf, hn, _, _⟩ := hS
  have I2 : Inv X pins σ H1 { s1 with heap := h', toks := tk } := I1.kept hk
  have hle := cnt_le xs.reverse
  rw [List.length_reverse] at hle
  refine call_len_set ho hex hd hf (by rw [hn] <;> omega) ⟨.int (cnt xs.reverse : Nat), H1, I2.tok _, ⟨_, by rw [hn]⟩, ?_⟩
  by_cases nd : xs.Nodup
  · rw [cnt_nodup ((List.reverse_perm xs).nodup_iff.mpr nd), List.length_reverse]
    exact q1 nd
  · exact q2 nd _
/-- sorted(set(xs)) of texts: some of them -/
def tSortX (K : PySem.W.Frag) (ta : TE) : TE := fun σ H Q => ta σ H fun x H1 => ∃ (l : Addr) (xs : List Str), x = .ref l ∧ SqL K H1 l (xs.map V.str) ∧ xs.length < 64 ∧
  ∀ (ys : List Str) (p : Addr), (∀ y ∈ ys, y ∈ xs) → ys.length ≤ xs.length → H1 p = none → Q (.ref p) (upd H1 p (.lst (ys.map V.str)))
theorem pe_sortX {a : Expr} {p p2 q pos : Pos} (hc : X.calm = true) (hg : Gl X "sorted") (hm : X.mg "sorted" = none) (hg2 : Gl X "set") (hm2 : X.mg "set" = none) (ha : PE X a ta)
    (na : starEach [a] X.env = (false, eval a X.env) :: starEach [] X.env := by rfl) : PE X (.Call (.Name "sorted" p) [.Call (.Name "set" p2) [a] [] q] [] pos) (tSortX X.K ta) := by
  refine ⟨fun pins s σ H Q I h => ?_⟩
  have hbs : bootBuiltins (Str.ofString "sorted") = some (Value.builtin "sorted") := by decide +kernel
  refine Call_ (ld_blt I hg hm hbs (PyProof.Rows.callWith_builtin1 (PyProof.Rows.args_cons ?_ rfl) rfl rfl))
  refine Call_ (ld_blt I hg2 hm2 boot_set (PyProof.Rows.callWith_type1 (PyProof.Rows.args_cons (thn (ha.run pins s σ H _ I h) fun v s1 ⟨x, H1, I1, r1, q1⟩ => PyProof.Rows.args_nil ?_) na) na rfl))
  obtain ⟨l, xs, rfl, hq, h1, q1⟩ := q1
  cases r1
  obtain ⟨its, r, pl, hz⟩ := I1.list hq
  refine xMake (P := X.prog) (w := X.w) xs (I1.ok.hd hc) pl.isList (by simpa using strsAre_of r) (by unfold scanBound; omega) fun h' tk hS hk => PyProof.Rows.args_nil ?_
  have I2 : Inv X pins σ H1 { s1 with heap := h', toks := tk } := I1.kept hk
  have hle := cnt_le xs.reverse
  rw [List.length_reverse] at hle
  refine xSorted hS (I1.ok.hd hc) (by omega) fun s2 p out c ys k2 g2 o2 hp he hS2 hin hlen => ?_
  have fr : H1 p = none := I2.hok.fresh hp
  have hsz : (ys.map V.str).length ≤ sizeLine := by
    rw [List.length_map, hlen, sizeLine_eq]
    omega
  have J : Inv X pins σ (upd H1 p (.lst (ys.map V.str))) { ({ s1 with heap := h', toks := tk } : Shared) with heap := s2.heap, gens := s2.gens, drawn := s2.drawn, toks := s2.toks } :=
    I2.call (ch := []) (Un.laid k2 hp fr) (I2.hok.laid k2 hp ⟨hsz, out.toList, c, vals_of_strs hS2, he⟩) (by rw [g2]; exact I2.bare) (fun _ z => nomatch z)
  have es : s2 = { ({ s1 with heap := h', toks := tk } : Shared) with heap := s2.heap, gens := s2.gens, drawn := s2.drawn, toks := s2.toks } := by
    cases s2
    cases s1
    cases o2
    rfl
  rw [es]
  refine ⟨.ref p, _, J, rfl, q1 ys p (fun y hy => ?_) (by omega) fr⟩
  · have := hin y hy
    rw [decide_eq_true_eq, List.mem_reverse] at this
    exact this
end
section
variable {σ : L2.St} {H : Hp} {K : PySem.W.Frag} {Q : VK} {ta : TE} {l : Addr}
def kLenX (K : PySem.W.Frag) (Q : VK) (x : V) (H1 : Hp) : Prop := ∃ (l : Addr) (xs : List Str), x = .ref l ∧ SqL K H1 l (xs.map V.str) ∧ xs.length ≤ 1000 ∧ (xs.Nodup → Q (.int (xs.length : Nat)) H1) ∧ (¬ xs.Nodup → ∀ n : Nat, Q (.int (n : Nat)) H1)
theorem k_lenX (h : ta σ H (kLenX K Q)) : tLenX K ta σ H Q := h
def kSortX (K : PySem.W.Frag) (Q : VK) (x : V) (H1 : Hp) : Prop := ∃ (l : Addr) (xs : List Str), x = .ref l ∧ SqL K H1 l (xs.map V.str) ∧ xs.length < 64 ∧
  ∀ (ys : List Str) (p : Addr), (∀ y ∈ ys, y ∈ xs) → ys.length ≤ xs.length → H1 p = none → Q (.ref p) (upd H1 p (.lst (ys.map V.str)))
theorem k_sortX (h : ta σ H (kSortX K Q)) : tSortX K ta σ H Q := h
theorem kSortX.mk {xs : List Str} (h : SqL K H l (xs.map V.str)) (hl : xs.length < 64) (q : ∀ (ys : List Str) (p : Addr) H', (∀ y ∈ ys, y ∈ xs) → ys.length ≤ xs.length → Le H H' → H p = none → H' p = some (.lst (ys.map V.str)) → Q (.ref p) H') : kSortX K Q (.ref l) H :=
  ⟨l, xs, rfl, h, hl, fun ys p h1 h2 h3 => q ys p _ h1 h2 (Le.new h3) h3 upd_same⟩
end
end G
end
section
set_option Elab.async false
set_option linter.all false
set_option maxRecDepth 100000
set_option maxHeartbeats 4000000
namespace G
open PySem PySem.Spec PyProof.Rows L2
/-- what the written part says of GroupRefused -/
structure Gr (K : PySem.W.Frag) (C fI : Addr) : Prop where
  cls : ∃ nm q N bs bm sn sub ab col dd k0 k1 k2 k3 k5, K.lookup C = some (excClassObj nm q C N bs bm true sn sub ab col dd k0 k1 k2 k3 k5 "ValueError.__new__") ∧ PySem.HandSPX.refsVE bm = true
  fn : ∃ (oc : Value) (od : Option Addr) (kV doc pm ct : Value) (an : Option Addr) (osl : Array (Option Value)) (cc cda : Addr), K.lookup fI = some ⟨oc, od, .func (PySem.W.ksFn "__init__" "GroupRefused.__init__" (defArgs s_GR) (defBody s_GR) (defScope s_GR) .none kV doc pm an (.ref cda) ct cc), osl⟩ ∧
    PySem.W.codeIn K (.ref cda) "GroupRefused.__init__" = true ∧ (∃ cl cld csl, K.lookup cc = some ⟨cl, cld, .cell (some (.ref C)), csl⟩) ∧ ∃ ccl cdd vs ccs tf, K.lookup cda = some ⟨ccl, cdd, .fields vs, ccs⟩ ∧ vs[2]? = some (.str fileS tf)
  sa : PySem.W.findIn K (.ref C) "__setattr__" = some (some (.builtin "object.__setattr__"))
  no1 : PySem.W.findIn K (.ref C) "index_of_deed" = some none
  no2 : PySem.W.findIn K (.ref C) "word" = some none
  iC : PySem.W.findIn K (.ref C) "__init__" = some (some (.ref fI))
  tC : PySem.W.typeIn K (.ref fI) = some (.type "function")
  kC : PySem.W.keepIn K (.ref C) = true
  exC : PySem.W.subIn K (.ref C) (.type "BaseException") = some true
  veC : PySem.W.subIn K (.ref C) (.type "ValueError") = some true
  tyC : PySem.W.typeIn K (.ref C) = some (.type "type")
  sup : PySem.W.ks_superIn K C C "__init__" = some (some (.builtin "ValueError.__init__"))
  opq : PySem.W.nsIn K cStatics "thirdparty.any" = some none
  own : PySem.W.mroIn K C (.ref C) = some true
  ga : PySem.W.findIn K (.ref C) "__getattribute__" = some (some (.builtin "BaseException.__getattribute__"))
  gg : PySem.W.findIn K (.ref C) "__getattr__" = some none
  hdC : PySem.W.hasDictIn K C = true
  te : PySem.W.exmOne K (.ref C) (.ref C) = some true
theorem oex_ok {K : PySem.W.Frag} {C : Addr} (h : oexB K C = true) : ∃ nm q N bs bm sn sub ab col dd k0 k1 k2 k3 k5, K.lookup C = some (excClassObj nm q C N bs bm true sn sub ab col dd k0 k1 k2 k3 k5 "ValueError.__new__") ∧ PySem.HandSPX.refsVE bm = true := by
  unfold oexB at h
  split at h
  · rename_i t dd cd sl ho
    obtain ⟨h1, h2⟩ := He.ba h
    split at h2
    · rename_i D bm k0 k1 k2 k3 n k5 hm hs
      obtain ⟨h3, h4⟩ := He.ba h2
      obtain ⟨h5, h6⟩ := He.ba h4
      obtain ⟨h7, h8⟩ := He.ba h6
      obtain ⟨h9, h10⟩ := He.ba h8
      obtain rfl := of_decide_eq_true h1
      obtain rfl := of_decide_eq_true h3
      obtain rfl := of_decide_eq_true h5
      obtain ⟨nm, bs, mro, ns, qn, hd, sn, sub, ab, col, del⟩ := cd
      dsimp only at hm h7 h9
      have h7 : del = false := by simpa using h7
      subst hm h7 h9
      have hsl : sl = #[k0, k1, k2, k3, some (.builtin "ValueError.__new__"), k5] := by
        apply Array.ext'
        rw [hs]
      subst hsl
      exact ⟨nm, qn, ns, bs, bm, sn, sub, ab, col, dd, k0, k1, k2, k3, k5, ho, h10⟩
    · cases h2
  · cases h
theorem gr_ok {K : PySem.W.Frag} (h : grB K = true) (hv : grV K = grW) : Gr K (He.ga K "GroupRefused") (grI K) := by
  unfold grB at h
  obtain ⟨c1, h⟩ := He.ba h
  obtain ⟨c2, h⟩ := He.ba h
  obtain ⟨c3, h⟩ := He.ba h
  obtain ⟨c4, h⟩ := He.ba h
  obtain ⟨c5, h⟩ := He.ba h
  obtain ⟨c6, h⟩ := He.ba h
  obtain ⟨c7, h⟩ := He.ba h
  obtain ⟨c8, h⟩ := He.ba h
  obtain ⟨c9, h⟩ := He.ba h
  obtain ⟨c10, h⟩ := He.ba h
  obtain ⟨c11, h⟩ := He.ba h
  obtain ⟨c12, h⟩ := He.ba h
  obtain ⟨c13, h⟩ := He.ba h
  obtain ⟨c14, h⟩ := He.ba h
  obtain ⟨c15, h⟩ := He.ba h
  obtain ⟨c16, h⟩ := He.ba h
  obtain ⟨c17, c18⟩ := He.ba h
  refine ⟨oex_ok c1, ?_, He.eqO_ok c3, He.eqO_ok c4, He.eqO_ok c5, He.eqO_ok c6, of_decide_eq_true c7, c8, of_decide_eq_true c9, of_decide_eq_true c10, of_decide_eq_true c11, He.eqO_ok c12, He.eqO_ok c13, of_decide_eq_true c14, He.eqO_ok c15, He.eqO_ok c16, c17, of_decide_eq_true c18⟩
  unfold celB at c2
  unfold grV grW at hv
  split at c2
  · rename_i oc od fd osl ho
    rw [ho] at hv
    split at c2
    · rename_i z cc cda hcl hco
      obtain ⟨d1, c2⟩ := He.ba c2
      obtain ⟨d2, d3⟩ := He.ba c2
      obtain ⟨n1, n2, n3, n4, n5, n6, n7, n8, n9, n10, n11, n12, n13, n14, n15⟩ := fd
      dsimp only at hcl hco hv
      subst hcl hco
      simp only [Option.some.injEq, Prod.mk.injEq, List.map_cons, List.map_nil, List.cons.injEq, and_true] at hv
      obtain ⟨e1, e2, e3, e4, e5, e6, e7, e8, e9⟩ := hv
      subst e1 e2 e3 e4 e5 e6 e7 e8 e9
      refine ⟨oc, od, n9, n10, n11, n14, n12, osl, cc, cda, ho, d1, ?_, ?_⟩
      · split at d2
        · rename_i cl cld D csl hq
          obtain rfl := of_decide_eq_true d2
          exact ⟨cl, cld, csl, hq⟩
        · cases d2
      · split at d3
        · rename_i ccl cdd vs ccs hq
          split at d3
          · rename_i z tf hz
            obtain rfl := of_decide_eq_true d3
            exact ⟨ccl, cdd, vs, ccs, tf, hq, hz⟩
          · cases d3
        · cases d3
    · cases c2
  · cases c2
theorem Zed.gr {w : World} {K : PySem.W.Frag} {mg : Str → Option Value} (Z : Zed w K mg) : Gr K (He.ga K "GroupRefused") (grI K) := gr_ok Z.gr1 Z.gr2
end G
end
section
set_option Elab.async false
set_option linter.all false
set_option maxRecDepth 100000
set_option maxHeartbeats 4000000
namespace G
open PySem PySem.W PySem.Calls PyProof.Rows PySem.HandSPX
open L2 (defArgs defBody defScope)
/-- the program's own file, no "super" of its own -/
class Pz (P : Program) : Prop where
  file : P.main.file = fileS
  sup : (P.main.scope.names.lookup ("super" : Str)).isSome = false
abbrev exE (C t : Addr) (d : Option Addr) : Obj := { cls := .ref C, dict := d, data := .fields #[.ref t, .none, .none, .none, .bool false, .none] }
/-- what __init__ leaves of a fresh exception at x -/
structure GrEnd (h h' : Heap) (x C dx : Addr) (v1 v2 : Value) : Prop where
  keep : ∀ b o, b ≠ x → h.get? b = some o → h'.get? b = some o
  obj : ∃ t, h'.get? x = some (exE C t (some dx))
  dbig : h.objs.size ≤ dx
  dne : dx ≠ x
  ns : h'.Ns1 dx (fun y => if y = "word" then some v2 else if y = "index_of_deed" then some v1 else none)
section
variable {P : Program} {w : World} {A : Around} {E : Value → Shared → Prop} {R : Result → Shared → Prop} {s : Shared} {K : Frag} {C fI : Addr} {mg mb : Str → Option Value}
theorem gr_call {h : Heap} {g : Array GenState} {d : Drawn} {t : Nat} {os : OsState} {u x t0 : Addr} {rest : List Value} {Q : Value → Shared → Prop} (T : Gr K C fI) (X : K.In h) (hx : h.get? x = some (exE C t0 none)) (hu : h.get? u = some (kxs_mw "ValueError.__init__" x)) (hz : rest.length ≤ sizeLine)
    (hq : ∀ h' t1, (∀ b o, b ≠ x → h.get? b = some o → h'.get? b = some o) → h'.get? x = some (exE C t1 none) → Q .none ⟨h', g, d, t, os⟩) : wpAny (model P w) A (call (.ref u) rest) Q E ⟨h, g, d, t, os⟩ := by
  obtain ⟨nm, q, N, bs, bm, sn, sub, ab, col, dd, k0, k1, k2, k3, k5, hC, hbm⟩ := T.cls
  refine wpAny_call (codeAny_of_tree ?_)
  show wpAny _ A.in1 (callAny (.ref u) ⟨rest, []⟩) _ _ _
  simp only [callAny]
  refine wpAny_bind (wpAny_load hu ?_)
  simp only [kxs_mw, show (Value.type "method-wrapper" == Value.type "method" || Value.type "method-wrapper" == Value.type "builtin_function_or_method" || Value.type "method-wrapper" == Value.type "method-wrapper") = true by decide, if_true]
  refine KFB.if_so (by decide) (wpAny_bind (check_bound_init F.excBase_ValueError.toExcCallFacts (X _ _ hC) hx rfl (wpAny_bind (wpAny_pure (wpAny_pure ?_)))))
  refine ⟨plainId_quiet F.excBase_ValueError.init.plain _, codeAny_builtin F.excBase_ValueError.initEntry ?_⟩
  exact exc_init_tree (cls := .ref C) (t0 := t0) (dv := none) (c2 := .none) (c3 := .none) (b4 := .bool false) hx hz fun h' k e _ => hq h' _ k e
theorem kw1 {M : Model} {i : String} {u x : Addr} {pos : Pos} {env : Env} {e : Expr} {rest : List Expr} {Q : Value → Shared → Prop} (hp : (backTo pos (starEach rest env)).any (·.1) = false) (he : starEach (e :: rest) env = (false, eval e env) :: starEach rest env)
    (h : wpAny M A (spliced (backTo pos (starEach (e :: rest) env))) (fun vs s1 => KxsAt i u x s1.heap ∧ wpAny M A (call (.ref u) vs) Q E s1) E s) : wpAny M A (callWith pos (.ref u) [] (backTo pos (starEach (e :: rest) env)) []) Q E s := by
  rw [he] at h ⊢
  refine kxs_callWith (i := i) (x := x) ?_ (evalArgs_plain h)
  show (false || (backTo pos (starEach rest env)).any (·.1)) = false
  rw [hp] <;> rfl
theorem gr_cells : ∀ x ∈ (defScope s_GR).names, x.2 ≠ .cell := by decide +kernel
theorem gr_locs {a b c : Value} : ∀ y ∈ [(("self" : Str), a), ("index", b), ("word", c)], (defScope s_GR).names.lookup y.1 = some .local := by
  intro y hy
  simp only [List.mem_cons, List.not_mem_nil, or_false] at hy
  rcases hy with rfl | rfl | rfl <;> kernel_rfl
theorem gr_init [Z : Pz P] (T : Gr K C fI) {x t0 : Addr} {v1 v2 : Value} (X : K.In s.heap) (hlim : s.heap.NoLimit) (hg : s.heap.Ns mainGlobals mg) (hb : s.heap.Ns builtinsNs mb) (hmg : mg "super" = none) (hmb : mb "super" = some (.type "super"))
    (hx : s.heap.get? x = some (exE C t0 none)) (hfr : K.lookup x = none) (hroom : A.depth < recursionLimit)
    (hq : ∀ h' tk dx, GrEnd s.heap h' x C dx v1 v2 → R (.ok (.ret .none)) { s with heap := h', toks := tk }) :
    codeAny (model P w) A (.call (.ref fI) ⟨[.ref x, v1, v2], []⟩) R s := by
  obtain ⟨oc, od, kV, doc, pm, ct, an, osl, cc, cda, ho, hcd, ⟨cl, cld, csl, hcell⟩, ccl, cdd, vs, ccs, tf, hcda, hvs⟩ := T.fn
  obtain ⟨nm, q, N, bs, bm, sn, sub, ab, col, dd, k0, k1, k2, k3, k5, hC, hbm⟩ := T.cls
  have hcl : clsIn K C = some { name := nm, bases := bs, mro := .ref C :: bm, ns := N, qualname := q, hasDict := true, slotNames := sn, subclasses := sub, abstract := ab, collection := col, hasDel := false } := by unfold clsIn; rw [hC] <;> rfl
  have hne : x ≠ C := fun z => by
    have e := X _ _ hC
    rw [← z, hx] at e
    cases e
  have hC0 := X _ _ hC
  refine ks_codeAny_call_defAt (fd := ksFn "__init__" "GroupRefused.__init__" (defArgs s_GR) (defBody s_GR) (defScope s_GR) .none kV doc pm an (.ref cda) ct cc) (body := defBody s_GR) (binds := [("self", .ref x), ("index", v1), ("word", v2)])
    hroom (X _ _ ho) rfl hlim (codeRec_of X hcd) rfl (BindsTo.of_eq (by first | rfl | with_unfolding_all rfl)) gr_cells gr_locs (fun h1 hns k1 => ?_) rfl rfl rfl
  have X1 := X.keeps k1
  obtain ⟨s0, g, d, t, os⟩ := s
  have hx1 := k1 _ _ hx
  have hC1 := X1 _ _ hC
  refine ks_wpAt_execs_cons (ks_wpAt_Expr_any (ks_wpAt_MethodCall ?_))
  refine ks_wpAt_super_base (by kernel_rfl) (by kernel_rfl) rfl rfl (X1 _ _ ho) rfl rfl rfl (X1 _ _ hcda) rfl hvs (by rw [Z.file]; decide +kernel) Z.sup ?_
  refine ks_loadName_global rfl (by kernel_rfl) (loadGlobal_builtin (hg.keeps k1) hmg (hb.keeps k1) hmb ⟨rfl, ?_⟩)
  refine wpAny_loadName_free rfl (by kernel_rfl) rfl ⟨_, X1 _ _ hcell, rfl⟩ ?_
  refine wpAny_loadName_local (v := .ref x) rfl (by kernel_rfl) hns (by kernel_rfl) ?_
  refine ks_wpAny_isType_cls hC1 rfl ⟨rfl, ?_⟩
  refine ks_wpAny_call_super hC1 rfl hx1 rfl (fun c z => by cases z) (looks_mroIn X1 T.own) (fun h2 e2 k2 => ?_)
  have X2 := X1.keeps k2
  have hx2 := k2 _ _ hx1
  have I2 : InstAt h2 x (exE C t0 none) C none := ⟨hx2, rfl, rfl, trivial⟩
  have hs := T.sup
  unfold ks_superIn at hs
  rw [hcl] at hs
  refine kxs_getMethod kxs_ValueError e2 (looks_opaque X2 T.opq) (l₀ := .ref C :: bm) ((looks_clsIn X2 hcl).andThen .now) rfl X2 hs (I2.type.andThen (looks_subIn X2 T.veC)) hne rfl ?_
  refine kw1 (i := "ValueError.__init__") (x := x) rfl rfl (args_cons (Calls.Constant_str (args_nil ⟨Heap.get?_push_size _ rfl, ?_⟩)) rfl)
  have hx3 : (h2.push (kxs_mw "ValueError.__init__" x)).get? x = some (exE C t0 none) := Heap.get?_push_of_some _ hx2
  have X3 : K.In (h2.push (kxs_mw "ValueError.__init__" x)) := X2.keeps fun b o e => Heap.get?_push_of_some _ e
  refine gr_call (t0 := t0) T X3 hx3 (Heap.get?_push_size _ rfl) (by rw [sizeLine_eq, List.length_singleton]; omega) fun h4 t1 k4 hx4 => ?_
  have k34 : ∀ b o, b ≠ x → h2.get? b = some o → h4.get? b = some o := fun b o hb e => k4 b o hb (Heap.get?_push_of_some _ e)
  have k14 : ∀ b o, b ≠ x → h1.get? b = some o → h4.get? b = some o := fun b o hb e => k34 b o hb (k2 b o e)
  have X4 : K.In h4 := fun a o e => k14 a o (fun z => by rw [z, hfr] at e; cases e) (X1 a o e)
  have hL : s0.objs.size ≠ x := Nat.ne_of_gt (Heap.lt_size hx)
  have hns4 := hns.at fun o e => k14 _ o hL e
  dsimp only
  refine ks_wpAt_execs_cons (ks_wpAt_Assign_Attr ?_)
  refine wpAt_of_wpAny (wpAny_Name (wpAny_loadName_local (v := v1) rfl (by kernel_rfl) hns4 (by kernel_rfl) (wpAny_Name (wpAny_loadName_local (v := .ref x) rfl (by kernel_rfl) hns4 (by kernel_rfl) ?_))))
  refine set_plain X4 (ox := exE C t1 none) (od := none) ⟨hx4, rfl, rfl, trivial⟩ T.sa ?_
  refine exc_osa X4 hx4 hcl (show refsVE (.ref C :: bm) = true from hbm) rfl T.no1 (fun h5 tk5 dx k5 dn dne hx5 hn5 => ?_)
  have X5 : K.In h5 := fun a o e => k5 a o (fun z => by rw [z, hfr] at e; cases e) (X4 a o e)
  have hns5 := hns4.at fun o e => k5 _ o hL e
  obtain ⟨oD, esD, epD, hoD, rD⟩ := id hn5
  show PySem.wpAt _ _ _ (execs _ _) _ _ _
  refine ks_wpAt_execs_cons (ks_wpAt_Assign_Attr ?_)
  refine wpAt_of_wpAny (wpAny_Name (wpAny_loadName_local (v := v2) rfl (by kernel_rfl) hns5 (by kernel_rfl) (wpAny_Name (wpAny_loadName_local (v := .ref x) rfl (by kernel_rfl) hns5 (by kernel_rfl) ?_))))
  refine set_plain X5 (ox := exE C t1 (some dx)) (od := some oD) ⟨hx5, rfl, rfl, hoD⟩ T.sa ?_
  refine PySem.OEX.osa_old X5 hx5 hn5 (nl := ["index_of_deed"]) (fun y hy => ?_) (by decide) hcl (show refsVE (.ref C :: bm) = true from hbm) rfl T.no2 (fun h6 tk6 k6 hn6 => ?_)
  · by_cases e : y = "index_of_deed"
    · rw [e]
      exact List.mem_cons_self
    · rw [if_neg e] at hy
      exact absurd rfl hy
  have h14 : s0.objs.size < h4.objs.size := hns4.lt
  have hdx : s0.objs.size ≤ dx := Nat.le_trans (Nat.le_of_lt h14) dn
  show PySem.wpAt _ _ _ (execs _ _) _ _ _
  refine wpAt_of_wpAny (wpAny_execs_nil ?_)
  have dnew : ∀ b o, s0.get? b = some o → b ≠ dx := fun b o e z => by
    have e2 : b < s0.objs.size := Heap.lt_size e
    exact Nat.lt_irrefl _ (Nat.lt_of_lt_of_le (z ▸ e2) hdx)
  refine hq h6 _ dx ⟨fun b o hb e => k6 b o (dnew b o e) (k5 b o hb (k14 b o hb (k1 b o e))), ⟨t1, k6 x _ dne.symm hx5⟩, hdx, dne, hn6⟩
end
end G
end
section
set_option Elab.async false
set_option linter.all false
set_option maxRecDepth 100000
set_option maxHeartbeats 4000000
namespace G
section
open PySem PySem.W PySem.Calls PyProof.Rows PySem.HandSPX
/-- a made GroupRefused -/
structure GrMade (h h' : Heap) (e C d : Addr) (v1 v2 : Value) : Prop where
  keep : ∀ b o, h.get? b = some o → h'.get? b = some o
  new : h.objs.size ≤ e
  obj : ∃ t, h'.get? e = some (exE C t (some d))
  dbig : h.objs.size ≤ d
  dne : d ≠ e
  ns : h'.Ns1 d (fun y => if y = "word" then some v2 else if y = "index_of_deed" then some v1 else none)
variable {P : Program} {w : World} {A : Around} {E : Value → Shared → Prop} {R : Result → Shared → Prop} {s : Shared} {K : Frag} {C fI : Addr} {mg mb : Str → Option Value}
theorem gr_made [Z : Pz P] (T : Gr K C fI) {v1 v2 : Value} (X : K.In s.heap) (hlim : s.heap.NoLimit) (hg : s.heap.Ns mainGlobals mg) (hb : s.heap.Ns builtinsNs mb) (hmg : mg "super" = none) (hmb : mb "super" = some (.type "super")) (hroom : A.depth + 1 < recursionLimit)
    (hq : ∀ h' tk e d, GrMade s.heap h' e C d v1 v2 → R (.ok (.ret (.ref e))) { s with heap := h', toks := tk }) : codeAny (model P w) A (.call (.ref C) ⟨[v1, v2], []⟩) R s := by
  obtain ⟨nm, q, N, bs, bm, sn, sub, ab, col, dd, k0, k1, k2, k3, k5, hC, hbm⟩ := T.cls
  obtain ⟨hp, g, dr, tk, os⟩ := s
  have kk : ∀ b o, hp.get? b = some o → ((hp.push (kdv_tup [v1, v2])).push (PySem.HandSPX.excO C hp.objs.size)).get? b = some o := fun b o e => Heap.get?_push_of_some _ (Heap.get?_push_of_some _ e)
  have hget : ((hp.push (kdv_tup [v1, v2])).push (PySem.HandSPX.excO C hp.objs.size)).get? (hp.objs.size + 1) = some (PySem.HandSPX.excO C hp.objs.size) := by heap_get
  have hnx : K.lookup (hp.objs.size + 1) = none := by
    cases e : K.lookup (hp.objs.size + 1) with
    | none => rfl
    | some o => exact absurd (Nat.lt_of_succ_lt (Heap.lt_size (X _ _ e))) (Nat.lt_irrefl _)
  refine call_own F.excBase_ValueError (fun Y => refsVE_contains Y bm hbm) (X _ _ hC) (looks_findIn X T.iC) (fun self => bind_fn X self T.tC) (by rw [sizeLine_eq, List.length_cons, List.length_singleton]; omega) ?_
  refine gr_init (s := ⟨(hp.push (kdv_tup [v1, v2])).push (PySem.HandSPX.excO C hp.objs.size), g, dr, tk, os⟩) T (X.keeps kk) (hlim.keeps kk) (hg.keeps kk) (hb.keeps kk) hmg hmb hget hnx hroom fun h' tk' dx ⟨k', hx, dn, dne, hns⟩ => ?_
  have old : ∀ b o, hp.get? b = some o → h'.get? b = some o := fun b o e => k' b o (Nat.ne_of_lt (Nat.lt_succ_of_lt (Heap.lt_size e))) (kk b o e)
  have z : hp.objs.size ≤ dx := by
    have q2 : ((hp.push (kdv_tup [v1, v2])).push (PySem.HandSPX.excO C hp.objs.size)).objs.size ≤ dx := dn
    rw [Heap.size_push, Heap.size_push] at q2
    exact Nat.le_trans (Nat.le_trans (Nat.le_succ _) (Nat.le_succ _)) q2
  exact ⟨rfl, hq h' tk' (hp.objs.size + 1) dx ⟨old, Nat.le_succ _, hx, z, dne, hns⟩⟩
end
open PySem PySem.Spec PyProof.Rows L2
abbrev grF (a b : V) : List (Str × V) := [("word", b), ("index_of_deed", a)]
theorem gr_rel {a b : V} {u v : Value} (ra : RelV a u) (rb : RelV b v) (f : Str) : RelO ((grF a b).lookup f) (if f = "word" then some v else if f = "index_of_deed" then some u else none) := by
  refine relO_put (fs := [("index_of_deed", a)]) (mA := fun y => if y = "index_of_deed" then some u else none) rb (fun g => ?_) f
  exact relO_put (fs := []) (mA := fun _ => none) ra (fun g => True.intro) g
section
variable {X : Cx} {C fI : Addr}
/-- GroupRefused(e, e2) -/
def tMkGr (C : Addr) (ta : TA) : L2.St → Hp → XK → Prop := fun σ H Q => ta σ H fun vs H1 => ∃ a b, vs = [a, b] ∧ ∀ d, H1 d = none → Q (.ref C) (some d) (upd H1 d (.xd (grF a b)))
theorem pmk_gr (hZ : Pz X.prog) {e1 e2 : Expr} {ta : TA} {p pos : Pos} {k : Nat} (T : Gr X.K C fI) (hr : Room k X.A) (ha : PA X [e1, e2] ta) (hm : X.mg "GroupRefused" = some (.ref C)) (hs : X.mg "super" = none) (hg : Gl X "GroupRefused" := by rfl)
    (he : starEach (e1 :: [e2]) X.env = (false, eval e1 X.env) :: starEach [e2] X.env := by rfl) (hpl : (backTo pos (starEach [e2] X.env)).any (·.1) = false := by rfl) :
    PMk X (.Call (.Name "GroupRefused" p) [e1, e2] [] pos) (tMkGr C ta) := by
  haveI := hZ
  intro pins s σ H Q I h
  refine wpAny_Call_Name_kw (ld_glob I hg hm ?_)
  refine PySem.W.callWith_K (h₀ := X.base) I.ok.mod.kin T.kC (thn (ha.run pos pins s σ H _ I h) fun us s1 hh => ?_) he hpl
  obtain ⟨vs, H1, I1, r1, a, b, ev, q1⟩ := hh
  subst ev
  refine ⟨I1.kIn, ?_⟩
  cases r1 with
  | cons ra rn =>
    rename_i u us'
    cases rn with
    | cons rb rn =>
      rename_i v us'
      cases rn
      show wpAny _ _ (call (.ref C) [u, v]) _ _ _
      have hlim := I1.nolimit
      obtain ⟨mb, hb1, hb2⟩ := I1.mod.blt
      have hmb : mb "super" = some (.type "super") := (hb2 "super" (by decide)).trans (by decide +kernel)
      have hgl := I1.mod.glob.keeps I1.bk
      have hbl := hb1.keeps I1.bk
      obtain ⟨hp, g, dr, tk, os⟩ := s1
      refine wpAny_call (gr_made T I1.kIn hlim hgl hbl hs hmb (by have := hr.dp; omega) fun h' tk' e d M => ?_)
      show MkP X pins σ Q (.ref e) ⟨h', g, dr, tk', os⟩
      obtain ⟨t1, hoe⟩ := M.obj
      obtain ⟨G', g1, g2⟩ := restrict h' fun b => decide (b ≠ e)
      have gk : ∀ b, b ≠ e → G'.get? b = h'.get? b := fun b hb => g1 b (decide_eq_true hb)
      have ge : G'.get? e = none := g2 e (by simp)
      have old : ∀ b o, hp.get? b = some o → G'.get? b = some o := fun b o q => (gk b (Nat.ne_of_lt (Nat.lt_of_lt_of_le (Heap.lt_size q) M.new))).trans (M.keep b o q)
      have ob : ObjOk X.prog X.w (upd H1 d (.xd (grF a b))) G' d (.xd (grF a b)) := ⟨_, M.ns.at (fun o q => (gk d M.dne).trans q), gr_rel ra rb⟩
      have J : Inv X pins σ (upd H1 d (.xd (grF a b))) ⟨G', g, dr, tk', os⟩ := I1.laid (t' := tk') old M.dbig ob
      refine ⟨e, _, _, ⟨G', g, dr, tk', os⟩, _, .ref C, some d, rfl, J, fun b o q => ?_, ge, hoe, ⟨rfl, rfl⟩, rfl, rfl, ?_, rfl, I1.bare, raises_own T.exC T.tyC, q1 d (I1.hok.fresh M.dbig)⟩
      · by_cases hb : b = e
        · have q' : G'.get? b = some o := q
          rw [hb, ge] at q'
          cases q'
        · exact (gk b hb).symm.trans q
      · rw [upd_ne (Ne.symm M.dne)]
        exact I1.hok.fresh M.new
/-- raise GroupRefused(e, e2) -/
def tRaiseGr (C : Addr) (W : WX) (ta : TA) : TS := fun _ σ H => tMkGr C ta σ H fun cls d H' => W cls d σ H'
theorem ps_raiseGr (hZ : Pz X.prog) {e1 e2 : Expr} {ta : TA} {W : WX} {p pos pos2 : Pos} {k : Nat} (hc : X.calm = true) (T : Gr X.K C fI) (hr : Room k X.A) (tk : Takes X W) (ha : PA X [e1, e2] ta) (hm : X.mg "GroupRefused" = some (.ref C)) (hs : X.mg "super" = none) (hg : Gl X "GroupRefused" := by rfl)
    (he : starEach (e1 :: [e2]) X.env = (false, eval e1 X.env) :: starEach [e2] X.env := by rfl) (hpl : (backTo pos (starEach [e2] X.env)).any (·.1) = false := by rfl) :
    PS X (.Raise (some (.Call (.Name "GroupRefused" p) [e1, e2] [] pos)) none pos2) (tRaiseGr C W ta) := ps_raise hc tk (pmk_gr hZ T hr ha hm hs hg he hpl)
end
end G
end
section
set_option Elab.async false
set_option linter.all false
set_option maxRecDepth 100000
set_option maxHeartbeats 4000000
namespace G
open PySem PySem.Spec PyProof.Rows L2
/-! ### any, all of a test over a tuple of ints -/
/-- the element: of the int n a truth value; one name may be captured (its int m) -/
def EltI (P : Program) (w : World) (mg : Str → Option Value) (scope : Scope) (cells : List (Str × Addr)) (x : Str) (cap : Option Str) (elt : Expr) (pb : Int → Int → Bool) : Prop :=
  ∀ (m n : Int) (cenv : Env) (A' : Around) (E' : Value → Shared → Prop) (t : Tok) (s2 : Shared) (m2 : Str → Option Value), cenv.scope = scope → cenv.cells = cloFrom cells scope.names [] → cenv.globals = mainGlobals →
    (∀ y, cap = some y → ∃ c u, cells.lookup y = some c ∧ s2.heap.IsCell c (some (.int m u))) → s2.heap.Ns mainGlobals mg → s2.heap.Ns cenv.locals m2 → m2 x = some (.int n t) →
    wpAny (model P w) A' (eval elt cenv) (fun y s3 => y = .bool (pb m n) ∧ Keeps s2 s3) E' s2
section
variable {P : Program} {w : World} {mg : Str → Option Value} {A : Around} {E : Value → Shared → Prop} {s : Shared} {cenv : Env} {x : Str} {n : Int} {t : Tok} {m : Str → Option Value} {Q : Value → Shared → Prop} {pos : Pos}
theorem ldI (hk : cenv.scope.kind = .function) (hl : cenv.scope.names.lookup x = some .local) (hn : s.heap.Ns cenv.locals m) (hm : m x = some (.int n t)) (h : Q (.int n t) s) (hd : (x == ("__debug__" : Str)) = false) : wpAny (model P w) A (eval (.Name x pos) cenv) Q E s :=
  wpAny_Name (wpAny_loadName_local hk hl hn hm h) hd
theorem ldF {y : Str} {c : Addr} (hk : cenv.scope.kind = .function) (hl : cenv.scope.names.lookup y = some .free) (hc : cenv.cells.lookup y = some c) (hv : s.heap.IsCell c (some (.int n t))) (h : Q (.int n t) s) (hd : (y == ("__debug__" : Str)) = false) (hcd : (y == ("__classdict__" : Str)) = false) :
    wpAny (model P w) A (eval (.Name y pos) cenv) Q E s := wpAny_Name (wpAny_loadName_free hk hl hc hv h hcd) hd
theorem kt (s : Shared) (k : Nat) : Keeps s { s with toks := k } := ⟨s.heap, k, rfl, fun _ _ e => e⟩
variable {scope : Scope} {cells : List (Str × Addr)} {j : Nat} {z : Int} {p1 p2 p3 p4 p5 p6 : Pos}
/-- x < z, x > z, z written -/
theorem elt_lt (hk : scope.kind = .function) (hl : scope.names.lookup x = some .local) (hd : (x == ("__debug__" : Str)) = false) : EltI P w mg scope cells x none (.Compare (.Name x p1) [.Lt] [.Constant (.int z) j p2] p3) (fun _ n => decide (n < z)) := by
  intro m n cenv A' E' t s2 m2 hs _ _ _ _ hn hm
  subst hs
  exact wpAny_Compare1 (ldI hk hl hn hm (wpAny_Constant_int (PySem.P.lt_int ⟨rfl, kt _ _⟩)) hd)
theorem elt_gt (hk : scope.kind = .function) (hl : scope.names.lookup x = some .local) (hd : (x == ("__debug__" : Str)) = false) : EltI P w mg scope cells x none (.Compare (.Name x p1) [.Gt] [.Constant (.int z) j p2] p3) (fun _ n => decide (n > z)) := by
  intro m n cenv A' E' t s2 m2 hs _ _ _ _ hn hm
  subst hs
  exact wpAny_Compare1 (ldI hk hl hn hm (wpAny_Constant_int (PySem.P.gt_int ⟨rfl, kt _ _⟩)) hd)
/-- x > y, y captured -/
theorem elt_gtF {y : Str} (hk : scope.kind = .function) (hl : scope.names.lookup x = some .local) (hf : scope.names.lookup y = some .free) (hc : (cloFrom cells scope.names []).lookup y = cells.lookup y) (hd : (x == ("__debug__" : Str)) = false) (hd2 : (y == ("__debug__" : Str)) = false)
    (hd3 : (y == ("__classdict__" : Str)) = false) : EltI P w mg scope cells x (some y) (.Compare (.Name x p1) [.Gt] [.Name y p2] p3) (fun m n => decide (n > m)) := by
  intro m n cenv A' E' t s2 m2 hs hcl _ hcap _ hn hm
  subst hs
  obtain ⟨c, u, e1, e2⟩ := hcap y rfl
  exact wpAny_Compare1 (ldI hk hl hn hm (ldF hk hf (by rw [hcl, hc, e1]) e2 (PySem.P.gt_int ⟨rfl, kt _ _⟩) hd2 hd3) hd)
/-- not 0 <= x < y, y captured -/
theorem elt_ninF {y : Str} (hk : scope.kind = .function) (hl : scope.names.lookup x = some .local) (hf : scope.names.lookup y = some .free) (hc : (cloFrom cells scope.names []).lookup y = cells.lookup y) (hd : (x == ("__debug__" : Str)) = false) (hd2 : (y == ("__debug__" : Str)) = false)
    (hd3 : (y == ("__classdict__" : Str)) = false) (hm0 : lastMarks [CmpOp.LtE, .Lt] [.Name x p2, .Name y p3] = false) :
    EltI P w mg scope cells x (some y) (.UnaryOp .Not (.Compare (.Constant (.int z) j p1) [.LtE, .Lt] [.Name x p2, .Name y p3] p4) p5) (fun m n => !(decide (z ≤ n) && decide (n < m))) := by
  intro m n cenv A' E' t s2 m2 hs hcl _ hcap _ hn hm
  subst hs
  obtain ⟨c, u, e1, e2⟩ := hcap y rfl
  refine UnaryOp_ (Compare_chain (wpAny_Constant_int (chain_link (ldI hk hl hn hm (PySem.P.le_int ?_) hd))) hm0)
  refine wpAny_truthy_bool ?_
  by_cases h1 : z ≤ n
  · rw [decide_eq_true h1]
    refine ite_tt (chain_last (ldF hk hf (by rw [hcl, hc, e1]) e2 (PySem.P.lt_int (not_of (wpAny_truthy_bool ⟨by simp [h1], kt _ _⟩))) hd2 hd3))
  · rw [decide_eq_false h1]
    exact ite_ff (not_of (wpAny_truthy_bool ⟨by simp [h1], kt _ _⟩))
/-- z <= x <= G, G a global int -/
theorem elt_inG {y : Str} {g : Int} (hk : scope.kind = .function) (hl : scope.names.lookup x = some .local) (hf : scope.names.lookup y = some .globalImplicit) (hg : ∃ u, mg y = some (.int g u)) (hd : (x == ("__debug__" : Str)) = false) (hd2 : (y == ("__debug__" : Str)) = false)
    (hm0 : lastMarks [CmpOp.LtE, .LtE] [.Name x p2, .Name y p3] = false) :
    EltI P w mg scope cells x none (.Compare (.Constant (.int z) j p1) [.LtE, .LtE] [.Name x p2, .Name y p3] p4) (fun _ n => decide (z ≤ n) && decide (n ≤ g)) := by
  intro m n cenv A' E' t s2 m2 hs _ hgl _ hG hn hm
  subst hs
  obtain ⟨u, hg⟩ := hg
  refine Compare_chain (wpAny_Constant_int (chain_link (ldI hk hl hn hm (PySem.P.le_int ?_) hd))) hm0
  refine wpAny_truthy_bool ?_
  by_cases h1 : z ≤ n
  · rw [decide_eq_true h1]
    refine ite_tt (chain_last (Calls.Name_function_global hk hf (Calls.loadGlobal_global (by rw [hgl]; exact hG) hg (PySem.P.le_int ⟨by simp [h1], kt _ _⟩)) hd2))
  · rw [decide_eq_false h1]
    exact ite_ff ⟨by simp [h1], kt _ _⟩
end
end G
end
section
set_option Elab.async false
set_option linter.all false
set_option maxRecDepth 100000
set_option maxHeartbeats 4000000
namespace G
open PySem PySem.Spec PyProof.Rows L2
/-- the truth at place j -/
def trI (pb : Int → Bool) (l : List Int) (j : Nat) : Bool := match l[j]? with
  | some n => pb n
  | none => false
theorem trI_some {pb : Int → Bool} {l : List Int} {j : Nat} {n : Int} (h : l[j]? = some n) : trI pb l j = pb n := by
  unfold trI
  rw [h]
theorem any_trI (l : List Int) (pb : Int → Bool) : (List.range l.length).any (trI pb l) = l.any pb := by
  rw [Bool.eq_iff_iff, List.any_eq_true, List.any_eq_true]
  refine ⟨fun ⟨j, hj, h⟩ => ?_, fun ⟨b, hb, h⟩ => ?_⟩
  · have hj2 := List.mem_range.mp hj
    rw [trI_some (List.getElem?_eq_getElem hj2)] at h
    exact ⟨l[j], List.getElem_mem hj2, h⟩
  · obtain ⟨j, hj, e⟩ := List.getElem_of_mem hb
    exact ⟨j, List.mem_range.mpr hj, by rw [trI_some (List.getElem?_eq_getElem hj), e]; exact h⟩
theorem all_trI (l : List Int) (pb : Int → Bool) : (List.range l.length).all (trI pb l) = l.all pb := by
  rw [Bool.eq_iff_iff, List.all_eq_true, List.all_eq_true]
  refine ⟨fun h b hb => ?_, fun h j hj => ?_⟩
  · obtain ⟨j, hj, e⟩ := List.getElem_of_mem hb
    have q := h j (List.mem_range.mpr hj)
    rw [trI_some (List.getElem?_eq_getElem hj), e] at q
    exact q
  · have hj2 := List.mem_range.mp hj
    rw [trI_some (List.getElem?_eq_getElem hj2)]
    exact h _ (List.getElem_mem hj2)
section
variable {X : Cx} {pins : List (Addr × Obj)} {σ : L2.St} {H : Hp} {s : Shared}
/-- the generator at gn over the ints ns, before its first turn -/
def RdyI (X : Cx) (pins : List (Addr × Obj)) (σ : L2.St) (H1 : Hp) (T : Addr) (ns : List Int) (pb : Int → Bool) (gn : Addr) (s5 : Shared) : Prop :=
  ∃ (fp wr : List Addr) (G : Array GenState → Array GenState → Prop) (F : Nat → Value → Prop) (St : Nat → Shared → Prop), WalksS X.prog X.w X.A.in1 gn fp wr G ns.length F St ∧ St 0 s5 ∧ TruthOf X.prog X.w X.A.in1 F (trI pb ns) ∧
    ∀ s', Moved wr G s5 s' → ∃ H2, GxR.Tabbed T H1 H2 ∧ Inv X pins σ H2 s'
/-- what is captured: slot i of the def, called y -/
def CapOk (X : Cx) (cap : Option (Nat × Str)) (σ : L2.St) (m : Int) : Prop := ∀ p, cap = some p → X.N[p.1]? = some p.2 ∧ σ[p.1]? = some (some (.int m)) ∧ Vis X.env.scope p.2 ∧ X.env.kindOf p.2 = some .cell
theorem genI {c T : Addr} {elt iter : Expr} {x : Str} {px gpos : Pos} {scope : Scope} {cap : Option (Nat × Str)} {pb : Int → Int → Bool} {te : TE} {k : Nat} {Q' : Value → Shared → Prop} {R : List Int → Int → Hp → Prop}
    (hr : Room k X.A) (TB : GxR.TabB X.base X.mg c T) (hcode : X.env.code = .ref c) (S : GxR.GenS X.env scope x) (hi : PE X iter te) (hel : EltI X.prog X.w X.mg scope X.env.cells x (cap.map (·.2)) elt pb) (hs : ∀ v, genFold iter X.env v = pure v) (I : Inv X pins σ H s)
    (h : te σ H fun v H1 => ∃ (a : Addr) (ns : List Int) (m : Int), v = .ref a ∧ SqT X.K H1 a (ns.map V.int) ∧ CapOk X cap σ m ∧ GxR.TabG H1 T ∧ R ns m H1)
    (hQ : ∀ ns m H1 gn s5, GxR.TabG H1 T → R ns m H1 → RdyI X pins σ H1 T ns (pb m) gn s5 → Q' (.ref gn) s5) :
    wpAny (model X.prog X.w) X.A (eval (.GeneratorExp elt [⟨.Name x px, iter, [], 0⟩] scope gpos) X.env) Q' X.xe s := by
  refine wpAny_GeneratorExp_walksQ hr.hd S.co (closure_ok S.free) S.cell S.dot S.loc S.kind (by have := hr.dp; omega) (thn (hi.run pins s σ H _ I h) fun xv s1 ⟨v, H1, I1, r1, q1⟩ => ?_) hs
  obtain ⟨a, ns, m, rfl, hsq, hcap, ⟨ps, hT, ht⟩, q1⟩ := q1
  obtain rfl : xv = Value.ref a := r1
  obtain ⟨its, rv, pl, hz⟩ := I1.tuple hsq
  have hints := rv.ints
  have hlen : its.length = ns.length := by rw [← rv.length, List.length_map]
  have hat : ∀ (i : Nat) (v : Value), its.toArray[i]? = some v → ∃ (n : Int) (u : Tok), ns[i]? = some n ∧ v = .int n u := fun i v hv => by
    have hv2 : its[i]? = some v := by simpa using hv
    have hi2 : i < ns.length := by rw [← hlen]; exact (List.getElem?_eq_some_iff.mp hv2).1
    obtain ⟨t, e⟩ := PyProof.Rows.IntsAre.int_at hints i v hv2
    refine ⟨ns[i], t, List.getElem?_eq_getElem hi2, ?_⟩
    rw [e, List.getD_eq_getElem?_getD, List.getElem?_eq_getElem hi2] <;> rfl
  have hcel : ∀ y, cap.map (·.2) = some y → ∃ cc u, X.env.cells.lookup y = some cc ∧ s1.heap.IsCell cc (some (.int m u)) := fun y hy => by
    cases hc : cap with
    | none =>
      rw [hc] at hy
      cases hy
    | some p =>
      rw [hc] at hy
      obtain rfl : p.2 = y := Option.some.inj hy
      obtain ⟨c1, c2, c3, c4⟩ := hcap p hc
      obtain ⟨m0, hn0, hl0⟩ := I1.loc
      obtain ⟨u, ru, lk⟩ := hl0 p.1 p.2 _ c1 c2 c3
      obtain ⟨t, rfl⟩ := (show ∃ t, u = Value.int m t from ru)
      rcases lk with ⟨e, _⟩ | ⟨_, cc, e1, e2⟩
      · rw [c4] at e
        cases e
      · exact ⟨cc, t, e1, e2⟩
  refine wpAny_pyIter_tuple pl ?_
  generalize ho : ({ cls := .type "tuple_iterator", data := .fields #[.ref a, .int 0 0] } : Obj) = o
  have itr : (s1.heap.push o).IsTupleIter s1.heap.objs.size a 0 := by
    subst ho
    exact ⟨_, Heap.get?_push_size _ rfl, rfl, rfl⟩
  have alt : a < s1.heap.objs.size := by
    obtain ⟨_, e, _⟩ := id pl
    exact Heap.lt_size e
  have hTs : s1.heap.get? T = some { cls := .none, data := .fields ps } := I1.hok T _ hT
  have hTlt : T < s1.heap.objs.size := Heap.lt_size hTs
  have hT2 : (s1.heap.push o).get? T = some { cls := .none, data := .fields ps } := Heap.get?_push_of_some _ hTs
  have cd : PySem.W.CodeHd (s1.heap.push o) c T := TB.code.keeps fun b u e => Heap.get?_push_of_some _ (I1.bk b u e)
  have lim2 : (s1.heap.push o).NoLimit := I1.nolimit.push o
  have cont : ∀ (code : Value) (h3 : Heap) (tk : Nat) (qs : Array Value), Heap.ExtBut T (s1.heap.push o) h3 → (s1.heap.push o).objs.size ≤ h3.objs.size → h3.get? T = some { cls := .none, data := .fields qs } → (∃ more, qs = ps ++ more) → TriplesOk qs.toList →
      wpAny (model X.prog X.w) X.A (builtinsFor X.env.globals X.env.builtins) (fun bi s4 =>
        ∃ Ia fp wr n0 Pf St0 pz F, Value.ref s1.heap.objs.size = .ref Ia ∧ (∀ A' : Around, A'.handled = none → Walks X.prog X.w A' Ia fp wr n0 Pf St0) ∧ St0 0 s4.heap ∧ (∀ b ∈ fp, b < s4.heap.objs.size) ∧ s4.heap.NoLimit ∧ cStatics ∉ wr ∧
          (∀ hr0 : Heap, (∀ b o, s4.heap.get? b = some o → hr0.get? b = some o) → QuietGen X.prog X.w (genEnv scope (cloFrom X.env.cells scope.names []) s4.heap.objs.size code bi X.env) x [] elt (List.range s4.heap.objs.size) wr Pf pz F hr0) ∧
          (∀ gn h5 tk gs, gs.bare = true → s4.heap.objs.size < gn → h5.objs.size = gn + 1 → (∀ b o, s4.heap.get? b = some o → h5.get? b = some o) →
            WalksS X.prog X.w X.A.in4 gn (gn :: s4.heap.objs.size :: List.range s4.heap.objs.size) (s4.heap.objs.size :: wr) (GenOnlyQ s4.gens.size) (passing pz n0 0).length
              (fun j y => ∃ i, (passing pz n0 0)[j]? = some i ∧ F i y) (GenAt X.prog X.w X.A.in4 gn s4.gens.size s4.heap.objs.size (List.range s4.heap.objs.size) wr pz n0 F) →
            GenAt X.prog X.w X.A.in4 gn s4.gens.size s4.heap.objs.size (List.range s4.heap.objs.size) wr pz n0 F 0 { s4 with gens := s4.gens.push gs, toks := tk, heap := h5 } →
            Q' (.ref gn) { s4 with gens := s4.gens.push gs, toks := tk, heap := h5 })) X.xe { s1 with heap := h3, toks := tk } := by
    intro code h3 tk qs hx hsz hT3 hmore ht3
    obtain ⟨bm, ob, e1, e2, e3, e4, e5, e6, e7, e8⟩ := TB.bm
    have hcT : cStatics ≠ T := fun e => by
      obtain ⟨_, hns, _⟩ := I1.nolimit
      obtain ⟨o', es, ep, ho, hd, _⟩ := hns
      rw [e, hTs] at ho
      cases ho
      cases hd
    have hcl : cStatics < s1.heap.objs.size := let ⟨_, hns, _⟩ := I1.nolimit; hns.lt
    have sz2 : (s1.heap.push o).objs.size = s1.heap.objs.size + 1 := Heap.size_push ..
    have h13 : s1.heap.objs.size < h3.objs.size := by
      rw [sz2] at hsz
      exact hsz
    have keep3 : ∀ b u, b ≠ T → s1.heap.get? b = some u → h3.get? b = some u := fun b u hb e => hx b u hb (Heap.get?_push_of_some _ e)
    refine wpAny_builtinsFor (m := X.mg) (by rw [I1.ok.glob]; exact ((I1.mod.glob.keeps I1.bk).push o).extBut hx TB.gP) e1 e2 (keep3 _ _ e4 (I1.bk _ _ e5)) e6 e7 e8 ?_
    have aT : a ≠ T := fun z => by
      obtain ⟨_, e, hc1, _, hd1⟩ := id pl
      rw [z, hTs] at e
      cases e
      cases hd1
    have pl3 : h3.IsTuple a its.toArray := by
      obtain ⟨ob, e, r⟩ := id pl
      exact ⟨ob, keep3 _ _ aT e, r⟩
    have itr3 : h3.IsTupleIter s1.heap.objs.size a 0 := itr.at fun u e => hx _ u (Nat.ne_of_gt hTlt) e
    refine ⟨s1.heap.objs.size, [s1.heap.objs.size, a], [s1.heap.objs.size], its.toArray.size, (fun i v => its.toArray[i]? = some v), (fun i h => h.IsTupleIter s1.heap.objs.size a i ∧ h.IsTuple a its.toArray), (fun _ => true),
      (fun i y => ∃ n, ns[i]? = some n ∧ y = .bool (pb m n)), rfl, (fun A' hA => Walks.tuple hA _ _ (Nat.ne_of_lt alt) _), ⟨itr3, pl3⟩, ?_, lim2.extBut hx hcT, ?_, ?_, ?_⟩
    · intro b hb
      show b < h3.objs.size
      rcases List.mem_cons.mp hb with z | z
      · rw [z]
        exact h13
      · obtain rfl := List.mem_singleton.mp z
        exact Nat.lt_trans alt h13
    · intro z
      exact Nat.ne_of_lt hcl (List.mem_singleton.mp z)
    · intro hr0 hk0
      refine ⟨fun A' E' i v s2 m2 hA hPv hn hm hk => ?_, fun A' E' i v s2 m2 hA hPv hp hn hm hk => ?_⟩
      · simp only [List.forIn_nil]
        exact wpAny_pure ⟨rfl, GxR.keeps_refl _⟩
      · obtain ⟨n, u, hn1, rfl⟩ := hat i v hPv
        have kp : ∀ b u, b ≠ T → s1.heap.get? b = some u → s2.heap.get? b = some u := fun b u hb e => by
          have hl := Heap.lt_size e
          refine hk b (List.mem_range.mpr ?_) (fun z => Nat.ne_of_lt hl (List.mem_singleton.mp z)) _ (hk0 b u (keep3 b u hb e))
          exact Nat.lt_trans hl h13
        refine wpAny_mono (hel m n _ A' E' u s2 m2 rfl rfl I1.ok.glob (fun y hy => ?_) ?_ hn hm) (fun y s3 r => ⟨⟨n, hn1, r.1⟩, r.2⟩) fun _ _ e => e
        · obtain ⟨cc, t, f1, o', f2, f3⟩ := hcel y hy
          refine ⟨cc, t, f1, o', kp cc _ (fun z => ?_) f2, f3⟩
          rw [z, hTs] at f2
          cases f2
          cases f3
        · exact (I1.mod.glob.keeps I1.bk).at fun u e => kp _ u TB.gP e
    · intro gn h5 tk5 gs hgb hag hsz5 hk5 W5 hg5
      simp only [GxR.passing_true, List.length_range] at W5
      have hn5 : its.toArray.size = ns.length := by rw [List.size_toArray, hlen]
      rw [hn5] at W5 hg5
      refine hQ ns m H1 gn _ ⟨ps, hT, ht⟩ q1 ⟨_, _, _, _, _, W5.in4_1, hg5, ?_, fun s' hm => ?_⟩
      · intro j y sj Qj Ej hy hQj
        obtain ⟨i, hij, n, hn1, rfl⟩ := hy
        obtain ⟨hj, ej⟩ := List.getElem?_eq_some_iff.mp hij
        rw [List.getElem_range] at ej
        subst ej
        have hQ2 : Qj (trI (pb m) ns j) sj := hQj
        rw [trI_some hn1] at hQ2
        exact wpAny_truthy_bool hQ2
      · obtain ⟨more, em⟩ := hmore
        have nw : ∀ b u, s1.heap.get? b = some u → b ∉ h3.objs.size :: [s1.heap.objs.size] := fun b u e hb => by
          have hl : b < s1.heap.objs.size := Heap.lt_size e
          rcases List.mem_cons.mp hb with z | z
          · exact Nat.lt_asymm hl (z ▸ h13)
          · exact Nat.ne_of_lt hl (List.mem_singleton.mp z)
        have J := GxR.inv_tab (more := more) (h' := s'.heap) (g' := s'.gens) (d' := s'.drawn) (t' := s'.toks) I1 hT (fun b u hb e => hm.heap b u (nw b u e) (hk5 b u (keep3 b u hb e)))
          (by rw [← em]; exact hm.heap T _ (nw T _ hTs) (hk5 T _ hT3)) (AllBare.movedS (I1.bare.push hgb) hm)
        rw [GxR.sh_eta s1 s' hm.os] at J
        exact ⟨upd H1 T (.tbl (ps ++ more)), ⟨⟨ps ++ more, upd_same, by rw [← em]; exact ht3⟩, fun b hb => upd_ne hb⟩, J⟩
  refine ⟨lim2, ?_⟩
  cases hf : codeAmong gpos ps.toList with
  | none =>
    refine wpAny_genexprCodeX hcode (cd.code hT2 ht) (cd.tab hT2) hf fun c' h' tk hx hge hlt hco' _ htab' _ => ?_
    obtain ⟨o1, vs, f1, tf, fl, tg, inF, tx, tt, op, _, _, _, _, _, _, _, _, _, htr, _⟩ := hco'
    exact cont _ h' tk _ hx (Nat.le_trans hge (Nat.le_of_lt hlt)) htab'.2 ⟨_, rfl⟩ htr
  | some cv => exact wpAny_genexprCode_hit hcode (cd.code hT2 ht) hf (cont cv (s1.heap.push o) s1.toks ps (Heap.ExtBut.refl _ _) (Nat.le_refl _) hT2 ⟨#[], by simp⟩ ht)
/-- any(..), all(..) of it; behind it the def's table may have grown -/
def tAnyI (X : Cx) (T : Addr) (cap : Option (Nat × Str)) (pb : Int → Int → Bool) (te : TE) : TE := fun σ H Q => te σ H fun v H1 => ∃ (a : Addr) (ns : List Int) (m : Int), v = .ref a ∧ SqT X.K H1 a (ns.map V.int) ∧ CapOk X cap σ m ∧ GxR.TabG H1 T ∧ ∀ H2, Le H1 H2 → Q (.bl (ns.any (pb m))) H2
def tAllI (X : Cx) (T : Addr) (cap : Option (Nat × Str)) (pb : Int → Int → Bool) (te : TE) : TE := fun σ H Q => te σ H fun v H1 => ∃ (a : Addr) (ns : List Int) (m : Int), v = .ref a ∧ SqT X.K H1 a (ns.map V.int) ∧ CapOk X cap σ m ∧ GxR.TabG H1 T ∧ ∀ H2, Le H1 H2 → Q (.bl (ns.all (pb m))) H2
theorem tabbed_le {T : Addr} {H1 H2 : Hp} (ht : GxR.TabG H1 T) (h : GxR.Tabbed T H1 H2) : Le H1 H2 := by
  obtain ⟨ps, e, _⟩ := ht
  obtain ⟨⟨qs, e2, r2⟩, h⟩ := h
  refine ⟨fun a o ea _ nt => ?_, fun a ta => ?_, fun a ea => ?_⟩
  · rw [h a (fun z => by rw [z, e] at ea; exact nt ps (Option.some.inj ea).symm)]
    exact ea
  · by_cases z : a = T
    · rw [z]
      exact ⟨qs, e2, r2⟩
    · obtain ⟨us, eu, ru⟩ := ta
      exact ⟨us, by rw [h a z]; exact eu, ru⟩
  · by_cases z : a = T
    · rw [z, e2] at ea
      cases ea
    · rw [h a z] at ea
      exact ea
theorem pe_anyI {c T : Addr} {elt iter : Expr} {x : Str} {px p pos gpos : Pos} {scope : Scope} {cap : Option (Nat × Str)} {pb : Int → Int → Bool} {te : TE} {k : Nat} (hr : Room k X.A) (hg : Gl X "any") (hm : X.mg "any" = none) (TB : GxR.TabB X.base X.mg c T) (hcode : X.env.code = .ref c) (S : GxR.GenS X.env scope x)
    (hi : PE X iter te) (hel : EltI X.prog X.w X.mg scope X.env.cells x (cap.map (·.2)) elt pb) (hs : ∀ v, genFold iter X.env v = pure v)
    (he : starEach [.GeneratorExp elt [⟨.Name x px, iter, [], 0⟩] scope gpos] X.env = (false, eval (.GeneratorExp elt [⟨.Name x px, iter, [], 0⟩] scope gpos) X.env) :: starEach [] X.env := by rfl) :
    PE X (.Call (.Name "any" p) [.GeneratorExp elt [⟨.Name x px, iter, [], 0⟩] scope gpos] [] pos) (tAnyI X T cap pb te) := by
  refine ⟨fun pins s σ H Q I h => ?_⟩
  refine wpAny_Call_Name_kw (ld_blt I hg hm boot_any (PyProof.Rows.callWith_builtin1 ?_ he (by rfl)))
  rw [he]
  show wpAny _ _ (spliced ((false, eval (.GeneratorExp elt [⟨.Name x px, iter, [], 0⟩] scope gpos) X.env) :: backTo pos (starEach [] X.env))) _ _ s
  refine Calls.spliced_cons (genI (R := fun ns m H1 => ∀ H2, Le H1 H2 → Q (.bl (ns.any (pb m))) H2) hr TB hcode S hi hel hs I h fun ns m H1 gn s5 hT0 hR hG => ?_)
  obtain ⟨fp, wr, G, F, St, W, hst, htr, hI⟩ := hG
  refine Calls.spliced_nil (call_any_walkS (W.self 0 _ _ _ hst ⟨gn, fp, wr, G, _, F, St, _, rfl, W, hst, htr, fun s' hmv => ?_⟩))
  obtain ⟨H2, hT, J⟩ := hI s' hmv
  refine ⟨.bl _, H2, J, rfl, ?_⟩
  rw [any_trI]
  exact hR H2 (tabbed_le hT0 hT)
theorem pe_allI {c T : Addr} {elt iter : Expr} {x : Str} {px p pos gpos : Pos} {scope : Scope} {cap : Option (Nat × Str)} {pb : Int → Int → Bool} {te : TE} {k : Nat} (hr : Room k X.A) (hg : Gl X "all") (hm : X.mg "all" = none) (TB : GxR.TabB X.base X.mg c T) (hcode : X.env.code = .ref c) (S : GxR.GenS X.env scope x)
    (hi : PE X iter te) (hel : EltI X.prog X.w X.mg scope X.env.cells x (cap.map (·.2)) elt pb) (hs : ∀ v, genFold iter X.env v = pure v)
    (he : starEach [.GeneratorExp elt [⟨.Name x px, iter, [], 0⟩] scope gpos] X.env = (false, eval (.GeneratorExp elt [⟨.Name x px, iter, [], 0⟩] scope gpos) X.env) :: starEach [] X.env := by rfl) :
    PE X (.Call (.Name "all" p) [.GeneratorExp elt [⟨.Name x px, iter, [], 0⟩] scope gpos] [] pos) (tAllI X T cap pb te) := by
  have hb : bootBuiltins (Str.ofString "all") = some (.builtin "all") := by decide +kernel
  refine ⟨fun pins s σ H Q I h => ?_⟩
  refine wpAny_Call_Name_kw (ld_blt I hg hm hb (PyProof.Rows.callWith_builtin1 ?_ he (by rfl)))
  rw [he]
  show wpAny _ _ (spliced ((false, eval (.GeneratorExp elt [⟨.Name x px, iter, [], 0⟩] scope gpos) X.env) :: backTo pos (starEach [] X.env))) _ _ s
  refine Calls.spliced_cons (genI (R := fun ns m H1 => ∀ H2, Le H1 H2 → Q (.bl (ns.all (pb m))) H2) hr TB hcode S hi hel hs I h fun ns m H1 gn s5 hT0 hR hG => ?_)
  obtain ⟨fp, wr, G, F, St, W, hst, htr, hI⟩ := hG
  refine Calls.spliced_nil (call_all_walkS (W.self 0 _ _ _ hst ⟨gn, fp, wr, G, _, F, St, _, rfl, W, hst, htr, fun s' hmv => ?_⟩))
  obtain ⟨H2, hT, J⟩ := hI s' hmv
  refine ⟨.bl _, H2, J, rfl, ?_⟩
  rw [all_trI]
  exact hR H2 (tabbed_le hT0 hT)
end
end G
end
section
set_option Elab.async false
set_option linter.all false
set_option maxRecDepth 100000
set_option maxHeartbeats 4000000
namespace G
section
open PySem
open Sem (wp)
open AutoSeq1
set_option maxHeartbeats 2000000 in
theorem enT_new {v : Value} {o : Obj} {H : Heap → Prop} (B : Begins v o H) :
    Meets (Builtin.«enumerate.__new__» ⟨[.type "enumerate", v], []⟩) (fun _ R s => H s.heap ∧
      R (.ok (.ret (.ref (s.heap.push o).objs.size))) { s with heap := (s.heap.push o).push { cls := .type "enumerate", data := .fields #[.none, .bool false, .ref s.heap.objs.size, rawInt 0, .none, .none] } }) :=
  .of_wp fun prog w A R s h => by
    obtain ⟨hp, g, d, tk, os⟩ := s
    obtain ⟨h1, h⟩ := h
    have e1 := sub_enumerate
    have q1 : ∀ {A' : Around} {E : Value → Shared → Prop} {Q : Value → Shared → Prop}, Q (.ref hp.objs.size) ⟨hp.push o, g, d, tk, os⟩ → wpAny (model prog w) A' (pyIter v) Q E ⟨hp, g, d, tk, os⟩ := fun q => B.iter prog w _ _ ⟨hp, g, d, tk, os⟩ _ h1 q
    wp_walk using q1
    refine wpAny_stack_any fun st => wpAny_pure ?_
    split
    · rename_i c _ _ _ _ _
      cases (c == Value.type "enumerate")
      · wp_walk using q1
        exact ⟨_, rfl, h⟩
      · wp_walk using q1
        exact ⟨_, rfl, h⟩
    · wp_walk using q1
      exact ⟨_, rfl, h⟩
section
variable {prog : Program} {w : World} {A : Around} {E : Value → Shared → Prop} {s : Shared}
/-- enumerate(v): its two new cells -/
theorem enT_call {v : Value} {o : Obj} {H : Heap → Prop} {Q : Value → Shared → Prop} (B : Begins v o H) (h1 : H s.heap)
    (h : ∀ h', IsEnum h' (s.heap.objs.size + 1) s.heap.objs.size 0 .none → h'.get? s.heap.objs.size = some o → (∀ b o, s.heap.get? b = some o → h'.get? b = some o) → Q (.ref (s.heap.objs.size + 1)) { s with heap := h' }) :
    wpAny (model prog w) A (call (.type "enumerate") [v]) Q E s := by
  refine callType_new F.called_enumerate (by decide) (F.typeCall_enumerate_1 _) (F.newCall_enumerate_1 _) (fun obj => F.args_object_init_2 obj _) F.entry_enumerate_new (enT_new B) ⟨h1, ?_⟩
  have hz : (s.heap.push o).objs.size = s.heap.objs.size + 1 := Heap.size_push ..
  show _ ∧ _
  rw [hz]
  have he : IsEnum ((s.heap.push o).push { cls := .type "enumerate", data := .fields #[.none, .bool false, .ref s.heap.objs.size, rawInt 0, .none, .none] }) (s.heap.objs.size + 1) s.heap.objs.size 0 .none := by
    have q := Heap.get?_push_size (s.heap.push o) (o := { cls := .type "enumerate", data := .fields #[.none, .bool false, .ref s.heap.objs.size, rawInt 0, .none, .none] }) rfl
    rw [hz] at q
    exact q
  exact ⟨⟨_, he, rfl⟩, h _ he (Heap.get?_push_of_some _ (Heap.get?_push_size _ B.free)) fun b o x => Heap.get?_push_of_some _ (Heap.get?_push_of_some _ x)⟩
end
set_option maxRecDepth 8000 in
theorem extT_meets (l : Addr) (items : Array Value) (n : Nat) (b : Addr) (i2 : Array Value) (n2 : Nat) (dd : Option Addr) (sl : Array (Option Value)) (h0 : ¬(!items.isEmpty && Builtin.List.listTooLong (items.size + i2.size)) = true) (h1 : items.size ≤ sizeLine) (h2 : items.size + i2.size ≤ sizeLine + 1) :
    Meets (Builtin.«list.extend» ⟨[.ref l, .ref b], []⟩) (fun _ R s => s.heap.get? l = some { cls := .type "list", dict := none, data := .seq items n, slots := #[] } ∧ s.heap.get? b = some { cls := .type "tuple", dict := dd, data := .seq i2 n2, slots := sl } ∧
      R (.ok (.ret Value.none)) { s with heap := s.heap.update l (Obj.mapSeq fun x => x ++ i2), toks := s.toks }) :=
  .of_wp fun prog w A R s h => by
    obtain ⟨hp, g, d, tk, os⟩ := s
    obtain ⟨hl, hb, h⟩ := h
    have f1 := idx_int
    have f2 := sub_tuple_tuple
    have f3 := sub_list_list
    have f4 := sub_tuple_list
    have f5 := sub_list_tuple
    have hz : (items ++ i2).size ≤ sizeLine + 1 := by
      rw [Array.size_append]
      exact h2
    wp_walk using (wpAny_updateSeq hl rfl (hz := h1) (_hz' := hz)), wpAny_loadPart' hl, wpAny_loadPart' hb
    exact ⟨_, rfl, h⟩
end
end G
end
section
set_option Elab.async false
set_option linter.all false
set_option maxRecDepth 100000
set_option maxHeartbeats 4000000
namespace G
open PySem PySem.Spec PyProof.Rows L2
/-! ### enumerate(tuple) -/
def IteT (K : PySem.W.Frag) (a : Addr) : It :=
  ⟨fun i H => ∃ (xs : List V) (x : V), SqT K H a xs ∧ xs[i]? = some x, fun i H v H' => ∃ T x, v = .ref T ∧ H T = none ∧ H' = upd H T (.tup [.int (i : Nat), x]) ∧ ∀ xs, SqT K H a xs → xs[i]? = some x, fun i H => ∃ xs : List V, SqT K H a xs ∧ xs.length ≤ i⟩
theorem turn_enumT {P : Program} {w : World} {K : PySem.W.Frag} {elts : List Expr} {kk : Nat} {tpos : Pos} (a e it : Addr) (nae : a ≠ e) (nai : a ≠ it) :
    Turn P w K (.Tuple elts kk tpos) (IteT K a) [e, it] e (fun i h => (∃ old, IsEnum h e it ((i : Nat) : Int) old) ∧ h.IsTupleIter it a i ∧ e ≠ it) where
  mem := by simp
  obj := fun i h st b hb => by
    obtain ⟨⟨old, he⟩, ⟨o, ho, hc, hd⟩, _⟩ := st
    rcases List.mem_cons.mp hb with z | z
    · rw [z]
      exact ⟨_, he, fun v q => nomatch q⟩
    · rw [List.mem_singleton.mp z]
      exact ⟨o, ho, fun v q => by rw [hd] at q; cases q⟩
  keep := fun i h h' st k => let ⟨⟨old, he⟩, hi, hne⟩ := st; ⟨⟨old, k e (by simp) _ he⟩, hi.at fun o q => k it (by simp) o q, hne⟩
  item := by
    intro X hP hw hK hc i pins s σ H E I hf st hg
    subst hP hw hK
    obtain ⟨⟨old, he⟩, hit, hne⟩ := st
    obtain ⟨xs, x, hq, hx⟩ := hg
    obtain ⟨its, rv, p, hz⟩ := I.tuple hq
    obtain ⟨u, hu, ru⟩ := rv.get hx
    have hel : e < s.heap.objs.size := Heap.lt_size he
    have hil : it < s.heap.objs.size := by
      obtain ⟨_, q, _⟩ := hit
      exact Heap.lt_size q
    have hlt : i < its.toArray.size := by
      rw [List.size_toArray]
      exact (List.getElem?_eq_some_iff.mp hu).1
    refine wpAny_pyNext_enum_itemD (Draws.tuple (prog := X.prog) (w := X.w) (A := X.A.in1) (I.ok.hd hc) it a nai its.toArray) he ⟨hit, p⟩ hlt hne (by
      intro z
      rcases List.mem_cons.mp z with z | z
      · exact hne z
      · exact nae (List.mem_singleton.mp z).symm) fun u2 h' tk hu2 ho hst hT hsz hk => ?_
    obtain rfl : u2 = u := by
      rw [List.getElem?_toArray, hu] at hu2
      exact (Option.some.inj hu2).symm
    refine ⟨_, rfl, wpAny_letOwnedTupleGo_enum (s := { s with heap := h', toks := tk + 1 }) ho fun h'' he' sb => ?_⟩
    have hT2 : h''.get? s.heap.objs.size = some { cls := .type "tuple", data := .seq #[.int i tk, u2] } := (sb.2 _ (Nat.ne_of_gt hel)).trans hT
    have new : ObjOk X.prog X.w (upd H s.heap.objs.size (.tup [.int (i : Nat), x])) h'' s.heap.objs.size (.tup [.int (i : Nat), x]) :=
      ⟨by show 2 ≤ sizeLine; decide, [.int i tk, u2], .cons ⟨_, rfl⟩ (.cons ru .nil), ⟨_, hT2, rfl, _, rfl⟩⟩
    have I1 : Inv X pins σ (upd H s.heap.objs.size (.tup [.int (i : Nat), x])) { s with heap := h'', toks := tk + 1 } :=
      I.turnedNew (ch := [e, it]) (fun b ob hb q => (sb.2 b (fun z => hb (by simp [z]))).trans (hk b ob (fun z => hb (by simp [z])) (fun z => hb (by simp [z])) q)) hf (Nat.le_refl _) new
    refine ⟨.ref s.heap.objs.size, _, I1, rfl, ⟨_, x, rfl, I.hok.fresh (Nat.le_refl _), rfl, fun ys hy => by rw [I.tuple_inj hy hq]; exact hx⟩, ⟨⟨u2, ?_⟩, hst.1.at fun o q => (sb.2 it (Ne.symm hne)).trans q, hne⟩, fun b hb => ?_⟩
    · have e1 : ((i + 1 : Nat) : Int) = (i : Int) + 1 := by omega
      rw [e1]
      exact he'
    · have hb2 : b < s.heap.objs.size := by
        rcases List.mem_cons.mp hb with z | z
        · rw [z]
          exact hel
        · rw [List.mem_singleton.mp z]
          exact hil
      rw [upd_ne (Nat.ne_of_lt hb2)]
      exact (hf b hb).1
  done := by
    intro X hP hw hK hc i pins s σ H E I hf st hg
    subst hP hw hK
    obtain ⟨⟨old, he⟩, hit, hne⟩ := st
    obtain ⟨xs, hq, hx⟩ := hg
    obtain ⟨its, rv, p, hz⟩ := I.tuple hq
    obtain ⟨f0, f1, f2, f3, f4, f5⟩ := hf it (by simp)
    have hl := rv.length
    have hnone : its.toArray[i]? = none := by
      rw [List.getElem?_toArray, List.getElem?_eq_none_iff]
      omega
    have hT : s.TypeIs (.ref e) "enumerate" := ⟨_, he, rfl⟩
    unfold pyNext
    refine wpAny_bind (wpAny_attempt (wpAny_callSpecial?_slot (name := Str.ofString "__next__") hT F.slot_enumerate_next (wpAny_call_entry F.slot_enumerate_next hT F.entry_enumerate_next ?_ (F.args_enumerate_next_1 _))))
    show wpAny _ _ (field (.ref e) 2 >>= _) _ _ _
    refine wpAny_bind (wpAny_field he rfl (x := .ref it) rfl (wpAny_bind (wpAny_nextOf_tuple_end (I.ok.hd hc) hit p hnone fun h' x0 he0 hx0 => ?_)))
    obtain ⟨o, ho, hc0⟩ := hx0
    refine wpAny_bind (wpAny_isInstance (T := "StopIteration") (b := true) ⟨o, ho, hc0⟩ isSubtype_stop ?_)
    exact wpAny_pure ⟨rfl, I.turned (t' := s.toks) (fun b o hb q => he0 b o hb q) f0 f1 f3 f4 f5⟩
  self := fun A i s Q E st h => let ⟨⟨_, he⟩, _⟩ := st; wpAny_pyIter_enum he h
def iEnumT (K : PySem.W.Frag) (ta : TA) : TI := fun σ H R => ta σ H fun vs H1 => ∃ a xs, vs = [.ref a] ∧ SqT K H1 a xs ∧ R (IteT K a) H1
theorem pi_enumT {X : Cx} {e : Expr} {ta : TA} {p pos tpos : Pos} {elts : List Expr} {kk : Nat} (hg : Gl X "enumerate") (hm : X.mg "enumerate" = none) (ha : PA X [e] ta) (hs : starEach [e] X.env = [(false, eval e X.env)] := by rfl) :
    PI X (.Tuple elts kk tpos) (.Call (.Name "enumerate" p) [e] [] pos) (iEnumT X.K ta) := by
  refine ⟨fun pins s σ H R I h => ?_⟩
  refine Call_ (ld_blt I hg hm boot_enumerate (PyProof.Rows.callWith_type1 (thn (ha.run pos pins s σ H _ I h) fun us s1 ⟨vs, H1, I1, r1, q1⟩ => ?_) hs rfl))
  obtain ⟨a, xs, rfl, hq, q⟩ := q1
  cases r1 with
  | cons r rr =>
    cases rr
    cases r
    obtain ⟨its, rv, p2, hz⟩ := I1.tuple hq
    have alt : a < s1.heap.objs.size := by
      obtain ⟨_, e, _⟩ := id p2
      exact Heap.lt_size e
    refine enT_call (begins_tuple a its.toArray) p2 fun h' he hit hk => wpAny_pyIter_enum he ?_
    have I2 : Inv X pins σ H1 { s1 with heap := h' } := I1.kept (t' := s1.toks) hk
    refine ⟨s1.heap.objs.size + 1, [s1.heap.objs.size + 1, s1.heap.objs.size], _, _, H1, rfl, I2, turn_enumT a (s1.heap.objs.size + 1) s1.heap.objs.size (Nat.ne_of_lt (Nat.lt_succ_of_lt alt)) (Nat.ne_of_lt alt), ⟨⟨.none, he⟩, ⟨_, hit, rfl, rfl⟩, Nat.succ_ne_self _⟩, fun b hb => ?_, q⟩
    have hle : s1.heap.objs.size ≤ b := by
      rcases List.mem_cons.mp hb with z | z
      · rw [z]
        exact Nat.le_add_right _ _
      · rw [List.mem_singleton.mp z]
        exact Nat.le_refl _
    exact I1.fpOk hle (I1.hok.fresh hle)
theorem walk_enumT {K : PySem.W.Frag} {a : Addr} {xs : List V} : Walk (IteT K a) xs.length (fun H => SqT K H a xs) (YPair (fun i => some (.int (i : Nat))) (fun i => xs[i]?)) := by
  refine ⟨fun i _ hi q => ⟨xs, xs[i], q, by simp [hi]⟩, fun _ q => ⟨xs, q, Nat.le_refl _⟩, fun i H v H' _ q y => ?_⟩
  obtain ⟨T, x, h1, h2, h3, h4⟩ := y
  exact ⟨T, .int (i : Nat), x, h1, h2, h3, rfl, h4 xs q⟩
/-! ### xs.extend(tuple), xs[i] op= e -/
def rExtT (K : PySem.W.Frag) : V → List V → Hp → VK → Prop := fun x vs H Q => ∃ (l b : Addr) (xs zs : List V), x = .ref l ∧ vs = [.ref b] ∧ H l = some (.lst xs) ∧ ((SqT K H b zs) ∨ H b = some (.lst zs)) ∧ xs.length + zs.length ≤ 100000 ∧ Q .non (upd H l (.lst (xs ++ zs)))
theorem mt_extT {X : Cx} : MtM X "list.extend" (rExtT X.K) := by
  intro pins s σ H x vs v us Q I rx rv h
  obtain ⟨l, b, xs, zs, rfl, rfl, hH, hB, hz0, q⟩ := h
  have hz : xs.length + zs.length ≤ sizeLine := Nat.le_trans hz0 (by decide)
  rcases hB with hB | hB
  · cases rx
    obtain ⟨u, rfl, ru⟩ := rv.one
    cases ru
    obtain ⟨z, its, n, r, hl, e⟩ := I.lstM hH
    obtain ⟨its2, r2, ⟨o2, e2, c2, n2, d2⟩, _⟩ := I.tuple hB
    have hl2 := r2.length
    obtain ⟨oc, od, oa, os⟩ := o2
    simp only at c2 d2
    subst c2 d2
    have hsz : its.toArray.size + its2.toArray.size ≤ sizeLine := by rw [List.size_toArray, List.size_toArray]; omega
    have hlong : ¬ (!its.toArray.isEmpty && Builtin.List.listTooLong (its.toArray.size + its2.toArray.size)) = true := by
      rw [notLongL hsz, Bool.and_false]
      exact Bool.false_ne_true
    refine call_meets F.slot_list_extend ⟨_, e, rfl⟩ F.entry_list_extend (F.args_list_extend_2 _ _) (extT_meets l its.toArray n b its2.toArray n2 od os hlong (by rw [List.size_toArray]; omega) (by omega)) ⟨e, e2, ?_⟩
    refine ⟨.non, _, I.lset (its' := its ++ its2) hH e (by simp) (r.append r2) ?_, rfl, q⟩
    rw [List.length_append]
    omega
  · exact mt_extend pins s σ H _ _ _ _ Q I rx rv ⟨l, b, xs, zs, rfl, rfl, hH, hB, hz, q⟩
def rGetL (K : PySem.W.Frag) : V → V → Hp → VK → Prop := fun x y H Q => ∃ (a : Addr) (xs : List V) (i : Nat) (v : V), x = .ref a ∧ y = .int (i : Nat) ∧ SqL K H a xs ∧ xs[i]? = some v ∧ Q v H
theorem get_list {X : Cx} : PGet X (rGetL X.K) := by
  intro pins s σ H x y v u Q I rx ry h
  obtain ⟨p, xs, i, z, rfl, rfl, hq, he, q⟩ := h
  cases rx
  obtain ⟨t, rfl⟩ := ry
  obtain ⟨its, r, pl, hz⟩ := I.list hq
  obtain ⟨w, ew, rw'⟩ := r.get he
  have hi : i < xs.length := (List.getElem?_eq_some_iff.mp he).1
  have hn := line63
  refine wpAny_getItem_list pl.isList (x := w) (by omega) (by omega) ?_ ⟨z, H, I, rw', q⟩
  rw [List.getElem?_toArray]
  exact ew
/-! ### a call of a local that holds one of several defs -/
def tCallX (i : Nat) (S : Addr → Sp → Prop) (E : XK) (t : TA) : TE := fun σ H Q => ∃ f sp, σ[i]? = some (some (.ref f)) ∧ S f sp ∧ t σ H fun vs H1 => sp vs H1 Q E
theorem pe_callX {X : Cx} {CX : CXT} {k j i : Nat} {S : Addr → Sp → Prop} {E : XK} {x : Str} {p pos : Pos} {e : Expr} {es : List Expr} {t : TA} (A : ∀ f sp, S f sp → Fn X.prog X.w X.K X.mg X.base CX k f sp) (hr : Room j X.A) (hk : k ≤ j) (hN : X.N[i]? = some x) (hv : Vis X.env.scope x) (hx : Passes CX X E)
    (ha : PA X (e :: es) t) (hdb : (x == ("__debug__" : Str)) = false := by decide) (hcd : (x == ("__classdict__" : Str)) = false := by decide)
    (he : starEach (e :: es) X.env = (false, eval e X.env) :: starEach es X.env := by rfl) (hpl : (backTo pos (starEach es X.env)).any (·.1) = false := by rfl) : PE X (.Call (.Name x p) (e :: es) [] pos) (tCallX i S E t) := by
  refine ⟨fun pins s σ H Q I h => ?_⟩
  obtain ⟨f, sp, hs, hS, ht⟩ := h
  obtain ⟨fd, ps, F, b⟩ := (A f sp hS).ex
  refine (pe_callL (i := i) (f := f) (sp := sp) (dvs := []) (E := E) F (hr.mono hk) hN hv (A f sp hS).kp b .nil hx ha hdb hcd he hpl).run pins s σ H Q I ⟨hs, ?_⟩
  simpa only [List.append_nil] using ht
end G
end
section
set_option Elab.async false
set_option linter.all false
set_option maxRecDepth 100000
set_option maxHeartbeats 1000000
namespace G
open PySem PySem.Spec PyProof.Rows L2
/-! ### defs that hold generator expressions: their code object is known -/
section
variable {P : Program} {w : World} {K : PySem.W.Frag} {mg : Str → Option Value} {base : Heap}
theorem FunD.okC {CX : CXT} {N ps : List Str} {k : Nat} {sp : Sp} {x qual : Str} {params : Arguments} {body : List Stmt} {scope : Scope} {dvs : List V} {kws : List (Str × V)} {fd : FuncData} {p : Str × Option Str} (F : FunD K x qual params body scope dvs kws (He.fAd K p) fd) (S : FnScope N ps scope)
    (len : ∀ vs H Q E, sp vs H Q E → vs.length = ps.length)
    (hbody : ∀ (A : Around) (outer : List Env) (s : Shared) (H : Hp) (vs : List V) (Q : VK) (E : XK), Room k (A.deeper (envOfC qual scope s.heap.objs.size (He.fAd K p) (.ref (He.codeOf K p)))) → sp vs H Q E →
      ∃ t, PSs (cxOf CX P w K mg base N qual scope (He.fAd K p) (.ref (He.codeOf K p)) A outer s H E) body t ∧ t { nx := fun _ H' => Q .non H', rt := Q } (start N vs) H) : FnOk P w K mg base CX (k + 1) (He.fAd K p) fd ps sp := by
  obtain ⟨oc, od, dV, kV, doc, pm, an, cdv, ct, osl, rfl, lk, hcd, _, _⟩ := F.ex
  obtain ⟨c, rfl⟩ := He.codeIn_ref hcd
  have e := He.codeOf_eq lk rfl
  refine fn_of lk hcd S len fun A outer s H vs Q E hr hsp => ?_
  rw [← e] at hr ⊢
  exact hbody A outer s H vs Q E hr hsp
theorem Fn.of0C {x qual : Str} {st : Stmt} {p : Str × Option Str} {N ps : List Str} {k : Nat} {sp : Sp} (Fe : ∃ fd, FunD K x qual (defArgs st) (defBody st) (defScope st) [] [] (He.fAd K p) fd) (S : FnScope N ps (defScope st))
    (hb : ∀ (kV doc pm : Value) (an : Option Addr) (cdv ct : Value) (us : List Value), us.length = ps.length → bindArgs (PySem.W.fnOf x qual (defArgs st) (defBody st) (defScope st) .none kV doc pm an cdv ct) ⟨us, []⟩ = pure (ps.zip us))
    (len : ∀ vs H Q E, sp vs H Q E → vs.length = ps.length)
    (hbody : ∀ (A : Around) (outer : List Env) (s : Shared) (H : Hp) (vs : List V) (Q : VK) (E : XK), Room k (A.deeper (envOfC qual (defScope st) s.heap.objs.size (He.fAd K p) (.ref (He.codeOf K p)))) → sp vs H Q E →
      ∃ t, PSs (cxOf CX0 P w K mg base N qual (defScope st) (He.fAd K p) (.ref (He.codeOf K p)) A outer s H E).nox (defBody st) t ∧ t { nx := fun _ H' => Q .non H', rt := Q } (start N vs) H) : Fn P w K mg base CX0 (k + 1) (He.fAd K p) sp := by
  obtain ⟨fd, F⟩ := Fe
  refine ⟨⟨fd, ps, FunD.okC F S len fun A outer s H vs Q E hr h => ?_, F.bindsN hb⟩, F.kp⟩
  obtain ⟨t, h1, h2⟩ := hbody A outer s H vs Q E hr h
  exact ⟨t, h1.nox, h2⟩
theorem Fn.ofXC {x qual : Str} {st : Stmt} {p : Str × Option Str} {N ps : List Str} {k : Nat} {sp : Sp} (Fe : ∃ fd, FunD K x qual (defArgs st) (defBody st) (defScope st) [] [] (He.fAd K p) fd) (S : FnScope N ps (defScope st))
    (hb : ∀ (kV doc pm : Value) (an : Option Addr) (cdv ct : Value) (us : List Value), us.length = ps.length → bindArgs (PySem.W.fnOf x qual (defArgs st) (defBody st) (defScope st) .none kV doc pm an cdv ct) ⟨us, []⟩ = pure (ps.zip us))
    (len : ∀ vs H Q E, sp vs H Q E → vs.length = ps.length)
    (hbody : ∀ (A : Around) (outer : List Env) (s : Shared) (H : Hp) (vs : List V) (Q : VK) (E : XK), Room k (A.deeper (envOfC qual (defScope st) s.heap.objs.size (He.fAd K p) (.ref (He.codeOf K p)))) → sp vs H Q E →
      ∃ t, PSs (cxOf (L2.CX P w) P w K mg base N qual (defScope st) (He.fAd K p) (.ref (He.codeOf K p)) A outer s H E) (defBody st) t ∧ t { nx := fun _ H' => Q .non H', rt := Q } (start N vs) H) : Fn P w K mg base (L2.CX P w) (k + 1) (He.fAd K p) sp := by
  obtain ⟨fd, F⟩ := Fe
  exact ⟨⟨fd, ps, FunD.okC F S len hbody, F.bindsN hb⟩, F.kp⟩
/-- the tables of the three defs -/
class Tbs (K : PySem.W.Frag) (mg : Str → Option Value) (base : Heap) : Prop where
  notes : GxR.TabB base mg (He.cT K ("is_notes", none)).1 (He.cT K ("is_notes", none)).2
  rate : GxR.TabB base mg (He.cT K ("is_rate", none)).1 (He.cT K ("is_rate", none)).2
  close : GxR.TabB base mg (He.cT K ("do_close", none)).1 (He.cT K ("do_close", none)).2
structure T3 (K : PySem.W.Frag) (H : Hp) : Prop where
  notes : GxR.TabG H (He.cT K ("is_notes", none)).2
  rate : GxR.TabG H (He.cT K ("is_rate", none)).2
  close : GxR.TabG H (He.cT K ("do_close", none)).2
theorem T3.lx {S : Addr → Prop} {H H' : Hp} (t : T3 K H) (x : Lx S H H') : T3 K H' := ⟨x.tab _ t.notes, x.tab _ t.rate, x.tab _ t.close⟩
end
theorem ixT_b {X : Cx} {K : PySem.W.Frag} (h : X.K = K) : IxR X (rIxT K) := by
  subst h
  exact ix_tup
theorem ixL_b {X : Cx} {K : PySem.W.Frag} (h : X.K = K) : IxR X (rIxL K) := by
  subst h
  exact ix_list
/-! ### more steps -/
section
variable {σ : L2.St} {H : Hp} {i : Nat} {v x y z : V} {ta tb te tv tc td ty tx : TE} {b : Bool} {a C dx p : Addr} {fs : List (Str × V)} {f : Str} {t u c : TT} {Q : VK} {QT : Bool → Hp → Prop} {D : Ends} {t1 t2 t3 : TS} {g : TG} {xs ys : List V} {n m : Int} {K : PySem.W.Frag}
def kFSet (K : PySem.W.Frag) (f : Str) (D : Ends) (σ : L2.St) (y x : V) (H2 : Hp) : Prop := ∃ a C dx fs, x = .ref a ∧ H2 a = some (.ins C dx fs) ∧ Cls K C ∧ NoAttr K C f ∧ fs.length < 1000 ∧ D.nx σ (upd H2 a (.ins C dx (putF f y fs)))
theorem k_fset (h : tv σ H fun y H1 => ta σ H1 (kFSet K f D σ y)) : sFld K ta tv f D σ H := h
theorem kFSet.mk (h : H a = some (.ins C dx fs)) (c : Cls K C) (na : NoAttr K C f) {fs' : List (Str × V)} (l : decide (fs.length < 1000) = true) (e : putF f y fs = fs') (q : D.nx σ (upd H a (.ins C dx fs'))) : kFSet K f D σ y (.ref a) H := ⟨a, C, dx, fs, rfl, h, c, na, of_decide_eq_true l, by rw [e]; exact q⟩
def kFAug (K : PySem.W.Frag) (f : Str) (D : Ends) (σ : L2.St) (tv : TE) (rd : V → V → Hp → VK → Prop) (x : V) (H1 : Hp) : Prop := ∃ a C dx fs v, x = .ref a ∧ H1 a = some (.ins C dx fs) ∧ Cls K C ∧ NoAttr K C f ∧ fs.lookup f = some v ∧
  tv σ H1 fun y H2 => rd v y H2 fun z H3 => ∃ dx' fs', H3 a = some (.ins C dx' fs') ∧ fs'.length < 1000 ∧ D.nx σ (upd H3 a (.ins C dx' (putF f z fs')))
theorem k_faug {rd : V → V → Hp → VK → Prop} (h : ta σ H (kFAug K f D σ tv rd)) : sFldAug K ta tv rd f D σ H := h
theorem k_sl {r : V → Option Int → Option Int → Hp → VK → Prop} {tl th : TO} (h : te σ H fun x H1 => tl σ H1 fun l H2 => th σ H2 fun u H3 => r x l u H3 Q) : L2.tSl r te tl th σ H Q := h
theorem k_part {QO : Option Int → Hp → Prop} (h : te σ H fun x H1 => ∃ i, x = .int i ∧ QO (some i) H1) : tPart te σ H QO := h
theorem k_nopart {QO : Option Int → Hp → Prop} (q : QO none H) : tNoPart σ H QO := q
theorem k_slT {lo hi : Option Int} (h : SqT K H a xs) (q : ∀ r H', Le H H' → SqT K H' r (cutV xs lo hi) → Q (.ref r) H') : rSlA K (.ref a) lo hi H Q := by
  refine ⟨a, xs, rfl, h, fun e => q a H Lx.refl ?_, fun _ r hr => q r _ (Le.new hr) (SqT.of upd_same)⟩
  have : cutV xs lo hi = xs := by
    unfold cutV
    rw [e.1, e.2, List.drop_zero, Nat.sub_zero, List.take_length]
  rw [this]
  exact h
theorem k_slL {lo hi : Option Int} (h : SqL K H a xs) (q : ∀ r H', Le H H' → H r = none → H' r = some (.lst (cutV xs lo hi)) → Q (.ref r) H') : rSlL K (.ref a) lo hi H Q := ⟨a, xs, rfl, h, fun r hr => q r _ (Le.new hr) hr upd_same⟩
theorem k_u1 {gg : Int → V} (q : Q (gg n) H) : rU gg (.int n) H Q := ⟨n, rfl, q⟩
/-! dicts -/
def kDG (Q : VK) (x y : V) (H : Hp) : Prop := ∃ a v, x = .ref a ∧ DGet H a y (some v) ∧ Q v H
theorem k_dget (h : td σ H fun x H1 => ty σ H1 (kDG Q x)) : tDGet td ty σ H Q := h
theorem kDG.s {kvs : List (Key × V)} {s : Str} (h : H a = some (.dK kvs)) (l : valV kvs (.inr s) = some v) (q : Q v H) : kDG Q (.ref a) (.str s) H := ⟨a, v, rfl, by rw [← l]; exact DGet.k (k := .inr s) h, q⟩
theorem kDG.tt {kvs : List (List Key × V)} {k : List Key} (h : H a = some (.dT kvs)) (hp : H p = some (.tup (k.map kV))) (l : valV kvs k = some v) (q : Q v H) : kDG Q (.ref a) (.ref p) H := ⟨a, v, rfl, by rw [← l]; exact DGet.t h hp, q⟩
def kDIn (Q : VK) (neg : Bool) (y x : V) (H2 : Hp) : Prop := ∃ a o, x = .ref a ∧ DGet H2 a y o ∧ Q (.bl (if neg then !o.isSome else o.isSome)) H2
theorem k_din (h : ty σ H fun y H1 => td σ H1 (kDIn Q false y)) : tDIn ty td σ H Q := h
theorem k_dnin (h : ty σ H fun y H1 => td σ H1 (kDIn Q true y)) : tDNotIn ty td σ H Q := h
theorem kDIn.s {kvs : List (Key × V)} {s : Str} {neg : Bool} (h : H a = some (.dK kvs)) (q : Q (.bl (if neg then !(valV kvs (.inr s)).isSome else (valV kvs (.inr s)).isSome)) H) : kDIn Q neg (.str s) (.ref a) H := ⟨a, _, rfl, DGet.k (k := .inr s) h, q⟩
theorem kDIn.tt {kvs : List (List Key × V)} {k : List Key} {neg : Bool} (h : H a = some (.dT kvs)) (hp : H p = some (.tup (k.map kV))) (q : Q (.bl (if neg then !(valV kvs k).isSome else (valV kvs k).isSome)) H) : kDIn Q neg (.ref p) (.ref a) H := ⟨a, _, rfl, DGet.t h hp, q⟩
def kDP (D : Ends) (σ : L2.St) (v x y : V) (H3 : Hp) : Prop := ∃ a H4, x = .ref a ∧ DPut H3 a y v H4 ∧ D.nx σ H4
theorem k_dput (h : tv σ H fun v H1 => td σ H1 fun x H2 => ty σ H2 (kDP D σ v x)) : sDPut td ty tv D σ H := h
theorem kDP.s {kvs : List (Key × V)} {s : Str} (h : H a = some (.dK kvs)) (hl : kvs.length < 1000) (q : D.nx σ (upd H a (.dK (putK kvs (.inr s) v)))) : kDP D σ v (.ref a) (.str s) H := ⟨a, _, rfl, DPut.k (k := .inr s) h (Nat.lt_of_lt_of_le hl (by decide)), q⟩
theorem kDP.tt {kvs : List (List Key × V)} {k : List Key} (h : H a = some (.dT kvs)) (hp : H p = some (.tup (k.map kV))) (hl : kvs.length < 1000) (q : D.nx σ (upd H a (.dT (putK kvs k v)))) : kDP D σ v (.ref a) (.ref p) H := ⟨a, _, rfl, DPut.t h hp (Nat.lt_of_lt_of_le hl (by decide)), q⟩
theorem k_newK (q : ∀ p H', Le H H' → H p = none → H' p = some (.dK []) → Q (.ref p) H') : tDNewK σ H Q := fun p hp => q p _ (Le.new hp) hp upd_same
theorem k_newT (q : ∀ p H', Le H H' → H p = none → H' p = some (.dT []) → Q (.ref p) H') : tDNewT σ H Q := fun p hp => q p _ (Le.new hp) hp upd_same
def kDG2 (Q : VK) (ty tx : TE) (σ : L2.St) (x : V) (H1 : Hp) : Prop := ∃ a, x = .ref a ∧ IsD H1 a ∧ ty σ H1 fun y H2 => tx σ H2 fun z H3 => ∃ o, DGet H3 a y o ∧ Q (o.getD z) H3
theorem k_dget2 (h : td σ H (kDG2 Q ty tx σ)) : tDGet2 td ty tx σ H Q := h
theorem kDG2.k {kvs : List (Key × V)} (h : H a = some (.dK kvs)) (q : ty σ H fun y H2 => tx σ H2 fun z H3 => ∃ o, DGet H3 a y o ∧ Q (o.getD z) H3) : kDG2 Q ty tx σ (.ref a) H := ⟨a, rfl, .inl ⟨kvs, .inl h⟩, q⟩
theorem kDG2.tt {kvs : List (List Key × V)} (h : H a = some (.dT kvs)) (q : ty σ H fun y H2 => tx σ H2 fun z H3 => ∃ o, DGet H3 a y o ∧ Q (o.getD z) H3) : kDG2 Q ty tx σ (.ref a) H := ⟨a, rfl, .inr ⟨kvs, .inl h⟩, q⟩
/-! truth, append, extend, o[i] op= v -/
def kTru (K : PySem.W.Frag) (QT : Bool → Hp → Prop) (x : V) (H1 : Hp) : Prop := ∃ k, TruV K x H1 k ∧ QT k H1
theorem kTru.l (h : SqL K H a xs) (q : QT (!xs.isEmpty) H) : kTru K QT (.ref a) H := ⟨_, .inl ⟨xs, h, rfl⟩, q⟩
def kBM (K : PySem.W.Frag) (T : String) (r : V → List V → Hp → VK → Prop) (t : TA) (σ : L2.St) (Q : VK) (x : V) (H1 : Hp) : Prop := tyV K T x H1 ∧ t σ H1 fun xs H2 => r x xs H2 Q
theorem k_bm {T : String} {r : V → List V → Hp → VK → Prop} {tr : TA} (h : ta σ H (kBM K T r tr σ Q)) : tBM K T r ta tr σ H Q := h
theorem k_app (h : H a = some (.lst xs)) (hl : xs.length ≤ 1000) (q : Q .non (upd H a (.lst (xs ++ [v])))) : rAppend (.ref a) [v] H Q := ⟨a, xs, v, rfl, rfl, h, Nat.lt_of_le_of_lt hl (by decide), q⟩
theorem k_extL {l : Addr} (h : H l = some (.lst xs)) (h2 : H a = some (.lst ys)) (hl : xs.length + ys.length ≤ 1000) (q : Q .non (upd H l (.lst (xs ++ ys)))) : rExtT K (.ref l) [.ref a] H Q := ⟨l, a, xs, ys, rfl, rfl, h, .inr h2, Nat.le_trans hl (by decide), q⟩
theorem k_extT {l : Addr} (h : H l = some (.lst xs)) (h2 : SqT K H a ys) (hl : xs.length + ys.length ≤ 1000) (q : Q .non (upd H l (.lst (xs ++ ys)))) : rExtT K (.ref l) [.ref a] H Q := ⟨l, a, xs, ys, rfl, rfl, h, .inl h2, Nat.le_trans hl (by decide), q⟩
theorem k_augs {to ti : TE} {tg : V → V → Hp → VK → Prop} {tip : TIp} {ts : TSet} (h : to σ H fun o H1 => ti σ H1 fun i H2 => tg o i H2 fun x H3 => te σ H3 fun y H4 => tip x y H4 fun z H5 => ts o i z H5 fun H6 => D.nx σ H6) : tAugS to ti te tg tip ts D σ H := h
theorem k_setL {QN : Hp → Prop} {j : Nat} (h : H a = some (.lst xs)) (hj : j < xs.length) (q : QN (upd H a (.lst (xs.set j v)))) : rSetL (.ref a) (.int (j : Nat)) v H QN := ⟨a, xs, _, j, rfl, rfl, h, by
  unfold ixN
  rw [if_pos (by omega), if_pos (by omega), Int.toNat_natCast], q⟩
theorem k_gsub {to ti : TE} {ts : TSet} {QN : L2.St → Hp → Prop} (h : to σ H fun o H1 => ti σ H1 fun i H2 => ts o i v H2 fun H3 => QN σ H3) : gSub to ti ts v σ H QN := h
theorem k_cx {S : Addr → Sp → Prop} {E : XK} {tr : TA} {f : Addr} {sp : Sp} (h : σ[i]? = some (some (.ref f))) (hs : S f sp) (q : tr σ H fun vs H1 => sp vs H1 Q E) : tCallX i S E tr σ H Q := ⟨f, sp, h, hs, q⟩
/-- enumerate over a tuple -/
def kEnT (K : PySem.W.Frag) (R : It → Hp → Prop) (vs : List V) (H : Hp) : Prop := ∃ a xs, vs = [.ref a] ∧ SqT K H a xs ∧ R (IteT K a) H
theorem k_enT {R : It → Hp → Prop} {tr : TA} (h : tr σ H (kEnT K R)) : iEnumT K tr σ H R := h
theorem kEnT.mk {R : It → Hp → Prop} (h : SqT K H a xs) (q : R (IteT K a) H) : kEnT K R [.ref a] H := ⟨a, xs, rfl, h, q⟩
theorem k_min2 {n m : Int} {R : List V → Hp → VK → Prop} (e : R = fun xs H Q => ∃ i j, xs = [.int i, .int j] ∧ Q (.int (if j < i then j else i)) H) (q : Q (.int (if m < n then m else n)) H) : R [.int n, .int m] H Q := by rw [e]; exact ⟨n, m, rfl, q⟩
/-- any, all of a generator -/
def kAnyI (X : Cx) (T : Addr) (cap : Option (Nat × Str)) (pb : Int → Int → Bool) (σ : L2.St) (Q : VK) (v : V) (H1 : Hp) : Prop := ∃ (a : Addr) (ns : List Int) (m : Int), v = .ref a ∧ SqT X.K H1 a (ns.map V.int) ∧ CapOk X cap σ m ∧ GxR.TabG H1 T ∧ ∀ H2, Le H1 H2 → Q (.bl (ns.any (pb m))) H2
theorem k_anyI {X : Cx} {T : Addr} {cap : Option (Nat × Str)} {pb : Int → Int → Bool} (h : te σ H (kAnyI X T cap pb σ Q)) : tAnyI X T cap pb te σ H Q := h
def kAllI (X : Cx) (T : Addr) (cap : Option (Nat × Str)) (pb : Int → Int → Bool) (σ : L2.St) (Q : VK) (v : V) (H1 : Hp) : Prop := ∃ (a : Addr) (ns : List Int) (m : Int), v = .ref a ∧ SqT X.K H1 a (ns.map V.int) ∧ CapOk X cap σ m ∧ GxR.TabG H1 T ∧ ∀ H2, Le H1 H2 → Q (.bl (ns.all (pb m))) H2
theorem k_allI {X : Cx} {T : Addr} {cap : Option (Nat × Str)} {pb : Int → Int → Bool} (h : te σ H (kAllI X T cap pb σ Q)) : tAllI X T cap pb te σ H Q := h
theorem kAnyI.mk {X : Cx} {T : Addr} {cap : Option (Nat × Str)} {pb : Int → Int → Bool} {ns : List Int} (m : Int) (h : SqT X.K H a (ns.map V.int)) (hc : CapOk X cap σ m) (ht : GxR.TabG H T) (q : ∀ H2, Le H H2 → Q (.bl (ns.any (pb m))) H2) : kAnyI X T cap pb σ Q (.ref a) H := ⟨a, ns, m, rfl, h, hc, ht, q⟩
theorem kAllI.mk {X : Cx} {T : Addr} {cap : Option (Nat × Str)} {pb : Int → Int → Bool} {ns : List Int} (m : Int) (h : SqT X.K H a (ns.map V.int)) (hc : CapOk X cap σ m) (ht : GxR.TabG H T) (q : ∀ H2, Le H H2 → Q (.bl (ns.all (pb m))) H2) : kAllI X T cap pb σ Q (.ref a) H := ⟨a, ns, m, rfl, h, hc, ht, q⟩
theorem CapOk.no {X : Cx} {m : Int} : CapOk X none σ m := fun p h => by cases h
theorem CapOk.of {X : Cx} {y : Str} {m : Int} (h1 : X.N[i]? = some y) (h2 : σ[i]? = some (some (.int m))) (h3 : Vis X.env.scope y) (h4 : X.env.kindOf y = some .cell) : CapOk X (some (i, y)) σ m := fun p h => by
  cases h
  exact ⟨h1, h2, h3, h4⟩
end
end G
end
section
set_option Elab.async false
set_option linter.all false
set_option maxRecDepth 100000
set_option maxHeartbeats 4000000
namespace G
section
open PySem
open Sem (wp)
variable {prog : Program} {w : World} {A : Around} {E : Value → Shared → Prop} {s : Shared} {K : Type} [DecidableEq K] {knd : HeapKind prog w K}
/-- dict(d), its keys tuples -/
theorem dictT_call {o : Addr} {more : List (K × Addr × Value)} {Q : Value → Shared → Prop} (hu : knd.room A.in1.in1) (lo : (o == sysModules) = false) (ho : s.heap.DictOfH knd o more)
    (hp : (s.heap.push { cls := .type "dict", data := .dict #[] }).DictOfH knd o more) (hap : (∀ x ∈ more, Shared.TypeIs { s with heap := s.heap.push { cls := .type "dict", data := .dict #[] } } (.ref x.2.1) "tuple") ∧ (more.map fun x => knd.hash x.1).Nodup) (hsz : more.length ≤ sizeLine)
    (h : ∀ h', h'.DictOfH knd s.heap.objs.size more → Heap.SameBut s.heap.objs.size (s.heap.push { cls := .type "dict", data := .dict #[] }) h' → Q (.ref s.heap.objs.size) { s with heap := h' }) :
    wpAny (model prog w) A (call (.type "dict") [.ref o]) Q E s := by
  refine callType_codes (Q₁ := fun obj s₁ => obj = .ref s.heap.objs.size ∧ s₁ = { s with heap := s.heap.push { cls := .type "dict", data := .dict #[] } }) F.kt_called_dict (F.kt_typeCall_dict_1 _) F.entry_dict_init (kt_code_dict_new _ ⟨rfl, rfl⟩) ?_
  rintro obj s1 ⟨rfl, rfl⟩
  have hnew : (s.heap.push { cls := .type "dict", data := .dict #[] }).DictOfH knd s.heap.objs.size [] := ⟨_, #[], 0, Heap.get?_push_size _ rfl, ⟨rfl, rfl, rfl⟩, rfl, rfl, (fun x hx => nomatch hx), List.nodup_nil⟩
  have hdo : s.heap.objs.size ≠ o := by
    obtain ⟨_, _, _, hg, _⟩ := ho
    exact fun e => absurd (Heap.lt_size hg) (by rw [e]; exact Nat.lt_irrefl _)
  refine ⟨hnew.typeIs, F.args_dict_init_2 _ _, ?_⟩
  unfold Builtin.«dict.__init__»
  refine wpAny_bind ?_
  unfold Builtin.Dict.selfAndRest
  refine wpAny_bind (wpAny_notOrdered_dict hnew.typeIs ?_)
  show wpAny _ _ (pure (s.heap.objs.size, [Value.ref o])) _ _ _
  refine wpAny_pure ?_
  show wpAny _ _ (Builtin.Dict.updateFrom "dict.__init__" s.heap.objs.size (.ref o) [] .none) _ _ _
  refine wpAny_mono (updateFrom_dictH (R := fun r s' => ∃ h', r = .ok (.ret .none) ∧ s' = { s with heap := h' } ∧ h'.DictOfH knd s.heap.objs.size more ∧ Heap.SameBut s.heap.objs.size (s.heap.push { cls := .type "dict", data := .dict #[] }) h') .none hu hdo lo hnew hp (.inr hap) (by simpa using hsz) fun h' hd' _ hs' => ?_) (fun fin s' hf => ?_) fun e s' he => ?_
  · have hn := ho.nodup
    rw [storedAllH_nil_of_nodup more hn] at hd'
    exact ⟨h', rfl, rfl, hd', hs'⟩
  · have key : ∀ (r : Result) (s2 : Shared), (∃ h', r = .ok (.ret .none) ∧ s2 = { s with heap := h' } ∧ h'.DictOfH knd s.heap.objs.size more ∧ Heap.SameBut s.heap.objs.size (s.heap.push { cls := .type "dict", data := .dict #[] }) h') → wants (fun r s₂ => r = Value.none ∧ Q (Value.ref s.heap.objs.size) s₂) E r s2 := by
      rintro r s2 ⟨h', rfl, rfl, hd, hs⟩
      exact ⟨rfl, h h' hd hs⟩
    cases fin with
    | done f => exact key _ _ hf
    | again c' => exact ⟨hf.1, codeAny_mono hf.2 fun r s2 q => key r s2 q⟩
  · obtain ⟨h', e1, _⟩ := he
    cases e1
end
section
open PySem PySem.Spec PyProof.Rows L2
/-- the hash of a pair of small ints -/
def hhP (i j : Int) : Int := reduceHash (Builtin.Tuple.tupleHashOf [hashInt i, hashInt j])
theorem hhP_inj : ∀ a ∈ [(0 : Int), 1, 2], ∀ b ∈ [(0 : Int), 1, 2], ∀ c ∈ [(0 : Int), 1, 2], ∀ d ∈ [(0 : Int), 1, 2], hhP a b = hhP c d → a = c ∧ b = d := by decide +kernel
theorem small3 {i : Int} (h0 : 0 ≤ i) (h1 : i < 3) : i ∈ [(0 : Int), 1, 2] := by
  have : i = 0 ∨ i = 1 ∨ i = 2 := by omega
  rcases this with rfl | rfl | rfl <;> decide
def SmallK (k : List Key) : Prop := ∃ i j : Int, k = [.inl i, .inl j] ∧ 0 ≤ i ∧ i < 3 ∧ 0 ≤ j ∧ j < 3
theorem smallK_hash {P : Program} {w : World} {k k' : List Key} (h : SmallK k) (h' : SmallK k') (e : (tupleKind (mixKind P w)).hash k = (tupleKind (mixKind P w)).hash k') : k = k' := by
  obtain ⟨i, j, rfl, a1, a2, a3, a4⟩ := h
  obtain ⟨i', j', rfl, b1, b2, b3, b4⟩ := h'
  have e2 : hhP i j = hhP i' j' := e
  obtain ⟨rfl, rfl⟩ := hhP_inj i (small3 a1 a2) j (small3 a3 a4) i' (small3 b1 b2) j' (small3 b3 b4) e2
  rfl
def rDictT : List V → Hp → VK → Prop := fun xs H Q => ∃ (a : Addr) (kvs : List (List Key × V)), xs = [.ref a] ∧ Rd H a (.dT kvs) ∧ (∀ p ∈ kvs, SmallK p.1) ∧ ∀ p, H p = none → Q (.ref p) (upd H p (.dT kvs))
theorem kt_keys {H : Hp} : ∀ {kvs : List (List Key × V)} {xs : List (List Key × Addr × Value)}, KT H kvs xs → xs.map (·.1) = kvs.map (·.1)
  | _, _, .nil => rfl
  | _, _, .cons h t => by rw [List.map_cons, List.map_cons, kt_keys t, h.1]
theorem cr_dictT {X : Cx} (hu : X.A.units + 64 < cLine) : CallR X (.type "dict") rDictT := by
  intro pins s σ H vs us Q I r h
  obtain ⟨a, kvs, rfl, e, sm, q⟩ := h
  rw [Vals.ref1 r]
  obtain ⟨z, lo, xs, kt, dd⟩ := dt_rd I.hok e
  have hk := kt_keys kt
  have hlen : xs.length = kvs.length := by
    have := congrArg List.length hk
    simpa using this
  have his : ∀ x ∈ xs, (tupleKind (mixKind X.prog X.w)).is s.heap x.1 x.2.1 := by
    obtain ⟨_, _, _, _, _, _, _, his, _⟩ := id dd
    exact his
  have up : ∀ {h' : Heap}, (∀ b o, s.heap.get? b = some o → h'.get? b = some o) → ∀ x ∈ xs, (tupleKind (mixKind X.prog X.w)).is h' x.1 x.2.1 := fun k x hx => by
    obtain ⟨o, items, n, ho, hc, hd, hi⟩ := his x hx
    exact ⟨o, items, n, k _ _ ho, hc, hd, hi⟩
  have dp : (s.heap.push { cls := .type "dict", data := .dict #[] }).DictOfH (tupleKind (mixKind X.prog X.w)) a xs := by
    obtain ⟨o, es, ep, h1, h2, h3, h4, h5, h6⟩ := id dd
    exact ⟨o, es, ep, Heap.get?_push_of_some _ h1, h2, h3, h4, up (fun b o e => Heap.get?_push_of_some _ e), h6⟩
  have nd : (xs.map fun x => (tupleKind (mixKind X.prog X.w)).hash x.1).Nodup := by
    have n1 := dd.nodup
    rw [List.Nodup, List.pairwise_map] at n1 ⊢
    refine n1.imp_of_mem fun {x y} hx hy ne eq => ne (smallK_hash ?_ ?_ eq)
    · obtain ⟨p, hp, e1⟩ := List.mem_map.mp (hk ▸ List.mem_map_of_mem hx : x.1 ∈ kvs.map (·.1))
      rw [← e1]
      exact sm p hp
    · obtain ⟨p, hp, e1⟩ := List.mem_map.mp (hk ▸ List.mem_map_of_mem hy : y.1 ∈ kvs.map (·.1))
      rw [← e1]
      exact sm p hp
  refine dictT_call (knd := tupleKind (mixKind X.prog X.w)) ?_ lo dd dp ⟨fun x hx => ?_, nd⟩ (by rw [hlen]; exact z) fun h' dd' hs => ?_
  · show X.A.in1.in1.units < cLine
    have e1 : X.A.in1.in1.units = X.A.units + 2 := rfl
    omega
  · obtain ⟨o, items, n, ho, hc, _⟩ := up (h' := s.heap.push { cls := .type "dict", data := .dict #[] }) (fun b o e => Heap.get?_push_of_some _ e) x hx
    exact ⟨o, ho, hc⟩
  · have hold : ∀ b o, s.heap.get? b = some o → h'.get? b = some o := fun b o e => (hs.2 b (Nat.ne_of_lt (Heap.lt_size e))).trans (Heap.get?_push_of_some _ e)
    have hn : H s.heap.objs.size = none := I.hok.fresh (Nat.le_refl _)
    have kt2 : KT (upd H s.heap.objs.size (.dT kvs)) kvs xs := kt.keeps fun b ys e => by
      rw [upd_ne (ne_of_none e hn)]
      exact e
    obtain ⟨o, es, ep, h1, h2, h3, h4, _, h6⟩ := dd'
    have J : Inv X pins σ (upd H s.heap.objs.size (.dT kvs)) { s with heap := h', toks := s.toks } := I.laid (t' := s.toks) hold (Nat.le_refl _) ⟨z, beq_eq_false_iff_ne.mpr (Ne.symm (Nat.ne_of_lt I.big)), xs, kt2, o, es, ep, h1, h2, h3, h4, h6⟩
    exact ⟨.ref _, _, J, rfl, q _ hn⟩
end
end G
end
section
set_option Elab.async false
set_option linter.all false
set_option maxRecDepth 100000
set_option maxHeartbeats 1000000
namespace G
open PySem PySem.Spec PyProof.Rows L2
local macro_rules | `(tactic| walk_at "st") => `(tactic| repeat (first
  | with_reducible refine k_seq ?_
  | with_reducible refine k_asg ?_
  | with_reducible refine k_gn ?_
  | with_reducible refine k_op ?_
  | ((with_reducible refine' k_var ?vh ?_); (case vh => rfl))
  | with_reducible refine k_c ?_
  | with_reducible refine k_cons ?_
  | with_reducible refine k_nil ?_
  | with_reducible refine k_I0 ?_
  | with_reducible refine k_ret ?_
  | with_reducible refine k_if ?_
  | with_reducible refine k_test ?_
  | with_reducible refine k_bl ?_
  | with_reducible refine k_cb ?_
  | with_reducible refine k_cl ?_
  | with_reducible refine k_int ?_
  | with_reducible refine k_tup ?_
  | with_reducible refine k_lst ?_
  | with_reducible refine k_fld ?_
  | with_reducible refine k_mt ?_
  | with_reducible refine k_for ?_
  | with_reducible refine k_iL ?_
  | with_reducible refine k_iT ?_
  | with_reducible refine k_iR1 ?_
  | with_reducible refine k_iS ?_
  | with_reducible refine k_par ?_
  | with_reducible refine k_ex2 ?_
  | with_reducible refine k_rfl2 ?_
  | with_reducible refine k_iZA ?_
  | with_reducible refine k_gcons ?_
  | with_reducible refine k_gnil ?_
  | with_reducible refine k_exI ?_
  | with_reducible refine k_bits ?_
  | with_reducible refine k_chain ?_
  | ((with_reducible refine' k_aug ?vh ?_); (case vh => rfl))
  | with_reducible refine k_ipI ?_
  | with_reducible refine k_inG ?_
  | with_reducible refine k_m1 ?_
  | with_reducible refine kM1.mk ?_
  | with_reducible refine k_yes ?_
  | with_reducible refine k_lc ?_
  | with_reducible refine k_andV ?_
  | with_reducible refine k_orV ?_
  | with_reducible refine k_tB ?_
  | with_reducible refine k_and ?_
  | with_reducible refine k_or ?_
  | with_reducible refine k_not ?_
  | with_reducible refine k_retN ?_
  | with_reducible refine k_next ?_
  | with_reducible refine k_fset ?_
  | with_reducible refine k_faug ?_
  | with_reducible refine k_sl ?_
  | with_reducible refine k_part ?_
  | with_reducible refine k_nopart ?_
  | with_reducible refine k_un ?_
  | with_reducible refine k_u1 ?_
  | with_reducible refine k_dget ?_
  | with_reducible refine k_din ?_
  | with_reducible refine k_dnin ?_
  | with_reducible refine k_dput ?_
  | with_reducible refine k_dget2 ?_
  | with_reducible refine k_bm ?_
  | with_reducible refine k_augs ?_
  | with_reducible refine k_gsub ?_
  | with_reducible refine k_enT ?_
  | with_reducible refine k_anyI ?_
  | with_reducible refine k_allI ?_
  | with_reducible refine k_lenX ?_
  | with_reducible refine k_sortX ?_
  | with_reducible refine k_drop ?_))
local macro_rules | `(tactic| walk_at "go") => `(tactic| ((try dsimp only [cxOf]); walk_at "st"))
local macro_rules | `(tactic| walk_at "len") => `(tactic| (simp only [List.length_append, List.length_map, List.length_cons, List.length_nil, List.length_replicate] at *; omega))

variable {P : Program} {w : World} {K : PySem.W.Frag} {mg : Str → Option Value} {base : Heap}
theorem gens {q x : Str} {sc scope : Scope} {L f : Addr} {cd : Value}
    (h : (scope.kind == .function && (!scope.isCoroutine && ((scope.names.all fun y => y.2 != .cell) && (scope.names.lookup (".0" : Str) == some NameKind.local && (scope.names.lookup x == some .local && scope.names.all fun y => y.2 != .free || sc.names.lookup y.1 == some .cell))))) = true) :
    GxR.GenS (envOfC q sc L f cd) scope x := by
  obtain ⟨h1, h⟩ := He.ba h
  obtain ⟨h2, h⟩ := He.ba h
  obtain ⟨h3, h⟩ := He.ba h
  obtain ⟨h4, h⟩ := He.ba h
  obtain ⟨h5, h6⟩ := He.ba h
  refine ⟨beq_iff_eq.mp h1, by simpa using h2, fun y hy z => ?_, beq_iff_eq.mp h4, beq_iff_eq.mp h5, fun y hy z => ?_⟩
  · have := List.all_eq_true.mp h3 y hy
    rw [z] at this
    cases this
  · have := List.all_eq_true.mp h6 y hy
    rw [z] at this
    have e : sc.names.lookup y.1 = some .cell := by simpa using this
    exact Option.isSome_iff_exists.mp (PySem.W.cellsFrom_some _ _ _ (.inl e))
/-! ### accounts -/
def spLock (K : PySem.W.Frag) : Sp := fun vs H Q _ => ∃ (s : Addr) (m k : Int), vs = [.ref s, .int k] ∧ SeA K H s m ∧ ∀ (z : Int) H', Le H H' → Q (.int z) H'
theorem ok_lock_of (Z : Zed w K mg) : Fn P w K mg base CX0 2 (He.ga K "lock_of") (spLock K) := by
  have O_Sealer_seal := ok_Sealer_seal (P := P) (base := base) Z
  refine Fn.of0 (F_lock_of Z) sc_lock_of (fun _ _ _ _ _ _ us hl => match us, hl with | [_, _], _ => rfl) (fun vs H Q E h => ?_) (fun cdv A outer s H vs Q E hr h => ?_)
  · obtain ⟨s, m, k, rfl, _⟩ := h
    rfl
  · obtain ⟨s, m, k, rfl, hs, q⟩ := h
    obtain ⟨⟨dx, h1⟩, _⟩ := id hs
    refine ⟨_, (pss_one (ps_ret (pe_op op_add (pe_m Z.c_Sealer Z.t_Sealer_seal O_Sealer_seal hr (by decide) pass0 (pv 0) (pa_cons (pe_tup (pa_cons (pe_gi Z.i_KEY_TAG) (pa_cons (pv 1) pa_nil))) pa_nil)) pe_int))), ?_⟩
    walk_at "go"
    refine kMt.mk h1 (by kernel_rfl) ?_
    walk_at "st"
    refine kTup.mk (by show 2 ≤ 1000; decide) fun p1 H1 e1 n1 g1 => ?_
    refine ⟨s, m, p1, [7, k], rfl, hs.le e1, SqT.of g1, (by show 2 ≤ 900; decide), fun z H' _ _ e2 => ?_⟩
    walk_at "st"
    exact q _ _ (e1.trans e2)
def pz (l : Int) : Nat := if l > 0 then 1 else 0
/-- notes that is_notes takes -/
structure NoteOk (kd p : Int) (ns : List Int) : Prop where
  ex : ∃ l0 l1 l2 nd li hk ho ep : Int, ns = [l0, l1, l2, nd, li, hk, ho, ep] ∧ (0 ≤ l0 ∧ l0 ≤ p) ∧ (0 ≤ l1 ∧ l1 ≤ p) ∧ (0 ≤ l2 ∧ l2 ≤ p) ∧ (0 ≤ nd ∧ nd ≤ (pz l0 + pz l1 + pz l2 : Nat)) ∧ (0 ≤ li ∧ li ≤ 1000000000000) ∧ (0 ≤ hk ∧ hk < kd) ∧ (0 ≤ ho ∧ ho ≤ 1000000000000) ∧ (0 ≤ ep ∧ ep ≤ 1000000)
def spNotes (K : PySem.W.Frag) : Sp := fun vs H Q _ => ∃ (v : V) (ns : List Int) (kd p : Int), vs = [v, .int kd, .int p] ∧ Is K H v (dI ns) ∧ T3 K H ∧ NoteOk kd p ns ∧ ∀ H', Le H H' → Q (.bl true) H'
theorem ok_is_notes [Y : Tbs K mg base] (Z : Zed w K mg) : Fn P w K mg base CX0 1 (He.ga K "is_notes") (spNotes K) := by
  refine Fn.of0C (p := ("is_notes", none)) (F_is_notes Z) sc_is_notes (fun _ _ _ _ _ _ us hl => match us, hl with | [_, _, _], _ => rfl) (fun vs H Q E h => ?_) (fun A outer s H vs Q E hr h => ?_)
  · obtain ⟨v, ns, kd, p, rfl, _⟩ := h
    rfl
  · obtain ⟨v, ns, kd, p, rfl, hv, ht, ⟨l0, l1, l2, nd, li, hk, ho, ep, rfl, ⟨a0, a1⟩, ⟨b0, b1⟩, ⟨c0, c1⟩, ⟨d0, d1⟩, ⟨e0, e1⟩, ⟨f0, f1⟩, ⟨g0, g1⟩, ⟨i0, i1⟩⟩, q⟩ := h
    obtain ⟨a, rfl, sq⟩ := hv.ints_inv
    refine ⟨_, (pss_cons (ps_if (PW.pt (pw_or (pt_cmpR op_ne (pe_callB cr_len (by rfl) Z.n_len PySem.boot_len (pa_cons (pv 0) pa_nil)) (pe_gi Z.i_NOTES) (nomark _)) (pw_or1 (pt_val (pe_anyI (cap := none) hr (by rfl) Z.n_any Y.notes rfl (gens (by decide +kernel)) (pv 0) (elt_lt rfl (by rfl) (by decide)) (fun _ => rfl)))))) (pss_one (ps_ret pe_bl)) pss_nil) (pss_cons (ps_set (i := 3) sc_is_notes.nd rfl (Or.inl rfl) (pe_slice sl_tupA (pv 0) po_none (po_some pe_int))) (pss_cons (ps_if (pt_val (pe_anyI (cap := some (2, "modulus")) hr (by rfl) Z.n_any Y.notes rfl (gens (by decide +kernel)) (pv 3) (elt_gtF rfl (by rfl) (by rfl) (by rfl) (by decide) (by decide) (by decide)) (fun _ => rfl))) (pss_one (ps_ret pe_bl)) pss_nil) (pss_cons (ps_if (pt_cmpR op_gt (pe_ix ix_tup (pv 0) pe_int (fun _ _ => rfl)) (pe_callB cr_len (by rfl) Z.n_len PySem.boot_len (pa_cons (pe_lc (own := [("lock", 4)]) rfl sc_is_notes.nd (pi_tup (pv 3)) (blkOk_by (own := [("lock", 4)]) (N := ["notes", "kinds", "modulus", "locks", "lock"]) (sc := defScope s_is_notes) (by decide +kernel)) (fun _ _ _ _ _ => (pg_name (i := 4) sc_is_notes.nd rfl (Or.inl rfl))) (fun _ _ _ _ _ => (pts_one (pt_cmpR op_gt (pv 4) pe_int (nomark _)))) (fun _ _ _ _ _ => (pv 4))) pa_nil)) (nomark _)) (pss_one (ps_ret pe_bl)) pss_nil) (pss_cons (ps_if (PW.pt (pw_or (pt_cmpR op_gt (pe_ix ix_tup (pv 0) pe_int (fun _ _ => rfl)) (pe_gi Z.i_MOST_WORTH) (nomark _)) (pw_or1 (pt_cmpR op_gt (pe_ix ix_tup (pv 0) pe_int (fun _ _ => rfl)) (pe_gi Z.i_MOST_WORTH) (nomark _))))) (pss_one (ps_ret pe_bl)) pss_nil) (pss_one (ps_ret (pe_and (pe_cmpR op_lt (pe_ix ix_tup (pv 0) pe_int (fun _ _ => rfl)) (pv 1) (nomark _)) (pe_one (pe_cmpR op_le (pe_ix ix_tup (pv 0) pe_int (fun _ _ => rfl)) (pe_gi Z.i_MOST_EPOCH) (nomark _))))))))))), ?_⟩
    walk_at "go"
    refine k_lenT sq ?_
    walk_at "st"
    refine k_ne rfl ?_
    walk_at "st"
    refine k_ifF rfl ?_
    walk_at "st"
    refine kAnyI.mk 0 sq CapOk.no ht.notes fun H1 h1 => ?_
    walk_at "st"
    refine k_ifF ?_ ?_
    · simp
      omega
    walk_at "st"
    refine k_slT (h1.sqt sq) fun p2 H2 h2 s2 => ?_
    walk_at "st"
    have hcut : cutV ([l0, l1, l2, nd, li, hk, ho, ep].map V.int) none (some 3) = [l0, l1, l2].map V.int := rfl
    rw [hcut] at s2
    refine kAnyI.mk p s2 (CapOk.of rfl rfl (Or.inr (Or.inl rfl)) rfl) ((ht.lx h1).lx h2).notes fun H3 h3 => ?_
    walk_at "st"
    refine k_ifF ?_ ?_
    · simp
      omega
    have h13 := (h1.trans h2).trans h3
    have sq3 := h13.sqt sq
    walk_at "st"
    refine k_ixT sq3 rfl ?_
    walk_at "st"
    refine kIT.mk (h3.sqt s2) (kLc.go walk_tup (by show 3 ≤ 100000; decide) (fun i acc _ => acc.length = (((([l0, l1, l2].map V.int).take i).map fun v => match v with | .int n => pz n | _ => 0).sum)) (fun _ _ _ _ _ _ z => z) rfl (fun _ e => e.sqt (h3.sqt s2)) (fun E Nx i acc x H4 H5 hi e4 hp y fin nofin => ?_) fun p4 acc H4 e4 n4 g4 _ hp => ?_)
    · obtain ⟨rfl, hx⟩ := y
      obtain ⟨n, rfl⟩ : ∃ n, x = .int n := by
        obtain ⟨n, _, e⟩ := List.mem_map.mp (List.mem_of_getElem? hx)
        exact ⟨n, e.symm⟩
      have hstep : ∀ k : Nat, k = acc.length + pz n → k = (((([l0, l1, l2].map V.int).take (i + 1)).map fun v => match v with | .int n => pz n | _ => 0).sum) := fun k hk => by
        rw [List.take_add_one, hx, List.map_append, List.sum_append, ← hp, hk]
        rfl
      walk_at "st"
      refine ⟨rfl, ?_⟩
      walk_at "st"
      by_cases c : n > 0
      · refine k_ifT (decide_eq_true c) ?_
        walk_at "st"
        refine fin _ _ Lx.refl (hstep _ ?_)
        rw [List.length_append, List.length_singleton]
        unfold pz
        rw [if_pos c]
      · refine k_ifF (decide_eq_false c) ?_
        walk_at "st"
        refine nofin _ Lx.refl (hstep _ ?_)
        unfold pz
        rw [if_neg c, Nat.add_zero]
    · have hlen : acc.length = pz l0 + pz l1 + pz l2 := by
        rw [hp]
        show pz l0 + (pz l1 + (pz l2 + 0)) = _
        omega
      have sq4 := e4.sqt sq3
      have h14 := h13.trans e4
      walk_at "st"
      refine k_lenL (SqL.of g4) ?_
      walk_at "st"
      refine k_ifF (decide_eq_false (by rw [hlen]; omega)) ?_
      walk_at "st"
      refine k_ixT sq4 rfl ?_
      walk_at "st"
      refine k_ifF (decide_eq_false (by omega)) ?_
      walk_at "st"
      refine k_ixT sq4 rfl ?_
      walk_at "st"
      refine k_ifF (decide_eq_false (by omega)) ?_
      walk_at "st"
      refine k_ixT sq4 rfl ?_
      walk_at "st"
      refine k_ifT (decide_eq_true f1) ?_
      walk_at "st"
      refine k_ixT sq4 rfl ?_
      walk_at "st"
      rw [decide_eq_true i1]
      exact q _ h14
end G
end
section
set_option Elab.async false
set_option linter.all false
set_option maxRecDepth 100000
set_option maxHeartbeats 1000000
namespace G
open PySem PySem.Spec PyProof.Rows L2
local macro_rules | `(tactic| walk_at "st") => `(tactic| repeat (first
  | with_reducible refine k_seq ?_
  | with_reducible refine k_asg ?_
  | with_reducible refine k_gn ?_
  | with_reducible refine k_op ?_
  | ((with_reducible refine' k_var ?vh ?_); (case vh => rfl))
  | with_reducible refine k_c ?_
  | with_reducible refine k_cons ?_
  | with_reducible refine k_nil ?_
  | with_reducible refine k_I0 ?_
  | with_reducible refine k_ret ?_
  | with_reducible refine k_if ?_
  | with_reducible refine k_test ?_
  | with_reducible refine k_bl ?_
  | with_reducible refine k_cb ?_
  | with_reducible refine k_cl ?_
  | with_reducible refine k_int ?_
  | with_reducible refine k_tup ?_
  | with_reducible refine k_lst ?_
  | with_reducible refine k_fld ?_
  | with_reducible refine k_mt ?_
  | with_reducible refine k_for ?_
  | with_reducible refine k_iL ?_
  | with_reducible refine k_iT ?_
  | with_reducible refine k_iR1 ?_
  | with_reducible refine k_iS ?_
  | with_reducible refine k_par ?_
  | with_reducible refine k_ex2 ?_
  | with_reducible refine k_rfl2 ?_
  | with_reducible refine k_iZA ?_
  | with_reducible refine k_gcons ?_
  | with_reducible refine k_gnil ?_
  | with_reducible refine k_exI ?_
  | with_reducible refine k_bits ?_
  | with_reducible refine k_chain ?_
  | ((with_reducible refine' k_aug ?vh ?_); (case vh => rfl))
  | with_reducible refine k_ipI ?_
  | with_reducible refine k_inG ?_
  | with_reducible refine k_m1 ?_
  | with_reducible refine kM1.mk ?_
  | with_reducible refine k_yes ?_
  | with_reducible refine k_lc ?_
  | with_reducible refine k_andV ?_
  | with_reducible refine k_orV ?_
  | with_reducible refine k_tB ?_
  | with_reducible refine k_and ?_
  | with_reducible refine k_or ?_
  | with_reducible refine k_not ?_
  | with_reducible refine k_retN ?_
  | with_reducible refine k_next ?_
  | with_reducible refine k_fset ?_
  | with_reducible refine k_faug ?_
  | with_reducible refine k_sl ?_
  | with_reducible refine k_part ?_
  | with_reducible refine k_nopart ?_
  | with_reducible refine k_un ?_
  | with_reducible refine k_u1 ?_
  | with_reducible refine k_dget ?_
  | with_reducible refine k_din ?_
  | with_reducible refine k_dnin ?_
  | with_reducible refine k_dput ?_
  | with_reducible refine k_dget2 ?_
  | with_reducible refine k_bm ?_
  | with_reducible refine k_augs ?_
  | with_reducible refine k_gsub ?_
  | with_reducible refine k_enT ?_
  | with_reducible refine k_anyI ?_
  | with_reducible refine k_allI ?_
  | with_reducible refine k_lenX ?_
  | with_reducible refine k_sortX ?_
  | with_reducible refine k_drop ?_))
local macro_rules | `(tactic| walk_at "go") => `(tactic| ((try dsimp only [cxOf]); walk_at "st"))
local macro_rules | `(tactic| walk_at "len") => `(tactic| (simp only [List.length_append, List.length_map, List.length_cons, List.length_nil, List.length_replicate] at *; omega))

variable {P : Program} {w : World} {K : PySem.W.Frag} {mg : Str → Option Value} {base : Heap}
/-! ### is_enough, new_account -/
/-- notes of a leaf: eight ints, the sixth a kind -/
def NtL (kd : Nat) (ns : List Int) : Prop := ∃ l0 l1 l2 nd li ho ep : Int, ∃ hk : Nat, ns = [l0, l1, l2, nd, li, (hk : Int), ho, ep] ∧ hk < kd
def spEnough (K : PySem.W.Frag) : Sp := fun vs H Q _ => ∃ (v : V) (ns : List Int) (l : Addr) (ws : List Int) (e : Int), vs = [v, .ref l, .int e] ∧ Is K H v (dI ns) ∧ NtL ws.length ns ∧ H l = some (.lst (ws.map V.int)) ∧ ∀ b, Q (.bl b) H
theorem ok_is_enough (Z : Zed w K mg) : Fn P w K mg base CX0 1 (He.ga K "is_enough") (spEnough K) := by
  refine Fn.of0 (F_is_enough Z) sc_is_enough (fun _ _ _ _ _ _ us hl => match us, hl with | [_, _, _], _ => rfl) (fun vs H Q E h => ?_) (fun cdv A outer s H vs Q E hr h => ?_)
  · obtain ⟨v, ns, l, ws, e, rfl, _⟩ := h
    rfl
  · obtain ⟨v, ns, l, ws, e, rfl, hv, ⟨l0, l1, l2, nd, li, ho, ep, hk, rfl, hlt⟩, hl, q⟩ := h
    obtain ⟨a, rfl, sq⟩ := hv.ints_inv
    refine ⟨_, (pss_one (ps_ret (pe_or (pe_cmpR op_ge (pv 2) (pe_ix ix_tup (pv 0) pe_int (fun _ _ => rfl)) (nomark _)) (pe_one (pe_cmpR op_ge (pe_ix ix_list (pv 1) (pe_ix ix_tup (pv 0) pe_int (fun _ _ => rfl)) (fun _ _ => rfl)) (pe_ix ix_tup (pv 0) pe_int (fun _ _ => rfl)) (nomark _)))))), ?_⟩
    walk_at "go"
    refine k_ixT sq rfl ?_
    walk_at "st"
    refine k_if2 (fun _ => q _) (fun _ => ?_)
    walk_at "st"
    refine k_ixT sq rfl ?_
    walk_at "st"
    refine k_ixL (SqL.of hl) (atI_nat (j := hk) (v := .int ws[hk]) (by rw [List.getElem?_map, List.getElem?_eq_getElem hlt] <;> rfl)) ?_
    walk_at "st"
    refine k_ixT sq rfl ?_
    walk_at "st"
    exact q _
def spNewAcc (K : PySem.W.Frag) : Sp := fun vs H Q _ => ∃ (n : Str) (k kd : Nat) (v : V) (ns : List Int), vs = [.str n, .int (kd : Nat), v] ∧ kd ≤ 3 ∧ Is K H v (dI ns) ∧ ∀ r H', Le H H' → Is K H' r (leafD ⟨n, k, List.replicate kd 0, ns⟩) → Q r H'
theorem ok_new_account (Z : Zed w K mg) : Fn P w K mg base CX0 1 (He.ga K "new_account") (spNewAcc K) := by
  refine Fn.of0 (F_new_account Z) sc_new_account (fun _ _ _ _ _ _ us hl => match us, hl with | [_, _, _], _ => rfl) (fun vs H Q E h => ?_) (fun cdv A outer s H vs Q E hr h => ?_)
  · obtain ⟨n, k, kd, v, ns, rfl, _⟩ := h
    rfl
  · obtain ⟨n, k, kd, v, ns, rfl, hkd, hv, q⟩ := h
    obtain ⟨a, rfl, sq⟩ := hv.ints_inv
    refine ⟨_, (pss_one (ps_ret (pe_tup (pa_cons pe_str (pa_cons (pv 0) (pa_cons (pe_callTy cr_tuple (by rfl) Z.n_tuple (by decide +kernel) (pa_cons (pe_lc (own := [("_", 3)]) rfl sc_new_account.nd (pi_range1 (by rfl) Z.n_range (pa_cons (pv 1) pa_nil)) (blkOk_by (own := [("_", 3)]) (N := ["name", "kinds", "notes", "_"]) (sc := defScope s_new_account) (by decide +kernel)) (fun _ _ _ _ _ => (pg_name (i := 3) sc_new_account.nd rfl (Or.inl rfl))) (fun _ _ _ _ _ => pts_nil) (fun _ _ _ _ _ => pe_int)) pa_nil)) (pa_cons (pe_callTy cr_tuple (by rfl) Z.n_tuple (by decide +kernel) (pa_cons (pv 2) pa_nil)) pa_nil))))))), ?_⟩
    walk_at "go"
    refine kR1.mk kd rfl (by omega) ?_
    refine kLc.go walk_range (show kd ≤ 100000 by omega) (fun i acc _ => acc = (List.replicate i (0 : Int)).map V.int) (fun _ _ _ _ _ _ z => z) rfl (fun _ _ => trivial) (fun E Nx i acc x H1 H2 hi e hp y fin _ => ?_) fun p acc H' e _ hl _ hp => ?_
    · obtain ⟨rfl, rfl⟩ := y
      walk_at "st"
      refine ⟨rfl, ?_⟩
      walk_at "st"
      refine k_ifT rfl ?_
      walk_at "st"
      refine fin _ _ Lx.refl ?_
      rw [hp, List.replicate_succ', List.map_append]
      rfl
    · walk_at "st"
      rw [hp] at hl
      refine k_tupleL (SqL.of hl) fun p2 H2 e2 n2 g2 => ?_
      walk_at "st"
      refine k_tupleT ((e.trans e2).sqt sq) ?_
      refine kTup.mk (by show 4 ≤ 1000; decide) fun p3 H3 e3 n3 g3 => ?_
      exact q _ _ ((e.trans e2).trans e3) (leaf_mk (l := ⟨n, k, List.replicate kd 0, ns⟩) (SqT.of g3) (e3.sqt (SqT.of g2)) (((e.trans e2).trans e3).sqt sq))
/-! ### rules -/
/-- what the rates' dict holds -/
def RtOk (K : PySem.W.Frag) (H : Hp) (kd : Nat) (kvs : List (List Key × V)) : Prop := ∀ k v, valV kvs k = some v → ∃ (i j a b : Int) (p : Addr), k = [.inl i, .inl j] ∧ i ≠ j ∧ (0 ≤ i ∧ i < kd) ∧ (0 ≤ j ∧ j < kd) ∧ v = .ref p ∧ SqT K H p [.int a, .int b] ∧ (1 ≤ a ∧ a ≤ 1000) ∧ (1 ≤ b ∧ b ≤ 1000)
theorem RtOk.lx {S : Addr → Prop} {H H' : Hp} {kd : Nat} {kvs : List (List Key × V)} (h : RtOk K H kd kvs) (x : Lx S H H') : RtOk K H' kd kvs := fun k v e => by
  obtain ⟨i, j, a, b, p, h1, h2, h3, h4, h5, h6, h7⟩ := h k v e
  exact ⟨i, j, a, b, p, h1, h2, h3, h4, h5, x.sqt h6, h7⟩
theorem valV_mem {κ : Type} [DecidableEq κ] {k : κ} {v : V} : ∀ {kvs : List (κ × V)}, (k, v) ∈ kvs → ∃ u, valV kvs k = some u
  | (k2, v2) :: r, h => by
    by_cases e : k2 = k
    · exact ⟨v2, valV_pos e⟩
    · rw [valV_neg (p := (k2, v2)) e]
      rcases List.mem_cons.mp h with z | z
      · exact absurd (congrArg Prod.fst z).symm e
      · exact valV_mem z
abbrev ruF (kd fee : Int) (rd : Addr) : List (Str × V) := [("kinds", .int kd), ("fee", .int fee), ("rates", .ref rd)]
structure RuA (K : PySem.W.Frag) (H : Hp) (r : Addr) (kd : Nat) (fee : Int) (rd : Addr) (kvs : List (List Key × V)) : Prop where
  at_ : ∃ dx, H r = some (.ins (He.ga K "Rules") dx (ruF kd fee rd))
  rts : H rd = some (.dT kvs)
  ok : RtOk K H kd kvs
  kd1 : 1 ≤ kd
  kd3 : kd ≤ 3
  fee0 : 0 ≤ fee
  fee1 : fee ≤ 1000
theorem RuA.le {H H' : Hp} {r : Addr} {kd : Nat} {fee : Int} {rd : Addr} {kvs : List (List Key × V)} (h : RuA K H r kd fee rd kvs) (e : Le H H') : RuA K H' r kd fee rd kvs :=
  ⟨let ⟨dx, q⟩ := h.at_; ⟨dx, e.get q⟩, e.get h.rts, h.ok.lx e, h.kd1, h.kd3, h.fee0, h.fee1⟩
def spRate (K : PySem.W.Frag) : Sp := fun vs H Q _ => ∃ (p r : Addr) (i j a b : Int) (kd : Nat), vs = [.ref p, .ref r, .int (kd : Nat)] ∧ T3 K H ∧ SqT K H p [.int i, .int j] ∧ SqT K H r [.int a, .int b] ∧ i ≠ j ∧ (0 ≤ i ∧ i < kd) ∧ (0 ≤ j ∧ j < kd) ∧ (1 ≤ a ∧ a ≤ 1000) ∧ (1 ≤ b ∧ b ≤ 1000) ∧ ∀ H', Le H H' → Q (.bl true) H'
theorem ok_is_rate [Y : Tbs K mg base] (Z : Zed w K mg) : Fn P w K mg base CX0 1 (He.ga K "is_rate") (spRate K) := by
  refine Fn.of0C (p := ("is_rate", none)) (F_is_rate Z) sc_is_rate (fun _ _ _ _ _ _ us hl => match us, hl with | [_, _, _], _ => rfl) (fun vs H Q E h => ?_) (fun A outer s H vs Q E hr h => ?_)
  · obtain ⟨p, r, i, j, a, b, kd, rfl, _⟩ := h
    rfl
  · obtain ⟨p, r, i, j, a, b, kd, rfl, ht, sp, sr, ij, ⟨i0, i1⟩, ⟨j0, j1⟩, ⟨a0, a1⟩, ⟨b0, b1⟩, q⟩ := h
    refine ⟨_, (pss_cons (ps_if (PW.pt (pw_or (pt_cmpR op_ne (pe_callB cr_len (by rfl) Z.n_len PySem.boot_len (pa_cons (pv 0) pa_nil)) pe_int (nomark _)) (pw_or (pt_cmpR op_ne (pe_callB cr_len (by rfl) Z.n_len PySem.boot_len (pa_cons (pv 1) pa_nil)) pe_int (nomark _)) (pw_or1 (pt_cmpR op_eq (pe_ix ix_tup (pv 0) pe_int (fun _ _ => rfl)) (pe_ix ix_tup (pv 0) pe_int (fun _ _ => rfl)) (nomark _)))))) (pss_one (ps_ret pe_bl)) pss_nil) (pss_cons (ps_if (pt_val (pe_anyI (cap := some (2, "kinds")) hr (by rfl) Z.n_any Y.rate rfl (gens (by decide +kernel)) (pv 0) (elt_ninF rfl (by rfl) (by rfl) (by rfl) (by decide) (by decide) (by decide) (by with_unfolding_all rfl)) (fun _ => rfl))) (pss_one (ps_ret pe_bl)) pss_nil) (pss_one (ps_ret (pe_allI (cap := none) hr (by rfl) Z.n_all Y.rate rfl (gens (by decide +kernel)) (pv 1) (elt_inG rfl (by rfl) (by rfl) Z.i_MOST_RATE (by decide) (by decide) (by with_unfolding_all rfl)) (fun _ => rfl)))))), ?_⟩
    walk_at "go"
    refine k_lenT sp ?_
    walk_at "st"
    refine k_ne rfl ?_
    walk_at "st"
    refine k_ifF rfl ?_
    walk_at "st"
    refine k_lenT sr ?_
    walk_at "st"
    refine k_ne rfl ?_
    walk_at "st"
    refine k_ifF rfl ?_
    walk_at "st"
    refine k_ixT sp rfl ?_
    walk_at "st"
    refine k_ixT sp rfl ?_
    walk_at "st"
    refine k_eq rfl ?_
    walk_at "st"
    refine k_ifF (decide_eq_false fun z => ij (V.int.inj z)) ?_
    walk_at "st"
    refine kAnyI.mk (ns := [i, j]) (kd : Int) sp (CapOk.of rfl rfl (Or.inr (Or.inl rfl)) rfl) ht.rate fun H1 h1 => ?_
    walk_at "st"
    refine k_ifF ?_ ?_
    · simp
      omega
    walk_at "st"
    refine kAllI.mk (ns := [a, b]) 0 (h1.sqt sr) CapOk.no (ht.lx h1).rate fun H2 h2 => ?_
    have e : ([a, b].all fun n => decide (1 ≤ n) && decide (n ≤ 1000)) = true := by
      simp
      omega
    rw [e]
    exact q _ (h1.trans h2)
end G
end
section
set_option Elab.async false
set_option linter.all false
set_option maxRecDepth 100000
set_option maxHeartbeats 1000000
namespace G
open PySem PySem.Spec PyProof.Rows L2
local macro_rules | `(tactic| walk_at "st") => `(tactic| repeat (first
  | with_reducible refine k_seq ?_
  | with_reducible refine k_asg ?_
  | with_reducible refine k_gn ?_
  | with_reducible refine k_op ?_
  | ((with_reducible refine' k_var ?vh ?_); (case vh => rfl))
  | with_reducible refine k_c ?_
  | with_reducible refine k_cons ?_
  | with_reducible refine k_nil ?_
  | with_reducible refine k_I0 ?_
  | with_reducible refine k_ret ?_
  | with_reducible refine k_if ?_
  | with_reducible refine k_test ?_
  | with_reducible refine k_bl ?_
  | with_reducible refine k_cb ?_
  | with_reducible refine k_cl ?_
  | with_reducible refine k_int ?_
  | with_reducible refine k_tup ?_
  | with_reducible refine k_lst ?_
  | with_reducible refine k_fld ?_
  | with_reducible refine k_mt ?_
  | with_reducible refine k_for ?_
  | with_reducible refine k_iL ?_
  | with_reducible refine k_iT ?_
  | with_reducible refine k_iR1 ?_
  | with_reducible refine k_iS ?_
  | with_reducible refine k_par ?_
  | with_reducible refine k_ex2 ?_
  | with_reducible refine k_rfl2 ?_
  | with_reducible refine k_iZA ?_
  | with_reducible refine k_gcons ?_
  | with_reducible refine k_gnil ?_
  | with_reducible refine k_exI ?_
  | with_reducible refine k_bits ?_
  | with_reducible refine k_chain ?_
  | ((with_reducible refine' k_aug ?vh ?_); (case vh => rfl))
  | with_reducible refine k_ipI ?_
  | with_reducible refine k_inG ?_
  | with_reducible refine k_m1 ?_
  | with_reducible refine kM1.mk ?_
  | with_reducible refine k_yes ?_
  | with_reducible refine k_lc ?_
  | with_reducible refine k_andV ?_
  | with_reducible refine k_orV ?_
  | with_reducible refine k_tB ?_
  | with_reducible refine k_and ?_
  | with_reducible refine k_or ?_
  | with_reducible refine k_not ?_
  | with_reducible refine k_retN ?_
  | with_reducible refine k_next ?_
  | with_reducible refine k_fset ?_
  | with_reducible refine k_faug ?_
  | with_reducible refine k_sl ?_
  | with_reducible refine k_part ?_
  | with_reducible refine k_nopart ?_
  | with_reducible refine k_un ?_
  | with_reducible refine k_u1 ?_
  | with_reducible refine k_dget ?_
  | with_reducible refine k_din ?_
  | with_reducible refine k_dnin ?_
  | with_reducible refine k_dput ?_
  | with_reducible refine k_dget2 ?_
  | with_reducible refine k_bm ?_
  | with_reducible refine k_augs ?_
  | with_reducible refine k_gsub ?_
  | with_reducible refine k_enT ?_
  | with_reducible refine k_anyI ?_
  | with_reducible refine k_allI ?_
  | with_reducible refine k_lenX ?_
  | with_reducible refine k_sortX ?_
  | with_reducible refine k_drop ?_))
local macro_rules | `(tactic| walk_at "go") => `(tactic| ((try dsimp only [cxOf]); walk_at "st"))
local macro_rules | `(tactic| walk_at "len") => `(tactic| (simp only [List.length_append, List.length_map, List.length_cons, List.length_nil, List.length_replicate] at *; omega))

variable {P : Program} {w : World} {K : PySem.W.Frag} {mg : Str → Option Value} {base : Heap}
theorem k_inT {H : Hp} {Q : VK} {p : Addr} {x : V} {xs : List V} (h : SqT K H p xs) (hf : (flatV x && xs.all flatV) = true) (q : Q (.bl (inV x xs)) H) : rIn K false x (.ref p) H Q := ⟨p, xs, rfl, .inr h, (He.ba hf).1, (He.ba hf).2, q⟩
/-! a thing locked while a loop walks it -/
theorem lock_lx {H : Hp} {d : Addr} {od : Obj} {u : HO} (h : H d = some u) (hf : ¬ Fix u) (ht : ∀ ps, u ≠ .tbl ps) : Lx (fun a => a = d) H (upd H d (.frz od u)) := Lx.wr rfl h hf ht
theorem lock_le {H H2 : Hp} {d : Addr} {od : Obj} {u : HO} (h : H d = some u) (hf : ¬ Fix u) (ht : ∀ ps, u ≠ .tbl ps) (e : Le (upd H d (.frz od u)) H2) : Le H (upd H2 d u) := by
  refine ⟨fun a o ea _ nt => ?_, fun a ta => ?_, fun a ea => ?_⟩
  · by_cases z : a = d
    · subst z
      rw [h] at ea
      cases ea
      exact upd_same
    · rw [upd_ne z]
      exact e.keep a o (by rw [upd_ne z]; exact ea) (fun z => z.elim) nt
  · obtain ⟨ps, e1, r⟩ := ta
    have z : a ≠ d := fun z => by
      rw [z, h] at e1
      cases e1
      exact ht _ rfl
    obtain ⟨qs, e2, r2⟩ := e.tab a ⟨ps, by rw [upd_ne z]; exact e1, r⟩
    exact ⟨qs, by rw [upd_ne z]; exact e2, r2⟩
  · by_cases z : a = d
    · rw [z, upd_same] at ea
      cases ea
    · rw [upd_ne z] at ea
      have := e.dom a ea
      rw [upd_ne z] at this
      exact this
def spRulesI (K : PySem.W.Frag) : Sp := fun vs H Q _ => ∃ (x : Addr) (kd : Nat) (fee : Int) (d : Addr) (kvs : List (List Key × V)) (dx : Addr), vs = [.ref x, .int (kd : Nat), .int fee, .ref d] ∧ H x = some (.ins (He.ga K "Rules") dx []) ∧ T3 K H ∧ H d = some (.dT kvs) ∧ RtOk K H kd kvs ∧
  (1 ≤ kd ∧ kd ≤ 3) ∧ (0 ≤ fee ∧ fee ≤ 1000) ∧ ∀ rd H', Lx (fun a => a = x) H H' → RuA K H' x kd fee rd kvs → Q .non H'
theorem ok_Rules_init [Y : Tbs K mg base] (Z : Zed w K mg) : Fn P w K mg base CX0 2 (He.ma K (He.ga K "Rules") "__init__") (spRulesI K) := by
  have O_is_rate := ok_is_rate (P := P) (base := base) Z
  refine Fn.of0 (F_Rules_init Z) sc_Rules_init (fun _ _ _ _ _ _ us hl => match us, hl with | [_, _, _, _], _ => rfl) (fun vs H Q E h => ?_) (fun cdv A outer s H vs Q E hr h => ?_)
  · obtain ⟨x, kd, fee, d, kvs, dx, rfl, _⟩ := h
    rfl
  · obtain ⟨x, kd, fee, d, kvs, dx, rfl, hx, ht, hd, hrt, ⟨k1, k3⟩, ⟨f0, f1⟩, q⟩ := h
    refine ⟨_, (pss_cons (ps_if (PW.pt (pw_or (pt_not (pt_chain op_le op_le pe_int (pv 1) (pe_gi Z.i_MOST_KINDS))) (pw_or1 (pt_not (pt_chain op_le op_le pe_int (pv 2) (pe_gi Z.i_MOST_FEE)))))) (pss_one ps_never) pss_nil) (pss_cons (ps_lock (ps_for PassesOwn.never rfl (pi_keys (pv 3)) (pg_name (i := 4) sc_Rules_init.nd rfl (Or.inl rfl)) (pss_one (ps_if (pt_not (pt_val (pe_f O_is_rate hr (by decide) Z.g_is_rate pass0 (pa_cons (pv 4) (pa_cons (pe_dget (hu_of hr) (pv 3) (pv 4) (fun _ _ => rfl)) (pa_cons (pv 1) pa_nil)))))) (pss_one ps_never) pss_nil)))) (pss_cons (ps_fld (pv 0) (pv 1) rfl) (pss_cons (ps_fld (pv 0) (pv 2) rfl) (pss_one (ps_fld (pv 0) (pe_callTy (cr_dictT hr.units) (by rfl) Z.n_dict (by decide +kernel) (pa_cons (pv 3) pa_nil)) rfl)))))), ?_⟩
    walk_at "go"
    refine k_ifT (decide_eq_true (by omega)) ?_
    walk_at "st"
    rw [decide_eq_true (show (kd : Int) ≤ 3 by omega)]
    refine k_ifF rfl ?_
    walk_at "st"
    refine k_ifT (decide_eq_true f0) ?_
    walk_at "st"
    rw [decide_eq_true f1]
    refine k_ifF rfl ?_
    walk_at "st"
    refine ⟨d, .dT kvs, hd, trivial, fun od => ?_⟩
    have nt : ∀ ps, HO.dT kvs ≠ .tbl ps := fun ps z => by cases z
    have nf : ¬ Fix (.dT kvs) := fun z => z
    have lx := lock_lx (od := od) hd nf nt
    walk_at "st"
    refine ⟨.ref d, rfl, d, od, rfl, .inr ⟨kvs, upd_same, ?_⟩⟩
    refine kFor.go walk_keysT (fun i σ H' => Le (upd H d (.frz od (.dT kvs))) H' ∧ ∃ v, σ = [some (.ref x), some (.int (kd : Nat)), some (.int fee), some (.ref d), v]) ⟨Lx.refl, none, rfl⟩ (fun i σ H' _ z => z.1.keep d _ upd_same (fun z => z.elim) (by intro ps z; cases z)) (fun i v σ H1 H2 hi z y => ?_) fun σ H' z => ?_
    · obtain ⟨e, u, rfl⟩ := z
      obtain ⟨rfl, k, v2, p, hk, rfl, hp⟩ := y
      obtain ⟨v3, hv⟩ := valV_mem (List.mem_of_getElem? hk)
      obtain ⟨i1, j1, a1, b1, p1, rfl, ij, hi1, hj1, rfl, sq, ha, hb⟩ := hrt k v3 hv
      walk_at "st"
      refine ⟨d, .ref p1, rfl, .inr ⟨kvs, _, p, .inr ⟨od, e.keep d _ upd_same (fun z => z.elim) (by intro ps z; cases z)⟩, rfl, hp, hv.symm⟩, ?_⟩
      walk_at "st"
      refine ⟨p, p1, i1, j1, a1, b1, kd, rfl, (ht.lx lx).lx e, SqT.of hp, e.sqt (lx.sqt sq), ij, hi1, hj1, ha, hb, fun H3 e3 => ?_⟩
      walk_at "st"
      refine k_ifF rfl ?_
      walk_at "st"
      exact ⟨e.trans e3, _, rfl⟩
    · obtain ⟨e, u, rfl⟩ := z
      refine ⟨e.keep d _ upd_same (fun z => z.elim) (by intro ps z; cases z), ?_⟩
      have l1 := lock_le hd nf nt e
      generalize upd H' d (.dT kvs) = H1 at l1
      clear e lx H' od
      have hx1 := l1.get hx
      walk_at "st"
      refine kFSet.mk hx1 Z.c_Rules Z.a_Rules_kinds rfl rfl ?_
      walk_at "st"
      refine kFSet.mk upd_same Z.c_Rules Z.a_Rules_fee rfl rfl ?_
      rw [upd_upd]
      walk_at "st"
      have hne : d ≠ x := ne_of hd hx (fun z => by cases z)
      have hd2 : upd H1 x (.ins (He.ga K "Rules") dx [("kinds", .int (kd : Nat)), ("fee", .int fee)]) d = some (.dT kvs) := by
        rw [upd_ne hne]
        exact l1.get hd
      refine ⟨d, kvs, rfl, .inl hd2, fun p hp => ?_, fun r hr => ?_⟩
      · obtain ⟨v3, hv⟩ := valV_mem hp
        obtain ⟨i1, j1, _, _, _, e1, _, ⟨i0, i2⟩, ⟨j0, j2⟩, _⟩ := hrt _ v3 hv
        exact ⟨i1, j1, e1, i0, by omega, j0, by omega⟩
      · have hrx : r ≠ x := fun z => by
          rw [z, upd_same] at hr
          cases hr
        walk_at "st"
        refine kFSet.mk (by rw [upd_ne hrx.symm]; exact upd_same) Z.c_Rules Z.a_Rules_rates rfl rfl ?_
        walk_at "st"
        have w1 : Lx (fun a => a = x) H1 (upd H1 x (.ins (He.ga K "Rules") dx [("kinds", .int (kd : Nat)), ("fee", .int fee)])) := Lx.wr rfl hx1 (fun z => z) (by intro ps z; cases z)
        have w2 : Le (upd H1 x (.ins (He.ga K "Rules") dx [("kinds", .int (kd : Nat)), ("fee", .int fee)])) _ := Le.new (o := .dT kvs) hr
        have w3 : Lx (fun a => a = x) (upd (upd H1 x (.ins (He.ga K "Rules") dx [("kinds", .int (kd : Nat)), ("fee", .int fee)])) r (.dT kvs)) (upd (upd (upd H1 x (.ins (He.ga K "Rules") dx [("kinds", .int (kd : Nat)), ("fee", .int fee)])) r (.dT kvs)) x (.ins (He.ga K "Rules") dx (ruF kd fee r))) :=
          Lx.wr (u := .ins (He.ga K "Rules") dx [("kinds", .int (kd : Nat)), ("fee", .int fee)]) rfl (by rw [upd_ne hrx.symm]; exact upd_same) (fun z => z) (by intro ps z; cases z)
        have wall := ((l1.of.trans w1).trans w2.of).trans w3
        refine q r _ wall ⟨⟨dx, upd_same⟩, ?_, hrt.lx wall, k1, k3, f0, f1⟩
        rw [upd_ne hrx, upd_same]
theorem Zed.f_kinds (Z : Zed w K mg) {H : Hp} {Q : VK} {r dx rd : Addr} {kd fee : Int} (h : H r = some (.ins (He.ga K "Rules") dx (ruF kd fee rd))) (q : Q (.int kd) H) : kFld K "kinds" Q (.ref r) H := kFld.mk h Z.c_Rules Z.a_Rules_kinds (by kernel_rfl) q
theorem Zed.f_fee (Z : Zed w K mg) {H : Hp} {Q : VK} {r dx rd : Addr} {kd fee : Int} (h : H r = some (.ins (He.ga K "Rules") dx (ruF kd fee rd))) (q : Q (.int fee) H) : kFld K "fee" Q (.ref r) H := kFld.mk h Z.c_Rules Z.a_Rules_fee (by kernel_rfl) q
theorem Zed.f_rates (Z : Zed w K mg) {H : Hp} {Q : VK} {r dx rd : Addr} {kd fee : Int} (h : H r = some (.ins (He.ga K "Rules") dx (ruF kd fee rd))) (q : Q (.ref rd) H) : kFld K "rates" Q (.ref r) H := kFld.mk h Z.c_Rules Z.a_Rules_rates (by kernel_rfl) q
/-! ### groups -/
abbrev grpF (d s e : V) : List (Str × V) := [("deeds", d), ("signatures", s), ("epoch", e)]
def spGroupI (K : PySem.W.Frag) : Sp := fun vs H Q _ => ∃ (x : Addr) (d s e : V) (dx : Addr), vs = [.ref x, d, s, e] ∧ H x = some (.ins (He.ga K "Group") dx []) ∧ ∀ H', Lx (fun a => a = x) H H' → H' x = some (.ins (He.ga K "Group") dx (grpF d s e)) → Q .non H'
theorem ok_Group_init (Z : Zed w K mg) : Fn P w K mg base CX0 1 (He.ma K (He.ga K "Group") "__init__") (spGroupI K) := by
  refine Fn.of0 (F_Group_init Z) sc_Group_init (fun _ _ _ _ _ _ us hl => match us, hl with | [_, _, _, _], _ => rfl) (fun vs H Q E h => ?_) (fun cdv A outer s H vs Q E hr h => ?_)
  · obtain ⟨x, d, s, e, dx, rfl, _⟩ := h
    rfl
  · obtain ⟨x, d, s, e, dx, rfl, hx, q⟩ := h
    refine ⟨_, (pss_cons (ps_fld (pv 0) (pv 1) rfl) (pss_cons (ps_fld (pv 0) (pv 2) rfl) (pss_one (ps_fld (pv 0) (pv 3) rfl)))), ?_⟩
    walk_at "go"
    refine kFSet.mk hx Z.c_Group Z.a_Group_deeds rfl rfl ?_
    walk_at "st"
    refine kFSet.mk upd_same Z.c_Group Z.a_Group_signatures rfl rfl ?_
    rw [upd_upd]
    walk_at "st"
    refine kFSet.mk upd_same Z.c_Group Z.a_Group_epoch rfl rfl ?_
    rw [upd_upd]
    walk_at "st"
    exact q _ (Lx.wr rfl hx (fun z => z) (by intro ps z; cases z)) upd_same
def spAmount : Sp := fun vs H Q _ => ∃ a : Int, vs = [.int a] ∧ 1 ≤ a ∧ a ≤ 1000000000000 ∧ Q (.bl true) H
theorem ok_is_amount (Z : Zed w K mg) : Fn P w K mg base CX0 1 (He.ga K "is_amount") spAmount := by
  refine Fn.of0 (F_is_amount Z) sc_is_amount (fun _ _ _ _ _ _ us hl => match us, hl with | [_], _ => rfl) (fun vs H Q E h => ?_) (fun cdv A outer s H vs Q E hr h => ?_)
  · obtain ⟨a, rfl, _⟩ := h
    rfl
  · obtain ⟨a, rfl, a0, a1, q⟩ := h
    refine ⟨_, (pss_one (ps_ret (pe_chain op_le op_le pe_int (pv 0) (pe_gi Z.i_MOST_WORTH)))), ?_⟩
    walk_at "go"
    refine k_ifT (decide_eq_true a0) ?_
    walk_at "st"
    rw [decide_eq_true a1]
    exact q
def spKind (K : PySem.W.Frag) : Sp := fun vs H Q _ => ∃ (k kd : Nat) (fee : Int) (r rd : Addr) (kvs : List (List Key × V)), vs = [.int (k : Nat), .ref r] ∧ RuA K H r kd fee rd kvs ∧ k < kd ∧ Q (.bl true) H
theorem ok_is_kind (Z : Zed w K mg) : Fn P w K mg base CX0 1 (He.ga K "is_kind") (spKind K) := by
  refine Fn.of0 (F_is_kind Z) sc_is_kind (fun _ _ _ _ _ _ us hl => match us, hl with | [_, _], _ => rfl) (fun vs H Q E h => ?_) (fun cdv A outer s H vs Q E hr h => ?_)
  · obtain ⟨k, kd, fee, r, rd, kvs, rfl, _⟩ := h
    rfl
  · obtain ⟨k, kd, fee, r, rd, kvs, rfl, hr1, hk, q⟩ := h
    obtain ⟨dx, h1⟩ := hr1.at_
    refine ⟨_, (pss_one (ps_ret (pe_chain op_le op_lt pe_int (pv 0) (pe_fld (pv 1) rfl)))), ?_⟩
    walk_at "go"
    refine k_ifT (decide_eq_true (by omega)) ?_
    walk_at "st"
    refine Z.f_kinds h1 ?_
    walk_at "st"
    rw [decide_eq_true (show (k : Int) < (kd : Int) by omega)]
    exact q
end G
end
section
set_option Elab.async false
set_option linter.all false
set_option maxRecDepth 100000
set_option maxHeartbeats 1000000
namespace G
open PySem PySem.Spec PyProof.Rows L2
local macro_rules | `(tactic| walk_at "st") => `(tactic| repeat (first
  | with_reducible refine k_seq ?_
  | with_reducible refine k_asg ?_
  | with_reducible refine k_gn ?_
  | with_reducible refine k_op ?_
  | ((with_reducible refine' k_var ?vh ?_); (case vh => rfl))
  | with_reducible refine k_c ?_
  | with_reducible refine k_cons ?_
  | with_reducible refine k_nil ?_
  | with_reducible refine k_I0 ?_
  | with_reducible refine k_ret ?_
  | with_reducible refine k_if ?_
  | with_reducible refine k_test ?_
  | with_reducible refine k_bl ?_
  | with_reducible refine k_cb ?_
  | with_reducible refine k_cl ?_
  | with_reducible refine k_int ?_
  | with_reducible refine k_tup ?_
  | with_reducible refine k_lst ?_
  | with_reducible refine k_fld ?_
  | with_reducible refine k_mt ?_
  | with_reducible refine k_for ?_
  | with_reducible refine k_iL ?_
  | with_reducible refine k_iT ?_
  | with_reducible refine k_iR1 ?_
  | with_reducible refine k_iS ?_
  | with_reducible refine k_par ?_
  | with_reducible refine k_ex2 ?_
  | with_reducible refine k_rfl2 ?_
  | with_reducible refine k_iZA ?_
  | with_reducible refine k_gcons ?_
  | with_reducible refine k_gnil ?_
  | with_reducible refine k_exI ?_
  | with_reducible refine k_bits ?_
  | with_reducible refine k_chain ?_
  | ((with_reducible refine' k_aug ?vh ?_); (case vh => rfl))
  | with_reducible refine k_ipI ?_
  | with_reducible refine k_inG ?_
  | with_reducible refine k_m1 ?_
  | with_reducible refine kM1.mk ?_
  | with_reducible refine k_yes ?_
  | with_reducible refine k_lc ?_
  | with_reducible refine k_andV ?_
  | with_reducible refine k_orV ?_
  | with_reducible refine k_tB ?_
  | with_reducible refine k_and ?_
  | with_reducible refine k_or ?_
  | with_reducible refine k_not ?_
  | with_reducible refine k_retN ?_
  | with_reducible refine k_next ?_
  | with_reducible refine k_fset ?_
  | with_reducible refine k_faug ?_
  | with_reducible refine k_sl ?_
  | with_reducible refine k_part ?_
  | with_reducible refine k_nopart ?_
  | with_reducible refine k_un ?_
  | with_reducible refine k_u1 ?_
  | with_reducible refine k_dget ?_
  | with_reducible refine k_din ?_
  | with_reducible refine k_dnin ?_
  | with_reducible refine k_dput ?_
  | with_reducible refine k_dget2 ?_
  | with_reducible refine k_bm ?_
  | with_reducible refine k_augs ?_
  | with_reducible refine k_gsub ?_
  | with_reducible refine k_enT ?_
  | with_reducible refine k_anyI ?_
  | with_reducible refine k_allI ?_
  | with_reducible refine k_lenX ?_
  | with_reducible refine k_sortX ?_
  | with_reducible refine k_drop ?_))
local macro_rules | `(tactic| walk_at "go") => `(tactic| ((try dsimp only [cxOf]); walk_at "st"))
local macro_rules | `(tactic| walk_at "len") => `(tactic| (simp only [List.length_append, List.length_map, List.length_cons, List.length_nil, List.length_replicate] at *; omega))

variable {P : Program} {w : World} {K : PySem.W.Frag} {mg : Str → Option Value} {base : Heap}
/-! ### deeds -/
inductive Dd where
  | opn (n : Str × Nat) (ns : List Int)
  | rul (n : Str × Nat) (ns : List Int)
  | cls (n : Str × Nat)
  | mov (n o : Str × Nat) (k : Nat) (a : Int)
  | mnt (n : Str × Nat) (k : Nat) (a : Int)
  | brn (n : Str × Nat) (k : Nat) (a : Int)
  | chg (n : Str × Nat) (g t : Nat) (a : Int)
def Dd.ds : Dd → List PyData
  | .opn n ns => [.str "open", .str n.1, dI ns]
  | .rul n ns => [.str "rule", .str n.1, dI ns]
  | .cls n => [.str "close", .str n.1]
  | .mov n o k a => [.str "move", .str n.1, .str o.1, .int (k : Nat), .int a]
  | .mnt n k a => [.str "mint", .str n.1, .int (k : Nat), .int a]
  | .brn n k a => [.str "burn", .str n.1, .int (k : Nat), .int a]
  | .chg n g t a => [.str "change", .str n.1, .int (g : Nat), .int (t : Nat), .int a]
abbrev AmO (a : Int) : Prop := 1 ≤ a ∧ a ≤ 1000000000000
/-- what every deed of the law's is -/
def Dd.ok (kd : Nat) (m : Int) : Dd → Prop
  | .opn n ns => n ∈ nmA ∧ NoteOk kd m ns
  | .rul n ns => n ∈ nmA ∧ NoteOk kd m ns
  | .cls n => n ∈ nmA
  | .mov n o k a => n ∈ nmA ∧ o ∈ nmA ∧ k < kd ∧ AmO a
  | .mnt n k a => n ∈ nmA ∧ k < kd ∧ AmO a
  | .brn n k a => n ∈ nmA ∧ k < kd ∧ AmO a
  | .chg n g t a => n ∈ nmA ∧ g < kd ∧ t < kd ∧ AmO a
theorem nmA_L {n : Str × Nat} (h : n ∈ nmA) : (n.1, n.2) ∈ nmL := List.mem_append_left _ h
theorem d3_inv {H : Hp} {v : V} {a b : Str} {d : PyData} (h : Is K H v (.tuple [.str a, .str b, d])) : ∃ p x, v = .ref p ∧ SqT K H p [.str a, .str b, x] ∧ Is K H x d := by
  obtain ⟨p, xs, rfl, s, r⟩ := h.tup_inv
  obtain ⟨x1, r1, rfl, i1, r⟩ := r.cons_inv
  obtain ⟨x2, r2, rfl, i2, r⟩ := r.cons_inv
  obtain ⟨x3, r3, rfl, i3, r⟩ := r.cons_inv
  obtain rfl := r.nil_inv
  obtain rfl := i1.str_inv
  obtain rfl := i2.str_inv
  exact ⟨p, x3, rfl, s, i3⟩
/-- flat data as values -/
def fV : PyData → V
  | .int i => .int i
  | .str s => .str s
  | .bool b => .bl b
  | _ => .non
def fD : PyData → Bool
  | .int _ => true
  | .str _ => true
  | .bool _ => true
  | .none => true
  | _ => false
theorem flat_inv {H : Hp} : ∀ {xs : List V} {ds : List PyData}, Isl K H xs ds → ds.all fD = true → xs = ds.map fV
  | _, _, .nil, _ => rfl
  | _, _, .cons h t, a => by
    obtain ⟨a1, a2⟩ := He.ba (show (fD _ && List.all _ fD) = true from a)
    rw [List.map_cons, flat_inv t a2]
    cases h with
    | tup _ _ => cases a1
    | _ => rfl
theorem flat_tup {H : Hp} {v : V} {ds : List PyData} (h : Is K H v (.tuple ds)) (a : ds.all fD = true) : ∃ p, v = .ref p ∧ SqT K H p (ds.map fV) := by
  obtain ⟨p, xs, rfl, s, r⟩ := h.tup_inv
  rw [flat_inv r a] at s
  exact ⟨p, rfl, s⟩
def spDeed (K : PySem.W.Frag) : Sp := fun vs H Q _ => ∃ (s r : Addr) (m : Int) (v : V) (kd : Nat) (fee : Int) (rd : Addr) (kvs : List (List Key × V)) (d : Dd), vs = [.ref s, .ref r, v] ∧ SeA K H s m ∧ RuA K H r kd fee rd kvs ∧ T3 K H ∧ Is K H v (.tuple d.ds) ∧ d.ok kd m ∧ ∀ H', Le H H' → Q (.bl true) H'
theorem ok_is_deed [Y : Tbs K mg base] (Z : Zed w K mg) : Fn P w K mg base CX0 2 (He.ga K "is_deed") (spDeed K) := by
  have O_Sealer_modulus := ok_Sealer_modulus (P := P) (base := base) Z
  have O_is_amount := ok_is_amount (P := P) (base := base) Z
  have O_is_kind := ok_is_kind (P := P) (base := base) Z
  have O_is_name := ok_is_name (P := P) (base := base) Z
  have O_is_notes := ok_is_notes (P := P) (base := base) Z
  refine Fn.of0 (F_is_deed Z) sc_is_deed (fun _ _ _ _ _ _ us hl => match us, hl with | [_, _, _], _ => rfl) (fun vs H Q E h => ?_) (fun cdv A outer s H vs Q E hr h => ?_)
  · obtain ⟨s, r, m, v, kd, fee, rd, kvs, d, rfl, _⟩ := h
    rfl
  · obtain ⟨s, r, m, v, kd, fee, rd, kvs, d, rfl, hs, hru, ht, hd, ok, q⟩ := h
    obtain ⟨rx, hrx⟩ := hru.at_
    obtain ⟨⟨sx, hsx⟩, _⟩ := id hs
    refine ⟨_, (pss_cons (ps_set (i := 3) sc_is_deed.nd rfl (Or.inl rfl) (pe_ix ix_tup (pv 2) pe_int (fun _ _ => rfl))) (pss_cons (ps_if (pt_cmpR op_in_seq (pv 3) (pe_tup (pa_cons pe_str (pa_cons pe_str pa_nil))) (by rfl)) (pss_one (ps_ret (pe_and (pe_cmpR op_eq (pe_callB cr_len (by rfl) Z.n_len PySem.boot_len (pa_cons (pv 2) pa_nil)) pe_int (nomark _)) (pe_and (pe_f O_is_name hr (by decide) Z.g_is_name pass0 (pa_cons (pe_ix ix_tup (pv 2) pe_int (fun _ _ => rfl)) pa_nil)) (pe_one (pe_f O_is_notes hr (by decide) Z.g_is_notes pass0 (pa_cons (pe_ix ix_tup (pv 2) pe_int (fun _ _ => rfl)) (pa_cons (pe_fld (pv 1) rfl) (pa_cons (pe_m0 Z.c_Sealer Z.t_Sealer_modulus O_Sealer_modulus hr (by decide) pass0 (pv 0)) pa_nil))))))))) pss_nil) (pss_cons (ps_if (pt_cmpR op_eq (pv 3) pe_str (nomark _)) (pss_one (ps_ret (pe_and (pe_cmpR op_eq (pe_callB cr_len (by rfl) Z.n_len PySem.boot_len (pa_cons (pv 2) pa_nil)) pe_int (nomark _)) (pe_one (pe_f O_is_name hr (by decide) Z.g_is_name pass0 (pa_cons (pe_ix ix_tup (pv 2) pe_int (fun _ _ => rfl)) pa_nil)))))) pss_nil) (pss_cons (ps_if (pt_cmpR op_eq (pv 3) pe_str (nomark _)) (pss_cons (ps_set (i := 4) sc_is_deed.nd rfl (Or.inl rfl) (pe_and (pe_cmpR op_eq (pe_callB cr_len (by rfl) Z.n_len PySem.boot_len (pa_cons (pv 2) pa_nil)) pe_int (nomark _)) (pe_and (pe_f O_is_name hr (by decide) Z.g_is_name pass0 (pa_cons (pe_ix ix_tup (pv 2) pe_int (fun _ _ => rfl)) pa_nil)) (pe_one (pe_f O_is_name hr (by decide) Z.g_is_name pass0 (pa_cons (pe_ix ix_tup (pv 2) pe_int (fun _ _ => rfl)) pa_nil)))))) (pss_one (ps_ret (pe_and (pv 4) (pe_and (pe_f O_is_kind hr (by decide) Z.g_is_kind pass0 (pa_cons (pe_ix ix_tup (pv 2) pe_int (fun _ _ => rfl)) (pa_cons (pv 1) pa_nil))) (pe_one (pe_f O_is_amount hr (by decide) Z.g_is_amount pass0 (pa_cons (pe_ix ix_tup (pv 2) pe_int (fun _ _ => rfl)) pa_nil)))))))) pss_nil) (pss_cons (ps_if (pt_cmpR op_in_seq (pv 3) (pe_tup (pa_cons pe_str (pa_cons pe_str pa_nil))) (by rfl)) (pss_one (ps_ret (pe_and (pe_cmpR op_eq (pe_callB cr_len (by rfl) Z.n_len PySem.boot_len (pa_cons (pv 2) pa_nil)) pe_int (nomark _)) (pe_and (pe_f O_is_name hr (by decide) Z.g_is_name pass0 (pa_cons (pe_ix ix_tup (pv 2) pe_int (fun _ _ => rfl)) pa_nil)) (pe_and (pe_f O_is_kind hr (by decide) Z.g_is_kind pass0 (pa_cons (pe_ix ix_tup (pv 2) pe_int (fun _ _ => rfl)) (pa_cons (pv 1) pa_nil))) (pe_one (pe_f O_is_amount hr (by decide) Z.g_is_amount pass0 (pa_cons (pe_ix ix_tup (pv 2) pe_int (fun _ _ => rfl)) pa_nil)))))))) pss_nil) (pss_cons (ps_if (pt_cmpR op_eq (pv 3) pe_str (nomark _)) (pss_cons (ps_set (i := 5) sc_is_deed.nd rfl (Or.inl rfl) (pe_and (pe_cmpR op_eq (pe_callB cr_len (by rfl) Z.n_len PySem.boot_len (pa_cons (pv 2) pa_nil)) pe_int (nomark _)) (pe_and (pe_f O_is_name hr (by decide) Z.g_is_name pass0 (pa_cons (pe_ix ix_tup (pv 2) pe_int (fun _ _ => rfl)) pa_nil)) (pe_one (pe_f O_is_amount hr (by decide) Z.g_is_amount pass0 (pa_cons (pe_ix ix_tup (pv 2) pe_int (fun _ _ => rfl)) pa_nil)))))) (pss_one (ps_ret (pe_and (pv 5) (pe_and (pe_f O_is_kind hr (by decide) Z.g_is_kind pass0 (pa_cons (pe_ix ix_tup (pv 2) pe_int (fun _ _ => rfl)) (pa_cons (pv 1) pa_nil))) (pe_one (pe_f O_is_kind hr (by decide) Z.g_is_kind pass0 (pa_cons (pe_ix ix_tup (pv 2) pe_int (fun _ _ => rfl)) (pa_cons (pv 1) pa_nil))))))))) pss_nil) (pss_one (ps_ret pe_bl)))))))), ?_⟩
    cases d with
    | opn n ns =>
      obtain ⟨hn, hns⟩ := ok
      obtain ⟨p, x, rfl, sq, hx⟩ := d3_inv hd
      walk_at "go"
      refine k_ixT sq rfl ?_
      walk_at "st"
      refine kTup.mk (by show 2 ≤ 1000; decide) fun p1 H1 e1 n1 g1 => ?_
      refine k_inT (SqT.of g1) rfl ?_
      walk_at "st"
      refine k_ifT (by decide +kernel) ?_
      walk_at "st"
      refine k_lenT (e1.sqt sq) ?_
      walk_at "st"
      refine k_eq rfl ?_
      walk_at "st"
      refine k_ifT rfl ?_
      walk_at "st"
      refine k_ixT (e1.sqt sq) rfl ?_
      walk_at "st"
      refine ⟨_, _, rfl, nmA_L hn, fun H2 e2 => ?_⟩
      walk_at "st"
      refine k_ifT rfl ?_
      walk_at "st"
      refine k_ixT ((e1.trans e2).sqt sq) rfl ?_
      walk_at "st"
      refine Z.f_kinds ((e1.trans e2).get hrx) ?_
      walk_at "st"
      refine kMt.mk ((e1.trans e2).get hsx) (by kernel_rfl) ?_
      walk_at "st"
      refine ⟨s, m, rfl, hs.le (e1.trans e2), ?_⟩
      walk_at "st"
      exact ⟨x, ns, kd, m, rfl, hx.lx (e1.trans e2), ht.lx (e1.trans e2), hns, fun H3 e3 => q _ ((e1.trans e2).trans e3)⟩
    | rul n ns =>
      obtain ⟨hn, hns⟩ := ok
      obtain ⟨p, x, rfl, sq, hx⟩ := d3_inv hd
      walk_at "go"
      refine k_ixT sq rfl ?_
      walk_at "st"
      refine kTup.mk (by show 2 ≤ 1000; decide) fun p1 H1 e1 n1 g1 => ?_
      refine k_inT (SqT.of g1) rfl ?_
      walk_at "st"
      refine k_ifT (by decide +kernel) ?_
      walk_at "st"
      refine k_lenT (e1.sqt sq) ?_
      walk_at "st"
      refine k_eq rfl ?_
      walk_at "st"
      refine k_ifT rfl ?_
      walk_at "st"
      refine k_ixT (e1.sqt sq) rfl ?_
      walk_at "st"
      refine ⟨_, _, rfl, nmA_L hn, fun H2 e2 => ?_⟩
      walk_at "st"
      refine k_ifT rfl ?_
      walk_at "st"
      refine k_ixT ((e1.trans e2).sqt sq) rfl ?_
      walk_at "st"
      refine Z.f_kinds ((e1.trans e2).get hrx) ?_
      walk_at "st"
      refine kMt.mk ((e1.trans e2).get hsx) (by kernel_rfl) ?_
      walk_at "st"
      refine ⟨s, m, rfl, hs.le (e1.trans e2), ?_⟩
      walk_at "st"
      exact ⟨x, ns, kd, m, rfl, hx.lx (e1.trans e2), ht.lx (e1.trans e2), hns, fun H3 e3 => q _ ((e1.trans e2).trans e3)⟩
    | cls n =>
      obtain ⟨p, rfl, sq⟩ := flat_tup hd rfl
      walk_at "go"
      refine k_ixT sq rfl ?_
      walk_at "st"
      refine kTup.mk (by show 2 ≤ 1000; decide) fun p1 H1 e1 n1 g1 => ?_
      refine k_inT (SqT.of g1) rfl ?_
      walk_at "st"
      refine k_ifF (by decide +kernel) ?_
      walk_at "st"
      refine k_eq rfl ?_
      walk_at "st"
      refine k_ifT (by decide +kernel) ?_
      walk_at "st"
      refine k_lenT (e1.sqt sq) ?_
      walk_at "st"
      refine k_eq rfl ?_
      walk_at "st"
      refine k_ifT rfl ?_
      walk_at "st"
      refine k_ixT (e1.sqt sq) rfl ?_
      walk_at "st"
      exact ⟨_, _, rfl, nmA_L ok, fun H2 e2 => q _ (e1.trans e2)⟩
    | mov n o k a =>
      obtain ⟨hn, ho, hk, ha⟩ := ok
      obtain ⟨p, rfl, sq⟩ := flat_tup hd rfl
      walk_at "go"
      refine k_ixT sq rfl ?_
      walk_at "st"
      refine kTup.mk (by show 2 ≤ 1000; decide) fun p1 H1 e1 n1 g1 => ?_
      refine k_inT (SqT.of g1) rfl ?_
      walk_at "st"
      refine k_ifF (by decide +kernel) ?_
      walk_at "st"
      refine k_eq rfl ?_
      walk_at "st"
      refine k_ifF (by decide +kernel) ?_
      walk_at "st"
      refine k_eq rfl ?_
      walk_at "st"
      refine k_ifT (by decide +kernel) ?_
      walk_at "st"
      refine k_lenT (e1.sqt sq) ?_
      walk_at "st"
      refine k_eq rfl ?_
      walk_at "st"
      refine k_ifT rfl ?_
      walk_at "st"
      refine k_ixT (e1.sqt sq) rfl ?_
      walk_at "st"
      refine ⟨_, _, rfl, nmA_L hn, fun H2 e2 => ?_⟩
      walk_at "st"
      refine k_ifT rfl ?_
      walk_at "st"
      refine k_ixT ((e1.trans e2).sqt sq) rfl ?_
      walk_at "st"
      refine ⟨_, _, rfl, nmA_L ho, fun H3 e3 => ?_⟩
      walk_at "st"
      have e13 := (e1.trans e2).trans e3
      refine k_ifT rfl ?_
      walk_at "st"
      refine k_ixT (e13.sqt sq) rfl ?_
      walk_at "st"
      refine ⟨k, kd, fee, r, rd, kvs, rfl, hru.le e13, hk, ?_⟩
      walk_at "st"
      refine k_ifT rfl ?_
      walk_at "st"
      refine k_ixT (e13.sqt sq) rfl ?_
      walk_at "st"
      exact ⟨a, rfl, ha.1, ha.2, q _ e13⟩
    | mnt n k a =>
      obtain ⟨hn, hk, ha⟩ := ok
      obtain ⟨p, rfl, sq⟩ := flat_tup hd rfl
      walk_at "go"
      refine k_ixT sq rfl ?_
      walk_at "st"
      refine kTup.mk (by show 2 ≤ 1000; decide) fun p1 H1 e1 n1 g1 => ?_
      refine k_inT (SqT.of g1) rfl ?_
      walk_at "st"
      refine k_ifF (by decide +kernel) ?_
      walk_at "st"
      refine k_eq rfl ?_
      walk_at "st"
      refine k_ifF (by decide +kernel) ?_
      walk_at "st"
      refine k_eq rfl ?_
      walk_at "st"
      refine k_ifF (by decide +kernel) ?_
      walk_at "st"
      refine kTup.mk (by show 2 ≤ 1000; decide) fun p4 H4 e4 n4 g4 => ?_
      refine k_inT (SqT.of g4) rfl ?_
      walk_at "st"
      refine k_ifT (by decide +kernel) ?_
      walk_at "st"
      refine k_lenT ((e1.trans e4).sqt sq) ?_
      walk_at "st"
      refine k_eq rfl ?_
      walk_at "st"
      refine k_ifT rfl ?_
      walk_at "st"
      refine k_ixT ((e1.trans e4).sqt sq) rfl ?_
      walk_at "st"
      refine ⟨_, _, rfl, nmA_L hn, fun H3 e3 => ?_⟩
      walk_at "st"
      have e13 := (e1.trans e4).trans e3
      refine k_ifT rfl ?_
      walk_at "st"
      refine k_ixT (e13.sqt sq) rfl ?_
      walk_at "st"
      refine ⟨k, kd, fee, r, rd, kvs, rfl, hru.le e13, hk, ?_⟩
      walk_at "st"
      refine k_ifT rfl ?_
      walk_at "st"
      refine k_ixT (e13.sqt sq) rfl ?_
      walk_at "st"
      exact ⟨a, rfl, ha.1, ha.2, q _ e13⟩
    | brn n k a =>
      obtain ⟨hn, hk, ha⟩ := ok
      obtain ⟨p, rfl, sq⟩ := flat_tup hd rfl
      walk_at "go"
      refine k_ixT sq rfl ?_
      walk_at "st"
      refine kTup.mk (by show 2 ≤ 1000; decide) fun p1 H1 e1 n1 g1 => ?_
      refine k_inT (SqT.of g1) rfl ?_
      walk_at "st"
      refine k_ifF (by decide +kernel) ?_
      walk_at "st"
      refine k_eq rfl ?_
      walk_at "st"
      refine k_ifF (by decide +kernel) ?_
      walk_at "st"
      refine k_eq rfl ?_
      walk_at "st"
      refine k_ifF (by decide +kernel) ?_
      walk_at "st"
      refine kTup.mk (by show 2 ≤ 1000; decide) fun p4 H4 e4 n4 g4 => ?_
      refine k_inT (SqT.of g4) rfl ?_
      walk_at "st"
      refine k_ifT (by decide +kernel) ?_
      walk_at "st"
      refine k_lenT ((e1.trans e4).sqt sq) ?_
      walk_at "st"
      refine k_eq rfl ?_
      walk_at "st"
      refine k_ifT rfl ?_
      walk_at "st"
      refine k_ixT ((e1.trans e4).sqt sq) rfl ?_
      walk_at "st"
      refine ⟨_, _, rfl, nmA_L hn, fun H3 e3 => ?_⟩
      walk_at "st"
      have e13 := (e1.trans e4).trans e3
      refine k_ifT rfl ?_
      walk_at "st"
      refine k_ixT (e13.sqt sq) rfl ?_
      walk_at "st"
      refine ⟨k, kd, fee, r, rd, kvs, rfl, hru.le e13, hk, ?_⟩
      walk_at "st"
      refine k_ifT rfl ?_
      walk_at "st"
      refine k_ixT (e13.sqt sq) rfl ?_
      walk_at "st"
      exact ⟨a, rfl, ha.1, ha.2, q _ e13⟩
    | chg n g t a =>
      obtain ⟨hn, hg, hk, ha⟩ := ok
      obtain ⟨p, rfl, sq⟩ := flat_tup hd rfl
      walk_at "go"
      refine k_ixT sq rfl ?_
      walk_at "st"
      refine kTup.mk (by show 2 ≤ 1000; decide) fun p1 H1 e1 n1 g1 => ?_
      refine k_inT (SqT.of g1) rfl ?_
      walk_at "st"
      refine k_ifF (by decide +kernel) ?_
      walk_at "st"
      refine k_eq rfl ?_
      walk_at "st"
      refine k_ifF (by decide +kernel) ?_
      walk_at "st"
      refine k_eq rfl ?_
      walk_at "st"
      refine k_ifF (by decide +kernel) ?_
      walk_at "st"
      refine kTup.mk (by show 2 ≤ 1000; decide) fun p4 H4 e4 n4 g4 => ?_
      refine k_inT (SqT.of g4) rfl ?_
      walk_at "st"
      refine k_ifF (by decide +kernel) ?_
      walk_at "st"
      refine k_eq rfl ?_
      walk_at "st"
      refine k_ifT (by decide +kernel) ?_
      walk_at "st"
      refine k_lenT ((e1.trans e4).sqt sq) ?_
      walk_at "st"
      refine k_eq rfl ?_
      walk_at "st"
      refine k_ifT rfl ?_
      walk_at "st"
      refine k_ixT ((e1.trans e4).sqt sq) rfl ?_
      walk_at "st"
      refine ⟨_, _, rfl, nmA_L hn, fun H3 e3 => ?_⟩
      walk_at "st"
      have e13 := (e1.trans e4).trans e3
      refine k_ifT rfl ?_
      walk_at "st"
      refine k_ixT (e13.sqt sq) rfl ?_
      walk_at "st"
      refine ⟨a, rfl, ha.1, ha.2, ?_⟩
      walk_at "st"
      refine k_ifT rfl ?_
      walk_at "st"
      refine k_ixT (e13.sqt sq) rfl ?_
      walk_at "st"
      refine ⟨g, kd, fee, r, rd, kvs, rfl, hru.le e13, hg, ?_⟩
      walk_at "st"
      refine k_ifT rfl ?_
      walk_at "st"
      refine k_ixT (e13.sqt sq) rfl ?_
      walk_at "st"
      exact ⟨t, kd, fee, r, rd, kvs, rfl, hru.le e13, hk, q _ e13⟩
end G
end
section
set_option Elab.async false
set_option linter.all false
set_option maxRecDepth 100000
set_option maxHeartbeats 1000000
namespace G
open PySem PySem.Spec PyProof.Rows L2
local macro_rules | `(tactic| walk_at "st") => `(tactic| repeat (first
  | with_reducible refine k_seq ?_
  | with_reducible refine k_asg ?_
  | with_reducible refine k_gn ?_
  | with_reducible refine k_op ?_
  | ((with_reducible refine' k_var ?vh ?_); (case vh => rfl))
  | with_reducible refine k_c ?_
  | with_reducible refine k_cons ?_
  | with_reducible refine k_nil ?_
  | with_reducible refine k_I0 ?_
  | with_reducible refine k_ret ?_
  | with_reducible refine k_if ?_
  | with_reducible refine k_test ?_
  | with_reducible refine k_bl ?_
  | with_reducible refine k_cb ?_
  | with_reducible refine k_cl ?_
  | with_reducible refine k_int ?_
  | with_reducible refine k_tup ?_
  | with_reducible refine k_lst ?_
  | with_reducible refine k_fld ?_
  | with_reducible refine k_mt ?_
  | with_reducible refine k_for ?_
  | with_reducible refine k_iL ?_
  | with_reducible refine k_iT ?_
  | with_reducible refine k_iR1 ?_
  | with_reducible refine k_iS ?_
  | with_reducible refine k_par ?_
  | with_reducible refine k_ex2 ?_
  | with_reducible refine k_rfl2 ?_
  | with_reducible refine k_iZA ?_
  | with_reducible refine k_gcons ?_
  | with_reducible refine k_gnil ?_
  | with_reducible refine k_exI ?_
  | with_reducible refine k_bits ?_
  | with_reducible refine k_chain ?_
  | ((with_reducible refine' k_aug ?vh ?_); (case vh => rfl))
  | with_reducible refine k_ipI ?_
  | with_reducible refine k_inG ?_
  | with_reducible refine k_m1 ?_
  | with_reducible refine kM1.mk ?_
  | with_reducible refine k_yes ?_
  | with_reducible refine k_lc ?_
  | with_reducible refine k_andV ?_
  | with_reducible refine k_orV ?_
  | with_reducible refine k_tB ?_
  | with_reducible refine k_and ?_
  | with_reducible refine k_or ?_
  | with_reducible refine k_not ?_
  | with_reducible refine k_retN ?_
  | with_reducible refine k_next ?_
  | with_reducible refine k_fset ?_
  | with_reducible refine k_faug ?_
  | with_reducible refine k_sl ?_
  | with_reducible refine k_part ?_
  | with_reducible refine k_nopart ?_
  | with_reducible refine k_un ?_
  | with_reducible refine k_u1 ?_
  | with_reducible refine k_dget ?_
  | with_reducible refine k_din ?_
  | with_reducible refine k_dnin ?_
  | with_reducible refine k_dput ?_
  | with_reducible refine k_dget2 ?_
  | with_reducible refine k_bm ?_
  | with_reducible refine k_augs ?_
  | with_reducible refine k_gsub ?_
  | with_reducible refine k_enT ?_
  | with_reducible refine k_anyI ?_
  | with_reducible refine k_allI ?_
  | with_reducible refine k_lenX ?_
  | with_reducible refine k_sortX ?_
  | with_reducible refine k_drop ?_))
local macro_rules | `(tactic| walk_at "go") => `(tactic| ((try dsimp only [cxOf]); walk_at "st"))
local macro_rules | `(tactic| walk_at "len") => `(tactic| (simp only [List.length_append, List.length_map, List.length_cons, List.length_nil, List.length_replicate] at *; omega))

variable {P : Program} {w : World} {K : PySem.W.Frag} {mg : Str → Option Value} {base : Heap}
/-! ### signatures -/
structure Sg where
  n : Str × Nat
  ks : List (Int × Int × Int)
def kyD (k : Int × Int × Int) : PyData := dI [k.1, k.2.1, k.2.2]
def Sg.ds (s : Sg) : List PyData := [.str s.n.1, .tuple (s.ks.map kyD)]
def KyO (m : Int) (k : Int × Int × Int) : Prop := (0 ≤ k.1 ∧ k.1 ≤ 2) ∧ (0 ≤ k.2.1 ∧ k.2.1 < 10000000000000000000000000000000000000000) ∧ (1 ≤ k.2.2 ∧ k.2.2 ≤ m)
structure Sg.ok (m : Int) (s : Sg) : Prop where
  nm : s.n ∈ nmA
  l1 : 1 ≤ s.ks.length
  l3 : s.ks.length ≤ 3
  up : s.ks.Pairwise fun a b => a.1 < b.1
  ky : ∀ k ∈ s.ks, KyO m k
theorem sg_inv {H : Hp} {v : V} {s : Sg} (h : Is K H v (.tuple s.ds)) : ∃ p q xs, v = .ref p ∧ SqT K H p [.str s.n.1, .ref q] ∧ SqT K H q xs ∧ Isl K H xs (s.ks.map kyD) := by
  obtain ⟨p, xs, rfl, sq, r⟩ := h.tup_inv
  obtain ⟨x1, r1, rfl, i1, r⟩ := r.cons_inv
  obtain ⟨x2, r2, rfl, i2, r⟩ := r.cons_inv
  obtain rfl := r.nil_inv
  obtain rfl := i1.str_inv
  obtain ⟨q, ys, rfl, s2, r2⟩ := i2.tup_inv
  exact ⟨p, q, ys, rfl, sq, s2, r2⟩
theorem ky_inv {H : Hp} {xs : List V} {ks : List (Int × Int × Int)} {i : Nat} {x : V} (h : Isl K H xs (ks.map kyD)) (e : xs[i]? = some x) : ∃ k p, ks[i]? = some k ∧ x = .ref p ∧ SqT K H p [.int k.1, .int k.2.1, .int k.2.2] := by
  obtain ⟨d, hd, is⟩ := h.get e
  rw [List.getElem?_map] at hd
  cases hk : ks[i]? with
  | none =>
    rw [hk] at hd
    cases hd
  | some k =>
    rw [hk] at hd
    obtain rfl : kyD k = d := Option.some.inj hd
    obtain ⟨p, rfl, sq⟩ := is.ints_inv
    exact ⟨k, p, rfl, rfl, sq⟩
def spSig (K : PySem.W.Frag) : Sp := fun vs H Q _ => ∃ (s : Addr) (m : Int) (v : V) (g : Sg), vs = [.ref s, v] ∧ SeA K H s m ∧ Is K H v (.tuple g.ds) ∧ g.ok m ∧ ∀ H', Le H H' → Q (.bl true) H'
theorem ok_is_signature (Z : Zed w K mg) : Fn P w K mg base CX0 2 (He.ga K "is_signature") (spSig K) := by
  have O_Sealer_modulus := ok_Sealer_modulus (P := P) (base := base) Z
  have O_is_name := ok_is_name (P := P) (base := base) Z
  refine Fn.of0 (F_is_signature Z) sc_is_signature (fun _ _ _ _ _ _ us hl => match us, hl with | [_, _], _ => rfl) (fun vs H Q E h => ?_) (fun cdv A outer s H vs Q E hr h => ?_)
  · obtain ⟨s, m, v, g, rfl, _⟩ := h
    rfl
  · obtain ⟨s, m, v, g, rfl, hs, hv, ok, q⟩ := h
    obtain ⟨⟨sx, hsx⟩, _⟩ := id hs
    obtain ⟨p, p2, xs, rfl, sq, sq2, isl⟩ := sg_inv hv
    have hlen : xs.length = g.ks.length := by rw [isl.length, List.length_map]
    refine ⟨_, (pss_cons (ps_asg (pv 1) (pg_tup rfl (pgs_cons (pg_name (i := 2) sc_is_signature.nd rfl (Or.inl rfl)) (pgs_cons (pg_name (i := 3) sc_is_signature.nd rfl (Or.inl rfl)) pgs_nil)))) (pss_cons (ps_if (PW.pt (pw_or (pt_not (pt_val (pe_f O_is_name hr (by decide) Z.g_is_name pass0 (pa_cons (pv 2) pa_nil)))) (pw_or1 (pt_not (pt_chain op_le op_le pe_int (pe_callB cr_len (by rfl) Z.n_len PySem.boot_len (pa_cons (pv 3) pa_nil)) pe_int))))) (pss_one (ps_ret pe_bl)) pss_nil) (pss_cons (ps_set (i := 4) sc_is_signature.nd rfl (Or.inl rfl) (pe_un un_neg pe_int)) (pss_cons (ps_for PassesOwn.never rfl (pi_tup (pv 3)) (pg_tup rfl (pgs_cons (pg_name (i := 5) sc_is_signature.nd rfl (Or.inl rfl)) (pgs_cons (pg_name (i := 6) sc_is_signature.nd rfl (Or.inl rfl)) (pgs_cons (pg_name (i := 7) sc_is_signature.nd rfl (Or.inl rfl)) pgs_nil)))) (pss_cons (ps_if (PW.pt (pw_or (pt_not (pt_chain op_lt op_le (pv 4) (pv 5) pe_int)) (pw_or (pt_not (pt_chain op_le op_lt pe_int (pv 6) (pe_gi Z.i_MOST_KEY))) (pw_or1 (pt_not (pt_chain op_le op_le pe_int (pv 7) (pe_m0 Z.c_Sealer Z.t_Sealer_modulus O_Sealer_modulus hr (by decide) pass0 (pv 0)))))))) (pss_one (ps_ret pe_bl)) pss_nil) (pss_one (ps_set (i := 4) sc_is_signature.nd rfl (Or.inl rfl) (pv 5))))) (pss_one (ps_ret pe_bl)))))), ?_⟩
    walk_at "go"
    refine k_gtup sq rfl ?_
    walk_at "st"
    refine ⟨_, _, rfl, nmA_L ok.nm, fun H1 e1 => ?_⟩
    walk_at "st"
    refine k_ifF rfl ?_
    walk_at "st"
    refine k_lenT (e1.sqt sq2) ?_
    walk_at "st"
    have l1 := ok.l1
    have l3 := ok.l3
    walk_at "st"
    refine k_ifT (decide_eq_true (by omega)) ?_
    walk_at "st"
    rw [decide_eq_true (show ((xs.length : Nat) : Int) ≤ 3 by omega)]
    refine k_ifF rfl ?_
    walk_at "st"
    refine kIT.mk (e1.sqt sq2) (kFor.tup (Pv := fun i σ => ∃ (lz : Int) (a b c : Option V), σ = [some (.ref s), some (.ref p), some (.str g.n.1), some (.ref p2), some (.int lz), a, b, c] ∧ ∀ k ∈ g.ks.drop i, lz < k.1) xs (e1.sqt sq2) ⟨-1, none, none, none, rfl, fun k hk => ?_⟩ (fun i x σ H' hx e hz => ?_) fun σ H' e hz => ?_)
    · have := (ok.ky k (List.mem_of_mem_drop hk)).1.1
      omega
    · obtain ⟨lz, a, b, c, rfl, hl⟩ := hz
      obtain ⟨k, pk, hk, rfl, sk⟩ := ky_inv (isl.lx (e1.trans e)) hx
      have hi : i < g.ks.length := (List.getElem?_eq_some_iff.mp hk).1
      have hdrop : g.ks.drop i = k :: g.ks.drop (i + 1) := by
        rw [List.drop_eq_getElem_cons hi]
        rw [List.getElem?_eq_getElem hi] at hk
        rw [Option.some.inj hk]
      have h0 := hl k (by rw [hdrop]; exact List.mem_cons_self)
      obtain ⟨⟨y0, y1⟩, ⟨y2, y3⟩, ⟨y4, y5⟩⟩ := ok.ky k (List.mem_of_getElem? hk)
      refine k_gtup sk rfl ?_
      walk_at "st"
      refine k_ifT (decide_eq_true h0) ?_
      walk_at "st"
      rw [decide_eq_true y1]
      refine k_ifF rfl ?_
      walk_at "st"
      refine k_ifT (decide_eq_true y2) ?_
      walk_at "st"
      rw [decide_eq_true y3]
      refine k_ifF rfl ?_
      walk_at "st"
      refine k_ifT (decide_eq_true y4) ?_
      walk_at "st"
      refine kMt.mk ((e1.trans e).get hsx) (by kernel_rfl) ?_
      walk_at "st"
      refine ⟨s, m, rfl, hs.le (e1.trans e), ?_⟩
      walk_at "st"
      rw [decide_eq_true y5]
      refine k_ifF rfl ?_
      walk_at "st"
      refine ⟨e, k.1, _, _, _, rfl, fun k2 hk2 => ?_⟩
      have pw := ok.up.drop (i := i)
      rw [hdrop] at pw
      exact (List.pairwise_cons.mp pw).1 k2 hk2
    · obtain ⟨lz, a, b, c, rfl, hl⟩ := hz
      walk_at "st"
      exact q _ (e1.trans e)
/-! ### the group -/
structure GrA (K : PySem.W.Frag) (H : Hp) (g : Addr) (kd : Nat) (m : Int) (ds : List Dd) (sg : List Sg) (e : Int) (pd psg : Addr) (xd xs : List V) : Prop where
  at_ : ∃ dx, H g = some (.ins (He.ga K "Group") dx (grpF (.ref pd) (.ref psg) (.int e)))
  sd : SqT K H pd xd
  ss : SqT K H psg xs
  id_ : Isl K H xd (ds.map fun d => .tuple d.ds)
  is_ : Isl K H xs (sg.map fun s => .tuple s.ds)
  okd : ∀ d ∈ ds, d.ok kd m
  oks : ∀ s ∈ sg, s.ok m
  d1 : 1 ≤ ds.length
  d4 : ds.length ≤ 4
  s4 : sg.length ≤ 4
  nd : (sg.map fun s => s.n.1).Nodup
  e0 : 0 ≤ e
theorem GrA.le {H H' : Hp} {g : Addr} {kd : Nat} {m : Int} {ds : List Dd} {sg : List Sg} {e : Int} {pd psg : Addr} {xd xs : List V} (h : GrA K H g kd m ds sg e pd psg xd xs) (x : Le H H') : GrA K H' g kd m ds sg e pd psg xd xs :=
  ⟨let ⟨dx, q⟩ := h.at_; ⟨dx, x.get q⟩, x.sqt h.sd, x.sqt h.ss, h.id_.lx x, h.is_.lx x, h.okd, h.oks, h.d1, h.d4, h.s4, h.nd, h.e0⟩
theorem Zed.f_deeds (Z : Zed w K mg) {H : Hp} {Q : VK} {g dx : Addr} {a b c : V} (h : H g = some (.ins (He.ga K "Group") dx (grpF a b c))) (q : Q a H) : kFld K "deeds" Q (.ref g) H := kFld.mk h Z.c_Group Z.a_Group_deeds (by kernel_rfl) q
theorem Zed.f_signatures (Z : Zed w K mg) {H : Hp} {Q : VK} {g dx : Addr} {a b c : V} (h : H g = some (.ins (He.ga K "Group") dx (grpF a b c))) (q : Q b H) : kFld K "signatures" Q (.ref g) H := kFld.mk h Z.c_Group Z.a_Group_signatures (by kernel_rfl) q
theorem Zed.f_epoch (Z : Zed w K mg) {H : Hp} {Q : VK} {g dx : Addr} {a b c : V} (h : H g = some (.ins (He.ga K "Group") dx (grpF a b c))) (q : Q c H) : kFld K "epoch" Q (.ref g) H := kFld.mk h Z.c_Group Z.a_Group_epoch (by kernel_rfl) q
/-- the i-th deed, the i-th signature -/
theorem isl_map {α : Type} {H : Hp} {xs : List V} {l : List α} {f : α → PyData} {i : Nat} {x : V} (h : Isl K H xs (l.map f)) (e : xs[i]? = some x) : ∃ d, l[i]? = some d ∧ d ∈ l ∧ Is K H x (f d) := by
  obtain ⟨y, hy, is⟩ := h.get e
  rw [List.getElem?_map] at hy
  cases hk : l[i]? with
  | none =>
    rw [hk] at hy
    cases hy
  | some d =>
    rw [hk] at hy
    obtain rfl : f d = y := Option.some.inj hy
    exact ⟨d, rfl, List.mem_of_getElem? hk, is⟩
def spCheck (K : PySem.W.Frag) : Sp := fun vs H Q _ => ∃ (s r g : Addr) (m : Int) (kd : Nat) (fee : Int) (rd : Addr) (kvs : List (List Key × V)) (ds : List Dd) (sg : List Sg) (e : Int) (pd psg : Addr) (xd xs : List V), vs = [.ref s, .ref r, .ref g] ∧ SeA K H s m ∧ RuA K H r kd fee rd kvs ∧ T3 K H ∧
  GrA K H g kd m ds sg e pd psg xd xs ∧ ∀ H', Le H H' → Q .non H'
theorem ok_check_group [Y : Tbs K mg base] (Z : Zed w K mg) : Fn P w K mg base CX0 3 (He.ga K "check_group") (spCheck K) := by
  have O_is_deed := ok_is_deed (P := P) (base := base) Z
  have O_is_signature := ok_is_signature (P := P) (base := base) Z
  refine Fn.of0 (F_check_group Z) sc_check_group (fun _ _ _ _ _ _ us hl => match us, hl with | [_, _, _], _ => rfl) (fun vs H Q E h => ?_) (fun cdv A outer s H vs Q E hr h => ?_)
  · obtain ⟨s, r, g, m, kd, fee, rd, kvs, ds, sg, e, pd, psg, xd, xs, rfl, _⟩ := h
    rfl
  · obtain ⟨s, r, g, m, kd, fee, rd, kvs, ds, sg, e, pd, psg, xd, xs, rfl, hs, hru, ht, hg, q⟩ := h
    obtain ⟨gx, hgx⟩ := hg.at_
    refine ⟨_, (pss_cons (ps_for PassesOwn.never rfl (pi_enumT (by rfl) Z.n_enumerate (pa_cons (pe_fld (pv 2) rfl) pa_nil)) (pg_tup rfl (pgs_cons (pg_name (i := 3) sc_check_group.nd rfl (Or.inl rfl)) (pgs_cons (pg_name (i := 4) sc_check_group.nd rfl (Or.inl rfl)) pgs_nil))) (pss_one (ps_if (pt_not (pt_val (pe_f O_is_deed hr (by decide) Z.g_is_deed pass0 (pa_cons (pv 0) (pa_cons (pv 1) (pa_cons (pv 4) pa_nil)))))) (pss_one ps_never) pss_nil))) (pss_cons (ps_setLc (i := 5) (own := [("signature", 6)]) rfl sc_check_group.nd rfl rfl (sw_true rfl rfl rfl (by decide +kernel)) (pi_tup (pe_fld (pv 2) rfl)) (blkOk_by (own := [("signature", 6)]) (N := ["sealer", "rules", "group", "index", "deed", "names", "signature"]) (sc := defScope s_check_group) (by decide +kernel)) (fun _ _ _ _ _ => (pg_name (i := 6) sc_check_group.nd rfl (Or.inl rfl))) (fun _ _ _ _ _ => pts_nil) (fun _ _ _ _ _ => (pe_ix (ixT_b (K := K) rfl) (pv 6) pe_int (fun _ _ => rfl)))) (pss_cons (ps_if (PW.pt (pw_or (pt_not (pt_chain op_le op_le pe_int (pe_callB cr_len (by rfl) Z.n_len PySem.boot_len (pa_cons (pe_fld (pv 2) rfl) pa_nil)) (pe_gi Z.i_MOST_DEEDS))) (pw_or (pt_cmpR op_ne (pe_lenX (by rfl) (by rfl) Z.n_len (by rfl) Z.n_set (pv 5)) (pe_callB cr_len (by rfl) Z.n_len PySem.boot_len (pa_cons (pv 5) pa_nil)) (nomark _)) (pw_or1 (pt_cmpR op_lt (pe_fld (pv 2) rfl) pe_int (nomark _)))))) (pss_one ps_never) pss_nil) (pss_one (ps_for PassesOwn.never rfl (pi_tup (pe_fld (pv 2) rfl)) (pg_name (i := 6) sc_check_group.nd rfl (Or.inl rfl)) (pss_one (ps_if (pt_not (pt_val (pe_f O_is_signature hr (by decide) Z.g_is_signature pass0 (pa_cons (pv 0) (pa_cons (pv 6) pa_nil))))) (pss_one ps_never) pss_nil))))))), ?_⟩
    walk_at "go"
    refine Z.f_deeds hgx ?_
    walk_at "st"
    refine kEnT.mk hg.sd (kFor.go walk_enumT (fun i σ H' => Le H H' ∧ ∃ a b, σ = [some (.ref s), some (.ref r), some (.ref g), a, b, none, none]) ⟨Lx.refl, none, none, rfl⟩ (fun i σ H' _ z => z.1.sqt hg.sd) (fun i x σ H1 H2 hi z y => ?_) fun σ H1 z => ?_)
    · obtain ⟨e1, a, b, rfl⟩ := z
      obtain ⟨T, y1, y2, rfl, hT, rfl, ey1, ey2⟩ := y
      cases ey1
      have e2 : Le H1 (upd H1 T (.tup [.int (i : Nat), y2])) := Le.new hT
      obtain ⟨d, _, hd, is⟩ := isl_map (hg.id_.lx (e1.trans e2)) ey2
      refine k_gtup (SqT.of upd_same) rfl ?_
      walk_at "st"
      refine ⟨s, r, m, y2, kd, fee, rd, kvs, d, rfl, hs.le (e1.trans e2), hru.le (e1.trans e2), ht.lx (e1.trans e2), is, hg.okd d hd, fun H3 e3 => ?_⟩
      walk_at "st"
      refine k_ifF rfl ?_
      walk_at "st"
      exact ⟨(e1.trans e2).trans e3, _, _, rfl⟩
    · obtain ⟨e1, a, b, rfl⟩ := z
      walk_at "st"
      refine Z.f_signatures (e1.get hgx) ?_
      walk_at "st"
      refine kIT.mk (e1.sqt hg.ss) (kLc.go walk_tup (show xs.length ≤ 100000 by rw [hg.is_.length, List.length_map]; have := hg.s4; omega) (fun i acc _ => acc = ((sg.take i).map fun s => V.str s.n.1)) (fun _ _ _ _ _ _ z => z) rfl (fun _ e => e.sqt (e1.sqt hg.ss)) (fun E Nx i acc x H3 H4 hi e4 hp y fin _ => ?_) fun p4 acc H4 e4 n4 g4 _ hp => ?_)
      · obtain ⟨rfl, hx⟩ := y
        obtain ⟨g1, hg1, _, is⟩ := isl_map (hg.is_.lx (e1.trans e4)) hx
        obtain ⟨p, p2, ys, rfl, sq, _, _⟩ := sg_inv is
        walk_at "st"
        refine ⟨rfl, ?_⟩
        walk_at "st"
        refine k_ifT rfl ?_
        walk_at "st"
        refine k_ixT sq rfl ?_
        walk_at "st"
        refine fin _ _ Lx.refl ?_
        rw [hp, List.take_add_one, hg1, List.map_append]
        rfl
      · have hlen : xs.length = sg.length := by rw [hg.is_.length, List.length_map]
        rw [hp, hlen, List.take_length] at g4
        have g5 : H4 p4 = some (.lst ((sg.map fun s => s.n.1).map V.str)) := by rw [List.map_map]; exact g4
        have e14 := e1.trans e4
        walk_at "st"
        refine Z.f_deeds (e14.get hgx) ?_
        walk_at "st"
        have l1 := hg.d1
        have l4 := hg.d4
        have hdl : xd.length = ds.length := by rw [hg.id_.length, List.length_map]
        refine k_lenT (e14.sqt hg.sd) ?_
        walk_at "st"
        refine k_ifT (decide_eq_true (by omega)) ?_
        walk_at "st"
        rw [decide_eq_true (show ((xd.length : Nat) : Int) ≤ 20 by omega)]
        refine k_ifF rfl ?_
        walk_at "st"
        refine ⟨p4, _, rfl, SqL.of g5, by rw [List.length_map]; have := hg.s4; omega, fun _ => ?_, fun nn => absurd hg.nd nn⟩
        walk_at "st"
        refine k_lenL (SqL.of g5) ?_
        walk_at "st"
        refine k_ne rfl ?_
        walk_at "st"
        rw [List.length_map, List.length_map]
        walk_at "st"
        refine k_ifF (by simp) ?_
        walk_at "st"
        refine Z.f_epoch (e14.get hgx) ?_
        walk_at "st"
        refine k_ifF (decide_eq_false (by have := hg.e0; omega)) ?_
        walk_at "st"
        refine Z.f_signatures (e14.get hgx) ?_
        walk_at "st"
        refine kIT.mk (e14.sqt hg.ss) (kFor.tup (Pv := fun i σ => ∃ a b c, σ = [some (.ref s), some (.ref r), some (.ref g), a, b, some (.ref p4), c]) xs (e14.sqt hg.ss) ⟨_, _, _, rfl⟩ (fun i x σ H5 hx e5 hz => ?_) fun σ H5 e5 hz => ?_)
        · obtain ⟨a1, b1, c1, rfl⟩ := hz
          obtain ⟨g1, hg1, hm1, is⟩ := isl_map (hg.is_.lx (e14.trans e5)) hx
          walk_at "st"
          refine ⟨s, m, x, g1, rfl, hs.le (e14.trans e5), is, hg.oks _ hm1, fun H6 e6 => ?_⟩
          walk_at "st"
          refine k_ifF rfl ?_
          walk_at "st"
          exact ⟨e5.trans e6, _, _, _, rfl⟩
        · obtain ⟨a1, b1, c1, rfl⟩ := hz
          exact q _ (e14.trans e5)
end G
end
section
set_option Elab.async false
set_option linter.all false
set_option maxRecDepth 100000
set_option maxHeartbeats 1000000
namespace G
open PySem PySem.Spec PyProof.Rows L2
local macro_rules | `(tactic| walk_at "st") => `(tactic| repeat (first
  | with_reducible refine k_seq ?_
  | with_reducible refine k_asg ?_
  | with_reducible refine k_gn ?_
  | with_reducible refine k_op ?_
  | ((with_reducible refine' k_var ?vh ?_); (case vh => rfl))
  | with_reducible refine k_c ?_
  | with_reducible refine k_cons ?_
  | with_reducible refine k_nil ?_
  | with_reducible refine k_I0 ?_
  | with_reducible refine k_ret ?_
  | with_reducible refine k_if ?_
  | with_reducible refine k_test ?_
  | with_reducible refine k_bl ?_
  | with_reducible refine k_cb ?_
  | with_reducible refine k_cl ?_
  | with_reducible refine k_int ?_
  | with_reducible refine k_tup ?_
  | with_reducible refine k_lst ?_
  | with_reducible refine k_fld ?_
  | with_reducible refine k_mt ?_
  | with_reducible refine k_for ?_
  | with_reducible refine k_iL ?_
  | with_reducible refine k_iT ?_
  | with_reducible refine k_iR1 ?_
  | with_reducible refine k_iS ?_
  | with_reducible refine k_par ?_
  | with_reducible refine k_ex2 ?_
  | with_reducible refine k_rfl2 ?_
  | with_reducible refine k_iZA ?_
  | with_reducible refine k_gcons ?_
  | with_reducible refine k_gnil ?_
  | with_reducible refine k_exI ?_
  | with_reducible refine k_bits ?_
  | with_reducible refine k_chain ?_
  | ((with_reducible refine' k_aug ?vh ?_); (case vh => rfl))
  | with_reducible refine k_ipI ?_
  | with_reducible refine k_inG ?_
  | with_reducible refine k_m1 ?_
  | with_reducible refine kM1.mk ?_
  | with_reducible refine k_yes ?_
  | with_reducible refine k_lc ?_
  | with_reducible refine k_andV ?_
  | with_reducible refine k_orV ?_
  | with_reducible refine k_tB ?_
  | with_reducible refine k_and ?_
  | with_reducible refine k_or ?_
  | with_reducible refine k_not ?_
  | with_reducible refine k_retN ?_
  | with_reducible refine k_next ?_
  | with_reducible refine k_fset ?_
  | with_reducible refine k_faug ?_
  | with_reducible refine k_sl ?_
  | with_reducible refine k_part ?_
  | with_reducible refine k_nopart ?_
  | with_reducible refine k_un ?_
  | with_reducible refine k_u1 ?_
  | with_reducible refine k_dget ?_
  | with_reducible refine k_din ?_
  | with_reducible refine k_dnin ?_
  | with_reducible refine k_dput ?_
  | with_reducible refine k_dget2 ?_
  | with_reducible refine k_bm ?_
  | with_reducible refine k_augs ?_
  | with_reducible refine k_gsub ?_
  | with_reducible refine k_enT ?_
  | with_reducible refine k_anyI ?_
  | with_reducible refine k_allI ?_
  | with_reducible refine k_lenX ?_
  | with_reducible refine k_sortX ?_
  | with_reducible refine k_drop ?_))
local macro_rules | `(tactic| walk_at "go") => `(tactic| ((try dsimp only [cxOf]); walk_at "st"))
local macro_rules | `(tactic| walk_at "len") => `(tactic| (simp only [List.length_append, List.length_map, List.length_cons, List.length_nil, List.length_replicate] at *; omega))

variable {P : Program} {w : World} {K : PySem.W.Frag} {mg : Str → Option Value} {base : Heap}
theorem kBM.app {H : Hp} {Q : VK} {σ : L2.St} {a : Addr} {xs : List V} {tr : TA} (h : H a = some (.lst xs)) (q : tr σ H fun ys H2 => rAppend (.ref a) ys H2 Q) : kBM K "list" rAppend tr σ Q (.ref a) H := ⟨.inl ⟨rfl, xs, SqL.of h⟩, q⟩
theorem kBM.ext {H : Hp} {Q : VK} {σ : L2.St} {a : Addr} {xs : List V} {tr : TA} (h : H a = some (.lst xs)) (q : tr σ H fun ys H2 => rExtT K (.ref a) ys H2 Q) : kBM K "list" (rExtT K) tr σ Q (.ref a) H := ⟨.inl ⟨rfl, xs, SqL.of h⟩, q⟩
def spGNames (K : PySem.W.Frag) : Sp := fun vs H Q _ => ∃ (r g : Addr) (m : Int) (kd : Nat) (fee : Int) (rd : Addr) (kvs : List (List Key × V)) (ds : List Dd) (sg : List Sg) (e : Int) (pd psg : Addr) (xd xs : List V), vs = [.ref r, .ref g] ∧ RuA K H r kd fee rd kvs ∧
  GrA K H g kd m ds sg e pd psg xd xs ∧ ∀ (p : Addr) (ys : List Str) (H' : Hp), Le H H' → H' p = some (.lst (ys.map V.str)) → ys.length ≤ 1000 → (∀ y ∈ ys, ∃ k, (y, k) ∈ nmL) → Q (.ref p) H'
/-- the names so far, at p -/
def NamesAt (H0 : Hp) (p : Addr) (n : Nat) (H : Hp) : Prop := ∃ xs : List Str, Le H0 H ∧ H p = some (.lst (xs.map V.str)) ∧ xs.length ≤ n ∧ ∀ y ∈ xs, ∃ k, (y, k) ∈ nmL
theorem NamesAt.app {H0 H : Hp} {p : Addr} {n k : Nat} {y : Str} (h : NamesAt H0 p n H) (hp : H0 p = none) (hn : n ≤ 900) (hy : (y, k) ∈ nmL) {Q : VK} (q : ∀ H', NamesAt H0 p (n + 1) H' → Q .non H') : rAppend (.ref p) [.str y] H Q := by
  obtain ⟨xs, e, hl, hk, ha⟩ := h
  refine k_app hl (by rw [List.length_map]; omega) (q _ ⟨xs ++ [y], e.own hp (by rw [hl]; exact fun z => nomatch z), ?_, ?_, ?_⟩)
  · rw [upd_same, List.map_append]
    rfl
  · rw [List.length_append, List.length_singleton]
    omega
  · intro z hz
    rcases List.mem_append.mp hz with q | q
    · exact ha z q
    · rw [List.mem_singleton.mp q]
      exact ⟨k, hy⟩
theorem at0 {a : V} {l : List V} : atI (a :: l) 0 = some a := atI_nat (j := 0) rfl
theorem at1 {a b : V} {l : List V} : atI (a :: b :: l) 1 = some b := atI_nat (j := 1) rfl
theorem bank_nm : (("bank" : Str), 58026451009536) ∈ nmL := by decide +kernel
theorem mint_nm : (("mint" : Str), 106954869440512) ∈ nmL := by decide +kernel
theorem deed_1 {H : Hp} {v : V} {d : Dd} (h : Is K H v (.tuple d.ds)) : ∃ (p : Addr) (wd : Str) (n : Str × Nat) (rest : List V), v = .ref p ∧ SqT K H p (.str wd :: .str n.1 :: rest) ∧ (∀ m kd, d.ok kd m → n ∈ nmA) ∧
    ((∃ o k a, d = .mov n o k a ∧ wd = "move" ∧ rest = [.str o.1, .int (k : Nat), .int a]) ∨ (∃ g t a, d = .chg n g t a ∧ wd = "change") ∨ (∃ k a, d = .mnt n k a ∧ wd = "mint" ∧ rest = [.int (k : Nat), .int a]) ∨ (∃ k a, d = .brn n k a ∧ wd = "burn" ∧ rest = [.int (k : Nat), .int a]) ∨
      ((wd = "open" ∨ wd = "rule" ∨ wd = "close") ∧ ((∃ ns, d = .opn n ns) ∨ (∃ ns, d = .rul n ns) ∨ d = .cls n))) := by
  cases d with
  | opn n ns =>
    obtain ⟨p, x, rfl, sq, _⟩ := d3_inv h
    exact ⟨p, _, n, _, rfl, sq, fun _ _ ok => ok.1, .inr (.inr (.inr (.inr ⟨.inl rfl, .inl ⟨_, rfl⟩⟩)))⟩
  | rul n ns =>
    obtain ⟨p, x, rfl, sq, _⟩ := d3_inv h
    exact ⟨p, _, n, _, rfl, sq, fun _ _ ok => ok.1, .inr (.inr (.inr (.inr ⟨.inr (.inl rfl), .inr (.inl ⟨_, rfl⟩)⟩)))⟩
  | cls n =>
    obtain ⟨p, rfl, sq⟩ := flat_tup h rfl
    exact ⟨p, _, n, _, rfl, sq, fun _ _ ok => ok, .inr (.inr (.inr (.inr ⟨.inr (.inr rfl), .inr (.inr rfl)⟩)))⟩
  | mov n o k a =>
    obtain ⟨p, rfl, sq⟩ := flat_tup h rfl
    exact ⟨p, _, n, _, rfl, sq, fun _ _ ok => ok.1, .inl ⟨o, k, a, rfl, rfl, rfl⟩⟩
  | mnt n k a =>
    obtain ⟨p, rfl, sq⟩ := flat_tup h rfl
    exact ⟨p, _, n, _, rfl, sq, fun _ _ ok => ok.1, .inr (.inr (.inl ⟨k, a, rfl, rfl, rfl⟩))⟩
  | brn n k a =>
    obtain ⟨p, rfl, sq⟩ := flat_tup h rfl
    exact ⟨p, _, n, _, rfl, sq, fun _ _ ok => ok.1, .inr (.inr (.inr (.inl ⟨k, a, rfl, rfl, rfl⟩)))⟩
  | chg n g t a =>
    obtain ⟨p, rfl, sq⟩ := flat_tup h rfl
    exact ⟨p, _, n, _, rfl, sq, fun _ _ ok => ok.1, .inr (.inl ⟨g, t, a, rfl, rfl⟩)⟩
theorem ok_group_names (Z : Zed w K mg) : Fn P w K mg base CX0 1 (He.ga K "group_names") (spGNames K) := by
  refine Fn.of0 (F_group_names Z) sc_group_names (fun _ _ _ _ _ _ us hl => match us, hl with | [_, _], _ => rfl) (fun vs H Q E h => ?_) (fun cdv A outer s H vs Q E hr h => ?_)
  · obtain ⟨r, g, m, kd, fee, rd, kvs, ds, sg, e, pd, psg, xd, xs, rfl, _⟩ := h
    rfl
  · obtain ⟨r, g, m, kd, fee, rd, kvs, ds, sg, e, pd, psg, xd, xs, rfl, hru, hg, q⟩ := h
    obtain ⟨gx, hgx⟩ := hg.at_
    obtain ⟨rx, hrx⟩ := hru.at_
    refine ⟨_, (pss_cons (ps_setLc (i := 2) (own := [("signature", 4)]) rfl sc_group_names.nd rfl rfl (sw_true rfl rfl rfl (by decide +kernel)) (pi_tup (pe_fld (pv 1) rfl)) (blkOk_by (own := [("signature", 4)]) (N := ["rules", "group", "names", "deed", "signature"]) (sc := defScope s_group_names) (by decide +kernel)) (fun _ _ _ _ _ => (pg_name (i := 4) sc_group_names.nd rfl (Or.inl rfl))) (fun _ _ _ _ _ => pts_nil) (fun _ _ _ _ _ => (pe_ix (ixT_b (K := K) rfl) (pv 4) pe_int (fun _ _ => rfl)))) (pss_cons (ps_for PassesOwn.never rfl (pi_tup (pe_fld (pv 1) rfl)) (pg_name (i := 3) sc_group_names.nd rfl (Or.inl rfl)) (pss_cons (ps_expr (pe_bm PySem.F.plainAttrs_list PySem.F.slot_list_append PySem.F.type_list_append mt_append (pv 2) (pa_cons (pe_ix ix_tup (pv 3) pe_int (fun _ _ => rfl)) pa_nil))) (pss_cons (ps_if (pt_cmpR op_eq (pe_ix ix_tup (pv 3) pe_int (fun _ _ => rfl)) pe_str (nomark _)) (pss_cons (ps_expr (pe_bm PySem.F.plainAttrs_list PySem.F.slot_list_append PySem.F.type_list_append mt_append (pv 2) (pa_cons (pe_ix ix_tup (pv 3) pe_int (fun _ _ => rfl)) pa_nil))) (pss_one (ps_if (pt_cmpR op_gt (pe_fld (pv 0) rfl) pe_int (nomark _)) (pss_one (ps_expr (pe_bm PySem.F.plainAttrs_list PySem.F.slot_list_append PySem.F.type_list_append mt_append (pv 2) (pa_cons pe_str pa_nil)))) pss_nil))) pss_nil) (pss_cons (ps_if (pt_cmpR op_eq (pe_ix ix_tup (pv 3) pe_int (fun _ _ => rfl)) pe_str (nomark _)) (pss_one (ps_expr (pe_bm PySem.F.plainAttrs_list PySem.F.slot_list_append PySem.F.type_list_append mt_append (pv 2) (pa_cons pe_str pa_nil)))) pss_nil) (pss_one (ps_if (pt_cmpR op_eq (pe_ix ix_tup (pv 3) pe_int (fun _ _ => rfl)) pe_str (nomark _)) (pss_one (ps_expr (pe_bm PySem.F.plainAttrs_list PySem.F.slot_list_append PySem.F.type_list_append mt_append (pv 2) (pa_cons pe_str pa_nil)))) pss_nil)))))) (pss_one (ps_ret (pe_sortX (by rfl) (by rfl) Z.n_sorted (by rfl) Z.n_set (pv 2)))))), ?_⟩
    walk_at "go"
    refine Z.f_signatures hgx ?_
    walk_at "st"
    refine kIT.mk hg.ss (kLc.go walk_tup (show xs.length ≤ 100000 by rw [hg.is_.length, List.length_map]; have := hg.s4; omega) (fun i acc _ => ∃ ys : List Str, acc = ys.map V.str ∧ ∀ y ∈ ys, ∃ k, (y, k) ∈ nmL) (fun _ _ _ _ _ _ z => z) ⟨[], rfl, fun _ h => nomatch h⟩ (fun _ e => e.sqt hg.ss) (fun E Nx i acc x H3 H4 hi e4 hp y fin _ => ?_) fun p4 acc H4 e4 n4 g4 hl4 hp => ?_)
    · obtain ⟨rfl, hx⟩ := y
      obtain ⟨g1, hg1, hm1, is⟩ := isl_map (hg.is_.lx e4) hx
      obtain ⟨p, p2, ys, rfl, sq, _, _⟩ := sg_inv is
      walk_at "st"
      refine ⟨rfl, ?_⟩
      walk_at "st"
      refine k_ifT rfl ?_
      walk_at "st"
      refine k_ixT sq rfl ?_
      walk_at "st"
      obtain ⟨ys, rfl, hy⟩ := hp
      refine fin _ _ Lx.refl ⟨ys ++ [g1.n.1], by rw [List.map_append]; rfl, fun z hz => ?_⟩
      rcases List.mem_append.mp hz with q2 | q2
      · exact hy z q2
      · rw [List.mem_singleton.mp q2]
        exact ⟨_, nmA_L (hg.oks _ hm1).nm⟩
    · obtain ⟨ys, rfl, hy⟩ := hp
      have hxl : xs.length ≤ 4 := by
        rw [hg.is_.length, List.length_map]
        exact hg.s4
      rw [List.length_map] at hl4
      walk_at "st"
      refine Z.f_deeds (e4.get hgx) ?_
      walk_at "st"
      refine kIT.mk (e4.sqt hg.sd) (kFor.go walk_tup (fun i σ H' => NamesAt H p4 (4 + 3 * i) H' ∧ ∃ a b, σ = [some (.ref r), some (.ref g), some (.ref p4), a, b]) ⟨⟨ys, e4, g4, by omega, hy⟩, _, _, rfl⟩ (fun i σ H' _ z => z.1.choose_spec.1.sqt hg.sd) (fun i x σ H1 H2 hi z y => ?_) fun σ H1 z => ?_)
      · obtain ⟨hN, a, b, rfl⟩ := z
        obtain ⟨rfl, hx⟩ := y
        have hil : i < 4 := by
          have h4 := hg.d4
          have : xd.length = ds.length := by rw [hg.id_.length, List.length_map]
          omega
        have le0 : Le H H2 := hN.choose_spec.1
        obtain ⟨d, _, hd, is⟩ := isl_map hg.id_ hx
        obtain ⟨p, wd, n, rest, rfl, sq, hnm, cs⟩ := deed_1 is
        have hn := nmA_L (hnm _ _ (hg.okd d hd))
        walk_at "st"
        refine kBM.app hN.choose_spec.2.1 ?_
        walk_at "st"
        refine k_ixT (le0.sqt sq) at1 ?_
        walk_at "st"
        refine hN.app n4 (by omega) hn fun H3 hN3 => ?_
        have le3 : Le H H3 := hN3.choose_spec.1
        have more : ∀ {k : Nat} {H' : Hp}, k ≤ 4 + 3 * i + 3 → NamesAt H p4 k H' → NamesAt H p4 (4 + 3 * (i + 1)) H' := fun hk h => by
          obtain ⟨a1, a2, a3, a4, a5⟩ := h
          exact ⟨a1, a2, a3, by omega, a5⟩
        walk_at "st"
        refine k_ixT (le3.sqt sq) at0 ?_
        walk_at "st"
        refine k_eq rfl ?_
        walk_at "st"
        refine k_if2 (fun hb => ?_) (fun hb => ?_)
        · have hw : wd = "move" := V.str.inj (of_decide_eq_true hb)
          rcases cs with ⟨o, k, a1, rfl, _, rfl⟩ | ⟨g1, t1, a1, _, hw2⟩ | ⟨k, a1, _, hw2, _⟩ | ⟨k, a1, _, hw2, _⟩ | ⟨hw2, _⟩
          · obtain ⟨_, ho, _⟩ := hg.okd _ hd
            subst hw
            walk_at "st"
            refine kBM.app hN3.choose_spec.2.1 ?_
            walk_at "st"
            refine k_ixT (le3.sqt sq) rfl ?_
            walk_at "st"
            refine hN3.app n4 (by omega) (nmA_L ho) fun H5 hN5 => ?_
            have le5 : Le H H5 := hN5.choose_spec.1
            walk_at "st"
            refine Z.f_fee (le5.get hrx) ?_
            walk_at "st"
            refine k_if2 (fun _ => ?_) (fun _ => ?_)
            · walk_at "st"
              refine kBM.app hN5.choose_spec.2.1 ?_
              walk_at "st"
              refine hN5.app n4 (by omega) bank_nm fun H6 hN6 => ?_
              have le6 : Le H H6 := hN6.choose_spec.1
              walk_at "st"
              refine k_ixT (le6.sqt sq) rfl ?_
              walk_at "st"
              refine k_eq rfl ?_
              walk_at "st"
              refine k_ifF (by decide +kernel) ?_
              walk_at "st"
              refine k_ixT (le6.sqt sq) rfl ?_
              walk_at "st"
              refine k_eq rfl ?_
              walk_at "st"
              refine k_ifF (by decide +kernel) ?_
              walk_at "st"
              exact ⟨more (by omega) hN6, _, _, rfl⟩
            · walk_at "st"
              refine k_ixT (le5.sqt sq) rfl ?_
              walk_at "st"
              refine k_eq rfl ?_
              walk_at "st"
              refine k_ifF (by decide +kernel) ?_
              walk_at "st"
              refine k_ixT (le5.sqt sq) rfl ?_
              walk_at "st"
              refine k_eq rfl ?_
              walk_at "st"
              refine k_ifF (by decide +kernel) ?_
              walk_at "st"
              exact ⟨more (by omega) hN5, _, _, rfl⟩
          · exact absurd (hw.symm.trans hw2) (by decide +kernel)
          · exact absurd (hw.symm.trans hw2) (by decide +kernel)
          · exact absurd (hw.symm.trans hw2) (by decide +kernel)
          · rcases hw2 with hw2 | hw2 | hw2 <;> exact absurd (hw.symm.trans hw2) (by decide +kernel)
        · walk_at "st"
          refine k_ixT (le3.sqt sq) at0 ?_
          walk_at "st"
          refine k_eq rfl ?_
          walk_at "st"
          refine k_if2 (fun _ => ?_) (fun _ => ?_)
          · walk_at "st"
            refine kBM.app hN3.choose_spec.2.1 ?_
            walk_at "st"
            refine hN3.app n4 (by omega) bank_nm fun H5 hN5 => ?_
            have le5 : Le H H5 := hN5.choose_spec.1
            walk_at "st"
            refine k_ixT (le5.sqt sq) at0 ?_
            walk_at "st"
            refine k_eq rfl ?_
            walk_at "st"
            refine k_if2 (fun _ => ?_) (fun _ => ?_)
            · walk_at "st"
              refine kBM.app hN5.choose_spec.2.1 ?_
              walk_at "st"
              refine hN5.app n4 (by omega) mint_nm fun H6 hN6 => ?_
              walk_at "st"
              exact ⟨more (by omega) hN6, _, _, rfl⟩
            · walk_at "st"
              exact ⟨more (by omega) hN5, _, _, rfl⟩
          · walk_at "st"
            refine k_ixT (le3.sqt sq) at0 ?_
            walk_at "st"
            refine k_eq rfl ?_
            walk_at "st"
            refine k_if2 (fun _ => ?_) (fun _ => ?_)
            · walk_at "st"
              refine kBM.app hN3.choose_spec.2.1 ?_
              walk_at "st"
              refine hN3.app n4 (by omega) mint_nm fun H6 hN6 => ?_
              walk_at "st"
              exact ⟨more (by omega) hN6, _, _, rfl⟩
            · walk_at "st"
              exact ⟨more (by omega) hN3, _, _, rfl⟩
      · obtain ⟨hN, a, b, rfl⟩ := z
        obtain ⟨zs, e5, g5, l5, a5⟩ := hN
        have h4 := hg.d4
        have hxd : xd.length = ds.length := by rw [hg.id_.length, List.length_map]
        walk_at "st"
        refine kSortX.mk (SqL.of g5) (by omega) fun us p6 H6 h1 h2 e6 n6 g6 => ?_
        exact q p6 us H6 (e5.trans e6) g6 (by omega) fun y hy => a5 y (h1 y hy)
end G
end
section
set_option Elab.async false
set_option linter.all false
set_option maxRecDepth 100000
set_option maxHeartbeats 1000000
namespace G
open PySem PySem.Spec PyProof.Rows L2
/-! ### isinstance, str(..), lengths -/
section
variable {K : PySem.W.Frag} {H : Hp} {Q : VK} {a : Addr} {xs : List V}
theorem tyT (h : SqT K H a xs) : TyX K H (.ref a) (.type "tuple") := by
  rcases h with (h | ⟨o, h⟩) | ⟨o, its, n, h, hc, _⟩
  · exact .base (.tup h)
  · exact .fTuple h
  · exact .kTuple h hc
theorem k_isiT {T : String} {b : Bool} (h : SqT K H a xs) (e : PySem.W.kitOne K (.type "tuple") (.type T) = some b) (q : Q (.bl b) H) : rIsi K [.ref a, .ty T] H Q := ⟨.ref a, .ty T, .type "tuple", .type T, b, rfl, .ty T, tyT h, e, q⟩
theorem k_isiS {T : String} {b : Bool} {z : Str} (e : PySem.W.kitOne K (.type "str") (.type T) = some b) (q : Q (.bl b) H) : rIsi K [.str z, .ty T] H Q := ⟨.str z, .ty T, .type "str", .type T, b, rfl, .ty T, .base (.str z), e, q⟩
theorem k_isiI {T : String} {b : Bool} {i : Int} (e : PySem.W.kitOne K (.type "int") (.type T) = some b) (q : Q (.bl b) H) : rIsi K [.int i, .ty T] H Q := ⟨.int i, .ty T, .type "int", .type T, b, rfl, .ty T, .base (.int i), e, q⟩
theorem kit_tt : PySem.W.kitOne K (.type "tuple") (.type "tuple") = some true := by kernel_rfl
theorem kit_st : PySem.W.kitOne K (.type "str") (.type "tuple") = some false := by kernel_rfl
theorem kit_it : PySem.W.kitOne K (.type "int") (.type "tuple") = some false := by kernel_rfl
theorem kit_ss : PySem.W.kitOne K (.type "str") (.type "str") = some true := by kernel_rfl
theorem kit_is : PySem.W.kitOne K (.type "int") (.type "str") = some false := by kernel_rfl
theorem kit_ts : PySem.W.kitOne K (.type "tuple") (.type "str") = some false := by kernel_rfl
/-- str(int), str(text) -/
def gStr2 : List V → Hp → VK → Prop := fun xs H Q => (∃ i, xs = [.int i] ∧ i.natAbs.log2 < 1920 ∧ Q (.str (toString i)) H) ∨ ∃ z, xs = [.str z] ∧ Q (.str z) H
theorem cr_str2 {X : Cx} : CallR X (.type "str") gStr2 := by
  intro pins s σ H xs us Q I r h
  rcases h with h | h
  · exact call_str_int pins s σ H xs us Q I r h
  · exact SkE.call_str_str pins s σ H xs us Q I r h
/-- numbers that are not long -/
def Bd (i : Int) : Prop := i.natAbs < 100000000000000000000000000000000000000000000000000
theorem Bd.log {i : Int} (h : Bd i) : i.natAbs.log2 < 1920 := by
  by_cases e : i.natAbs = 0
  · rw [e]
    decide
  · exact (Nat.log2_lt e).mpr (Nat.lt_trans h (by decide +kernel))
theorem Bd.len {i : Int} (h : Bd i) : (Str.ofString (toString i)).length ≤ 60 := by
  have h10 : (10 : Nat) ^ 50 = 100000000000000000000000000000000000000000000000000 := by decide +kernel
  rw [ofString_len]
  cases i with
  | ofNat m =>
    have := (Nat.length_repr_le_iff (n := m) (by decide : 0 < 50)).mpr (by rw [h10]; exact h)
    show (Nat.repr m).length ≤ 60
    omega
  | negSucc m =>
    have := (Nat.length_repr_le_iff (n := m + 1) (by decide : 0 < 50)).mpr (by rw [h10]; exact h)
    show ("-" ++ Nat.repr (m + 1)).length ≤ 60
    have h1 : "-".length = 1 := by first | rfl | decide
    rw [String.length_append]
    omega
theorem k_str2I {i : Int} (h : Bd i) (q : ∀ z : Str, z.length ≤ 60 → Q (.str z) H) : gStr2 [.int i] H Q := .inl ⟨i, rfl, h.log, q _ h.len⟩
theorem k_str2S {z : Str} (q : Q (.str z) H) : gStr2 [.str z] H Q := .inr ⟨z, rfl, q⟩
theorem k_strI {i : Int} (h : Bd i) (q : ∀ z : Str, z.length ≤ 60 → Q (.str z) H) : gStrI [.int i] H Q := ⟨i, rfl, h.log, q _ h.len⟩
theorem nmL_len {n : Str} {k : Nat} (h : (n, k) ∈ nmL) : n.length ≤ 60 := by
  have e : nmL.all (fun p => decide (p.1.length ≤ 60)) = true := by decide +kernel
  exact of_decide_eq_true (List.all_eq_true.mp e _ h)
/-- what a deed holds behind its word -/
def DI (d : PyData) : Prop := (∃ z k, d = .str z ∧ (z, k) ∈ nmL) ∨ (∃ i, d = .int i ∧ Bd i) ∨ ∃ ns, d = dI ns ∧ ns.length ≤ 8 ∧ ∀ n ∈ ns, Bd n
def wordsL : List Str := ["open", "close", "move", "mint", "burn", "change", "rule"]
theorem bd_of {i c : Int} (h0 : 0 ≤ i) (h1 : i ≤ c) (hc : c ≤ 99999999999999999999999999999999999999999999999999 := by decide) : Bd i := by
  unfold Bd
  omega
theorem NoteOk.bd {kd p : Int} {ns : List Int} (h : NoteOk kd p ns) (hk : kd ≤ 3) (hp : p ≤ 2 ^ 61) : ns.length ≤ 8 ∧ ∀ n ∈ ns, Bd n := by
  obtain ⟨l0, l1, l2, nd, li, hk2, ho, ep, rfl, ⟨a0, a1⟩, ⟨b0, b1⟩, ⟨c0, c1⟩, ⟨d0, d1⟩, ⟨e0, e1⟩, ⟨f0, f1⟩, ⟨g0, g1⟩, ⟨i0, i1⟩⟩ := h
  refine ⟨Nat.le_refl 8, fun n hn => ?_⟩
  have hz : ∀ l, pz l ≤ 1 := fun l => by unfold pz; split <;> omega
  have z0 := hz l0
  have z1 := hz l1
  have z2 := hz l2
  simp only [List.mem_cons, List.not_mem_nil, or_false] at hn
  rcases hn with rfl | rfl | rfl | rfl | rfl | rfl | rfl | rfl <;> (unfold Bd; omega)
theorem dd_items {d : Dd} {kd : Nat} {m : Int} (ok : d.ok kd m) (hk : kd ≤ 3) (hm : m ≤ 2 ^ 61) : ∃ wd its, d.ds = .str wd :: its ∧ wd ∈ wordsL ∧ its.length ≤ 4 ∧ ∀ x ∈ its, DI x := by
  have S : ∀ {n : Str × Nat}, n ∈ nmA → DI (.str n.1) := fun h => .inl ⟨_, _, rfl, nmA_L h⟩
  have N : ∀ {ns : List Int}, NoteOk kd m ns → DI (dI ns) := fun h => .inr (.inr ⟨_, rfl, h.bd (by omega) hm⟩)
  have I : ∀ {k : Nat}, k < kd → DI (.int (k : Nat)) := fun h => .inr (.inl ⟨_, rfl, by unfold Bd; omega⟩)
  have A : ∀ {a : Int}, AmO a → DI (.int a) := fun h => .inr (.inl ⟨_, rfl, by have := h.1; have := h.2; unfold Bd; omega⟩)
  cases d with
  | opn n ns => exact ⟨_, _, rfl, by decide +kernel, by simp, by simp only [List.forall_mem_cons]; exact ⟨S ok.1, N ok.2, fun _ h => nomatch h⟩⟩
  | rul n ns => exact ⟨_, _, rfl, by decide +kernel, by simp, by simp only [List.forall_mem_cons]; exact ⟨S ok.1, N ok.2, fun _ h => nomatch h⟩⟩
  | cls n => exact ⟨_, _, rfl, by decide +kernel, by simp, by simp only [List.forall_mem_cons]; exact ⟨S ok, fun _ h => nomatch h⟩⟩
  | mov n o k a => exact ⟨_, _, rfl, by decide +kernel, by simp, by simp only [List.forall_mem_cons]; exact ⟨S ok.1, S ok.2.1, I ok.2.2.1, A ok.2.2.2, fun _ h => nomatch h⟩⟩
  | mnt n k a => exact ⟨_, _, rfl, by decide +kernel, by simp, by simp only [List.forall_mem_cons]; exact ⟨S ok.1, I ok.2.1, A ok.2.2, fun _ h => nomatch h⟩⟩
  | brn n k a => exact ⟨_, _, rfl, by decide +kernel, by simp, by simp only [List.forall_mem_cons]; exact ⟨S ok.1, I ok.2.1, A ok.2.2, fun _ h => nomatch h⟩⟩
  | chg n g t a => exact ⟨_, _, rfl, by decide +kernel, by simp, by simp only [List.forall_mem_cons]; exact ⟨S ok.1, I ok.2.1, I ok.2.2.1, A ok.2.2.2, fun _ h => nomatch h⟩⟩
theorem cut1 {x : V} {ys : List V} : cutV (x :: ys) (some 1) none = ys := by
  unfold cutV HT.sIx
  simp
  try omega
/-- words so far, at p -/
def WordsAt (H0 : Hp) (p : Addr) (n : Nat) (H : Hp) : Prop := ∃ zs : List Str, Le H0 H ∧ H p = some (.lst (zs.map V.str)) ∧ zs.length ≤ n ∧ ∀ z ∈ zs, z.length ≤ 60
theorem WordsAt.le {H0 H H' : Hp} {p : Addr} {n : Nat} (h : WordsAt H0 p n H) (x : Le H H') : WordsAt H0 p n H' := let ⟨zs, e, hl, hk, ha⟩ := h; ⟨zs, e.trans x, x.lst hl, hk, ha⟩
theorem WordsAt.mono {H0 H : Hp} {p : Addr} {n m : Nat} (h : WordsAt H0 p n H) (x : n ≤ m) : WordsAt H0 p m H := let ⟨zs, e, hl, hk, ha⟩ := h; ⟨zs, e, hl, Nat.le_trans hk x, ha⟩
theorem WordsAt.app {H0 H : Hp} {p : Addr} {n : Nat} {y : Str} (h : WordsAt H0 p n H) (hp : H0 p = none) (hn : n ≤ 900) (hy : y.length ≤ 60) {Q : VK} (q : ∀ H', Lx (fun a => a = p) H H' → WordsAt H0 p (n + 1) H' → Q .non H') : rAppend (.ref p) [.str y] H Q := by
  obtain ⟨xs, e, hl, hk, ha⟩ := h
  refine k_app hl (by rw [List.length_map]; omega) (q _ (Lx.wr rfl hl (fun z => z) (by intro ps z; cases z)) ⟨xs ++ [y], e.own hp (by rw [hl]; exact fun z => nomatch z), ?_, ?_, ?_⟩)
  · rw [upd_same, List.map_append]
    rfl
  · rw [List.length_append, List.length_singleton]
    omega
  · intro z hz
    rcases List.mem_append.mp hz with q | q
    · exact ha z q
    · rw [List.mem_singleton.mp q]
      exact hy
theorem WordsAt.ext {H0 H : Hp} {p l : Addr} {n m : Nat} {ys : List Str} (h : WordsAt H0 p n H) (hp : H0 p = none) (hn : n + m ≤ 1000) (hl2 : H l = some (.lst (ys.map V.str))) (hm : ys.length ≤ m) (hy : ∀ y ∈ ys, y.length ≤ 60) {Q : VK} (q : ∀ H', Lx (fun a => a = p) H H' → WordsAt H0 p (n + m) H' → Q .non H') : rExtT K (.ref p) [.ref l] H Q := by
  obtain ⟨xs, e, hl, hk, ha⟩ := h
  refine k_extL hl hl2 (by rw [List.length_map, List.length_map]; omega) (q _ (Lx.wr rfl hl (fun z => z) (by intro ps z; cases z)) ⟨xs ++ ys, e.own hp (by rw [hl]; exact fun z => nomatch z), ?_, ?_, ?_⟩)
  · rw [upd_same, List.map_append]
  · rw [List.length_append]
    omega
  · intro z hz
    rcases List.mem_append.mp hz with q | q
    · exact ha z q
    · exact hy z q
end
end G
end
section
set_option Elab.async false
set_option linter.all false
set_option maxRecDepth 100000
set_option maxHeartbeats 1000000
namespace G
open PySem PySem.Spec PyProof.Rows L2
/-! ### try .. except GroupRefused as e -/
/-- a method call whose wish reads the slots -/
def tMtS (C : Addr) (m : Str) (sp : Sp) (E : L2.St → XK) (ta : TE) (t : TA) : TE := fun σ H Q => ta σ H fun x H1 => ∃ a dx fs, x = .ref a ∧ H1 a = some (.ins C dx fs) ∧ fs.lookup m = none ∧ t σ H1 fun vs H2 => sp (x :: vs) H2 Q (E σ)
section
variable {X : Cx} {CX : CXT} {k j : Nat} {f C : Addr} {sp : Sp} {E : L2.St → XK} {m : Str} {pos apos : Pos} {e o : Expr} {es : List Expr} {ta : TE} {t : TA}
theorem pe_mS {pl : Sem Bool} (c : Cls X.K C) (hm : Meth X.K C m f) (F : Fn X.prog X.w X.K X.mg X.base CX k f sp) (hr : Room j X.A) (hk : k ≤ j) (hx : ∀ σ, PassesAt CX X σ (E σ)) (he : PE X o ta) (ha : PA X (e :: es) t)
    (hst : starEach (e :: es) X.env = (false, eval e X.env) :: starEach es X.env := by rfl) (hpl : (backTo pos (starEach es X.env)).any (·.1) = false := by rfl)
    (ht : eval (.Call (.Attribute o m apos) (e :: es) [] pos) X.env = (do
      let ov ← eval o X.env
      standAt apos.atName
      let (f, first) ← holding [ov] (getMethod ov m pl)
      callWith pos f first (backTo pos (starEach (e :: es) X.env)) (backToKw pos (keywordEach [] X.env))) := by rfl) :
    PE X (.Call (.Attribute o m apos) (e :: es) [] pos) (tMtS C m sp E ta t) := by
  obtain ⟨fd, ps, ok, b⟩ := F.ex
  refine ⟨fun pins s σ H Q I h => ?_⟩
  refine PySem.W.methodCall_KW (pl := pl) (thn (he.run pins s σ H _ I h) fun u s1 ⟨x, H1, I1, rx, a, dx, fs, ex, ea, l, q⟩ => ?_) ht
  subst ex
  obtain rfl : u = Value.ref a := rx
  refine getmeth_ok I1 ea c hm l ?_
  refine PySem.W.callWith_K (first := [.ref a]) (h₀ := X.base) I.ok.mod.kin hm.kp (thn (ha.run pos pins s1 σ H1 _ I1 q) fun us s2 ⟨vs, H2, I2, r, q2⟩ => ⟨I2.kIn, ?_⟩) hst hpl
  exact run_fnS (us := .ref a :: us) (vs := .ref a :: vs) ok (hr.mono hk) b (hx σ) I2 (.cons rfl r) q2
theorem k_mtS {σ : L2.St} {H : Hp} {Q : VK} (h : ta σ H (kMt C m (fun x σ H1 => t σ H1 fun vs H2 => sp (x :: vs) H2 Q (E σ)) σ)) : tMtS C m sp E ta t σ H Q := h
theorem takesNo : Takes X (fun _ _ _ _ => False) := fun u s' ⟨_, _, _, _, _, _, _, _, _, _, _, _, _, _, _, _, w⟩ => w.elim
end
theorem Gr.xf {K : PySem.W.Frag} {C fI : Addr} (T : Gr K C fI) : XfC K C := ⟨T.ga, T.gg, T.exC, T.hdC⟩
/-- a field of the caught exception -/
def kXf (a : Addr) (cls : Value) (d : Option Addr) (C : Addr) (f : Str) (Q : VK) (x : V) (H1 : Hp) : Prop := x = .ref a ∧ cls = .ref C ∧ ∃ (dd : Addr) (fs : List (Str × V)) (v : V), d = some dd ∧ H1 dd = some (.xd fs) ∧ fs.lookup f = some v ∧ Q v H1
theorem k_xf {a C : Addr} {cls : Value} {d : Option Addr} {f : Str} {te : TE} {σ : L2.St} {H : Hp} {Q : VK} (h : te σ H (kXf a cls d C f Q)) : tXf a cls d C f te σ H Q := h
theorem kXf.mk {a dd C : Addr} {f : Str} {Q : VK} {H : Hp} {fs : List (Str × V)} {v : V} (h : H dd = some (.xd fs)) (l : fs.lookup f = some v) (q : Q v H) : kXf a (.ref C) (some dd) C f Q (.ref a) H := ⟨rfl, rfl, dd, fs, v, rfl, h, l, q⟩
end G
end
section
set_option Elab.async false
set_option linter.all false
set_option maxRecDepth 100000
set_option maxHeartbeats 1000000
namespace G
open PySem PySem.Spec PyProof.Rows L2
local macro_rules | `(tactic| walk_at "st") => `(tactic| repeat (first
  | with_reducible refine k_seq ?_
  | with_reducible refine k_asg ?_
  | with_reducible refine k_gn ?_
  | with_reducible refine k_op ?_
  | ((with_reducible refine' k_var ?vh ?_); (case vh => rfl))
  | with_reducible refine k_c ?_
  | with_reducible refine k_cons ?_
  | with_reducible refine k_nil ?_
  | with_reducible refine k_I0 ?_
  | with_reducible refine k_ret ?_
  | with_reducible refine k_if ?_
  | with_reducible refine k_test ?_
  | with_reducible refine k_bl ?_
  | with_reducible refine k_cb ?_
  | with_reducible refine k_cl ?_
  | with_reducible refine k_int ?_
  | with_reducible refine k_tup ?_
  | with_reducible refine k_lst ?_
  | with_reducible refine k_fld ?_
  | with_reducible refine k_mt ?_
  | with_reducible refine k_for ?_
  | with_reducible refine k_iL ?_
  | with_reducible refine k_iT ?_
  | with_reducible refine k_iR1 ?_
  | with_reducible refine k_iS ?_
  | with_reducible refine k_par ?_
  | with_reducible refine k_ex2 ?_
  | with_reducible refine k_rfl2 ?_
  | with_reducible refine k_iZA ?_
  | with_reducible refine k_gcons ?_
  | with_reducible refine k_gnil ?_
  | with_reducible refine k_exI ?_
  | with_reducible refine k_bits ?_
  | with_reducible refine k_chain ?_
  | ((with_reducible refine' k_aug ?vh ?_); (case vh => rfl))
  | with_reducible refine k_ipI ?_
  | with_reducible refine k_inG ?_
  | with_reducible refine k_m1 ?_
  | with_reducible refine kM1.mk ?_
  | with_reducible refine k_yes ?_
  | with_reducible refine k_lc ?_
  | with_reducible refine k_andV ?_
  | with_reducible refine k_orV ?_
  | with_reducible refine k_tB ?_
  | with_reducible refine k_and ?_
  | with_reducible refine k_or ?_
  | with_reducible refine k_not ?_
  | with_reducible refine k_retN ?_
  | with_reducible refine k_next ?_
  | with_reducible refine k_fset ?_
  | with_reducible refine k_faug ?_
  | with_reducible refine k_sl ?_
  | with_reducible refine k_part ?_
  | with_reducible refine k_nopart ?_
  | with_reducible refine k_un ?_
  | with_reducible refine k_u1 ?_
  | with_reducible refine k_dget ?_
  | with_reducible refine k_din ?_
  | with_reducible refine k_dnin ?_
  | with_reducible refine k_dput ?_
  | with_reducible refine k_dget2 ?_
  | with_reducible refine k_bm ?_
  | with_reducible refine k_augs ?_
  | with_reducible refine k_gsub ?_
  | with_reducible refine k_enT ?_
  | with_reducible refine k_anyI ?_
  | with_reducible refine k_allI ?_
  | with_reducible refine k_lenX ?_
  | with_reducible refine k_sortX ?_
  | with_reducible refine k_drop ?_))
local macro_rules | `(tactic| walk_at "go") => `(tactic| ((try dsimp only [cxOf]); walk_at "st"))
local macro_rules | `(tactic| walk_at "len") => `(tactic| (simp only [List.length_append, List.length_map, List.length_cons, List.length_nil, List.length_replicate] at *; omega))

variable {P : Program} {w : World} {K : PySem.W.Frag} {mg : Str → Option Value} {base : Heap}
/-! ### what is made of money -/
def Dd.net (k : Nat) : Dd → Int
  | .mnt _ j a => if j = k then a else 0
  | .brn _ j a => if j = k then -a else 0
  | _ => 0
def netL (ds : List Dd) (k : Nat) : Int := (ds.map (Dd.net k)).sum
theorem netL_next {ds : List Dd} {i k : Nat} {d : Dd} (h : ds[i]? = some d) : netL (ds.take (i + 1)) k = netL (ds.take i) k + d.net k := by
  unfold netL
  rw [List.take_add_one, h, List.map_append, List.sum_append]
  show _ + (d.net k + 0) = _
  rw [Int.add_zero]
def spNet (K : PySem.W.Frag) : Sp := fun vs H Q _ => ∃ (g : Addr) (m : Int) (kd : Nat) (ds : List Dd) (sg : List Sg) (e : Int) (pd psg : Addr) (xd xs : List V) (k : Nat), vs = [.ref g, .int (k : Nat)] ∧ GrA K H g kd m ds sg e pd psg xd xs ∧ Q (.int (netL ds k)) H
theorem ok_minted (Z : Zed w K mg) : Fn P w K mg base CX0 1 (He.ga K "minted") (spNet K) := by
  refine Fn.of0 (F_minted Z) sc_minted (fun _ _ _ _ _ _ us hl => match us, hl with | [_, _], _ => rfl) (fun vs H Q E h => ?_) (fun cdv A outer s H vs Q E hr h => ?_)
  · obtain ⟨g, m, kd, ds, sg, e, pd, psg, xd, xs, k, rfl, _⟩ := h
    rfl
  · obtain ⟨g, m, kd, ds, sg, e, pd, psg, xd, xs, k, rfl, hg, q⟩ := h
    obtain ⟨gx, hgx⟩ := hg.at_
    have hxd : xd.length = ds.length := by rw [hg.id_.length, List.length_map]
    refine ⟨_, (pss_cons (ps_set (i := 2) sc_minted.nd rfl (Or.inl rfl) pe_int) (pss_cons (ps_for PassesOwn.never rfl (pi_tup (pe_fld (pv 0) rfl)) (pg_name (i := 3) sc_minted.nd rfl (Or.inl rfl)) (pss_cons (ps_if (PW.pt (pw_and (pt_cmpR op_eq (pe_ix ix_tup (pv 3) pe_int (fun _ _ => rfl)) pe_str (nomark _)) (pw_and1 (pt_cmpR op_eq (pe_ix ix_tup (pv 3) pe_int (fun _ _ => rfl)) (pv 1) (nomark _))))) (pss_one (ps_aug (i := 2) sc_minted.nd rfl (Or.inl rfl) (pe_ix ix_tup (pv 3) pe_int (fun _ _ => rfl)) ip_add)) pss_nil) (pss_one (ps_if (PW.pt (pw_and (pt_cmpR op_eq (pe_ix ix_tup (pv 3) pe_int (fun _ _ => rfl)) pe_str (nomark _)) (pw_and1 (pt_cmpR op_eq (pe_ix ix_tup (pv 3) pe_int (fun _ _ => rfl)) (pv 1) (nomark _))))) (pss_one (ps_aug (i := 2) sc_minted.nd rfl (Or.inl rfl) (pe_ix ix_tup (pv 3) pe_int (fun _ _ => rfl)) ip_sub)) pss_nil)))) (pss_one (ps_ret (pv 2))))), ?_⟩
    walk_at "go"
    refine Z.f_deeds hgx ?_
    walk_at "st"
    refine kIT.mk hg.sd (kFor.go walk_tup (fun i σ H' => H' = H ∧ ∃ a, σ = [some (.ref g), some (.int (k : Nat)), some (.int (netL (ds.take i) k)), a]) ⟨rfl, _, rfl⟩ (fun i σ H' _ z => z.1 ▸ hg.sd) (fun i x σ H1 H2 hi z y => ?_) fun σ H1 z => ?_)
    · obtain ⟨rfl, a, rfl⟩ := z
      obtain ⟨rfl, hx⟩ := y
      obtain ⟨d, hdi, hd, is⟩ := isl_map hg.id_ hx
      have hnx := netL_next (k := k) hdi
      obtain ⟨p, wd, n, rest, rfl, sq, hnm, cs⟩ := deed_1 is
      walk_at "st"
      refine k_ixT sq at0 ?_
      walk_at "st"
      refine k_eq rfl ?_
      walk_at "st"
      rcases cs with ⟨o, k1, a1, rfl, rfl, rfl⟩ | ⟨g1, t1, a1, rfl, rfl⟩ | ⟨k1, a1, rfl, rfl, rfl⟩ | ⟨k1, a1, rfl, rfl, rfl⟩ | ⟨hw, hc⟩
      · clear hx
        refine k_ifF (by decide +kernel) ?_
        walk_at "st"
        refine k_ifF rfl ?_
        walk_at "st"
        refine k_ixT sq at0 ?_
        walk_at "st"
        refine k_eq rfl ?_
        walk_at "st"
        refine k_ifF (by decide +kernel) ?_
        walk_at "st"
        refine k_ifF rfl ?_
        walk_at "st"
        refine ⟨rfl, some (.ref p), ?_⟩
        rw [hnx]
        show _ = [_, _, some (V.int (_ + 0)), _]
        rw [Int.add_zero]
        rfl
      · clear hx
        refine k_ifF (by decide +kernel) ?_
        walk_at "st"
        refine k_ifF rfl ?_
        walk_at "st"
        refine k_ixT sq at0 ?_
        walk_at "st"
        refine k_eq rfl ?_
        walk_at "st"
        refine k_ifF (by decide +kernel) ?_
        walk_at "st"
        refine k_ifF rfl ?_
        walk_at "st"
        refine ⟨rfl, some (.ref p), ?_⟩
        rw [hnx]
        show _ = [_, _, some (V.int (_ + 0)), _]
        rw [Int.add_zero]
        rfl
      · clear hx
        refine k_ifT (by decide +kernel) ?_
        walk_at "st"
        refine k_ixT sq rfl ?_
        walk_at "st"
        refine k_eq rfl ?_
        walk_at "st"
        refine k_if2 (fun hb => ?_) (fun hb => ?_)
        · have hk : (k1 : Int) = k := V.int.inj (of_decide_eq_true hb)
          have hk2 : k1 = k := by omega
          walk_at "st"
          refine k_ixT sq rfl ?_
          walk_at "st"
          refine k_ixT sq rfl ?_
          walk_at "st"
          refine k_eq rfl ?_
          walk_at "st"
          refine k_ifF (by decide +kernel) ?_
          walk_at "st"
          refine k_ifF rfl ?_
          walk_at "st"
          refine ⟨rfl, some (.ref p), ?_⟩
          rw [hnx]
          show _ = [_, _, some (V.int (_ + (if k1 = k then a1 else 0))), _]
          rw [if_pos hk2]
          rfl
        · have hk2 : ¬ k1 = k := fun z => of_decide_eq_false hb (by rw [z])
          walk_at "st"
          refine k_ixT sq rfl ?_
          walk_at "st"
          refine k_eq rfl ?_
          walk_at "st"
          refine k_ifF (by decide +kernel) ?_
          walk_at "st"
          refine k_ifF rfl ?_
          walk_at "st"
          refine ⟨rfl, some (.ref p), ?_⟩
          rw [hnx]
          show _ = [_, _, some (V.int (_ + (if k1 = k then a1 else 0))), _]
          rw [if_neg hk2, Int.add_zero]
          rfl
      · clear hx
        refine k_ifF (by decide +kernel) ?_
        walk_at "st"
        refine k_ifF rfl ?_
        walk_at "st"
        refine k_ixT sq at0 ?_
        walk_at "st"
        refine k_eq rfl ?_
        walk_at "st"
        refine k_ifT (by decide +kernel) ?_
        walk_at "st"
        refine k_ixT sq rfl ?_
        walk_at "st"
        refine k_eq rfl ?_
        walk_at "st"
        refine k_if2 (fun hb => ?_) (fun hb => ?_)
        · have hk : (k1 : Int) = k := V.int.inj (of_decide_eq_true hb)
          have hk2 : k1 = k := by omega
          walk_at "st"
          refine k_ixT sq rfl ?_
          walk_at "st"
          refine ⟨rfl, some (.ref p), ?_⟩
          rw [hnx]
          show _ = [_, _, some (V.int (_ + (if k1 = k then -a1 else 0))), _]
          rw [if_pos hk2, ← Int.sub_eq_add_neg]
          rfl
        · have hk2 : ¬ k1 = k := fun z => of_decide_eq_false hb (by rw [z])
          walk_at "st"
          refine ⟨rfl, some (.ref p), ?_⟩
          rw [hnx]
          show _ = [_, _, some (V.int (_ + (if k1 = k then -a1 else 0))), _]
          rw [if_neg hk2, Int.add_zero]
          rfl
      · have hz : d.net k = 0 := by rcases hc with ⟨_, rfl⟩ | ⟨_, rfl⟩ | rfl <;> rfl
        rw [hz, Int.add_zero] at hnx
        have h1 : decide (V.str wd = V.str "mint") = false := by rcases hw with rfl | rfl | rfl <;> decide +kernel
        have h2 : decide (V.str wd = V.str "burn") = false := by rcases hw with rfl | rfl | rfl <;> decide +kernel
        refine k_ifF h1 ?_
        walk_at "st"
        refine k_ifF rfl ?_
        walk_at "st"
        refine k_ixT sq at0 ?_
        walk_at "st"
        refine k_eq rfl ?_
        walk_at "st"
        refine k_ifF h2 ?_
        walk_at "st"
        refine k_ifF rfl ?_
        walk_at "st"
        refine ⟨rfl, some (.ref p), ?_⟩
        rw [hnx]
        rfl
    · obtain ⟨rfl, a, rfl⟩ := z
      walk_at "st"
      rw [hxd, List.take_length]
      exact q
theorem ok_law_net (Z : Zed w K mg) : Fn P w K mg base CX0 1 (He.ga K "_law_net") (spNet K) := by
  refine Fn.of0 (F_law_net Z) sc_law_net (fun _ _ _ _ _ _ us hl => match us, hl with | [_, _], _ => rfl) (fun vs H Q E h => ?_) (fun cdv A outer s H vs Q E hr h => ?_)
  · obtain ⟨g, m, kd, ds, sg, e, pd, psg, xd, xs, k, rfl, _⟩ := h
    rfl
  · obtain ⟨g, m, kd, ds, sg, e, pd, psg, xd, xs, k, rfl, hg, q⟩ := h
    obtain ⟨gx, hgx⟩ := hg.at_
    have hxd : xd.length = ds.length := by rw [hg.id_.length, List.length_map]
    refine ⟨_, (pss_cons (ps_set (i := 2) sc_law_net.nd rfl (Or.inl rfl) pe_int) (pss_cons (ps_for PassesOwn.never rfl (pi_tup (pe_fld (pv 0) rfl)) (pg_name (i := 3) sc_law_net.nd rfl (Or.inl rfl)) (pss_cons (ps_if (PW.pt (pw_and (pt_cmpR op_eq (pe_ix ix_tup (pv 3) pe_int (fun _ _ => rfl)) pe_str (nomark _)) (pw_and1 (pt_cmpR op_eq (pe_ix ix_tup (pv 3) pe_int (fun _ _ => rfl)) (pv 1) (nomark _))))) (pss_one (ps_set (i := 2) sc_law_net.nd rfl (Or.inl rfl) (pe_op op_add (pv 2) (pe_ix ix_tup (pv 3) pe_int (fun _ _ => rfl))))) pss_nil) (pss_one (ps_if (PW.pt (pw_and (pt_cmpR op_eq (pe_ix ix_tup (pv 3) pe_int (fun _ _ => rfl)) pe_str (nomark _)) (pw_and1 (pt_cmpR op_eq (pe_ix ix_tup (pv 3) pe_int (fun _ _ => rfl)) (pv 1) (nomark _))))) (pss_one (ps_set (i := 2) sc_law_net.nd rfl (Or.inl rfl) (pe_op op_sub (pv 2) (pe_ix ix_tup (pv 3) pe_int (fun _ _ => rfl))))) pss_nil)))) (pss_one (ps_ret (pv 2))))), ?_⟩
    walk_at "go"
    refine Z.f_deeds hgx ?_
    walk_at "st"
    refine kIT.mk hg.sd (kFor.go walk_tup (fun i σ H' => H' = H ∧ ∃ a, σ = [some (.ref g), some (.int (k : Nat)), some (.int (netL (ds.take i) k)), a]) ⟨rfl, _, rfl⟩ (fun i σ H' _ z => z.1 ▸ hg.sd) (fun i x σ H1 H2 hi z y => ?_) fun σ H1 z => ?_)
    · obtain ⟨rfl, a, rfl⟩ := z
      obtain ⟨rfl, hx⟩ := y
      obtain ⟨d, hdi, hd, is⟩ := isl_map hg.id_ hx
      have hnx := netL_next (k := k) hdi
      obtain ⟨p, wd, n, rest, rfl, sq, hnm, cs⟩ := deed_1 is
      walk_at "st"
      refine k_ixT sq at0 ?_
      walk_at "st"
      refine k_eq rfl ?_
      walk_at "st"
      rcases cs with ⟨o, k1, a1, rfl, rfl, rfl⟩ | ⟨g1, t1, a1, rfl, rfl⟩ | ⟨k1, a1, rfl, rfl, rfl⟩ | ⟨k1, a1, rfl, rfl, rfl⟩ | ⟨hw, hc⟩
      · clear hx
        refine k_ifF (by decide +kernel) ?_
        walk_at "st"
        refine k_ifF rfl ?_
        walk_at "st"
        refine k_ixT sq at0 ?_
        walk_at "st"
        refine k_eq rfl ?_
        walk_at "st"
        refine k_ifF (by decide +kernel) ?_
        walk_at "st"
        refine k_ifF rfl ?_
        walk_at "st"
        refine ⟨rfl, some (.ref p), ?_⟩
        rw [hnx]
        show _ = [_, _, some (V.int (_ + 0)), _]
        rw [Int.add_zero]
        rfl
      · clear hx
        refine k_ifF (by decide +kernel) ?_
        walk_at "st"
        refine k_ifF rfl ?_
        walk_at "st"
        refine k_ixT sq at0 ?_
        walk_at "st"
        refine k_eq rfl ?_
        walk_at "st"
        refine k_ifF (by decide +kernel) ?_
        walk_at "st"
        refine k_ifF rfl ?_
        walk_at "st"
        refine ⟨rfl, some (.ref p), ?_⟩
        rw [hnx]
        show _ = [_, _, some (V.int (_ + 0)), _]
        rw [Int.add_zero]
        rfl
      · clear hx
        refine k_ifT (by decide +kernel) ?_
        walk_at "st"
        refine k_ixT sq rfl ?_
        walk_at "st"
        refine k_eq rfl ?_
        walk_at "st"
        refine k_if2 (fun hb => ?_) (fun hb => ?_)
        · have hk : (k1 : Int) = k := V.int.inj (of_decide_eq_true hb)
          have hk2 : k1 = k := by omega
          walk_at "st"
          refine k_ixT sq rfl ?_
          walk_at "st"
          refine k_ixT sq rfl ?_
          walk_at "st"
          refine k_eq rfl ?_
          walk_at "st"
          refine k_ifF (by decide +kernel) ?_
          walk_at "st"
          refine k_ifF rfl ?_
          walk_at "st"
          refine ⟨rfl, some (.ref p), ?_⟩
          rw [hnx]
          show _ = [_, _, some (V.int (_ + (if k1 = k then a1 else 0))), _]
          rw [if_pos hk2]
          rfl
        · have hk2 : ¬ k1 = k := fun z => of_decide_eq_false hb (by rw [z])
          walk_at "st"
          refine k_ixT sq rfl ?_
          walk_at "st"
          refine k_eq rfl ?_
          walk_at "st"
          refine k_ifF (by decide +kernel) ?_
          walk_at "st"
          refine k_ifF rfl ?_
          walk_at "st"
          refine ⟨rfl, some (.ref p), ?_⟩
          rw [hnx]
          show _ = [_, _, some (V.int (_ + (if k1 = k then a1 else 0))), _]
          rw [if_neg hk2, Int.add_zero]
          rfl
      · clear hx
        refine k_ifF (by decide +kernel) ?_
        walk_at "st"
        refine k_ifF rfl ?_
        walk_at "st"
        refine k_ixT sq at0 ?_
        walk_at "st"
        refine k_eq rfl ?_
        walk_at "st"
        refine k_ifT (by decide +kernel) ?_
        walk_at "st"
        refine k_ixT sq rfl ?_
        walk_at "st"
        refine k_eq rfl ?_
        walk_at "st"
        refine k_if2 (fun hb => ?_) (fun hb => ?_)
        · have hk : (k1 : Int) = k := V.int.inj (of_decide_eq_true hb)
          have hk2 : k1 = k := by omega
          walk_at "st"
          refine k_ixT sq rfl ?_
          walk_at "st"
          refine ⟨rfl, some (.ref p), ?_⟩
          rw [hnx]
          show _ = [_, _, some (V.int (_ + (if k1 = k then -a1 else 0))), _]
          rw [if_pos hk2, ← Int.sub_eq_add_neg]
          rfl
        · have hk2 : ¬ k1 = k := fun z => of_decide_eq_false hb (by rw [z])
          walk_at "st"
          refine ⟨rfl, some (.ref p), ?_⟩
          rw [hnx]
          show _ = [_, _, some (V.int (_ + (if k1 = k then -a1 else 0))), _]
          rw [if_neg hk2, Int.add_zero]
          rfl
      · have hz : d.net k = 0 := by rcases hc with ⟨_, rfl⟩ | ⟨_, rfl⟩ | rfl <;> rfl
        rw [hz, Int.add_zero] at hnx
        have h1 : decide (V.str wd = V.str "mint") = false := by rcases hw with rfl | rfl | rfl <;> decide +kernel
        have h2 : decide (V.str wd = V.str "burn") = false := by rcases hw with rfl | rfl | rfl <;> decide +kernel
        refine k_ifF h1 ?_
        walk_at "st"
        refine k_ifF rfl ?_
        walk_at "st"
        refine k_ixT sq at0 ?_
        walk_at "st"
        refine k_eq rfl ?_
        walk_at "st"
        refine k_ifF h2 ?_
        walk_at "st"
        refine k_ifF rfl ?_
        walk_at "st"
        refine ⟨rfl, some (.ref p), ?_⟩
        rw [hnx]
        rfl
    · obtain ⟨rfl, a, rfl⟩ := z
      walk_at "st"
      rw [hxd, List.take_length]
      exact q
end G
end
section
set_option Elab.async false
set_option linter.all false
set_option maxRecDepth 100000
set_option maxHeartbeats 1000000
namespace G
open PySem PySem.Spec PyProof.Rows L2
local macro_rules | `(tactic| walk_at "st") => `(tactic| repeat (first
  | with_reducible refine k_seq ?_
  | with_reducible refine k_asg ?_
  | with_reducible refine k_gn ?_
  | with_reducible refine k_op ?_
  | ((with_reducible refine' k_var ?vh ?_); (case vh => rfl))
  | with_reducible refine k_c ?_
  | with_reducible refine k_cons ?_
  | with_reducible refine k_nil ?_
  | with_reducible refine k_I0 ?_
  | with_reducible refine k_ret ?_
  | with_reducible refine k_if ?_
  | with_reducible refine k_test ?_
  | with_reducible refine k_bl ?_
  | with_reducible refine k_cb ?_
  | with_reducible refine k_cl ?_
  | with_reducible refine k_int ?_
  | with_reducible refine k_tup ?_
  | with_reducible refine k_lst ?_
  | with_reducible refine k_fld ?_
  | with_reducible refine k_mt ?_
  | with_reducible refine k_for ?_
  | with_reducible refine k_iL ?_
  | with_reducible refine k_iT ?_
  | with_reducible refine k_iR1 ?_
  | with_reducible refine k_iS ?_
  | with_reducible refine k_par ?_
  | with_reducible refine k_ex2 ?_
  | with_reducible refine k_rfl2 ?_
  | with_reducible refine k_iZA ?_
  | with_reducible refine k_gcons ?_
  | with_reducible refine k_gnil ?_
  | with_reducible refine k_exI ?_
  | with_reducible refine k_bits ?_
  | with_reducible refine k_chain ?_
  | ((with_reducible refine' k_aug ?vh ?_); (case vh => rfl))
  | with_reducible refine k_ipI ?_
  | with_reducible refine k_inG ?_
  | with_reducible refine k_m1 ?_
  | with_reducible refine kM1.mk ?_
  | with_reducible refine k_yes ?_
  | with_reducible refine k_lc ?_
  | with_reducible refine k_andV ?_
  | with_reducible refine k_orV ?_
  | with_reducible refine k_tB ?_
  | with_reducible refine k_and ?_
  | with_reducible refine k_or ?_
  | with_reducible refine k_not ?_
  | with_reducible refine k_retN ?_
  | with_reducible refine k_next ?_
  | with_reducible refine k_fset ?_
  | with_reducible refine k_faug ?_
  | with_reducible refine k_sl ?_
  | with_reducible refine k_part ?_
  | with_reducible refine k_nopart ?_
  | with_reducible refine k_un ?_
  | with_reducible refine k_u1 ?_
  | with_reducible refine k_dget ?_
  | with_reducible refine k_din ?_
  | with_reducible refine k_dnin ?_
  | with_reducible refine k_dput ?_
  | with_reducible refine k_dget2 ?_
  | with_reducible refine k_bm ?_
  | with_reducible refine k_augs ?_
  | with_reducible refine k_gsub ?_
  | with_reducible refine k_enT ?_
  | with_reducible refine k_anyI ?_
  | with_reducible refine k_allI ?_
  | with_reducible refine k_lenX ?_
  | with_reducible refine k_sortX ?_
  | with_reducible refine k_drop ?_))
local macro_rules | `(tactic| walk_at "go") => `(tactic| ((try dsimp only [cxOf]); walk_at "st"))
local macro_rules | `(tactic| walk_at "len") => `(tactic| (simp only [List.length_append, List.length_map, List.length_cons, List.length_nil, List.length_replicate] at *; omega))

variable {P : Program} {w : World} {K : PySem.W.Frag} {mg : Str → Option Value} {base : Heap}
/-! ### accounts' trees -/
structure AcL (kd : Nat) (l : Leaf) : Prop where
  nm : (l.n, l.k) ∈ nmA
  len : l.ws.length = kd
  ws : ∀ x ∈ l.ws, 0 ≤ x ∧ x ≤ 1000000000000
  ns : NtL kd l.ns
def AcO (kd : Nat) (o : Option Tree) : Prop := ∀ t, o = some t → Wf Nm t ∧ ∀ l ∈ t.lvs, AcL kd l
theorem AcO.wfo {kd : Nat} {o : Option Tree} (h : AcO kd o) : WfO o := fun t e => (h t e).1
theorem AcL.nmT {kd : Nat} {l : Leaf} (h : AcL kd l) (hk : kd ≤ 3) : Nm l := ⟨nmA_L (n := (l.n, l.k)) h.nm, by rw [h.len]; exact hk, by obtain ⟨_, _, _, _, _, _, _, _, e, _⟩ := h.ns; rw [e]; exact Nat.le_refl 8⟩
def wAt (k : Nat) (l : Leaf) : Int := l.ws.getD k 0
/-- the sum of a kind -/
def tot (o : Option Tree) (k : Nat) : Int := sm (wAt k) (lvsO o)
theorem AcO.put {kd : Nat} {o : Option Tree} {L : Leaf} {t' : Tree} (h : AcO kd o) (hL : AcL kd L) (hk : kd ≤ 3) (hp : PutO o L t') : AcO kd (some t') := by
  intro t e
  cases e
  cases o with
  | none =>
    obtain rfl : t' = .leaf L := hp
    exact ⟨.leaf (hL.nmT hk), fun l hl => by rw [List.mem_singleton.mp hl]; exact hL⟩
  | some t =>
    have hq : Put Nm t L t' := hp
    refine ⟨hq.wf, fun l hl => ?_⟩
    rcases List.mem_cons.mp (hq.lvs.mem_iff.mp hl) with z | z
    · rw [z]
      exact hL
    · exact (h t rfl).2 l (List.mem_filter.mp z).1
theorem uniq_leaf {t : Tree} (hw : Wf Nm t) {x y : Leaf} (hx : x ∈ t.lvs) (hy : y ∈ t.lvs) (e : x.k = y.k) : x = y := by
  have nd := hw.nodup
  clear hw
  generalize t.lvs = l at nd hx hy
  induction l with
  | nil => cases hx
  | cons z l ih =>
    obtain ⟨n1, n2⟩ := List.pairwise_cons.mp nd
    rcases List.mem_cons.mp hx with a | a
    · rcases List.mem_cons.mp hy with b | b
      · rw [a, b]
      · exact absurd (a ▸ e) (n1 y b)
    · rcases List.mem_cons.mp hy with b | b
      · exact absurd (b ▸ e).symm (n1 x a)
      · exact ih n2 a b
/-! ### Doing -/
abbrev doF (s r : Addr) (e : Int) (tv : V) (g : Addr) (pl : Int) (a1 a2 a3 : Addr) : List (Str × V) :=
  [("sealer", .ref s), ("rules", .ref r), ("epoch", .int e), ("tree", tv), ("group", .ref g), ("place", .int pl), ("signed", .ref a1), ("terms", .ref a2), ("given", .ref a3)]
/-- what stays while a Doing lives -/
structure DoX where
  s : Addr
  r : Addr
  m : Int
  kd : Nat
  fee : Int
  rd : Addr
  kvs : List (List Key × V)
  e : Int
  g : Addr
  p : Addr
  dx : Addr
  a1 : Addr
  a2 : Addr
  a3 : Addr
def DoX.S (X : DoX) : Addr → Prop := fun a => a = X.p ∨ a = X.a1 ∨ a = X.a2 ∨ a = X.a3
def SgK (sg : List (Key × V)) : Prop := ∀ k v, valV sg k = some v → ∃ n : Int, v = .int n
def TmK (K : PySem.W.Frag) (H : Hp) (kd : Nat) (tm : List (Key × V)) : Prop := ∀ k v, valV tm k = some v → ∃ ns, Is K H v (dI ns) ∧ NtL kd ns
def GvK (gv : List (List Key × V)) : Prop := ∀ k v, valV gv k = some v → ∃ n : Int, v = .int n
/-- a Doing: its tree o, its place; its dicts hold at most b things -/
structure DoA (K : PySem.W.Frag) (X : DoX) (H : Hp) (o : Option Tree) (pl : Int) (b : Nat) (tv : V) (sg tm : List (Key × V)) (gv : List (List Key × V)) : Prop where
  at_ : H X.p = some (.ins (He.ga K "Doing") X.dx (doF X.s X.r X.e tv X.g pl X.a1 X.a2 X.a3))
  is : Is K H tv (optD o)
  ac : AcO X.kd o
  d1 : H X.a1 = some (.dK sg)
  d2 : H X.a2 = some (.dK tm)
  d3 : H X.a3 = some (.dT gv)
  sgk : SgK sg
  tmk : TmK K H X.kd tm
  gvk : GvK gv
  l1 : sg.length ≤ b
  l2 : tm.length ≤ b
  l3 : gv.length ≤ b
  ne : X.a1 ≠ X.a2
  se : SeA K H X.s X.m
  ru : RuA K H X.r X.kd X.fee X.rd X.kvs
  t3 : T3 K H
  nS : ¬ X.S X.s ∧ ¬ X.S X.r ∧ ¬ X.S X.rd
def DoE (K : PySem.W.Frag) (X : DoX) (H : Hp) (o : Option Tree) (pl : Int) (b : Nat) : Prop := ∃ tv sg tm gv, DoA K X H o pl b tv sg tm gv
/-- what is wished of a refusal -/
def Ref (K : PySem.W.Frag) (X : DoX) (H : Hp) (E : XK) : Prop := ∀ (pl : Int) (wd : Str) (d : Addr) (H' : Hp), wd ≠ "" → Lx X.S H H' → H' d = some (.xd (grF (.int pl) (.str wd))) → E (.ref (He.ga K "GroupRefused")) (some d) H'
theorem Ref.mono {X : DoX} {H H1 : Hp} {E : XK} (h : Ref K X H E) (x : Lx X.S H H1) : Ref K X H1 E := fun pl wd d H' hw y e => h pl wd d H' hw (x.trans y) e
section
variable {X : DoX} {H H' : Hp} {o : Option Tree} {pl : Int} {b : Nat} {tv : V} {sg tm : List (Key × V)} {gv : List (List Key × V)}
theorem TmK.lx {S : Addr → Prop} {kd : Nat} (h : TmK K H kd tm) (x : Lx S H H') : TmK K H' kd tm := fun k v e => by
  obtain ⟨ns, i, n⟩ := h k v e
  exact ⟨ns, i.lx x, n⟩
theorem DoA.le (h : DoA K X H o pl b tv sg tm gv) (x : Le H H') : DoA K X H' o pl b tv sg tm gv :=
  ⟨x.get h.at_, h.is.lx x, h.ac, x.get h.d1, x.get h.d2, x.get h.d3, h.sgk, h.tmk.lx x, h.gvk, h.l1, h.l2, h.l3, h.ne, h.se.le x, h.ru.le x, h.t3.lx x, h.nS⟩
theorem SeA.lx {S : Addr → Prop} {s : Addr} {m : Int} (h : SeA K H s m) (x : Lx S H H') (n : ¬ S s) : SeA K H' s m := ⟨let ⟨dx, q⟩ := h.1; ⟨dx, x.at q (fun z => (n z).elim)⟩, h.2⟩
theorem RuA.lx {S : Addr → Prop} {r rd : Addr} {kd : Nat} {fee : Int} {kvs : List (List Key × V)} (h : RuA K H r kd fee rd kvs) (x : Lx S H H') (n1 : ¬ S r) (n2 : ¬ S rd) : RuA K H' r kd fee rd kvs :=
  ⟨let ⟨dx, q⟩ := h.at_; ⟨dx, x.at q (fun z => (n1 z).elim)⟩, x.at h.rts (fun z => (n2 z).elim), h.ok.lx x, h.kd1, h.kd3, h.fee0, h.fee1⟩
theorem DoA.mono (h : DoA K X H o pl b tv sg tm gv) {c : Nat} (hb : b ≤ c) : DoA K X H o pl c tv sg tm gv := { h with l1 := Nat.le_trans h.l1 hb, l2 := Nat.le_trans h.l2 hb, l3 := Nat.le_trans h.l3 hb }
/-- a new tree -/
theorem DoA.tree (h : DoA K X H o pl b tv sg tm gv) {o2 : Option Tree} {t2 : V} (hi : Is K H t2 (optD o2)) (ha : AcO X.kd o2) : Lx X.S H (upd H X.p (.ins (He.ga K "Doing") X.dx (doF X.s X.r X.e t2 X.g pl X.a1 X.a2 X.a3))) ∧
    DoA K X (upd H X.p (.ins (He.ga K "Doing") X.dx (doF X.s X.r X.e t2 X.g pl X.a1 X.a2 X.a3))) o2 pl b t2 sg tm gv := by
  have x : Lx X.S H (upd H X.p (.ins (He.ga K "Doing") X.dx (doF X.s X.r X.e t2 X.g pl X.a1 X.a2 X.a3))) := Lx.wr (.inl rfl) h.at_ (fun z => z) (by intro ps z; cases z)
  refine ⟨x, upd_same, hi.lx x, ha, ?_, ?_, ?_, h.sgk, h.tmk.lx x, h.gvk, h.l1, h.l2, h.l3, h.ne, h.se.lx x h.nS.1, h.ru.lx x h.nS.2.1 h.nS.2.2, h.t3.lx x, h.nS⟩
  · rw [upd_ne (ne_of h.d1 h.at_ (fun z => by cases z))]
    exact h.d1
  · rw [upd_ne (ne_of h.d2 h.at_ (fun z => by cases z))]
    exact h.d2
  · rw [upd_ne (ne_of h.d3 h.at_ (fun z => by cases z))]
    exact h.d3
theorem DoA.place (h : DoA K X H o pl b tv sg tm gv) (pl2 : Int) : Lx X.S H (upd H X.p (.ins (He.ga K "Doing") X.dx (doF X.s X.r X.e tv X.g pl2 X.a1 X.a2 X.a3))) ∧
    DoA K X (upd H X.p (.ins (He.ga K "Doing") X.dx (doF X.s X.r X.e tv X.g pl2 X.a1 X.a2 X.a3))) o pl2 b tv sg tm gv := by
  have x : Lx X.S H (upd H X.p (.ins (He.ga K "Doing") X.dx (doF X.s X.r X.e tv X.g pl2 X.a1 X.a2 X.a3))) := Lx.wr (.inl rfl) h.at_ (fun z => z) (by intro ps z; cases z)
  refine ⟨x, upd_same, h.is.lx x, h.ac, ?_, ?_, ?_, h.sgk, h.tmk.lx x, h.gvk, h.l1, h.l2, h.l3, h.ne, h.se.lx x h.nS.1, h.ru.lx x h.nS.2.1 h.nS.2.2, h.t3.lx x, h.nS⟩
  · rw [upd_ne (ne_of h.d1 h.at_ (fun z => by cases z))]
    exact h.d1
  · rw [upd_ne (ne_of h.d2 h.at_ (fun z => by cases z))]
    exact h.d2
  · rw [upd_ne (ne_of h.d3 h.at_ (fun z => by cases z))]
    exact h.d3
/-- an entry of signed -/
theorem DoA.signed (h : DoA K X H o pl b tv sg tm gv) (k : Key) (n : Int) : Lx X.S H (upd H X.a1 (.dK (putK sg k (.int n)))) ∧ DoA K X (upd H X.a1 (.dK (putK sg k (.int n)))) o pl (b + 1) tv (putK sg k (.int n)) tm gv := by
  have x : Lx X.S H (upd H X.a1 (.dK (putK sg k (.int n)))) := Lx.wr (.inr (.inl rfl)) h.d1 (fun z => z) (by intro ps z; cases z)
  have lp := length_putK sg k (.int n)
  have := h.l1
  have := h.l2
  have := h.l3
  refine ⟨x, ?_, h.is.lx x, h.ac, upd_same, ?_, ?_, fun j v e => ?_, h.tmk.lx x, h.gvk, by omega, by omega, by omega, h.ne, h.se.lx x h.nS.1, h.ru.lx x h.nS.2.1 h.nS.2.2, h.t3.lx x, h.nS⟩
  · rw [upd_ne (ne_of h.at_ h.d1 (fun z => by cases z))]
    exact h.at_
  · rw [upd_ne h.ne.symm]
    exact h.d2
  · rw [upd_ne (ne_of h.d3 h.d1 (fun z => by cases z))]
    exact h.d3
  · rw [valV_put] at e
    split at e
    · cases e
      exact ⟨n, rfl⟩
    · exact h.sgk j v e
/-- an entry of terms -/
theorem DoA.terms (h : DoA K X H o pl b tv sg tm gv) (k : Key) {v : V} {ns : List Int} (hv : Is K H v (dI ns)) (hn : NtL X.kd ns) : Lx X.S H (upd H X.a2 (.dK (putK tm k v))) ∧ DoA K X (upd H X.a2 (.dK (putK tm k v))) o pl (b + 1) tv sg (putK tm k v) gv := by
  have x : Lx X.S H (upd H X.a2 (.dK (putK tm k v))) := Lx.wr (.inr (.inr (.inl rfl))) h.d2 (fun z => z) (by intro ps z; cases z)
  have lp := length_putK tm k v
  have := h.l1
  have := h.l2
  have := h.l3
  refine ⟨x, ?_, h.is.lx x, h.ac, ?_, upd_same, ?_, h.sgk, fun j u e => ?_, h.gvk, by omega, by omega, by omega, h.ne, h.se.lx x h.nS.1, h.ru.lx x h.nS.2.1 h.nS.2.2, h.t3.lx x, h.nS⟩
  · rw [upd_ne (ne_of h.at_ h.d2 (fun z => by cases z))]
    exact h.at_
  · rw [upd_ne h.ne]
    exact h.d1
  · rw [upd_ne (ne_of h.d3 h.d2 (fun z => by cases z))]
    exact h.d3
  · rw [valV_put] at e
    split at e
    · cases e
      exact ⟨ns, hv.lx x, hn⟩
    · exact (h.tmk.lx x) j u e
/-- an entry of given -/
theorem DoA.given (h : DoA K X H o pl b tv sg tm gv) (k : List Key) (n : Int) : Lx X.S H (upd H X.a3 (.dT (putK gv k (.int n)))) ∧ DoA K X (upd H X.a3 (.dT (putK gv k (.int n)))) o pl (b + 1) tv sg tm (putK gv k (.int n)) := by
  have x : Lx X.S H (upd H X.a3 (.dT (putK gv k (.int n)))) := Lx.wr (.inr (.inr (.inr rfl))) h.d3 (fun z => z) (by intro ps z; cases z)
  have lp := length_putK gv k (.int n)
  have := h.l1
  have := h.l2
  have := h.l3
  refine ⟨x, ?_, h.is.lx x, h.ac, ?_, ?_, upd_same, h.sgk, h.tmk.lx x, fun j v e => ?_, by omega, by omega, by omega, h.ne, h.se.lx x h.nS.1, h.ru.lx x h.nS.2.1 h.nS.2.2, h.t3.lx x, h.nS⟩
  · rw [upd_ne (ne_of h.at_ h.d3 (fun z => by cases z))]
    exact h.at_
  · rw [upd_ne (ne_of h.d1 h.d3 (fun z => by cases z))]
    exact h.d1
  · rw [upd_ne (ne_of h.d2 h.d3 (fun z => by cases z))]
    exact h.d2
  · rw [valV_put] at e
    split at e
    · cases e
      exact ⟨n, rfl⟩
    · exact h.gvk j v e
end
section
variable {H : Hp} {Q : VK} {p dx s r g a1 a2 a3 : Addr} {e pl : Int} {tv : V}
theorem Zed.f_d_sealer (Z : Zed w K mg) (h : H p = some (.ins (He.ga K "Doing") dx (doF s r e tv g pl a1 a2 a3))) (q : Q (.ref s) H) : kFld K "sealer" Q (.ref p) H := kFld.mk h Z.c_Doing Z.a_Doing_sealer (by kernel_rfl) q
theorem Zed.f_d_rules (Z : Zed w K mg) (h : H p = some (.ins (He.ga K "Doing") dx (doF s r e tv g pl a1 a2 a3))) (q : Q (.ref r) H) : kFld K "rules" Q (.ref p) H := kFld.mk h Z.c_Doing Z.a_Doing_rules (by kernel_rfl) q
theorem Zed.f_d_epoch (Z : Zed w K mg) (h : H p = some (.ins (He.ga K "Doing") dx (doF s r e tv g pl a1 a2 a3))) (q : Q (.int e) H) : kFld K "epoch" Q (.ref p) H := kFld.mk h Z.c_Doing Z.a_Doing_epoch (by kernel_rfl) q
theorem Zed.f_d_tree (Z : Zed w K mg) (h : H p = some (.ins (He.ga K "Doing") dx (doF s r e tv g pl a1 a2 a3))) (q : Q tv H) : kFld K "tree" Q (.ref p) H := kFld.mk h Z.c_Doing Z.a_Doing_tree (by kernel_rfl) q
theorem Zed.f_d_group (Z : Zed w K mg) (h : H p = some (.ins (He.ga K "Doing") dx (doF s r e tv g pl a1 a2 a3))) (q : Q (.ref g) H) : kFld K "group" Q (.ref p) H := kFld.mk h Z.c_Doing Z.a_Doing_group (by kernel_rfl) q
theorem Zed.f_d_place (Z : Zed w K mg) (h : H p = some (.ins (He.ga K "Doing") dx (doF s r e tv g pl a1 a2 a3))) (q : Q (.int pl) H) : kFld K "place" Q (.ref p) H := kFld.mk h Z.c_Doing Z.a_Doing_place (by kernel_rfl) q
theorem Zed.f_d_signed (Z : Zed w K mg) (h : H p = some (.ins (He.ga K "Doing") dx (doF s r e tv g pl a1 a2 a3))) (q : Q (.ref a1) H) : kFld K "signed" Q (.ref p) H := kFld.mk h Z.c_Doing Z.a_Doing_signed (by kernel_rfl) q
theorem Zed.f_d_terms (Z : Zed w K mg) (h : H p = some (.ins (He.ga K "Doing") dx (doF s r e tv g pl a1 a2 a3))) (q : Q (.ref a2) H) : kFld K "terms" Q (.ref p) H := kFld.mk h Z.c_Doing Z.a_Doing_terms (by kernel_rfl) q
theorem Zed.f_d_given (Z : Zed w K mg) (h : H p = some (.ins (He.ga K "Doing") dx (doF s r e tv g pl a1 a2 a3))) (q : Q (.ref a3) H) : kFld K "given" Q (.ref p) H := kFld.mk h Z.c_Doing Z.a_Doing_given (by kernel_rfl) q
end
end G
end
section
set_option Elab.async false
set_option linter.all false
set_option maxRecDepth 100000
set_option maxHeartbeats 1000000
namespace G
open PySem PySem.Spec PyProof.Rows L2
local macro_rules | `(tactic| walk_at "st") => `(tactic| repeat (first
  | with_reducible refine k_seq ?_
  | with_reducible refine k_asg ?_
  | with_reducible refine k_gn ?_
  | with_reducible refine k_op ?_
  | ((with_reducible refine' k_var ?vh ?_); (case vh => rfl))
  | with_reducible refine k_c ?_
  | with_reducible refine k_cons ?_
  | with_reducible refine k_nil ?_
  | with_reducible refine k_I0 ?_
  | with_reducible refine k_ret ?_
  | with_reducible refine k_if ?_
  | with_reducible refine k_test ?_
  | with_reducible refine k_bl ?_
  | with_reducible refine k_cb ?_
  | with_reducible refine k_cl ?_
  | with_reducible refine k_int ?_
  | with_reducible refine k_tup ?_
  | with_reducible refine k_lst ?_
  | with_reducible refine k_fld ?_
  | with_reducible refine k_mt ?_
  | with_reducible refine k_for ?_
  | with_reducible refine k_iL ?_
  | with_reducible refine k_iT ?_
  | with_reducible refine k_iR1 ?_
  | with_reducible refine k_iS ?_
  | with_reducible refine k_par ?_
  | with_reducible refine k_ex2 ?_
  | with_reducible refine k_rfl2 ?_
  | with_reducible refine k_iZA ?_
  | with_reducible refine k_gcons ?_
  | with_reducible refine k_gnil ?_
  | with_reducible refine k_exI ?_
  | with_reducible refine k_bits ?_
  | with_reducible refine k_chain ?_
  | ((with_reducible refine' k_aug ?vh ?_); (case vh => rfl))
  | with_reducible refine k_ipI ?_
  | with_reducible refine k_inG ?_
  | with_reducible refine k_m1 ?_
  | with_reducible refine kM1.mk ?_
  | with_reducible refine k_yes ?_
  | with_reducible refine k_lc ?_
  | with_reducible refine k_andV ?_
  | with_reducible refine k_orV ?_
  | with_reducible refine k_tB ?_
  | with_reducible refine k_and ?_
  | with_reducible refine k_or ?_
  | with_reducible refine k_not ?_
  | with_reducible refine k_retN ?_
  | with_reducible refine k_next ?_
  | with_reducible refine k_fset ?_
  | with_reducible refine k_faug ?_
  | with_reducible refine k_sl ?_
  | with_reducible refine k_part ?_
  | with_reducible refine k_nopart ?_
  | with_reducible refine k_un ?_
  | with_reducible refine k_u1 ?_
  | with_reducible refine k_dget ?_
  | with_reducible refine k_din ?_
  | with_reducible refine k_dnin ?_
  | with_reducible refine k_dput ?_
  | with_reducible refine k_dget2 ?_
  | with_reducible refine k_bm ?_
  | with_reducible refine k_augs ?_
  | with_reducible refine k_gsub ?_
  | with_reducible refine k_enT ?_
  | with_reducible refine k_anyI ?_
  | with_reducible refine k_allI ?_
  | with_reducible refine k_lenX ?_
  | with_reducible refine k_sortX ?_
  | with_reducible refine k_drop ?_))
local macro_rules | `(tactic| walk_at "go") => `(tactic| ((try dsimp only [cxOf]); walk_at "st"))
local macro_rules | `(tactic| walk_at "len") => `(tactic| (simp only [List.length_append, List.length_map, List.length_cons, List.length_nil, List.length_replicate] at *; omega))

variable {P : Program} {w : World} {K : PySem.W.Frag} {mg : Str → Option Value} {base : Heap}
theorem k_raise {C : Addr} {W : WX} {ta : TA} {D : Ends} {σ : L2.St} {H : Hp} (h : ta σ H fun vs H1 => ∃ a b, vs = [a, b] ∧ ∀ d, H1 d = none → W (.ref C) (some d) σ (upd H1 d (.xd (grF a b)))) : tRaiseGr C W ta D σ H := h
def spRefuse (K : PySem.W.Frag) : Sp := fun vs H Q E => ∃ (X : DoX) (o : Option Tree) (pl : Int) (b : Nat) (wd : Str), vs = [.ref X.p, .str wd] ∧ DoE K X H o pl b ∧ wd ≠ "" ∧ Ref K X H E
theorem ok_Doing_refuse [Pz P] (Z : Zed w K mg) : Fn P w K mg base (L2.CX P w) 2 (He.ma K (He.ga K "Doing") "refuse") (spRefuse K) := by
  refine Fn.ofX (F_Doing_refuse Z) sc_Doing_refuse (fun _ _ _ _ _ _ us hl => match us, hl with | [_, _], _ => rfl) (fun vs H Q E h => ?_) (fun cdv A outer s H vs Q E hr h => ?_)
  · obtain ⟨X, o, pl, b, wd, rfl, _⟩ := h
    rfl
  · obtain ⟨X, o, pl, b, wd, rfl, ⟨tv, sg, tm, gv, hd⟩, hw, hE⟩ := h
    refine ⟨_, (pss_one (ps_raiseGr ‹Pz P› rfl Z.gr hr (takes_of rfl rfl rfl rfl) (pa_cons (pe_fld (pv 0) rfl) (pa_cons (pv 1) pa_nil)) Z.g_GroupRefused Z.n_super)), ?_⟩
    dsimp only [cxOf]
    refine k_raise ?_
    walk_at "st"
    refine Z.f_d_place hd.at_ ?_
    walk_at "st"
    exact fun d n => hE pl wd d _ hw (Le.new n).of upd_same
def spAccount (K : PySem.W.Frag) : Sp := fun vs H Q E => ∃ (X : DoX) (o : Option Tree) (pl : Int) (b : Nat) (n : Str) (k : Nat), vs = [.ref X.p, .str n] ∧ DoE K X H o pl b ∧ (n, k) ∈ nmL ∧ Ref K X H E ∧
  ∀ (L : Leaf) (r : V) (t : Tree), o = some t → L ∈ t.lvs → L.k = k → Is K H r (leafD L) → Q r H
theorem ok_Doing_account [Pz P] (Z : Zed w K mg) : Fn P w K mg base (L2.CX P w) 5 (He.ma K (He.ga K "Doing") "account") (spAccount K) := by
  have O_Doing_refuse := ok_Doing_refuse (P := P) (base := base) Z
  have O_get := ok_get (P := P) (base := base) Z
  refine Fn.ofX (F_Doing_account Z) sc_Doing_account (fun _ _ _ _ _ _ us hl => match us, hl with | [_, _], _ => rfl) (fun vs H Q E h => ?_) (fun cdv A outer s H vs Q E hr h => ?_)
  · obtain ⟨X, o, pl, b, n, k, rfl, _⟩ := h
    rfl
  · obtain ⟨X, o, pl, b, n, k, rfl, ⟨tv, sg, tm, gv, hd⟩, hn, hE, q⟩ := h
    refine ⟨_, (pss_cons (ps_set (i := 2) sc_Doing_account.nd rfl (Or.inl rfl) (pe_f O_get hr (by decide) Z.g_get pass0 (pa_cons (pe_fld (pv 0) rfl) (pa_cons (pv 1) pa_nil)))) (pss_cons (ps_if (pt_cmpR op_isN (pv 2) pe_non (nomark _)) (pss_one (ps_expr (pe_m Z.c_Doing Z.t_Doing_refuse O_Doing_refuse hr (by decide) passX (pv 0) (pa_cons pe_str pa_nil)))) pss_nil) (pss_one (ps_ret (pv 2))))), ?_⟩
    walk_at "go"
    refine Z.f_d_tree hd.at_ ?_
    walk_at "st"
    refine ⟨tv, n, k, o, rfl, hd.is, hd.ac.wfo, hn, fun _ => ?_, fun L r t ho hL hk hr1 => ?_⟩
    · walk_at "st"
      refine k_ifT rfl ?_
      walk_at "st"
      refine kMt.mk hd.at_ (by kernel_rfl) ?_
      walk_at "st"
      exact ⟨X, o, pl, b, "unknown", rfl, ⟨tv, sg, tm, gv, hd⟩, by decide +kernel, hE⟩
    · walk_at "st"
      refine k_ifF (tr_some (t := .leaf L) (by rw [leaf_tr]; exact hr1)) ?_
      walk_at "st"
      exact q L r t ho hL hk hr1
def spBefore (K : PySem.W.Frag) : Sp := fun vs H Q E => ∃ (X : DoX) (o : Option Tree) (pl : Int) (b : Nat) (n : Str) (k : Nat), vs = [.ref X.p, .str n] ∧ DoE K X H o pl b ∧ (n, k) ∈ nmL ∧ Ref K X H E ∧ ∀ v ns, Is K H v (dI ns) → NtL X.kd ns → Q v H
theorem ok_Doing_notes_before [Pz P] (Z : Zed w K mg) : Fn P w K mg base (L2.CX P w) 6 (He.ma K (He.ga K "Doing") "notes_before") (spBefore K) := by
  have O_Doing_account := ok_Doing_account (P := P) (base := base) Z
  refine Fn.ofX (F_Doing_notes_before Z) sc_Doing_notes_before (fun _ _ _ _ _ _ us hl => match us, hl with | [_, _], _ => rfl) (fun vs H Q E h => ?_) (fun cdv A outer s H vs Q E hr h => ?_)
  · obtain ⟨X, o, pl, b, n, k, rfl, _⟩ := h
    rfl
  · obtain ⟨X, o, pl, b, n, k, rfl, ⟨tv, sg, tm, gv, hd⟩, hn, hE, q⟩ := h
    refine ⟨_, (pss_cons (ps_if (pt_cmp (pc_din (hu_of hr) (pv 1) (pe_fld (pv 0) rfl)) (by rfl)) (pss_one (ps_ret (pe_dget (hu_of hr) (pe_fld (pv 0) rfl) (pv 1) (fun _ _ => rfl)))) pss_nil) (pss_one (ps_ret (pe_ix ix_tup (pe_m Z.c_Doing Z.t_Doing_account O_Doing_account hr (by decide) passX (pv 0) (pa_cons (pv 1) pa_nil)) pe_int (fun _ _ => rfl))))), ?_⟩
    walk_at "go"
    refine Z.f_d_terms hd.at_ ?_
    walk_at "st"
    refine kDIn.s hd.d2 ?_
    walk_at "st"
    cases hv : valV tm (.inr n) with
    | some v =>
      refine k_ifT rfl ?_
      walk_at "st"
      refine Z.f_d_terms hd.at_ ?_
      walk_at "st"
      obtain ⟨ns, i, hn2⟩ := hd.tmk _ v hv
      refine kDG.s hd.d2 hv ?_
      exact q v ns i hn2
    | none =>
      refine k_ifF rfl ?_
      walk_at "st"
      refine kMt.mk hd.at_ (by kernel_rfl) ?_
      walk_at "st"
      refine ⟨X, o, pl, b, n, k, rfl, ⟨tv, sg, tm, gv, hd⟩, hn, hE, fun L r t ho hL hk hr1 => ?_⟩
      obtain ⟨p, q1, r1, rfl, s1, s2, s3⟩ := leaf_inv hr1
      walk_at "st"
      refine k_ixT s1 rfl ?_
      walk_at "st"
      exact q _ _ (.of_ints s3) ((hd.ac t ho).2 L hL).ns
def spNeed (K : PySem.W.Frag) : Sp := fun vs H Q E => ∃ (X : DoX) (o : Option Tree) (pl : Int) (b : Nat) (n : Str) (k : Nat), vs = [.ref X.p, .str n] ∧ DoE K X H o pl b ∧ (n, k) ∈ nmL ∧ Ref K X H E ∧ Q .non H
theorem ok_Doing_need_signed [Pz P] (Z : Zed w K mg) : Fn P w K mg base (L2.CX P w) 7 (He.ma K (He.ga K "Doing") "need_signed") (spNeed K) := by
  have O_Doing_notes_before := ok_Doing_notes_before (P := P) (base := base) Z
  have O_Doing_refuse := ok_Doing_refuse (P := P) (base := base) Z
  refine Fn.ofX (F_Doing_need_signed Z) sc_Doing_need_signed (fun _ _ _ _ _ _ us hl => match us, hl with | [_, _], _ => rfl) (fun vs H Q E h => ?_) (fun cdv A outer s H vs Q E hr h => ?_)
  · obtain ⟨X, o, pl, b, n, k, rfl, _⟩ := h
    rfl
  · obtain ⟨X, o, pl, b, n, k, rfl, ⟨tv, sg, tm, gv, hd⟩, hn, hE, q⟩ := h
    refine ⟨_, (pss_one (ps_if (pt_cmpR op_lt (pe_dget2 (hu_of hr) (pe_fld (pv 0) rfl) (pv 1) pe_int ⟨rfl, rfl, rfl, rfl⟩) (pe_ix ix_tup (pe_m Z.c_Doing Z.t_Doing_notes_before O_Doing_notes_before hr (by decide) passX (pv 0) (pa_cons (pv 1) pa_nil)) pe_int (fun _ _ => rfl)) (nomark _)) (pss_one (ps_expr (pe_m Z.c_Doing Z.t_Doing_refuse O_Doing_refuse hr (by decide) passX (pv 0) (pa_cons pe_str pa_nil)))) pss_nil)), ?_⟩
    walk_at "go"
    refine Z.f_d_signed hd.at_ ?_
    walk_at "st"
    refine kDG2.k hd.d1 ?_
    walk_at "st"
    refine ⟨_, DGet.k (k := .inr n) hd.d1, ?_⟩
    obtain ⟨i, hi⟩ : ∃ i : Int, (valV sg (.inr n)).getD (.int 0) = .int i := by
      cases hv : valV sg (.inr n) with
      | none => exact ⟨0, rfl⟩
      | some v =>
        obtain ⟨i, rfl⟩ := hd.sgk _ v hv
        exact ⟨i, rfl⟩
    rw [hi]
    walk_at "st"
    refine kMt.mk hd.at_ (by kernel_rfl) ?_
    walk_at "st"
    refine ⟨X, o, pl, b, n, k, rfl, ⟨tv, sg, tm, gv, hd⟩, hn, hE, fun v ns hv hns => ?_⟩
    obtain ⟨l0, l1, l2, nd, li, ho, ep, hk, rfl, _⟩ := hns
    obtain ⟨a, rfl, sq⟩ := hv.ints_inv
    walk_at "st"
    refine k_ixT sq rfl ?_
    walk_at "st"
    refine k_if2 (fun _ => ?_) (fun _ => ?_)
    · walk_at "st"
      refine kMt.mk hd.at_ (by kernel_rfl) ?_
      walk_at "st"
      exact ⟨X, o, pl, b, "unsigned", rfl, ⟨tv, sg, tm, gv, hd⟩, by decide +kernel, hE⟩
    · exact q
def spKeep (K : PySem.W.Frag) : Sp := fun vs H Q E => ∃ (X : DoX) (o : Option Tree) (pl : Int) (b : Nat) (n : Str) (k : Nat), vs = [.ref X.p, .str n] ∧ DoE K X H o pl b ∧ b ≤ 900 ∧ (n, k) ∈ nmL ∧ ∀ H', Lx X.S H H' → DoE K X H' o pl (b + 1) → Q .non H'
theorem ok_Doing_keep_terms (Z : Zed w K mg) : Fn P w K mg base CX0 5 (He.ma K (He.ga K "Doing") "keep_terms") (spKeep K) := by
  have O_get := ok_get (P := P) (base := base) Z
  refine Fn.of0 (F_Doing_keep_terms Z) sc_Doing_keep_terms (fun _ _ _ _ _ _ us hl => match us, hl with | [_, _], _ => rfl) (fun vs H Q E h => ?_) (fun cdv A outer s H vs Q E hr h => ?_)
  · obtain ⟨X, o, pl, b, n, k, rfl, _⟩ := h
    rfl
  · obtain ⟨X, o, pl, b, n, k, rfl, ⟨tv, sg, tm, gv, hd⟩, hb, hn, q⟩ := h
    have same : Q .non H := q _ Lx.refl ⟨tv, sg, tm, gv, hd.mono (Nat.le_succ b)⟩
    refine ⟨_, (pss_one (ps_if (pt_cmp (pc_dnotin (hu_of hr) (pv 1) (pe_fld (pv 0) rfl)) (by rfl)) (pss_cons (ps_set (i := 2) sc_Doing_keep_terms.nd rfl (Or.inl rfl) (pe_f O_get hr (by decide) Z.g_get pass0 (pa_cons (pe_fld (pv 0) rfl) (pa_cons (pv 1) pa_nil)))) (pss_one (ps_if (pt_cmpR op_notN (pv 2) pe_non (nomark _)) (pss_one (ps_dput (hu_of hr) (pe_fld (pv 0) rfl) (pv 1) (pe_ix ix_tup (pv 2) pe_int (fun _ _ => rfl)) rfl)) pss_nil))) pss_nil)), ?_⟩
    walk_at "go"
    refine Z.f_d_terms hd.at_ ?_
    walk_at "st"
    refine kDIn.s hd.d2 ?_
    walk_at "st"
    refine k_if2 (fun _ => ?_) (fun _ => ?_)
    · walk_at "st"
      refine Z.f_d_tree hd.at_ ?_
      walk_at "st"
      refine ⟨tv, n, k, o, rfl, hd.is, hd.ac.wfo, hn, fun _ => ?_, fun L r t ho hL hk hr1 => ?_⟩
      · walk_at "st"
        refine k_ifF rfl ?_
        walk_at "st"
        exact same
      · obtain ⟨p, q1, r1, rfl, s1, s2, s3⟩ := leaf_inv hr1
        walk_at "st"
        refine k_ifT rfl ?_
        walk_at "st"
        refine k_ixT s1 rfl ?_
        walk_at "st"
        refine Z.f_d_terms hd.at_ ?_
        walk_at "st"
        obtain ⟨x, h2⟩ := hd.terms (.inr n) (v := .ref r1) (.of_ints s3) ((hd.ac t ho).2 L hL).ns
        refine kDP.s hd.d2 (by have := hd.l2; omega) ?_
        exact q _ x ⟨_, _, _, _, h2⟩
    · exact same
end G
end
section
set_option Elab.async false
set_option linter.all false
set_option maxRecDepth 100000
set_option maxHeartbeats 1000000
namespace G
open PySem PySem.Spec PyProof.Rows L2
local macro_rules | `(tactic| walk_at "st") => `(tactic| repeat (first
  | with_reducible refine k_seq ?_
  | with_reducible refine k_asg ?_
  | with_reducible refine k_gn ?_
  | with_reducible refine k_op ?_
  | ((with_reducible refine' k_var ?vh ?_); (case vh => rfl))
  | with_reducible refine k_c ?_
  | with_reducible refine k_cons ?_
  | with_reducible refine k_nil ?_
  | with_reducible refine k_I0 ?_
  | with_reducible refine k_ret ?_
  | with_reducible refine k_if ?_
  | with_reducible refine k_test ?_
  | with_reducible refine k_bl ?_
  | with_reducible refine k_cb ?_
  | with_reducible refine k_cl ?_
  | with_reducible refine k_int ?_
  | with_reducible refine k_tup ?_
  | with_reducible refine k_lst ?_
  | with_reducible refine k_fld ?_
  | with_reducible refine k_mt ?_
  | with_reducible refine k_for ?_
  | with_reducible refine k_iL ?_
  | with_reducible refine k_iT ?_
  | with_reducible refine k_iR1 ?_
  | with_reducible refine k_iS ?_
  | with_reducible refine k_par ?_
  | with_reducible refine k_ex2 ?_
  | with_reducible refine k_rfl2 ?_
  | with_reducible refine k_iZA ?_
  | with_reducible refine k_gcons ?_
  | with_reducible refine k_gnil ?_
  | with_reducible refine k_exI ?_
  | with_reducible refine k_bits ?_
  | with_reducible refine k_chain ?_
  | ((with_reducible refine' k_aug ?vh ?_); (case vh => rfl))
  | with_reducible refine k_ipI ?_
  | with_reducible refine k_inG ?_
  | with_reducible refine k_m1 ?_
  | with_reducible refine kM1.mk ?_
  | with_reducible refine k_yes ?_
  | with_reducible refine k_lc ?_
  | with_reducible refine k_andV ?_
  | with_reducible refine k_orV ?_
  | with_reducible refine k_tB ?_
  | with_reducible refine k_and ?_
  | with_reducible refine k_or ?_
  | with_reducible refine k_not ?_
  | with_reducible refine k_retN ?_
  | with_reducible refine k_next ?_
  | with_reducible refine k_fset ?_
  | with_reducible refine k_faug ?_
  | with_reducible refine k_sl ?_
  | with_reducible refine k_part ?_
  | with_reducible refine k_nopart ?_
  | with_reducible refine k_un ?_
  | with_reducible refine k_u1 ?_
  | with_reducible refine k_dget ?_
  | with_reducible refine k_din ?_
  | with_reducible refine k_dnin ?_
  | with_reducible refine k_dput ?_
  | with_reducible refine k_dget2 ?_
  | with_reducible refine k_bm ?_
  | with_reducible refine k_augs ?_
  | with_reducible refine k_gsub ?_
  | with_reducible refine k_enT ?_
  | with_reducible refine k_anyI ?_
  | with_reducible refine k_allI ?_
  | with_reducible refine k_lenX ?_
  | with_reducible refine k_sortX ?_
  | with_reducible refine k_drop ?_))
local macro_rules | `(tactic| walk_at "go") => `(tactic| ((try dsimp only [cxOf]); walk_at "st"))
local macro_rules | `(tactic| walk_at "len") => `(tactic| (simp only [List.length_append, List.length_map, List.length_cons, List.length_nil, List.length_replicate] at *; omega))

variable {P : Program} {w : World} {K : PySem.W.Frag} {mg : Str → Option Value} {base : Heap}
section
variable {H : Hp} {Q : VK} {p dx s r g a1 a2 a3 : Addr} {e pl pl2 : Int} {tv y : V} {D : Ends} {σ : L2.St}
theorem Zed.s_tree (Z : Zed w K mg) (h : H p = some (.ins (He.ga K "Doing") dx (doF s r e tv g pl a1 a2 a3))) (q : D.nx σ (upd H p (.ins (He.ga K "Doing") dx (doF s r e y g pl a1 a2 a3)))) : kFSet K "tree" D σ y (.ref p) H := kFSet.mk h Z.c_Doing Z.a_Doing_tree rfl (by kernel_rfl) q
theorem Zed.s_place (Z : Zed w K mg) (h : H p = some (.ins (He.ga K "Doing") dx (doF s r e tv g pl a1 a2 a3))) (q : D.nx σ (upd H p (.ins (He.ga K "Doing") dx (doF s r e tv g pl2 a1 a2 a3)))) : kFSet K "place" D σ (.int pl2) (.ref p) H := kFSet.mk h Z.c_Doing Z.a_Doing_place rfl (by kernel_rfl) q
end
theorem join {A B : Prop} (f : B → A) (x : B) : A := f x
theorem map_set_int {ws : List Int} {k : Nat} {x : Int} : (ws.map V.int).set k (.int x) = (ws.set k x).map V.int := (List.map_set ..).symm
theorem getD_set {ws : List Int} {k j : Nat} {x : Int} (h : k < ws.length) : (ws.set k x).getD j 0 = if j = k then x else ws.getD j 0 := by
  rw [List.getD_eq_getElem?_getD, List.getElem?_set, List.getD_eq_getElem?_getD]
  by_cases e : k = j
  · rw [if_pos e, if_pos e.symm, if_pos (e ▸ h)]
    rfl
  · rw [if_neg e, if_neg (fun z => e z.symm)]
theorem getD_at {ws : List Int} {k : Nat} (h : k < ws.length) : (ws.map V.int)[k]? = some (.int (ws.getD k 0)) := by
  rw [List.getElem?_map, List.getElem?_eq_getElem h, List.getD_eq_getElem?_getD, List.getElem?_eq_getElem h]
  rfl
theorem getD_mem {ws : List Int} {k : Nat} (h : k < ws.length) : ws.getD k 0 ∈ ws := by
  rw [List.getD_eq_getElem?_getD, List.getElem?_eq_getElem h]
  exact List.getElem_mem h
def spSetW (K : PySem.W.Frag) : Sp := fun vs H Q E => ∃ (X : DoX) (o : Option Tree) (pl : Int) (b : Nat) (n : Str) (nk k : Nat) (x : Int) (t : Tree) (L : Leaf), vs = [.ref X.p, .str n, .int (k : Nat), .int x] ∧ DoE K X H o pl b ∧ (n, nk) ∈ nmA ∧ k < X.kd ∧ (0 ≤ x ∧ x ≤ 1000000000000) ∧ o = some t ∧ L ∈ t.lvs ∧ L.k = nk ∧ Ref K X H E ∧
  ∀ o' H', Lx X.S H H' → DoE K X H' o' pl b → (∀ j, tot o' j = tot o j + if j = k then x - wAt k L else 0) → Q .non H'
theorem ok_Doing_set_worth [Pz P] (Z : Zed w K mg) : Fn P w K mg base (L2.CX P w) 55 (He.ma K (He.ga K "Doing") "set_worth") (spSetW K) := by
  have O_Doing_account := ok_Doing_account (P := P) (base := base) Z
  have O_put := ok_put (P := P) (base := base) Z 49
  refine Fn.ofX (F_Doing_set_worth Z) sc_Doing_set_worth (fun _ _ _ _ _ _ us hl => match us, hl with | [_, _, _, _], _ => rfl) (fun vs H Q E h => ?_) (fun cdv A outer s H vs Q E hr h => ?_)
  · obtain ⟨X, o, pl, b, n, nk, k, x, t, L, rfl, _⟩ := h
    rfl
  · obtain ⟨X, o, pl, b, n, nk, k, x, t, L, rfl, ⟨tv, sg, tm, gv, hd⟩, hn, hk, ⟨x0, x1⟩, rfl, hL, hLk, hE, q⟩ := h
    obtain ⟨hw, hac⟩ := hd.ac t rfl
    have hA := hac L hL
    have hkd := hd.ru.kd3
    refine ⟨_, (pss_cons (ps_set (i := 4) sc_Doing_set_worth.nd rfl (Or.inl rfl) (pe_m Z.c_Doing Z.t_Doing_account O_Doing_account hr (by decide) passX (pv 0) (pa_cons (pv 1) pa_nil))) (pss_cons (ps_set (i := 5) sc_Doing_set_worth.nd rfl (Or.inl rfl) (pe_callTy cr_list (by rfl) Z.n_list (by decide +kernel) (pa_cons (pe_ix ix_tup (pv 4) pe_int (fun _ _ => rfl)) pa_nil))) (pss_cons (ps_asg (pv 3) (pg_sub (pv 5) (pv 2) set_list)) (pss_one (ps_fld (pv 0) (pe_f O_put hr (by decide) Z.g_put pass0 (pa_cons (pe_fld (pv 0) rfl) (pa_cons (pe_tup (pa_cons pe_str (pa_cons (pv 1) (pa_cons (pe_callTy cr_tuple (by rfl) Z.n_tuple (by decide +kernel) (pa_cons (pv 5) pa_nil)) (pa_cons (pe_ix ix_tup (pv 4) pe_int (fun _ _ => rfl)) pa_nil))))) pa_nil))) rfl))))), ?_⟩
    walk_at "go"
    refine kMt.mk hd.at_ (by kernel_rfl) ?_
    walk_at "st"
    refine ⟨X, some t, pl, b, n, nk, rfl, ⟨tv, sg, tm, gv, hd⟩, nmA_L (n := (n, nk)) hn, hE, fun L1 r t1 ho hL1 hk1 hr1 => ?_⟩
    obtain rfl : t = t1 := Option.some.inj ho
    obtain rfl : L1 = L := uniq_leaf hw hL1 hL (hk1.trans hLk.symm)
    obtain ⟨p, q1, r1, rfl, s1, s2, s3⟩ := leaf_inv hr1
    walk_at "st"
    refine k_ixT s1 rfl ?_
    walk_at "st"
    refine k_listT s2 fun p2 H1 e1 n1 g1 => ?_
    walk_at "st"
    refine k_setL g1 (by rw [List.length_map, hA.len]; exact hk) ?_
    rw [map_set_int]
    have e2 : Le H (upd H1 p2 (.lst ((L1.ws.set k x).map V.int))) := e1.own n1 (by rw [g1]; exact fun z => nomatch z)
    have g2 : upd H1 p2 (.lst ((L1.ws.set k x).map V.int)) p2 = some (.lst ((L1.ws.set k x).map V.int)) := upd_same
    generalize upd H1 p2 (.lst ((L1.ws.set k x).map V.int)) = H2 at e2 g2
    walk_at "st"
    refine Z.f_d_tree (hd.le e2).at_ ?_
    walk_at "st"
    refine k_tupleL (SqL.of g2) fun p3 H3 e3 n3 g3 => ?_
    have e23 := e2.trans e3
    walk_at "st"
    refine k_ixT (e23.sqt s1) rfl ?_
    walk_at "st"
    refine kTup.mk (by show 4 ≤ 1000; decide) fun p4 H4 e4 n4 g4 => ?_
    have e24 := e23.trans e4
    have hL2 : AcL X.kd ⟨n, nk, L1.ws.set k x, L1.ns⟩ := ⟨hn, by show (L1.ws.set k x).length = X.kd; rw [List.length_set]; exact hA.len, fun y hy => by
      rcases List.mem_or_eq_of_mem_set hy with z | z
      · exact hA.ws y z
      · rw [z]
        exact ⟨x0, x1⟩, hA.ns⟩
    refine ⟨tv, .ref p4, some t, ⟨n, nk, L1.ws.set k x, L1.ns⟩, rfl, by decide, hd.is.lx e24, hd.ac.wfo, fun t2 h2 => by cases h2; exact dep_lt hw, leaf_mk (SqT.of g4) (e4.sqt (SqT.of g3)) (e24.sqt s3), hL2.nmT hkd, fun r5 H5 t5 e5 i5 hp => ?_⟩
    have e25 := e24.trans e5
    walk_at "st"
    obtain ⟨x6, h6⟩ := (hd.le e25).tree (o2 := some t5) i5 (hd.ac.put hL2 hkd hp)
    refine Z.s_tree (hd.le e25).at_ ?_
    refine q (some t5) _ (e25.of.trans x6) ⟨_, _, _, _, h6⟩ fun j => ?_
    have hs := Put.sum_old (hp : Put Nm t _ t5) hw hL (show L1.k = nk from hLk) (wAt j)
    have hg : wAt j ⟨n, nk, L1.ws.set k x, L1.ns⟩ = if j = k then x else wAt j L1 := getD_set (by rw [hA.len]; exact hk)
    rw [hg] at hs
    show sm (wAt j) t5.lvs = sm (wAt j) t.lvs + _
    by_cases ej : j = k
    · subst ej
      rw [if_pos rfl] at hs ⊢
      omega
    · rw [if_neg ej] at hs ⊢
      omega
def spPay (K : PySem.W.Frag) : Sp := fun vs H Q E => ∃ (X : DoX) (o : Option Tree) (pl : Int) (b : Nat) (n : Str) (nk k : Nat) (a : Int) (lim : Bool), vs = [.ref X.p, .str n, .int (k : Nat), .int a, .bl lim] ∧ DoE K X H o pl b ∧ b ≤ 900 ∧ (n, nk) ∈ nmA ∧ k < X.kd ∧ 0 ≤ a ∧ Ref K X H E ∧
  ∀ o' H', Lx X.S H H' → DoE K X H' o' pl (b + 1) → (∀ j, tot o' j = tot o j - if j = k then a else 0) → Q .non H'
theorem ok_Doing_pay [Pz P] (Z : Zed w K mg) : Fn P w K mg base (L2.CX P w) 56 (He.ma K (He.ga K "Doing") "pay") (spPay K) := by
  have O_Doing_account := ok_Doing_account (P := P) (base := base) Z
  have O_Doing_notes_before := ok_Doing_notes_before (P := P) (base := base) Z
  have O_Doing_refuse := ok_Doing_refuse (P := P) (base := base) Z
  have O_Doing_set_worth := ok_Doing_set_worth (P := P) (base := base) Z
  have O_is_enough := ok_is_enough (P := P) (base := base) Z
  refine Fn.ofX (F_Doing_pay Z) sc_Doing_pay (fun _ _ _ _ _ _ us hl => match us, hl with | [_, _, _, _, _], _ => rfl) (fun vs H Q E h => ?_) (fun cdv A outer s H vs Q E hr h => ?_)
  · obtain ⟨X, o, pl, b, n, nk, k, a, lim, rfl, _⟩ := h
    rfl
  · obtain ⟨X, o, pl, b, n, nk, k, a, lim, rfl, ⟨tv, sg, tm, gv, hd⟩, hb, hn, hk, ha, hE, q⟩ := h
    have hnL := nmA_L (n := (n, nk)) hn
    refine ⟨_, (pss_cons (ps_set (i := 5) sc_Doing_pay.nd rfl (Or.inl rfl) (pe_ix ix_tup (pe_m Z.c_Doing Z.t_Doing_account O_Doing_account hr (by decide) passX (pv 0) (pa_cons (pv 1) pa_nil)) pe_int (fun _ _ => rfl))) (pss_cons (ps_if (pt_cmpR op_lt (pe_ix ix_tup (pv 5) (pv 2) (fun _ _ => rfl)) (pv 3) (nomark _)) (pss_one (ps_expr (pe_m Z.c_Doing Z.t_Doing_refuse O_Doing_refuse hr (by decide) passX (pv 0) (pa_cons pe_str pa_nil)))) pss_nil) (pss_cons (ps_set (i := 6) sc_Doing_pay.nd rfl (Or.inl rfl) (pe_m Z.c_Doing Z.t_Doing_notes_before O_Doing_notes_before hr (by decide) passX (pv 0) (pa_cons (pv 1) pa_nil))) (pss_cons (ps_set (i := 7) sc_Doing_pay.nd rfl (Or.inl rfl) (pe_op op_add (pe_dget2 (hu_of hr) (pe_fld (pv 0) rfl) (pe_tup (pa_cons (pv 1) (pa_cons (pv 2) pa_nil))) pe_int ⟨rfl, rfl, rfl, rfl⟩) (pv 3))) (pss_cons (ps_if (PW.pt (pw_and (pt_val (pv 4)) (pw_and (pt_cmpR op_gt (pe_ix ix_tup (pv 6) pe_int (fun _ _ => rfl)) pe_int (nomark _)) (pw_and1 (pt_cmpR op_gt (pv 7) (pe_ix ix_tup (pv 6) pe_int (fun _ _ => rfl)) (nomark _)))))) (pss_one (ps_expr (pe_m Z.c_Doing Z.t_Doing_refuse O_Doing_refuse hr (by decide) passX (pv 0) (pa_cons pe_str pa_nil)))) pss_nil) (pss_cons (ps_set (i := 8) sc_Doing_pay.nd rfl (Or.inl rfl) (pe_callTy cr_list (by rfl) Z.n_list (by decide +kernel) (pa_cons (pv 5) pa_nil))) (pss_cons (ps_augS (pv 8) (pv 2) get_list (pv 3) ip_sub set_list) (pss_cons (ps_if (pt_not (pt_val (pe_f O_is_enough hr (by decide) Z.g_is_enough pass0 (pa_cons (pv 6) (pa_cons (pv 8) (pa_cons (pe_fld (pv 0) rfl) pa_nil)))))) (pss_one (ps_expr (pe_m Z.c_Doing Z.t_Doing_refuse O_Doing_refuse hr (by decide) passX (pv 0) (pa_cons pe_str pa_nil)))) pss_nil) (pss_cons (ps_if (pt_val (pv 4)) (pss_one (ps_dput (hu_of hr) (pe_fld (pv 0) rfl) (pe_tup (pa_cons (pv 1) (pa_cons (pv 2) pa_nil))) (pv 7) rfl)) pss_nil) (pss_one (ps_expr (pe_m Z.c_Doing Z.t_Doing_set_worth O_Doing_set_worth hr (by decide) passX (pv 0) (pa_cons (pv 1) (pa_cons (pv 2) (pa_cons (pe_ix ix_list (pv 8) (pv 2) (fun _ _ => rfl)) pa_nil))))))))))))))), ?_⟩
    walk_at "go"
    refine kMt.mk hd.at_ (by kernel_rfl) ?_
    walk_at "st"
    refine ⟨X, o, pl, b, n, nk, rfl, ⟨tv, sg, tm, gv, hd⟩, hnL, hE, fun L r t ho hL hLk hr1 => ?_⟩
    subst ho
    obtain ⟨hw, hac⟩ := hd.ac t rfl
    have hA := hac L hL
    have hkl : k < L.ws.length := by rw [hA.len]; exact hk
    obtain ⟨p, q1, r1, rfl, s1, s2, s3⟩ := leaf_inv hr1
    walk_at "st"
    refine k_ixT s1 rfl ?_
    walk_at "st"
    refine k_ixT s2 (atI_nat (getD_at hkl)) ?_
    walk_at "st"
    refine k_if2 (fun _ => ?_) (fun hb1 => ?_)
    · walk_at "st"
      refine kMt.mk hd.at_ (by kernel_rfl) ?_
      walk_at "st"
      exact ⟨X, _, pl, b, "short", rfl, ⟨tv, sg, tm, gv, hd⟩, by decide +kernel, hE⟩
    have hsh : a ≤ L.ws.getD k 0 := by
      have := of_decide_eq_false hb1
      omega
    walk_at "st"
    refine kMt.mk hd.at_ (by kernel_rfl) ?_
    walk_at "st"
    refine ⟨X, some t, pl, b, n, nk, rfl, ⟨tv, sg, tm, gv, hd⟩, hnL, hE, fun v ns hv hns => ?_⟩
    walk_at "st"
    refine Z.f_d_given hd.at_ ?_
    walk_at "st"
    refine kDG2.tt hd.d3 ?_
    walk_at "st"
    refine kTup.mk (by show 2 ≤ 1000; decide) fun p5 H5 e5 n5 g5 => ?_
    walk_at "st"
    have hd5 := hd.le e5
    refine ⟨_, DGet.t (k := [.inr n, .inl (k : Nat)]) hd5.d3 g5, ?_⟩
    obtain ⟨i, hi⟩ : ∃ i : Int, (valV gv [.inr n, .inl (k : Nat)]).getD (.int 0) = .int i := by
      cases hv : valV gv [.inr n, .inl (k : Nat)] with
      | none => exact ⟨0, rfl⟩
      | some v =>
        obtain ⟨i, rfl⟩ := hd.gvk _ v hv
        exact ⟨i, rfl⟩
    rw [hi]
    walk_at "st"
    have hns0 := hns
    obtain ⟨l0, l1, l2, nd, li, ho, ep, hk2, rfl, hk3⟩ := hns
    obtain ⟨vp, rfl, sv⟩ := hv.ints_inv
    have hE5 : Ref K X H5 E := hE.mono e5.of
    refine join (B := ?B) (fun rest => ?way) ?rest
    case way =>
      walk_at "st"
      refine k_if2 (fun _ => ?_) (fun _ => ?_)
      · walk_at "st"
        refine k_ixT (e5.sqt sv) rfl ?_
        walk_at "st"
        refine k_if2 (fun _ => ?_) (fun _ => ?_)
        · walk_at "st"
          refine k_ixT (e5.sqt sv) rfl ?_
          walk_at "st"
          refine k_if2 (fun _ => ?_) (fun _ => ?_)
          · walk_at "st"
            refine kMt.mk hd5.at_ (by kernel_rfl) ?_
            walk_at "st"
            exact ⟨X, _, pl, b, "limit", rfl, ⟨tv, sg, tm, gv, hd5⟩, by decide +kernel, hE5⟩
          · exact rest
        · exact rest
      · exact rest
    case rest =>
      walk_at "st"
      refine k_listT (e5.sqt s2) fun p6 H6 e6 n6 g6 => ?_
      walk_at "st"
      refine ⟨p6, _, k, _, rfl, rfl, SqL.of g6, getD_at hkl, ?_⟩
      walk_at "st"
      refine k_setL g6 (by rw [List.length_map]; exact hkl) ?_
      rw [map_set_int]
      have e7 : Le H5 (upd H6 p6 (.lst ((L.ws.set k (L.ws.getD k 0 - a)).map V.int))) := e6.own n6 (by rw [g6]; exact fun z => nomatch z)
      have g7 : upd H6 p6 (.lst ((L.ws.set k (L.ws.getD k 0 - a)).map V.int)) p6 = some (.lst ((L.ws.set k (L.ws.getD k 0 - a)).map V.int)) := upd_same
      generalize upd H6 p6 (.lst ((L.ws.set k (L.ws.getD k 0 - a)).map V.int)) = H7 at e7 g7
      have e57 := e5.trans e7
      have hd7 := hd.le e57
      have hE7 : Ref K X H7 E := hE.mono e57.of
      walk_at "st"
      refine Z.f_d_epoch hd7.at_ ?_
      walk_at "st"
      refine ⟨_, _, p6, L.ws.set k (L.ws.getD k 0 - a), _, rfl, hv.lx e57, ⟨l0, l1, l2, nd, li, ho, ep, hk2, rfl, by rw [List.length_set, hA.len]; exact hk3⟩, g7, fun bb => ?_⟩
      walk_at "st"
      refine k_if2 (fun _ => ?_) (fun _ => ?_)
      · walk_at "st"
        refine kMt.mk hd7.at_ (by kernel_rfl) ?_
        walk_at "st"
        exact ⟨X, _, pl, b, "held", rfl, ⟨tv, sg, tm, gv, hd7⟩, by decide +kernel, hE7⟩
      have hws := hA.ws _ (getD_mem hkl)
      have fin : ∀ H8 sg2 tm2 gv2, Lx X.S H7 H8 → DoA K X H8 (some t) pl (b + 1) tv sg2 tm2 gv2 → H8 p6 = some (.lst ((L.ws.set k (L.ws.getD k 0 - a)).map V.int)) →
          spSetW K [.ref X.p, .str n, .int (k : Nat), .int (L.ws.getD k 0 - a)] H8 (fun _ H9 => Q .non H9) E := fun H8 sg2 tm2 gv2 x8 h8 _ =>
        ⟨X, some t, pl, b + 1, n, nk, k, _, t, L, rfl, ⟨_, _, _, _, h8⟩, hn, hk, ⟨by omega, by omega⟩, rfl, hL, hLk, hE7.mono x8, fun o' H9 x9 h9 ht => q o' H9 ((e57.of.trans x8).trans x9) h9 fun j => by
          rw [ht j]
          by_cases ej : j = k
          · rw [if_pos ej, if_pos ej]
            unfold wAt
            omega
          · rw [if_neg ej, if_neg ej]
            omega⟩
      have hset : (L.ws.set k (L.ws.getD k 0 - a)).getD k 0 = L.ws.getD k 0 - a := by
        rw [getD_set hkl, if_pos rfl]
      have hix : ((L.ws.set k (L.ws.getD k 0 - a)).map V.int)[k]? = some (.int (L.ws.getD k 0 - a)) := by
        rw [getD_at (by rw [List.length_set]; exact hkl), hset]
      walk_at "st"
      refine k_if2 (fun _ => ?_) (fun _ => ?_)
      · walk_at "st"
        refine Z.f_d_given hd7.at_ ?_
        walk_at "st"
        refine kTup.mk (by show 2 ≤ 1000; decide) fun p8 H8 e8 n8 g8 => ?_
        have hd8 := hd7.le e8
        obtain ⟨x9, h9⟩ := hd8.given [.inr n, .inl (k : Nat)] (i + a)
        refine kDP.tt (k := [.inr n, .inl (k : Nat)]) hd8.d3 g8 (by have := hd8.l3; omega) ?_
        walk_at "st"
        have np : ¬ X.S p6 := fun z => by
          have h5 : H5 p6 = none := n6
          rcases z with z | z | z | z
          · rw [z, hd5.at_] at h5
            cases h5
          · rw [z, hd5.d1] at h5
            cases h5
          · rw [z, hd5.d2] at h5
            cases h5
          · rw [z, hd5.d3] at h5
            cases h5
        have g9 := x9.at (e8.get g7) (fun z => (np z).elim)
        refine kMt.mk h9.at_ (by kernel_rfl) ?_
        walk_at "st"
        refine k_ixL (SqL.of g9) (atI_nat hix) ?_
        walk_at "st"
        exact fin _ _ _ _ (e8.of.trans x9) h9 g9
      · walk_at "st"
        refine kMt.mk hd7.at_ (by kernel_rfl) ?_
        walk_at "st"
        refine k_ixL (SqL.of g7) (atI_nat hix) ?_
        walk_at "st"
        exact fin _ _ _ _ Lx.refl (hd7.mono (Nat.le_succ b)) g7
end G
end
section
set_option Elab.async false
set_option linter.all false
set_option maxRecDepth 100000
set_option maxHeartbeats 1000000
namespace G
open PySem PySem.Spec PyProof.Rows L2
local macro_rules | `(tactic| walk_at "st") => `(tactic| repeat (first
  | with_reducible refine k_seq ?_
  | with_reducible refine k_asg ?_
  | with_reducible refine k_gn ?_
  | with_reducible refine k_op ?_
  | ((with_reducible refine' k_var ?vh ?_); (case vh => rfl))
  | with_reducible refine k_c ?_
  | with_reducible refine k_cons ?_
  | with_reducible refine k_nil ?_
  | with_reducible refine k_I0 ?_
  | with_reducible refine k_ret ?_
  | with_reducible refine k_if ?_
  | with_reducible refine k_test ?_
  | with_reducible refine k_bl ?_
  | with_reducible refine k_cb ?_
  | with_reducible refine k_cl ?_
  | with_reducible refine k_int ?_
  | with_reducible refine k_tup ?_
  | with_reducible refine k_lst ?_
  | with_reducible refine k_fld ?_
  | with_reducible refine k_mt ?_
  | with_reducible refine k_for ?_
  | with_reducible refine k_iL ?_
  | with_reducible refine k_iT ?_
  | with_reducible refine k_iR1 ?_
  | with_reducible refine k_iS ?_
  | with_reducible refine k_par ?_
  | with_reducible refine k_ex2 ?_
  | with_reducible refine k_rfl2 ?_
  | with_reducible refine k_iZA ?_
  | with_reducible refine k_gcons ?_
  | with_reducible refine k_gnil ?_
  | with_reducible refine k_exI ?_
  | with_reducible refine k_bits ?_
  | with_reducible refine k_chain ?_
  | ((with_reducible refine' k_aug ?vh ?_); (case vh => rfl))
  | with_reducible refine k_ipI ?_
  | with_reducible refine k_inG ?_
  | with_reducible refine k_m1 ?_
  | with_reducible refine kM1.mk ?_
  | with_reducible refine k_yes ?_
  | with_reducible refine k_lc ?_
  | with_reducible refine k_andV ?_
  | with_reducible refine k_orV ?_
  | with_reducible refine k_tB ?_
  | with_reducible refine k_and ?_
  | with_reducible refine k_or ?_
  | with_reducible refine k_not ?_
  | with_reducible refine k_retN ?_
  | with_reducible refine k_next ?_
  | with_reducible refine k_fset ?_
  | with_reducible refine k_faug ?_
  | with_reducible refine k_sl ?_
  | with_reducible refine k_part ?_
  | with_reducible refine k_nopart ?_
  | with_reducible refine k_un ?_
  | with_reducible refine k_u1 ?_
  | with_reducible refine k_dget ?_
  | with_reducible refine k_din ?_
  | with_reducible refine k_dnin ?_
  | with_reducible refine k_dput ?_
  | with_reducible refine k_dget2 ?_
  | with_reducible refine k_bm ?_
  | with_reducible refine k_augs ?_
  | with_reducible refine k_gsub ?_
  | with_reducible refine k_enT ?_
  | with_reducible refine k_anyI ?_
  | with_reducible refine k_allI ?_
  | with_reducible refine k_lenX ?_
  | with_reducible refine k_sortX ?_
  | with_reducible refine k_drop ?_))
local macro_rules | `(tactic| walk_at "go") => `(tactic| ((try dsimp only [cxOf]); walk_at "st"))
local macro_rules | `(tactic| walk_at "len") => `(tactic| (simp only [List.length_append, List.length_map, List.length_cons, List.length_nil, List.length_replicate] at *; omega))

variable {P : Program} {w : World} {K : PySem.W.Frag} {mg : Str → Option Value} {base : Heap}
def spTake (K : PySem.W.Frag) : Sp := fun vs H Q E => ∃ (X : DoX) (o : Option Tree) (pl : Int) (b : Nat) (n : Str) (nk k : Nat) (a : Int), vs = [.ref X.p, .str n, .int (k : Nat), .int a] ∧ DoE K X H o pl b ∧ (n, nk) ∈ nmA ∧ k < X.kd ∧ 0 ≤ a ∧ Ref K X H E ∧
  ∀ o' H', Lx X.S H H' → DoE K X H' o' pl b → (∀ j, tot o' j = tot o j + if j = k then a else 0) → Q .non H'
theorem ok_Doing_take [Pz P] (Z : Zed w K mg) : Fn P w K mg base (L2.CX P w) 56 (He.ma K (He.ga K "Doing") "take") (spTake K) := by
  have O_Doing_account := ok_Doing_account (P := P) (base := base) Z
  have O_Doing_refuse := ok_Doing_refuse (P := P) (base := base) Z
  have O_Doing_set_worth := ok_Doing_set_worth (P := P) (base := base) Z
  refine Fn.ofX (F_Doing_take Z) sc_Doing_take (fun _ _ _ _ _ _ us hl => match us, hl with | [_, _, _, _], _ => rfl) (fun vs H Q E h => ?_) (fun cdv A outer s H vs Q E hr h => ?_)
  · obtain ⟨X, o, pl, b, n, nk, k, a, rfl, _⟩ := h
    rfl
  · obtain ⟨X, o, pl, b, n, nk, k, a, rfl, ⟨tv, sg, tm, gv, hd⟩, hn, hk, ha, hE, q⟩ := h
    have hnL := nmA_L (n := (n, nk)) hn
    refine ⟨_, (pss_cons (ps_set (i := 4) sc_Doing_take.nd rfl (Or.inl rfl) (pe_op op_add (pe_ix ix_tup (pe_ix ix_tup (pe_m Z.c_Doing Z.t_Doing_account O_Doing_account hr (by decide) passX (pv 0) (pa_cons (pv 1) pa_nil)) pe_int (fun _ _ => rfl)) (pv 2) (fun _ _ => rfl)) (pv 3))) (pss_cons (ps_if (pt_cmpR op_gt (pv 4) (pe_gi Z.i_MOST_WORTH) (nomark _)) (pss_one (ps_expr (pe_m Z.c_Doing Z.t_Doing_refuse O_Doing_refuse hr (by decide) passX (pv 0) (pa_cons pe_str pa_nil)))) pss_nil) (pss_one (ps_expr (pe_m Z.c_Doing Z.t_Doing_set_worth O_Doing_set_worth hr (by decide) passX (pv 0) (pa_cons (pv 1) (pa_cons (pv 2) (pa_cons (pv 4) pa_nil)))))))), ?_⟩
    walk_at "go"
    refine kMt.mk hd.at_ (by kernel_rfl) ?_
    walk_at "st"
    refine ⟨X, o, pl, b, n, nk, rfl, ⟨tv, sg, tm, gv, hd⟩, hnL, hE, fun L r t ho hL hLk hr1 => ?_⟩
    subst ho
    obtain ⟨hw, hac⟩ := hd.ac t rfl
    have hA := hac L hL
    have hkl : k < L.ws.length := by rw [hA.len]; exact hk
    have hws := hA.ws _ (getD_mem hkl)
    obtain ⟨p, q1, r1, rfl, s1, s2, s3⟩ := leaf_inv hr1
    walk_at "st"
    refine k_ixT s1 rfl ?_
    walk_at "st"
    refine k_ixT s2 (atI_nat (getD_at hkl)) ?_
    walk_at "st"
    refine k_if2 (fun _ => ?_) (fun hb1 => ?_)
    · walk_at "st"
      refine kMt.mk hd.at_ (by kernel_rfl) ?_
      walk_at "st"
      exact ⟨X, _, pl, b, "much", rfl, ⟨tv, sg, tm, gv, hd⟩, by decide +kernel, hE⟩
    have hle := of_decide_eq_false hb1
    walk_at "st"
    refine kMt.mk hd.at_ (by kernel_rfl) ?_
    walk_at "st"
    refine ⟨X, some t, pl, b, n, nk, k, _, t, L, rfl, ⟨_, _, _, _, hd⟩, hn, hk, ⟨by omega, by omega⟩, rfl, hL, hLk, hE, fun o' H9 x9 h9 ht => q o' H9 x9 h9 fun j => ?_⟩
    rw [ht j]
    by_cases ej : j = k
    · rw [if_pos ej, if_pos ej]
      unfold wAt
      omega
    · rw [if_neg ej, if_neg ej]
theorem NtL.set {kd : Nat} {ns : List Int} (h : NtL kd ns) {j : Nat} {x : Int} (hj : j < 3) : NtL kd (ns.set j x) := by
  obtain ⟨l0, l1, l2, nd, li, ho, ep, hk, rfl, hlt⟩ := h
  have : j = 0 ∨ j = 1 ∨ j = 2 := by omega
  rcases this with rfl | rfl | rfl
  · exact ⟨x, l1, l2, nd, li, ho, ep, hk, rfl, hlt⟩
  · exact ⟨l0, x, l2, nd, li, ho, ep, hk, rfl, hlt⟩
  · exact ⟨l0, l1, x, nd, li, ho, ep, hk, rfl, hlt⟩
theorem NtL.len {kd : Nat} {ns : List Int} (h : NtL kd ns) : ns.length = 8 := by
  obtain ⟨l0, l1, l2, nd, li, ho, ep, hk, rfl, hlt⟩ := h
  rfl
def spSign (K : PySem.W.Frag) : Sp := fun vs H Q E => ∃ (X : DoX) (o : Option Tree) (pl : Int) (b : Nat) (v : V) (g : Sg), vs = [.ref X.p, v] ∧ DoE K X H o pl b ∧ b ≤ 900 ∧ Is K H v (.tuple g.ds) ∧ g.ok X.m ∧ Ref K X H E ∧
  ∀ o' H', Lx X.S H H' → DoE K X H' o' pl (b + 2) → (∀ j, tot o' j = tot o j) → Q .non H'
theorem ok_Doing_sign [Pz P] (Z : Zed w K mg) : Fn P w K mg base (L2.CX P w) 55 (He.ma K (He.ga K "Doing") "sign") (spSign K) := by
  have O_Doing_account := ok_Doing_account (P := P) (base := base) Z
  have O_Doing_refuse := ok_Doing_refuse (P := P) (base := base) Z
  have O_lock_of := ok_lock_of (P := P) (base := base) Z
  have O_put := ok_put (P := P) (base := base) Z 49
  refine Fn.ofX (F_Doing_sign Z) sc_Doing_sign (fun _ _ _ _ _ _ us hl => match us, hl with | [_, _], _ => rfl) (fun vs H Q E h => ?_) (fun cdv A outer s H vs Q E hr h => ?_)
  · obtain ⟨X, o, pl, b, v, g, rfl, _⟩ := h
    rfl
  · obtain ⟨X, o, pl, b, v, g, rfl, ⟨tv, sg, tm, gv, hd⟩, hb, hv, ok, hE, q⟩ := h
    have hnL := nmA_L ok.nm
    have hkd := hd.ru.kd3
    obtain ⟨p, p2, xs, rfl, sq, sq2, isl⟩ := sg_inv hv
    have hlen : xs.length = g.ks.length := by rw [isl.length, List.length_map]
    refine ⟨_, (pss_cons (ps_asg (pv 1) (pg_tup rfl (pgs_cons (pg_name (i := 2) sc_Doing_sign.nd rfl (Or.inl rfl)) (pgs_cons (pg_name (i := 3) sc_Doing_sign.nd rfl (Or.inl rfl)) pgs_nil)))) (pss_cons (ps_set (i := 4) sc_Doing_sign.nd rfl (Or.inl rfl) (pe_m Z.c_Doing Z.t_Doing_account O_Doing_account hr (by decide) passX (pv 0) (pa_cons (pv 2) pa_nil))) (pss_cons (ps_set (i := 5) sc_Doing_sign.nd rfl (Or.inl rfl) (pe_callTy cr_list (by rfl) Z.n_list (by decide +kernel) (pa_cons (pe_ix ix_tup (pv 4) pe_int (fun _ _ => rfl)) pa_nil))) (pss_cons (ps_for (passes_of rfl) rfl (pi_tup (pv 3)) (pg_tup rfl (pgs_cons (pg_name (i := 6) sc_Doing_sign.nd rfl (Or.inl rfl)) (pgs_cons (pg_name (i := 7) sc_Doing_sign.nd rfl (Or.inl rfl)) (pgs_cons (pg_name (i := 8) sc_Doing_sign.nd rfl (Or.inl rfl)) pgs_nil)))) (pss_cons (ps_if (pt_cmpR op_ne (pe_f O_lock_of hr (by decide) Z.g_lock_of pass0 (pa_cons (pe_fld (pv 0) rfl) (pa_cons (pv 7) pa_nil))) (pe_ix ix_list (pv 5) (pv 6) (fun _ _ => rfl)) (nomark _)) (pss_one (ps_expr (pe_m Z.c_Doing Z.t_Doing_refuse O_Doing_refuse hr (by decide) passX (pv 0) (pa_cons pe_str pa_nil)))) pss_nil) (pss_one (ps_asg (pv 8) (pg_sub (pv 5) (pv 6) set_list))))) (pss_cons (ps_dput (hu_of hr) (pe_fld (pv 0) rfl) (pv 2) (pe_callB cr_len (by rfl) Z.n_len PySem.boot_len (pa_cons (pv 3) pa_nil)) rfl) (pss_cons (ps_dput (hu_of hr) (pe_fld (pv 0) rfl) (pv 2) (pe_ix ix_tup (pv 4) pe_int (fun _ _ => rfl)) rfl) (pss_one (ps_fld (pv 0) (pe_f O_put hr (by decide) Z.g_put pass0 (pa_cons (pe_fld (pv 0) rfl) (pa_cons (pe_tup (pa_cons pe_str (pa_cons (pv 2) (pa_cons (pe_ix ix_tup (pv 4) pe_int (fun _ _ => rfl)) (pa_cons (pe_callTy cr_tuple (by rfl) Z.n_tuple (by decide +kernel) (pa_cons (pv 5) pa_nil)) pa_nil))))) pa_nil))) rfl)))))))), ?_⟩
    walk_at "go"
    refine k_gtup sq rfl ?_
    walk_at "st"
    refine kMt.mk hd.at_ (by kernel_rfl) ?_
    walk_at "st"
    refine ⟨X, o, pl, b, _, _, rfl, ⟨tv, sg, tm, gv, hd⟩, hnL, hE, fun L r t ho hL hLk hr1 => ?_⟩
    subst ho
    obtain ⟨hw, hac⟩ := hd.ac t rfl
    have hA := hac L hL
    obtain ⟨lp, q1, r1, rfl, s1, s2, s3⟩ := leaf_inv hr1
    walk_at "st"
    refine k_ixT s1 rfl ?_
    walk_at "st"
    refine k_listT s3 fun p3 H1 e1 n1 g1 => ?_
    walk_at "st"
    refine kIT.mk (e1.sqt sq2) (kFor.go walk_tup (fun i σ H' => Le H H' ∧ (∃ ns, H' p3 = some (.lst (ns.map V.int)) ∧ NtL X.kd ns) ∧ ∃ a b c, σ = [some (.ref X.p), some (.ref p), some (.str g.n.1), some (.ref p2), some (.ref lp), some (.ref p3), a, b, c]) ⟨e1, ⟨_, g1, hA.ns⟩, _, _, _, rfl⟩ (fun i σ H' _ z => z.1.sqt sq2) (fun i x σ H2 H3 hi z y => ?_) fun σ H2 z => ?_)
    · obtain ⟨e2, ⟨ns, g2, hns⟩, a, bb, c, rfl⟩ := z
      obtain ⟨rfl, hx⟩ := y
      obtain ⟨k, pk, hk, rfl, sk⟩ := ky_inv (isl.lx e2) hx
      obtain ⟨⟨y0, y1⟩, _, _⟩ := ok.ky k (List.mem_of_getElem? hk)
      obtain ⟨j, hj⟩ : ∃ j : Nat, k.1 = (j : Int) := ⟨k.1.toNat, by omega⟩
      have hj3 : j < 3 := by omega
      have hd2 := hd.le e2
      refine k_gtup sk rfl ?_
      rw [hj]
      walk_at "st"
      refine Z.f_d_sealer hd2.at_ ?_
      walk_at "st"
      refine ⟨X.s, X.m, k.2.1, rfl, hd2.se, fun z H4 e4 => ?_⟩
      have e24 := e2.trans e4
      walk_at "st"
      refine k_ixL (SqL.of (e4.lst g2)) (atI_nat (getD_at (by rw [hns.len]; omega))) ?_
      walk_at "st"
      refine k_ne rfl ?_
      walk_at "st"
      refine k_if2 (fun _ => ?_) (fun _ => ?_)
      · walk_at "st"
        refine kMt.mk (hd.le e24).at_ (by kernel_rfl) ?_
        walk_at "st"
        exact ⟨X, _, pl, b, "key", rfl, ⟨tv, sg, tm, gv, hd.le e24⟩, by decide +kernel, hE.mono e24.of⟩
      · walk_at "st"
        refine k_setL (e4.lst g2) (by rw [List.length_map, hns.len]; omega) ?_
        rw [map_set_int]
        exact ⟨e24.own n1 (by rw [e4.lst g2]; exact fun z => nomatch z), ⟨_, upd_same, hns.set hj3⟩, _, _, _, rfl⟩
    · obtain ⟨e2, ⟨ns, g2, hns⟩, a, bb, c, rfl⟩ := z
      have hd2 := hd.le e2
      walk_at "st"
      refine k_lenT (e2.sqt sq2) ?_
      walk_at "st"
      refine Z.f_d_signed hd2.at_ ?_
      walk_at "st"
      obtain ⟨x3, h3⟩ := hd2.signed (.inr g.n.1) (xs.length : Nat)
      refine kDP.s hd2.d1 (by have := hd2.l1; omega) ?_
      walk_at "st"
      refine k_ixT (x3.sqt (e2.sqt s1)) rfl ?_
      walk_at "st"
      refine Z.f_d_terms h3.at_ ?_
      walk_at "st"
      obtain ⟨x4, h4⟩ := h3.terms (.inr g.n.1) (v := .ref r1) (.of_ints (x3.sqt (e2.sqt s3))) hA.ns
      refine kDP.s h3.d2 (by have := h3.l2; omega) ?_
      have x34 := (e2.of.trans x3).trans x4
      have np : ¬ X.S p3 := fun z => by
        rcases z with z | z | z | z
        · rw [z, hd.at_] at n1
          cases n1
        · rw [z, hd.d1] at n1
          cases n1
        · rw [z, hd.d2] at n1
          cases n1
        · rw [z, hd.d3] at n1
          cases n1
      have g4 := (x3.trans x4).at g2 (fun z => (np z).elim)
      walk_at "st"
      refine Z.f_d_tree h4.at_ ?_
      walk_at "st"
      refine k_ixT (x34.sqt s1) rfl ?_
      walk_at "st"
      refine k_tupleL (SqL.of g4) fun p5 H5 e5 n5 g5 => ?_
      walk_at "st"
      refine kTup.mk (by show 4 ≤ 1000; decide) fun p6 H6 e6 n6 g6 => ?_
      have x46 := x34.trans (e5.trans e6).of
      have h6 := (h4.le e5).le e6
      have hL2 : AcL X.kd ⟨g.n.1, g.n.2, L.ws, ns⟩ := ⟨ok.nm, hA.len, hA.ws, hns⟩
      refine ⟨tv, .ref p6, some t, ⟨g.n.1, g.n.2, L.ws, ns⟩, rfl, by decide, h6.is, h6.ac.wfo, fun t2 h2 => by cases h2; exact dep_lt hw, leaf_mk (SqT.of g6) (x46.sqt s2) (e6.sqt (SqT.of g5)), hL2.nmT hkd, fun r7 H7 t7 e7 i7 hp => ?_⟩
      walk_at "st"
      obtain ⟨x8, h8⟩ := (h6.le e7).tree (o2 := some t7) i7 (hd.ac.put hL2 hkd hp)
      refine Z.s_tree (h6.le e7).at_ ?_
      refine q (some t7) _ ((x46.trans e7.of).trans x8) ⟨_, _, _, _, h8⟩ fun j => ?_
      have hs := Put.sum_old (hp : Put Nm t _ t7) hw hL (show L.k = g.n.2 from hLk) (wAt j)
      have hg : wAt j ⟨g.n.1, g.n.2, L.ws, ns⟩ = wAt j L := rfl
      rw [hg] at hs
      show sm (wAt j) t7.lvs = sm (wAt j) t.lvs
      omega
end G
end
section
set_option Elab.async false
set_option linter.all false
set_option maxRecDepth 100000
set_option maxHeartbeats 1000000
namespace G
open PySem PySem.Spec PyProof.Rows L2
local macro_rules | `(tactic| walk_at "st") => `(tactic| repeat (first
  | with_reducible refine k_seq ?_
  | with_reducible refine k_asg ?_
  | with_reducible refine k_gn ?_
  | with_reducible refine k_op ?_
  | ((with_reducible refine' k_var ?vh ?_); (case vh => rfl))
  | with_reducible refine k_c ?_
  | with_reducible refine k_cons ?_
  | with_reducible refine k_nil ?_
  | with_reducible refine k_I0 ?_
  | with_reducible refine k_ret ?_
  | with_reducible refine k_if ?_
  | with_reducible refine k_test ?_
  | with_reducible refine k_bl ?_
  | with_reducible refine k_cb ?_
  | with_reducible refine k_cl ?_
  | with_reducible refine k_int ?_
  | with_reducible refine k_tup ?_
  | with_reducible refine k_lst ?_
  | with_reducible refine k_fld ?_
  | with_reducible refine k_mt ?_
  | with_reducible refine k_for ?_
  | with_reducible refine k_iL ?_
  | with_reducible refine k_iT ?_
  | with_reducible refine k_iR1 ?_
  | with_reducible refine k_iS ?_
  | with_reducible refine k_par ?_
  | with_reducible refine k_ex2 ?_
  | with_reducible refine k_rfl2 ?_
  | with_reducible refine k_iZA ?_
  | with_reducible refine k_gcons ?_
  | with_reducible refine k_gnil ?_
  | with_reducible refine k_exI ?_
  | with_reducible refine k_bits ?_
  | with_reducible refine k_chain ?_
  | ((with_reducible refine' k_aug ?vh ?_); (case vh => rfl))
  | with_reducible refine k_ipI ?_
  | with_reducible refine k_inG ?_
  | with_reducible refine k_m1 ?_
  | with_reducible refine kM1.mk ?_
  | with_reducible refine k_yes ?_
  | with_reducible refine k_lc ?_
  | with_reducible refine k_andV ?_
  | with_reducible refine k_orV ?_
  | with_reducible refine k_tB ?_
  | with_reducible refine k_and ?_
  | with_reducible refine k_or ?_
  | with_reducible refine k_not ?_
  | with_reducible refine k_retN ?_
  | with_reducible refine k_next ?_
  | with_reducible refine k_fset ?_
  | with_reducible refine k_faug ?_
  | with_reducible refine k_sl ?_
  | with_reducible refine k_part ?_
  | with_reducible refine k_nopart ?_
  | with_reducible refine k_un ?_
  | with_reducible refine k_u1 ?_
  | with_reducible refine k_dget ?_
  | with_reducible refine k_din ?_
  | with_reducible refine k_dnin ?_
  | with_reducible refine k_dput ?_
  | with_reducible refine k_dget2 ?_
  | with_reducible refine k_bm ?_
  | with_reducible refine k_augs ?_
  | with_reducible refine k_gsub ?_
  | with_reducible refine k_enT ?_
  | with_reducible refine k_anyI ?_
  | with_reducible refine k_allI ?_
  | with_reducible refine k_lenX ?_
  | with_reducible refine k_sortX ?_
  | with_reducible refine k_drop ?_))
local macro_rules | `(tactic| walk_at "go") => `(tactic| ((try dsimp only [cxOf]); walk_at "st"))
local macro_rules | `(tactic| walk_at "len") => `(tactic| (simp only [List.length_append, List.length_map, List.length_cons, List.length_nil, List.length_replicate] at *; omega))

variable {P : Program} {w : World} {K : PySem.W.Frag} {mg : Str → Option Value} {base : Heap}
/-! ### what a deed does -/
def spDo (K : PySem.W.Frag) (sel : Dd → Prop) : Sp := fun vs H Q E => ∃ (X : DoX) (o : Option Tree) (pl : Int) (b : Nat) (v : V) (d : Dd), vs = [.ref X.p, v] ∧ DoE K X H o pl b ∧ b ≤ 800 ∧ Is K H v (.tuple d.ds) ∧ d.ok X.kd X.m ∧ sel d ∧ Ref K X H E ∧
  ∀ o' H', Lx X.S H H' → DoE K X H' o' pl (b + 10) → (∀ j, tot o' j = tot o j + d.net j) → Q .non H'
def isMnt : Dd → Prop
  | .mnt .. => True
  | _ => False
def isBrn : Dd → Prop
  | .brn .. => True
  | _ => False
def isMov : Dd → Prop
  | .mov .. => True
  | _ => False
def isChg : Dd → Prop
  | .chg .. => True
  | _ => False
def isOpn : Dd → Prop
  | .opn .. => True
  | _ => False
def isRul : Dd → Prop
  | .rul .. => True
  | _ => False
def isCls : Dd → Prop
  | .cls .. => True
  | _ => False
theorem bank_nA : (("bank" : Str), 58026451009536) ∈ nmA := by decide +kernel
theorem mint_nA : (("mint" : Str), 106954869440512) ∈ nmA := by decide +kernel
theorem DoE.mono {X : DoX} {H : Hp} {o : Option Tree} {pl : Int} {b c : Nat} (h : DoE K X H o pl b) (hb : b ≤ c) : DoE K X H o pl c := by
  obtain ⟨tv, sg, tm, gv, hd⟩ := h
  exact ⟨tv, sg, tm, gv, hd.mono hb⟩
theorem ok_do_mint [Pz P] (Z : Zed w K mg) : Fn P w K mg base (L2.CX P w) 57 (He.ga K "do_mint") (spDo K isMnt) := by
  have O_Doing_account := ok_Doing_account (P := P) (base := base) Z
  have O_Doing_need_signed := ok_Doing_need_signed (P := P) (base := base) Z
  have O_Doing_take := ok_Doing_take (P := P) (base := base) Z
  refine Fn.ofX (F_do_mint Z) sc_do_mint (fun _ _ _ _ _ _ us hl => match us, hl with | [_, _], _ => rfl) (fun vs H Q E h => ?_) (fun cdv A outer s H vs Q E hr h => ?_)
  · obtain ⟨X, o, pl, b, v, d, rfl, _⟩ := h
    rfl
  · obtain ⟨X, o, pl, b, v, d, rfl, ⟨tv, sg, tm, gv, hd⟩, hb, hv, ok, sel, hE, q⟩ := h
    obtain ⟨n, k, a, rfl⟩ : ∃ n k a, d = .mnt n k a := by
      cases d with
      | mnt n k a => exact ⟨n, k, a, rfl⟩
      | _ => cases sel
    refine ⟨_, (pss_cons (ps_expr (pe_m Z.c_Doing Z.t_Doing_account O_Doing_account hr (by decide) passX (pv 0) (pa_cons (pe_ix ix_tup (pv 1) pe_int (fun _ _ => rfl)) pa_nil))) (pss_cons (ps_expr (pe_m Z.c_Doing Z.t_Doing_account O_Doing_account hr (by decide) passX (pv 0) (pa_cons (pe_gz Z.z_MINT) pa_nil))) (pss_cons (ps_expr (pe_m Z.c_Doing Z.t_Doing_need_signed O_Doing_need_signed hr (by decide) passX (pv 0) (pa_cons (pe_gz Z.z_MINT) pa_nil))) (pss_one (ps_expr (pe_m Z.c_Doing Z.t_Doing_take O_Doing_take hr (by decide) passX (pv 0) (pa_cons (pe_ix ix_tup (pv 1) pe_int (fun _ _ => rfl)) (pa_cons (pe_ix ix_tup (pv 1) pe_int (fun _ _ => rfl)) (pa_cons (pe_ix ix_tup (pv 1) pe_int (fun _ _ => rfl)) pa_nil))))))))), ?_⟩
    obtain ⟨hn, hk, ha⟩ := ok
    obtain ⟨p, rfl, sq⟩ := flat_tup hv rfl
    walk_at "go"
    refine kMt.mk hd.at_ (by kernel_rfl) ?_
    walk_at "st"
    refine k_ixT sq rfl ?_
    walk_at "st"
    refine ⟨X, _, pl, _, _, _, rfl, ⟨_, _, _, _, hd⟩, nmA_L hn, hE, fun _ _ _ _ _ _ _ => ?_⟩
    walk_at "st"
    refine kMt.mk hd.at_ (by kernel_rfl) ?_
    walk_at "st"
    refine ⟨X, _, pl, _, _, _, rfl, ⟨_, _, _, _, hd⟩, nmA_L (n := ("mint", 106954869440512)) mint_nA, hE, fun _ _ _ _ _ _ _ => ?_⟩
    walk_at "st"
    refine kMt.mk hd.at_ (by kernel_rfl) ?_
    walk_at "st"
    refine ⟨X, o, pl, b, _, _, rfl, ⟨_, _, _, _, hd⟩, nmA_L (n := ("mint", 106954869440512)) mint_nA, hE, ?_⟩
    walk_at "st"
    refine kMt.mk hd.at_ (by kernel_rfl) ?_
    walk_at "st"
    refine k_ixT sq rfl ?_
    walk_at "st"
    refine k_ixT sq rfl ?_
    walk_at "st"
    refine k_ixT sq rfl ?_
    walk_at "st"
    refine ⟨X, o, pl, b, n.1, n.2, k, a, rfl, ⟨_, _, _, _, hd⟩, hn, hk, by have := ha.1; omega, hE, fun o' H' x h ht => q o' H' x (h.mono (by omega)) fun j => ?_⟩
    rw [ht j]
    show _ + _ = _ + (if k = j then a else 0)
    by_cases e : j = k
    · rw [if_pos e, if_pos e.symm]
    · rw [if_neg e, if_neg fun z => e z.symm]
theorem ok_do_burn [Pz P] (Z : Zed w K mg) : Fn P w K mg base (L2.CX P w) 57 (He.ga K "do_burn") (spDo K isBrn) := by
  have O_Doing_account := ok_Doing_account (P := P) (base := base) Z
  have O_Doing_need_signed := ok_Doing_need_signed (P := P) (base := base) Z
  have O_Doing_pay := ok_Doing_pay (P := P) (base := base) Z
  refine Fn.ofX (F_do_burn Z) sc_do_burn (fun _ _ _ _ _ _ us hl => match us, hl with | [_, _], _ => rfl) (fun vs H Q E h => ?_) (fun cdv A outer s H vs Q E hr h => ?_)
  · obtain ⟨X, o, pl, b, v, d, rfl, _⟩ := h
    rfl
  · obtain ⟨X, o, pl, b, v, d, rfl, ⟨tv, sg, tm, gv, hd⟩, hb, hv, ok, sel, hE, q⟩ := h
    obtain ⟨n, k, a, rfl⟩ : ∃ n k a, d = .brn n k a := by
      cases d with
      | brn n k a => exact ⟨n, k, a, rfl⟩
      | _ => cases sel
    refine ⟨_, (pss_cons (ps_expr (pe_m Z.c_Doing Z.t_Doing_account O_Doing_account hr (by decide) passX (pv 0) (pa_cons (pe_ix ix_tup (pv 1) pe_int (fun _ _ => rfl)) pa_nil))) (pss_cons (ps_expr (pe_m Z.c_Doing Z.t_Doing_need_signed O_Doing_need_signed hr (by decide) passX (pv 0) (pa_cons (pe_ix ix_tup (pv 1) pe_int (fun _ _ => rfl)) pa_nil))) (pss_one (ps_expr (pe_m Z.c_Doing Z.t_Doing_pay O_Doing_pay hr (by decide) passX (pv 0) (pa_cons (pe_ix ix_tup (pv 1) pe_int (fun _ _ => rfl)) (pa_cons (pe_ix ix_tup (pv 1) pe_int (fun _ _ => rfl)) (pa_cons (pe_ix ix_tup (pv 1) pe_int (fun _ _ => rfl)) (pa_cons pe_bl pa_nil))))))))), ?_⟩
    obtain ⟨hn, hk, ha⟩ := ok
    obtain ⟨p, rfl, sq⟩ := flat_tup hv rfl
    walk_at "go"
    refine kMt.mk hd.at_ (by kernel_rfl) ?_
    walk_at "st"
    refine k_ixT sq rfl ?_
    walk_at "st"
    refine ⟨X, _, pl, _, _, _, rfl, ⟨_, _, _, _, hd⟩, nmA_L hn, hE, fun _ _ _ _ _ _ _ => ?_⟩
    walk_at "st"
    refine kMt.mk hd.at_ (by kernel_rfl) ?_
    walk_at "st"
    refine k_ixT sq rfl ?_
    walk_at "st"
    refine ⟨X, o, pl, b, _, _, rfl, ⟨_, _, _, _, hd⟩, nmA_L hn, hE, ?_⟩
    walk_at "st"
    refine kMt.mk hd.at_ (by kernel_rfl) ?_
    walk_at "st"
    refine k_ixT sq rfl ?_
    walk_at "st"
    refine k_ixT sq rfl ?_
    walk_at "st"
    refine k_ixT sq rfl ?_
    walk_at "st"
    refine ⟨X, o, pl, b, n.1, n.2, k, a, true, rfl, ⟨_, _, _, _, hd⟩, by omega, hn, hk, by have := ha.1; omega, hE, fun o' H' x h ht => q o' H' x (h.mono (by omega)) fun j => ?_⟩
    rw [ht j]
    show _ - _ = _ + (if k = j then -a else 0)
    by_cases e : j = k
    · rw [if_pos e, if_pos e.symm, Int.sub_eq_add_neg]
    · rw [if_neg e, if_neg fun z => e z.symm]
      omega
theorem ok_do_rule [Pz P] (Z : Zed w K mg) : Fn P w K mg base (L2.CX P w) 57 (He.ga K "do_rule") (spDo K isRul) := by
  have O_Doing_account := ok_Doing_account (P := P) (base := base) Z
  have O_Doing_keep_terms := ok_Doing_keep_terms (P := P) (base := base) Z
  have O_Doing_need_signed := ok_Doing_need_signed (P := P) (base := base) Z
  have O_put := ok_put (P := P) (base := base) Z 49
  refine Fn.ofX (F_do_rule Z) sc_do_rule (fun _ _ _ _ _ _ us hl => match us, hl with | [_, _], _ => rfl) (fun vs H Q E h => ?_) (fun cdv A outer s H vs Q E hr h => ?_)
  · obtain ⟨X, o, pl, b, v, d, rfl, _⟩ := h
    rfl
  · obtain ⟨X, o, pl, b, v, d, rfl, ⟨tv, sg, tm, gv, hd⟩, hb, hv, ok, sel, hE, q⟩ := h
    obtain ⟨n, ns, rfl⟩ : ∃ n ns, d = .rul n ns := by
      cases d with
      | rul n ns => exact ⟨n, ns, rfl⟩
      | _ => cases sel
    refine ⟨_, (pss_cons (ps_set (i := 2) sc_do_rule.nd rfl (Or.inl rfl) (pe_m Z.c_Doing Z.t_Doing_account O_Doing_account hr (by decide) passX (pv 0) (pa_cons (pe_ix ix_tup (pv 1) pe_int (fun _ _ => rfl)) pa_nil))) (pss_cons (ps_expr (pe_m Z.c_Doing Z.t_Doing_need_signed O_Doing_need_signed hr (by decide) passX (pv 0) (pa_cons (pe_ix ix_tup (pv 1) pe_int (fun _ _ => rfl)) pa_nil))) (pss_cons (ps_expr (pe_m Z.c_Doing Z.t_Doing_keep_terms O_Doing_keep_terms hr (by decide) pass0 (pv 0) (pa_cons (pe_ix ix_tup (pv 1) pe_int (fun _ _ => rfl)) pa_nil))) (pss_one (ps_fld (pv 0) (pe_f O_put hr (by decide) Z.g_put pass0 (pa_cons (pe_fld (pv 0) rfl) (pa_cons (pe_tup (pa_cons pe_str (pa_cons (pe_ix ix_tup (pv 1) pe_int (fun _ _ => rfl)) (pa_cons (pe_ix ix_tup (pv 2) pe_int (fun _ _ => rfl)) (pa_cons (pe_callTy cr_tuple (by rfl) Z.n_tuple (by decide +kernel) (pa_cons (pe_ix ix_tup (pv 1) pe_int (fun _ _ => rfl)) pa_nil)) pa_nil))))) pa_nil))) rfl))))), ?_⟩
    obtain ⟨hn, hns⟩ := ok
    obtain ⟨p, x, rfl, sq, hx⟩ := d3_inv hv
    obtain ⟨xp, rfl, sx⟩ := hx.ints_inv
    walk_at "go"
    refine kMt.mk hd.at_ (by kernel_rfl) ?_
    walk_at "st"
    refine k_ixT sq rfl ?_
    walk_at "st"
    refine ⟨X, _, pl, _, _, _, rfl, ⟨_, _, _, _, hd⟩, nmA_L hn, hE, fun L r t ho hL hLk hr1 => ?_⟩
    walk_at "st"
    subst ho
    obtain ⟨hw, hac⟩ := hd.ac t rfl
    have hA := hac L hL
    have hkd := hd.ru.kd3
    obtain ⟨lp, q1, r1, rfl, s1, s2, s3⟩ := leaf_inv hr1
    refine kMt.mk hd.at_ (by kernel_rfl) ?_
    walk_at "st"
    refine k_ixT sq rfl ?_
    walk_at "st"
    refine ⟨X, _, pl, b, _, _, rfl, ⟨_, _, _, _, hd⟩, nmA_L hn, hE, ?_⟩
    walk_at "st"
    refine kMt.mk hd.at_ (by kernel_rfl) ?_
    walk_at "st"
    refine k_ixT sq rfl ?_
    walk_at "st"
    refine ⟨X, _, pl, b, _, _, rfl, ⟨_, _, _, _, hd⟩, by omega, nmA_L hn, fun H1 x1 ⟨tv1, sg1, tm1, gv1, h1⟩ => ?_⟩
    walk_at "st"
    refine Z.f_d_tree h1.at_ ?_
    walk_at "st"
    refine k_ixT (x1.sqt sq) rfl ?_
    walk_at "st"
    refine k_ixT (x1.sqt s1) rfl ?_
    walk_at "st"
    refine k_ixT (x1.sqt sq) rfl ?_
    walk_at "st"
    refine k_tupleT (x1.sqt sx) ?_
    walk_at "st"
    refine kTup.mk (by show 4 ≤ 1000; decide) fun p6 H6 e6 n6 g6 => ?_
    have x6 := x1.trans e6.of
    have h6 := h1.le e6
    obtain ⟨l0, l1, l2, nd, li, hk, ho, ep, rfl, _, _, _, _, _, ⟨k0, k1⟩, _, _⟩ := hns
    have hN : NtL X.kd [l0, l1, l2, nd, li, hk, ho, ep] := ⟨l0, l1, l2, nd, li, ho, ep, hk.toNat, by rw [Int.toNat_of_nonneg k0], by omega⟩
    have hL2 : AcL X.kd ⟨n.1, n.2, L.ws, [l0, l1, l2, nd, li, hk, ho, ep]⟩ := ⟨hn, hA.len, hA.ws, hN⟩
    refine ⟨tv1, .ref p6, some t, ⟨n.1, n.2, L.ws, [l0, l1, l2, nd, li, hk, ho, ep]⟩, rfl, by decide, h6.is, h6.ac.wfo, fun t2 h2 => by cases h2; exact dep_lt hw, leaf_mk (SqT.of g6) (x6.sqt s2) (x6.sqt sx), hL2.nmT hkd, fun r7 H7 t7 e7 i7 hp => ?_⟩
    walk_at "st"
    obtain ⟨x8, h8⟩ := (h6.le e7).tree (o2 := some t7) i7 (h6.ac.put hL2 hkd hp)
    refine Z.s_tree (h6.le e7).at_ ?_
    refine q (some t7) _ ((x6.trans e7.of).trans x8) ⟨_, _, _, _, h8.mono (by omega)⟩ fun j => ?_
    have hs := Put.sum_old (hp : Put Nm t _ t7) hw hL (show L.k = n.2 from hLk) (wAt j)
    have hg : wAt j ⟨n.1, n.2, L.ws, [l0, l1, l2, nd, li, hk, ho, ep]⟩ = wAt j L := rfl
    rw [hg] at hs
    show sm (wAt j) t7.lvs = sm (wAt j) t.lvs + 0
    omega
theorem ok_do_close [Pz P] [Y : Tbs K mg base] (Z : Zed w K mg) : Fn P w K mg base (L2.CX P w) 57 (He.ga K "do_close") (spDo K isCls) := by
  have O_Doing_account := ok_Doing_account (P := P) (base := base) Z
  have O_Doing_need_signed := ok_Doing_need_signed (P := P) (base := base) Z
  have O_Doing_refuse := ok_Doing_refuse (P := P) (base := base) Z
  have O_drop := ok_drop (P := P) (base := base) Z
  refine Fn.ofXC (p := ("do_close", none)) (F_do_close Z) sc_do_close (fun _ _ _ _ _ _ us hl => match us, hl with | [_, _], _ => rfl) (fun vs H Q E h => ?_) (fun A outer s H vs Q E hr h => ?_)
  · obtain ⟨X, o, pl, b, v, d, rfl, _⟩ := h
    rfl
  · obtain ⟨X, o, pl, b, v, d, rfl, ⟨tv, sg, tm, gv, hd⟩, hb, hv, ok, sel, hE, q⟩ := h
    obtain ⟨n, rfl⟩ : ∃ n, d = .cls n := by
      cases d with
      | cls n => exact ⟨n, rfl⟩
      | _ => cases sel
    refine ⟨_, (pss_cons (ps_set (i := 2) sc_do_close.nd rfl (Or.inl rfl) (pe_m Z.c_Doing Z.t_Doing_account O_Doing_account hr (by decide) passX (pv 0) (pa_cons (pe_ix ix_tup (pv 1) pe_int (fun _ _ => rfl)) pa_nil))) (pss_cons (ps_expr (pe_m Z.c_Doing Z.t_Doing_need_signed O_Doing_need_signed hr (by decide) passX (pv 0) (pa_cons (pe_ix ix_tup (pv 1) pe_int (fun _ _ => rfl)) pa_nil))) (pss_cons (ps_if (pt_val (pe_anyI (cap := none) hr (by rfl) Z.n_any Y.close rfl (gens (by decide +kernel)) (pe_ix ix_tup (pv 2) pe_int (fun _ _ => rfl)) (elt_gt rfl (by rfl) (by decide)) (fun _ => rfl))) (pss_one (ps_expr (pe_m Z.c_Doing Z.t_Doing_refuse O_Doing_refuse hr (by decide) passX (pv 0) (pa_cons pe_str pa_nil)))) pss_nil) (pss_one (ps_fld (pv 0) (pe_f O_drop hr (by decide) Z.g_drop pass0 (pa_cons (pe_fld (pv 0) rfl) (pa_cons (pe_ix ix_tup (pv 1) pe_int (fun _ _ => rfl)) pa_nil))) rfl))))), ?_⟩
    have hn : n ∈ nmA := ok
    obtain ⟨p, rfl, sq⟩ := flat_tup hv rfl
    walk_at "go"
    refine kMt.mk hd.at_ (by kernel_rfl) ?_
    walk_at "st"
    refine k_ixT sq rfl ?_
    walk_at "st"
    refine ⟨X, _, pl, _, _, _, rfl, ⟨_, _, _, _, hd⟩, nmA_L hn, hE, fun L r t ho hL hLk hr1 => ?_⟩
    walk_at "st"
    subst ho
    obtain ⟨hw, hac⟩ := hd.ac t rfl
    have hA := hac L hL
    obtain ⟨lp, q1, r1, rfl, s1, s2, s3⟩ := leaf_inv hr1
    refine kMt.mk hd.at_ (by kernel_rfl) ?_
    walk_at "st"
    refine k_ixT sq rfl ?_
    walk_at "st"
    refine ⟨X, _, pl, b, _, _, rfl, ⟨_, _, _, _, hd⟩, nmA_L hn, hE, ?_⟩
    walk_at "st"
    refine k_ixT s1 rfl ?_
    walk_at "st"
    refine kAnyI.mk 0 s2 CapOk.no hd.t3.close fun H1 e1 => ?_
    have h1 := hd.le e1
    walk_at "st"
    refine k_if2 (fun _ => ?_) (fun hz => ?_)
    · walk_at "st"
      refine kMt.mk h1.at_ (by kernel_rfl) ?_
      walk_at "st"
      exact ⟨X, _, pl, b, "money", rfl, ⟨_, _, _, _, h1⟩, by decide +kernel, hE.mono e1.of⟩
    walk_at "st"
    refine Z.f_d_tree h1.at_ ?_
    walk_at "st"
    refine k_ixT (e1.sqt sq) rfl ?_
    walk_at "st"
    refine ⟨tv, n.1, n.2, t, rfl, h1.is, hw, nmA_L hn, ⟨L, hL, hLk⟩, fun r2 H2 o2 e2 i2 hwo => ?_⟩
    have hac2 : AcO X.kd o2 := fun t2 h2 => ⟨hwo.wf t2 h2, fun l hl => by
      have hm := hwo.lvs.mem_iff.mp (show l ∈ (o2.map Tr.lvs).getD [] by rw [h2]; exact hl)
      exact hac l (List.mem_filter.mp hm).1⟩
    walk_at "st"
    obtain ⟨x8, h8⟩ := (h1.le e2).tree (o2 := o2) i2 hac2
    refine Z.s_tree (h1.le e2).at_ ?_
    refine q o2 _ ((e1.trans e2).of.trans x8) ⟨_, _, _, _, h8.mono (by omega)⟩ fun j => ?_
    have hs := hwo.sum hw hL hLk (wAt j)
    have hz0 : wAt j L = 0 := by
      by_cases hj : j < L.ws.length
      · have hm := getD_mem hj
        have h0 := (hA.ws _ hm).1
        have h1 := List.any_eq_false.mp hz _ hm
        have h2 : ¬ (L.ws.getD j 0 > 0) := fun z => h1 (decide_eq_true z)
        show L.ws.getD j 0 = 0
        omega
      · show L.ws.getD j 0 = 0
        rw [List.getD_eq_getElem?_getD, List.getElem?_eq_none_iff.mpr (by omega)]
        rfl
    show sm (wAt j) (lvsO o2) = sm (wAt j) t.lvs + 0
    have hs2 : sm (wAt j) (lvsO o2) + wAt j L = sm (wAt j) t.lvs := hs
    omega
theorem ok_do_open [Pz P] (Z : Zed w K mg) : Fn P w K mg base (L2.CX P w) 57 (He.ga K "do_open") (spDo K isOpn) := by
  have O_Doing_refuse := ok_Doing_refuse (P := P) (base := base) Z
  have O_get := ok_get (P := P) (base := base) Z
  have O_new_account := ok_new_account (P := P) (base := base) Z
  have O_put := ok_put (P := P) (base := base) Z 49
  refine Fn.ofX (F_do_open Z) sc_do_open (fun _ _ _ _ _ _ us hl => match us, hl with | [_, _], _ => rfl) (fun vs H Q E h => ?_) (fun cdv A outer s H vs Q E hr h => ?_)
  · obtain ⟨X, o, pl, b, v, d, rfl, _⟩ := h
    rfl
  · obtain ⟨X, o, pl, b, v, d, rfl, ⟨tv, sg, tm, gv, hd⟩, hb, hv, ok, sel, hE, q⟩ := h
    obtain ⟨n, ns, rfl⟩ : ∃ n ns, d = .opn n ns := by
      cases d with
      | opn n ns => exact ⟨n, ns, rfl⟩
      | _ => cases sel
    refine ⟨_, (pss_cons (ps_if (pt_cmpR op_notN (pe_f O_get hr (by decide) Z.g_get pass0 (pa_cons (pe_fld (pv 0) rfl) (pa_cons (pe_ix ix_tup (pv 1) pe_int (fun _ _ => rfl)) pa_nil))) pe_non (nomark _)) (pss_one (ps_expr (pe_m Z.c_Doing Z.t_Doing_refuse O_Doing_refuse hr (by decide) passX (pv 0) (pa_cons pe_str pa_nil)))) pss_nil) (pss_cons (ps_fld (pv 0) (pe_f O_put hr (by decide) Z.g_put pass0 (pa_cons (pe_fld (pv 0) rfl) (pa_cons (pe_f O_new_account hr (by decide) Z.g_new_account pass0 (pa_cons (pe_ix ix_tup (pv 1) pe_int (fun _ _ => rfl)) (pa_cons (pe_fld (pe_fld (pv 0) rfl) rfl) (pa_cons (pe_ix ix_tup (pv 1) pe_int (fun _ _ => rfl)) pa_nil)))) pa_nil))) rfl) (pss_cons (ps_dput (hu_of hr) (pe_fld (pv 0) rfl) (pe_ix ix_tup (pv 1) pe_int (fun _ _ => rfl)) (pe_callTy cr_tuple (by rfl) Z.n_tuple (by decide +kernel) (pa_cons (pe_ix ix_tup (pv 1) pe_int (fun _ _ => rfl)) pa_nil)) rfl) (pss_cons (ps_dput (hu_of hr) (pe_fld (pv 0) rfl) (pe_ix ix_tup (pv 1) pe_int (fun _ _ => rfl)) pe_int rfl) (pss_one (ps_for (passes_of rfl) rfl (pi_range1 (by rfl) Z.n_range (pa_cons (pe_fld (pe_fld (pv 0) rfl) rfl) pa_nil)) (pg_name (i := 2) sc_do_open.nd rfl (Or.inl rfl)) (pss_one (ps_dput (hu_of hr) (pe_fld (pv 0) rfl) (pe_tup (pa_cons (pe_ix ix_tup (pv 1) pe_int (fun _ _ => rfl)) (pa_cons (pv 2) pa_nil))) pe_int rfl)))))))), ?_⟩
    obtain ⟨hn, hns⟩ := ok
    obtain ⟨p, x, rfl, sq, hx⟩ := d3_inv hv
    obtain ⟨xp, rfl, sx⟩ := hx.ints_inv
    have hkd := hd.ru.kd3
    obtain ⟨rx, hrx⟩ := hd.ru.at_
    walk_at "go"
    refine Z.f_d_tree hd.at_ ?_
    walk_at "st"
    refine k_ixT sq rfl ?_
    walk_at "st"
    refine ⟨tv, n.1, n.2, o, rfl, hd.is, hd.ac.wfo, nmA_L hn, fun hno => ?_, fun L r t ho hL hLk hr1 => ?_⟩
    case refine_2 =>
      walk_at "st"
      refine k_ifT (by rw [tr_some (t := .leaf L) (by rw [leaf_tr]; exact hr1)]; rfl) ?_
      walk_at "st"
      refine kMt.mk hd.at_ (by kernel_rfl) ?_
      walk_at "st"
      exact ⟨X, _, pl, b, "there", rfl, ⟨_, _, _, _, hd⟩, by decide +kernel, hE⟩
    walk_at "st"
    refine k_ifF rfl ?_
    walk_at "st"
    refine Z.f_d_tree hd.at_ ?_
    walk_at "st"
    refine k_ixT sq rfl ?_
    walk_at "st"
    refine Z.f_d_rules hd.at_ ?_
    walk_at "st"
    refine Z.f_kinds hrx ?_
    walk_at "st"
    refine k_ixT sq rfl ?_
    walk_at "st"
    refine ⟨n.1, n.2, X.kd, .ref xp, ns, rfl, hkd, .of_ints sx, fun r1 H1 e1 i1 => ?_⟩
    have h1 := hd.le e1
    obtain ⟨l0, l1, l2, nd, li, hk, ho, ep, rfl, _, _, _, _, _, ⟨k0, k1⟩, _, _⟩ := hns
    have hN : NtL X.kd [l0, l1, l2, nd, li, hk, ho, ep] := ⟨l0, l1, l2, nd, li, ho, ep, hk.toNat, by rw [Int.toNat_of_nonneg k0], by omega⟩
    have hL2 : AcL X.kd ⟨n.1, n.2, List.replicate X.kd 0, [l0, l1, l2, nd, li, hk, ho, ep]⟩ := ⟨hn, List.length_replicate, fun y hy => by
      rw [(List.mem_replicate.mp hy).2]
      decide, hN⟩
    walk_at "st"
    refine ⟨tv, r1, o, _, rfl, by decide, h1.is, h1.ac.wfo, fun t2 h2 => dep_lt (hd.ac t2 h2).1, i1, hL2.nmT hkd, fun r2 H2 t2 e2 i2 hp => ?_⟩
    walk_at "st"
    obtain ⟨x3, h3⟩ := (h1.le e2).tree (o2 := some t2) i2 (hd.ac.put hL2 hkd hp)
    refine Z.s_tree (h1.le e2).at_ ?_
    have x03 := (e1.trans e2).of.trans x3
    generalize upd H2 X.p (.ins (He.ga K "Doing") X.dx (doF X.s X.r X.e r2 X.g pl X.a1 X.a2 X.a3)) = H3 at h3 x03 x3
    walk_at "st"
    refine k_ixT (x03.sqt sq) rfl ?_
    walk_at "st"
    refine k_tupleT (x03.sqt sx) ?_
    walk_at "st"
    refine Z.f_d_terms h3.at_ ?_
    walk_at "st"
    refine k_ixT (x03.sqt sq) rfl ?_
    walk_at "st"
    obtain ⟨x4, h4⟩ := h3.terms (.inr n.1) (v := .ref xp) (.of_ints (x03.sqt sx)) hN
    refine kDP.s h3.d2 (by have := h3.l2; omega) ?_
    have x04 := x03.trans x4
    walk_at "st"
    refine Z.f_d_signed h4.at_ ?_
    walk_at "st"
    refine k_ixT (x04.sqt sq) rfl ?_
    walk_at "st"
    obtain ⟨x5, h5⟩ := h4.signed (.inr n.1) 0
    refine kDP.s h4.d1 (by have := h4.l1; omega) ?_
    have x05 := x04.trans x5
    walk_at "st"
    refine Z.f_d_rules h5.at_ ?_
    walk_at "st"
    obtain ⟨rx5, hrx5⟩ := h5.ru.at_
    refine Z.f_kinds hrx5 ?_
    walk_at "st"
    have hsum : ∀ j, tot (some t2) j = tot o j + (Dd.opn n [l0, l1, l2, nd, li, hk, ho, ep]).net j := fun j => by
      have hw0 : wAt j ⟨n.1, n.2, List.replicate X.kd 0, [l0, l1, l2, nd, li, hk, ho, ep]⟩ = 0 := by
        show (List.replicate X.kd (0 : Int)).getD j 0 = 0
        rw [List.getD_eq_getElem?_getD, List.getElem?_replicate]
        split <;> rfl
      cases o with
      | none =>
        obtain rfl : t2 = .leaf _ := hp
        show sm (wAt j) [_] = sm (wAt j) [] + 0
        show wAt j _ + 0 = 0 + 0
        rw [hw0]
      | some t =>
        have hs := Put.sum_new (hp : Put Nm t _ t2) (fun y hy => hno t rfl y hy) (wAt j)
        rw [hw0] at hs
        exact hs
    refine kR1.mk X.kd rfl (by omega) (kFor.rng (Pv := fun i σ H' => Lx X.S H H' ∧ DoE K X H' (some t2) pl (b + 2 + i) ∧ ∃ c, σ = [some (.ref X.p), some (.ref p), c]) X.kd ⟨x05, ⟨_, _, _, _, h5⟩, _, rfl⟩ (fun i σ H6 hi z => ?_) fun σ H6 z => ?_)
    · obtain ⟨x6, ⟨tv6, sg6, tm6, gv6, h6⟩, c, rfl⟩ := z
      walk_at "st"
      refine Z.f_d_given h6.at_ ?_
      walk_at "st"
      refine k_ixT (x6.sqt sq) rfl ?_
      walk_at "st"
      refine kTup.mk (by show 2 ≤ 1000; decide) fun p7 H7 e7 n7 g7 => ?_
      have h7 := h6.le e7
      obtain ⟨x8, h8⟩ := h7.given [.inr n.1, .inl (i : Nat)] 0
      refine kDP.tt (k := [.inr n.1, .inl (i : Nat)]) h7.d3 g7 (by have := h7.l3; omega) ?_
      exact ⟨(x6.trans e7.of).trans x8, ⟨_, _, _, _, h8⟩, _, rfl⟩
    · obtain ⟨x6, h6, c, rfl⟩ := z
      exact q (some t2) _ x6 (h6.mono (by omega)) hsum
theorem ok_do_move [Pz P] (Z : Zed w K mg) : Fn P w K mg base (L2.CX P w) 57 (He.ga K "do_move") (spDo K isMov) := by
  have O_Doing_account := ok_Doing_account (P := P) (base := base) Z
  have O_Doing_need_signed := ok_Doing_need_signed (P := P) (base := base) Z
  have O_Doing_pay := ok_Doing_pay (P := P) (base := base) Z
  have O_Doing_refuse := ok_Doing_refuse (P := P) (base := base) Z
  have O_Doing_take := ok_Doing_take (P := P) (base := base) Z
  refine Fn.ofX (F_do_move Z) sc_do_move (fun _ _ _ _ _ _ us hl => match us, hl with | [_, _], _ => rfl) (fun vs H Q E h => ?_) (fun cdv A outer s H vs Q E hr h => ?_)
  · obtain ⟨X, o, pl, b, v, d, rfl, _⟩ := h
    rfl
  · obtain ⟨X, o, pl, b, v, d, rfl, ⟨tv, sg, tm, gv, hd⟩, hb, hv, ok, sel, hE, q⟩ := h
    obtain ⟨n, on, k, a, rfl⟩ : ∃ n on k a, d = .mov n on k a := by
      cases d with
      | mov n on k a => exact ⟨n, on, k, a, rfl⟩
      | _ => cases sel
    refine ⟨_, (pss_cons (ps_asg (pe_tup (pa_cons (pe_ix ix_tup (pv 1) pe_int (fun _ _ => rfl)) (pa_cons (pe_ix ix_tup (pv 1) pe_int (fun _ _ => rfl)) (pa_cons (pe_ix ix_tup (pv 1) pe_int (fun _ _ => rfl)) (pa_cons (pe_ix ix_tup (pv 1) pe_int (fun _ _ => rfl)) pa_nil))))) (pg_tup rfl (pgs_cons (pg_name (i := 2) sc_do_move.nd rfl (Or.inl rfl)) (pgs_cons (pg_name (i := 3) sc_do_move.nd rfl (Or.inl rfl)) (pgs_cons (pg_name (i := 4) sc_do_move.nd rfl (Or.inl rfl)) (pgs_cons (pg_name (i := 5) sc_do_move.nd rfl (Or.inl rfl)) pgs_nil)))))) (pss_cons (ps_if (pt_cmpR op_eq (pv 2) (pv 3) (nomark _)) (pss_one (ps_expr (pe_m Z.c_Doing Z.t_Doing_refuse O_Doing_refuse hr (by decide) passX (pv 0) (pa_cons pe_str pa_nil)))) pss_nil) (pss_cons (ps_expr (pe_m Z.c_Doing Z.t_Doing_account O_Doing_account hr (by decide) passX (pv 0) (pa_cons (pv 2) pa_nil))) (pss_cons (ps_expr (pe_m Z.c_Doing Z.t_Doing_account O_Doing_account hr (by decide) passX (pv 0) (pa_cons (pv 3) pa_nil))) (pss_cons (ps_expr (pe_m Z.c_Doing Z.t_Doing_need_signed O_Doing_need_signed hr (by decide) passX (pv 0) (pa_cons (pv 2) pa_nil))) (pss_cons (ps_expr (pe_m Z.c_Doing Z.t_Doing_pay O_Doing_pay hr (by decide) passX (pv 0) (pa_cons (pv 2) (pa_cons (pv 4) (pa_cons (pv 5) (pa_cons pe_bl pa_nil)))))) (pss_cons (ps_expr (pe_m Z.c_Doing Z.t_Doing_take O_Doing_take hr (by decide) passX (pv 0) (pa_cons (pv 3) (pa_cons (pv 4) (pa_cons (pv 5) pa_nil))))) (pss_one (ps_if (PW.pt (pw_and (pt_cmpR op_gt (pe_fld (pe_fld (pv 0) rfl) rfl) pe_int (nomark _)) (pw_and1 (pt_cmpR op_notIn_seq (pe_gz Z.z_BANK) (pe_tup (pa_cons (pv 2) (pa_cons (pv 3) pa_nil))) (by rfl))))) (pss_cons (ps_expr (pe_m Z.c_Doing Z.t_Doing_account O_Doing_account hr (by decide) passX (pv 0) (pa_cons (pe_gz Z.z_BANK) pa_nil))) (pss_cons (ps_expr (pe_m Z.c_Doing Z.t_Doing_pay O_Doing_pay hr (by decide) passX (pv 0) (pa_cons (pv 2) (pa_cons pe_int (pa_cons (pe_fld (pe_fld (pv 0) rfl) rfl) (pa_cons pe_bl pa_nil)))))) (pss_one (ps_expr (pe_m Z.c_Doing Z.t_Doing_take O_Doing_take hr (by decide) passX (pv 0) (pa_cons (pe_gz Z.z_BANK) (pa_cons pe_int (pa_cons (pe_fld (pe_fld (pv 0) rfl) rfl) pa_nil)))))))) pss_nil))))))))), ?_⟩
    obtain ⟨hn, hon, hk, ha⟩ := ok
    have ha0 : 0 ≤ a := by have := ha.1; omega
    have hkd := hd.ru.kd1
    obtain ⟨p, rfl, sq⟩ := flat_tup hv rfl
    walk_at "go"
    refine k_ixT sq rfl ?_
    walk_at "st"
    refine k_ixT sq rfl ?_
    walk_at "st"
    refine k_ixT sq rfl ?_
    walk_at "st"
    refine k_ixT sq rfl ?_
    walk_at "st"
    refine kTup.mk (by show 4 ≤ 1000; decide) fun pt H0 e0 nt gt => ?_
    have hd0 := hd.le e0
    have hE0 : Ref K X H0 E := hE.mono e0.of
    refine k_gtup (SqT.of gt) rfl ?_
    walk_at "st"
    refine k_eq rfl ?_
    walk_at "st"
    refine k_if2 (fun _ => ?_) (fun _ => ?_)
    · walk_at "st"
      refine kMt.mk hd0.at_ (by kernel_rfl) ?_
      walk_at "st"
      exact ⟨X, _, pl, b, "same", rfl, ⟨_, _, _, _, hd0⟩, by decide +kernel, hE0⟩
    walk_at "st"
    refine kMt.mk hd0.at_ (by kernel_rfl) ?_
    walk_at "st"
    refine ⟨X, _, pl, _, _, _, rfl, ⟨_, _, _, _, hd0⟩, nmA_L hn, hE0, fun _ _ _ _ _ _ _ => ?_⟩
    walk_at "st"
    refine kMt.mk hd0.at_ (by kernel_rfl) ?_
    walk_at "st"
    refine ⟨X, _, pl, _, _, _, rfl, ⟨_, _, _, _, hd0⟩, nmA_L hon, hE0, fun _ _ _ _ _ _ _ => ?_⟩
    walk_at "st"
    refine kMt.mk hd0.at_ (by kernel_rfl) ?_
    walk_at "st"
    refine ⟨X, _, pl, b, _, _, rfl, ⟨_, _, _, _, hd0⟩, nmA_L hn, hE0, ?_⟩
    walk_at "st"
    refine kMt.mk hd0.at_ (by kernel_rfl) ?_
    walk_at "st"
    refine ⟨X, _, pl, _, _, _, k, a, true, rfl, ⟨_, _, _, _, hd0⟩, (by omega), hn, hk, ha0, hE0, fun o1 H1 x1 ⟨tv1, sg1, tm1, gv1, h1⟩ t1 => ?_⟩
    walk_at "st"
    refine kMt.mk h1.at_ (by kernel_rfl) ?_
    walk_at "st"
    refine ⟨X, _, pl, _, _, _, k, a, rfl, ⟨_, _, _, _, h1⟩, hon, hk, ha0, (hE0.mono x1), fun o2 H2 x2 ⟨tv2, sg2, tm2, gv2, h2⟩ t2 => ?_⟩
    walk_at "st"
    have x02 := (e0.of.trans x1).trans x2
    have ht2 : ∀ j, tot o2 j = tot o j + (Dd.mov n on k a).net j := fun j => by
      rw [t2 j, t1 j]
      show _ = _ + 0
      split <;> omega
    have done : Q .non H2 := q o2 H2 x02 ⟨_, _, _, _, h2.mono (by omega)⟩ ht2
    refine Z.f_d_rules h2.at_ ?_
    walk_at "st"
    obtain ⟨rx2, hrx2⟩ := h2.ru.at_
    refine Z.f_fee hrx2 ?_
    walk_at "st"
    refine k_if2 (fun hf => ?_) (fun _ => ?_)
    case refine_2 => exact done
    have hfee : 0 ≤ X.fee := h2.ru.fee0
    walk_at "st"
    refine kTup.mk (by show 2 ≤ 1000; decide) fun p3 H3 e3 n3 g3 => ?_
    have h3 := h2.le e3
    have hE3 : Ref K X H3 E := (hE0.mono (x1.trans x2)).mono e3.of
    refine ⟨p3, _, rfl, .inr (SqT.of g3), rfl, rfl, ?_⟩
    walk_at "st"
    refine k_if2 (fun _ => ?_) (fun _ => ?_)
    case refine_2 => exact q o2 H3 (x02.trans e3.of) ⟨_, _, _, _, h3.mono (by omega)⟩ ht2
    walk_at "st"
    refine kMt.mk h3.at_ (by kernel_rfl) ?_
    walk_at "st"
    refine ⟨X, _, pl, _, _, _, rfl, ⟨_, _, _, _, h3⟩, nmA_L (n := ("bank", 58026451009536)) bank_nA, hE3, fun _ _ _ _ _ _ _ => ?_⟩
    walk_at "st"
    refine kMt.mk h3.at_ (by kernel_rfl) ?_
    walk_at "st"
    refine Z.f_d_rules h3.at_ ?_
    walk_at "st"
    obtain ⟨rx3, hrx3⟩ := h3.ru.at_
    refine Z.f_fee hrx3 ?_
    walk_at "st"
    refine ⟨X, _, pl, _, _, _, 0, X.fee, true, rfl, ⟨_, _, _, _, h3⟩, (by omega), hn, by omega, hfee, hE3, fun o4 H4 x4 ⟨tv4, sg4, tm4, gv4, h4⟩ t4 => ?_⟩
    walk_at "st"
    refine kMt.mk h4.at_ (by kernel_rfl) ?_
    walk_at "st"
    refine Z.f_d_rules h4.at_ ?_
    walk_at "st"
    obtain ⟨rx4, hrx4⟩ := h4.ru.at_
    refine Z.f_fee hrx4 ?_
    walk_at "st"
    refine ⟨X, _, pl, _, _, _, 0, X.fee, rfl, ⟨_, _, _, _, h4⟩, (bank_nA : (_, _) ∈ nmA), by omega, hfee, hE3.mono x4, fun o5 H5 x5 h5 t5 => ?_⟩
    refine q o5 H5 (((x02.trans e3.of).trans x4).trans x5) (h5.mono (by omega)) fun j => ?_
    rw [t5 j, t4 j, ht2 j]
    split <;> omega
theorem ok_do_change [Pz P] (Z : Zed w K mg) : Fn P w K mg base (L2.CX P w) 57 (He.ga K "do_change") (spDo K isChg) := by
  have O_Doing_account := ok_Doing_account (P := P) (base := base) Z
  have O_Doing_need_signed := ok_Doing_need_signed (P := P) (base := base) Z
  have O_Doing_pay := ok_Doing_pay (P := P) (base := base) Z
  have O_Doing_refuse := ok_Doing_refuse (P := P) (base := base) Z
  have O_Doing_take := ok_Doing_take (P := P) (base := base) Z
  refine Fn.ofX (F_do_change Z) sc_do_change (fun _ _ _ _ _ _ us hl => match us, hl with | [_, _], _ => rfl) (fun vs H Q E h => ?_) (fun cdv A outer s H vs Q E hr h => ?_)
  · obtain ⟨X, o, pl, b, v, d, rfl, _⟩ := h
    rfl
  · obtain ⟨X, o, pl, b, v, d, rfl, ⟨tv, sg, tm, gv, hd⟩, hb, hv, ok, sel, hE, q⟩ := h
    obtain ⟨n, g, k, a, rfl⟩ : ∃ n g k a, d = .chg n g k a := by
      cases d with
      | chg n g k a => exact ⟨n, g, k, a, rfl⟩
      | _ => cases sel
    refine ⟨_, (pss_cons (ps_asg (pe_tup (pa_cons (pe_ix ix_tup (pv 1) pe_int (fun _ _ => rfl)) (pa_cons (pe_ix ix_tup (pv 1) pe_int (fun _ _ => rfl)) (pa_cons (pe_ix ix_tup (pv 1) pe_int (fun _ _ => rfl)) (pa_cons (pe_ix ix_tup (pv 1) pe_int (fun _ _ => rfl)) pa_nil))))) (pg_tup rfl (pgs_cons (pg_name (i := 2) sc_do_change.nd rfl (Or.inl rfl)) (pgs_cons (pg_name (i := 3) sc_do_change.nd rfl (Or.inl rfl)) (pgs_cons (pg_name (i := 4) sc_do_change.nd rfl (Or.inl rfl)) (pgs_cons (pg_name (i := 5) sc_do_change.nd rfl (Or.inl rfl)) pgs_nil)))))) (pss_cons (ps_expr (pe_m Z.c_Doing Z.t_Doing_account O_Doing_account hr (by decide) passX (pv 0) (pa_cons (pv 2) pa_nil))) (pss_cons (ps_expr (pe_m Z.c_Doing Z.t_Doing_account O_Doing_account hr (by decide) passX (pv 0) (pa_cons (pe_gz Z.z_BANK) pa_nil))) (pss_cons (ps_if (pt_cmpR op_eq (pv 2) (pe_gz Z.z_BANK) (nomark _)) (pss_one (ps_expr (pe_m Z.c_Doing Z.t_Doing_refuse O_Doing_refuse hr (by decide) passX (pv 0) (pa_cons pe_str pa_nil)))) pss_nil) (pss_cons (ps_if (pt_cmp (pc_dnotin (hu_of hr) (pe_tup (pa_cons (pv 3) (pa_cons (pv 4) pa_nil))) (pe_fld (pe_fld (pv 0) rfl) rfl)) (by rfl)) (pss_one (ps_expr (pe_m Z.c_Doing Z.t_Doing_refuse O_Doing_refuse hr (by decide) passX (pv 0) (pa_cons pe_str pa_nil)))) pss_nil) (pss_cons (ps_expr (pe_m Z.c_Doing Z.t_Doing_need_signed O_Doing_need_signed hr (by decide) passX (pv 0) (pa_cons (pv 2) pa_nil))) (pss_cons (ps_set (i := 6) sc_do_change.nd rfl (Or.inl rfl) (pe_dget (hu_of hr) (pe_fld (pe_fld (pv 0) rfl) rfl) (pe_tup (pa_cons (pv 3) (pa_cons (pv 4) pa_nil))) (fun _ _ => rfl))) (pss_cons (ps_set (i := 7) sc_do_change.nd rfl (Or.inl rfl) (pe_op op_fdiv (pe_op op_mul (pv 5) (pe_ix ix_tup (pv 6) pe_int (fun _ _ => rfl))) (pe_ix ix_tup (pv 6) pe_int (fun _ _ => rfl)))) (pss_cons (ps_if (pt_cmpR op_eq (pv 7) pe_int (nomark _)) (pss_one (ps_expr (pe_m Z.c_Doing Z.t_Doing_refuse O_Doing_refuse hr (by decide) passX (pv 0) (pa_cons pe_str pa_nil)))) pss_nil) (pss_cons (ps_expr (pe_m Z.c_Doing Z.t_Doing_pay O_Doing_pay hr (by decide) passX (pv 0) (pa_cons (pv 2) (pa_cons (pv 3) (pa_cons (pv 5) (pa_cons pe_bl pa_nil)))))) (pss_cons (ps_expr (pe_m Z.c_Doing Z.t_Doing_take O_Doing_take hr (by decide) passX (pv 0) (pa_cons (pe_gz Z.z_BANK) (pa_cons (pv 3) (pa_cons (pv 5) pa_nil))))) (pss_cons (ps_expr (pe_m Z.c_Doing Z.t_Doing_pay O_Doing_pay hr (by decide) passX (pv 0) (pa_cons (pe_gz Z.z_BANK) (pa_cons (pv 4) (pa_cons (pv 7) (pa_cons pe_bl pa_nil)))))) (pss_one (ps_expr (pe_m Z.c_Doing Z.t_Doing_take O_Doing_take hr (by decide) passX (pv 0) (pa_cons (pv 2) (pa_cons (pv 4) (pa_cons (pv 7) pa_nil)))))))))))))))))), ?_⟩
    obtain ⟨hn, hg, hk, ha⟩ := ok
    have ha0 : 0 ≤ a := by have := ha.1; omega
    obtain ⟨p, rfl, sq⟩ := flat_tup hv rfl
    walk_at "go"
    refine k_ixT sq rfl ?_
    walk_at "st"
    refine k_ixT sq rfl ?_
    walk_at "st"
    refine k_ixT sq rfl ?_
    walk_at "st"
    refine k_ixT sq rfl ?_
    walk_at "st"
    refine kTup.mk (by show 4 ≤ 1000; decide) fun pt H0 e0 nt gt => ?_
    have hd0 := hd.le e0
    have hE0 : Ref K X H0 E := hE.mono e0.of
    refine k_gtup (SqT.of gt) rfl ?_
    walk_at "st"
    refine kMt.mk hd0.at_ (by kernel_rfl) ?_
    walk_at "st"
    refine ⟨X, _, pl, _, _, _, rfl, ⟨_, _, _, _, hd0⟩, nmA_L hn, hE0, fun _ _ _ _ _ _ _ => ?_⟩
    walk_at "st"
    refine kMt.mk hd0.at_ (by kernel_rfl) ?_
    walk_at "st"
    refine ⟨X, _, pl, _, _, _, rfl, ⟨_, _, _, _, hd0⟩, nmA_L (n := ("bank", 58026451009536)) bank_nA, hE0, fun _ _ _ _ _ _ _ => ?_⟩
    walk_at "st"
    refine k_eq rfl ?_
    walk_at "st"
    refine k_if2 (fun _ => ?_) (fun _ => ?_)
    · walk_at "st"
      refine kMt.mk hd0.at_ (by kernel_rfl) ?_
      walk_at "st"
      exact ⟨X, _, pl, b, "same", rfl, ⟨_, _, _, _, hd0⟩, by decide +kernel, hE0⟩
    walk_at "st"
    refine kTup.mk (by show 2 ≤ 1000; decide) fun p1 H1 e1 n1 g1 => ?_
    have h1 := hd0.le e1
    have hE1 : Ref K X H1 E := hE0.mono e1.of
    walk_at "st"
    refine Z.f_d_rules h1.at_ ?_
    walk_at "st"
    obtain ⟨rx1, hrx1⟩ := h1.ru.at_
    refine Z.f_rates hrx1 ?_
    walk_at "st"
    refine kDIn.tt (k := [.inl (g : Nat), .inl (k : Nat)]) h1.ru.rts g1 ?_
    walk_at "st"
    cases hv1 : valV X.kvs [.inl (g : Nat), .inl (k : Nat)] with
    | none =>
      refine k_ifT rfl ?_
      walk_at "st"
      refine kMt.mk h1.at_ (by kernel_rfl) ?_
      walk_at "st"
      exact ⟨X, _, pl, b, "rate", rfl, ⟨_, _, _, _, h1⟩, by decide +kernel, hE1⟩
    | some v1 =>
    refine k_ifF rfl ?_
    walk_at "st"
    refine kMt.mk h1.at_ (by kernel_rfl) ?_
    walk_at "st"
    refine ⟨X, _, pl, b, _, _, rfl, ⟨_, _, _, _, h1⟩, nmA_L hn, hE1, ?_⟩
    walk_at "st"
    refine Z.f_d_rules h1.at_ ?_
    walk_at "st"
    refine Z.f_rates hrx1 ?_
    walk_at "st"
    refine kTup.mk (by show 2 ≤ 1000; decide) fun p2 H2 e2 n2 g2 => ?_
    have h2 := h1.le e2
    have hE2 : Ref K X H2 E := hE1.mono e2.of
    obtain ⟨_, _, ra, rb, rp, _, _, _, _, rfl, rsq, ⟨ra0, ra1⟩, ⟨rb0, rb1⟩⟩ := h2.ru.ok _ _ hv1
    refine kDG.tt (k := [.inl (g : Nat), .inl (k : Nat)]) h2.ru.rts g2 hv1 ?_
    walk_at "st"
    refine k_ixT rsq rfl ?_
    walk_at "st"
    refine k_I (.inl ⟨by omega, by omega⟩) ?_
    walk_at "st"
    refine k_ixT rsq rfl ?_
    walk_at "st"
    refine k_I ⟨by omega, by omega⟩ ?_
    have hback : 0 ≤ a * ra / rb := Int.ediv_nonneg (Int.mul_nonneg ha0 (by omega)) (by omega)
    walk_at "st"
    refine k_eq rfl ?_
    walk_at "st"
    refine k_if2 (fun _ => ?_) (fun _ => ?_)
    · walk_at "st"
      refine kMt.mk h2.at_ (by kernel_rfl) ?_
      walk_at "st"
      exact ⟨X, _, pl, b, "little", rfl, ⟨_, _, _, _, h2⟩, by decide +kernel, hE2⟩
    generalize a * ra / rb = back at hback
    walk_at "st"
    refine kMt.mk h2.at_ (by kernel_rfl) ?_
    walk_at "st"
    refine ⟨X, _, pl, _, _, _, g, a, true, rfl, ⟨_, _, _, _, h2⟩, (by omega), hn, hg, ha0, hE2, fun o3 H3 x3 ⟨tv3, sg3, tm3, gv3, h3⟩ t3 => ?_⟩
    walk_at "st"
    refine kMt.mk h3.at_ (by kernel_rfl) ?_
    walk_at "st"
    refine ⟨X, _, pl, _, _, _, g, a, rfl, ⟨_, _, _, _, h3⟩, (bank_nA : (_, _) ∈ nmA), hg, ha0, (hE2.mono x3), fun o4 H4 x4 ⟨tv4, sg4, tm4, gv4, h4⟩ t4 => ?_⟩
    walk_at "st"
    refine kMt.mk h4.at_ (by kernel_rfl) ?_
    walk_at "st"
    refine ⟨X, _, pl, _, _, _, k, back, false, rfl, ⟨_, _, _, _, h4⟩, (by omega), (bank_nA : (_, _) ∈ nmA), hk, hback, ((hE2.mono x3).mono x4), fun o5 H5 x5 ⟨tv5, sg5, tm5, gv5, h5⟩ t5 => ?_⟩
    walk_at "st"
    refine kMt.mk h5.at_ (by kernel_rfl) ?_
    walk_at "st"
    refine ⟨X, _, pl, _, _, _, k, back, rfl, ⟨_, _, _, _, h5⟩, hn, hk, hback, (((hE2.mono x3).mono x4).mono x5), fun o6 H6 x6 h6 t6 => ?_⟩
    refine q o6 H6 ((((((e0.trans e1).trans e2).of.trans x3).trans x4).trans x5).trans x6) (h6.mono (by omega)) fun j => ?_
    rw [t6 j, t5 j, t4 j, t3 j]
    show _ = _ + 0
    split <;> split <;> omega
end G
end
section
set_option Elab.async false
set_option linter.all false
set_option maxRecDepth 100000
set_option maxHeartbeats 1000000
namespace G
open PySem PySem.Spec PyProof.Rows L2
local macro_rules | `(tactic| walk_at "st") => `(tactic| repeat (first
  | with_reducible refine k_seq ?_
  | with_reducible refine k_asg ?_
  | with_reducible refine k_gn ?_
  | with_reducible refine k_op ?_
  | ((with_reducible refine' k_var ?vh ?_); (case vh => rfl))
  | with_reducible refine k_c ?_
  | with_reducible refine k_cons ?_
  | with_reducible refine k_nil ?_
  | with_reducible refine k_I0 ?_
  | with_reducible refine k_ret ?_
  | with_reducible refine k_if ?_
  | with_reducible refine k_test ?_
  | with_reducible refine k_bl ?_
  | with_reducible refine k_cb ?_
  | with_reducible refine k_cl ?_
  | with_reducible refine k_int ?_
  | with_reducible refine k_tup ?_
  | with_reducible refine k_lst ?_
  | with_reducible refine k_fld ?_
  | with_reducible refine k_mt ?_
  | with_reducible refine k_for ?_
  | with_reducible refine k_iL ?_
  | with_reducible refine k_iT ?_
  | with_reducible refine k_iR1 ?_
  | with_reducible refine k_iS ?_
  | with_reducible refine k_par ?_
  | with_reducible refine k_ex2 ?_
  | with_reducible refine k_rfl2 ?_
  | with_reducible refine k_iZA ?_
  | with_reducible refine k_gcons ?_
  | with_reducible refine k_gnil ?_
  | with_reducible refine k_exI ?_
  | with_reducible refine k_bits ?_
  | with_reducible refine k_chain ?_
  | ((with_reducible refine' k_aug ?vh ?_); (case vh => rfl))
  | with_reducible refine k_ipI ?_
  | with_reducible refine k_inG ?_
  | with_reducible refine k_m1 ?_
  | with_reducible refine kM1.mk ?_
  | with_reducible refine k_yes ?_
  | with_reducible refine k_lc ?_
  | with_reducible refine k_andV ?_
  | with_reducible refine k_orV ?_
  | with_reducible refine k_tB ?_
  | with_reducible refine k_and ?_
  | with_reducible refine k_or ?_
  | with_reducible refine k_not ?_
  | with_reducible refine k_retN ?_
  | with_reducible refine k_next ?_
  | with_reducible refine k_fset ?_
  | with_reducible refine k_faug ?_
  | with_reducible refine k_sl ?_
  | with_reducible refine k_part ?_
  | with_reducible refine k_nopart ?_
  | with_reducible refine k_un ?_
  | with_reducible refine k_u1 ?_
  | with_reducible refine k_dget ?_
  | with_reducible refine k_din ?_
  | with_reducible refine k_dnin ?_
  | with_reducible refine k_dput ?_
  | with_reducible refine k_dget2 ?_
  | with_reducible refine k_bm ?_
  | with_reducible refine k_augs ?_
  | with_reducible refine k_gsub ?_
  | with_reducible refine k_enT ?_
  | with_reducible refine k_anyI ?_
  | with_reducible refine k_allI ?_
  | with_reducible refine k_lenX ?_
  | with_reducible refine k_sortX ?_
  | with_reducible refine k_drop ?_))
local macro_rules | `(tactic| walk_at "go") => `(tactic| ((try dsimp only [cxOf]); walk_at "st"))
local macro_rules | `(tactic| walk_at "len") => `(tactic| (simp only [List.length_append, List.length_map, List.length_cons, List.length_nil, List.length_replicate] at *; omega))

variable {P : Program} {w : World} {K : PySem.W.Frag} {mg : Str → Option Value} {base : Heap}
/-! ### a group is done -/
theorem Lx.drop {S : Addr → Prop} {H H1 H2 : Hp} (x : Le H H1) (y : Lx S H1 H2) (n : ∀ a, S a → H a = none) : Le H H2 :=
  ⟨fun a o e _ t => y.keep a o (x.keep a o e (fun z => z.elim) t) (fun z => by rw [n a z] at e; cases e) t, fun a t => y.tab a (x.tab a t), fun a t => x.dom a (y.dom a t)⟩
def kMk (C : Addr) (sp : Sp) (E : XK) (Q : VK) (vs : List V) (H1 : Hp) : Prop := ∀ x dx, H1 x = none → H1 dx = none → dx ≠ x →
  sp (.ref x :: vs) (upd (upd H1 dx (.own x)) x (.ins C dx [])) (fun v H2 => v = .non ∧ Q (.ref x) H2) E
theorem k_mk {C : Addr} {sp : Sp} {E : XK} {t : TA} {σ : L2.St} {H : Hp} {Q : VK} (h : t σ H (kMk C sp E Q)) : tMk C sp E t σ H Q := h
theorem kMk.mk {C : Addr} {sp : Sp} {E : XK} {H : Hp} {Q : VK} {vs : List V} (h : ∀ x dx H2, Le H H2 → H x = none → H2 x = some (.ins C dx []) → sp (.ref x :: vs) H2 (fun v H3 => v = .non ∧ Q (.ref x) H3) E) : kMk C sp E Q vs H := fun x dx hx hd ne =>
  h x dx _ ((Le.new hd).trans (Le.new (by rw [upd_ne (fun z => ne z.symm)]; exact hx))) hx upd_same
def spDoI (K : PySem.W.Frag) : Sp := fun vs H Q _ => ∃ (x s r : Addr) (e : Int) (tv : V) (g dx : Addr) (m : Int) (kd : Nat) (fee : Int) (rd : Addr) (kvs : List (List Key × V)) (o : Option Tree), vs = [.ref x, .ref s, .ref r, .int e, tv, .ref g] ∧ H x = some (.ins (He.ga K "Doing") dx []) ∧
  SeA K H s m ∧ RuA K H r kd fee rd kvs ∧ T3 K H ∧ Is K H tv (optD o) ∧ AcO kd o ∧
  ∀ a1 a2 a3 H', Lx (fun a => a = x) H H' → H a1 = none → H a2 = none → H a3 = none → DoE K ⟨s, r, m, kd, fee, rd, kvs, e, g, x, dx, a1, a2, a3⟩ H' o (-1) 0 → Q .non H'
theorem ok_Doing_init (Z : Zed w K mg) : Fn P w K mg base CX0 1 (He.ma K (He.ga K "Doing") "__init__") (spDoI K) := by
  refine Fn.of0 (F_Doing_init Z) sc_Doing_init (fun _ _ _ _ _ _ us hl => match us, hl with | [_, _, _, _, _, _], _ => rfl) (fun vs H Q E h => ?_) (fun cdv A outer s H vs Q E hr h => ?_)
  · obtain ⟨x, s, r, e, tv, g, dx, m, kd, fee, rd, kvs, o, rfl, _⟩ := h
    rfl
  · obtain ⟨x, s, r, e, tv, g, dx, m, kd, fee, rd, kvs, o, rfl, hx, hs, hru, ht, hi, hac, q⟩ := h
    have W : ∀ {H H' : Hp} {fs gs : List (Str × V)}, Lx (fun a => a = x) H H' → H' x = some (.ins (He.ga K "Doing") dx fs) → Lx (fun a => a = x) H (upd H' x (.ins (He.ga K "Doing") dx gs)) := fun y h => y.trans (Lx.wr rfl h (fun z => z) (by intro ps z; cases z))
    refine ⟨_, (pss_cons (ps_fld (pv 0) (pv 1) rfl) (pss_cons (ps_fld (pv 0) (pv 2) rfl) (pss_cons (ps_fld (pv 0) (pv 3) rfl) (pss_cons (ps_fld (pv 0) (pv 4) rfl) (pss_cons (ps_fld (pv 0) (pv 5) rfl) (pss_cons (ps_fld (pv 0) (pe_un un_neg pe_int) rfl) (pss_cons (ps_fld (pv 0) pe_dnewK rfl) (pss_cons (ps_fld (pv 0) pe_dnewK rfl) (pss_one (ps_fld (pv 0) pe_dnewT rfl)))))))))), ?_⟩
    walk_at "go"
    refine kFSet.mk hx Z.c_Doing Z.a_Doing_sealer rfl rfl ?_
    walk_at "st"
    refine kFSet.mk upd_same Z.c_Doing Z.a_Doing_rules rfl rfl ?_
    rw [upd_upd]
    walk_at "st"
    refine kFSet.mk upd_same Z.c_Doing Z.a_Doing_epoch rfl rfl ?_
    rw [upd_upd]
    walk_at "st"
    refine kFSet.mk upd_same Z.c_Doing Z.a_Doing_tree rfl rfl ?_
    rw [upd_upd]
    walk_at "st"
    refine kFSet.mk upd_same Z.c_Doing Z.a_Doing_group rfl rfl ?_
    rw [upd_upd]
    walk_at "st"
    refine kFSet.mk upd_same Z.c_Doing Z.a_Doing_place rfl rfl ?_
    rw [upd_upd]
    walk_at "st"
    have x1 : Lx (fun a => a = x) H (upd H x (.ins (He.ga K "Doing") dx [("sealer", .ref s), ("rules", .ref r), ("epoch", .int e), ("tree", tv), ("group", .ref g), ("place", .int (-1))])) := W Lx.refl hx
    refine k_newK fun a1 H1 e1 n1 g1 => ?_
    have i1 := e1.get (upd_same (H := H) (a := x) (o := .ins (He.ga K "Doing") dx [("sealer", .ref s), ("rules", .ref r), ("epoch", .int e), ("tree", tv), ("group", .ref g), ("place", .int (-1))]))
    walk_at "st"
    refine kFSet.mk i1 Z.c_Doing Z.a_Doing_signed rfl rfl ?_
    have x2 := W (gs := [("sealer", .ref s), ("rules", .ref r), ("epoch", .int e), ("tree", tv), ("group", .ref g), ("place", .int (-1)), ("signed", .ref a1)]) (x1.trans e1.of) i1
    have ne1 : a1 ≠ x := ne_of g1 i1 (fun z => by cases z)
    walk_at "st"
    refine k_newK fun a2 H2 e2 n2 g2 => ?_
    have i2 := e2.get (upd_same (H := H1) (a := x) (o := .ins (He.ga K "Doing") dx [("sealer", .ref s), ("rules", .ref r), ("epoch", .int e), ("tree", tv), ("group", .ref g), ("place", .int (-1)), ("signed", .ref a1)]))
    have g12 := e2.get (o := .dK []) (a := a1) (by rw [upd_ne ne1]; exact g1)
    walk_at "st"
    refine kFSet.mk i2 Z.c_Doing Z.a_Doing_terms rfl rfl ?_
    have x3 := W (gs := [("sealer", .ref s), ("rules", .ref r), ("epoch", .int e), ("tree", tv), ("group", .ref g), ("place", .int (-1)), ("signed", .ref a1), ("terms", .ref a2)]) (x2.trans e2.of) i2
    have ne2 : a2 ≠ x := ne_of g2 i2 (fun z => by cases z)
    walk_at "st"
    refine k_newT fun a3 H3 e3 n3 g3 => ?_
    have i3 := e3.get (upd_same (H := H2) (a := x) (o := .ins (He.ga K "Doing") dx [("sealer", .ref s), ("rules", .ref r), ("epoch", .int e), ("tree", tv), ("group", .ref g), ("place", .int (-1)), ("signed", .ref a1), ("terms", .ref a2)]))
    have g13 := e3.get (o := .dK []) (a := a1) (by rw [upd_ne ne1]; exact g12)
    have g23 := e3.get (o := .dK []) (a := a2) (by rw [upd_ne ne2]; exact g2)
    walk_at "st"
    refine kFSet.mk i3 Z.c_Doing Z.a_Doing_given rfl rfl ?_
    have x4 := W (gs := doF s r e tv g (-1) a1 a2 a3) (x3.trans e3.of) i3
    have ne3 : a3 ≠ x := ne_of g3 i3 (fun z => by cases z)
    have h1 : H a1 = none := x1.dom a1 n1
    have h2 : H a2 = none := x2.dom a2 n2
    have h3 : H a3 = none := x3.dom a3 n3
    have ns : ∀ {a : Addr} {u : HO}, H a = some u → u ≠ .ins (He.ga K "Doing") dx [] → ¬ (a = x ∨ a = a1 ∨ a = a2 ∨ a = a3) := fun hu hn z => by
      rcases z with z | z | z | z
      · rw [z, hx] at hu
        exact hn (Option.some.inj hu).symm
      · rw [z, h1] at hu
        cases hu
      · rw [z, h2] at hu
        cases hu
      · rw [z, h3] at hu
        cases hu
    obtain ⟨dxs, hs1⟩ := hs.1
    obtain ⟨dxr, hr1⟩ := hru.at_
    have m1 := ns hs1 (by intro z; injection z with _ _ z; cases z)
    have m2 := ns hr1 (by intro z; injection z with _ _ z; cases z)
    have m3 := ns hru.rts (by intro z; cases z)
    walk_at "st"
    refine q a1 a2 a3 _ x4 h1 h2 h3 ⟨tv, [], [], [], upd_same, hi.lx x4, hac, ?_, ?_, ?_, (fun k v e => by cases e), (fun k v e => by cases e), (fun k v e => by cases e), Nat.le_refl _, Nat.le_refl _, Nat.le_refl _, ?_, hs.lx x4 (fun z => m1 (.inl z)), hru.lx x4 (fun z => m2 (.inl z)) (fun z => m3 (.inl z)), ht.lx x4, ⟨m1, m2, m3⟩⟩
    · rw [upd_ne ne1]
      exact g13
    · rw [upd_ne ne2]
      exact g23
    · rw [upd_ne ne3]
      exact g3
    · intro z
      have z : a1 = a2 := z
      rw [← z, upd_ne ne1, g1] at n2
      cases n2
/-! ### the table of deeds -/
inductive DoS (K : PySem.W.Frag) : Addr → Sp → Prop
  | opn : DoS K (He.ga K "do_open") (spDo K isOpn)
  | cls : DoS K (He.ga K "do_close") (spDo K isCls)
  | mov : DoS K (He.ga K "do_move") (spDo K isMov)
  | mnt : DoS K (He.ga K "do_mint") (spDo K isMnt)
  | brn : DoS K (He.ga K "do_burn") (spDo K isBrn)
  | chg : DoS K (He.ga K "do_change") (spDo K isChg)
  | rul : DoS K (He.ga K "do_rule") (spDo K isRul)
theorem DoS.ok [Pz P] [Y : Tbs K mg base] (Z : Zed w K mg) {f : Addr} {sp : Sp} (h : DoS K f sp) : Fn P w K mg base (L2.CX P w) 57 f sp := by
  cases h with
  | opn => exact ok_do_open Z
  | cls => exact ok_do_close Z
  | mov => exact ok_do_move Z
  | mnt => exact ok_do_mint Z
  | brn => exact ok_do_burn Z
  | chg => exact ok_do_change Z
  | rul => exact ok_do_rule Z
theorem Zed.doings (Z : Zed w K mg) {k : Str} {d : He.Dv} (h : (k, d) ∈ [(("open" : Str), He.Dv.glo "do_open"), ("close", .glo "do_close"), ("move", .glo "do_move"), ("mint", .glo "do_mint"), ("burn", .glo "do_burn"), ("change", .glo "do_change"), ("rule", .glo "do_rule")]) :
    KDct K w (He.ga K "DOINGS") k (d.v K) := by
  obtain ⟨es, n, kd⟩ := Z.t.tab 0
  obtain ⟨u, e, r⟩ := He.valsB_ok (He.ba (He.ba (He.ba Z.more).2).2).1 h
  exact ⟨es, n, u, kd.at_, kd.lit, e, r⟩
theorem k_ixD {K : PySem.W.Frag} {p : Addr} {z : Str} {v : V} {H : Hp} {Q : VK} (h : KDct K w p z v) (q : Q v H) : rIxD K w (.ref p) (.str z) H Q := ⟨p, z, v, rfl, rfl, h, q⟩
/-- a deed's word, its def -/
theorem deed_go {H : Hp} {x : V} {d : Dd} (Z : Zed w K mg) (h : Is K H x (.tuple d.ds)) : ∃ (p : Addr) (wd : Str) (r : List V) (f : Addr) (sel : Dd → Prop), x = .ref p ∧ SqT K H p (.str wd :: r) ∧ KDct K w (He.ga K "DOINGS") wd (.ref f) ∧ DoS K f (spDo K sel) ∧ sel d := by
  cases d with
  | opn n ns =>
    obtain ⟨p, x, rfl, sq, _⟩ := d3_inv h
    exact ⟨p, _, _, _, _, rfl, sq, Z.doings (d := .glo "do_open") (by simp), .opn, trivial⟩
  | rul n ns =>
    obtain ⟨p, x, rfl, sq, _⟩ := d3_inv h
    exact ⟨p, _, _, _, _, rfl, sq, Z.doings (d := .glo "do_rule") (by simp), .rul, trivial⟩
  | cls n =>
    obtain ⟨p, rfl, sq⟩ := flat_tup h rfl
    exact ⟨p, _, _, _, _, rfl, sq, Z.doings (d := .glo "do_close") (by simp), .cls, trivial⟩
  | mov n o k a =>
    obtain ⟨p, rfl, sq⟩ := flat_tup h rfl
    exact ⟨p, _, _, _, _, rfl, sq, Z.doings (d := .glo "do_move") (by simp), .mov, trivial⟩
  | mnt n k a =>
    obtain ⟨p, rfl, sq⟩ := flat_tup h rfl
    exact ⟨p, _, _, _, _, rfl, sq, Z.doings (d := .glo "do_mint") (by simp), .mnt, trivial⟩
  | brn n k a =>
    obtain ⟨p, rfl, sq⟩ := flat_tup h rfl
    exact ⟨p, _, _, _, _, rfl, sq, Z.doings (d := .glo "do_burn") (by simp), .brn, trivial⟩
  | chg n g t a =>
    obtain ⟨p, rfl, sq⟩ := flat_tup h rfl
    exact ⟨p, _, _, _, _, rfl, sq, Z.doings (d := .glo "do_change") (by simp), .chg, trivial⟩
def spDoG (K : PySem.W.Frag) : Sp := fun vs H Q E => ∃ (s r g : Addr) (e : Int) (tv : V) (o : Option Tree) (m : Int) (kd : Nat) (fee : Int) (rd : Addr) (kvs : List (List Key × V)) (ds : List Dd) (sg : List Sg) (ge : Int) (pd psg : Addr) (xd xs : List V), vs = [.ref s, .ref r, .int e, tv, .ref g] ∧
  SeA K H s m ∧ RuA K H r kd fee rd kvs ∧ T3 K H ∧ Is K H tv (optD o) ∧ AcO kd o ∧ GrA K H g kd m ds sg ge pd psg xd xs ∧
  (∀ (pl : Int) (wd : Str) (d : Addr) (H' : Hp), wd ≠ "" → Le H H' → H' d = some (.xd (grF (.int pl) (.str wd))) → E (.ref (He.ga K "GroupRefused")) (some d) H') ∧
  ∀ o' tv' H', Le H H' → Is K H' tv' (optD o') → AcO kd o' → (∀ j, tot o' j = tot o j + netL ds j) → Q tv' H'
theorem ok_do_group [Pz P] [Y : Tbs K mg base] (Z : Zed w K mg) : Fn P w K mg base (L2.CX P w) 58 (He.ga K "do_group") (spDoG K) := by
  have O_Doing_init := ok_Doing_init (P := P) (base := base) Z
  have O_Doing_refuse := ok_Doing_refuse (P := P) (base := base) Z
  have O_Doing_sign := ok_Doing_sign (P := P) (base := base) Z
  have O_check_group := ok_check_group (P := P) (base := base) Z
  refine Fn.ofX (F_do_group Z) sc_do_group (fun _ _ _ _ _ _ us hl => match us, hl with | [_, _, _, _, _], _ => rfl) (fun vs H Q E h => ?_) (fun cdv A outer s H vs Q E hr h => ?_)
  · obtain ⟨s, r, g, e, tv, o, m, kd, fee, rd, kvs, ds, sg, ge, pd, psg, xd, xs, rfl, _⟩ := h
    rfl
  · obtain ⟨s, r, g, e, tv, o, m, kd, fee, rd, kvs, ds, sg, ge, pd, psg, xd, xs, rfl, hs, hru, ht, hi, hac, hg, hE, q⟩ := h
    refine ⟨_, (pss_cons (ps_expr (pe_f O_check_group hr (by decide) Z.g_check_group pass0 (pa_cons (pv 0) (pa_cons (pv 1) (pa_cons (pv 4) pa_nil))))) (pss_cons (ps_set (i := 5) sc_do_group.nd rfl (Or.inl rfl) (pe_mk Z.m_Doing O_Doing_init hr (by decide) Z.g_Doing pass0 (pa_cons (pv 0) (pa_cons (pv 1) (pa_cons (pv 2) (pa_cons (pv 3) (pa_cons (pv 4) pa_nil))))))) (pss_cons (ps_if (pt_cmpR op_ne (pe_fld (pv 4) rfl) (pv 2) (nomark _)) (pss_one (ps_expr (pe_m Z.c_Doing Z.t_Doing_refuse O_Doing_refuse hr (by decide) passX (pv 5) (pa_cons pe_str pa_nil)))) pss_nil) (pss_cons (ps_for (passes_of rfl) rfl (pi_tup (pe_fld (pv 4) rfl)) (pg_name (i := 6) sc_do_group.nd rfl (Or.inl rfl)) (pss_one (ps_expr (pe_m Z.c_Doing Z.t_Doing_sign O_Doing_sign hr (by decide) passX (pv 5) (pa_cons (pv 6) pa_nil))))) (pss_cons (ps_for (passes_of rfl) rfl (pi_enumT (by rfl) Z.n_enumerate (pa_cons (pe_fld (pv 4) rfl) pa_nil)) (pg_tup rfl (pgs_cons (pg_name (i := 7) sc_do_group.nd rfl (Or.inl rfl)) (pgs_cons (pg_name (i := 8) sc_do_group.nd rfl (Or.inl rfl)) pgs_nil))) (pss_cons (ps_fld (pv 5) (pv 7) rfl) (pss_cons (ps_set (i := 9) sc_do_group.nd rfl (Or.inl rfl) (pe_ix ix_kdict (pe_ga Z.g_DOINGS) (pe_ix ix_tup (pv 8) pe_int (fun _ _ => rfl)) (fun _ _ => rfl))) (pss_one (ps_expr (pe_callX (S := DoS K) (i := 9) (fun f sp h => DoS.ok (P := P) (base := base) Z h) hr (by decide) rfl (Or.inl rfl) passX (pa_cons (pv 5) (pa_cons (pv 8) pa_nil)))))))) (pss_one (ps_ret (pe_fld (pv 5) rfl)))))))), ?_⟩
    walk_at "go"
    refine ⟨s, r, g, m, kd, fee, rd, kvs, ds, sg, ge, pd, psg, xd, xs, rfl, hs, hru, ht, hg, fun H1 e1 => ?_⟩
    walk_at "st"
    refine k_mk ?_
    walk_at "st"
    refine kMk.mk fun x dx H2 e2 nx ix => ?_
    refine ⟨x, s, r, e, tv, g, dx, m, kd, fee, rd, kvs, o, rfl, ix, (hs.le e1).le e2, (hru.le e1).le e2, (ht.lx e1).lx e2, (hi.lx e1).lx e2, hac, fun a1 a2 a3 H3 x3 n1 n2 n3 hd => ⟨rfl, ?_⟩⟩
    generalize hX : (DoX.mk s r m kd fee rd kvs e g x dx a1 a2 a3) = X at hd
    have hXp : X.p = x := by rw [← hX]
    have hXkd : X.kd = kd := by rw [← hX]
    have hXm : X.m = m := by rw [← hX]
    have e3 : Le H H3 := (e1.trans e2).drop x3 (fun a z => by rw [z]; exact e1.dom x nx)
    have nS : ∀ a, X.S a → H a = none := fun a z => by
      rw [← hX] at z
      rcases z with z | z | z | z
      · rw [z]
        exact e1.dom x nx
      · rw [z]
        exact (e1.trans e2).dom a1 n1
      · rw [z]
        exact (e1.trans e2).dom a2 n2
      · rw [z]
        exact (e1.trans e2).dom a3 n3
    have hE3 : Ref K X H3 E := fun pl wd d H' hw y z => hE pl wd d H' hw (e3.drop y nS) z
    rw [← hXp]
    obtain ⟨gx, hgx⟩ := hg.at_
    walk_at "st"
    refine Z.f_epoch (e3.get hgx) ?_
    walk_at "st"
    refine k_ne rfl ?_
    walk_at "st"
    refine k_if2 (fun _ => ?_) (fun _ => ?_)
    · obtain ⟨tv0, sg0, tm0, gv0, hd0⟩ := hd
      walk_at "st"
      refine kMt.mk hd0.at_ (by kernel_rfl) ?_
      walk_at "st"
      exact ⟨X, o, -1, 0, "epoch", rfl, ⟨_, _, _, _, hd0⟩, by decide +kernel, hE3⟩
    walk_at "st"
    refine Z.f_signatures (e3.get hgx) ?_
    walk_at "st"
    have lxs : xs.length ≤ 4 := by rw [hg.is_.length, List.length_map]; exact hg.s4
    have lxd : xd.length ≤ 4 := by rw [hg.id_.length, List.length_map]; exact hg.d4
    refine kIT.mk (e3.sqt hg.ss) (kFor.go walk_tup (fun i σ H' => Lx X.S H3 H' ∧ ∃ o', DoE K X H' o' (-1) (2 * i) ∧ (∀ j, tot o' j = tot o j) ∧ ∃ a b c d, σ = [some (.ref s), some (.ref r), some (.int e), some tv, some (.ref g), some (.ref X.p), a, b, c, d]) ⟨Lx.refl, o, hd, fun _ => rfl, _, _, _, _, rfl⟩ (fun i σ H' _ z => z.1.sqt (e3.sqt hg.ss)) (fun i y σ H4 H5 hi4 z w => ?_) fun σ H4 z => ?_)
    · obtain ⟨x4, o4, hd4, ht4, a, b, c, d, rfl⟩ := z
      obtain ⟨rfl, hy⟩ := w
      obtain ⟨sg1, _, hm, is⟩ := isl_map (hg.is_.lx (e3.drop x4 nS)) hy
      obtain ⟨tv0, sg0, tm0, gv0, hd0⟩ := id hd4
      walk_at "st"
      refine kMt.mk hd0.at_ (by kernel_rfl) ?_
      walk_at "st"
      refine ⟨X, o4, -1, 2 * i, y, sg1, rfl, hd4, by omega, is, by rw [hXm]; exact hg.oks sg1 hm, hE3.mono x4, fun o5 H6 x6 h6 t6 => ?_⟩
      walk_at "st"
      exact ⟨x4.trans x6, o5, h6, fun j => (t6 j).trans (ht4 j), _, _, _, _, rfl⟩
    · obtain ⟨x4, o4, hd4, ht4, a, b, c, d, rfl⟩ := z
      have e4 := e3.drop x4 nS
      have hd5 : DoE K X H4 o4 (-1) 8 := hd4.mono (by omega)
      walk_at "st"
      refine Z.f_deeds (e4.get hgx) ?_
      walk_at "st"
      refine kEnT.mk (e4.sqt hg.sd) (kFor.go walk_enumT (fun i σ H' => Lx X.S H4 H' ∧ ∃ o' pl, DoE K X H' o' pl (8 + 10 * i) ∧ (∀ j, tot o' j = tot o j + netL (ds.take i) j) ∧ ∃ a b c d, σ = [some (.ref s), some (.ref r), some (.int e), some tv, some (.ref g), some (.ref X.p), a, b, c, d]) ⟨Lx.refl, o4, -1, hd5, fun j => by rw [ht4 j, List.take_zero]; exact (Int.add_zero _).symm, _, _, _, _, rfl⟩ (fun i σ H' _ z => z.1.sqt (e4.sqt hg.sd)) (fun i y σ H5 H6 hi5 z w => ?_) fun σ H5 z => ?_)
      · obtain ⟨x5, o5, pl, ⟨tv5, sg5, tm5, gv5, hd5⟩, t5, a, b, c, d, rfl⟩ := z
        obtain ⟨T, y1, y2, rfl, hT, rfl, ey1, ey2⟩ := w
        cases ey1
        have e6 : Le H5 (upd H5 T (.tup [.int (i : Nat), y2])) := Le.new hT
        have e56 := (e4.drop x5 nS).trans e6
        obtain ⟨dd, hdi, hdm, is⟩ := isl_map (hg.id_.lx e56) ey2
        obtain ⟨hp6, h6⟩ := (hd5.le e6).place (i : Nat)
        refine k_gtup (SqT.of upd_same) rfl ?_
        walk_at "st"
        refine kFSet.mk (hd5.le e6).at_ Z.c_Doing Z.a_Doing_place rfl rfl ?_
        walk_at "st"
        have is6 := is.lx hp6
        obtain ⟨p, wd, rr, f, sel, rfl, sq, hk, hS, hsel⟩ := deed_go Z is6
        refine k_ixT sq at0 ?_
        walk_at "st"
        refine k_ixD hk ?_
        walk_at "st"
        refine k_cx rfl hS ?_
        walk_at "st"
        refine ⟨X, o5, (i : Nat), 8 + 10 * i, _, dd, rfl, ⟨_, _, _, _, h6⟩, by omega, is6, by rw [hXkd, hXm]; exact hg.okd dd hdm, hsel, (hE3.mono (x4.trans x5)).mono (e6.of.trans hp6), fun o7 H7 x7 h7 t7 => ?_⟩
        walk_at "st"
        refine ⟨((x5.trans e6.of).trans hp6).trans x7, o7, (i : Nat), h7.mono (by omega), fun j => ?_, _, _, _, _, rfl⟩
        rw [t7 j, t5 j, List.take_add_one, hdi]
        show _ = _ + (List.map (Dd.net j) (ds.take i ++ [dd])).sum
        rw [List.map_append, List.sum_append]
        show _ + netL (ds.take i) j + _ = _ + (netL (ds.take i) j + (Dd.net j dd + 0))
        omega
      · obtain ⟨x5, o5, pl, ⟨tv5, sg5, tm5, gv5, hd5⟩, t5, a, b, c, d, rfl⟩ := z
        walk_at "st"
        refine Z.f_d_tree hd5.at_ ?_
        walk_at "st"
        refine q o5 tv5 H5 (e4.drop x5 nS) hd5.is (by have := hd5.ac; rw [hXkd] at this; exact this) fun j => ?_
        rw [t5 j, hg.id_.length, List.length_map, List.take_length]
end G
end
section
set_option Elab.async false
set_option linter.all false
set_option maxRecDepth 100000
set_option maxHeartbeats 1000000
namespace G
open PySem PySem.Spec PyProof.Rows L2
local macro_rules | `(tactic| walk_at "st") => `(tactic| repeat (first
  | with_reducible refine k_seq ?_
  | with_reducible refine k_asg ?_
  | with_reducible refine k_gn ?_
  | with_reducible refine k_op ?_
  | ((with_reducible refine' k_var ?vh ?_); (case vh => rfl))
  | with_reducible refine k_c ?_
  | with_reducible refine k_cons ?_
  | with_reducible refine k_nil ?_
  | with_reducible refine k_I0 ?_
  | with_reducible refine k_ret ?_
  | with_reducible refine k_if ?_
  | with_reducible refine k_test ?_
  | with_reducible refine k_bl ?_
  | with_reducible refine k_cb ?_
  | with_reducible refine k_cl ?_
  | with_reducible refine k_int ?_
  | with_reducible refine k_tup ?_
  | with_reducible refine k_lst ?_
  | with_reducible refine k_fld ?_
  | with_reducible refine k_mt ?_
  | with_reducible refine k_for ?_
  | with_reducible refine k_iL ?_
  | with_reducible refine k_iT ?_
  | with_reducible refine k_iR1 ?_
  | with_reducible refine k_iS ?_
  | with_reducible refine k_par ?_
  | with_reducible refine k_ex2 ?_
  | with_reducible refine k_rfl2 ?_
  | with_reducible refine k_iZA ?_
  | with_reducible refine k_gcons ?_
  | with_reducible refine k_gnil ?_
  | with_reducible refine k_exI ?_
  | with_reducible refine k_bits ?_
  | with_reducible refine k_chain ?_
  | ((with_reducible refine' k_aug ?vh ?_); (case vh => rfl))
  | with_reducible refine k_ipI ?_
  | with_reducible refine k_inG ?_
  | with_reducible refine k_m1 ?_
  | with_reducible refine kM1.mk ?_
  | with_reducible refine k_yes ?_
  | with_reducible refine k_lc ?_
  | with_reducible refine k_andV ?_
  | with_reducible refine k_orV ?_
  | with_reducible refine k_tB ?_
  | with_reducible refine k_and ?_
  | with_reducible refine k_or ?_
  | with_reducible refine k_not ?_
  | with_reducible refine k_retN ?_
  | with_reducible refine k_next ?_
  | with_reducible refine k_fset ?_
  | with_reducible refine k_faug ?_
  | with_reducible refine k_sl ?_
  | with_reducible refine k_part ?_
  | with_reducible refine k_nopart ?_
  | with_reducible refine k_un ?_
  | with_reducible refine k_u1 ?_
  | with_reducible refine k_dget ?_
  | with_reducible refine k_din ?_
  | with_reducible refine k_dnin ?_
  | with_reducible refine k_dput ?_
  | with_reducible refine k_dget2 ?_
  | with_reducible refine k_bm ?_
  | with_reducible refine k_augs ?_
  | with_reducible refine k_gsub ?_
  | with_reducible refine k_enT ?_
  | with_reducible refine k_anyI ?_
  | with_reducible refine k_allI ?_
  | with_reducible refine k_lenX ?_
  | with_reducible refine k_sortX ?_
  | with_reducible refine k_drop ?_))
local macro_rules | `(tactic| walk_at "go") => `(tactic| ((try dsimp only [cxOf]); walk_at "st"))
local macro_rules | `(tactic| walk_at "len") => `(tactic| (simp only [List.length_append, List.length_map, List.length_cons, List.length_nil, List.length_replicate] at *; omega))

variable {P : Program} {w : World} {K : PySem.W.Frag} {mg : Str → Option Value} {base : Heap}
/-! ### journals: the words of a group -/
theorem kBM.extL {H : Hp} {Q : VK} {σ : L2.St} {a : Addr} {xs : List V} {tr : TA} (h : H a = some (.lst xs)) (q : tr σ H fun ys H2 => rExtend (.ref a) ys H2 Q) : kBM K "list" rExtend tr σ Q (.ref a) H := ⟨.inl ⟨rfl, xs, SqL.of h⟩, q⟩
theorem WordsAt.extL {H0 H : Hp} {p l : Addr} {n m : Nat} {ys : List Str} (h : WordsAt H0 p n H) (hp : H0 p = none) (hn : n + m ≤ 1000) (hl2 : H l = some (.lst (ys.map V.str))) (hm : ys.length ≤ m) (hy : ∀ y ∈ ys, y.length ≤ 60) {Q : VK} (q : ∀ H', Lx (fun a => a = p) H H' → WordsAt H0 p (n + m) H' → Q .non H') : rExtend (.ref p) [.ref l] H Q := by
  obtain ⟨xs, e, hl, hk, ha⟩ := h
  refine ⟨p, l, _, _, rfl, rfl, hl, hl2, Nat.le_trans (show _ ≤ 1000 by rw [List.length_map, List.length_map]; omega) (by decide), q _ (Lx.wr rfl hl (fun z => z) (by intro ps z; cases z)) ⟨xs ++ ys, e.own hp (by rw [hl]; exact fun z => nomatch z), ?_, ?_, ?_⟩⟩
  · rw [upd_same, List.map_append]
  · rw [List.length_append]
    omega
  · intro z hz
    rcases List.mem_append.mp hz with q | q
    · exact ha z q
    · exact hy z q
/-- a list of short words -/
def QWords (n : Nat) (H : Hp) (Q : VK) : Prop := ∀ (p : Addr) (zs : List Str) (H' : Hp), Le H H' → H' p = some (.lst (zs.map V.str)) → zs.length ≤ n → (∀ z ∈ zs, z.length ≤ 60) → Q (.ref p) H'
def spWords (K : PySem.W.Frag) : Sp := fun vs H Q _ => ∃ (v : V) (wd : Str) (its : List PyData), vs = [v] ∧ Is K H v (.tuple (.str wd :: its)) ∧ wd ∈ wordsL ∧ its.length ≤ 4 ∧ (∀ x ∈ its, DI x) ∧ QWords 33 H Q
theorem wordsL_len {z : Str} (h : z ∈ wordsL) : z.length ≤ 60 := by
  have e : wordsL.all (fun p => decide (p.length ≤ 60)) = true := by decide +kernel
  exact of_decide_eq_true (List.all_eq_true.mp e _ h)
theorem ok_deed_words (Z : Zed w K mg) : Fn P w K mg base CX0 1 (He.ga K "deed_words") (spWords K) := by
  refine Fn.of0 (F_deed_words Z) sc_deed_words (fun _ _ _ _ _ _ us hl => match us, hl with | [_], _ => rfl) (fun vs H Q E h => ?_) (fun cdv A outer s H vs Q E hr h => ?_)
  · obtain ⟨v, wd, its, rfl, _⟩ := h
    rfl
  · obtain ⟨v, wd, its, rfl, hv, hw, hl, hd, q⟩ := h
    obtain ⟨p, xs, rfl, sq, r⟩ := hv.tup_inv
    obtain ⟨x0, ys, rfl, i0, isl⟩ := r.cons_inv
    obtain rfl := i0.str_inv
    have hyl : ys.length ≤ 4 := by rw [isl.length]; exact hl
    refine ⟨_, (pss_cons (ps_set (i := 1) sc_deed_words.nd rfl (Or.inl rfl) (pe_lst (pa_cons (pe_ix ix_tup (pv 0) pe_int (fun _ _ => rfl)) pa_nil))) (pss_cons (ps_for PassesOwn.never rfl (pi_tup (pe_slice sl_tupA (pv 0) (po_some pe_int) po_none)) (pg_name (i := 2) sc_deed_words.nd rfl (Or.inl rfl)) (pss_one (ps_if (pt_val (pe_callB call_isi (by rfl) Z.n_isinstance (by decide +kernel) (pa_cons (pv 2) (pa_cons (pe_bltn (v := .ty "tuple") rfl Z.n_tuple (by decide +kernel) rfl) pa_nil)))) (pss_one (ps_expr (pe_bm PySem.F.plainAttrs_list PySem.F.slot_list_extend PySem.F.type_list_extend mt_extend (pv 1) (pa_cons (pe_lc (own := [("number", 3)]) rfl sc_deed_words.nd (pi_tup (pv 2)) (blkOk_by (own := [("number", 3)]) (N := ["deed", "words", "item", "number"]) (sc := defScope s_deed_words) (by decide +kernel)) (fun _ _ _ _ _ => (pg_name (i := 3) sc_deed_words.nd rfl (Or.inl rfl))) (fun _ _ _ _ _ => pts_nil) (fun _ _ _ _ _ => (pe_callTy cr_strI (by rfl) Z.n_str (by decide +kernel) (pa_cons (pv 3) pa_nil)))) pa_nil)))) (pss_one (ps_expr (pe_bm PySem.F.plainAttrs_list PySem.F.slot_list_append PySem.F.type_list_append mt_append (pv 1) (pa_cons (pe_callTy cr_str2 (by rfl) Z.n_str (by decide +kernel) (pa_cons (pv 2) pa_nil)) pa_nil))))))) (pss_one (ps_ret (pv 1))))), ?_⟩
    walk_at "go"
    refine k_ixT sq at0 ?_
    walk_at "st"
    refine kLst.mk (by show 1 ≤ 1000; decide) fun p1 H1 e1 n1 g1 => ?_
    have W1 : WordsAt H p1 1 H1 := ⟨[wd], e1, g1, Nat.le_refl 1, fun z hz => by rw [List.mem_singleton.mp hz]; exact wordsL_len hw⟩
    walk_at "st"
    refine k_slT (e1.sqt sq) fun r2 H2 e2 sr => ?_
    rw [cut1] at sr
    refine kIT.mk sr (kFor.go walk_tup (fun i σ H' => WordsAt H p1 (1 + 8 * i) H' ∧ SqT K H' r2 ys ∧ ∃ a b, σ = [some (.ref p), some (.ref p1), a, b]) ⟨W1.le e2, sr, _, _, rfl⟩ (fun i σ H' _ z => z.2.1) (fun i x σ H3 H4 hi z y => ?_) fun σ H3 z => ?_)
    · obtain ⟨hW, sr3, a, b, rfl⟩ := z
      obtain ⟨rfl, hx⟩ := y
      have le3 : Le H H4 := hW.choose_spec.1
      obtain ⟨d, hd1, is⟩ := isl.get hx
      have is3 := is.lx le3
      rcases hd d (List.mem_of_getElem? hd1) with ⟨z, k, rfl, hz⟩ | ⟨n, rfl, hn⟩ | ⟨ns, rfl, hln, hns⟩
      · obtain rfl := is3.str_inv
        walk_at "st"
        refine k_isiS kit_st ?_
        walk_at "st"
        refine k_ifF rfl ?_
        walk_at "st"
        refine kBM.app hW.choose_spec.2.1 ?_
        walk_at "st"
        refine k_str2S ?_
        walk_at "st"
        refine hW.app n1 (by omega) (nmL_len hz) fun H5 x5 hW5 => ?_
        walk_at "st"
        exact ⟨hW5.mono (by omega), x5.sqt sr3, _, _, rfl⟩
      · obtain rfl := is3.int_inv
        walk_at "st"
        refine k_isiI kit_it ?_
        walk_at "st"
        refine k_ifF rfl ?_
        walk_at "st"
        refine kBM.app hW.choose_spec.2.1 ?_
        walk_at "st"
        refine k_str2I hn fun z hz => ?_
        walk_at "st"
        refine hW.app n1 (by omega) hz fun H5 x5 hW5 => ?_
        walk_at "st"
        exact ⟨hW5.mono (by omega), x5.sqt sr3, _, _, rfl⟩
      · obtain ⟨pt, rfl, st⟩ := is3.ints_inv
        walk_at "st"
        refine k_isiT st kit_tt ?_
        walk_at "st"
        refine k_ifT rfl ?_
        walk_at "st"
        refine kBM.extL hW.choose_spec.2.1 ?_
        walk_at "st"
        refine kIT.mk st (kLc.go walk_tup (show (ns.map V.int).length ≤ 100000 by rw [List.length_map]; omega) (fun i acc _ => ∃ zs : List Str, acc = zs.map V.str ∧ ∀ z ∈ zs, z.length ≤ 60) (fun _ _ _ _ _ _ z => z) ⟨[], rfl, fun _ h => nomatch h⟩ (fun _ e => e.sqt st) (fun E Nx i acc x H5 H6 hi5 e5 hp y fin _ => ?_) fun p4 acc H5 e5 n5 g5 hl5 hp => ?_)
        · obtain ⟨zs, rfl, hz⟩ := hp
          obtain ⟨rfl, hx5⟩ := y
          rw [List.getElem?_map] at hx5
          obtain ⟨n, hn, rfl⟩ := Option.map_eq_some_iff.mp hx5
          walk_at "st"
          refine ⟨rfl, ?_⟩
          walk_at "st"
          refine k_ifT rfl ?_
          walk_at "st"
          refine k_strI (hns n (List.mem_of_getElem? hn)) fun z hz2 => ?_
          refine fin _ _ Lx.refl ⟨zs ++ [z], by rw [List.map_append]; rfl, fun u hu => ?_⟩
          rcases List.mem_append.mp hu with q | q
          · exact hz u q
          · rw [List.mem_singleton.mp q]
            exact hz2
        · obtain ⟨zs, rfl, hz⟩ := hp
          rw [List.length_map, List.length_map] at hl5
          walk_at "st"
          refine (hW.le e5).extL n1 (m := 8) (by omega) g5 (by omega) hz fun H6 x6 hW6 => ?_
          walk_at "st"
          exact ⟨hW6.mono (by omega), x6.sqt (e5.sqt sr3), _, _, rfl⟩
    · obtain ⟨⟨zs, e, g, hn, hz⟩, _, a, b, rfl⟩ := z
      walk_at "st"
      exact q p1 zs H3 e g (by omega) hz
end G
end
section
set_option Elab.async false
set_option linter.all false
set_option maxRecDepth 100000
set_option maxHeartbeats 1000000
namespace G
open PySem PySem.Spec PyProof.Rows L2
local macro_rules | `(tactic| walk_at "st") => `(tactic| repeat (first
  | with_reducible refine k_seq ?_
  | with_reducible refine k_asg ?_
  | with_reducible refine k_gn ?_
  | with_reducible refine k_op ?_
  | ((with_reducible refine' k_var ?vh ?_); (case vh => rfl))
  | with_reducible refine k_c ?_
  | with_reducible refine k_cons ?_
  | with_reducible refine k_nil ?_
  | with_reducible refine k_I0 ?_
  | with_reducible refine k_ret ?_
  | with_reducible refine k_if ?_
  | with_reducible refine k_test ?_
  | with_reducible refine k_bl ?_
  | with_reducible refine k_cb ?_
  | with_reducible refine k_cl ?_
  | with_reducible refine k_int ?_
  | with_reducible refine k_tup ?_
  | with_reducible refine k_lst ?_
  | with_reducible refine k_fld ?_
  | with_reducible refine k_mt ?_
  | with_reducible refine k_for ?_
  | with_reducible refine k_iL ?_
  | with_reducible refine k_iT ?_
  | with_reducible refine k_iR1 ?_
  | with_reducible refine k_iS ?_
  | with_reducible refine k_par ?_
  | with_reducible refine k_ex2 ?_
  | with_reducible refine k_rfl2 ?_
  | with_reducible refine k_iZA ?_
  | with_reducible refine k_gcons ?_
  | with_reducible refine k_gnil ?_
  | with_reducible refine k_exI ?_
  | with_reducible refine k_bits ?_
  | with_reducible refine k_chain ?_
  | ((with_reducible refine' k_aug ?vh ?_); (case vh => rfl))
  | with_reducible refine k_ipI ?_
  | with_reducible refine k_inG ?_
  | with_reducible refine k_m1 ?_
  | with_reducible refine kM1.mk ?_
  | with_reducible refine k_yes ?_
  | with_reducible refine k_lc ?_
  | with_reducible refine k_andV ?_
  | with_reducible refine k_orV ?_
  | with_reducible refine k_tB ?_
  | with_reducible refine k_and ?_
  | with_reducible refine k_or ?_
  | with_reducible refine k_not ?_
  | with_reducible refine k_retN ?_
  | with_reducible refine k_next ?_
  | with_reducible refine k_fset ?_
  | with_reducible refine k_faug ?_
  | with_reducible refine k_sl ?_
  | with_reducible refine k_part ?_
  | with_reducible refine k_nopart ?_
  | with_reducible refine k_un ?_
  | with_reducible refine k_u1 ?_
  | with_reducible refine k_dget ?_
  | with_reducible refine k_din ?_
  | with_reducible refine k_dnin ?_
  | with_reducible refine k_dput ?_
  | with_reducible refine k_dget2 ?_
  | with_reducible refine k_bm ?_
  | with_reducible refine k_augs ?_
  | with_reducible refine k_gsub ?_
  | with_reducible refine k_enT ?_
  | with_reducible refine k_anyI ?_
  | with_reducible refine k_allI ?_
  | with_reducible refine k_lenX ?_
  | with_reducible refine k_sortX ?_
  | with_reducible refine k_drop ?_))
local macro_rules | `(tactic| walk_at "go") => `(tactic| ((try dsimp only [cxOf]); walk_at "st"))
local macro_rules | `(tactic| walk_at "len") => `(tactic| (simp only [List.length_append, List.length_map, List.length_cons, List.length_nil, List.length_replicate] at *; omega))

variable {P : Program} {w : World} {K : PySem.W.Frag} {mg : Str → Option Value} {base : Heap}
theorem sum_le {zs : List Str} (h : ∀ z ∈ zs, z.length ≤ 60) : (zs.map (·.length)).sum ≤ 60 * zs.length := by
  induction zs with
  | nil => exact Nat.le_refl _
  | cons z zs ih =>
    have h1 := h z (List.mem_cons_self ..)
    have h2 := ih fun y hy => h y (List.mem_cons_of_mem _ hy)
    simp only [List.map_cons, List.sum_cons, List.length_cons]
    omega
/-- what a group's numbers are bounded by -/
structure GrB (K : PySem.W.Frag) (H : Hp) (g : Addr) (kd : Nat) (m : Int) (ds : List Dd) (sg : List Sg) (e : Int) (pd psg : Addr) (xd xs : List V) : Prop where
  gr : GrA K H g kd m ds sg e pd psg xd xs
  kd3 : kd ≤ 3
  m61 : m ≤ 2 ^ 61
  be : Bd e
theorem GrB.le {H H' : Hp} {g : Addr} {kd : Nat} {m : Int} {ds : List Dd} {sg : List Sg} {e : Int} {pd psg : Addr} {xd xs : List V} (h : GrB K H g kd m ds sg e pd psg xd xs) (x : Le H H') : GrB K H' g kd m ds sg e pd psg xd xs := ⟨h.gr.le x, h.kd3, h.m61, h.be⟩
theorem KyO.bd {m : Int} {k : Int × Int × Int} (h : KyO m k) (hm : m ≤ 2 ^ 61) : Bd k.1 ∧ Bd k.2.1 ∧ Bd k.2.2 := by
  obtain ⟨⟨a, b⟩, ⟨c, d⟩, e, f⟩ := h
  unfold Bd
  refine ⟨by omega, by omega, by omega⟩
def spWrite (K : PySem.W.Frag) : Sp := fun vs H Q _ => ∃ (g : Addr) (kd : Nat) (m : Int) (ds : List Dd) (sg : List Sg) (e : Int) (pd psg : Addr) (xd xs : List V), vs = [.ref g] ∧ GrB K H g kd m ds sg e pd psg xd xs ∧ ∀ (z : Str) H', Le H H' → z.length ≤ 20000 → Q (.str z) H'
theorem ok_write_group (Z : Zed w K mg) : Fn P w K mg base CX0 2 (He.ga K "write_group") (spWrite K) := by
  have O_deed_words := ok_deed_words (P := P) (base := base) Z
  refine Fn.of0 (F_write_group Z) sc_write_group (fun _ _ _ _ _ _ us hl => match us, hl with | [_], _ => rfl) (fun vs H Q E h => ?_) (fun cdv A outer s H vs Q E hr h => ?_)
  · obtain ⟨g, kd, m, ds, sg, e, pd, psg, xd, xs, rfl, _⟩ := h
    rfl
  · obtain ⟨g, kd, m, ds, sg, e, pd, psg, xd, xs, rfl, ⟨hg, hkd, hm, he⟩, q⟩ := h
    obtain ⟨gx, hgx⟩ := hg.at_
    have lxs : xs.length ≤ 4 := by rw [hg.is_.length, List.length_map]; exact hg.s4
    have lxd : xd.length ≤ 4 := by rw [hg.id_.length, List.length_map]; exact hg.d4
    have bl : ∀ {n : Nat}, n ≤ 1000 → Bd (n : Int) := fun h => by unfold Bd; omega
    refine ⟨_, (pss_cons (ps_set (i := 1) sc_write_group.nd rfl (Or.inl rfl) (pe_lst (pa_cons (pe_callTy cr_strI (by rfl) Z.n_str (by decide +kernel) (pa_cons (pe_fld (pv 0) rfl) pa_nil)) (pa_cons (pe_callTy cr_strI (by rfl) Z.n_str (by decide +kernel) (pa_cons (pe_callB cr_len (by rfl) Z.n_len PySem.boot_len (pa_cons (pe_fld (pv 0) rfl) pa_nil)) pa_nil)) pa_nil)))) (pss_cons (ps_for PassesOwn.never rfl (pi_tup (pe_fld (pv 0) rfl)) (pg_name (i := 2) sc_write_group.nd rfl (Or.inl rfl)) (pss_one (ps_expr (pe_bm PySem.F.plainAttrs_list PySem.F.slot_list_extend PySem.F.type_list_extend mt_extend (pv 1) (pa_cons (pe_f O_deed_words hr (by decide) Z.g_deed_words pass0 (pa_cons (pv 2) pa_nil)) pa_nil))))) (pss_cons (ps_expr (pe_bm PySem.F.plainAttrs_list PySem.F.slot_list_append PySem.F.type_list_append mt_append (pv 1) (pa_cons (pe_callTy cr_strI (by rfl) Z.n_str (by decide +kernel) (pa_cons (pe_callB cr_len (by rfl) Z.n_len PySem.boot_len (pa_cons (pe_fld (pv 0) rfl) pa_nil)) pa_nil)) pa_nil))) (pss_cons (ps_for PassesOwn.never rfl (pi_tup (pe_fld (pv 0) rfl)) (pg_tup rfl (pgs_cons (pg_name (i := 3) sc_write_group.nd rfl (Or.inl rfl)) (pgs_cons (pg_name (i := 4) sc_write_group.nd rfl (Or.inl rfl)) pgs_nil))) (pss_cons (ps_expr (pe_bm PySem.F.plainAttrs_list PySem.F.slot_list_append PySem.F.type_list_append mt_append (pv 1) (pa_cons (pv 3) pa_nil))) (pss_cons (ps_expr (pe_bm PySem.F.plainAttrs_list PySem.F.slot_list_append PySem.F.type_list_append mt_append (pv 1) (pa_cons (pe_callTy cr_strI (by rfl) Z.n_str (by decide +kernel) (pa_cons (pe_callB cr_len (by rfl) Z.n_len PySem.boot_len (pa_cons (pv 4) pa_nil)) pa_nil)) pa_nil))) (pss_one (ps_for PassesOwn.never rfl (pi_tup (pv 4)) (pg_name (i := 5) sc_write_group.nd rfl (Or.inl rfl)) (pss_one (ps_expr (pe_bm PySem.F.plainAttrs_list PySem.F.slot_list_extend PySem.F.type_list_extend mt_extend (pv 1) (pa_cons (pe_lc (own := [("number", 6)]) rfl sc_write_group.nd (pi_tup (pv 5)) (blkOk_by (own := [("number", 6)]) (N := ["group", "words", "deed", "name", "keys", "triple", "number"]) (sc := defScope s_write_group) (by decide +kernel)) (fun _ _ _ _ _ => (pg_name (i := 6) sc_write_group.nd rfl (Or.inl rfl))) (fun _ _ _ _ _ => pts_nil) (fun _ _ _ _ _ => (pe_callTy cr_strI (by rfl) Z.n_str (by decide +kernel) (pa_cons (pv 6) pa_nil)))) pa_nil))))))))) (pss_one (ps_ret (pe_join pe_str (pv 1)))))))), ?_⟩
    walk_at "go"
    refine Z.f_epoch hgx ?_
    walk_at "st"
    refine k_strI he fun z1 hz1 => ?_
    walk_at "st"
    refine Z.f_deeds hgx ?_
    walk_at "st"
    refine k_lenT hg.sd ?_
    walk_at "st"
    refine k_strI (bl (by omega)) fun z2 hz2 => ?_
    walk_at "st"
    refine kLst.mk (by show 2 ≤ 1000; decide) fun p1 H1 e1 n1 g1 => ?_
    have W1 : WordsAt H p1 2 H1 := ⟨[z1, z2], e1, g1, Nat.le_refl 2, fun z hz => by
      simp only [List.mem_cons, List.not_mem_nil, or_false] at hz
      rcases hz with rfl | rfl
      · exact hz1
      · exact hz2⟩
    walk_at "st"
    refine Z.f_deeds (e1.get hgx) ?_
    walk_at "st"
    refine kIT.mk (e1.sqt hg.sd) (kFor.go walk_tup (fun i σ H' => WordsAt H p1 (2 + 33 * i) H' ∧ ∃ a, σ = [some (.ref g), some (.ref p1), a, none, none, none, none]) ⟨W1, _, rfl⟩ (fun i σ H' _ z => z.1.choose_spec.1.sqt hg.sd) (fun i x σ H3 H4 hi z y => ?_) fun σ H3 z => ?_)
    · obtain ⟨hW, a, rfl⟩ := z
      obtain ⟨rfl, hx⟩ := y
      obtain ⟨d, _, hd, is⟩ := isl_map (hg.id_.lx hW.choose_spec.1) hx
      obtain ⟨wd, its, ed, hwd, hl, hit⟩ := dd_items (hg.okd d hd) hkd hm
      rw [ed] at is
      walk_at "st"
      refine kBM.extL hW.choose_spec.2.1 ?_
      walk_at "st"
      refine ⟨x, wd, its, rfl, is, hwd, hl, hit, fun p4 zs H5 e5 g5 hn hz => ?_⟩
      walk_at "st"
      refine (hW.le e5).extL n1 (m := 33) (by omega) g5 hn hz fun H6 x6 hW6 => ?_
      walk_at "st"
      exact ⟨hW6.mono (by omega), _, rfl⟩
    · obtain ⟨hW, a, rfl⟩ := z
      have hW := hW.mono (show _ ≤ 134 by omega)
      walk_at "st"
      refine kBM.app hW.choose_spec.2.1 ?_
      walk_at "st"
      refine Z.f_signatures (hW.choose_spec.1.get hgx) ?_
      walk_at "st"
      refine k_lenT (hW.choose_spec.1.sqt hg.ss) ?_
      walk_at "st"
      refine k_strI (bl (by omega)) fun z3 hz3 => ?_
      walk_at "st"
      refine hW.app n1 (by omega) hz3 fun H4 x4 hW4 => ?_
      walk_at "st"
      refine Z.f_signatures (hW4.choose_spec.1.get hgx) ?_
      walk_at "st"
      refine kIT.mk (hW4.choose_spec.1.sqt hg.ss) (kFor.go walk_tup (fun i σ H' => WordsAt H p1 (135 + 11 * i) H' ∧ ∃ a b c d, σ = [some (.ref g), some (.ref p1), a, b, c, d, none]) ⟨hW4, _, _, _, _, rfl⟩ (fun i σ H' _ z => z.1.choose_spec.1.sqt hg.ss) (fun i x σ H5 H6 hi5 z y => ?_) fun σ H5 z => ?_)
      · obtain ⟨hW5, a, b, c, d, rfl⟩ := z
        obtain ⟨rfl, hx⟩ := y
        obtain ⟨s1, _, hs1, is⟩ := isl_map (hg.is_.lx hW5.choose_spec.1) hx
        have ok := hg.oks s1 hs1
        obtain ⟨pp, p2, ys, rfl, sq, sq2, isk⟩ := sg_inv is
        have hly : ys.length ≤ 3 := by rw [isk.length, List.length_map]; exact ok.l3
        refine k_gtup sq rfl ?_
        walk_at "st"
        refine kBM.app hW5.choose_spec.2.1 ?_
        walk_at "st"
        refine hW5.app n1 (by omega) (nmL_len (nmA_L ok.nm)) fun H7 x7 hW7 => ?_
        walk_at "st"
        refine kBM.app hW7.choose_spec.2.1 ?_
        walk_at "st"
        refine k_lenT (x7.sqt sq2) ?_
        walk_at "st"
        refine k_strI (bl (by omega)) fun z4 hz4 => ?_
        walk_at "st"
        refine hW7.app n1 (by omega) hz4 fun H8 x8 hW8 => ?_
        walk_at "st"
        refine kIT.mk (x8.sqt (x7.sqt sq2)) (kFor.go walk_tup (fun j σ H' => WordsAt H p1 (135 + 11 * i + 2 + 3 * j) H' ∧ Lx (fun a => a = p1) H6 H' ∧ ∃ a d, σ = [some (.ref g), some (.ref p1), a, some (.str s1.n.1), some (.ref p2), d, none]) ⟨hW8, x7.trans x8, _, _, rfl⟩ (fun j σ H' _ z => z.2.1.sqt sq2) (fun j x σ H9 H10 hj z y => ?_) fun σ H9 z => ?_)
        · obtain ⟨hW9, x9, a, d, rfl⟩ := z
          obtain ⟨rfl, hx⟩ := y
          obtain ⟨k, pk, hk, rfl, sk⟩ := ky_inv (isk.lx x9) hx
          obtain ⟨b1, b2, b3⟩ := (ok.ky k (List.mem_of_getElem? hk)).bd hm
          have hns : ∀ n ∈ [k.1, k.2.1, k.2.2], Bd n := fun n hn => by
            simp only [List.mem_cons, List.not_mem_nil, or_false] at hn
            rcases hn with rfl | rfl | rfl
            · exact b1
            · exact b2
            · exact b3
          walk_at "st"
          refine kBM.extL hW9.choose_spec.2.1 ?_
          walk_at "st"
          refine kIT.mk sk (kLc.go walk_tup (by show 3 ≤ 100000; decide) (fun i acc _ => ∃ zs : List Str, acc = zs.map V.str ∧ ∀ z ∈ zs, z.length ≤ 60) (fun _ _ _ _ _ _ z => z) ⟨[], rfl, fun _ h => nomatch h⟩ (fun _ e => e.sqt sk) (fun E Nx i acc x H5 H6 hi5 e5 hp y fin _ => ?_) fun p4 acc H11 e11 n11 g11 hl11 hp => ?_)
          · obtain ⟨zs, rfl, hz⟩ := hp
            obtain ⟨rfl, hx5⟩ := y
            have hx5 : ([k.1, k.2.1, k.2.2].map V.int)[i]? = some x := hx5
            rw [List.getElem?_map] at hx5
            obtain ⟨n, hn, rfl⟩ := Option.map_eq_some_iff.mp hx5
            walk_at "st"
            refine ⟨rfl, ?_⟩
            walk_at "st"
            refine k_ifT rfl ?_
            walk_at "st"
            refine k_strI (hns n (List.mem_of_getElem? hn)) fun z hz2 => ?_
            refine fin _ _ Lx.refl ⟨zs ++ [z], by rw [List.map_append]; rfl, fun u hu => ?_⟩
            rcases List.mem_append.mp hu with q | q
            · exact hz u q
            · rw [List.mem_singleton.mp q]
              exact hz2
          · obtain ⟨zs, rfl, hz⟩ := hp
            rw [List.length_map] at hl11
            have hl11 : zs.length ≤ 3 := hl11
            walk_at "st"
            refine (hW9.le e11).extL n1 (m := 3) (by omega) g11 (by omega) hz fun H12 x12 hW12 => ?_
            walk_at "st"
            exact ⟨hW12.mono (by omega), x9.trans (e11.of.trans x12), _, _, rfl⟩
        · obtain ⟨hW9, x9, a, d, rfl⟩ := z
          walk_at "st"
          exact ⟨hW9.mono (by omega), _, _, _, _, rfl⟩
      · obtain ⟨⟨zs, e5, g5, hn, hz⟩, a, b, c, d, rfl⟩ := z
        have hs := sum_le hz
        walk_at "st"
        have hsp : (" " : Str).length = 1 := by decide +kernel
        refine ⟨" ", p1, zs, rfl, rfl, .inl (SqL.of g5), ?_, q _ _ e5 (Nat.le_trans (show (Txt.join (" " : Str) zs).length ≤ _ by rw [show Txt.join (" " : Str) zs = Str.join " " zs from StrLaws.glued_eq_join " " zs]; exact StrLaws.join_length_le " " zs) ?_)⟩
        · rw [hsp]
          omega
        · rw [hsp]
          omega
def spFrame (K : PySem.W.Frag) : Sp := fun vs H Q _ => ∃ z : Str, vs = [.str z] ∧ z.length ≤ 20000 ∧ ∀ y : Str, y.length ≤ 20100 → Q (.str y) H
theorem ok_frame (Z : Zed w K mg) : Fn P w K mg base CX0 1 (He.ga K "frame") (spFrame K) := by
  refine Fn.of0 (F_frame Z) sc_frame (fun _ _ _ _ _ _ us hl => match us, hl with | [_], _ => rfl) (fun vs H Q E h => ?_) (fun cdv A outer s H vs Q E hr h => ?_)
  · obtain ⟨z, rfl, _⟩ := h
    rfl
  · obtain ⟨z, rfl, hz, q⟩ := h
    refine ⟨_, (pss_one (ps_ret (pe_op op_add_str (pe_op op_add_str (pe_op op_add_str (pe_callTy cr_strI (by rfl) Z.n_str (by decide +kernel) (pa_cons (pe_callB cr_len (by rfl) Z.n_len PySem.boot_len (pa_cons (pv 0) pa_nil)) pa_nil)) pe_str) (pv 0)) pe_str))), ?_⟩
    walk_at "go"
    refine k_lenS (by omega) ?_
    walk_at "st"
    refine k_strI (by unfold Bd; omega) fun y hy => ?_
    walk_at "st"
    have hsp : (" " : Str).length = 1 := by decide +kernel
    have hnl : ("\n" : Str).length = 1 := by decide +kernel
    have hs : (2000000 : Nat) ≤ sizeLine := by decide
    refine ⟨_, _, rfl, rfl, by omega, ?_⟩
    walk_at "st"
    refine ⟨_, _, rfl, rfl, by rw [Str.length_append]; omega, ?_⟩
    walk_at "st"
    refine ⟨_, _, rfl, rfl, by rw [Str.length_append, Str.length_append]; omega, ?_⟩
    exact q _ (by rw [Str.length_append, Str.length_append, Str.length_append]; omega)
def spLine (K : PySem.W.Frag) : Sp := fun vs H Q _ => ∃ (g : Addr) (kd : Nat) (m : Int) (ds : List Dd) (sg : List Sg) (e : Int) (pd psg : Addr) (xd xs : List V), vs = [.ref g] ∧ GrB K H g kd m ds sg e pd psg xd xs ∧ ∀ (z : Str) H', Le H H' → z.length ≤ 20100 → Q (.str z) H'
theorem ok_group_line (Z : Zed w K mg) : Fn P w K mg base CX0 3 (He.ga K "group_line") (spLine K) := by
  have O_frame := ok_frame (P := P) (base := base) Z
  have O_write_group := ok_write_group (P := P) (base := base) Z
  refine Fn.of0 (F_group_line Z) sc_group_line (fun _ _ _ _ _ _ us hl => match us, hl with | [_], _ => rfl) (fun vs H Q E h => ?_) (fun cdv A outer s H vs Q E hr h => ?_)
  · obtain ⟨g, kd, m, ds, sg, e, pd, psg, xd, xs, rfl, _⟩ := h
    rfl
  · obtain ⟨g, kd, m, ds, sg, e, pd, psg, xd, xs, rfl, hg, q⟩ := h
    refine ⟨_, (pss_one (ps_ret (pe_f O_frame hr (by decide) Z.g_frame pass0 (pa_cons (pe_f O_write_group hr (by decide) Z.g_write_group pass0 (pa_cons (pv 0) pa_nil)) pa_nil)))), ?_⟩
    walk_at "go"
    refine ⟨g, kd, m, ds, sg, e, pd, psg, xd, xs, rfl, hg, fun z H1 e1 hz => ?_⟩
    walk_at "st"
    exact ⟨z, rfl, hz, fun y hy => q y H1 e1 hy⟩
end G
end
section
set_option Elab.async false
set_option linter.all false
set_option maxRecDepth 100000
set_option maxHeartbeats 1000000
namespace G
open PySem PySem.Spec PyProof.Rows L2
local macro_rules | `(tactic| walk_at "st") => `(tactic| repeat (first
  | with_reducible refine k_seq ?_
  | with_reducible refine k_asg ?_
  | with_reducible refine k_gn ?_
  | with_reducible refine k_op ?_
  | ((with_reducible refine' k_var ?vh ?_); (case vh => rfl))
  | with_reducible refine k_c ?_
  | with_reducible refine k_cons ?_
  | with_reducible refine k_nil ?_
  | with_reducible refine k_I0 ?_
  | with_reducible refine k_ret ?_
  | with_reducible refine k_if ?_
  | with_reducible refine k_test ?_
  | with_reducible refine k_bl ?_
  | with_reducible refine k_cb ?_
  | with_reducible refine k_cl ?_
  | with_reducible refine k_int ?_
  | with_reducible refine k_tup ?_
  | with_reducible refine k_lst ?_
  | with_reducible refine k_fld ?_
  | with_reducible refine k_mt ?_
  | with_reducible refine k_for ?_
  | with_reducible refine k_iL ?_
  | with_reducible refine k_iT ?_
  | with_reducible refine k_iR1 ?_
  | with_reducible refine k_iS ?_
  | with_reducible refine k_par ?_
  | with_reducible refine k_ex2 ?_
  | with_reducible refine k_rfl2 ?_
  | with_reducible refine k_iZA ?_
  | with_reducible refine k_gcons ?_
  | with_reducible refine k_gnil ?_
  | with_reducible refine k_exI ?_
  | with_reducible refine k_bits ?_
  | with_reducible refine k_chain ?_
  | ((with_reducible refine' k_aug ?vh ?_); (case vh => rfl))
  | with_reducible refine k_ipI ?_
  | with_reducible refine k_inG ?_
  | with_reducible refine k_m1 ?_
  | with_reducible refine kM1.mk ?_
  | with_reducible refine k_yes ?_
  | with_reducible refine k_lc ?_
  | with_reducible refine k_andV ?_
  | with_reducible refine k_orV ?_
  | with_reducible refine k_tB ?_
  | with_reducible refine k_and ?_
  | with_reducible refine k_or ?_
  | with_reducible refine k_not ?_
  | with_reducible refine k_retN ?_
  | with_reducible refine k_next ?_
  | with_reducible refine k_fset ?_
  | with_reducible refine k_faug ?_
  | with_reducible refine k_sl ?_
  | with_reducible refine k_part ?_
  | with_reducible refine k_nopart ?_
  | with_reducible refine k_un ?_
  | with_reducible refine k_u1 ?_
  | with_reducible refine k_dget ?_
  | with_reducible refine k_din ?_
  | with_reducible refine k_dnin ?_
  | with_reducible refine k_dput ?_
  | with_reducible refine k_dget2 ?_
  | with_reducible refine k_bm ?_
  | with_reducible refine k_augs ?_
  | with_reducible refine k_gsub ?_
  | with_reducible refine k_enT ?_
  | with_reducible refine k_anyI ?_
  | with_reducible refine k_allI ?_
  | with_reducible refine k_lenX ?_
  | with_reducible refine k_sortX ?_
  | with_reducible refine k_drop ?_))
local macro_rules | `(tactic| walk_at "go") => `(tactic| ((try dsimp only [cxOf]); walk_at "st"))
local macro_rules | `(tactic| walk_at "len") => `(tactic| (simp only [List.length_append, List.length_map, List.length_cons, List.length_nil, List.length_replicate] at *; omega))

variable {P : Program} {w : World} {K : PySem.W.Frag} {mg : Str → Option Value} {base : Heap}
/-! ### the row of a group -/
def W8 : List Str := ["", "open", "close", "move", "mint", "burn", "change", "rule"]
theorem w8_at {wd : Str} (h : wd ∈ wordsL) : ∃ j : Nat, W8[j]? = some wd ∧ ∀ m, m < j → W8[m]? ≠ some wd := by
  simp only [wordsL, List.mem_cons, List.not_mem_nil, or_false] at h
  rcases h with rfl | rfl | rfl | rfl | rfl | rfl | rfl
  · exact ⟨1, rfl, by decide +kernel⟩
  · exact ⟨2, rfl, by decide +kernel⟩
  · exact ⟨3, rfl, by decide +kernel⟩
  · exact ⟨4, rfl, by decide +kernel⟩
  · exact ⟨5, rfl, by decide +kernel⟩
  · exact ⟨6, rfl, by decide +kernel⟩
  · exact ⟨7, rfl, by decide +kernel⟩
theorem Zed.words_ty (Z : Zed w K mg) (H : Hp) : tyV K "tuple" (.ref (He.ga K "WORDS")) H := by
  have h := (He.ba (He.ba (He.ba (He.ba Z.more).2).2).2).2
  unfold nodB at h
  refine .inr (.inl ⟨rfl, ?_⟩)
  split at h
  · rename_i c n d e
    exact ⟨_, e, by rw [of_decide_eq_true h], rfl⟩
  · cases h
theorem Zed.rot (Z : Zed w K mg) : He.ga K "root_of_trees" = He.ga K "root_of" := of_decide_eq_true (He.ba (He.ba (He.ba (He.ba Z.more).2).2).2).1
def RowAt (H0 : Hp) (p : Addr) (n : Nat) (H : Hp) : Prop := ∃ ns : List Int, Le H0 H ∧ H p = some (.lst (ns.map V.int)) ∧ ns.length ≤ n
theorem RowAt.le {H0 H H' : Hp} {p : Addr} {n : Nat} (h : RowAt H0 p n H) (x : Le H H') : RowAt H0 p n H' := let ⟨zs, e, hl, hk⟩ := h; ⟨zs, e.trans x, x.lst hl, hk⟩
theorem RowAt.mono {H0 H : Hp} {p : Addr} {n m : Nat} (h : RowAt H0 p n H) (x : n ≤ m) : RowAt H0 p m H := let ⟨zs, e, hl, hk⟩ := h; ⟨zs, e, hl, Nat.le_trans hk x⟩
theorem RowAt.app {H0 H : Hp} {p : Addr} {n : Nat} {y : Int} (h : RowAt H0 p n H) (hp : H0 p = none) (hn : n ≤ 900) {Q : VK} (q : ∀ H', Lx (fun a => a = p) H H' → RowAt H0 p (n + 1) H' → Q .non H') : rAppend (.ref p) [.int y] H Q := by
  obtain ⟨xs, e, hl, hk⟩ := h
  refine k_app hl (by rw [List.length_map]; omega) (q _ (Lx.wr rfl hl (fun z => z) (by intro ps z; cases z)) ⟨xs ++ [y], e.own hp (by rw [hl]; exact fun z => nomatch z), ?_, ?_⟩)
  · rw [upd_same, List.map_append]
    rfl
  · rw [List.length_append, List.length_singleton]
    omega
theorem RowAt.add {H0 H : Hp} {p : Addr} {n m : Nat} {xs ys : List Int} (e : Le H0 H) (hl : H p = some (.lst (xs.map V.int))) (hk : xs.length ≤ n) (hp : H0 p = none) (hm : ys.length ≤ m) : Lx (fun a => a = p) H (upd H p (.lst (xs.map V.int ++ ys.map V.int))) ∧ RowAt H0 p (n + m) (upd H p (.lst (xs.map V.int ++ ys.map V.int))) := by
  refine ⟨Lx.wr rfl hl (fun z => z) (by intro ps z; cases z), xs ++ ys, e.own hp (by rw [hl]; exact fun z => nomatch z), ?_, ?_⟩
  · rw [upd_same, List.map_append]
  · rw [List.length_append]
    omega
theorem RowAt.extT {H0 H : Hp} {p l : Addr} {n m : Nat} {ys : List Int} (h : RowAt H0 p n H) (hp : H0 p = none) (hn : n + m ≤ 1000) (hl2 : SqT K H l (ys.map V.int)) (hm : ys.length ≤ m) {Q : VK} (q : ∀ H', Lx (fun a => a = p) H H' → RowAt H0 p (n + m) H' → Q .non H') : rExtT K (.ref p) [.ref l] H Q := by
  obtain ⟨xs, e, hl, hk⟩ := h
  obtain ⟨x1, r1⟩ := RowAt.add e hl hk hp hm
  exact k_extT hl hl2 (by rw [List.length_map, List.length_map]; omega) (q _ x1 r1)
theorem RowAt.extL {H0 H : Hp} {p l : Addr} {n m : Nat} {ys : List Int} (h : RowAt H0 p n H) (hp : H0 p = none) (hn : n + m ≤ 1000) (hl2 : H l = some (.lst (ys.map V.int))) (hm : ys.length ≤ m) {Q : VK} (q : ∀ H', Lx (fun a => a = p) H H' → RowAt H0 p (n + m) H' → Q .non H') : rExtend (.ref p) [.ref l] H Q := by
  obtain ⟨xs, e, hl, hk⟩ := h
  obtain ⟨x1, r1⟩ := RowAt.add e hl hk hp hm
  exact ⟨p, l, _, _, rfl, rfl, hl, hl2, Nat.le_trans (show _ ≤ 1000 by rw [List.length_map, List.length_map]; omega) (by decide), q _ x1 r1⟩
def spDRow (K : PySem.W.Frag) : Sp := fun vs H Q _ => ∃ (v : V) (wd : Str) (its : List PyData), vs = [v] ∧ Is K H v (.tuple (.str wd :: its)) ∧ wd ∈ wordsL ∧ its.length ≤ 4 ∧ (∀ x ∈ its, DI x) ∧
  ∀ (p : Addr) (ns : List Int) (H' : Hp), Le H H' → H' p = some (.lst (ns.map V.int)) → ns.length ≤ 33 → Q (.ref p) H'
theorem ok_deed_row (Z : Zed w K mg) : Fn P w K mg base CX0 2 (He.ga K "deed_row") (spDRow K) := by
  have O_number_of := ok_number_of (P := P) (base := base) Z
  refine Fn.of0 (F_deed_row Z) sc_deed_row (fun _ _ _ _ _ _ us hl => match us, hl with | [_], _ => rfl) (fun vs H Q E h => ?_) (fun cdv A outer s H vs Q E hr h => ?_)
  · obtain ⟨v, wd, its, rfl, _⟩ := h
    rfl
  · obtain ⟨v, wd, its, rfl, hv, hw, hl, hd, q⟩ := h
    obtain ⟨p, xs, rfl, sq, r⟩ := hv.tup_inv
    obtain ⟨x0, ys, rfl, i0, isl⟩ := r.cons_inv
    obtain rfl := i0.str_inv
    have hyl : ys.length ≤ 4 := by rw [isl.length]; exact hl
    obtain ⟨j, hj1, hj2⟩ := w8_at hw
    refine ⟨_, (pss_cons (ps_set (i := 1) sc_deed_row.nd rfl (Or.inl rfl) (pe_lst (pa_cons (pe_bm PySem.F.plainAttrs_tuple PySem.F.slot_tuple_index PySem.F.type_tuple_index mt_tup_index (pe_ga Z.g_WORDS) (pa_cons (pe_ix ix_tup (pv 0) pe_int (fun _ _ => rfl)) pa_nil)) pa_nil))) (pss_cons (ps_for PassesOwn.never rfl (pi_tup (pe_slice sl_tupA (pv 0) (po_some pe_int) po_none)) (pg_name (i := 2) sc_deed_row.nd rfl (Or.inl rfl)) (pss_one (ps_if (pt_val (pe_callB call_isi (by rfl) Z.n_isinstance (by decide +kernel) (pa_cons (pv 2) (pa_cons (pe_bltn (v := .ty "str") rfl Z.n_str (by decide +kernel) rfl) pa_nil)))) (pss_one (ps_expr (pe_bm PySem.F.plainAttrs_list PySem.F.slot_list_append PySem.F.type_list_append mt_append (pv 1) (pa_cons (pe_f O_number_of hr (by decide) Z.g_number_of pass0 (pa_cons (pv 2) pa_nil)) pa_nil)))) (pss_one (ps_if (pt_val (pe_callB call_isi (by rfl) Z.n_isinstance (by decide +kernel) (pa_cons (pv 2) (pa_cons (pe_bltn (v := .ty "tuple") rfl Z.n_tuple (by decide +kernel) rfl) pa_nil)))) (pss_one (ps_expr (pe_bm PySem.F.plainAttrs_list PySem.F.slot_list_extend PySem.F.type_list_extend mt_extT (pv 1) (pa_cons (pv 2) pa_nil)))) (pss_one (ps_expr (pe_bm PySem.F.plainAttrs_list PySem.F.slot_list_append PySem.F.type_list_append mt_append (pv 1) (pa_cons (pv 2) pa_nil))))))))) (pss_one (ps_ret (pv 1))))), ?_⟩
    walk_at "go"
    refine ⟨Z.words_ty H, ?_⟩
    walk_at "st"
    refine k_ixT sq at0 ?_
    walk_at "st"
    refine ⟨_, W8, wd, j, rfl, rfl, Z.e_words H, hj1, hj2, ?_⟩
    walk_at "st"
    refine kLst.mk (by show 1 ≤ 1000; decide) fun p1 H1 e1 n1 g1 => ?_
    have W1 : RowAt H p1 1 H1 := ⟨[(j : Nat)], e1, g1, Nat.le_refl 1⟩
    walk_at "st"
    refine k_slT (e1.sqt sq) fun r2 H2 e2 sr => ?_
    rw [cut1] at sr
    refine kIT.mk sr (kFor.go walk_tup (fun i σ H' => RowAt H p1 (1 + 8 * i) H' ∧ SqT K H' r2 ys ∧ ∃ a, σ = [some (.ref p), some (.ref p1), a]) ⟨W1.le e2, sr, _, rfl⟩ (fun i σ H' _ z => z.2.1) (fun i x σ H3 H4 hi z y => ?_) fun σ H3 z => ?_)
    · obtain ⟨hW, sr3, a, rfl⟩ := z
      obtain ⟨rfl, hx⟩ := y
      have le3 : Le H H4 := hW.choose_spec.1
      obtain ⟨d, hd1, is⟩ := isl.get hx
      have is3 := is.lx le3
      rcases hd d (List.mem_of_getElem? hd1) with ⟨z, k, rfl, hz⟩ | ⟨n, rfl, hn⟩ | ⟨ns, rfl, hln, hns⟩
      · obtain rfl := is3.str_inv
        walk_at "st"
        refine k_isiS kit_ss ?_
        walk_at "st"
        refine k_ifT rfl ?_
        walk_at "st"
        refine kBM.app hW.choose_spec.2.1 ?_
        walk_at "st"
        refine ⟨z, k, rfl, hz, ?_⟩
        walk_at "st"
        refine hW.app n1 (by omega) fun H5 x5 hW5 => ?_
        walk_at "st"
        exact ⟨hW5.mono (by omega), x5.sqt sr3, _, rfl⟩
      · obtain rfl := is3.int_inv
        walk_at "st"
        refine k_isiI kit_is ?_
        walk_at "st"
        refine k_ifF rfl ?_
        walk_at "st"
        refine k_isiI kit_it ?_
        walk_at "st"
        refine k_ifF rfl ?_
        walk_at "st"
        refine kBM.app hW.choose_spec.2.1 ?_
        walk_at "st"
        refine hW.app n1 (by omega) fun H5 x5 hW5 => ?_
        walk_at "st"
        exact ⟨hW5.mono (by omega), x5.sqt sr3, _, rfl⟩
      · obtain ⟨pt, rfl, st⟩ := is3.ints_inv
        walk_at "st"
        refine k_isiT st kit_ts ?_
        walk_at "st"
        refine k_ifF rfl ?_
        walk_at "st"
        refine k_isiT st kit_tt ?_
        walk_at "st"
        refine k_ifT rfl ?_
        walk_at "st"
        refine kBM.ext hW.choose_spec.2.1 ?_
        walk_at "st"
        refine hW.extT n1 (m := 8) (by omega) st hln fun H6 x6 hW6 => ?_
        walk_at "st"
        exact ⟨hW6.mono (by omega), x6.sqt sr3, _, rfl⟩
    · obtain ⟨⟨zs, e, g, hn⟩, _, a, rfl⟩ := z
      walk_at "st"
      exact q p1 zs H3 e g (by omega)
def spGRow (K : PySem.W.Frag) : Sp := fun vs H Q _ => ∃ (g : Addr) (kd : Nat) (m : Int) (ds : List Dd) (sg : List Sg) (e : Int) (pd psg : Addr) (xd xs : List V), vs = [.ref g] ∧ GrB K H g kd m ds sg e pd psg xd xs ∧ ∀ (p : Addr) (ns : List Int) H', Le H H' → SqT K H' p (ns.map V.int) → ns.length ≤ 900 → Q (.ref p) H'
theorem ok_row_of_group (Z : Zed w K mg) : Fn P w K mg base CX0 3 (He.ga K "row_of_group") (spGRow K) := by
  have O_deed_row := ok_deed_row (P := P) (base := base) Z
  have O_number_of := ok_number_of (P := P) (base := base) Z
  refine Fn.of0 (F_row_of_group Z) sc_row_of_group (fun _ _ _ _ _ _ us hl => match us, hl with | [_], _ => rfl) (fun vs H Q E h => ?_) (fun cdv A outer s H vs Q E hr h => ?_)
  · obtain ⟨g, kd, m, ds, sg, e, pd, psg, xd, xs, rfl, _⟩ := h
    rfl
  · obtain ⟨g, kd, m, ds, sg, e, pd, psg, xd, xs, rfl, ⟨hg, hkd, hm, he⟩, q⟩ := h
    obtain ⟨gx, hgx⟩ := hg.at_
    have lxs : xs.length ≤ 4 := by rw [hg.is_.length, List.length_map]; exact hg.s4
    have lxd : xd.length ≤ 4 := by rw [hg.id_.length, List.length_map]; exact hg.d4
    refine ⟨_, (pss_cons (ps_set (i := 1) sc_row_of_group.nd rfl (Or.inl rfl) (pe_lst (pa_cons (pe_fld (pv 0) rfl) (pa_cons (pe_callB cr_len (by rfl) Z.n_len PySem.boot_len (pa_cons (pe_fld (pv 0) rfl) pa_nil)) pa_nil)))) (pss_cons (ps_for PassesOwn.never rfl (pi_tup (pe_fld (pv 0) rfl)) (pg_name (i := 2) sc_row_of_group.nd rfl (Or.inl rfl)) (pss_one (ps_expr (pe_bm PySem.F.plainAttrs_list PySem.F.slot_list_extend PySem.F.type_list_extend mt_extend (pv 1) (pa_cons (pe_f O_deed_row hr (by decide) Z.g_deed_row pass0 (pa_cons (pv 2) pa_nil)) pa_nil))))) (pss_cons (ps_expr (pe_bm PySem.F.plainAttrs_list PySem.F.slot_list_append PySem.F.type_list_append mt_append (pv 1) (pa_cons (pe_callB cr_len (by rfl) Z.n_len PySem.boot_len (pa_cons (pe_fld (pv 0) rfl) pa_nil)) pa_nil))) (pss_cons (ps_for PassesOwn.never rfl (pi_tup (pe_fld (pv 0) rfl)) (pg_tup rfl (pgs_cons (pg_name (i := 3) sc_row_of_group.nd rfl (Or.inl rfl)) (pgs_cons (pg_name (i := 4) sc_row_of_group.nd rfl (Or.inl rfl)) pgs_nil))) (pss_cons (ps_expr (pe_bm PySem.F.plainAttrs_list PySem.F.slot_list_append PySem.F.type_list_append mt_append (pv 1) (pa_cons (pe_f O_number_of hr (by decide) Z.g_number_of pass0 (pa_cons (pv 3) pa_nil)) pa_nil))) (pss_cons (ps_expr (pe_bm PySem.F.plainAttrs_list PySem.F.slot_list_append PySem.F.type_list_append mt_append (pv 1) (pa_cons (pe_callB cr_len (by rfl) Z.n_len PySem.boot_len (pa_cons (pv 4) pa_nil)) pa_nil))) (pss_one (ps_for PassesOwn.never rfl (pi_tup (pv 4)) (pg_name (i := 5) sc_row_of_group.nd rfl (Or.inl rfl)) (pss_one (ps_expr (pe_bm PySem.F.plainAttrs_list PySem.F.slot_list_extend PySem.F.type_list_extend mt_extT (pv 1) (pa_cons (pv 5) pa_nil))))))))) (pss_one (ps_ret (pe_callTy cr_tuple (by rfl) Z.n_tuple (by decide +kernel) (pa_cons (pv 1) pa_nil)))))))), ?_⟩
    walk_at "go"
    refine Z.f_epoch hgx ?_
    walk_at "st"
    refine Z.f_deeds hgx ?_
    walk_at "st"
    refine k_lenT hg.sd ?_
    walk_at "st"
    refine kLst.mk (by show 2 ≤ 1000; decide) fun p1 H1 e1 n1 g1 => ?_
    have W1 : RowAt H p1 2 H1 := ⟨[e, (xd.length : Nat)], e1, g1, Nat.le_refl 2⟩
    walk_at "st"
    refine Z.f_deeds (e1.get hgx) ?_
    walk_at "st"
    refine kIT.mk (e1.sqt hg.sd) (kFor.go walk_tup (fun i σ H' => RowAt H p1 (2 + 33 * i) H' ∧ ∃ a, σ = [some (.ref g), some (.ref p1), a, none, none, none]) ⟨W1, _, rfl⟩ (fun i σ H' _ z => z.1.choose_spec.1.sqt hg.sd) (fun i x σ H3 H4 hi z y => ?_) fun σ H3 z => ?_)
    · obtain ⟨hW, a, rfl⟩ := z
      obtain ⟨rfl, hx⟩ := y
      obtain ⟨d, _, hd, is⟩ := isl_map (hg.id_.lx hW.choose_spec.1) hx
      obtain ⟨wd, its, ed, hwd, hl, hit⟩ := dd_items (hg.okd d hd) hkd hm
      rw [ed] at is
      walk_at "st"
      refine kBM.extL hW.choose_spec.2.1 ?_
      walk_at "st"
      refine ⟨x, wd, its, rfl, is, hwd, hl, hit, fun p4 zs H5 e5 g5 hn => ?_⟩
      walk_at "st"
      refine (hW.le e5).extL n1 (m := 33) (by omega) g5 hn fun H6 x6 hW6 => ?_
      walk_at "st"
      exact ⟨hW6.mono (by omega), _, rfl⟩
    · obtain ⟨hW, a, rfl⟩ := z
      have hW := hW.mono (show _ ≤ 134 by omega)
      walk_at "st"
      refine kBM.app hW.choose_spec.2.1 ?_
      walk_at "st"
      refine Z.f_signatures (hW.choose_spec.1.get hgx) ?_
      walk_at "st"
      refine k_lenT (hW.choose_spec.1.sqt hg.ss) ?_
      walk_at "st"
      refine hW.app n1 (by omega) fun H4 x4 hW4 => ?_
      walk_at "st"
      refine Z.f_signatures (hW4.choose_spec.1.get hgx) ?_
      walk_at "st"
      refine kIT.mk (hW4.choose_spec.1.sqt hg.ss) (kFor.go walk_tup (fun i σ H' => RowAt H p1 (135 + 11 * i) H' ∧ ∃ a b c d, σ = [some (.ref g), some (.ref p1), a, b, c, d]) ⟨hW4, _, _, _, _, rfl⟩ (fun i σ H' _ z => z.1.choose_spec.1.sqt hg.ss) (fun i x σ H5 H6 hi5 z y => ?_) fun σ H5 z => ?_)
      · obtain ⟨hW5, a, b, c, d, rfl⟩ := z
        obtain ⟨rfl, hx⟩ := y
        obtain ⟨s1, _, hs1, is⟩ := isl_map (hg.is_.lx hW5.choose_spec.1) hx
        have ok := hg.oks s1 hs1
        obtain ⟨pp, p2, ys, rfl, sq, sq2, isk⟩ := sg_inv is
        have hly : ys.length ≤ 3 := by rw [isk.length, List.length_map]; exact ok.l3
        refine k_gtup sq rfl ?_
        walk_at "st"
        refine kBM.app hW5.choose_spec.2.1 ?_
        walk_at "st"
        refine ⟨_, _, rfl, nmA_L ok.nm, ?_⟩
        walk_at "st"
        refine hW5.app n1 (by omega) fun H7 x7 hW7 => ?_
        walk_at "st"
        refine kBM.app hW7.choose_spec.2.1 ?_
        walk_at "st"
        refine k_lenT (x7.sqt sq2) ?_
        walk_at "st"
        refine hW7.app n1 (by omega) fun H8 x8 hW8 => ?_
        walk_at "st"
        refine kIT.mk (x8.sqt (x7.sqt sq2)) (kFor.go walk_tup (fun j σ H' => RowAt H p1 (135 + 11 * i + 2 + 3 * j) H' ∧ Lx (fun a => a = p1) H6 H' ∧ ∃ a d, σ = [some (.ref g), some (.ref p1), a, some (.str s1.n.1), some (.ref p2), d]) ⟨hW8, x7.trans x8, _, _, rfl⟩ (fun j σ H' _ z => z.2.1.sqt sq2) (fun j x σ H9 H10 hj z y => ?_) fun σ H9 z => ?_)
        · obtain ⟨hW9, x9, a, d, rfl⟩ := z
          obtain ⟨rfl, hx⟩ := y
          obtain ⟨k, pk, hk, rfl, sk⟩ := ky_inv (isk.lx x9) hx
          walk_at "st"
          refine kBM.ext hW9.choose_spec.2.1 ?_
          walk_at "st"
          refine hW9.extT n1 (m := 3) (by omega) (ys := [k.1, k.2.1, k.2.2]) sk (Nat.le_refl 3) fun H12 x12 hW12 => ?_
          walk_at "st"
          exact ⟨hW12.mono (by omega), x9.trans x12, _, _, rfl⟩
        · obtain ⟨hW9, x9, a, d, rfl⟩ := z
          walk_at "st"
          exact ⟨hW9.mono (by omega), _, _, _, _, rfl⟩
      · obtain ⟨⟨zs, e5, g5, hn⟩, a, b, c, d, rfl⟩ := z
        walk_at "st"
        refine k_tupleL (SqL.of g5) fun p6 H6 e6 n6 g6 => ?_
        exact q p6 zs H6 (e5.trans e6) (SqT.of g6) (by omega)
def spMark (K : PySem.W.Frag) : Sp := fun vs H Q _ => ∃ (s g : Addr) (kd : Nat) (m : Int) (ds : List Dd) (sg : List Sg) (e : Int) (pd psg : Addr) (xd xs : List V), vs = [.ref s, .ref g] ∧ SeA K H s m ∧ GrB K H g kd m ds sg e pd psg xd xs ∧ ∀ (z : Int) H', Le H H' → Q (.int z) H'
theorem ok_mark_of_group (Z : Zed w K mg) : Fn P w K mg base CX0 4 (He.ga K "mark_of_group") (spMark K) := by
  have O_Sealer_seal := ok_Sealer_seal (P := P) (base := base) Z
  have O_row_of_group := ok_row_of_group (P := P) (base := base) Z
  refine Fn.of0 (F_mark_of_group Z) sc_mark_of_group (fun _ _ _ _ _ _ us hl => match us, hl with | [_, _], _ => rfl) (fun vs H Q E h => ?_) (fun cdv A outer s H vs Q E hr h => ?_)
  · obtain ⟨s, g, kd, m, ds, sg, e, pd, psg, xd, xs, rfl, _⟩ := h
    rfl
  · obtain ⟨s, g, kd, m, ds, sg, e, pd, psg, xd, xs, rfl, hs, hg, q⟩ := h
    obtain ⟨⟨sx, hsx⟩, _⟩ := id hs
    refine ⟨_, (pss_one (ps_ret (pe_m Z.c_Sealer Z.t_Sealer_seal O_Sealer_seal hr (by decide) pass0 (pv 0) (pa_cons (pe_f O_row_of_group hr (by decide) Z.g_row_of_group pass0 (pa_cons (pv 1) pa_nil)) pa_nil)))), ?_⟩
    walk_at "go"
    refine kMt.mk hsx (by kernel_rfl) ?_
    walk_at "st"
    refine ⟨g, kd, m, ds, sg, e, pd, psg, xd, xs, rfl, hg, fun p ns H1 e1 sq hl => ?_⟩
    walk_at "st"
    exact ⟨s, m, p, ns, rfl, hs.le e1, sq, hl, fun z H2 _ _ e2 => q z H2 (e1.trans e2)⟩
def spRcN : Sp := fun vs H Q _ => ∃ n : Nat, vs = [.int (n : Nat)] ∧ n < 18 ∧ ∀ z k, (z, k) ∈ nmL → Q (.str z) H
theorem rc_name : ∀ n, n < 18 → nmL.any (fun p => p.1 == (("g" : Str) ++ (Str.ofString (toString ((n : Nat) : Int))))) = true := by decide +kernel
theorem ok_receipt_name (Z : Zed w K mg) : Fn P w K mg base CX0 1 (He.ga K "receipt_name") spRcN := by
  refine Fn.of0 (F_receipt_name Z) sc_receipt_name (fun _ _ _ _ _ _ us hl => match us, hl with | [_], _ => rfl) (fun vs H Q E h => ?_) (fun cdv A outer s H vs Q E hr h => ?_)
  · obtain ⟨n, rfl, _⟩ := h
    rfl
  · obtain ⟨n, rfl, hn, q⟩ := h
    refine ⟨_, (pss_one (ps_ret (pe_op op_add_str pe_str (pe_callTy cr_strI (by rfl) Z.n_str (by decide +kernel) (pa_cons (pv 0) pa_nil))))), ?_⟩
    walk_at "go"
    have hb : Bd (n : Int) := by unfold Bd; omega
    refine ⟨_, rfl, hb.log, ?_⟩
    have hl := hb.len
    have hg : ("g" : Str).length = 1 := by decide +kernel
    refine ⟨_, _, rfl, rfl, Nat.le_trans (show _ ≤ 1000 by omega) (by decide), ?_⟩
    obtain ⟨pr, hp, he⟩ := List.any_eq_true.mp (rc_name n hn)
    exact q _ pr.2 (by rw [← eq_of_beq he]; exact hp)
end G
end
section
set_option Elab.async false
set_option linter.all false
set_option maxRecDepth 100000
set_option maxHeartbeats 1000000
namespace G
open PySem PySem.Spec PyProof.Rows L2
local macro_rules | `(tactic| walk_at "st") => `(tactic| repeat (first
  | with_reducible refine k_seq ?_
  | with_reducible refine k_asg ?_
  | with_reducible refine k_gn ?_
  | with_reducible refine k_op ?_
  | ((with_reducible refine' k_var ?vh ?_); (case vh => rfl))
  | with_reducible refine k_c ?_
  | with_reducible refine k_cons ?_
  | with_reducible refine k_nil ?_
  | with_reducible refine k_I0 ?_
  | with_reducible refine k_ret ?_
  | with_reducible refine k_if ?_
  | with_reducible refine k_test ?_
  | with_reducible refine k_bl ?_
  | with_reducible refine k_cb ?_
  | with_reducible refine k_cl ?_
  | with_reducible refine k_int ?_
  | with_reducible refine k_tup ?_
  | with_reducible refine k_lst ?_
  | with_reducible refine k_fld ?_
  | with_reducible refine k_mt ?_
  | with_reducible refine k_for ?_
  | with_reducible refine k_iL ?_
  | with_reducible refine k_iT ?_
  | with_reducible refine k_iR1 ?_
  | with_reducible refine k_iS ?_
  | with_reducible refine k_par ?_
  | with_reducible refine k_ex2 ?_
  | with_reducible refine k_rfl2 ?_
  | with_reducible refine k_iZA ?_
  | with_reducible refine k_gcons ?_
  | with_reducible refine k_gnil ?_
  | with_reducible refine k_exI ?_
  | with_reducible refine k_bits ?_
  | with_reducible refine k_chain ?_
  | ((with_reducible refine' k_aug ?vh ?_); (case vh => rfl))
  | with_reducible refine k_ipI ?_
  | with_reducible refine k_inG ?_
  | with_reducible refine k_m1 ?_
  | with_reducible refine kM1.mk ?_
  | with_reducible refine k_yes ?_
  | with_reducible refine k_lc ?_
  | with_reducible refine k_andV ?_
  | with_reducible refine k_orV ?_
  | with_reducible refine k_tB ?_
  | with_reducible refine k_and ?_
  | with_reducible refine k_or ?_
  | with_reducible refine k_not ?_
  | with_reducible refine k_retN ?_
  | with_reducible refine k_next ?_
  | with_reducible refine k_fset ?_
  | with_reducible refine k_faug ?_
  | with_reducible refine k_sl ?_
  | with_reducible refine k_part ?_
  | with_reducible refine k_nopart ?_
  | with_reducible refine k_un ?_
  | with_reducible refine k_u1 ?_
  | with_reducible refine k_dget ?_
  | with_reducible refine k_din ?_
  | with_reducible refine k_dnin ?_
  | with_reducible refine k_dput ?_
  | with_reducible refine k_dget2 ?_
  | with_reducible refine k_bm ?_
  | with_reducible refine k_augs ?_
  | with_reducible refine k_gsub ?_
  | with_reducible refine k_enT ?_
  | with_reducible refine k_anyI ?_
  | with_reducible refine k_allI ?_
  | with_reducible refine k_lenX ?_
  | with_reducible refine k_sortX ?_
  | with_reducible refine k_drop ?_))
local macro_rules | `(tactic| walk_at "go") => `(tactic| ((try dsimp only [cxOf]); walk_at "st"))
local macro_rules | `(tactic| walk_at "len") => `(tactic| (simp only [List.length_append, List.length_map, List.length_cons, List.length_nil, List.length_replicate] at *; omega))

variable {P : Program} {w : World} {K : PySem.W.Frag} {mg : Str → Option Value} {base : Heap}
/-! ### receipts, shelves, chronicles -/
theorem Zed.g_rot (Z : Zed w K mg) : mg "root_of_trees" = some (.ref (He.ga K "root_of")) := by
  rw [← Z.rot]
  exact Z.g_root_of_trees
abbrev rcF (s : Addr) (tv : V) (n : Int) : List (Str × V) := [("_sealer", .ref s), ("_tree", tv), ("_many", .int n)]
def RcA (K : PySem.W.Frag) (H : Hp) (r s : Addr) (n : Nat) : Prop := ∃ dx tv o, H r = some (.ins (He.ga K "Receipts") dx (rcF s tv n)) ∧ Is K H tv (optD o) ∧ WfO o
theorem RcA.le {H H' : Hp} {r s : Addr} {n : Nat} (h : RcA K H r s n) (x : Le H H') : RcA K H' r s n := let ⟨dx, tv, o, a, b, c⟩ := h; ⟨dx, tv, o, x.get a, b.lx x, c⟩
theorem RcA.lx {S : Addr → Prop} {H H' : Hp} {r s : Addr} {n : Nat} (h : RcA K H r s n) (x : Lx S H H') (hn : ¬ S r) : RcA K H' r s n := let ⟨dx, tv, o, a, b, c⟩ := h; ⟨dx, tv, o, x.at a (fun z => (hn z).elim), b.lx x, c⟩
def spRcI (K : PySem.W.Frag) : Sp := fun vs H Q _ => ∃ (x s dx : Addr), vs = [.ref x, .ref s] ∧ H x = some (.ins (He.ga K "Receipts") dx []) ∧ ∀ H', Lx (fun a => a = x) H H' → RcA K H' x s 0 → Q .non H'
theorem ok_Receipts_init (Z : Zed w K mg) : Fn P w K mg base CX0 1 (He.ma K (He.ga K "Receipts") "__init__") (spRcI K) := by
  refine Fn.of0 (F_Receipts_init Z) sc_Receipts_init (fun _ _ _ _ _ _ us hl => match us, hl with | [_, _], _ => rfl) (fun vs H Q E h => ?_) (fun cdv A outer s H vs Q E hr h => ?_)
  · obtain ⟨x, s, dx, rfl, _⟩ := h
    rfl
  · obtain ⟨x, s, dx, rfl, hx, q⟩ := h
    refine ⟨_, (pss_cons (ps_fld (pv 0) (pv 1) rfl) (pss_cons (ps_fld (pv 0) pe_non rfl) (pss_one (ps_fld (pv 0) pe_int rfl)))), ?_⟩
    walk_at "go"
    refine kFSet.mk hx Z.c_Receipts Z.a_Receipts__sealer rfl rfl ?_
    walk_at "st"
    refine kFSet.mk upd_same Z.c_Receipts Z.a_Receipts__tree rfl rfl ?_
    rw [upd_upd]
    walk_at "st"
    refine kFSet.mk upd_same Z.c_Receipts Z.a_Receipts__many rfl rfl ?_
    rw [upd_upd]
    walk_at "st"
    exact q _ (Lx.wr rfl hx (fun z => z) (by intro ps z; cases z)) ⟨dx, .non, none, upd_same, .non, fun t h => nomatch h⟩
theorem Zed.f_rc_sealer (Z : Zed w K mg) {H : Hp} {Q : VK} {r dx s : Addr} {tv : V} {n : Int} (h : H r = some (.ins (He.ga K "Receipts") dx (rcF s tv n))) (q : Q (.ref s) H) : kFld K "_sealer" Q (.ref r) H := kFld.mk h Z.c_Receipts Z.a_Receipts__sealer (by kernel_rfl) q
theorem Zed.f_rc_tree (Z : Zed w K mg) {H : Hp} {Q : VK} {r dx s : Addr} {tv : V} {n : Int} (h : H r = some (.ins (He.ga K "Receipts") dx (rcF s tv n))) (q : Q tv H) : kFld K "_tree" Q (.ref r) H := kFld.mk h Z.c_Receipts Z.a_Receipts__tree (by kernel_rfl) q
theorem Zed.f_rc_many (Z : Zed w K mg) {H : Hp} {Q : VK} {r dx s : Addr} {tv : V} {n : Int} (h : H r = some (.ins (He.ga K "Receipts") dx (rcF s tv n))) (q : Q (.int n) H) : kFld K "_many" Q (.ref r) H := kFld.mk h Z.c_Receipts Z.a_Receipts__many (by kernel_rfl) q
theorem kFAug.mk {σ : L2.St} {H : Hp} {D : Ends} {f : Str} {tv : TE} {rd : V → V → Hp → VK → Prop} {a C dx : Addr} {fs : List (Str × V)} {v : V} (h : H a = some (.ins C dx fs)) (c : Cls K C) (na : NoAttr K C f) (l : fs.lookup f = some v)
    (q : tv σ H fun y H2 => rd v y H2 fun z H3 => ∃ dx' fs', H3 a = some (.ins C dx' fs') ∧ fs'.length < 1000 ∧ D.nx σ (upd H3 a (.ins C dx' (putF f z fs')))) : kFAug K f D σ tv rd (.ref a) H := ⟨a, C, dx, fs, v, rfl, h, c, na, l, q⟩
def spRcA (K : PySem.W.Frag) : Sp := fun vs H Q _ => ∃ (r s g : Addr) (n : Nat) (root : Int) (kd : Nat) (m : Int) (ds : List Dd) (sg : List Sg) (e : Int) (pd psg : Addr) (xd xs : List V), vs = [.ref r, .ref g, .int root] ∧ RcA K H r s n ∧ n < 18 ∧ SeA K H s m ∧ GrB K H g kd m ds sg e pd psg xd xs ∧
  ∀ (z : Int) H', Lx (fun a => a = r) H H' → RcA K H' r s (n + 1) → Q (.int z) H'
theorem ok_Receipts_add (Z : Zed w K mg) : Fn P w K mg base CX0 55 (He.ma K (He.ga K "Receipts") "add") (spRcA K) := by
  have O_mark_of_group := ok_mark_of_group (P := P) (base := base) Z
  have O_put := ok_put (P := P) (base := base) Z 49
  have O_receipt_name := ok_receipt_name (P := P) (base := base) Z
  refine Fn.of0 (F_Receipts_add Z) sc_Receipts_add (fun _ _ _ _ _ _ us hl => match us, hl with | [_, _, _], _ => rfl) (fun vs H Q E h => ?_) (fun cdv A outer s H vs Q E hr h => ?_)
  · obtain ⟨r, s, g, n, root, kd, m, ds, sg, e, pd, psg, xd, xs, rfl, _⟩ := h
    rfl
  · obtain ⟨r, s, g, n, root, kd, m, ds, sg, e, pd, psg, xd, xs, rfl, ⟨dx, tv, o, hr1, hi, hw⟩, hn, hs, hg, q⟩ := h
    refine ⟨_, (pss_cons (ps_set (i := 3) sc_Receipts_add.nd rfl (Or.inl rfl) (pe_tup (pa_cons (pe_f O_mark_of_group hr (by decide) Z.g_mark_of_group pass0 (pa_cons (pe_fld (pv 0) rfl) (pa_cons (pv 1) pa_nil))) (pa_cons (pv 2) pa_nil)))) (pss_cons (ps_fld (pv 0) (pe_f O_put hr (by decide) Z.g_put pass0 (pa_cons (pe_fld (pv 0) rfl) (pa_cons (pe_tup (pa_cons pe_str (pa_cons (pe_f O_receipt_name hr (by decide) Z.g_receipt_name pass0 (pa_cons (pe_fld (pv 0) rfl) pa_nil)) (pa_cons (pe_tup (pa_cons pe_int pa_nil)) (pa_cons (pv 3) pa_nil))))) pa_nil))) rfl) (pss_cons (ps_fldaug (pv 0) pe_int in_add) (pss_one (ps_ret (pe_op op_sub (pe_fld (pv 0) rfl) pe_int)))))), ?_⟩
    walk_at "go"
    refine Z.f_rc_sealer hr1 ?_
    walk_at "st"
    refine ⟨s, g, kd, m, ds, sg, e, pd, psg, xd, xs, rfl, hs, hg, fun mk H1 e1 => ?_⟩
    walk_at "st"
    refine kTup.mk (by show 2 ≤ 1000; decide) fun p2 H2 e2 n2 g2 => ?_
    walk_at "st"
    have hr2 := e2.get (e1.get hr1)
    refine Z.f_rc_tree hr2 ?_
    walk_at "st"
    refine Z.f_rc_many hr2 ?_
    walk_at "st"
    refine ⟨n, rfl, hn, fun nm k hk => ?_⟩
    walk_at "st"
    refine kTup.mk (by show 1 ≤ 1000; decide) fun p3 H3 e3 n3 g3 => ?_
    walk_at "st"
    refine kTup.mk (by show 4 ≤ 1000; decide) fun p4 H4 e4 n4 g4 => ?_
    have e34 := e3.trans e4
    have e14 := (e1.trans e2).trans e34
    walk_at "st"
    refine ⟨tv, .ref p4, o, ⟨nm, k, [1], [mk, root]⟩, rfl, by decide, hi.lx e14, hw, fun t2 h2 => dep_lt (hw t2 h2), leaf_mk (SqT.of g4) (e4.sqt (SqT.of g3)) (e34.sqt (SqT.of g2)), ⟨hk, by show 1 ≤ 3; decide, by show 2 ≤ 8; decide⟩, fun r7 H7 t7 e7 i7 hp => ?_⟩
    walk_at "st"
    have hr7 := e7.get (e14.get hr1)
    refine kFSet.mk (fs' := rcF s r7 n) hr7 Z.c_Receipts Z.a_Receipts__tree rfl rfl ?_
    walk_at "st"
    have x8 : Lx (fun a => a = r) H7 (upd H7 r (.ins (He.ga K "Receipts") dx (rcF s r7 n))) := Lx.wr rfl hr7 (fun z => z) (by intro ps z; cases z)
    refine kFAug.mk (v := .int n) upd_same Z.c_Receipts Z.a_Receipts__many (by kernel_rfl) ?_
    walk_at "st"
    refine ⟨_, _, rfl, rfl, dx, rcF s r7 n, upd_same, by show 3 < 1000; decide, ?_⟩
    rw [upd_upd]
    have ef : putF "_many" (.int ((n : Int) + 1)) (rcF s r7 n) = rcF s r7 ((n + 1 : Nat) : Int) := by rfl
    rw [ef]
    have x9 : Lx (fun a => a = r) H7 (upd H7 r (.ins (He.ga K "Receipts") dx (rcF s r7 ((n + 1 : Nat) : Int)))) := Lx.wr rfl hr7 (fun z => z) (by intro ps z; cases z)
    walk_at "st"
    refine Z.f_rc_many upd_same ?_
    walk_at "st"
    refine q _ _ ((e14.trans e7).of.trans x9) ⟨dx, r7, some t7, upd_same, i7.lx x9, fun t ht => ?_⟩
    cases ht
    cases o with
    | none =>
      obtain rfl : t7 = .leaf ⟨nm, k, [1], [mk, root]⟩ := hp
      exact .leaf ⟨hk, by show 1 ≤ 3; decide, by show 2 ≤ 8; decide⟩
    | some t =>
      have hq : Put Nm t _ t7 := hp
      exact hq.wf
def spStep (K : PySem.W.Frag) : Sp := fun vs H Q _ => ∃ (s r g : Addr) (tv : V) (o : Option Tree) (m : Int) (kd : Nat) (fee : Int) (rd : Addr) (kvs : List (List Key × V)) (ds : List Dd) (sg : List Sg) (e : Int) (pd psg : Addr) (xd xs : List V), vs = [.ref s, .ref r, tv, .ref g] ∧ SeA K H s m ∧ RuA K H r kd fee rd kvs ∧
  Is K H tv (optD o) ∧ WfO o ∧ GrA K H g kd m ds sg e pd psg xd xs ∧ ∀ r H', Le H H' → Q r H'
theorem ok_step_of (Z : Zed w K mg) : Fn P w K mg base CX0 106 (He.ga K "step_of") (spStep K) := by
  have O_group_names := ok_group_names (P := P) (base := base) Z
  have O_prune := ok_prune (P := P) (base := base) Z 49
  refine Fn.of0 (F_step_of Z) sc_step_of (fun _ _ _ _ _ _ us hl => match us, hl with | [_, _, _, _], _ => rfl) (fun vs H Q E h => ?_) (fun cdv A outer s H vs Q E hr h => ?_)
  · obtain ⟨s, r, g, tv, o, m, kd, fee, rd, kvs, ds, sg, e, pd, psg, xd, xs, rfl, _⟩ := h
    rfl
  · obtain ⟨s, r, g, tv, o, m, kd, fee, rd, kvs, ds, sg, e, pd, psg, xd, xs, rfl, hs, hru, hi, hw, hg, q⟩ := h
    refine ⟨_, (pss_one (ps_ret (pe_f O_prune hr (by decide) Z.g_prune pass0 (pa_cons (pv 0) (pa_cons (pv 2) (pa_cons (pe_f O_group_names hr (by decide) Z.g_group_names pass0 (pa_cons (pv 1) (pa_cons (pv 3) pa_nil))) pa_nil)))))), ?_⟩
    walk_at "go"
    refine ⟨r, g, m, kd, fee, rd, kvs, ds, sg, e, pd, psg, xd, xs, rfl, hru, hg, fun p ys H1 e1 g1 hl hy => ?_⟩
    walk_at "st"
    exact ⟨s, m, tv, o, p, ys, rfl, by decide, hs.le e1, hi.lx e1, hw, fun t h => dep_lt (hw t h), g1, hl, hy, fun r H' x => q r H' (e1.trans x)⟩
def spIni (K : PySem.W.Frag) (C : Str) (ys : Addr → Prop → List V → Prop) : Sp := fun vs H Q _ => ∃ (x dx : Addr) (rest : List V), vs = .ref x :: rest ∧ ys x True rest ∧ H x = some (.ins (He.ga K C) dx []) ∧ ∀ H', Lx (fun a => a = x) H H' → Q .non H'
theorem ok_Chronicle_init (Z : Zed w K mg) : Fn P w K mg base CX0 1 (He.ma K (He.ga K "Chronicle") "__init__") (spIni K "Chronicle" fun _ _ r => ∃ v, r = [v]) := by
  refine Fn.of0 (F_Chronicle_init Z) sc_Chronicle_init (fun _ _ _ _ _ _ us hl => match us, hl with | [_, _], _ => rfl) (fun vs H Q E h => ?_) (fun cdv A outer s H vs Q E hr h => ?_)
  · obtain ⟨x, dx, r, rfl, ⟨v, rfl⟩, _⟩ := h
    rfl
  · obtain ⟨x, dx, r, rfl, ⟨v, rfl⟩, hx, q⟩ := h
    refine ⟨_, (pss_cons (ps_fld (pv 0) (pv 1) rfl) (pss_cons (ps_fld (pv 0) pe_non rfl) (pss_one (ps_fld (pv 0) (pe_lst pa_nil) rfl)))), ?_⟩
    walk_at "go"
    refine kFSet.mk hx Z.c_Chronicle Z.a_Chronicle__sealer rfl rfl ?_
    walk_at "st"
    refine kFSet.mk upd_same Z.c_Chronicle Z.a_Chronicle__tree rfl rfl ?_
    rw [upd_upd]
    walk_at "st"
    have x1 : Lx (fun a => a = x) H (upd H x (.ins (He.ga K "Chronicle") dx [("_sealer", v), ("_tree", .non)])) := Lx.wr rfl hx (fun z => z) (by intro ps z; cases z)
    refine kLst.mk (by show 0 ≤ 1000; decide) fun p H2 e2 n2 g2 => ?_
    walk_at "st"
    have hx2 := e2.get (upd_same (H := H) (a := x) (o := .ins (He.ga K "Chronicle") dx [("_sealer", v), ("_tree", .non)]))
    refine kFSet.mk hx2 Z.c_Chronicle Z.a_Chronicle__rows rfl rfl ?_
    walk_at "st"
    exact q _ ((x1.trans e2.of).trans (Lx.wr rfl hx2 (fun z => z) (by intro ps z; cases z)))
theorem ok_Shelf_init (Z : Zed w K mg) : Fn P w K mg base CX0 1 (He.ma K (He.ga K "Shelf") "__init__") (spIni K "Shelf" fun _ _ r => r = [.int 5]) := by
  refine Fn.of0 (F_Shelf_init Z) sc_Shelf_init (fun _ _ _ _ _ _ us hl => match us, hl with | [_, _], _ => rfl) (fun vs H Q E h => ?_) (fun cdv A outer s H vs Q E hr h => ?_)
  · obtain ⟨x, dx, r, rfl, rfl, _⟩ := h
    rfl
  · obtain ⟨x, dx, r, rfl, rfl, hx, q⟩ := h
    refine ⟨_, (pss_cons (ps_if (pt_not (pt_chain op_le op_le pe_int (pv 1) (pe_gi Z.i_MOST_SHELF))) (pss_one ps_never) pss_nil) (pss_cons (ps_fld (pv 0) (pv 1) rfl) (pss_cons (ps_fld (pv 0) (pe_lst pa_nil) rfl) (pss_one (ps_fld (pv 0) pe_dnewK rfl))))), ?_⟩
    walk_at "go"
    refine k_ifT rfl ?_
    walk_at "st"
    refine k_ifF rfl ?_
    walk_at "st"
    refine kFSet.mk hx Z.c_Shelf Z.a_Shelf__most rfl rfl ?_
    walk_at "st"
    have x1 : Lx (fun a => a = x) H (upd H x (.ins (He.ga K "Shelf") dx [("_most", .int 5)])) := Lx.wr rfl hx (fun z => z) (by intro ps z; cases z)
    refine kLst.mk (by show 0 ≤ 1000; decide) fun p H2 e2 n2 g2 => ?_
    walk_at "st"
    have hx2 := e2.get (upd_same (H := H) (a := x) (o := .ins (He.ga K "Shelf") dx [("_most", .int 5)]))
    refine kFSet.mk hx2 Z.c_Shelf Z.a_Shelf__seen rfl rfl ?_
    have x3 : Lx (fun a => a = x) H2 (upd H2 x (.ins (He.ga K "Shelf") dx [("_most", .int 5), ("_seen", .ref p)])) := Lx.wr rfl hx2 (fun z => z) (by intro ps z; cases z)
    walk_at "st"
    refine k_newK fun d H3 e3 n3 g3 => ?_
    walk_at "st"
    have hx3 := e3.get (upd_same (H := H2) (a := x) (o := .ins (He.ga K "Shelf") dx [("_most", .int 5), ("_seen", .ref p)]))
    refine kFSet.mk hx3 Z.c_Shelf Z.a_Shelf__trees rfl rfl ?_
    walk_at "st"
    exact q _ ((((x1.trans e2.of).trans x3).trans e3.of).trans (Lx.wr rfl hx3 (fun z => z) (by intro ps z; cases z)))
def spSeI (K : PySem.W.Frag) : Sp := fun vs H Q _ => ∃ (x dx : Addr) (m : Int), vs = [.ref x, .int m] ∧ 3 ≤ m ∧ m < 2 ^ 61 ∧ H x = some (.ins (He.ga K "Sealer") dx []) ∧ ∀ H', Lx (fun a => a = x) H H' → SeA K H' x m → Q .non H'
theorem ok_Sealer_init (Z : Zed w K mg) : Fn P w K mg base CX0 1 (He.ma K (He.ga K "Sealer") "__init__") (spSeI K) := by
  refine Fn.of0 (F_Sealer_init Z) sc_Sealer_init (fun _ _ _ _ _ _ us hl => match us, hl with | [_, _], _ => rfl) (fun vs H Q E h => ?_) (fun cdv A outer s H vs Q E hr h => ?_)
  · obtain ⟨x, dx, m, rfl, _⟩ := h
    rfl
  · obtain ⟨x, dx, m, rfl, h3, h61, hx, q⟩ := h
    refine ⟨_, (pss_cons (ps_if (pt_not (pt_chain op_le op_le (pe_gi Z.i_LEAST_MODULUS) (pv 1) (pe_gi Z.i_GREATEST_MODULUS))) (pss_one ps_never) pss_nil) (pss_one (ps_fld (pv 0) (pv 1) rfl))), ?_⟩
    walk_at "go"
    refine k_ifT (decide_eq_true h3) ?_
    walk_at "st"
    rw [decide_eq_true (show m ≤ 2305843009213693951 by omega)]
    refine k_ifF rfl ?_
    walk_at "st"
    refine kFSet.mk hx Z.c_Sealer Z.a_Sealer__modulus rfl rfl ?_
    walk_at "st"
    exact q _ (Lx.wr rfl hx (fun z => z) (by intro ps z; cases z)) ⟨⟨dx, upd_same⟩, h3, h61⟩
end G
end
section
set_option Elab.async false
set_option linter.all false
set_option maxRecDepth 100000
set_option maxHeartbeats 1000000
namespace G
open PySem PySem.Spec PyProof.Rows L2
local macro_rules | `(tactic| walk_at "st") => `(tactic| repeat (first
  | with_reducible refine k_seq ?_
  | with_reducible refine k_asg ?_
  | with_reducible refine k_gn ?_
  | with_reducible refine k_op ?_
  | ((with_reducible refine' k_var ?vh ?_); (case vh => rfl))
  | with_reducible refine k_c ?_
  | with_reducible refine k_cons ?_
  | with_reducible refine k_nil ?_
  | with_reducible refine k_I0 ?_
  | with_reducible refine k_ret ?_
  | with_reducible refine k_if ?_
  | with_reducible refine k_test ?_
  | with_reducible refine k_bl ?_
  | with_reducible refine k_cb ?_
  | with_reducible refine k_cl ?_
  | with_reducible refine k_int ?_
  | with_reducible refine k_tup ?_
  | with_reducible refine k_lst ?_
  | with_reducible refine k_fld ?_
  | with_reducible refine k_mt ?_
  | with_reducible refine k_for ?_
  | with_reducible refine k_iL ?_
  | with_reducible refine k_iT ?_
  | with_reducible refine k_iR1 ?_
  | with_reducible refine k_iS ?_
  | with_reducible refine k_par ?_
  | with_reducible refine k_ex2 ?_
  | with_reducible refine k_rfl2 ?_
  | with_reducible refine k_iZA ?_
  | with_reducible refine k_gcons ?_
  | with_reducible refine k_gnil ?_
  | with_reducible refine k_exI ?_
  | with_reducible refine k_bits ?_
  | with_reducible refine k_chain ?_
  | ((with_reducible refine' k_aug ?vh ?_); (case vh => rfl))
  | with_reducible refine k_ipI ?_
  | with_reducible refine k_inG ?_
  | with_reducible refine k_m1 ?_
  | with_reducible refine kM1.mk ?_
  | with_reducible refine k_yes ?_
  | with_reducible refine k_lc ?_
  | with_reducible refine k_andV ?_
  | with_reducible refine k_orV ?_
  | with_reducible refine k_tB ?_
  | with_reducible refine k_and ?_
  | with_reducible refine k_or ?_
  | with_reducible refine k_not ?_
  | with_reducible refine k_retN ?_
  | with_reducible refine k_next ?_
  | with_reducible refine k_fset ?_
  | with_reducible refine k_faug ?_
  | with_reducible refine k_sl ?_
  | with_reducible refine k_part ?_
  | with_reducible refine k_nopart ?_
  | with_reducible refine k_un ?_
  | with_reducible refine k_u1 ?_
  | with_reducible refine k_dget ?_
  | with_reducible refine k_din ?_
  | with_reducible refine k_dnin ?_
  | with_reducible refine k_dput ?_
  | with_reducible refine k_dget2 ?_
  | with_reducible refine k_bm ?_
  | with_reducible refine k_augs ?_
  | with_reducible refine k_gsub ?_
  | with_reducible refine k_enT ?_
  | with_reducible refine k_anyI ?_
  | with_reducible refine k_allI ?_
  | with_reducible refine k_lenX ?_
  | with_reducible refine k_sortX ?_
  | with_reducible refine k_drop ?_))
local macro_rules | `(tactic| walk_at "go") => `(tactic| ((try dsimp only [cxOf]); walk_at "st"))
local macro_rules | `(tactic| walk_at "len") => `(tactic| (simp only [List.length_append, List.length_map, List.length_cons, List.length_nil, List.length_replicate] at *; omega))

variable {P : Program} {w : World} {K : PySem.W.Frag} {mg : Str → Option Value} {base : Heap}
/-! ### ledgers -/
abbrev lgF (s r : Addr) (tv : V) (rc tl : Addr) (ch sh : V) (j : Str) : List (Str × V) := [("_sealer", .ref s), ("_rules", .ref r), ("_tree", tv), ("_epoch", .int 0), ("_receipts", .ref rc), ("_trail", .ref tl), ("_chronicle", ch), ("_shelf", sh), ("_journal", .str j)]
/-- what stays while a ledger lives -/
structure LdX where
  l : Addr
  dx : Addr
  s : Addr
  r : Addr
  m : Int
  kd : Nat
  fee : Int
  rd : Addr
  kvs : List (List Key × V)
  rc : Addr
  tl : Addr
  ch : V
  sh : V
def LdX.S (X : LdX) : Addr → Prop := fun a => a = X.l ∨ a = X.rc ∨ a = X.tl
abbrev LdX.ins (X : LdX) (K : PySem.W.Frag) (tv : V) (j : Str) : HO := .ins (He.ga K "Ledger") X.dx (lgF X.s X.r tv X.rc X.tl X.ch X.sh j)
structure LdA (K : PySem.W.Frag) (X : LdX) (H : Hp) (o : Option Tree) (n : Nat) (tv : V) (j : Str) : Prop where
  at_ : H X.l = some (X.ins K tv j)
  is : Is K H tv (optD o)
  ac : AcO X.kd o
  se : SeA K H X.s X.m
  ru : RuA K H X.r X.kd X.fee X.rd X.kvs
  t3 : T3 K H
  rcp : RcA K H X.rc X.s n
  tl : ∃ ts, H X.tl = some (.lst ts) ∧ ts.length ≤ n
  jl : j.length ≤ 20100 * n
def LdE (K : PySem.W.Frag) (X : LdX) (H : Hp) (o : Option Tree) (n : Nat) : Prop := ∃ tv j, LdA K X H o n tv j
section
variable {X : LdX} {H H' : Hp} {o : Option Tree} {n : Nat} {tv : V} {j : Str} {Q : VK}
theorem LdA.le (h : LdA K X H o n tv j) (x : Le H H') : LdA K X H' o n tv j := ⟨x.get h.at_, h.is.lx x, h.ac, h.se.le x, h.ru.le x, h.t3.lx x, h.rcp.le x, let ⟨ts, a, b⟩ := h.tl; ⟨ts, x.lst a, b⟩, h.jl⟩
theorem LdA.nS (h : LdA K X H o n tv j) {a : Addr} {C dx : Addr} {fs : List (Str × V)} (ha : H a = some (.ins C dx fs)) (h1 : fs.length < 9) (h2 : fs.length ≠ 3 ∨ a ≠ X.rc) : ¬ X.S a := fun z => by
  rcases z with z | z | z
  · rw [z, h.at_] at ha
    injection ha with ha
    injection ha with _ _ ha
    rw [← ha] at h1
    exact absurd h1 (by show ¬ 9 < 9; omega)
  · obtain ⟨dx2, tv2, o2, hr, _⟩ := h.rcp
    rcases h2 with h2 | h2
    · rw [z, hr] at ha
      injection ha with ha
      injection ha with _ _ ha
      rw [← ha] at h2
      exact h2 rfl
    · exact h2 z
  · obtain ⟨ts, a1, _⟩ := h.tl
    rw [z, a1] at ha
    cases ha
theorem LdA.ne1 (h : LdA K X H o n tv j) : X.l ≠ X.rc := fun z => by
  obtain ⟨dx2, tv2, o2, hr, _⟩ := h.rcp
  rw [← z, h.at_] at hr
  injection hr with hr
  injection hr with _ _ hr
  have := congrArg List.length hr
  exact absurd this (by show ¬ 9 = 3; omega)
theorem LdA.ne2 (h : LdA K X H o n tv j) : X.l ≠ X.tl := fun z => by
  obtain ⟨ts, a1, _⟩ := h.tl
  rw [← z, h.at_] at a1
  cases a1
theorem LdA.ne3 (h : LdA K X H o n tv j) : X.rc ≠ X.tl := fun z => by
  obtain ⟨ts, a1, _⟩ := h.tl
  obtain ⟨dx2, tv2, o2, hr, _⟩ := h.rcp
  rw [z, a1] at hr
  cases hr
theorem Zed.f_l_sealer (Z : Zed w K mg) (h : H X.l = some (X.ins K tv j)) (q : Q (.ref X.s) H) : kFld K "_sealer" Q (.ref X.l) H := kFld.mk h Z.c_Ledger Z.a_Ledger__sealer (by kernel_rfl) q
theorem Zed.f_l_rules (Z : Zed w K mg) (h : H X.l = some (X.ins K tv j)) (q : Q (.ref X.r) H) : kFld K "_rules" Q (.ref X.l) H := kFld.mk h Z.c_Ledger Z.a_Ledger__rules (by kernel_rfl) q
theorem Zed.f_l_tree (Z : Zed w K mg) (h : H X.l = some (X.ins K tv j)) (q : Q tv H) : kFld K "_tree" Q (.ref X.l) H := kFld.mk h Z.c_Ledger Z.a_Ledger__tree (by kernel_rfl) q
theorem Zed.f_l_epoch (Z : Zed w K mg) (h : H X.l = some (X.ins K tv j)) (q : Q (.int 0) H) : kFld K "_epoch" Q (.ref X.l) H := kFld.mk h Z.c_Ledger Z.a_Ledger__epoch (by kernel_rfl) q
theorem Zed.f_l_receipts (Z : Zed w K mg) (h : H X.l = some (X.ins K tv j)) (q : Q (.ref X.rc) H) : kFld K "_receipts" Q (.ref X.l) H := kFld.mk h Z.c_Ledger Z.a_Ledger__receipts (by kernel_rfl) q
theorem Zed.f_l_trail (Z : Zed w K mg) (h : H X.l = some (X.ins K tv j)) (q : Q (.ref X.tl) H) : kFld K "_trail" Q (.ref X.l) H := kFld.mk h Z.c_Ledger Z.a_Ledger__trail (by kernel_rfl) q
theorem Zed.f_l_journal (Z : Zed w K mg) (h : H X.l = some (X.ins K tv j)) (q : Q (.str j) H) : kFld K "_journal" Q (.ref X.l) H := kFld.mk h Z.c_Ledger Z.a_Ledger__journal (by kernel_rfl) q
end
theorem GrA.lx {S : Addr → Prop} {H H' : Hp} {g : Addr} {kd : Nat} {m : Int} {ds : List Dd} {sg : List Sg} {e : Int} {pd psg : Addr} {xd xs : List V} (h : GrA K H g kd m ds sg e pd psg xd xs) (x : Lx S H H') (n : ¬ S g) : GrA K H' g kd m ds sg e pd psg xd xs :=
  ⟨let ⟨dx, q⟩ := h.at_; ⟨dx, x.at q (fun z => (n z).elim)⟩, x.sqt h.sd, x.sqt h.ss, h.id_.lx x, h.is_.lx x, h.okd, h.oks, h.d1, h.d4, h.s4, h.nd, h.e0⟩
theorem GrB.lx {S : Addr → Prop} {H H' : Hp} {g : Addr} {kd : Nat} {m : Int} {ds : List Dd} {sg : List Sg} {e : Int} {pd psg : Addr} {xd xs : List V} (h : GrB K H g kd m ds sg e pd psg xd xs) (x : Lx S H H') (n : ¬ S g) : GrB K H' g kd m ds sg e pd psg xd xs := ⟨h.gr.lx x n, h.kd3, h.m61, h.be⟩
def spLdRoot (K : PySem.W.Frag) : Sp := fun vs H Q _ => ∃ (X : LdX) (o : Option Tree) (tv : V) (j : Str), vs = [.ref X.l] ∧ H X.l = some (X.ins K tv j) ∧ SeA K H X.s X.m ∧ Is K H tv (optD o) ∧ WfO o ∧ ∀ (z : Int) H', Le H H' → Q (.int z) H'
theorem ok_Ledger_root (Z : Zed w K mg) : Fn P w K mg base CX0 57 (He.ma K (He.ga K "Ledger") "root") (spLdRoot K) := by
  have O_root_of := ok_root_of (P := P) (base := base) Z
  refine Fn.of0 (F_Ledger_root Z) sc_Ledger_root (fun _ _ _ _ _ _ us hl => match us, hl with | [_], _ => rfl) (fun vs H Q E h => ?_) (fun cdv A outer s H vs Q E hr h => ?_)
  · obtain ⟨X, o, tv, j, rfl, _⟩ := h
    rfl
  · obtain ⟨X, o, tv, j, rfl, hl, hs, hi, hw, q⟩ := h
    refine ⟨_, (pss_one (ps_ret (pe_f O_root_of hr (by decide) Z.g_rot pass0 (pa_cons (pe_fld (pv 0) rfl) (pa_cons (pe_fld (pv 0) rfl) pa_nil))))), ?_⟩
    walk_at "go"
    refine Z.f_l_sealer hl ?_
    walk_at "st"
    refine Z.f_l_tree hl ?_
    walk_at "st"
    exact ⟨X.s, X.m, tv, o, rfl, hs, hi, hw, q⟩
def spLdTree (K : PySem.W.Frag) : Sp := fun vs H Q _ => ∃ (X : LdX) (tv : V) (j : Str), vs = [.ref X.l] ∧ H X.l = some (X.ins K tv j) ∧ Q tv H
theorem ok_Ledger_tree (Z : Zed w K mg) : Fn P w K mg base CX0 1 (He.ma K (He.ga K "Ledger") "tree") (spLdTree K) := by
  refine Fn.of0 (F_Ledger_tree Z) sc_Ledger_tree (fun _ _ _ _ _ _ us hl => match us, hl with | [_], _ => rfl) (fun vs H Q E h => ?_) (fun cdv A outer s H vs Q E hr h => ?_)
  · obtain ⟨X, tv, j, rfl, _⟩ := h
    rfl
  · obtain ⟨X, tv, j, rfl, hl, q⟩ := h
    refine ⟨_, (pss_one (ps_ret (pe_fld (pv 0) rfl))), ?_⟩
    walk_at "go"
    exact Z.f_l_tree hl q
def spLdEp (K : PySem.W.Frag) : Sp := fun vs H Q _ => ∃ (X : LdX) (tv : V) (j : Str), vs = [.ref X.l] ∧ H X.l = some (X.ins K tv j) ∧ Q (.int 0) H
theorem ok_Ledger_epoch (Z : Zed w K mg) : Fn P w K mg base CX0 1 (He.ma K (He.ga K "Ledger") "epoch") (spLdEp K) := by
  refine Fn.of0 (F_Ledger_epoch Z) sc_Ledger_epoch (fun _ _ _ _ _ _ us hl => match us, hl with | [_], _ => rfl) (fun vs H Q E h => ?_) (fun cdv A outer s H vs Q E hr h => ?_)
  · obtain ⟨X, tv, j, rfl, _⟩ := h
    rfl
  · obtain ⟨X, tv, j, rfl, hl, q⟩ := h
    refine ⟨_, (pss_one (ps_ret (pe_fld (pv 0) rfl))), ?_⟩
    walk_at "go"
    exact Z.f_l_epoch hl q
def spLdDo (K : PySem.W.Frag) : Sp := fun vs H Q E => ∃ (X : LdX) (o : Option Tree) (n : Nat) (g : Addr) (ds : List Dd) (sg : List Sg) (ge : Int) (pd psg : Addr) (xd xs : List V), vs = [.ref X.l, .ref g] ∧ LdE K X H o n ∧ n < 18 ∧ GrA K H g X.kd X.m ds sg ge pd psg xd xs ∧ Bd ge ∧ g ≠ X.rc ∧
  (∀ (pl : Int) (wd : Str) (d : Addr) (H' : Hp), wd ≠ "" → Le H H' → H' d = some (.xd (grF (.int pl) (.str wd))) → E (.ref (He.ga K "GroupRefused")) (some d) H') ∧
  ∀ (z : Int) o' H', Lx X.S H H' → LdE K X H' o' (n + 1) → (∀ j, tot o' j = tot o j + netL ds j) → Q (.int z) H'
theorem ok_Ledger_do [Pz P] [Y : Tbs K mg base] (Z : Zed w K mg) : Fn P w K mg base (L2.CX P w) 107 (He.ma K (He.ga K "Ledger") "do") (spLdDo K) := by
  have O_Ledger_root := ok_Ledger_root (P := P) (base := base) Z
  have O_Receipts_add := ok_Receipts_add (P := P) (base := base) Z
  have O_do_group := ok_do_group (P := P) (base := base) Z
  have O_group_line := ok_group_line (P := P) (base := base) Z
  have O_step_of := ok_step_of (P := P) (base := base) Z
  refine Fn.ofX (F_Ledger_do Z) sc_Ledger_do (fun _ _ _ _ _ _ us hl => match us, hl with | [_, _], _ => rfl) (fun vs H Q E h => ?_) (fun cdv A outer s H vs Q E hr h => ?_)
  · obtain ⟨X, o, n, g, ds, sg, ge, pd, psg, xd, xs, rfl, _⟩ := h
    rfl
  · obtain ⟨X, o, n, g, ds, sg, ge, pd, psg, xd, xs, rfl, ⟨tv, j, hd⟩, hn, hg, hge, hgr, hE, q⟩ := h
    obtain ⟨gx, hgx⟩ := hg.at_
    obtain ⟨dxs, hs1⟩ := hd.se.1
    obtain ⟨dxr, hr1⟩ := hd.ru.at_
    have mg1 : ¬ X.S g := hd.nS hgx (by show 3 < 9; decide) (.inr hgr)
    have ms : ¬ X.S X.s := hd.nS hs1 (by show 1 < 9; decide) (.inl (by show 1 ≠ 3; decide))
    have hrr : X.r ≠ X.rc := fun z => by
      obtain ⟨dx2, tv2, o2, hr, _⟩ := hd.rcp
      rw [← z, hr1] at hr
      injection hr with hr
      injection hr with _ _ hr
      injection hr with hr _
      injection hr with hr _
      exact absurd hr (by decide +kernel)
    have mr : ¬ X.S X.r := hd.nS hr1 (by show 3 < 9; decide) (.inr hrr)
    have mrd : ¬ X.S X.rd := fun z => by
      have hrt := hd.ru.rts
      rcases z with z | z | z
      · rw [z, hd.at_] at hrt
        cases hrt
      · obtain ⟨dx2, tv2, o2, hr, _⟩ := hd.rcp
        rw [z, hr] at hrt
        cases hrt
      · obtain ⟨ts, a1, _⟩ := hd.tl
        rw [z, a1] at hrt
        cases hrt
    have hgb : GrB K H g X.kd X.m ds sg ge pd psg xd xs := ⟨hg, hd.ru.kd3, by have := hd.se.2.2; omega, hge⟩
    refine ⟨_, (pss_cons (ps_set (i := 2) sc_Ledger_do.nd rfl (Or.inl rfl) (pe_fld (pv 0) rfl)) (pss_cons (ps_fld (pv 0) (pe_f O_do_group hr (by decide) Z.g_do_group passX (pa_cons (pe_fld (pv 0) rfl) (pa_cons (pe_fld (pv 0) rfl) (pa_cons (pe_fld (pv 0) rfl) (pa_cons (pv 2) (pa_cons (pv 1) pa_nil)))))) rfl) (pss_cons (ps_expr (pe_bm PySem.F.plainAttrs_list PySem.F.slot_list_append PySem.F.type_list_append mt_append (pe_fld (pv 0) rfl) (pa_cons (pe_tup (pa_cons (pv 1) (pa_cons (pe_f O_step_of hr (by decide) Z.g_step_of pass0 (pa_cons (pe_fld (pv 0) rfl) (pa_cons (pe_fld (pv 0) rfl) (pa_cons (pv 2) (pa_cons (pv 1) pa_nil))))) pa_nil))) pa_nil))) (pss_cons (ps_expr (pe_m Z.c_Receipts Z.t_Receipts_add O_Receipts_add hr (by decide) pass0 (pe_fld (pv 0) rfl) (pa_cons (pv 1) (pa_cons (pe_m0 Z.c_Ledger Z.t_Ledger_root O_Ledger_root hr (by decide) pass0 (pv 0)) pa_nil)))) (pss_cons (ps_fld (pv 0) (pe_op op_add_str (pe_fld (pv 0) rfl) (pe_f O_group_line hr (by decide) Z.g_group_line pass0 (pa_cons (pv 1) pa_nil))) rfl) (pss_one (ps_ret (pe_m0 Z.c_Ledger Z.t_Ledger_root O_Ledger_root hr (by decide) pass0 (pv 0))))))))), ?_⟩
    walk_at "go"
    refine Z.f_l_tree hd.at_ ?_
    walk_at "st"
    refine Z.f_l_sealer hd.at_ ?_
    walk_at "st"
    refine Z.f_l_rules hd.at_ ?_
    walk_at "st"
    refine Z.f_l_epoch hd.at_ ?_
    walk_at "st"
    refine ⟨X.s, X.r, g, 0, tv, o, X.m, X.kd, X.fee, X.rd, X.kvs, ds, sg, ge, pd, psg, xd, xs, rfl, hd.se, hd.ru, hd.t3, hd.is, hd.ac, hg, hE, fun o' tv' H1 e1 i1 ac1 ht1 => ?_⟩
    walk_at "st"
    have l1 := e1.get hd.at_
    refine kFSet.mk (fs' := lgF X.s X.r tv' X.rc X.tl X.ch X.sh j) l1 Z.c_Ledger Z.a_Ledger__tree rfl rfl ?_
    have x2 : Lx X.S H1 (upd H1 X.l (X.ins K tv' j)) := Lx.wr (.inl rfl) l1 (fun z => z) (by intro ps z; cases z)
    have x02 := e1.of.trans x2
    obtain ⟨ts, ht, hts⟩ := hd.tl
    have t2 : upd H1 X.l (X.ins K tv' j) X.tl = some (.lst ts) := by
      rw [upd_ne hd.ne2.symm]
      exact e1.lst ht
    walk_at "st"
    refine Z.f_l_trail (tv := tv') (j := j) upd_same ?_
    walk_at "st"
    refine kBM.app t2 ?_
    walk_at "st"
    refine Z.f_l_sealer (tv := tv') (j := j) upd_same ?_
    walk_at "st"
    refine Z.f_l_rules (tv := tv') (j := j) upd_same ?_
    walk_at "st"
    refine ⟨X.s, X.r, g, tv, o, X.m, X.kd, X.fee, X.rd, X.kvs, ds, sg, ge, pd, psg, xd, xs, rfl, hd.se.lx x02 ms, hd.ru.lx x02 mr mrd, hd.is.lx x02, hd.ac.wfo, hg.lx x02 mg1, fun sv H3 e3 => ?_⟩
    walk_at "st"
    refine kTup.mk (by show 2 ≤ 1000; decide) fun p4 H4 e4 n4 g4 => ?_
    have e34 := e3.trans e4
    have t4 := e34.lst t2
    have l4 := e34.get (upd_same (H := H1) (a := X.l) (o := X.ins K tv' j))
    walk_at "st"
    refine k_app t4 (by omega) ?_
    have x5 : Lx X.S H4 (upd H4 X.tl (.lst (ts ++ [.ref p4]))) := Lx.wr (.inr (.inr rfl)) t4 (fun z => z) (by intro ps z; cases z)
    have x05 := (x02.trans e34.of).trans x5
    generalize hH5 : upd H4 X.tl (.lst (ts ++ [V.ref p4])) = H5 at x5 x05
    have t5 : H5 X.tl = some (.lst (ts ++ [V.ref p4])) := by rw [← hH5]; exact upd_same
    have l5 : H5 X.l = some (X.ins K tv' j) := by rw [← hH5, upd_ne hd.ne2]; exact l4
    have rc5 : RcA K H5 X.rc X.s n := by
      have y : Lx (fun a => a = X.l ∨ a = X.tl) H H5 := by
        rw [← hH5]
        exact ((e1.of.trans (Lx.wr (.inl rfl) l1 (fun z => z) (by intro ps z; cases z))).trans e34.of).trans (Lx.wr (.inr rfl) t4 (fun z => z) (by intro ps z; cases z))
      exact hd.rcp.lx y (fun z => by
        rcases z with z | z
        · exact hd.ne1 z.symm
        · exact hd.ne3 z)
    have i5 : Is K H5 tv' (optD o') := (i1.lx x2).lx (e34.of.trans x5)
    walk_at "st"
    refine Z.f_l_receipts l5 ?_
    walk_at "st"
    obtain ⟨rdx, rtv, ro, hrc, hri, hrw⟩ := id rc5
    refine kMt.mk hrc (by kernel_rfl) ?_
    walk_at "st"
    refine kMt.mk l5 (by kernel_rfl) ?_
    walk_at "st"
    refine ⟨X, o', tv', j, rfl, l5, hd.se.lx x05 ms, i5, ac1.wfo, fun z H6 e6 => ?_⟩
    walk_at "st"
    refine ⟨X.rc, X.s, g, n, z, X.kd, X.m, ds, sg, ge, pd, psg, xd, xs, rfl, rc5.le e6, hn, (hd.se.lx x05 ms).le e6, (hgb.lx x05 mg1).le e6, fun z7 H7 x7 rc7 => ?_⟩
    have x7S : Lx X.S H6 H7 := x7.mono fun a z => .inr (.inl z)
    have x07 := (x05.trans e6.of).trans x7S
    have l7 := x7.at (e6.get l5) (fun z => (hd.ne1 z).elim)
    have t7 := x7.at (e6.lst t5) (fun z => (hd.ne3 z.symm).elim)
    walk_at "st"
    refine Z.f_l_journal l7 ?_
    walk_at "st"
    refine ⟨g, X.kd, X.m, ds, sg, ge, pd, psg, xd, xs, rfl, hgb.lx x07 mg1, fun y H8 e8 hy => ?_⟩
    walk_at "st"
    have hjl := hd.jl
    refine ⟨_, _, rfl, rfl, Nat.le_trans (show _ ≤ 1000000 by omega) (by decide), ?_⟩
    have l8 := e8.get l7
    walk_at "st"
    refine kFSet.mk (fs' := lgF X.s X.r tv' X.rc X.tl X.ch X.sh (j ++ y)) l8 Z.c_Ledger Z.a_Ledger__journal rfl rfl ?_
    have x9 : Lx X.S H8 (upd H8 X.l (X.ins K tv' (j ++ y))) := Lx.wr (.inl rfl) l8 (fun z => z) (by intro ps z; cases z)
    have x09 := (x07.trans e8.of).trans x9
    have i9 : Is K (upd H8 X.l (X.ins K tv' (j ++ y))) tv' (optD o') := (i5.lx ((e6.of.trans x7S).trans e8.of)).lx x9
    have d9 : LdA K X (upd H8 X.l (X.ins K tv' (j ++ y))) o' (n + 1) tv' (j ++ y) := by
      refine ⟨upd_same, i9, ac1, hd.se.lx x09 ms, hd.ru.lx x09 mr mrd, hd.t3.lx x09, ?_, ⟨ts ++ [.ref p4], ?_, ?_⟩, ?_⟩
      · exact (rc7.le e8).lx (S := fun a => a = X.l) (Lx.wr rfl l8 (fun z => z) (by intro ps z; cases z)) (fun z => hd.ne1 z.symm)
      · rw [upd_ne hd.ne2.symm]
        exact e8.lst t7
      · rw [List.length_append, List.length_singleton]
        omega
      · rw [Str.length_append]
        omega
    walk_at "st"
    refine kMt.mk (fs := lgF X.s X.r tv' X.rc X.tl X.ch X.sh (j ++ y)) d9.at_ (by kernel_rfl) ?_
    walk_at "st"
    exact ⟨X, o', tv', j ++ y, rfl, d9.at_, d9.se, i9, ac1.wfo, fun z H10 e10 => q z o' H10 (x09.trans e10.of) ⟨_, _, d9.le e10⟩ ht1⟩
end G
end
section
set_option Elab.async false
set_option linter.all false
set_option maxRecDepth 100000
set_option maxHeartbeats 1000000
namespace G
open PySem PySem.Spec PyProof.Rows L2
local macro_rules | `(tactic| walk_at "st") => `(tactic| repeat (first
  | with_reducible refine k_seq ?_
  | with_reducible refine k_asg ?_
  | with_reducible refine k_gn ?_
  | with_reducible refine k_op ?_
  | ((with_reducible refine' k_var ?vh ?_); (case vh => rfl))
  | with_reducible refine k_c ?_
  | with_reducible refine k_cons ?_
  | with_reducible refine k_nil ?_
  | with_reducible refine k_I0 ?_
  | with_reducible refine k_ret ?_
  | with_reducible refine k_if ?_
  | with_reducible refine k_test ?_
  | with_reducible refine k_bl ?_
  | with_reducible refine k_cb ?_
  | with_reducible refine k_cl ?_
  | with_reducible refine k_int ?_
  | with_reducible refine k_tup ?_
  | with_reducible refine k_lst ?_
  | with_reducible refine k_fld ?_
  | with_reducible refine k_mt ?_
  | with_reducible refine k_for ?_
  | with_reducible refine k_iL ?_
  | with_reducible refine k_iT ?_
  | with_reducible refine k_iR1 ?_
  | with_reducible refine k_iS ?_
  | with_reducible refine k_par ?_
  | with_reducible refine k_ex2 ?_
  | with_reducible refine k_rfl2 ?_
  | with_reducible refine k_iZA ?_
  | with_reducible refine k_gcons ?_
  | with_reducible refine k_gnil ?_
  | with_reducible refine k_exI ?_
  | with_reducible refine k_bits ?_
  | with_reducible refine k_chain ?_
  | ((with_reducible refine' k_aug ?vh ?_); (case vh => rfl))
  | with_reducible refine k_ipI ?_
  | with_reducible refine k_inG ?_
  | with_reducible refine k_m1 ?_
  | with_reducible refine kM1.mk ?_
  | with_reducible refine k_yes ?_
  | with_reducible refine k_lc ?_
  | with_reducible refine k_andV ?_
  | with_reducible refine k_orV ?_
  | with_reducible refine k_tB ?_
  | with_reducible refine k_and ?_
  | with_reducible refine k_or ?_
  | with_reducible refine k_not ?_
  | with_reducible refine k_retN ?_
  | with_reducible refine k_next ?_
  | with_reducible refine k_fset ?_
  | with_reducible refine k_faug ?_
  | with_reducible refine k_sl ?_
  | with_reducible refine k_part ?_
  | with_reducible refine k_nopart ?_
  | with_reducible refine k_un ?_
  | with_reducible refine k_u1 ?_
  | with_reducible refine k_dget ?_
  | with_reducible refine k_din ?_
  | with_reducible refine k_dnin ?_
  | with_reducible refine k_dput ?_
  | with_reducible refine k_dget2 ?_
  | with_reducible refine k_bm ?_
  | with_reducible refine k_augs ?_
  | with_reducible refine k_gsub ?_
  | with_reducible refine k_enT ?_
  | with_reducible refine k_anyI ?_
  | with_reducible refine k_allI ?_
  | with_reducible refine k_lenX ?_
  | with_reducible refine k_sortX ?_
  | with_reducible refine k_drop ?_))
local macro_rules | `(tactic| walk_at "go") => `(tactic| ((try dsimp only [cxOf]); walk_at "st"))
local macro_rules | `(tactic| walk_at "len") => `(tactic| (simp only [List.length_append, List.length_map, List.length_cons, List.length_nil, List.length_replicate] at *; omega))

variable {P : Program} {w : World} {K : PySem.W.Frag} {mg : Str → Option Value} {base : Heap}
theorem NoteOk.ntl {kd : Nat} {p : Int} {ns : List Int} (h : NoteOk kd p ns) : NtL kd ns := by
  obtain ⟨l0, l1, l2, nd, li, hk, ho, ep, rfl, _, _, _, _, _, ⟨k0, k1⟩, _, _⟩ := h
  exact ⟨l0, l1, l2, nd, li, ho, ep, hk.toNat, by rw [Int.toNat_of_nonneg k0], by omega⟩
def spLdI (K : PySem.W.Frag) : Sp := fun vs H Q _ => ∃ (x s r dx : Addr) (v : V) (m : Int) (kd : Nat) (fee : Int) (rd : Addr) (kvs : List (List Key × V)) (ns : List Int), vs = [.ref x, .ref s, .ref r, v] ∧ H x = some (.ins (He.ga K "Ledger") dx []) ∧
  SeA K H s m ∧ RuA K H r kd fee rd kvs ∧ T3 K H ∧ Is K H v (dI ns) ∧ NoteOk kd m ns ∧
  ∀ (rc tl : Addr) (ch sh : V) o H', Lx (fun a => a = x) H H' → H rc = none → H tl = none → LdE K ⟨x, dx, s, r, m, kd, fee, rd, kvs, rc, tl, ch, sh⟩ H' (some o) 0 → Q .non H'
theorem ok_Ledger_init [Y : Tbs K mg base] (Z : Zed w K mg) : Fn P w K mg base CX0 55 (He.ma K (He.ga K "Ledger") "__init__") (spLdI K) := by
  have O_Chronicle_init := ok_Chronicle_init (P := P) (base := base) Z
  have O_Receipts_init := ok_Receipts_init (P := P) (base := base) Z
  have O_Sealer_modulus := ok_Sealer_modulus (P := P) (base := base) Z
  have O_Shelf_init := ok_Shelf_init (P := P) (base := base) Z
  have O_is_notes := ok_is_notes (P := P) (base := base) Z
  have O_new_account := ok_new_account (P := P) (base := base) Z
  have O_put := ok_put (P := P) (base := base) Z 49
  refine Fn.of0 (F_Ledger_init Z) sc_Ledger_init (fun _ _ _ _ _ _ us hl => match us, hl with | [_, _, _, _], _ => rfl) (fun vs H Q E h => ?_) (fun cdv A outer s H vs Q E hr h => ?_)
  · obtain ⟨x, s, r, dx, v, m, kd, fee, rd, kvs, ns, rfl, _⟩ := h
    rfl
  · obtain ⟨x, s, r, dx, v, m, kd, fee, rd, kvs, ns, rfl, hx, hs, hru, ht, hv, hns, q⟩ := h
    obtain ⟨dxs, hs1⟩ := hs.1
    obtain ⟨dxr, hr1⟩ := hru.at_
    have hkd := hru.kd3
    have W : ∀ {H1 H' : Hp} {fs gs : List (Str × V)}, Lx (fun a => a = x) H1 H' → H' x = some (.ins (He.ga K "Ledger") dx fs) → Lx (fun a => a = x) H1 (upd H' x (.ins (He.ga K "Ledger") dx gs)) := fun y h => y.trans (Lx.wr rfl h (fun z => z) (by intro ps z; cases z))
    refine ⟨_, (pss_cons (ps_if (pt_not (pt_val (pe_f O_is_notes hr (by decide) Z.g_is_notes pass0 (pa_cons (pv 3) (pa_cons (pe_fld (pv 2) rfl) (pa_cons (pe_m0 Z.c_Sealer Z.t_Sealer_modulus O_Sealer_modulus hr (by decide) pass0 (pv 1)) pa_nil)))))) (pss_one ps_never) pss_nil) (pss_cons (ps_fld (pv 0) (pv 1) rfl) (pss_cons (ps_fld (pv 0) (pv 2) rfl) (pss_cons (ps_fld (pv 0) (pe_f O_put hr (by decide) Z.g_put pass0 (pa_cons pe_non (pa_cons (pe_f O_new_account hr (by decide) Z.g_new_account pass0 (pa_cons (pe_gz Z.z_MINT) (pa_cons (pe_fld (pv 2) rfl) (pa_cons (pv 3) pa_nil)))) pa_nil))) rfl) (pss_cons (ps_fld (pv 0) pe_int rfl) (pss_cons (ps_fld (pv 0) (pe_mk Z.m_Receipts O_Receipts_init hr (by decide) Z.g_Receipts pass0 (pa_cons (pv 1) pa_nil)) rfl) (pss_cons (ps_fld (pv 0) (pe_lst pa_nil) rfl) (pss_cons (ps_fld (pv 0) (pe_mk Z.m_Chronicle O_Chronicle_init hr (by decide) Z.g_Chronicle pass0 (pa_cons (pv 1) pa_nil)) rfl) (pss_cons (ps_fld (pv 0) (pe_mk Z.m_Shelf O_Shelf_init hr (by decide) Z.g_Shelf pass0 (pa_cons (pe_gi Z.i_SNAPSHOTS) pa_nil)) rfl) (pss_one (ps_fld (pv 0) pe_str rfl))))))))))), ?_⟩
    walk_at "go"
    refine Z.f_kinds hr1 ?_
    walk_at "st"
    refine kMt.mk hs1 (by kernel_rfl) ?_
    walk_at "st"
    refine ⟨s, m, rfl, hs, ?_⟩
    walk_at "st"
    refine ⟨v, ns, kd, m, rfl, hv, ht, hns, fun H1 e1 => ?_⟩
    walk_at "st"
    refine k_ifF rfl ?_
    walk_at "st"
    have hx1 := e1.get hx
    refine kFSet.mk (fs' := [("_sealer", .ref s)]) hx1 Z.c_Ledger Z.a_Ledger__sealer rfl rfl ?_
    walk_at "st"
    refine kFSet.mk (fs' := [("_sealer", .ref s), ("_rules", .ref r)]) upd_same Z.c_Ledger Z.a_Ledger__rules rfl rfl ?_
    rw [upd_upd]
    have x2 := W (gs := [("_sealer", .ref s), ("_rules", .ref r)]) (e1.of (S := fun a => a = x)) hx1
    generalize hH2 : upd H1 x (.ins (He.ga K "Ledger") dx [("_sealer", .ref s), ("_rules", .ref r)]) = H2 at x2
    have hx2 : H2 x = some (.ins (He.ga K "Ledger") dx [("_sealer", .ref s), ("_rules", .ref r)]) := by rw [← hH2]; exact upd_same
    have nr : ¬ r = x := fun z => by
      rw [z, hx] at hr1
      injection hr1 with hr1
      injection hr1 with _ _ hr1
      cases hr1
    have nsx : ¬ s = x := fun z => by
      rw [z, hx] at hs1
      injection hs1 with hs1
      injection hs1 with _ _ hs1
      cases hs1
    have nrd : ¬ rd = x := fun z => by
      have hrt := hru.rts
      rw [z, hx] at hrt
      cases hrt
    have hr2 := x2.at hr1 (fun z => (nr z).elim)
    walk_at "st"
    refine Z.f_kinds hr2 ?_
    walk_at "st"
    refine ⟨"mint", 106954869440512, kd, v, ns, rfl, hkd, hv.lx x2, fun lf H3 e3 i3 => ?_⟩
    walk_at "st"
    have hL : AcL kd ⟨"mint", 106954869440512, List.replicate kd 0, ns⟩ := ⟨mint_nA, by show (List.replicate kd (0 : Int)).length = kd; rw [List.length_replicate], fun z hz => by rw [List.eq_of_mem_replicate hz]; omega, hns.ntl⟩
    refine ⟨.non, lf, none, ⟨"mint", 106954869440512, List.replicate kd 0, ns⟩, rfl, by decide, .non, (fun t h => nomatch h), (fun t h => nomatch h), i3, hL.nmT hkd, fun tv H4 t7 e4 i4 hp => ?_⟩
    have ac4 : AcO kd (some t7) := AcO.put (o := none) (fun t h => nomatch h) hL hkd hp
    have e34 := e3.trans e4
    have hx4 := e34.get hx2
    walk_at "st"
    refine kFSet.mk (fs' := [("_sealer", .ref s), ("_rules", .ref r), ("_tree", tv)]) hx4 Z.c_Ledger Z.a_Ledger__tree rfl rfl ?_
    walk_at "st"
    refine kFSet.mk (fs' := [("_sealer", .ref s), ("_rules", .ref r), ("_tree", tv), ("_epoch", .int 0)]) upd_same Z.c_Ledger Z.a_Ledger__epoch rfl rfl ?_
    rw [upd_upd]
    have x5 := W (gs := [("_sealer", .ref s), ("_rules", .ref r), ("_tree", tv), ("_epoch", .int 0)]) (x2.trans e34.of) hx4
    have i5 := i4.lx (Lx.wr (S := fun a => a = x) (o := .ins (He.ga K "Ledger") dx [("_sealer", .ref s), ("_rules", .ref r), ("_tree", tv), ("_epoch", .int 0)]) rfl hx4 (fun z => z) (by intro ps z; cases z))
    generalize hH5 : upd H4 x (.ins (He.ga K "Ledger") dx [("_sealer", .ref s), ("_rules", .ref r), ("_tree", tv), ("_epoch", .int 0)]) = H5 at x5 i5
    have hx5 : H5 x = some (.ins (He.ga K "Ledger") dx [("_sealer", .ref s), ("_rules", .ref r), ("_tree", tv), ("_epoch", .int 0)]) := by rw [← hH5]; exact upd_same
    walk_at "st"
    refine k_mk ?_
    walk_at "st"
    refine kMk.mk fun rc rdx H6 e6 nrc irc => ?_
    refine ⟨rc, s, rdx, rfl, irc, fun H7 x7 rc7 => ⟨rfl, ?_⟩⟩
    have e57 : Le H5 H7 := e6.drop x7 (fun a z => by rw [z]; exact nrc)
    have hrc0 : H rc = none := x5.dom rc nrc
    have nrx : ¬ rc = x := fun z => by rw [z, hx5] at nrc; cases nrc
    have hx7 := e57.get hx5
    walk_at "st"
    refine kFSet.mk (fs' := [("_sealer", .ref s), ("_rules", .ref r), ("_tree", tv), ("_epoch", .int 0), ("_receipts", .ref rc)]) hx7 Z.c_Ledger Z.a_Ledger__receipts rfl rfl ?_
    have y8 := Lx.wr (S := fun a => a = x) (o := .ins (He.ga K "Ledger") dx [("_sealer", .ref s), ("_rules", .ref r), ("_tree", tv), ("_epoch", .int 0), ("_receipts", .ref rc)]) rfl hx7 (fun z => z) (by intro ps z; cases z)
    have x8 := (x5.trans e57.of).trans y8
    have rc8 := rc7.lx y8 nrx
    have i8 := (i5.lx e57).lx y8
    generalize hH8 : upd H7 x (.ins (He.ga K "Ledger") dx [("_sealer", .ref s), ("_rules", .ref r), ("_tree", tv), ("_epoch", .int 0), ("_receipts", .ref rc)]) = H8 at y8 x8 rc8 i8
    have hx8 : H8 x = some (.ins (He.ga K "Ledger") dx [("_sealer", .ref s), ("_rules", .ref r), ("_tree", tv), ("_epoch", .int 0), ("_receipts", .ref rc)]) := by rw [← hH8]; exact upd_same
    walk_at "st"
    refine kLst.mk (by show 0 ≤ 1000; decide) fun tl H9 e9 n9 g9 => ?_
    have htl0 : H tl = none := x8.dom tl n9
    have ntx : ¬ tl = x := fun z => by rw [z, hx8] at n9; cases n9
    have hx9 := e9.get hx8
    walk_at "st"
    refine kFSet.mk (fs' := [("_sealer", .ref s), ("_rules", .ref r), ("_tree", tv), ("_epoch", .int 0), ("_receipts", .ref rc), ("_trail", .ref tl)]) hx9 Z.c_Ledger Z.a_Ledger__trail rfl rfl ?_
    have y10 := Lx.wr (S := fun a => a = x) (o := .ins (He.ga K "Ledger") dx [("_sealer", .ref s), ("_rules", .ref r), ("_tree", tv), ("_epoch", .int 0), ("_receipts", .ref rc), ("_trail", .ref tl)]) rfl hx9 (fun z => z) (by intro ps z; cases z)
    have x10 := (x8.trans e9.of).trans y10
    have rc10 := (rc8.le e9).lx y10 nrx
    have i10 := (i8.lx e9).lx y10
    have t10 := y10.at g9 (fun z => (ntx z).elim)
    generalize hH10 : upd H9 x (.ins (He.ga K "Ledger") dx [("_sealer", .ref s), ("_rules", .ref r), ("_tree", tv), ("_epoch", .int 0), ("_receipts", .ref rc), ("_trail", .ref tl)]) = H10 at y10 x10 rc10 i10 t10
    have hx10 : H10 x = some (.ins (He.ga K "Ledger") dx [("_sealer", .ref s), ("_rules", .ref r), ("_tree", tv), ("_epoch", .int 0), ("_receipts", .ref rc), ("_trail", .ref tl)]) := by rw [← hH10]; exact upd_same
    walk_at "st"
    refine k_mk ?_
    walk_at "st"
    refine kMk.mk fun ch cdx H11 e11 nch ich => ?_
    refine ⟨ch, cdx, _, rfl, ⟨_, rfl⟩, ich, fun H12 x12 => ⟨rfl, ?_⟩⟩
    have e12 : Le H10 H12 := e11.drop x12 (fun a z => by rw [z]; exact nch)
    have hx12 := e12.get hx10
    walk_at "st"
    refine kFSet.mk (fs' := [("_sealer", .ref s), ("_rules", .ref r), ("_tree", tv), ("_epoch", .int 0), ("_receipts", .ref rc), ("_trail", .ref tl), ("_chronicle", .ref ch)]) hx12 Z.c_Ledger Z.a_Ledger__chronicle rfl rfl ?_
    have y13 := Lx.wr (S := fun a => a = x) (o := .ins (He.ga K "Ledger") dx [("_sealer", .ref s), ("_rules", .ref r), ("_tree", tv), ("_epoch", .int 0), ("_receipts", .ref rc), ("_trail", .ref tl), ("_chronicle", .ref ch)]) rfl hx12 (fun z => z) (by intro ps z; cases z)
    have x13 := (x10.trans e12.of).trans y13
    have rc13 := (rc10.le e12).lx y13 nrx
    have i13 := (i10.lx e12).lx y13
    have t13 := y13.at (e12.lst t10) (fun z => (ntx z).elim)
    generalize hH13 : upd H12 x (.ins (He.ga K "Ledger") dx [("_sealer", .ref s), ("_rules", .ref r), ("_tree", tv), ("_epoch", .int 0), ("_receipts", .ref rc), ("_trail", .ref tl), ("_chronicle", .ref ch)]) = H13 at y13 x13 rc13 i13 t13
    have hx13 : H13 x = some (.ins (He.ga K "Ledger") dx [("_sealer", .ref s), ("_rules", .ref r), ("_tree", tv), ("_epoch", .int 0), ("_receipts", .ref rc), ("_trail", .ref tl), ("_chronicle", .ref ch)]) := by rw [← hH13]; exact upd_same
    walk_at "st"
    refine k_mk ?_
    walk_at "st"
    refine kMk.mk fun sh sdx H14 e14 nsh ish => ?_
    refine ⟨sh, sdx, _, rfl, rfl, ish, fun H15 x15 => ⟨rfl, ?_⟩⟩
    have e15 : Le H13 H15 := e14.drop x15 (fun a z => by rw [z]; exact nsh)
    have hx15 := e15.get hx13
    walk_at "st"
    refine kFSet.mk (fs' := [("_sealer", .ref s), ("_rules", .ref r), ("_tree", tv), ("_epoch", .int 0), ("_receipts", .ref rc), ("_trail", .ref tl), ("_chronicle", .ref ch), ("_shelf", .ref sh)]) hx15 Z.c_Ledger Z.a_Ledger__shelf rfl rfl ?_
    walk_at "st"
    refine kFSet.mk (fs' := lgF s r tv rc tl (.ref ch) (.ref sh) "") upd_same Z.c_Ledger Z.a_Ledger__journal rfl rfl ?_
    rw [upd_upd]
    have y16 := Lx.wr (S := fun a => a = x) (o := .ins (He.ga K "Ledger") dx (lgF s r tv rc tl (.ref ch) (.ref sh) "")) rfl hx15 (fun z => z) (by intro ps z; cases z)
    have x16 := (x13.trans e15.of).trans y16
    walk_at "st"
    refine q rc tl (.ref ch) (.ref sh) t7 _ x16 hrc0 htl0 ⟨tv, "", upd_same, (i13.lx e15).lx y16, ac4, hs.lx x16 nsx, hru.lx x16 nr nrd, ht.lx x16, (rc13.le e15).lx y16 nrx, ⟨[], y16.at (e15.lst t13) (fun z => (ntx z).elim), Nat.le_refl 0⟩, by decide +kernel⟩
end G
end
section
set_option Elab.async false
set_option linter.all false
set_option maxRecDepth 100000
set_option maxHeartbeats 1000000
namespace G
open PySem PySem.Spec PyProof.Rows L2
local macro_rules | `(tactic| walk_at "st") => `(tactic| repeat (first
  | with_reducible refine k_seq ?_
  | with_reducible refine k_asg ?_
  | with_reducible refine k_gn ?_
  | with_reducible refine k_op ?_
  | ((with_reducible refine' k_var ?vh ?_); (case vh => rfl))
  | with_reducible refine k_c ?_
  | with_reducible refine k_cons ?_
  | with_reducible refine k_nil ?_
  | with_reducible refine k_I0 ?_
  | with_reducible refine k_ret ?_
  | with_reducible refine k_if ?_
  | with_reducible refine k_test ?_
  | with_reducible refine k_bl ?_
  | with_reducible refine k_cb ?_
  | with_reducible refine k_cl ?_
  | with_reducible refine k_int ?_
  | with_reducible refine k_tup ?_
  | with_reducible refine k_lst ?_
  | with_reducible refine k_fld ?_
  | with_reducible refine k_mt ?_
  | with_reducible refine k_for ?_
  | with_reducible refine k_iL ?_
  | with_reducible refine k_iT ?_
  | with_reducible refine k_iR1 ?_
  | with_reducible refine k_iS ?_
  | with_reducible refine k_par ?_
  | with_reducible refine k_ex2 ?_
  | with_reducible refine k_rfl2 ?_
  | with_reducible refine k_iZA ?_
  | with_reducible refine k_gcons ?_
  | with_reducible refine k_gnil ?_
  | with_reducible refine k_exI ?_
  | with_reducible refine k_bits ?_
  | with_reducible refine k_chain ?_
  | ((with_reducible refine' k_aug ?vh ?_); (case vh => rfl))
  | with_reducible refine k_ipI ?_
  | with_reducible refine k_inG ?_
  | with_reducible refine k_m1 ?_
  | with_reducible refine kM1.mk ?_
  | with_reducible refine k_yes ?_
  | with_reducible refine k_lc ?_
  | with_reducible refine k_andV ?_
  | with_reducible refine k_orV ?_
  | with_reducible refine k_tB ?_
  | with_reducible refine k_and ?_
  | with_reducible refine k_or ?_
  | with_reducible refine k_not ?_
  | with_reducible refine k_retN ?_
  | with_reducible refine k_next ?_
  | with_reducible refine k_fset ?_
  | with_reducible refine k_faug ?_
  | with_reducible refine k_sl ?_
  | with_reducible refine k_part ?_
  | with_reducible refine k_nopart ?_
  | with_reducible refine k_un ?_
  | with_reducible refine k_u1 ?_
  | with_reducible refine k_dget ?_
  | with_reducible refine k_din ?_
  | with_reducible refine k_dnin ?_
  | with_reducible refine k_dput ?_
  | with_reducible refine k_dget2 ?_
  | with_reducible refine k_bm ?_
  | with_reducible refine k_augs ?_
  | with_reducible refine k_gsub ?_
  | with_reducible refine k_enT ?_
  | with_reducible refine k_anyI ?_
  | with_reducible refine k_allI ?_
  | with_reducible refine k_lenX ?_
  | with_reducible refine k_sortX ?_
  | with_reducible refine k_drop ?_))
local macro_rules | `(tactic| walk_at "go") => `(tactic| ((try dsimp only [cxOf]); walk_at "st"))
local macro_rules | `(tactic| walk_at "len") => `(tactic| (simp only [List.length_append, List.length_map, List.length_cons, List.length_nil, List.length_replicate] at *; omega))

variable {P : Program} {w : World} {K : PySem.W.Frag} {mg : Str → Option Value} {base : Heap}
/-! ### the law's small defs -/
def spCell (K : PySem.W.Frag) : Sp := fun vs H Q _ => ∃ (sp : Addr) (sc : List Int) (k : Nat), vs = [.ref sp, .int (k : Nat)] ∧ SqL K H sp (sc.map V.int) ∧ ∀ z : Int, Q (.int z) H
theorem ok_law_cell (Z : Zed w K mg) : Fn P w K mg base CX0 1 (He.ga K "_law_cell") (spCell K) := by
  refine Fn.of0 (F_law_cell Z) sc_law_cell (fun _ _ _ _ _ _ us hl => match us, hl with | [_, _], _ => rfl) (fun vs H Q E h => ?_) (fun cdv A outer s H vs Q E hr h => ?_)
  · obtain ⟨sp, sc, k, rfl, _⟩ := h
    rfl
  · obtain ⟨sp, sc, k, rfl, hs, q⟩ := h
    refine ⟨_, (pss_cons (ps_if (pt_cmpR op_lt (pv 1) (pe_callB cr_len (by rfl) Z.n_len PySem.boot_len (pa_cons (pv 0) pa_nil)) (nomark _)) (pss_one (ps_ret (pe_ix ix_list (pv 0) (pv 1) (fun _ _ => rfl)))) pss_nil) (pss_one (ps_ret pe_int))), ?_⟩
    walk_at "go"
    refine k_lenL hs ?_
    walk_at "st"
    refine k_if2 (fun hk => ?_) (fun _ => ?_)
    · have hk := of_decide_eq_true hk
      rw [List.length_map] at hk
      have hk : k < sc.length := by omega
      walk_at "st"
      refine k_ixL hs (atI_nat (j := k) (by rw [List.getElem?_map, List.getElem?_eq_getElem hk]; rfl)) ?_
      walk_at "st"
      exact q _
    · walk_at "st"
      exact q 0
/-- numbers as the law draws them -/
def Nr (ns : List Int) : Prop := ∀ n ∈ ns, 0 ≤ n ∧ n ≤ 999
def spNumbers (K : PySem.W.Frag) : Sp := fun vs H Q _ => ∃ (c : Int) (n : Nat), vs = [.int c, .int (n : Nat)] ∧ n ≤ 100 ∧ ∀ (p : Addr) (ns : List Int) (H' : Hp), Le H H' → H p = none → H' p = some (.lst (ns.map V.int)) → ns.length = n → Nr ns → Q (.ref p) H'
theorem ok_law_numbers (Z : Zed w K mg) : Fn P w K mg base CX0 1 (He.ga K "_law_numbers") (spNumbers K) := by
  refine Fn.of0 (F_law_numbers Z) sc_law_numbers (fun _ _ _ _ _ _ us hl => match us, hl with | [_, _], _ => rfl) (fun vs H Q E h => ?_) (fun cdv A outer s H vs Q E hr h => ?_)
  · obtain ⟨c, n, rfl, _⟩ := h
    rfl
  · obtain ⟨c, n, rfl, hn, q⟩ := h
    refine ⟨_, (pss_cons (ps_set (i := 2) sc_law_numbers.nd rfl (Or.inl rfl) (pe_callB call_abs (by rfl) Z.n_abs (by decide +kernel) (pa_cons (pe_callTy cr_int (by rfl) Z.n_int (by decide +kernel) (pa_cons (pv 0) pa_nil)) pa_nil))) (pss_cons (ps_set (i := 3) sc_law_numbers.nd rfl (Or.inl rfl) (pe_cmpR op_ge (pv 2) pe_int (nomark _))) (pss_cons (ps_set (i := 4) sc_law_numbers.nd rfl (Or.inl rfl) (pe_op op_add (pe_op op_mod (pe_callTy cr_int (by rfl) Z.n_int (by decide +kernel) (pa_cons (pv 2) pa_nil)) pe_int) pe_int)) (pss_cons (ps_set (i := 5) sc_law_numbers.nd rfl (Or.inl rfl) (pe_lst pa_nil)) (pss_cons (ps_for PassesOwn.never rfl (pi_range1 (by rfl) Z.n_range (pa_cons (pv 1) pa_nil)) (pg_name (i := 6) sc_law_numbers.nd rfl (Or.inl rfl)) (pss_cons (ps_set (i := 4) sc_law_numbers.nd rfl (Or.inl rfl) (pe_op op_mod (pe_callTy cr_int (by rfl) Z.n_int (by decide +kernel) (pa_cons (pe_op op_add (pe_op op_add (pe_op op_mul (pv 4) pe_int) (pe_op op_mul (pv 6) pe_int)) pe_int) pa_nil)) pe_int)) (pss_one (ps_if (PW.pt (pw_and (pt_val (pv 3)) (pw_and1 (pt_cmpR op_gt (pv 2) pe_int (nomark _))))) (pss_cons (ps_expr (pe_bm PySem.F.plainAttrs_list PySem.F.slot_list_append PySem.F.type_list_append mt_append (pv 5) (pa_cons (pe_op op_mod (pe_callTy cr_int (by rfl) Z.n_int (by decide +kernel) (pa_cons (pv 2) pa_nil)) pe_int) pa_nil))) (pss_one (ps_set (i := 2) sc_law_numbers.nd rfl (Or.inl rfl) (pe_op op_fdiv (pv 2) pe_int)))) (pss_one (ps_expr (pe_bm PySem.F.plainAttrs_list PySem.F.slot_list_append PySem.F.type_list_append mt_append (pv 5) (pa_cons (pe_op op_mod (pe_callTy cr_int (by rfl) Z.n_int (by decide +kernel) (pa_cons (pe_op op_fdiv (pv 4) pe_int) pa_nil)) pe_int) pa_nil)))))))) (pss_one (ps_ret (pv 5)))))))), ?_⟩
    walk_at "go"
    refine ⟨c, rfl, ?_⟩
    walk_at "st"
    generalize (if c < 0 then -c else c) = rest
    generalize decide ((1000000000000000000 : Int) ≤ rest) = lg
    refine k_I (by decide) ?_
    walk_at "st"
    refine kLst.mk (by show 0 ≤ 1000; decide) fun p H1 e1 n1 g1 => ?_
    walk_at "st"
    have hz0 : 0 ≤ rest % 2147483629 + 1 ∧ rest % 2147483629 + 1 ≤ 2147483647 := by omega
    generalize rest % 2147483629 + 1 = mx at hz0
    refine kR1.mk n rfl (by omega) (kFor.rng (Pv := fun i σ H' => Le H H' ∧ ∃ (rest mx : Int) (ns : List Int) (a : Option V), H' p = some (.lst (ns.map V.int)) ∧ ns.length = i ∧ Nr ns ∧ (0 ≤ mx ∧ mx ≤ 2147483647) ∧ σ = [some (.int c), some (.int (n : Nat)), some (.int rest), some (.bl lg), some (.int mx), some (.ref p), a]) n ⟨e1, rest, mx, [], _, g1, rfl, fun _ h => (nomatch h), hz0, rfl⟩ (fun i σ H2 hi z => ?_) fun σ H2 z => ?_)
    · obtain ⟨e2, rest, mx, ns, a, g2, hl, hns, ⟨m0, m1⟩, rfl⟩ := z
      walk_at "st"
      refine k_I (.inl ⟨by omega, by omega⟩) ?_
      walk_at "st"
      refine k_I (.inl ⟨by omega, by omega⟩) ?_
      walk_at "st"
      refine k_I (by decide) ?_
      walk_at "st"
      have hz1 : 0 ≤ (mx * 48271 + (i : Int) * 69621 + 7) % 2147483647 ∧ (mx * 48271 + (i : Int) * 69621 + 7) % 2147483647 ≤ 2147483647 := ⟨Int.emod_nonneg _ (by decide), Int.le_of_lt (Int.emod_lt_of_pos _ (by decide))⟩
      generalize (mx * 48271 + (i : Int) * 69621 + 7) % 2147483647 = my at hz1
      have fin : ∀ (v rest2 : Int), 0 ≤ v → v ≤ 999 → ∀ H3, H3 = upd H2 p (.lst (ns.map V.int ++ [.int v])) → Le H H3 ∧ ∃ (rest mx : Int) (ns : List Int) (a : Option V), H3 p = some (.lst (ns.map V.int)) ∧ ns.length = i + 1 ∧ Nr ns ∧ (0 ≤ mx ∧ mx ≤ 2147483647) ∧ [some (V.int c), some (.int (n : Nat)), some (.int rest2), some (.bl lg), some (.int my), some (.ref p), some (.int (i : Nat))] = [some (V.int c), some (.int (n : Nat)), some (.int rest), some (.bl lg), some (.int mx), some (.ref p), a] := fun v rest2 v0 v1 H3 e3 => by
        subst e3
        refine ⟨e2.own n1 (by rw [g2]; exact fun z => nomatch z), rest2, my, ns ++ [v], _, by rw [upd_same, List.map_append]; rfl, by rw [List.length_append, hl]; rfl, fun u hu => ?_, hz1, rfl⟩
        rcases List.mem_append.mp hu with h | h
        · exact hns u h
        · rw [List.mem_singleton.mp h]
          exact ⟨v0, v1⟩
      have A : ∀ {D : Ends} {σ : L2.St}, (D.nx σ) = D.nx σ := rfl
      cases lg with
      | false =>
        walk_at "st"
        refine k_ifF rfl ?_
        walk_at "st"
        refine k_ifF rfl ?_
        walk_at "st"
        refine kBM.app g2 ?_
        walk_at "st"
        refine k_I ⟨by decide, by decide⟩ ?_
        walk_at "st"
        refine k_I (by decide) ?_
        walk_at "st"
        refine k_app g2 (by rw [List.length_map]; omega) ?_
        walk_at "st"
        exact fin _ rest (Int.emod_nonneg _ (by decide)) (by have := Int.emod_lt_of_pos (my / 13) (show (0 : Int) < 1000 by decide); omega) _ rfl
      | true =>
        walk_at "st"
        refine k_ifT rfl ?_
        walk_at "st"
        refine k_if2 (fun _ => ?_) (fun _ => ?_)
        · walk_at "st"
          refine kBM.app g2 ?_
          walk_at "st"
          refine k_I (by decide) ?_
          walk_at "st"
          refine k_app g2 (by rw [List.length_map]; omega) ?_
          walk_at "st"
          refine k_I ⟨by decide, by decide⟩ ?_
          walk_at "st"
          exact fin _ (rest / 1000) (Int.emod_nonneg _ (by decide)) (by have := Int.emod_lt_of_pos rest (show (0 : Int) < 1000 by decide); omega) _ rfl
        · walk_at "st"
          refine kBM.app g2 ?_
          walk_at "st"
          refine k_I ⟨by decide, by decide⟩ ?_
          walk_at "st"
          refine k_I (by decide) ?_
          walk_at "st"
          refine k_app g2 (by rw [List.length_map]; omega) ?_
          walk_at "st"
          exact fin _ rest (Int.emod_nonneg _ (by decide)) (by have := Int.emod_lt_of_pos (my / 13) (show (0 : Int) < 1000 by decide); omega) _ rfl
    · obtain ⟨e2, rest, mx, ns, a, g2, hl, hns, _, rfl⟩ := z
      walk_at "st"
      exact q p ns H2 e2 (e1.dom p |> fun _ => n1) g2 hl hns
end G
end
section
set_option Elab.async false
set_option linter.all false
set_option maxRecDepth 100000
set_option maxHeartbeats 1000000
namespace G
open PySem PySem.Spec PyProof.Rows L2
local macro_rules | `(tactic| walk_at "st") => `(tactic| repeat (first
  | with_reducible refine k_seq ?_
  | with_reducible refine k_asg ?_
  | with_reducible refine k_gn ?_
  | with_reducible refine k_op ?_
  | ((with_reducible refine' k_var ?vh ?_); (case vh => rfl))
  | with_reducible refine k_c ?_
  | with_reducible refine k_cons ?_
  | with_reducible refine k_nil ?_
  | with_reducible refine k_I0 ?_
  | with_reducible refine k_ret ?_
  | with_reducible refine k_if ?_
  | with_reducible refine k_test ?_
  | with_reducible refine k_bl ?_
  | with_reducible refine k_cb ?_
  | with_reducible refine k_cl ?_
  | with_reducible refine k_int ?_
  | with_reducible refine k_tup ?_
  | with_reducible refine k_lst ?_
  | with_reducible refine k_fld ?_
  | with_reducible refine k_mt ?_
  | with_reducible refine k_for ?_
  | with_reducible refine k_iL ?_
  | with_reducible refine k_iT ?_
  | with_reducible refine k_iR1 ?_
  | with_reducible refine k_iS ?_
  | with_reducible refine k_par ?_
  | with_reducible refine k_ex2 ?_
  | with_reducible refine k_rfl2 ?_
  | with_reducible refine k_iZA ?_
  | with_reducible refine k_gcons ?_
  | with_reducible refine k_gnil ?_
  | with_reducible refine k_exI ?_
  | with_reducible refine k_bits ?_
  | with_reducible refine k_chain ?_
  | ((with_reducible refine' k_aug ?vh ?_); (case vh => rfl))
  | with_reducible refine k_ipI ?_
  | with_reducible refine k_inG ?_
  | with_reducible refine k_m1 ?_
  | with_reducible refine kM1.mk ?_
  | with_reducible refine k_yes ?_
  | with_reducible refine k_lc ?_
  | with_reducible refine k_andV ?_
  | with_reducible refine k_orV ?_
  | with_reducible refine k_tB ?_
  | with_reducible refine k_and ?_
  | with_reducible refine k_or ?_
  | with_reducible refine k_not ?_
  | with_reducible refine k_retN ?_
  | with_reducible refine k_next ?_
  | with_reducible refine k_fset ?_
  | with_reducible refine k_faug ?_
  | with_reducible refine k_sl ?_
  | with_reducible refine k_part ?_
  | with_reducible refine k_nopart ?_
  | with_reducible refine k_un ?_
  | with_reducible refine k_u1 ?_
  | with_reducible refine k_dget ?_
  | with_reducible refine k_din ?_
  | with_reducible refine k_dnin ?_
  | with_reducible refine k_dput ?_
  | with_reducible refine k_dget2 ?_
  | with_reducible refine k_bm ?_
  | with_reducible refine k_augs ?_
  | with_reducible refine k_gsub ?_
  | with_reducible refine k_enT ?_
  | with_reducible refine k_anyI ?_
  | with_reducible refine k_allI ?_
  | with_reducible refine k_lenX ?_
  | with_reducible refine k_sortX ?_
  | with_reducible refine k_drop ?_))
local macro_rules | `(tactic| walk_at "go") => `(tactic| ((try dsimp only [cxOf]); walk_at "st"))
local macro_rules | `(tactic| walk_at "len") => `(tactic| (simp only [List.length_append, List.length_map, List.length_cons, List.length_nil, List.length_replicate] at *; omega))

variable {P : Program} {w : World} {K : PySem.W.Frag} {mg : Str → Option Value} {base : Heap}
abbrev MdO (m : Int) : Prop := 3 ≤ m ∧ m < 2 ^ 61
def spLSeal (K : PySem.W.Frag) : Sp := fun vs H Q _ => ∃ (m : Int) (r : Addr) (ns : List Int), vs = [.int m, .ref r] ∧ MdO m ∧ SqT K H r (ns.map V.int) ∧ ns.length ≤ 900 ∧ ∀ (z : Int) H', 0 ≤ z → z < m → Le H H' → Q (.int z) H'
theorem ok_law_seal (Z : Zed w K mg) : Fn P w K mg base CX0 1 (He.ga K "_law_seal") (spLSeal K) := by
  refine Fn.of0 (F_law_seal Z) sc_law_seal (fun _ _ _ _ _ _ us hl => match us, hl with | [_, _], _ => rfl) (fun vs H Q E h => ?_) (fun cdv A outer s H vs Q E hr h => ?_)
  · obtain ⟨m, r, ns, rfl, _⟩ := h
    rfl
  · obtain ⟨m, r, ns, rfl, ⟨h3, h4⟩, hr1, hn, k⟩ := h
    refine ⟨_, (pss_cons (ps_set (i := 2) sc_law_seal.nd rfl (Or.inl rfl) pe_int) (pss_cons (ps_for PassesOwn.never rfl (pi_list (pe_op op_cat (pe_callTy cr_list (by rfl) Z.n_list (by decide +kernel) (pa_cons (pv 1) pa_nil)) (pe_lst (pa_cons (pe_callB cr_len (by rfl) Z.n_len PySem.boot_len (pa_cons (pv 1) pa_nil)) pa_nil)))) (pg_name (i := 3) sc_law_seal.nd rfl (Or.inl rfl)) (pss_one (ps_set (i := 2) sc_law_seal.nd rfl (Or.inl rfl) (pe_op op_mod (pe_callTy cr_int (by rfl) Z.n_int (by decide +kernel) (pa_cons (pe_op op_add (pe_op op_add (pe_op op_add (pe_op op_mul (pe_op op_mul (pv 2) (pv 2)) (pv 2)) (pe_op op_mul pe_int (pv 2))) (pe_op op_mul pe_int (pv 3))) pe_int) pa_nil)) (pv 0))))) (pss_one (ps_ret (pv 2))))), ?_⟩
    walk_at "go"
    refine k_listT hr1 fun p1 H1 e1 n1 g1 => ?_
    walk_at "st"
    refine k_lenT (e1.sqt hr1) ?_
    walk_at "st"
    refine kLst.mk (by show 1 ≤ 1000; decide) fun p2 H2 e2 n2 g2 => ?_
    refine k_cat (e2.lst g1) g2 (by rw [List.length_map, List.length_singleton]; omega) fun p3 H3 e3 n3 g3 => ?_
    refine kIL.mk (SqL.of g3) (kFor.lst (Pv := fun i σ => ∃ z : Int, 0 ≤ z ∧ z < 2 ^ 61 ∧ (i = 0 ∨ z < m) ∧ ∃ v, σ = [some (.int m), some (.ref r), some (.int z), v]) _ (SqL.of g3) ⟨1, by decide, by decide, .inl rfl, _, rfl⟩
      (fun i x σ H' hx e hz => ?_) fun σ H' e hz => ?_)
    · obtain ⟨z, z0, z1, _, v, rfl⟩ := hz
      obtain ⟨j, rfl⟩ : ∃ j : Int, x = .int j := by
        have hm := List.mem_of_getElem? hx
        rcases List.mem_append.mp hm with q | q
        · obtain ⟨j, _, rfl⟩ := List.mem_map.mp q
          exact ⟨j, rfl⟩
        · rw [List.mem_singleton] at q
          exact ⟨_, q⟩
      walk_at "st"
      refine k_I (.inl ⟨by omega, by omega⟩) ?_
      walk_at "st"
      refine k_I (.inr ⟨by omega, by omega⟩) ?_
      walk_at "st"
      refine k_I (.inl ⟨by decide, by decide⟩) ?_
      walk_at "st"
      refine k_I (.inl ⟨by decide, by decide⟩) ?_
      walk_at "st"
      have hm : 0 < m := by omega
      refine k_I hm ?_
      walk_at "st"
      exact ⟨e, _, Int.emod_nonneg _ (by omega), Int.lt_trans (Int.emod_lt_of_pos _ hm) h4, .inr (Int.emod_lt_of_pos _ hm), _, rfl⟩
    · obtain ⟨z, z0, _, hz, v, rfl⟩ := hz
      walk_at "st"
      refine k z _ z0 ?_ (((e1.trans e2).trans e3).trans e)
      rcases hz with hz | hz
      · rw [List.length_append] at hz
        exact absurd hz (by simp)
      · exact hz
def spLLock : Sp := fun vs H Q _ => ∃ (m k : Int), vs = [.int m, .int k] ∧ MdO m ∧ ∀ (z : Int) H', 1 ≤ z → z ≤ m → Le H H' → Q (.int z) H'
theorem ok_law_lock (Z : Zed w K mg) : Fn P w K mg base CX0 2 (He.ga K "_law_lock") spLLock := by
  have O_law_seal := ok_law_seal (P := P) (base := base) Z
  refine Fn.of0 (F_law_lock Z) sc_law_lock (fun _ _ _ _ _ _ us hl => match us, hl with | [_, _], _ => rfl) (fun vs H Q E h => ?_) (fun cdv A outer s H vs Q E hr h => ?_)
  · obtain ⟨m, k, rfl, _⟩ := h
    rfl
  · obtain ⟨m, k, rfl, hm, q⟩ := h
    refine ⟨_, (pss_one (ps_ret (pe_op op_add (pe_f O_law_seal hr (by decide) Z.g__law_seal pass0 (pa_cons (pv 0) (pa_cons (pe_tup (pa_cons pe_int (pa_cons (pv 1) pa_nil))) pa_nil))) pe_int))), ?_⟩
    walk_at "go"
    refine kTup.mk (by show 2 ≤ 1000; decide) fun p H1 e1 n1 g1 => ?_
    refine ⟨m, p, [7, k], rfl, hm, SqT.of g1, by show 2 ≤ 900; decide, fun z H2 z0 z1 e2 => ?_⟩
    walk_at "st"
    exact q (z + 1) H2 (by omega) (by omega) (e1.trans e2)
def spLMod : Sp := fun vs H Q _ => ∃ c : Int, vs = [.int c] ∧ ∀ (m : Int) H', MdO m → Le H H' → Q (.int m) H'
theorem ok_law_modulus (Z : Zed w K mg) : Fn P w K mg base CX0 1 (He.ga K "_law_modulus") spLMod := by
  refine Fn.of0 (F_law_modulus Z) sc_law_modulus (fun _ _ _ _ _ _ us hl => match us, hl with | [_], _ => rfl) (fun vs H Q E h => ?_) (fun cdv A outer s H vs Q E hr h => ?_)
  · obtain ⟨c, rfl, _⟩ := h
    rfl
  · obtain ⟨c, rfl, q⟩ := h
    refine ⟨_, (pss_cons (ps_set (i := 1) sc_law_modulus.nd rfl (Or.inl rfl) (pe_op op_mod (pe_callTy cr_int (by rfl) Z.n_int (by decide +kernel) (pa_cons (pv 0) pa_nil)) pe_int)) (pss_cons (ps_if (pt_cmpR op_eq (pv 1) pe_int (nomark _)) (pss_one (ps_ret (pe_op op_add pe_int (pe_op op_mod (pe_op op_fdiv (pe_callTy cr_int (by rfl) Z.n_int (by decide +kernel) (pa_cons (pv 0) pa_nil)) pe_int) pe_int)))) pss_nil) (pss_cons (ps_if (pt_cmpR op_eq (pv 1) pe_int (nomark _)) (pss_one (ps_ret (pe_op op_add pe_int (pe_op op_mod (pe_op op_fdiv (pe_callTy cr_int (by rfl) Z.n_int (by decide +kernel) (pa_cons (pv 0) pa_nil)) pe_int) pe_int)))) pss_nil) (pss_one (ps_ret (pe_ix ix_list (pe_lst (pa_cons pe_int (pa_cons pe_int (pa_cons pe_int (pa_cons pe_int pa_nil))))) (pe_op op_sub (pv 1) pe_int) (fun _ _ => rfl))))))), ?_⟩
    walk_at "go"
    refine k_I (by decide) ?_
    walk_at "st"
    have hk : 0 ≤ c % 6 ∧ c % 6 < 6 := by omega
    generalize c % 6 = k at hk
    refine k_eq rfl ?_
    walk_at "st"
    refine k_if2 (fun _ => ?_) (fun h0 => ?_)
    · walk_at "st"
      refine k_I ⟨by decide, by decide⟩ ?_
      walk_at "st"
      refine k_I (by decide) ?_
      walk_at "st"
      exact q _ H ⟨by omega, by omega⟩ Lx.refl
    · walk_at "st"
      refine k_eq rfl ?_
      walk_at "st"
      refine k_if2 (fun _ => ?_) (fun h1 => ?_)
      · walk_at "st"
        refine k_I ⟨by decide, by decide⟩ ?_
        walk_at "st"
        refine k_I (by decide) ?_
        walk_at "st"
        exact q _ H ⟨by omega, by omega⟩ Lx.refl
      · walk_at "st"
        refine kLst.mk (by show 4 ≤ 1000; decide) fun p H1 e1 n1 g1 => ?_
        walk_at "st"
        have h0 := of_decide_eq_false h0
        have h1 := of_decide_eq_false h1
        have h0 : k ≠ 0 := fun z => h0 (by rw [z])
        have h1 : k ≠ 1 := fun z => h1 (by rw [z])
        have hc : k = 2 ∨ k = 3 ∨ k = 4 ∨ k = 5 := by omega
        rcases hc with rfl | rfl | rfl | rfl
        · exact k_ixL (SqL.of g1) rfl (q _ H1 ⟨by decide, by decide⟩ e1)
        · exact k_ixL (SqL.of g1) rfl (q _ H1 ⟨by decide, by decide⟩ e1)
        · exact k_ixL (SqL.of g1) rfl (q _ H1 ⟨by decide, by decide⟩ e1)
        · exact k_ixL (SqL.of g1) rfl (q _ H1 ⟨by decide, by decide⟩ e1)
def spSigner (K : PySem.W.Frag) : Sp := fun vs H Q _ => ∃ (v : V) (d : Dd) (kd : Nat) (m : Int), vs = [v] ∧ Is K H v (.tuple d.ds) ∧ d.ok kd m ∧ ∀ n, n ∈ nmA → Q (.str n.1) H
theorem ok_law_signer (Z : Zed w K mg) : Fn P w K mg base CX0 1 (He.ga K "_law_signer") (spSigner K) := by
  refine Fn.of0 (F_law_signer Z) sc_law_signer (fun _ _ _ _ _ _ us hl => match us, hl with | [_], _ => rfl) (fun vs H Q E h => ?_) (fun cdv A outer s H vs Q E hr h => ?_)
  · obtain ⟨v, d, kd, m, rfl, _⟩ := h
    rfl
  · obtain ⟨v, d, kd, m, rfl, hv, ok, q⟩ := h
    obtain ⟨p, wd, n, rest, rfl, sq, hnm, _⟩ := deed_1 hv
    refine ⟨_, (pss_cons (ps_if (pt_cmpR op_eq (pe_ix ix_tup (pv 0) pe_int (fun _ _ => rfl)) pe_str (nomark _)) (pss_one (ps_ret pe_str)) pss_nil) (pss_one (ps_ret (pe_ix ix_tup (pv 0) pe_int (fun _ _ => rfl))))), ?_⟩
    walk_at "go"
    refine k_ixT sq at0 ?_
    walk_at "st"
    refine k_eq rfl ?_
    walk_at "st"
    refine k_if2 (fun _ => ?_) (fun _ => ?_)
    · walk_at "st"
      exact q ("mint", 106954869440512) mint_nA
    · walk_at "st"
      refine k_ixT sq at1 ?_
      walk_at "st"
      exact q n (hnm m kd ok)
end G
end
section
set_option Elab.async false
set_option linter.all false
set_option maxRecDepth 100000
set_option maxHeartbeats 1000000
namespace G
open PySem PySem.Spec PyProof.Rows L2
local macro_rules | `(tactic| walk_at "st") => `(tactic| repeat (first
  | with_reducible refine k_seq ?_
  | with_reducible refine k_asg ?_
  | with_reducible refine k_gn ?_
  | with_reducible refine k_op ?_
  | ((with_reducible refine' k_var ?vh ?_); (case vh => rfl))
  | with_reducible refine k_c ?_
  | with_reducible refine k_cons ?_
  | with_reducible refine k_nil ?_
  | with_reducible refine k_I0 ?_
  | with_reducible refine k_ret ?_
  | with_reducible refine k_if ?_
  | with_reducible refine k_test ?_
  | with_reducible refine k_bl ?_
  | with_reducible refine k_cb ?_
  | with_reducible refine k_cl ?_
  | with_reducible refine k_int ?_
  | with_reducible refine k_tup ?_
  | with_reducible refine k_lst ?_
  | with_reducible refine k_fld ?_
  | with_reducible refine k_mt ?_
  | with_reducible refine k_for ?_
  | with_reducible refine k_iL ?_
  | with_reducible refine k_iT ?_
  | with_reducible refine k_iR1 ?_
  | with_reducible refine k_iS ?_
  | with_reducible refine k_par ?_
  | with_reducible refine k_ex2 ?_
  | with_reducible refine k_rfl2 ?_
  | with_reducible refine k_iZA ?_
  | with_reducible refine k_gcons ?_
  | with_reducible refine k_gnil ?_
  | with_reducible refine k_exI ?_
  | with_reducible refine k_bits ?_
  | with_reducible refine k_chain ?_
  | ((with_reducible refine' k_aug ?vh ?_); (case vh => rfl))
  | with_reducible refine k_ipI ?_
  | with_reducible refine k_inG ?_
  | with_reducible refine k_m1 ?_
  | with_reducible refine kM1.mk ?_
  | with_reducible refine k_yes ?_
  | with_reducible refine k_lc ?_
  | with_reducible refine k_andV ?_
  | with_reducible refine k_orV ?_
  | with_reducible refine k_tB ?_
  | with_reducible refine k_and ?_
  | with_reducible refine k_or ?_
  | with_reducible refine k_not ?_
  | with_reducible refine k_retN ?_
  | with_reducible refine k_next ?_
  | with_reducible refine k_fset ?_
  | with_reducible refine k_faug ?_
  | with_reducible refine k_sl ?_
  | with_reducible refine k_part ?_
  | with_reducible refine k_nopart ?_
  | with_reducible refine k_un ?_
  | with_reducible refine k_u1 ?_
  | with_reducible refine k_dget ?_
  | with_reducible refine k_din ?_
  | with_reducible refine k_dnin ?_
  | with_reducible refine k_dput ?_
  | with_reducible refine k_dget2 ?_
  | with_reducible refine k_bm ?_
  | with_reducible refine k_augs ?_
  | with_reducible refine k_gsub ?_
  | with_reducible refine k_enT ?_
  | with_reducible refine k_anyI ?_
  | with_reducible refine k_allI ?_
  | with_reducible refine k_lenX ?_
  | with_reducible refine k_sortX ?_
  | with_reducible refine k_drop ?_))
local macro_rules | `(tactic| walk_at "go") => `(tactic| ((try dsimp only [cxOf]); walk_at "st"))
local macro_rules | `(tactic| walk_at "len") => `(tactic| (simp only [List.length_append, List.length_map, List.length_cons, List.length_nil, List.length_replicate] at *; omega))

variable {P : Program} {w : World} {K : PySem.W.Frag} {mg : Str → Option Value} {base : Heap}
def nm8 : List Str := ["mint", "bank", "a", "b_1", "ab", "z9", "0", "abcdefgh"]
theorem nm8_nA {z : Str} (h : z ∈ nm8) : ∃ k, (z, k) ∈ nmA := by
  have e : nm8.all (fun z => nmA.any fun p => p.1 == z) = true := by decide +kernel
  obtain ⟨p, hp, he⟩ := List.any_eq_true.mp (List.all_eq_true.mp e z h)
  exact ⟨p.2, by rw [← eq_of_beq he]; exact hp⟩
def spLNames : Sp := fun vs H Q _ => vs = [] ∧ ∀ p H', Le H H' → H p = none → H' p = some (.lst (nm8.map V.str)) → Q (.ref p) H'
theorem ok_law_names (Z : Zed w K mg) : Fn P w K mg base CX0 1 (He.ga K "_law_names") spLNames := by
  refine Fn.of0 (F_law_names Z) sc_law_names (fun _ _ _ _ _ _ us hl => match us, hl with | [], _ => rfl) (fun vs H Q E h => ?_) (fun cdv A outer s H vs Q E hr h => ?_)
  · obtain ⟨rfl, _⟩ := h
    rfl
  · obtain ⟨rfl, q⟩ := h
    refine ⟨_, (pss_one (ps_ret (pe_lst (pa_cons pe_str (pa_cons pe_str (pa_cons pe_str (pa_cons pe_str (pa_cons pe_str (pa_cons pe_str (pa_cons pe_str (pa_cons pe_str pa_nil))))))))))), ?_⟩
    walk_at "go"
    exact kLst.mk (by show 8 ≤ 1000; decide) fun p H1 e1 n1 g1 => q p H1 e1 n1 g1
theorem cut_drop {xs : List V} {k : Nat} (h : k ≤ xs.length) : cutV xs (some (k : Int)) none = xs.drop k := by
  unfold cutV
  rw [HT.sIx_nat, Nat.min_eq_left h, HT.sIx_none]
  exact List.take_of_length_le (by rw [List.length_drop]; omega)
theorem drop2 {ns : List Int} {k : Nat} (h : k + 2 ≤ ns.length) : ∃ a b r, ns.drop k = a :: b :: r ∧ a ∈ ns ∧ b ∈ ns := by
  have h1 : k < ns.length := by omega
  have h2 : k + 1 < ns.length := by omega
  exact ⟨ns[k], ns[k + 1], ns.drop (k + 2), by rw [List.drop_eq_getElem_cons h1, List.drop_eq_getElem_cons h2], List.getElem_mem h1, List.getElem_mem h2⟩
def spLRules (K : PySem.W.Frag) : Sp := fun vs H Q _ => ∃ (c : Int) (kd : Nat), vs = [.int c, .int (kd : Nat)] ∧ (1 ≤ kd ∧ kd ≤ 3) ∧ ∀ (p d : Addr) (fee : Int) (kvs : List (List Key × V)) (H' : Hp), Le H H' → SqT K H' p [.int (kd : Nat), .int fee, .ref d] → H' d = some (.dT kvs) → RtOk K H' kd kvs → (0 ≤ fee ∧ fee ≤ 1000) → Q (.ref p) H'
/-- the rates so far -/
def RtS (K : PySem.W.Frag) (H0 : Hp) (d : Addr) (kd n : Nat) (H : Hp) : Prop := Le H0 H ∧ ∃ kvs, H d = some (.dT kvs) ∧ RtOk K H kd kvs ∧ kvs.length ≤ n
theorem ok_law_rules (Z : Zed w K mg) : Fn P w K mg base CX0 2 (He.ga K "_law_rules") (spLRules K) := by
  have O_law_numbers := ok_law_numbers (P := P) (base := base) Z
  refine Fn.of0 (F_law_rules Z) sc_law_rules (fun _ _ _ _ _ _ us hl => match us, hl with | [_, _], _ => rfl) (fun vs H Q E h => ?_) (fun cdv A outer s H vs Q E hr h => ?_)
  · obtain ⟨c, kd, rfl, _⟩ := h
    rfl
  · obtain ⟨c, kd, rfl, ⟨hk1, hk3⟩, q⟩ := h
    refine ⟨_, (pss_cons (ps_set (i := 2) sc_law_rules.nd rfl (Or.inl rfl) (pe_f O_law_numbers hr (by decide) Z.g__law_numbers pass0 (pa_cons (pv 0) (pa_cons pe_int pa_nil)))) (pss_cons (ps_set (i := 3) sc_law_rules.nd rfl (Or.inl rfl) pe_dnewT) (pss_cons (ps_for PassesOwn.never rfl (pi_range1 (by rfl) Z.n_range (pa_cons (pv 1) pa_nil)) (pg_name (i := 4) sc_law_rules.nd rfl (Or.inl rfl)) (pss_one (ps_for PassesOwn.never rfl (pi_range1 (by rfl) Z.n_range (pa_cons (pv 1) pa_nil)) (pg_name (i := 5) sc_law_rules.nd rfl (Or.inl rfl)) (pss_cons (ps_set (i := 6) sc_law_rules.nd rfl (Or.inl rfl) (pe_slice sl_list (pv 2) (po_some (pe_op op_add (pe_op op_add pe_int (pe_op op_mul pe_int (pv 4))) (pe_op op_mod (pe_callTy cr_int (by rfl) Z.n_int (by decide +kernel) (pa_cons (pe_op op_mul pe_int (pv 5)) pa_nil)) pe_int))) po_none)) (pss_one (ps_if (PW.pt (pw_and (pt_cmpR op_ne (pv 4) (pv 5) (nomark _)) (pw_and1 (pt_cmpR op_ne (pe_op op_mod (pe_ix ix_list (pv 6) pe_int (fun _ _ => rfl)) pe_int) pe_int (nomark _))))) (pss_one (ps_dput (hu_of hr) (pv 3) (pe_tup (pa_cons (pv 4) (pa_cons (pv 5) pa_nil))) (pe_tup (pa_cons (pe_op op_add pe_int (pe_op op_mod (pe_ix ix_list (pv 6) pe_int (fun _ _ => rfl)) pe_int)) (pa_cons (pe_op op_add pe_int (pe_op op_mod (pe_ix ix_list (pv 6) pe_int (fun _ _ => rfl)) pe_int)) pa_nil))) rfl)) pss_nil)))))) (pss_one (ps_ret (pe_tup (pa_cons (pv 1) (pa_cons (pe_ix ix_list (pe_lst (pa_cons pe_int (pa_cons pe_int (pa_cons pe_int (pa_cons (pe_op op_add pe_int (pe_op op_mod (pe_ix ix_list (pv 2) pe_int (fun _ _ => rfl)) pe_int)) pa_nil))))) (pe_op op_mod (pe_callTy cr_int (by rfl) Z.n_int (by decide +kernel) (pa_cons (pe_ix ix_list (pv 2) pe_int (fun _ _ => rfl)) pa_nil)) pe_int) (fun _ _ => rfl)) (pa_cons (pv 3) pa_nil))))))))), ?_⟩
    walk_at "go"
    refine ⟨c, 14, rfl, by decide, fun p1 ns H1 e1 n1 g1 hl hns => ?_⟩
    walk_at "st"
    refine k_newT fun d H2 e2 n2 g2 => ?_
    have g12 := e2.lst g1
    have npd : p1 ≠ d := fun z => by rw [← z, g1] at n2; cases n2
    walk_at "st"
    refine kR1.mk kd rfl (by omega) (kFor.rng (Pv := fun i σ H' => RtS K H1 d kd (3 * i) H' ∧ ∃ a b r : Option V, σ = [some (.int c), some (.int (kd : Nat)), some (.ref p1), some (.ref d), a, b, r]) kd ⟨⟨e2, [], g2, fun k v h => (nomatch h), Nat.le_refl 0⟩, _, _, _, rfl⟩ (fun i σ H3 hi z => ?_) fun σ H3 z => ?_)
    · obtain ⟨hR, a, b, r, rfl⟩ := z
      walk_at "st"
      refine kR1.mk kd rfl (by omega) (kFor.rng (Pv := fun j σ H' => RtS K H1 d kd (3 * i + j) H' ∧ ∃ b r : Option V, σ = [some (.int c), some (.int (kd : Nat)), some (.ref p1), some (.ref d), some (.int (i : Nat)), b, r]) kd ⟨hR, _, _, rfl⟩ (fun j σ H4 hj z => ?_) fun σ H4 z => ?_)
      · obtain ⟨⟨e4, kvs, g4, hrt, hlk⟩, b, r, rfl⟩ := z
        have hm : 0 ≤ (3 * (j : Int)) % 7 ∧ (3 * (j : Int)) % 7 ≤ 6 := by omega
        obtain ⟨k, hk⟩ : ∃ k : Nat, (2 : Int) + 2 * (i : Int) + (3 * (j : Int)) % 7 = (k : Int) := ⟨((2 : Int) + 2 * (i : Int) + (3 * (j : Int)) % 7).toNat, by omega⟩
        have hk12 : k + 2 ≤ ns.length := by omega
        obtain ⟨x, y, rest, hd, hx, hy⟩ := drop2 hk12
        obtain ⟨x0, x1⟩ := hns x hx
        obtain ⟨y0, y1⟩ := hns y hy
        walk_at "st"
        refine k_I (.inl ⟨by decide, by decide⟩) ?_
        walk_at "st"
        refine k_I (.inl ⟨by decide, by decide⟩) ?_
        walk_at "st"
        refine k_I (by decide) ?_
        walk_at "st"
        rw [hk]
        refine k_slL (SqL.of (e4.lst g1)) fun rr H5 e5 n5 g5 => ?_
        rw [cut_drop (by rw [List.length_map]; omega), ← List.map_drop, hd] at g5
        have g45 := e5.get g4
        walk_at "st"
        refine k_ne rfl ?_
        walk_at "st"
        have same : RtS K H1 d kd (3 * i + (j + 1)) H5 := ⟨e4.trans e5, kvs, g45, hrt.lx e5, by omega⟩
        refine k_if2 (fun hij => ?_) (fun _ => ?_)
        · have hij : i ≠ j := fun z => by
            rw [z] at hij
            simp at hij
          walk_at "st"
          refine k_ixL (SqL.of g5) (show atI (V.int x :: V.int y :: rest.map V.int) 0 = some (.int x) from at0) ?_
          walk_at "st"
          refine k_I (by decide) ?_
          walk_at "st"
          refine k_ne rfl ?_
          walk_at "st"
          refine k_if2 (fun _ => ?_) (fun _ => ?_)
          · walk_at "st"
            refine k_ixL (SqL.of g5) (show atI (V.int x :: V.int y :: rest.map V.int) 0 = some (.int x) from at0) ?_
            walk_at "st"
            refine k_I (by decide) ?_
            walk_at "st"
            refine k_ixL (SqL.of g5) (show atI (V.int x :: V.int y :: rest.map V.int) 1 = some (.int y) from at1) ?_
            walk_at "st"
            refine k_I (by decide) ?_
            walk_at "st"
            refine kTup.mk (by show 2 ≤ 1000; decide) fun p6 H6 e6 n6 g6 => ?_
            walk_at "st"
            refine kTup.mk (by show 2 ≤ 1000; decide) fun p7 H7 e7 n7 g7 => ?_
            have e57 := e6.trans e7
            have g8 := e57.get g45
            refine kDP.tt (k := [.inl (i : Int), .inl (j : Int)]) g8 g7 (by omega) ?_
            have w8 : Lx (fun a => a = d) H7 (upd H7 d (.dT (putK kvs [.inl (i : Int), .inl (j : Int)] (.ref p6)))) := Lx.wr rfl g8 (fun z => z) (by intro ps z; cases z)
            have lp := length_putK kvs [Sum.inl (i : Int), Sum.inl (j : Int)] (.ref p6)
            walk_at "st"
            refine ⟨⟨(e4.trans (e5.trans e57)).own n2 (by rw [g8]; exact fun z => nomatch z), _, upd_same, fun q u hu => ?_, by omega⟩, _, _, rfl⟩
            rw [valV_put] at hu
            split at hu
            · rename_i hq
              cases hu
              exact ⟨i, j, 1 + x % 40, 1 + y % 40, p6, hq, by omega, by omega, by omega, rfl, w8.sqt (e7.sqt (SqT.of g6)), by omega, by omega⟩
            · exact (hrt.lx (e5.trans e57)).lx w8 q u hu
          · walk_at "st"
            exact ⟨same, _, _, rfl⟩
        · walk_at "st"
          exact ⟨same, _, _, rfl⟩
      · obtain ⟨⟨e4, kvs, g4, hrt, hlk⟩, b, r, rfl⟩ := z
        walk_at "st"
        exact ⟨⟨e4, kvs, g4, hrt, by omega⟩, _, _, _, rfl⟩
    · obtain ⟨⟨e3, kvs, g3, hrt, hlk⟩, a, b, r, rfl⟩ := z
      have g13 := e3.lst g1
      obtain ⟨x, y, rest, hd, hx, hy⟩ := drop2 (ns := ns) (k := 0) (by omega)
      rw [List.drop_zero] at hd
      obtain ⟨x0, x1⟩ := hns x hx
      rw [hd] at g13
      walk_at "st"
      refine k_ixL (SqL.of g13) (show atI (V.int x :: V.int y :: rest.map V.int) 0 = some (.int x) from at0) ?_
      walk_at "st"
      refine k_I (by decide) ?_
      walk_at "st"
      refine kLst.mk (by show 4 ≤ 1000; decide) fun p5 H5 e5 n5 g5 => ?_
      walk_at "st"
      refine k_ixL (SqL.of (e5.lst g13)) (show atI (V.int x :: V.int y :: rest.map V.int) 1 = some (.int y) from at1) ?_
      walk_at "st"
      refine k_I (by decide) ?_
      walk_at "st"
      have fin : ∀ f : Int, 0 ≤ f ∧ f ≤ 1000 → ∀ p6 H6, Le H5 H6 → H6 p6 = some (.tup [.int (kd : Nat), .int f, .ref d]) → Q (.ref p6) H6 := fun f hf p6 H6 e6 g6 => q p6 d f kvs H6 ((e1.trans e3).trans (e5.trans e6)) (SqT.of g6) ((e5.trans e6).get g3) (hrt.lx (e5.trans e6)) hf
      have hc : y % 4 = 0 ∨ y % 4 = 1 ∨ y % 4 = 2 ∨ y % 4 = 3 := by omega
      rcases hc with h | h | h | h
      · rw [h]
        refine k_ixL (SqL.of g5) rfl ?_
        walk_at "st"
        exact kTup.mk (by show 3 ≤ 1000; decide) fun p6 H6 e6 n6 g6 => fin _ (by omega) p6 H6 e6 g6
      · rw [h]
        refine k_ixL (SqL.of g5) rfl ?_
        walk_at "st"
        exact kTup.mk (by show 3 ≤ 1000; decide) fun p6 H6 e6 n6 g6 => fin _ (by omega) p6 H6 e6 g6
      · rw [h]
        refine k_ixL (SqL.of g5) rfl ?_
        walk_at "st"
        exact kTup.mk (by show 3 ≤ 1000; decide) fun p6 H6 e6 n6 g6 => fin _ (by omega) p6 H6 e6 g6
      · rw [h]
        refine k_ixL (SqL.of g5) rfl ?_
        walk_at "st"
        exact kTup.mk (by show 3 ≤ 1000; decide) fun p6 H6 e6 n6 g6 => fin _ (by omega) p6 H6 e6 g6
end G
end
section
set_option Elab.async false
set_option linter.all false
set_option maxRecDepth 100000
set_option maxHeartbeats 1000000
namespace G
open PySem PySem.Spec PyProof.Rows L2
local macro_rules | `(tactic| walk_at "st") => `(tactic| repeat (first
  | with_reducible refine k_seq ?_
  | with_reducible refine k_asg ?_
  | with_reducible refine k_gn ?_
  | with_reducible refine k_op ?_
  | ((with_reducible refine' k_var ?vh ?_); (case vh => rfl))
  | with_reducible refine k_c ?_
  | with_reducible refine k_cons ?_
  | with_reducible refine k_nil ?_
  | with_reducible refine k_I0 ?_
  | with_reducible refine k_ret ?_
  | with_reducible refine k_if ?_
  | with_reducible refine k_test ?_
  | with_reducible refine k_bl ?_
  | with_reducible refine k_cb ?_
  | with_reducible refine k_cl ?_
  | with_reducible refine k_int ?_
  | with_reducible refine k_tup ?_
  | with_reducible refine k_lst ?_
  | with_reducible refine k_fld ?_
  | with_reducible refine k_mt ?_
  | with_reducible refine k_for ?_
  | with_reducible refine k_iL ?_
  | with_reducible refine k_iT ?_
  | with_reducible refine k_iR1 ?_
  | with_reducible refine k_iS ?_
  | with_reducible refine k_par ?_
  | with_reducible refine k_ex2 ?_
  | with_reducible refine k_rfl2 ?_
  | with_reducible refine k_iZA ?_
  | with_reducible refine k_gcons ?_
  | with_reducible refine k_gnil ?_
  | with_reducible refine k_exI ?_
  | with_reducible refine k_bits ?_
  | with_reducible refine k_chain ?_
  | ((with_reducible refine' k_aug ?vh ?_); (case vh => rfl))
  | with_reducible refine k_ipI ?_
  | with_reducible refine k_inG ?_
  | with_reducible refine k_m1 ?_
  | with_reducible refine kM1.mk ?_
  | with_reducible refine k_yes ?_
  | with_reducible refine k_lc ?_
  | with_reducible refine k_andV ?_
  | with_reducible refine k_orV ?_
  | with_reducible refine k_tB ?_
  | with_reducible refine k_and ?_
  | with_reducible refine k_or ?_
  | with_reducible refine k_not ?_
  | with_reducible refine k_retN ?_
  | with_reducible refine k_next ?_
  | with_reducible refine k_fset ?_
  | with_reducible refine k_faug ?_
  | with_reducible refine k_sl ?_
  | with_reducible refine k_part ?_
  | with_reducible refine k_nopart ?_
  | with_reducible refine k_un ?_
  | with_reducible refine k_u1 ?_
  | with_reducible refine k_dget ?_
  | with_reducible refine k_din ?_
  | with_reducible refine k_dnin ?_
  | with_reducible refine k_dput ?_
  | with_reducible refine k_dget2 ?_
  | with_reducible refine k_bm ?_
  | with_reducible refine k_augs ?_
  | with_reducible refine k_gsub ?_
  | with_reducible refine k_enT ?_
  | with_reducible refine k_anyI ?_
  | with_reducible refine k_allI ?_
  | with_reducible refine k_lenX ?_
  | with_reducible refine k_sortX ?_
  | with_reducible refine k_drop ?_))
local macro_rules | `(tactic| walk_at "go") => `(tactic| ((try dsimp only [cxOf]); walk_at "st"))
local macro_rules | `(tactic| walk_at "len") => `(tactic| (simp only [List.length_append, List.length_map, List.length_cons, List.length_nil, List.length_replicate] at *; omega))

variable {P : Program} {w : World} {K : PySem.W.Frag} {mg : Str → Option Value} {base : Heap}
/-! ### dict displays -/
def kDp (p : Addr) (Q : VK) (ps : List (V × V)) (H2 : Hp) : Prop := H2 p = some (.dK []) ∧ ∃ kvs : List (Key × V), ps = kvs.map (fun kv => (kV kv.1, kv.2)) ∧ kvs.length ≤ 15 ∧ Q (.ref p) (upd H2 p (.dK (mergeK [] kvs)))
theorem k_disp {trs : List (TE × TE)} {σ : L2.St} {H : Hp} {Q : VK} (h : ∀ p H1, Le H H1 → H p = none → H1 p = some (.dK []) → tPairs trs σ H1 (kDp p Q)) : tDisp trs σ H Q := fun p hp => h p _ (Le.new hp) hp upd_same
theorem k_pcons {tk tv : TE} {r : List (TE × TE)} {σ : L2.St} {H : Hp} {QP : List (V × V) → Hp → Prop} (h : tk σ H fun x H1 => tv σ H1 fun y H2 => tPairs r σ H2 fun ps H3 => QP ((x, y) :: ps) H3) : tPairs ((tk, tv) :: r) σ H QP := h
theorem k_pnil {σ : L2.St} {H : Hp} {QP : List (V × V) → Hp → Prop} (h : QP [] H) : tPairs [] σ H QP := h
theorem kDp.mk {p : Addr} {Q : VK} {H0 H2 : Hp} {ps : List (V × V)} (kvs : List (Key × V)) (e : ps = kvs.map fun kv => (kV kv.1, kv.2)) (hp0 : H0 p = none) (x : Le H0 H2) (hp : H2 p = some (.dK [])) (hl : kvs.length ≤ 15) (q : ∀ H3, Le H0 H3 → Lx (fun a => a = p) H2 H3 → H3 p = some (.dK (mergeK [] kvs)) → Q (.ref p) H3) : kDp p Q ps H2 :=
  ⟨hp, kvs, e, hl, q _ (x.own hp0 (by rw [hp]; exact fun z => nomatch z)) (Lx.wr rfl hp (fun z => z) (by intro ps z; cases z)) upd_same⟩
abbrev kvB (ac ky : Addr) (m : Int) (kd : Nat) : List (Key × V) := [(.inr "accounts", .ref ac), (.inr "keys", .ref ky), (.inr "next", .int 2), (.inr "modulus", .int m), (.inr "kinds", .int (kd : Nat))]
def spBegin (K : PySem.W.Frag) : Sp := fun vs H Q _ => ∃ (m c : Int) (kd : Nat), vs = [.int m, .int (kd : Nat), .int c] ∧ MdO m ∧ (1 ≤ kd ∧ kd ≤ 3) ∧ ∀ (st ac ky kl al wl an : Addr) (ns : List Int) (H' : Hp), Le H H' → H st = none → H ky = none → H kl = none → H' st = some (.dK (kvB ac ky m kd)) →
  H' ac = some (.dK [(.inr "mint", .ref al)]) → H' al = some (.lst [.ref wl, .ref an]) → H' an = some (.lst (ns.map V.int)) → NoteOk kd m ns → H' ky = some (.dK [(.inr "mint", .ref kl)]) → H' kl = some (.lst [.int 1, .non, .non]) → Q (.ref st) H'
theorem ok_law_begin (Z : Zed w K mg) : Fn P w K mg base CX0 3 (He.ga K "_law_begin") (spBegin K) := by
  have O_law_lock := ok_law_lock (P := P) (base := base) Z
  refine Fn.of0 (F_law_begin Z) sc_law_begin (fun _ _ _ _ _ _ us hl => match us, hl with | [_, _, _], _ => rfl) (fun vs H Q E h => ?_) (fun cdv A outer s H vs Q E hr h => ?_)
  · obtain ⟨m, c, kd, rfl, _⟩ := h
    rfl
  · obtain ⟨m, c, kd, rfl, hm, ⟨hk1, hk3⟩, q⟩ := h
    refine ⟨_, (pss_cons (ps_set (i := 3) sc_law_begin.nd rfl (Or.inl rfl) (pe_lst (pa_cons (pe_f O_law_lock hr (by decide) Z.g__law_lock pass0 (pa_cons (pv 0) (pa_cons pe_int pa_nil))) (pa_cons pe_int (pa_cons pe_int (pa_cons (pe_op op_mod (pe_callTy cr_int (by rfl) Z.n_int (by decide +kernel) (pa_cons (pv 2) pa_nil)) pe_int) (pa_cons pe_int (pa_cons pe_int (pa_cons pe_int (pa_cons pe_int pa_nil)))))))))) (pss_cons (ps_set (i := 4) sc_law_begin.nd rfl (Or.inl rfl) (pe_disp (pps_cons pe_str (pe_lst (pa_cons (pe_op op_rep (pe_lst (pa_cons pe_int pa_nil)) (pv 1)) (pa_cons (pv 3) pa_nil))) pps_nil) (by rfl) (by rfl) (fun z => by cases z) (by decide))) (pss_one (ps_ret (pe_disp (pps_cons pe_str (pv 4) (pps_cons pe_str (pe_disp (pps_cons pe_str (pe_lst (pa_cons pe_int (pa_cons pe_non (pa_cons pe_non pa_nil)))) pps_nil) (by rfl) (by rfl) (fun z => by cases z) (by decide)) (pps_cons pe_str pe_int (pps_cons pe_str (pv 0) (pps_cons pe_str (pv 1) pps_nil))))) (by rfl) (by rfl) (fun z => by cases z) (by decide)))))), ?_⟩
    walk_at "go"
    refine ⟨m, 1, rfl, hm, fun z H1 z0 z1 e1 => ?_⟩
    walk_at "st"
    refine k_I (by decide) ?_
    walk_at "st"
    refine kLst.mk (by show 8 ≤ 1000; decide) fun an H2 e2 n2 g2 => ?_
    have hns : NoteOk kd m [z, 0, 0, c % 2, 0, 0, 0, 0] := ⟨z, 0, 0, c % 2, 0, 0, 0, 0, rfl, ⟨by omega, z1⟩, ⟨by decide, by omega⟩, ⟨by decide, by omega⟩, ⟨by omega, by have : pz z = 1 := if_pos (by omega); rw [this]; have := Int.emod_lt_of_pos c (show (0 : Int) < 2 by decide); omega⟩, by decide, ⟨by decide, by omega⟩, by decide, by decide⟩
    have g2 : H2 an = some (.lst ([z, 0, 0, c % 2, 0, 0, 0, 0].map V.int)) := g2
    generalize [z, 0, 0, c % 2, 0, 0, 0, 0] = ns at hns g2
    walk_at "st"
    refine k_disp fun ac H3 e3 n3 g3 => ?_
    refine k_pcons ?_
    walk_at "st"
    refine kLst.mk (by show 1 ≤ 1000; decide) fun w1 H4 e4 n4 g4 => ?_
    walk_at "st"
    refine ⟨w1, _, _, rfl, rfl, g4, by omega, by omega, by show 1 * kd ≤ 16777216; omega, fun wl hwl => ?_⟩
    have e5 : Le H4 (upd H4 wl (.lst (List.replicate ((kd : Nat) : Int).toNat [V.int 0]).flatten)) := Le.new hwl
    generalize upd H4 wl (.lst (List.replicate ((kd : Nat) : Int).toNat [V.int 0]).flatten) = H5 at e5
    walk_at "st"
    refine kLst.mk (by show 2 ≤ 1000; decide) fun al H6 e6 n6 g6 => ?_
    refine k_pnil ?_
    have e36 := (e4.trans e5).trans e6
    refine kDp.mk [(.inr "mint", .ref al)] rfl n3 (e3.trans e36) (e36.get g3) (by show 1 ≤ 15; decide) fun H7 x7 y7 g7 => ?_
    have g7 : H7 ac = some (.dK [(.inr "mint", .ref al)]) := g7
    have nal : al ≠ ac := ne_of g6 (e36.get g3) (fun z => by cases z)
    have g67 := y7.at g6 (fun z => (nal z).elim)
    have g27 := x7.lst g2
    walk_at "st"
    refine k_disp fun st H8 e8 n8 g8 => ?_
    refine k_pcons ?_
    walk_at "st"
    refine k_pcons ?_
    walk_at "st"
    refine k_disp fun ky H9 e9 n9 g9 => ?_
    refine k_pcons ?_
    walk_at "st"
    refine kLst.mk (by show 3 ≤ 1000; decide) fun kl H10 e10 n10 g10 => ?_
    refine k_pnil ?_
    refine kDp.mk [(.inr "mint", .ref kl)] rfl n9 (e9.trans e10) (e10.get g9) (by show 1 ≤ 15; decide) fun H11 x11 y11 g11 => ?_
    have g11 : H11 ky = some (.dK [(.inr "mint", .ref kl)]) := g11
    have nkl : kl ≠ ky := ne_of g10 (e10.get g9) (fun z => by cases z)
    have g1011 := y11.at g10 (fun z => (nkl z).elim)
    refine k_pcons ?_
    walk_at "st"
    refine k_pcons ?_
    walk_at "st"
    refine k_pcons ?_
    walk_at "st"
    refine k_pnil ?_
    refine kDp.mk (kvB ac ky m kd) rfl n8 (e8.trans x11) (x11.get g8) (by show 5 ≤ 15; decide) fun H12 x12 y12 g12 => ?_
    have g12 : H12 st = some (.dK (kvB ac ky m kd)) := g12
    have nky : ky ≠ st := fun z => by rw [z, g8] at n9; cases n9
    have nkl2 : kl ≠ st := ne_of g1011 (x11.get g8) (fun z => by cases z)
    have e07 := (e1.trans e2).trans x7
    have n0 : ∀ {a : Addr}, H7 a = none → H a = none := fun h => e07.dom _ h
    exact q st ac ky kl al wl an ns H12 (e07.trans x12) (n0 n8) (n0 (e8.dom _ n9)) (n0 (e8.dom _ (e9.dom _ n10))) g12 (x12.get g7) (x12.lst g67) (x12.lst g27) hns (y12.at g11 (fun z => (nky z).elim)) (y12.at g1011 (fun z => (nkl2 z).elim))
end G
end
section
set_option Elab.async false
set_option linter.all false
set_option maxRecDepth 100000
set_option maxHeartbeats 1000000
namespace G
open PySem PySem.Spec PyProof.Rows L2
local macro_rules | `(tactic| walk_at "st") => `(tactic| repeat (first
  | with_reducible refine k_seq ?_
  | with_reducible refine k_asg ?_
  | with_reducible refine k_gn ?_
  | with_reducible refine k_op ?_
  | ((with_reducible refine' k_var ?vh ?_); (case vh => rfl))
  | with_reducible refine k_c ?_
  | with_reducible refine k_cons ?_
  | with_reducible refine k_nil ?_
  | with_reducible refine k_I0 ?_
  | with_reducible refine k_ret ?_
  | with_reducible refine k_if ?_
  | with_reducible refine k_test ?_
  | with_reducible refine k_bl ?_
  | with_reducible refine k_cb ?_
  | with_reducible refine k_cl ?_
  | with_reducible refine k_int ?_
  | with_reducible refine k_tup ?_
  | with_reducible refine k_lst ?_
  | with_reducible refine k_fld ?_
  | with_reducible refine k_mt ?_
  | with_reducible refine k_for ?_
  | with_reducible refine k_iL ?_
  | with_reducible refine k_iT ?_
  | with_reducible refine k_iR1 ?_
  | with_reducible refine k_iS ?_
  | with_reducible refine k_par ?_
  | with_reducible refine k_ex2 ?_
  | with_reducible refine k_rfl2 ?_
  | with_reducible refine k_iZA ?_
  | with_reducible refine k_gcons ?_
  | with_reducible refine k_gnil ?_
  | with_reducible refine k_exI ?_
  | with_reducible refine k_bits ?_
  | with_reducible refine k_chain ?_
  | ((with_reducible refine' k_aug ?vh ?_); (case vh => rfl))
  | with_reducible refine k_ipI ?_
  | with_reducible refine k_inG ?_
  | with_reducible refine k_m1 ?_
  | with_reducible refine kM1.mk ?_
  | with_reducible refine k_yes ?_
  | with_reducible refine k_lc ?_
  | with_reducible refine k_andV ?_
  | with_reducible refine k_orV ?_
  | with_reducible refine k_tB ?_
  | with_reducible refine k_and ?_
  | with_reducible refine k_or ?_
  | with_reducible refine k_not ?_
  | with_reducible refine k_retN ?_
  | with_reducible refine k_next ?_
  | with_reducible refine k_fset ?_
  | with_reducible refine k_faug ?_
  | with_reducible refine k_sl ?_
  | with_reducible refine k_part ?_
  | with_reducible refine k_nopart ?_
  | with_reducible refine k_un ?_
  | with_reducible refine k_u1 ?_
  | with_reducible refine k_dget ?_
  | with_reducible refine k_din ?_
  | with_reducible refine k_dnin ?_
  | with_reducible refine k_dput ?_
  | with_reducible refine k_dget2 ?_
  | with_reducible refine k_bm ?_
  | with_reducible refine k_augs ?_
  | with_reducible refine k_gsub ?_
  | with_reducible refine k_enT ?_
  | with_reducible refine k_anyI ?_
  | with_reducible refine k_allI ?_
  | with_reducible refine k_lenX ?_
  | with_reducible refine k_sortX ?_
  | with_reducible refine k_drop ?_))
local macro_rules | `(tactic| walk_at "go") => `(tactic| ((try dsimp only [cxOf]); walk_at "st"))
local macro_rules | `(tactic| walk_at "len") => `(tactic| (simp only [List.length_append, List.length_map, List.length_cons, List.length_nil, List.length_replicate] at *; omega))

variable {P : Program} {w : World} {K : PySem.W.Frag} {mg : Str → Option Value} {base : Heap}
theorem le_of_nodup {α : Type} [DecidableEq α] : ∀ {l L : List α}, l.Nodup → (∀ x ∈ l, x ∈ L) → l.length ≤ L.length
  | [], _, _, _ => Nat.zero_le _
  | a :: l, L, nd, h => by
    obtain ⟨n1, n2⟩ := List.nodup_cons.mp nd
    have h1 := le_of_nodup (L := L.erase a) n2 (fun x hx => (List.mem_erase_of_ne (fun z => n1 (by rw [← z]; exact hx))).mpr (h x (List.mem_cons_of_mem _ hx)))
    have h2 := List.length_erase_of_mem (h a (List.mem_cons_self ..))
    have h3 := List.length_pos_of_mem (h a (List.mem_cons_self ..))
    rw [List.length_cons]
    omega
theorem lvs_le {kd : Nat} {t : Tree} (h : AcO kd (some t)) : t.lvs.length ≤ 8 := by
  obtain ⟨hw, ha⟩ := h t rfl
  have nd := hw.nodup
  have h1 : (t.lvs.map fun l => (l.n, l.k)).Nodup := by
    rw [List.nodup_iff_pairwise_ne, List.pairwise_map]
    exact nd.imp fun hab z => hab (congrArg Prod.snd z)
  have h2 := le_of_nodup (L := nmA) h1 (fun x hx => by
    obtain ⟨l, hl, rfl⟩ := List.mem_map.mp hx
    exact (ha l hl).nm)
  rw [List.length_map] at h2
  exact h2
theorem putK_mem {κ : Type} [DecidableEq κ] {kvs : List (κ × V)} {k : κ} {v : V} {p : κ × V} (h : p ∈ putK kvs k v) : p.1 = k ∨ ∃ q ∈ kvs, q.1 = p.1 := by
  unfold putK at h
  split at h
  · obtain ⟨q, hq, e⟩ := List.mem_map.mp h
    right
    refine ⟨q, hq, ?_⟩
    rw [← e]
    split <;> rfl
  · rcases List.mem_append.mp h with h | h
    · exact .inr ⟨p, h, rfl⟩
    · rw [List.mem_singleton.mp h]
      exact .inl rfl
theorem lvsO_le {kd : Nat} {o : Option Tree} (h : AcO kd o) : (lvsO o).length ≤ 8 := by
  cases o with
  | none => exact Nat.zero_le _
  | some t => exact lvs_le h
def NmK (akv : List (Key × V)) : Prop := ∀ p ∈ akv, ∃ n ∈ nmA, p.1 = .inr n.1
theorem NmK.put {akv : List (Key × V)} (h : NmK akv) {n : Str × Nat} (hn : n ∈ nmA) {v : V} : NmK (putK akv (.inr n.1) v) := fun p hp => by
  rcases putK_mem hp with e | ⟨q, hq, e⟩
  · exact ⟨n, hn, e⟩
  · obtain ⟨m, hm, em⟩ := h q hq
    exact ⟨m, hm, by rw [← e, em]⟩
def spSync (K : PySem.W.Frag) : Sp := fun vs H Q _ => ∃ (st : Addr) (kvs : List (Key × V)) (X : LdX) (o : Option Tree) (tv : V) (j : Str), vs = [.ref st, .ref X.l] ∧ H st = some (.dK kvs) ∧ kvs.length ≤ 900 ∧ H X.l = some (X.ins K tv j) ∧ Is K H tv (optD o) ∧ AcO X.kd o ∧
  ∀ (ac : Addr) (akv : List (Key × V)) (H' : Hp), Lx (fun a => a = st) H H' → H ac = none → H' st = some (.dK (putK kvs (.inr "accounts") (.ref ac))) → H' ac = some (.dK akv) → NmK akv → akv.length ≤ 8 → Q (.bl true) H'
theorem ok_law_sync (Z : Zed w K mg) : Fn P w K mg base CX0 51 (He.ga K "_law_sync") (spSync K) := by
  have O_Ledger_tree := ok_Ledger_tree (P := P) (base := base) Z
  have O_leaves_of := ok_leaves_of (P := P) (base := base) Z 49
  refine Fn.of0 (F_law_sync Z) sc_law_sync (fun _ _ _ _ _ _ us hl => match us, hl with | [_, _], _ => rfl) (fun vs H Q E h => ?_) (fun cdv A outer s H vs Q E hr h => ?_)
  · obtain ⟨st, kvs, X, o, tv, j, rfl, _⟩ := h
    rfl
  · obtain ⟨st, kvs, X, o, tv, j, rfl, hst, hkl, hl, hi, hac, q⟩ := h
    refine ⟨_, (pss_cons (ps_dput (hu_of hr) (pv 0) pe_str pe_dnewK rfl) (pss_cons (ps_for PassesOwn.never rfl (pi_list (pe_f O_leaves_of hr (by decide) Z.g_leaves_of pass0 (pa_cons (pe_m0 Z.c_Ledger Z.t_Ledger_tree O_Ledger_tree hr (by decide) pass0 (pv 1)) pa_nil))) (pg_name (i := 2) sc_law_sync.nd rfl (Or.inl rfl)) (pss_one (ps_dput (hu_of hr) (pe_dget (hu_of hr) (pv 0) pe_str (fun _ _ => rfl)) (pe_ix ix_tup (pv 2) pe_int (fun _ _ => rfl)) (pe_lst (pa_cons (pe_callTy cr_list (by rfl) Z.n_list (by decide +kernel) (pa_cons (pe_ix ix_tup (pv 2) pe_int (fun _ _ => rfl)) pa_nil)) (pa_cons (pe_callTy cr_list (by rfl) Z.n_list (by decide +kernel) (pa_cons (pe_ix ix_tup (pv 2) pe_int (fun _ _ => rfl)) pa_nil)) pa_nil))) rfl))) (pss_one (ps_ret pe_bl)))), ?_⟩
    walk_at "go"
    refine k_newK fun ac H1 e1 n1 g1 => ?_
    have s1 := e1.get hst
    walk_at "st"
    refine kDP.s s1 (by omega) ?_
    have x2 : Lx (fun a => a = st) H1 (upd H1 st (.dK (putK kvs (.inr "accounts") (.ref ac)))) := Lx.wr rfl s1 (fun z => z) (by intro ps z; cases z)
    have nas : ac ≠ st := fun z => by rw [z, hst] at n1; cases n1
    have nls : X.l ≠ st := fun z => by rw [z, hst] at hl; cases hl
    have x02 := (e1.of (S := fun a => a = st)).trans x2
    generalize hH2 : upd H1 st (.dK (putK kvs (.inr "accounts") (.ref ac))) = H2 at x2 x02
    have s2 : H2 st = some (.dK (putK kvs (.inr "accounts") (.ref ac))) := by rw [← hH2]; exact upd_same
    have a2 : H2 ac = some (.dK []) := by rw [← hH2, upd_ne nas]; exact g1
    have l2 := x02.at hl (fun z => (nls z).elim)
    walk_at "st"
    refine kMt.mk l2 (by kernel_rfl) ?_
    walk_at "st"
    refine ⟨X, tv, j, rfl, l2, ?_⟩
    walk_at "st"
    refine ⟨tv, o, rfl, by decide, hi.lx x02, hac.wfo, fun t h => dep_lt ((hac t h).1), fun r xs H3 e3 n3 g3 isl => ?_⟩
    have hxl : xs.length ≤ 8 := by rw [isl.length, List.length_map]; exact lvsO_le hac
    have vac : valV (putK kvs (.inr "accounts") (.ref ac)) (.inr "accounts") = some (.ref ac) := by rw [valV_put, if_pos rfl]
    walk_at "st"
    refine kIL.mk (SqL.of g3) (kFor.go (walk_list (xs := xs)) (fun i σ H' => Lx (fun a => a = ac) H3 H' ∧ (∃ akv, H' ac = some (.dK akv) ∧ NmK akv ∧ akv.length ≤ i) ∧ ∃ a, σ = [some (.ref st), some (.ref X.l), a]) ⟨Lx.refl, ⟨[], e3.get a2, fun p h => (nomatch h), Nat.le_refl 0⟩, _, rfl⟩ (fun i σ H' _ z => SqL.of (z.1.at g3 (fun h => by rw [h, a2] at n3; cases n3))) (fun i x σ H4 H5 hi5 z y => ?_) fun σ H4 z => ?_)
    · obtain ⟨x4, ⟨akv, g4, hnm, hal⟩, a, rfl⟩ := z
      obtain ⟨rfl, hx⟩ := y
      obtain ⟨L, _, hL, is⟩ := isl_map (isl.lx x4) hx
      have hA : AcL X.kd L := by
        cases o with
        | none => cases hL
        | some t => exact (hac t rfl).2 L hL
      obtain ⟨lp, q1, r1, rfl, t1, t2, t3⟩ := leaf_inv is
      walk_at "st"
      refine k_ixT t1 rfl ?_
      walk_at "st"
      refine k_listT t2 fun p6 H6 e6 n6 g6 => ?_
      walk_at "st"
      refine k_ixT (e6.sqt t1) rfl ?_
      walk_at "st"
      refine k_listT (e6.sqt t3) fun p7 H7 e7 n7 g7 => ?_
      walk_at "st"
      refine kLst.mk (by show 2 ≤ 1000; decide) fun p8 H8 e8 n8 g8 => ?_
      have e58 := (e6.trans e7).trans e8
      have s8 := e58.get (x4.at (e3.get s2) (fun h => (nas h.symm).elim))
      have g48 := e58.get g4
      walk_at "st"
      refine kDG.s s8 vac ?_
      walk_at "st"
      refine k_ixT (e58.sqt t1) rfl ?_
      walk_at "st"
      refine kDP.s g48 (by omega) ?_
      have lp2 := length_putK akv (.inr L.n) (.ref p8)
      walk_at "st"
      exact ⟨(x4.trans e58.of).trans (Lx.wr rfl g48 (fun z => z) (by intro ps z; cases z)), ⟨_, upd_same, hnm.put (n := (L.n, L.k)) hA.nm, by omega⟩, _, rfl⟩
    · obtain ⟨x4, ⟨akv, g4, hnm, hal⟩, a, rfl⟩ := z
      have e04 : Lx (fun a => a = st) H H4 := by
        have y3 := x02.trans e3.of
        exact ⟨fun b o hb hs ht => x4.keep b o (y3.keep b o hb hs ht) (fun z => by rw [z, n1] at hb; cases hb) ht, fun b h => x4.tab b (y3.tab b h), fun b h => y3.dom b (x4.dom b h)⟩
      walk_at "st"
      exact q ac akv H4 e04 n1 (x4.at (e3.get s2) (fun h => (nas h.symm).elim)) g4 hnm (by omega)
end G
end
section
set_option Elab.async false
set_option linter.all false
set_option maxRecDepth 100000
set_option maxHeartbeats 1000000
namespace G
open PySem PySem.Spec PyProof.Rows L2
local macro_rules | `(tactic| walk_at "st") => `(tactic| repeat (first
  | with_reducible refine k_seq ?_
  | with_reducible refine k_asg ?_
  | with_reducible refine k_gn ?_
  | with_reducible refine k_op ?_
  | ((with_reducible refine' k_var ?vh ?_); (case vh => rfl))
  | with_reducible refine k_c ?_
  | with_reducible refine k_cons ?_
  | with_reducible refine k_nil ?_
  | with_reducible refine k_I0 ?_
  | with_reducible refine k_ret ?_
  | with_reducible refine k_if ?_
  | with_reducible refine k_test ?_
  | with_reducible refine k_bl ?_
  | with_reducible refine k_cb ?_
  | with_reducible refine k_cl ?_
  | with_reducible refine k_int ?_
  | with_reducible refine k_tup ?_
  | with_reducible refine k_lst ?_
  | with_reducible refine k_fld ?_
  | with_reducible refine k_mt ?_
  | with_reducible refine k_for ?_
  | with_reducible refine k_iL ?_
  | with_reducible refine k_iT ?_
  | with_reducible refine k_iR1 ?_
  | with_reducible refine k_iS ?_
  | with_reducible refine k_par ?_
  | with_reducible refine k_ex2 ?_
  | with_reducible refine k_rfl2 ?_
  | with_reducible refine k_iZA ?_
  | with_reducible refine k_gcons ?_
  | with_reducible refine k_gnil ?_
  | with_reducible refine k_exI ?_
  | with_reducible refine k_bits ?_
  | with_reducible refine k_chain ?_
  | ((with_reducible refine' k_aug ?vh ?_); (case vh => rfl))
  | with_reducible refine k_ipI ?_
  | with_reducible refine k_inG ?_
  | with_reducible refine k_m1 ?_
  | with_reducible refine kM1.mk ?_
  | with_reducible refine k_yes ?_
  | with_reducible refine k_lc ?_
  | with_reducible refine k_andV ?_
  | with_reducible refine k_orV ?_
  | with_reducible refine k_tB ?_
  | with_reducible refine k_and ?_
  | with_reducible refine k_or ?_
  | with_reducible refine k_not ?_
  | with_reducible refine k_retN ?_
  | with_reducible refine k_next ?_
  | with_reducible refine k_fset ?_
  | with_reducible refine k_faug ?_
  | with_reducible refine k_sl ?_
  | with_reducible refine k_part ?_
  | with_reducible refine k_nopart ?_
  | with_reducible refine k_un ?_
  | with_reducible refine k_u1 ?_
  | with_reducible refine k_dget ?_
  | with_reducible refine k_din ?_
  | with_reducible refine k_dnin ?_
  | with_reducible refine k_dput ?_
  | with_reducible refine k_dget2 ?_
  | with_reducible refine k_bm ?_
  | with_reducible refine k_augs ?_
  | with_reducible refine k_gsub ?_
  | with_reducible refine k_enT ?_
  | with_reducible refine k_anyI ?_
  | with_reducible refine k_allI ?_
  | with_reducible refine k_lenX ?_
  | with_reducible refine k_sortX ?_
  | with_reducible refine k_drop ?_))
local macro_rules | `(tactic| walk_at "go") => `(tactic| ((try dsimp only [cxOf]); walk_at "st"))
local macro_rules | `(tactic| walk_at "len") => `(tactic| (simp only [List.length_append, List.length_map, List.length_cons, List.length_nil, List.length_replicate] at *; omega))

variable {P : Program} {w : World} {K : PySem.W.Frag} {mg : Str → Option Value} {base : Heap}
theorem valV_any {κ : Type} [DecidableEq κ] {k : κ} {u : V} : ∀ {kvs : List (κ × V)}, valV kvs k = some u → (kvs.any fun kv => decide (kv.1 = k)) = true
  | [], h => nomatch h
  | (j, v) :: r, h => by
    by_cases e : j = k
    · simp [e]
    · have h2 : valV r k = some u := by
        unfold valV at h ⊢
        simp only [List.find?_cons, e, decide_false] at h
        exact h
      have := valV_any h2
      simp only [List.any_cons, this, Bool.or_true]
theorem putK_len {κ : Type} [DecidableEq κ] {kvs : List (κ × V)} {k : κ} {u v : V} (h : valV kvs k = some u) : (putK kvs k v).length = kvs.length := by
  unfold putK
  rw [if_pos (valV_any h), List.length_map]
/-- the law's state: what stays but for next, and what a call adds -/
def StV (kvs kvs2 : List (Key × V)) (nx2 : Int) : Prop := kvs2.length = kvs.length ∧ ∀ k, valV kvs2 k = if k = .inr "next" then some (.int nx2) else valV kvs k
theorem StV.put {kvs kvs2 : List (Key × V)} {nx nx2 : Int} (h : StV kvs kvs2 nx) : StV kvs (putK kvs2 (.inr "next") (.int nx2)) nx2 := by
  have e : valV kvs2 (.inr "next") = some (.int nx) := by rw [h.2, if_pos rfl]
  refine ⟨(putK_len e).trans h.1, fun k => ?_⟩
  rw [valV_put]
  by_cases q : k = .inr "next"
  · rw [if_pos q, if_pos q]
  · rw [if_neg q, if_neg q, h.2, if_neg q]
theorem StV.refl {kvs : List (Key × V)} {nx : Int} (h : valV kvs (.inr "next") = some (.int nx)) : StV kvs kvs nx := ⟨rfl, fun k => by
  by_cases q : k = .inr "next"
  · rw [if_pos q, q, h]
  · rw [if_neg q]⟩
theorem StV.nx {kvs kvs2 : List (Key × V)} {nx : Int} (h : StV kvs kvs2 nx) : valV kvs2 (.inr "next") = some (.int nx) := by rw [h.2, if_pos rfl]
theorem StV.of {kvs kvs2 : List (Key × V)} {nx : Int} (h : StV kvs kvs2 nx) {z : Str} {v : V} (e : valV kvs (.inr z) = some v) (n : z ≠ "next") : valV kvs2 (.inr z) = some v := by
  rw [h.2, if_neg (fun q => n (Sum.inr.inj q)), e]
/-- a list of three keys -/
def KyL (b : Int) (xs : List V) : Prop := xs.length = 3 ∧ ∀ x ∈ xs, x = .non ∨ ∃ t : Int, x = .int t ∧ 0 ≤ t ∧ t ≤ b
theorem KyL.mono {b c : Int} {xs : List V} (h : KyL b xs) (hb : b ≤ c) : KyL c xs := ⟨h.1, fun x hx => (h.2 x hx).imp id fun ⟨t, a, b1, c1⟩ => ⟨t, a, b1, by omega⟩⟩
end G
end
section
set_option Elab.async false
set_option linter.all false
set_option maxRecDepth 100000
set_option maxHeartbeats 1000000
namespace G
open PySem PySem.Spec PyProof.Rows L2
local macro_rules | `(tactic| walk_at "st") => `(tactic| repeat (first
  | with_reducible refine k_seq ?_
  | with_reducible refine k_asg ?_
  | with_reducible refine k_gn ?_
  | with_reducible refine k_op ?_
  | ((with_reducible refine' k_var ?vh ?_); (case vh => rfl))
  | with_reducible refine k_c ?_
  | with_reducible refine k_cons ?_
  | with_reducible refine k_nil ?_
  | with_reducible refine k_I0 ?_
  | with_reducible refine k_ret ?_
  | with_reducible refine k_if ?_
  | with_reducible refine k_test ?_
  | with_reducible refine k_bl ?_
  | with_reducible refine k_cb ?_
  | with_reducible refine k_cl ?_
  | with_reducible refine k_int ?_
  | with_reducible refine k_tup ?_
  | with_reducible refine k_lst ?_
  | with_reducible refine k_fld ?_
  | with_reducible refine k_mt ?_
  | with_reducible refine k_for ?_
  | with_reducible refine k_iL ?_
  | with_reducible refine k_iT ?_
  | with_reducible refine k_iR1 ?_
  | with_reducible refine k_iS ?_
  | with_reducible refine k_par ?_
  | with_reducible refine k_ex2 ?_
  | with_reducible refine k_rfl2 ?_
  | with_reducible refine k_iZA ?_
  | with_reducible refine k_gcons ?_
  | with_reducible refine k_gnil ?_
  | with_reducible refine k_exI ?_
  | with_reducible refine k_bits ?_
  | with_reducible refine k_chain ?_
  | ((with_reducible refine' k_aug ?vh ?_); (case vh => rfl))
  | with_reducible refine k_ipI ?_
  | with_reducible refine k_inG ?_
  | with_reducible refine k_m1 ?_
  | with_reducible refine kM1.mk ?_
  | with_reducible refine k_yes ?_
  | with_reducible refine k_lc ?_
  | with_reducible refine k_andV ?_
  | with_reducible refine k_orV ?_
  | with_reducible refine k_tB ?_
  | with_reducible refine k_and ?_
  | with_reducible refine k_or ?_
  | with_reducible refine k_not ?_
  | with_reducible refine k_retN ?_
  | with_reducible refine k_next ?_
  | with_reducible refine k_fset ?_
  | with_reducible refine k_faug ?_
  | with_reducible refine k_sl ?_
  | with_reducible refine k_part ?_
  | with_reducible refine k_nopart ?_
  | with_reducible refine k_un ?_
  | with_reducible refine k_u1 ?_
  | with_reducible refine k_dget ?_
  | with_reducible refine k_din ?_
  | with_reducible refine k_dnin ?_
  | with_reducible refine k_dput ?_
  | with_reducible refine k_dget2 ?_
  | with_reducible refine k_bm ?_
  | with_reducible refine k_augs ?_
  | with_reducible refine k_gsub ?_
  | with_reducible refine k_enT ?_
  | with_reducible refine k_anyI ?_
  | with_reducible refine k_allI ?_
  | with_reducible refine k_lenX ?_
  | with_reducible refine k_sortX ?_
  | with_reducible refine k_drop ?_))
local macro_rules | `(tactic| walk_at "go") => `(tactic| ((try dsimp only [cxOf]); walk_at "st"))
local macro_rules | `(tactic| walk_at "len") => `(tactic| (simp only [List.length_append, List.length_map, List.length_cons, List.length_nil, List.length_replicate] at *; omega))

variable {P : Program} {w : World} {K : PySem.W.Frag} {mg : Str → Option Value} {base : Heap}
/-- keys and their locks, the first i -/
def KLs (m b : Int) (i : Nat) (xs : List V) (ls : List Int) : Prop := xs.length = 3 ∧ ls.length = i ∧ (∀ j, i ≤ j → j < 3 → xs[j]? = some .non) ∧
  ∀ j, j < i → (xs[j]? = some .non ∧ ls[j]? = some 0) ∨ ∃ t l : Int, xs[j]? = some (.int t) ∧ (0 ≤ t ∧ t ≤ b) ∧ ls[j]? = some l ∧ 1 ≤ l ∧ l ≤ m
theorem KLs.none {m b : Int} {i : Nat} {xs : List V} {ls : List Int} (h : KLs m b i xs ls) (hi : i < 3) : KLs m b (i + 1) xs (ls ++ [0]) := by
  obtain ⟨h1, h2, h3, h4⟩ := h
  refine ⟨h1, by rw [List.length_append, h2]; rfl, fun j a c => h3 j (by omega) c, fun j hj => ?_⟩
  by_cases e : j = i
  · subst e
    exact .inl ⟨h3 j (Nat.le_refl _) hi, by rw [List.getElem?_append_right (by omega), h2, Nat.sub_self]; rfl⟩
  · have hj2 : j < i := by omega
    rw [List.getElem?_append_left (by omega)]
    exact h4 j hj2
theorem KLs.some_ {m b c : Int} {i : Nat} {xs : List V} {ls : List Int} (h : KLs m b i xs ls) (hi : i < 3) {t l : Int} (ht : 0 ≤ t ∧ t ≤ c) (hb : b ≤ c) (hl : 1 ≤ l ∧ l ≤ m) : KLs m c (i + 1) (xs.set i (.int t)) (ls ++ [l]) := by
  obtain ⟨h1, h2, h3, h4⟩ := h
  refine ⟨by rw [List.length_set, h1], by rw [List.length_append, h2]; rfl, fun j a d => by rw [List.getElem?_set_ne (by omega)]; exact h3 j (by omega) d, fun j hj => ?_⟩
  by_cases e : j = i
  · subst e
    exact .inr ⟨t, l, by rw [List.getElem?_set_self (by omega)], ht, by rw [List.getElem?_append_right (by omega), h2, Nat.sub_self]; rfl, hl⟩
  · have hj2 : j < i := by omega
    rw [List.getElem?_append_left (by omega), List.getElem?_set_ne (fun z => e z.symm)]
    rcases h4 j hj2 with a | ⟨t2, l2, a, ⟨b1, b2⟩, d⟩
    · exact .inl a
    · exact .inr ⟨t2, l2, a, ⟨b1, by omega⟩, d⟩
theorem KLs.fin {m b : Int} {xs : List V} {ls : List Int} (h1 : xs.length = 3) (h2 : ls.length = 3) (h4 : ∀ j, j < 3 → (xs[j]? = some .non ∧ ls[j]? = some 0) ∨ ∃ t l : Int, xs[j]? = some (.int t) ∧ (0 ≤ t ∧ t ≤ b) ∧ ls[j]? = some l ∧ 1 ≤ l ∧ l ≤ m) :
    ∃ l0 l1 l2, ls = [l0, l1, l2] ∧ (0 ≤ l0 ∧ (l0 ≤ m ∨ l0 = 0)) ∧ (0 ≤ l1 ∧ (l1 ≤ m ∨ l1 = 0)) ∧ (0 ≤ l2 ∧ (l2 ≤ m ∨ l2 = 0)) ∧ KyL b xs ∧ ((xs.take 3).filter fun x => !decide (x = .non)).length = pz l0 + pz l1 + pz l2 := by
  have one : ∀ (x : V) (l : Int), ((x = .non ∧ l = 0) ∨ ∃ t, x = .int t ∧ (0 ≤ t ∧ t ≤ b) ∧ 1 ≤ l ∧ l ≤ m) → (0 ≤ l ∧ (l ≤ m ∨ l = 0)) ∧ (x = .non ∨ ∃ t : Int, x = .int t ∧ 0 ≤ t ∧ t ≤ b) ∧ (if (!decide (x = .non)) = true then 1 else 0) = pz l := by
    intro x l h
    rcases h with ⟨rfl, rfl⟩ | ⟨t, rfl, ⟨a, c⟩, d, e⟩
    · exact ⟨⟨by omega, .inr rfl⟩, .inl rfl, rfl⟩
    · refine ⟨⟨by omega, .inl e⟩, .inr ⟨t, rfl, a, c⟩, ?_⟩
      show _ = (if l > 0 then 1 else 0)
      rw [if_pos (show l > 0 by omega)]
      rfl
  match xs, ls, h1, h2 with
  | [x0, x1, x2], [l0, l1, l2], _, _ =>
    have w0 := one x0 l0 (by
      rcases h4 0 (by decide) with ⟨a, c⟩ | ⟨t, l, a, c, d, e⟩
      · exact .inl ⟨by simpa using a, by simpa using c⟩
      · have ed : l0 = l := by simpa using d
        exact .inr ⟨t, by simpa using a, c, by rw [ed]; exact e⟩)
    have w1 := one x1 l1 (by
      rcases h4 1 (by decide) with ⟨a, c⟩ | ⟨t, l, a, c, d, e⟩
      · exact .inl ⟨by simpa using a, by simpa using c⟩
      · have ed : l1 = l := by simpa using d
        exact .inr ⟨t, by simpa using a, c, by rw [ed]; exact e⟩)
    have w2 := one x2 l2 (by
      rcases h4 2 (by decide) with ⟨a, c⟩ | ⟨t, l, a, c, d, e⟩
      · exact .inl ⟨by simpa using a, by simpa using c⟩
      · have ed : l2 = l := by simpa using d
        exact .inr ⟨t, by simpa using a, c, by rw [ed]; exact e⟩)
    refine ⟨l0, l1, l2, rfl, w0.1, w1.1, w2.1, ⟨rfl, fun x hx => ?_⟩, ?_⟩
    · rcases hx with _ | ⟨_, _ | ⟨_, _ | ⟨_, hx⟩⟩⟩
      · exact w0.2.1
      · exact w1.2.1
      · exact w2.2.1
      · cases hx
    · show (List.filter _ [x0, x1, x2]).length = _
      rw [← w0.2.2, ← w1.2.2, ← w2.2.2]
      by_cases a : x0 = .non <;> by_cases c : x1 = .non <;> by_cases d : x2 = .non <;> simp [a, c, d]
end G
end
section
set_option Elab.async false
set_option linter.all false
set_option maxRecDepth 100000
set_option maxHeartbeats 1000000
namespace G
open PySem PySem.Spec PyProof.Rows L2
local macro_rules | `(tactic| walk_at "st") => `(tactic| repeat (first
  | with_reducible refine k_seq ?_
  | with_reducible refine k_asg ?_
  | with_reducible refine k_gn ?_
  | with_reducible refine k_op ?_
  | ((with_reducible refine' k_var ?vh ?_); (case vh => rfl))
  | with_reducible refine k_c ?_
  | with_reducible refine k_cons ?_
  | with_reducible refine k_nil ?_
  | with_reducible refine k_I0 ?_
  | with_reducible refine k_ret ?_
  | with_reducible refine k_if ?_
  | with_reducible refine k_test ?_
  | with_reducible refine k_bl ?_
  | with_reducible refine k_cb ?_
  | with_reducible refine k_cl ?_
  | with_reducible refine k_int ?_
  | with_reducible refine k_tup ?_
  | with_reducible refine k_lst ?_
  | with_reducible refine k_fld ?_
  | with_reducible refine k_mt ?_
  | with_reducible refine k_for ?_
  | with_reducible refine k_iL ?_
  | with_reducible refine k_iT ?_
  | with_reducible refine k_iR1 ?_
  | with_reducible refine k_iS ?_
  | with_reducible refine k_par ?_
  | with_reducible refine k_ex2 ?_
  | with_reducible refine k_rfl2 ?_
  | with_reducible refine k_iZA ?_
  | with_reducible refine k_gcons ?_
  | with_reducible refine k_gnil ?_
  | with_reducible refine k_exI ?_
  | with_reducible refine k_bits ?_
  | with_reducible refine k_chain ?_
  | ((with_reducible refine' k_aug ?vh ?_); (case vh => rfl))
  | with_reducible refine k_ipI ?_
  | with_reducible refine k_inG ?_
  | with_reducible refine k_m1 ?_
  | with_reducible refine kM1.mk ?_
  | with_reducible refine k_yes ?_
  | with_reducible refine k_lc ?_
  | with_reducible refine k_andV ?_
  | with_reducible refine k_orV ?_
  | with_reducible refine k_tB ?_
  | with_reducible refine k_and ?_
  | with_reducible refine k_or ?_
  | with_reducible refine k_not ?_
  | with_reducible refine k_retN ?_
  | with_reducible refine k_next ?_
  | with_reducible refine k_fset ?_
  | with_reducible refine k_faug ?_
  | with_reducible refine k_sl ?_
  | with_reducible refine k_part ?_
  | with_reducible refine k_nopart ?_
  | with_reducible refine k_un ?_
  | with_reducible refine k_u1 ?_
  | with_reducible refine k_dget ?_
  | with_reducible refine k_din ?_
  | with_reducible refine k_dnin ?_
  | with_reducible refine k_dput ?_
  | with_reducible refine k_dget2 ?_
  | with_reducible refine k_bm ?_
  | with_reducible refine k_augs ?_
  | with_reducible refine k_gsub ?_
  | with_reducible refine k_enT ?_
  | with_reducible refine k_anyI ?_
  | with_reducible refine k_allI ?_
  | with_reducible refine k_lenX ?_
  | with_reducible refine k_sortX ?_
  | with_reducible refine k_drop ?_))
local macro_rules | `(tactic| walk_at "go") => `(tactic| ((try dsimp only [cxOf]); walk_at "st"))
local macro_rules | `(tactic| walk_at "len") => `(tactic| (simp only [List.length_append, List.length_map, List.length_cons, List.length_nil, List.length_replicate] at *; omega))

variable {P : Program} {w : World} {K : PySem.W.Frag} {mg : Str → Option Value} {base : Heap}
def spLNotes (K : PySem.W.Frag) : Sp := fun vs H Q _ => ∃ (st rp : Addr) (nm : Str) (kvs : List (Key × V)) (nx m a0 a1 a2 a3 : Int) (kd : Nat) (rest : List V), vs = [.ref st, .ref rp, .str nm] ∧ H st = some (.dK kvs) ∧ kvs.length ≤ 900 ∧ valV kvs (.inr "next") = some (.int nx) ∧ valV kvs (.inr "modulus") = some (.int m) ∧
  valV kvs (.inr "kinds") = some (.int (kd : Nat)) ∧ MdO m ∧ (1 ≤ kd ∧ kd ≤ 3) ∧ (0 ≤ nx ∧ nx ≤ 100000) ∧ H rp = some (.lst (.int a0 :: .int a1 :: .int a2 :: .int a3 :: rest)) ∧ (0 ≤ a0 ∧ a0 ≤ 999) ∧ (0 ≤ a1 ∧ a1 ≤ 999) ∧ (0 ≤ a2 ∧ a2 ≤ 999) ∧ (0 ≤ a3 ∧ a3 ≤ 999) ∧
  ∀ (v : V) (ls : List Int) (fr kl : Addr) (xs : List V) (kvs2 : List (Key × V)) (nx2 : Int) (H' : Hp), Lx (fun a => a = st) H H' → Is K H' v (dI ls) → NoteOk kd m ls → StV kvs kvs2 nx2 → nx ≤ nx2 ∧ nx2 ≤ nx + 3 → H' st = some (.dK (putK kvs2 (.inr "fresh") (.ref fr))) → SqT K H' fr [.str nm, .ref kl] →
    H kl = none → H' kl = some (.lst xs) → KyL nx2 xs → Q v H'
theorem ok_law_notes (Z : Zed w K mg) : Fn P w K mg base CX0 3 (He.ga K "_law_notes") (spLNotes K) := by
  have O_law_lock := ok_law_lock (P := P) (base := base) Z
  refine Fn.of0 (F_law_notes Z) sc_law_notes (fun _ _ _ _ _ _ us hl => match us, hl with | [_, _, _], _ => rfl) (fun vs H Q E h => ?_) (fun cdv A outer s H vs Q E hr h => ?_)
  · obtain ⟨st, rp, nm, kvs, nx, m, a0, a1, a2, a3, kd, rest, rfl, _⟩ := h
    rfl
  · obtain ⟨st, rp, nm, kvs, nx, m, a0, a1, a2, a3, kd, rest, rfl, hst, hkl, v1, v2, v3, hm, ⟨hk1, hk3⟩, ⟨n0, n9⟩, hrp, ⟨p0, p1⟩, ⟨q0, q1⟩, ⟨r0, r1⟩, ⟨s0, s1⟩, q⟩ := h
    refine ⟨_, (pss_cons (ps_set (i := 3) sc_law_notes.nd rfl (Or.inl rfl) (pe_lst (pa_cons pe_non (pa_cons pe_non (pa_cons pe_non pa_nil))))) (pss_cons (ps_set (i := 4) sc_law_notes.nd rfl (Or.inl rfl) (pe_lst pa_nil)) (pss_cons (ps_for PassesOwn.never rfl (pi_range1 (by rfl) Z.n_range (pa_cons pe_int pa_nil)) (pg_name (i := 5) sc_law_notes.nd rfl (Or.inl rfl)) (pss_one (ps_if (pt_cmpR op_ne (pe_op op_mod (pe_op op_fdiv (pe_ix ix_list (pv 1) pe_int (fun _ _ => rfl)) (pe_op op_add pe_int (pv 5))) pe_int) pe_int (nomark _)) (pss_cons (ps_asg (pe_dget (hu_of hr) (pv 0) pe_str (fun _ _ => rfl)) (pg_sub (pv 3) (pv 5) set_list)) (pss_cons (ps_dput (hu_of hr) (pv 0) pe_str (pe_op op_add (pe_dget (hu_of hr) (pv 0) pe_str (fun _ _ => rfl)) pe_int) rfl) (pss_one (ps_expr (pe_bm PySem.F.plainAttrs_list PySem.F.slot_list_append PySem.F.type_list_append mt_append (pv 4) (pa_cons (pe_f O_law_lock hr (by decide) Z.g__law_lock pass0 (pa_cons (pe_dget (hu_of hr) (pv 0) pe_str (fun _ _ => rfl)) (pa_cons (pe_ix ix_list (pv 3) (pv 5) (fun _ _ => rfl)) pa_nil))) pa_nil)))))) (pss_one (ps_expr (pe_bm PySem.F.plainAttrs_list PySem.F.slot_list_append PySem.F.type_list_append mt_append (pv 4) (pa_cons pe_int pa_nil))))))) (pss_cons (ps_set (i := 6) sc_law_notes.nd rfl (Or.inl rfl) (pe_callB cr_len (by rfl) Z.n_len PySem.boot_len (pa_cons (pe_lc (own := [("_law_key", 9)]) rfl sc_law_notes.nd (pi_list (pv 3)) (blkOk_by (own := [("_law_key", 9)]) (N := ["_law_state", "_law_row", "_law_name", "_law_keys", "_law_notes_here", "_law_place", "_law_count", "_law_limit", "_law_hold", "_law_key"]) (sc := defScope s_law_notes) (by decide +kernel)) (fun _ _ _ _ _ => (pg_name (i := 9) sc_law_notes.nd rfl (Or.inl rfl))) (fun _ _ _ _ _ => (pts_one (pt_cmpR op_notN (pv 9) pe_non (nomark _)))) (fun _ _ _ _ _ => (pv 9))) pa_nil))) (pss_cons (ps_set (i := 7) sc_law_notes.nd rfl (Or.inl rfl) (pe_ix ix_list (pe_lst (pa_cons pe_int (pa_cons pe_int (pa_cons pe_int (pa_cons (pe_op op_add pe_int (pe_op op_mod (pe_ix ix_list (pv 1) pe_int (fun _ _ => rfl)) pe_int)) pa_nil))))) (pe_op op_mod (pe_callTy cr_int (by rfl) Z.n_int (by decide +kernel) (pa_cons (pe_op op_fdiv (pe_ix ix_list (pv 1) pe_int (fun _ _ => rfl)) pe_int) pa_nil)) pe_int) (fun _ _ => rfl))) (pss_cons (ps_set (i := 8) sc_law_notes.nd rfl (Or.inl rfl) (pe_ix ix_list (pe_lst (pa_cons pe_int (pa_cons pe_int (pa_cons (pe_op op_add pe_int (pe_op op_mod (pe_ix ix_list (pv 1) pe_int (fun _ _ => rfl)) pe_int)) pa_nil)))) (pe_op op_mod (pe_callTy cr_int (by rfl) Z.n_int (by decide +kernel) (pa_cons (pe_op op_fdiv (pe_ix ix_list (pv 1) pe_int (fun _ _ => rfl)) pe_int) pa_nil)) pe_int) (fun _ _ => rfl))) (pss_cons (ps_set (i := 4) sc_law_notes.nd rfl (Or.inl rfl) (pe_op op_cat (pv 4) (pe_lst (pa_cons (pe_op op_mod (pe_callTy cr_int (by rfl) Z.n_int (by decide +kernel) (pa_cons (pe_ix ix_list (pv 1) pe_int (fun _ _ => rfl)) pa_nil)) (pe_op op_add (pv 6) pe_int)) (pa_cons (pv 7) (pa_cons (pe_op op_mod (pe_callTy cr_int (by rfl) Z.n_int (by decide +kernel) (pa_cons (pe_op op_fdiv (pe_ix ix_list (pv 1) pe_int (fun _ _ => rfl)) pe_int) pa_nil)) (pe_dget (hu_of hr) (pv 0) pe_str (fun _ _ => rfl))) (pa_cons (pv 8) (pa_cons (pe_op op_mod (pe_callTy cr_int (by rfl) Z.n_int (by decide +kernel) (pa_cons (pe_op op_fdiv (pe_ix ix_list (pv 1) pe_int (fun _ _ => rfl)) pe_int) pa_nil)) pe_int) pa_nil)))))))) (pss_cons (ps_dput (hu_of hr) (pv 0) pe_str (pe_tup (pa_cons (pv 2) (pa_cons (pv 3) pa_nil))) rfl) (pss_one (ps_ret (pe_callTy cr_tuple (by rfl) Z.n_tuple (by decide +kernel) (pa_cons (pv 4) pa_nil)))))))))))), ?_⟩
    walk_at "go"
    refine kLst.mk (by show 3 ≤ 1000; decide) fun kl H1 e1 nk1 g1 => ?_
    walk_at "st"
    refine kLst.mk (by show 0 ≤ 1000; decide) fun nl H2 e2 nl2 g2 => ?_
    walk_at "st"
    have nks : kl ≠ st := fun z => by rw [z, hst] at nk1; cases nk1
    have nls : nl ≠ st := fun z => by rw [z, e1.get hst] at nl2; cases nl2
    have nkn : kl ≠ nl := fun z => by rw [z] at g1; rw [g1] at nl2; cases nl2
    have nrs : rp ≠ st := fun z => by rw [z, hst] at hrp; cases hrp
    have nrk : rp ≠ kl := fun z => by rw [← z, hrp] at nk1; cases nk1
    have nrn : rp ≠ nl := fun z => by rw [← z, e1.get hrp] at nl2; cases nl2
    have nl0 : H nl = none := e1.dom nl nl2
    refine kR1.mk 3 rfl (by decide) (kFor.rng (Pv := fun i σ H' => Lx (fun a => a = st) H H' ∧ ∃ (nx2 : Int) (kvs2 : List (Key × V)) (xs : List V) (ls : List Int) (a : Option V), StV kvs kvs2 nx2 ∧ (nx ≤ nx2 ∧ nx2 ≤ nx + i) ∧ H' st = some (.dK kvs2) ∧ H' kl = some (.lst xs) ∧ H' nl = some (.lst (ls.map V.int)) ∧ H' rp = some (.lst (.int a0 :: .int a1 :: .int a2 :: .int a3 :: rest)) ∧ KLs m nx2 i xs ls ∧
      σ = [some (.ref st), some (.ref rp), some (.str nm), some (.ref kl), some (.ref nl), a, none, none, none, none]) 3 ⟨(e1.trans e2).of, nx, kvs, [.non, .non, .non], [], _, StV.refl v1, ⟨by omega, by omega⟩, e2.get (e1.get hst), e2.lst g1, g2, e2.get (e1.get hrp), ⟨rfl, rfl, fun j _ hj => by (rcases j with _ | _ | _ | j) <;> first | rfl | omega, fun j hj => absurd hj (Nat.not_lt_zero j)⟩, rfl⟩ (fun i σ H3 hi z => ?_) fun σ H3 z => ?_)
    · obtain ⟨x3, nx2, kvs2, xs, ls, a, hv, ⟨b0, b1⟩, s3, g3k, g3n, g3r, hL, rfl⟩ := z
      walk_at "st"
      refine k_ixL (SqL.of g3r) at0 ?_
      walk_at "st"
      refine k_I ⟨by omega, by omega⟩ ?_
      walk_at "st"
      refine k_I (by decide) ?_
      walk_at "st"
      refine k_ne rfl ?_
      walk_at "st"
      refine k_if2 (fun _ => ?_) (fun _ => ?_)
      · walk_at "st"
        refine kDG.s s3 hv.nx ?_
        walk_at "st"
        refine k_setL g3k (by rw [hL.1]; exact hi) ?_
        have x4 := x3.own (o := .lst (xs.set i (.int nx2))) nk1 (by rw [g3k]; exact fun z => nomatch z)
        have s4 : upd H3 kl (.lst (xs.set i (.int nx2))) st = some (.dK kvs2) := by rw [upd_ne nks.symm]; exact s3
        have k4 : upd H3 kl (.lst (xs.set i (.int nx2))) kl = some (.lst (xs.set i (.int nx2))) := upd_same
        have g4n : upd H3 kl (.lst (xs.set i (.int nx2))) nl = some (.lst (ls.map V.int)) := by rw [upd_ne nkn.symm]; exact g3n
        have g4r : upd H3 kl (.lst (xs.set i (.int nx2))) rp = some (.lst (.int a0 :: .int a1 :: .int a2 :: .int a3 :: rest)) := by rw [upd_ne nrk]; exact g3r
        generalize upd H3 kl (.lst (xs.set i (.int nx2))) = H4 at x4 s4 k4 g4n g4r
        walk_at "st"
        refine kDG.s s4 hv.nx ?_
        walk_at "st"
        refine kDP.s s4 (by have := hv.1; omega) ?_
        have hv5 := hv.put (nx2 := nx2 + 1)
        have w5 : Lx (fun a => a = st) H4 (upd H4 st (.dK (putK kvs2 (.inr "next") (.int (nx2 + 1))))) := Lx.wr rfl s4 (fun z => z) (by intro ps z; cases z)
        have s5 : upd H4 st (.dK (putK kvs2 (.inr "next") (.int (nx2 + 1)))) st = some (.dK (putK kvs2 (.inr "next") (.int (nx2 + 1)))) := upd_same
        generalize upd H4 st (.dK (putK kvs2 (.inr "next") (.int (nx2 + 1)))) = H5 at w5 s5
        have k5 := w5.at k4 (fun z => (nks z).elim)
        have n5 := w5.at g4n (fun z => (nls z).elim)
        have r5 := w5.at g4r (fun z => (nrs z).elim)
        walk_at "st"
        refine kBM.app n5 ?_
        walk_at "st"
        refine kDG.s s5 (hv5.of v2 (by decide +kernel)) ?_
        walk_at "st"
        refine k_ixL (SqL.of k5) (atI_nat (j := i) (by rw [List.getElem?_set_self (by rw [hL.1]; exact hi)])) ?_
        walk_at "st"
        refine ⟨m, nx2, rfl, hm, fun l H6 l0 l1 e6 => ?_⟩
        walk_at "st"
        refine k_app (e6.lst n5) (by rw [List.length_map, hL.2.1]; omega) ?_
        walk_at "st"
        refine ⟨((x4.trans w5).trans e6.of).own nl0 (by rw [e6.lst n5]; exact fun z => nomatch z), nx2 + 1, _, xs.set i (.int nx2), ls ++ [l], _, hv5, ⟨by omega, by omega⟩, by rw [upd_ne nls.symm]; exact e6.get s5, by rw [upd_ne nkn]; exact e6.lst k5, by rw [upd_same, List.map_append]; rfl, by rw [upd_ne nrn]; exact e6.lst r5, hL.some_ hi ⟨by omega, by omega⟩ (by omega) ⟨l0, l1⟩, rfl⟩
      · walk_at "st"
        refine kBM.app g3n ?_
        walk_at "st"
        refine k_app g3n (by rw [List.length_map, hL.2.1]; omega) ?_
        walk_at "st"
        refine ⟨x3.own nl0 (by rw [g3n]; exact fun z => nomatch z), nx2, kvs2, xs, ls ++ [0], _, hv, ⟨b0, by omega⟩, by rw [upd_ne nls.symm]; exact s3, by rw [upd_ne nkn]; exact g3k, by rw [upd_same, List.map_append]; rfl, by rw [upd_ne nrn]; exact g3r, hL.none hi, rfl⟩
    · obtain ⟨x3, nx2, kvs2, xs, ls, a, hv, ⟨b0, b1⟩, s3, g3k, g3n, g3r, ⟨lx, ll, _, hL⟩, rfl⟩ := z
      walk_at "st"
      refine kIL.mk (SqL.of g3k) (kLc.go (walk_list (xs := xs)) (by rw [lx]; decide) (fun i acc _ => acc.length = ((xs.take i).filter fun x => !decide (x = .non)).length) (fun _ _ _ _ _ _ z => z) rfl (fun _ e => e.sql (SqL.of g3k)) (fun E Nx i acc x H4 H5 hi e4 hp y fin nofin => ?_) fun p4 acc H4 e4 n4 g4 _ hp => ?_)
      · obtain ⟨rfl, hx⟩ := y
        have hstep : ∀ k : Nat, k = acc.length + (if x = .non then 0 else 1) → k = ((xs.take (i + 1)).filter fun x => !decide (x = .non)).length := by
          intro k hk
          rw [List.take_add_one, hx, List.filter_append, List.length_append, ← hp, hk]
          by_cases c : x = .non <;> simp [c]
        walk_at "st"
        refine ⟨rfl, ?_⟩
        walk_at "st"
        refine k_if2 (fun c => ?_) (fun c => ?_)
        · walk_at "st"
          refine fin _ _ Lx.refl (hstep _ ?_)
          rw [List.length_append, List.length_singleton, if_neg (by simpa using c)]
        · refine nofin _ Lx.refl (hstep _ ?_)
          rw [if_pos (by simpa using c), Nat.add_zero]
      · obtain ⟨l0, l1, l2, rfl, c0, c1, c2, hK, hc⟩ := KLs.fin lx ll hL
        rw [lx, hc] at hp
        have g4r := e4.lst g3r
        have s4 := e4.get s3
        have k4 := e4.lst g3k
        have n4l := e4.lst g3n
        walk_at "st"
        refine k_lenL (SqL.of g4) ?_
        walk_at "st"
        rw [hp]
        walk_at "st"
        refine k_ixL (SqL.of g4r) at1 ?_
        walk_at "st"
        refine k_I (by decide) ?_
        walk_at "st"
        refine kLst.mk (by show 4 ≤ 1000; decide) fun p5 H5 e5 n5 g5 => ?_
        walk_at "st"
        refine k_ixL (SqL.of (e5.lst g4r)) at1 ?_
        walk_at "st"
        refine k_I ⟨by decide, by decide⟩ ?_
        walk_at "st"
        refine k_I (by decide) ?_
        walk_at "st"
        obtain ⟨li, hli, li0, li9⟩ : ∃ li : Int, atI [V.int 0, V.int 0, V.int 0, V.int (1 + a1 % 90)] (a1 / 90 % 4) = some (.int li) ∧ 0 ≤ li ∧ li ≤ 1000 := by
          have : a1 / 90 % 4 = 0 ∨ a1 / 90 % 4 = 1 ∨ a1 / 90 % 4 = 2 ∨ a1 / 90 % 4 = 3 := by omega
          rcases this with z | z | z | z <;> rw [z]
          · exact ⟨0, rfl, by decide, by decide⟩
          · exact ⟨0, rfl, by decide, by decide⟩
          · exact ⟨0, rfl, by decide, by decide⟩
          · exact ⟨1 + a1 % 90, rfl, by omega, by omega⟩
        refine k_ixL (SqL.of g5) hli ?_
        walk_at "st"
        have r5 := e5.lst g4r
        refine k_ixL (SqL.of r5) (atI_nat (j := 2) rfl) ?_
        walk_at "st"
        refine k_I (by decide) ?_
        walk_at "st"
        refine kLst.mk (by show 3 ≤ 1000; decide) fun p6 H6 e6 n6 g6 => ?_
        walk_at "st"
        refine k_ixL (SqL.of (e6.lst r5)) (atI_nat (j := 2) rfl) ?_
        walk_at "st"
        refine k_I ⟨by decide, by decide⟩ ?_
        walk_at "st"
        refine k_I (by decide) ?_
        walk_at "st"
        obtain ⟨ho, hho, ho0, ho9⟩ : ∃ ho : Int, atI [V.int 0, V.int 0, V.int (1 + a2 % 40)] (a2 / 40 % 3) = some (.int ho) ∧ 0 ≤ ho ∧ ho ≤ 1000 := by
          have : a2 / 40 % 3 = 0 ∨ a2 / 40 % 3 = 1 ∨ a2 / 40 % 3 = 2 := by omega
          rcases this with z | z | z <;> rw [z]
          · exact ⟨0, rfl, by decide, by decide⟩
          · exact ⟨0, rfl, by decide, by decide⟩
          · exact ⟨1 + a2 % 40, rfl, by omega, by omega⟩
        refine k_ixL (SqL.of g6) hho ?_
        walk_at "st"
        have r6 := e6.lst r5
        have e46 := e5.trans e6
        have s6 := e46.get s4
        walk_at "st"
        refine k_ixL (SqL.of r6) (atI_nat (j := 3) rfl) ?_
        walk_at "st"
        refine k_I (by omega) ?_
        walk_at "st"
        refine k_ixL (SqL.of r6) (atI_nat (j := 3) rfl) ?_
        walk_at "st"
        refine k_I ⟨by decide, by decide⟩ ?_
        walk_at "st"
        refine kDG.s s6 (hv.of v3 (by decide +kernel)) ?_
        walk_at "st"
        refine k_I (by omega) ?_
        walk_at "st"
        refine k_ixL (SqL.of r6) (atI_nat (j := 3) rfl) ?_
        walk_at "st"
        refine k_I ⟨by decide, by decide⟩ ?_
        walk_at "st"
        refine k_I (by decide) ?_
        walk_at "st"
        refine kLst.mk (by show 5 ≤ 1000; decide) fun p7 H7 e7 n7 g7 => ?_
        refine k_cat (e7.lst (e46.lst n4l)) g7 (by show 3 + 5 ≤ 1000; decide) fun p8 H8 e8 n8 g8 => ?_
        walk_at "st"
        refine kTup.mk (by show 2 ≤ 1000; decide) fun fr H9 e9 n9 g9 => ?_
        have s9 := (e7.trans (e8.trans e9)).get s6
        have n8s : ¬ p8 = st := fun z => by rw [z, e7.get s6] at n8; cases n8
        walk_at "st"
        refine kDP.s s9 (by have := hv.1; omega) ?_
        have w10 : Lx (fun a => a = st) H9 (upd H9 st (.dK (putK kvs2 (.inr "fresh") (.ref fr)))) := Lx.wr rfl s9 (fun z => z) (by intro ps z; cases z)
        have s10 : upd H9 st (.dK (putK kvs2 (.inr "fresh") (.ref fr))) st = some (.dK (putK kvs2 (.inr "fresh") (.ref fr))) := upd_same
        generalize upd H9 st (.dK (putK kvs2 (.inr "fresh") (.ref fr))) = H10 at w10 s10
        have nls2 : ¬ kl = st := nks
        walk_at "st"
        refine k_tupleL (SqL.of (w10.at (e9.lst g8) (fun z => (n8s z).elim))) fun pt H11 e11 n11 g11 => ?_
        walk_at "st"
        have hm3 : 3 ≤ m := hm.1
        have hq : 0 ≤ a3 % ((pz l0 + pz l1 + pz l2 : Nat) + 1) ∧ a3 % ((pz l0 + pz l1 + pz l2 : Nat) + 1) ≤ ((pz l0 + pz l1 + pz l2 : Nat) : Int) := by
          have h1 := Int.emod_nonneg a3 (b := ((pz l0 + pz l1 + pz l2 : Nat) + 1)) (by omega)
          have h2 := Int.emod_lt_of_pos a3 (b := ((pz l0 + pz l1 + pz l2 : Nat) + 1)) (by omega)
          omega
        have hkq : 0 ≤ a3 / 7 % (kd : Int) ∧ a3 / 7 % (kd : Int) < kd := ⟨Int.emod_nonneg _ (by omega), Int.emod_lt_of_pos _ (by omega)⟩
        have e79 := e7.trans (e8.trans e9)
        exact q _ [l0, l1, l2, a3 % ((pz l0 + pz l1 + pz l2 : Nat) + 1), li, a3 / 7 % (kd : Int), ho, a3 / 21 % 4] fr kl xs kvs2 nx2 H11 ((x3.trans (e4.trans (e46.trans e79)).of).trans (w10.trans e11.of)) (Is.of_ints (SqT.of g11))
          ⟨l0, l1, l2, _, li, _, ho, _, rfl, by omega, by omega, by omega, hq, by omega, hkq, by omega, by omega⟩ hv ⟨b0, by omega⟩ (e11.get s10) (e11.sqt (w10.sqt (SqT.of g9))) nk1 (e11.lst (w10.at ((e46.trans e79).lst k4) (fun z => (nls2 z).elim))) hK
end G
end
section
set_option Elab.async false
set_option linter.all false
set_option maxRecDepth 100000
set_option maxHeartbeats 1000000
namespace G
open PySem PySem.Spec PyProof.Rows L2
local macro_rules | `(tactic| walk_at "st") => `(tactic| repeat (first
  | with_reducible refine k_seq ?_
  | with_reducible refine k_asg ?_
  | with_reducible refine k_gn ?_
  | with_reducible refine k_op ?_
  | ((with_reducible refine' k_var ?vh ?_); (case vh => rfl))
  | with_reducible refine k_c ?_
  | with_reducible refine k_cons ?_
  | with_reducible refine k_nil ?_
  | with_reducible refine k_I0 ?_
  | with_reducible refine k_ret ?_
  | with_reducible refine k_if ?_
  | with_reducible refine k_test ?_
  | with_reducible refine k_bl ?_
  | with_reducible refine k_cb ?_
  | with_reducible refine k_cl ?_
  | with_reducible refine k_int ?_
  | with_reducible refine k_tup ?_
  | with_reducible refine k_lst ?_
  | with_reducible refine k_fld ?_
  | with_reducible refine k_mt ?_
  | with_reducible refine k_for ?_
  | with_reducible refine k_iL ?_
  | with_reducible refine k_iT ?_
  | with_reducible refine k_iR1 ?_
  | with_reducible refine k_iS ?_
  | with_reducible refine k_par ?_
  | with_reducible refine k_ex2 ?_
  | with_reducible refine k_rfl2 ?_
  | with_reducible refine k_iZA ?_
  | with_reducible refine k_gcons ?_
  | with_reducible refine k_gnil ?_
  | with_reducible refine k_exI ?_
  | with_reducible refine k_bits ?_
  | with_reducible refine k_chain ?_
  | ((with_reducible refine' k_aug ?vh ?_); (case vh => rfl))
  | with_reducible refine k_ipI ?_
  | with_reducible refine k_inG ?_
  | with_reducible refine k_m1 ?_
  | with_reducible refine kM1.mk ?_
  | with_reducible refine k_yes ?_
  | with_reducible refine k_lc ?_
  | with_reducible refine k_andV ?_
  | with_reducible refine k_orV ?_
  | with_reducible refine k_tB ?_
  | with_reducible refine k_and ?_
  | with_reducible refine k_or ?_
  | with_reducible refine k_not ?_
  | with_reducible refine k_retN ?_
  | with_reducible refine k_next ?_
  | with_reducible refine k_fset ?_
  | with_reducible refine k_faug ?_
  | with_reducible refine k_sl ?_
  | with_reducible refine k_part ?_
  | with_reducible refine k_nopart ?_
  | with_reducible refine k_un ?_
  | with_reducible refine k_u1 ?_
  | with_reducible refine k_dget ?_
  | with_reducible refine k_din ?_
  | with_reducible refine k_dnin ?_
  | with_reducible refine k_dput ?_
  | with_reducible refine k_dget2 ?_
  | with_reducible refine k_bm ?_
  | with_reducible refine k_augs ?_
  | with_reducible refine k_gsub ?_
  | with_reducible refine k_enT ?_
  | with_reducible refine k_anyI ?_
  | with_reducible refine k_allI ?_
  | with_reducible refine k_lenX ?_
  | with_reducible refine k_sortX ?_
  | with_reducible refine k_drop ?_))
local macro_rules | `(tactic| walk_at "go") => `(tactic| ((try dsimp only [cxOf]); walk_at "st"))
local macro_rules | `(tactic| walk_at "len") => `(tactic| (simp only [List.length_append, List.length_map, List.length_cons, List.length_nil, List.length_replicate] at *; omega))

variable {P : Program} {w : World} {K : PySem.W.Frag} {mg : Str → Option Value} {base : Heap}
theorem k_seqJ {t1 t2 : TS} {D : Ends} {σ : L2.St} {H : Hp} (J : L2.St → Hp → Prop) (hj : ∀ σ H, J σ H → t2 D σ H) (h : ∀ R : L2.St → Hp → Prop, (∀ σ H, J σ H → R σ H) → t1 { D with nx := R } σ H) : tSeq t1 t2 D σ H := h _ hj
theorem NmK.keys : ∀ {akv : List (Key × V)}, NmK akv → ∃ ks : List Str, akv.map (·.1) = ks.map Sum.inr ∧ (∀ z ∈ ks, ∃ k, (z, k) ∈ nmA) ∧ ks.length = akv.length
  | [], _ => ⟨[], rfl, fun _ h => (nomatch h), rfl⟩
  | p :: r, h => by
    obtain ⟨n, hn, e⟩ := h p List.mem_cons_self
    obtain ⟨ks, a, b, c⟩ := NmK.keys (akv := r) fun q hq => h q (List.mem_cons_of_mem _ hq)
    refine ⟨n.1 :: ks, ?_, fun z hz => ?_, congrArg Nat.succ c⟩
    · show p.1 :: r.map (·.1) = _
      rw [a, e]
      rfl
    · rcases List.mem_cons.mp hz with rfl | hz
      · exact ⟨n.2, hn⟩
      · exact b z hz
/-- the law's state, what law_deed reads -/
structure StD (H : Hp) (st : Addr) (kvs : List (Key × V)) (n m : Int) (kd : Nat) (aa : Addr) (akv : List (Key × V)) : Prop where
  at_ : H st = some (.dK kvs)
  len : kvs.length ≤ 500
  nx : valV kvs (.inr "next") = some (.int n)
  md : valV kvs (.inr "modulus") = some (.int m)
  kn : valV kvs (.inr "kinds") = some (.int (kd : Nat))
  ac : valV kvs (.inr "accounts") = some (.ref aa)
  acd : H aa = some (.dK akv)
  nm : NmK akv
  al : akv.length ≤ 8
  mo : MdO m
  k13 : 1 ≤ kd ∧ kd ≤ 3
  n0 : 0 ≤ n ∧ n ≤ 90000
/-- the state after calls: next, fresh, given and opened may be new -/
structure StW (kvs kvs2 : List (Key × V)) (c : Nat) (n2 : Int) : Prop where
  len : kvs2.length ≤ kvs.length + c
  nx : valV kvs2 (.inr "next") = some (.int n2)
  eq : ∀ k, k ≠ .inr "next" → k ≠ .inr "fresh" → k ≠ .inr "given" → k ≠ .inr "opened" → valV kvs2 k = valV kvs k
theorem StW.of {kvs kvs2 : List (Key × V)} {nx2 : Int} (h : StV kvs kvs2 nx2) : StW kvs kvs2 0 nx2 := ⟨by have := h.1; omega, h.nx, fun k a _ _ _ => by rw [h.2, if_neg a]⟩
theorem StW.refl {kvs : List (Key × V)} {nx : Int} (h : valV kvs (.inr "next") = some (.int nx)) : StW kvs kvs 0 nx := ⟨by omega, h, fun _ _ _ _ _ => rfl⟩
theorem StW.trans {kvs kvs2 kvs3 : List (Key × V)} {c d : Nat} {nx2 nx3 : Int} (h : StW kvs kvs2 c nx2) (g : StW kvs2 kvs3 d nx3) : StW kvs kvs3 (c + d) nx3 := ⟨by have := h.len; have := g.len; omega, g.nx, fun k a b c d => by rw [g.eq k a b c d, h.eq k a b c d]⟩
theorem StW.put {kvs kvs2 : List (Key × V)} {c : Nat} {nx2 : Int} {z : Str} {v : V} (h : StW kvs kvs2 c nx2) (hz : z = "fresh" ∨ z = "given" ∨ z = "opened") : StW kvs (putK kvs2 (.inr z) v) (c + 1) nx2 := by
  have nn : (Sum.inr "next" : Key) ≠ .inr z := fun e => by
    have e := Sum.inr.inj e
    rcases hz with rfl | rfl | rfl <;> exact absurd e (by decide +kernel)
  refine ⟨?_, ?_, fun k a b d e => ?_⟩
  · have := length_putK kvs2 (.inr z : Key) v
    have := h.len
    omega
  · rw [valV_put, if_neg nn, h.nx]
  · have : k ≠ .inr z := by
      rcases hz with rfl | rfl | rfl
      · exact b
      · exact d
      · exact e
    rw [valV_put, if_neg this, h.eq k a b d e]
theorem pickZ {zs : List Str} (h : zs ≠ []) (a : Int) : ∃ z ∈ zs, atI (zs.map V.str) (a % (zs.length : Int)) = some (.str z) := by
  have h0 : 0 < zs.length := List.length_pos_iff.mpr h
  have h1 := Int.emod_nonneg a (b := (zs.length : Int)) (by omega)
  have h2 := Int.emod_lt_of_pos a (b := (zs.length : Int)) (by omega)
  obtain ⟨j, hj⟩ : ∃ j : Nat, a % (zs.length : Int) = (j : Int) := ⟨(a % (zs.length : Int)).toNat, by omega⟩
  have hjl : j < zs.length := by omega
  refine ⟨zs[j], List.getElem_mem hjl, ?_⟩
  rw [hj]
  refine atI_nat ?_
  rw [List.getElem?_map, List.getElem?_eq_getElem hjl]
  rfl
def frO : Dd → Option Str
  | .opn n _ => some n.1
  | .rul n _ => some n.1
  | _ => none
/-- what a deed that opens or rules leaves in fresh -/
def FrD (K : PySem.W.Frag) (H H' : Hp) (kvs2 : List (Key × V)) (nx2 : Int) (z : Str) : Prop := ∃ (fr kl : Addr) (xs : List V), valV kvs2 (.inr "fresh") = some (.ref fr) ∧ SqT K H' fr [.str z, .ref kl] ∧ H kl = none ∧ H' kl = some (.lst xs) ∧ KyL nx2 xs
def spLDeed (K : PySem.W.Frag) : Sp := fun vs H Q _ => ∃ (st rp : Addr) (kvs : List (Key × V)) (nx m : Int) (kd : Nat) (ac : Addr) (akv : List (Key × V)) (a0 a1 a2 a3 a4 a5 a6 : Int), vs = [.ref st, .ref rp] ∧ StD H st kvs nx m kd ac akv ∧
  H rp = some (.lst [.int a0, .int a1, .int a2, .int a3, .int a4, .int a5, .int a6]) ∧ (0 ≤ a0 ∧ a0 ≤ 999) ∧ (0 ≤ a1 ∧ a1 ≤ 999) ∧ (0 ≤ a2 ∧ a2 ≤ 999) ∧ (0 ≤ a3 ∧ a3 ≤ 999) ∧ (0 ≤ a4 ∧ a4 ≤ 999) ∧ (0 ≤ a5 ∧ a5 ≤ 999) ∧
  ∀ (v : V) (d : Dd) (kvs2 : List (Key × V)) (nx2 : Int) (H' : Hp), Lx (fun a => a = st) H H' → Is K H' v (.tuple d.ds) → d.ok kd m → StW kvs kvs2 1 nx2 → (nx ≤ nx2 ∧ nx2 ≤ nx + 3) → H' st = some (.dK kvs2) → (∀ z, frO d = some z → FrD K H H' kvs2 nx2 z) → Q v H'
theorem ok_law_deed (Z : Zed w K mg) : Fn P w K mg base CX0 4 (He.ga K "_law_deed") (spLDeed K) := by
  have O_law_names := ok_law_names (P := P) (base := base) Z
  have O_law_notes := ok_law_notes (P := P) (base := base) Z
  refine Fn.of0 (F_law_deed Z) sc_law_deed (fun _ _ _ _ _ _ us hl => match us, hl with | [_, _], _ => rfl) (fun vs H Q E h => ?_) (fun cdv A outer s H vs Q E hr h => ?_)
  · obtain ⟨st, rp, kvs, nx, m, kd, ac, akv, a0, a1, a2, a3, a4, a5, a6, rfl, _⟩ := h
    rfl
  · obtain ⟨st, rp, kvs, nx, m, kd, ac, akv, a0, a1, a2, a3, a4, a5, a6, rfl, hS, hrp, ⟨b0, b0'⟩, ⟨b1, b1'⟩, ⟨b2, b2'⟩, ⟨b3, b3'⟩, ⟨b4, b4'⟩, ⟨b5, b5'⟩, q⟩ := h
    obtain ⟨hk1, hk3⟩ := hS.k13
    refine ⟨_, (pss_cons (ps_set (i := 2) sc_law_deed.nd rfl (Or.inl rfl) (pe_f0 O_law_names hr (by decide) Z.g__law_names pass0)) (pss_cons (ps_set (i := 3) sc_law_deed.nd rfl (Or.inl rfl) (pe_callB (call_sortedD rfl) (by rfl) Z.n_sorted (by decide +kernel) (pa_cons (pe_dget (hu_of hr) (pv 0) pe_str (fun _ _ => rfl)) pa_nil))) (pss_cons (ps_if (pt_not (pt_truth (pv 3) (by intro _; rfl))) (pss_one (ps_set (i := 3) sc_law_deed.nd rfl (Or.inl rfl) (pe_lst (pa_cons pe_str (pa_cons pe_str pa_nil))))) pss_nil) (pss_cons (ps_set (i := 4) sc_law_deed.nd rfl (Or.inl rfl) (pe_ix ix_list (pv 3) (pe_op op_mod (pe_callTy cr_int (by rfl) Z.n_int (by decide +kernel) (pa_cons (pe_ix ix_list (pv 1) pe_int (fun _ _ => rfl)) pa_nil)) (pe_callB cr_len (by rfl) Z.n_len PySem.boot_len (pa_cons (pv 3) pa_nil))) (fun _ _ => rfl))) (pss_cons (ps_set (i := 5) sc_law_deed.nd rfl (Or.inl rfl) (pe_ix ix_list (pv 3) (pe_op op_mod (pe_callTy cr_int (by rfl) Z.n_int (by decide +kernel) (pa_cons (pe_ix ix_list (pv 1) pe_int (fun _ _ => rfl)) pa_nil)) (pe_callB cr_len (by rfl) Z.n_len PySem.boot_len (pa_cons (pv 3) pa_nil))) (fun _ _ => rfl))) (pss_cons (ps_set (i := 6) sc_law_deed.nd rfl (Or.inl rfl) (pe_ix ix_list (pv 2) (pe_op op_mod (pe_callTy cr_int (by rfl) Z.n_int (by decide +kernel) (pa_cons (pe_ix ix_list (pv 1) pe_int (fun _ _ => rfl)) pa_nil)) pe_int) (fun _ _ => rfl))) (pss_cons (ps_set (i := 7) sc_law_deed.nd rfl (Or.inl rfl) (pe_op op_mod (pe_callTy cr_int (by rfl) Z.n_int (by decide +kernel) (pa_cons (pe_ix ix_list (pv 1) pe_int (fun _ _ => rfl)) pa_nil)) (pe_dget (hu_of hr) (pv 0) pe_str (fun _ _ => rfl)))) (pss_cons (ps_set (i := 8) sc_law_deed.nd rfl (Or.inl rfl) (pe_ix ix_list (pe_lst (pa_cons (pe_op op_add pe_int (pe_op op_mod (pe_ix ix_list (pv 1) pe_int (fun _ _ => rfl)) pe_int)) (pa_cons (pe_op op_add pe_int (pe_op op_mod (pe_ix ix_list (pv 1) pe_int (fun _ _ => rfl)) pe_int)) (pa_cons (pe_op op_sub (pe_op op_pow pe_int pe_int) (pe_op op_mod (pe_ix ix_list (pv 1) pe_int (fun _ _ => rfl)) pe_int)) (pa_cons (pe_op op_add pe_int (pe_ix ix_list (pv 1) pe_int (fun _ _ => rfl))) pa_nil))))) (pe_op op_mod (pe_callTy cr_int (by rfl) Z.n_int (by decide +kernel) (pa_cons (pe_op op_fdiv (pe_ix ix_list (pv 1) pe_int (fun _ _ => rfl)) pe_int) pa_nil)) pe_int) (fun _ _ => rfl))) (pss_cons (ps_set (i := 9) sc_law_deed.nd rfl (Or.inl rfl) (pe_ix ix_list (pe_lst (pa_cons pe_str (pa_cons pe_str (pa_cons pe_str (pa_cons pe_str (pa_cons pe_str (pa_cons pe_str (pa_cons pe_str (pa_cons pe_str (pa_cons pe_str (pa_cons pe_str pa_nil))))))))))) (pe_op op_mod (pe_callTy cr_int (by rfl) Z.n_int (by decide +kernel) (pa_cons (pe_ix ix_list (pv 1) pe_int (fun _ _ => rfl)) pa_nil)) pe_int) (fun _ _ => rfl))) (pss_cons (ps_if (pt_cmpR op_eq (pe_op op_mod (pe_ix ix_list (pv 1) pe_int (fun _ _ => rfl)) pe_int) pe_int (nomark _)) (pss_one (ps_set (i := 4) sc_law_deed.nd rfl (Or.inl rfl) (pv 6))) pss_nil) (pss_cons (ps_if (pt_cmpR op_eq (pe_op op_mod (pe_ix ix_list (pv 1) pe_int (fun _ _ => rfl)) pe_int) pe_int (nomark _)) (pss_one (ps_set (i := 5) sc_law_deed.nd rfl (Or.inl rfl) (pv 6))) pss_nil) (pss_cons (ps_if (pt_cmpR op_eq (pv 9) pe_str (nomark _)) (pss_one (ps_ret (pe_tup (pa_cons pe_str (pa_cons (pv 6) (pa_cons (pe_f O_law_notes hr (by decide) Z.g__law_notes pass0 (pa_cons (pv 0) (pa_cons (pe_slice sl_list (pv 1) (po_some pe_int) po_none) (pa_cons (pv 6) pa_nil)))) pa_nil)))))) pss_nil) (pss_cons (ps_if (pt_cmpR op_eq (pv 9) pe_str (nomark _)) (pss_one (ps_ret (pe_tup (pa_cons pe_str (pa_cons (pv 4) (pa_cons (pe_f O_law_notes hr (by decide) Z.g__law_notes pass0 (pa_cons (pv 0) (pa_cons (pe_slice sl_list (pv 1) (po_some pe_int) po_none) (pa_cons (pv 4) pa_nil)))) pa_nil)))))) pss_nil) (pss_cons (ps_if (pt_cmpR op_eq (pv 9) pe_str (nomark _)) (pss_one (ps_ret (pe_tup (pa_cons pe_str (pa_cons (pv 4) pa_nil))))) pss_nil) (pss_cons (ps_if (pt_cmpR op_eq (pv 9) pe_str (nomark _)) (pss_one (ps_ret (pe_tup (pa_cons pe_str (pa_cons (pv 4) (pa_cons (pv 5) (pa_cons (pv 7) (pa_cons (pv 8) pa_nil)))))))) pss_nil) (pss_cons (ps_if (pt_cmpR op_eq (pv 9) pe_str (nomark _)) (pss_one (ps_ret (pe_tup (pa_cons pe_str (pa_cons (pv 4) (pa_cons (pv 7) (pa_cons (pe_op op_mod (pe_callTy cr_int (by rfl) Z.n_int (by decide +kernel) (pa_cons (pe_op op_add (pe_op op_add (pv 7) pe_int) (pe_op op_mod (pe_ix ix_list (pv 1) pe_int (fun _ _ => rfl)) pe_int)) pa_nil)) (pe_dget (hu_of hr) (pv 0) pe_str (fun _ _ => rfl))) (pa_cons (pv 8) pa_nil)))))))) pss_nil) (pss_one (ps_ret (pe_tup (pa_cons (pv 9) (pa_cons (pv 4) (pa_cons (pv 7) (pa_cons (pv 8) pa_nil))))))))))))))))))))))), ?_⟩
    walk_at "go"
    refine ⟨rfl, fun pn H1 e1 n1 g1 => ?_⟩
    walk_at "st"
    refine kDG.s (e1.get hS.at_) hS.ac ?_
    walk_at "st"
    obtain ⟨ks, hks, hkn, hkl⟩ := hS.nm.keys
    refine ⟨ac, akv, ks, rfl, .inl (e1.get hS.acd), hks, by have := hS.al; omega, fun ys p2 hys hsrt hn2 => ?_⟩
    have e2 := Le.new (o := .lst (ys.map V.str)) hn2
    have g2 : upd H1 p2 (.lst (ys.map V.str)) p2 = some (.lst (ys.map V.str)) := upd_same
    generalize upd H1 p2 (.lst (ys.map V.str)) = H2 at e2 g2
    refine k_gn ?_
    dsimp only
    refine k_seqJ (fun σ H3 => ∃ (p3 : Addr) (zs : List Str), Le H H3 ∧ H3 pn = some (.lst (nm8.map V.str)) ∧ H3 p3 = some (.lst (zs.map V.str)) ∧ zs ≠ [] ∧ zs.length ≤ 100 ∧ (∀ z ∈ zs, ∃ k, (z, k) ∈ nmA) ∧ σ = [some (.ref st), some (.ref rp), some (.ref pn), some (.ref p3), none, none, none, none, none, none]) (fun σ H3 z => ?_) (fun R J => ?_)
    · obtain ⟨p3, zs, e3, g3n, g3, hz0, hz1, hzn, rfl⟩ := z
      have r3 := e3.lst hrp
      walk_at "st"
      refine k_ixL (SqL.of r3) at1 ?_
      walk_at "st"
      refine k_lenL (SqL.of g3) ?_
      walk_at "st"
      have hz2 : 0 < zs.length := List.length_pos_iff.mpr hz0
      rw [List.length_map]
      walk_at "st"
      refine k_I (by omega) ?_
      obtain ⟨n4, hn4, h4⟩ := pickZ hz0 a1
      refine k_ixL (SqL.of g3) h4 ?_
      walk_at "st"
      refine k_ixL (SqL.of r3) (atI_nat (j := 2) rfl) ?_
      walk_at "st"
      refine k_lenL (SqL.of g3) ?_
      walk_at "st"
      rw [List.length_map]
      walk_at "st"
      refine k_I (by omega) ?_
      obtain ⟨n5, hn5, h5⟩ := pickZ hz0 a2
      refine k_ixL (SqL.of g3) h5 ?_
      walk_at "st"
      refine k_ixL (SqL.of r3) at1 ?_
      walk_at "st"
      refine k_I (by decide) ?_
      obtain ⟨n6, hn6, h6⟩ := pickZ (zs := nm8) (by decide) a1
      refine k_ixL (SqL.of g3n) h6 ?_
      walk_at "st"
      refine k_ixL (SqL.of r3) (atI_nat (j := 3) rfl) ?_
      walk_at "st"
      refine kDG.s (e3.get hS.at_) hS.kn ?_
      walk_at "st"
      refine k_I (by omega) ?_
      walk_at "st"
      refine k_ixL (SqL.of r3) (atI_nat (j := 4) rfl) ?_
      walk_at "st"
      refine k_I (by decide) ?_
      walk_at "st"
      refine k_ixL (SqL.of r3) (atI_nat (j := 4) rfl) ?_
      walk_at "st"
      refine k_I (by decide) ?_
      walk_at "st"
      refine k_I ⟨by decide, by decide, by decide⟩ ?_
      walk_at "st"
      refine k_ixL (SqL.of r3) (atI_nat (j := 4) rfl) ?_
      walk_at "st"
      refine k_I (by decide) ?_
      walk_at "st"
      refine k_ixL (SqL.of r3) (atI_nat (j := 4) rfl) ?_
      walk_at "st"
      refine kLst.mk (by show 4 ≤ 1000; decide) fun p5 H5 x5 m5 g5 => ?_
      walk_at "st"
      refine k_ixL (SqL.of (x5.lst r3)) (atI_nat (j := 4) rfl) ?_
      walk_at "st"
      refine k_I ⟨by decide, by decide⟩ ?_
      walk_at "st"
      refine k_I (by decide) ?_
      walk_at "st"
      obtain ⟨am, ham, hamo⟩ : ∃ am : Int, atI [V.int (1 + a4 % 60), V.int (1 + a4 % 7), V.int (10 ^ (12 : Int).toNat - a4 % 3), V.int (1 + a4)] (a4 / 60 % 4) = some (.int am) ∧ AmO am := by
        have p12 : (10 : Int) ^ (12 : Int).toNat = 1000000000000 := by decide +kernel
        have : a4 / 60 % 4 = 0 ∨ a4 / 60 % 4 = 1 ∨ a4 / 60 % 4 = 2 ∨ a4 / 60 % 4 = 3 := by omega
        rcases this with z | z | z | z <;> rw [z]
        · exact ⟨_, rfl, by omega, by omega⟩
        · exact ⟨_, rfl, by omega, by omega⟩
        · exact ⟨_, rfl, by rw [p12]; omega, by rw [p12]; omega⟩
        · exact ⟨_, rfl, by omega, by omega⟩
      refine k_ixL (SqL.of g5) ham ?_
      walk_at "st"
      refine kLst.mk (by show 10 ≤ 1000; decide) fun p6 H6 x6 m6 g6 => ?_
      have x36 := x5.trans x6
      walk_at "st"
      refine k_ixL (SqL.of (x36.lst r3)) at0 ?_
      walk_at "st"
      refine k_I (by decide) ?_
      obtain ⟨wd, hwd, hw⟩ : ∃ wd : Str, atI [V.str "move", V.str "move", V.str "mint", V.str "open", V.str "change", V.str "burn", V.str "rule", V.str "close", V.str "mint", V.str "open"] (a0 % 10) = some (.str wd) ∧ (wd = "move" ∨ wd = "mint" ∨ wd = "open" ∨ wd = "change" ∨ wd = "burn" ∨ wd = "rule" ∨ wd = "close") := by
        have : a0 % 10 = 0 ∨ a0 % 10 = 1 ∨ a0 % 10 = 2 ∨ a0 % 10 = 3 ∨ a0 % 10 = 4 ∨ a0 % 10 = 5 ∨ a0 % 10 = 6 ∨ a0 % 10 = 7 ∨ a0 % 10 = 8 ∨ a0 % 10 = 9 := by omega
        rcases this with z | z | z | z | z | z | z | z | z | z <;> rw [z] <;> exact ⟨_, rfl, by simp⟩
      refine k_ixL (SqL.of g6) hwd ?_
      -- here no walk_at
      refine k_gn ?_
      dsimp only
      have e6 := e3.trans x36
      have r6 := x36.lst r3
      have hk0 : 0 ≤ a3 % (kd : Int) ∧ a3 % (kd : Int) < kd := ⟨Int.emod_nonneg _ (by omega), Int.emod_lt_of_pos _ (by omega)⟩
      obtain ⟨kk, hkk⟩ : ∃ kk : Nat, a3 % (kd : Int) = (kk : Int) := ⟨(a3 % (kd : Int)).toNat, by omega⟩
      rw [hkk] at hk0 ⊢
      have hkk2 : kk < kd := by omega
      have hn6' := nm8_nA hn6
      refine k_seqJ (fun σ H3 => H6 = H3 ∧ ∃ nm : Str, (∃ k, (nm, k) ∈ nmA) ∧ σ = [some (.ref st), some (.ref rp), some (.ref pn), some (.ref p3), some (.str nm), some (.str n5), some (.str n6), some (.int (kk : Nat)), some (.int am), some (.str wd)]) (fun σ H3 z => ?_) (fun R J => ?_)
      · obtain ⟨rfl, nm, hnm, rfl⟩ := z
        refine k_seqJ (fun σ H3 => H6 = H3 ∧ ∃ ot : Str, (∃ k, (ot, k) ∈ nmA) ∧ σ = [some (.ref st), some (.ref rp), some (.ref pn), some (.ref p3), some (.str nm), some (.str ot), some (.str n6), some (.int (kk : Nat)), some (.int am), some (.str wd)]) (fun σ H3 z => ?_) (fun R J => ?_)
        · obtain ⟨rfl, ot, hot, rfl⟩ := z
          obtain ⟨kn, hnm⟩ := hnm
          obtain ⟨ko, hot⟩ := hot
          obtain ⟨k6, hn6⟩ := hn6'
          have fin : ∀ (d : Dd) (p : Addr) (xs : List V) (H7 : Hp), frO d = none → d.ok kd m → Le H6 H7 → H7 p = some (.tup xs) → Isl K H7 xs d.ds → Q (.ref p) H7 := fun d p xs H7 hf ok e7 g7 is => q _ d kvs nx H7 (e6.trans e7).of (.tup (SqT.of g7) is) ok ⟨by omega, hS.nx, fun _ _ _ _ _ => rfl⟩ ⟨by omega, by omega⟩ ((e6.trans e7).get hS.at_) (fun z hz => by rw [hf] at hz; cases hz)
          walk_at "st"
          rcases hw with rfl | rfl | rfl | rfl | rfl | rfl | rfl
          · refine k_eq rfl ?_
            walk_at "st"
            refine k_ifF (by decide +kernel) ?_
            walk_at "st"
            refine k_eq rfl ?_
            walk_at "st"
            refine k_ifF (by decide +kernel) ?_
            walk_at "st"
            refine k_eq rfl ?_
            walk_at "st"
            refine k_ifF (by decide +kernel) ?_
            walk_at "st"
            refine k_eq rfl ?_
            walk_at "st"
            refine k_ifT (by decide +kernel) ?_
            walk_at "st"
            exact kTup.mk (by show 5 ≤ 1000; decide) fun p7 H7 e7 n7 g7 => fin (.mov (nm, kn) (ot, ko) kk am) p7 _ H7 rfl ⟨hnm, hot, hkk2, hamo⟩ e7 g7 (.cons (.str _) (.cons (.str _) (.cons (.str _) (.cons (.int _) (.cons (.int _) .nil)))))
          · refine k_eq rfl ?_
            walk_at "st"
            refine k_ifF (by decide +kernel) ?_
            walk_at "st"
            refine k_eq rfl ?_
            walk_at "st"
            refine k_ifF (by decide +kernel) ?_
            walk_at "st"
            refine k_eq rfl ?_
            walk_at "st"
            refine k_ifF (by decide +kernel) ?_
            walk_at "st"
            refine k_eq rfl ?_
            walk_at "st"
            refine k_ifF (by decide +kernel) ?_
            walk_at "st"
            refine k_eq rfl ?_
            walk_at "st"
            refine k_ifF (by decide +kernel) ?_
            walk_at "st"
            exact kTup.mk (by show 4 ≤ 1000; decide) fun p7 H7 e7 n7 g7 => fin (.mnt (nm, kn) kk am) p7 _ H7 rfl ⟨hnm, hkk2, hamo⟩ e7 g7 (.cons (.str _) (.cons (.str _) (.cons (.int _) (.cons (.int _) .nil))))
          · refine k_eq rfl ?_
            walk_at "st"
            refine k_ifT (by decide +kernel) ?_
            walk_at "st"
            refine k_slL (SqL.of r6) fun rr H7 e7 n7 g7 => ?_
            rw [show cutV [V.int a0, V.int a1, V.int a2, V.int a3, V.int a4, V.int a5, V.int a6] (some 2) none = [V.int a2, V.int a3, V.int a4, V.int a5, V.int a6] from cut_drop (k := 2) (by show 2 ≤ 7; decide)] at g7
            have e07 := e6.trans e7
            walk_at "st"
            refine ⟨st, rr, n6, kvs, nx, m, a2, a3, a4, a5, kd, [.int a6], rfl, e07.get hS.at_, by have := hS.len; omega, hS.nx, hS.md, hS.kn, hS.mo, ⟨hk1, hk3⟩, ⟨hS.n0.1, by have := hS.n0.2; omega⟩, g7, ⟨b2, b2'⟩, ⟨b3, b3'⟩, ⟨b4, b4'⟩, ⟨b5, b5'⟩, fun v ls fr kl xs kvs2 nx2 H8 x8 is8 nok hv hb s8 fr8 nkl gkl hK => ?_⟩
            walk_at "st"
            refine kTup.mk (by show 3 ≤ 1000; decide) fun p9 H9 e9 n9 g9 => ?_
            exact q _ (.opn (n6, k6) ls) _ nx2 H9 (e07.of.trans (x8.trans e9.of)) (.tup (SqT.of g9) (.cons (.str _) (.cons (.str _) (.cons (is8.lx e9) .nil)))) ⟨hn6, nok⟩ ((StW.of hv).put (.inl rfl)) hb (e9.get s8)
              (fun z hz => by
                obtain rfl : n6 = z := Option.some.inj hz
                exact ⟨fr, kl, xs, by rw [valV_put, if_pos rfl], e9.sqt fr8, e07.dom kl nkl, e9.lst gkl, hK⟩)
          · refine k_eq rfl ?_
            walk_at "st"
            refine k_ifF (by decide +kernel) ?_
            walk_at "st"
            refine k_eq rfl ?_
            walk_at "st"
            refine k_ifF (by decide +kernel) ?_
            walk_at "st"
            refine k_eq rfl ?_
            walk_at "st"
            refine k_ifF (by decide +kernel) ?_
            walk_at "st"
            refine k_eq rfl ?_
            walk_at "st"
            refine k_ifF (by decide +kernel) ?_
            walk_at "st"
            refine k_eq rfl ?_
            walk_at "st"
            refine k_ifT (by decide +kernel) ?_
            walk_at "st"
            refine k_ixL (SqL.of r6) (atI_nat (j := 5) rfl) ?_
            walk_at "st"
            refine k_I (by decide) ?_
            walk_at "st"
            refine kDG.s (e6.get hS.at_) hS.kn ?_
            walk_at "st"
            refine k_I (by omega) ?_
            walk_at "st"
            obtain ⟨tk, htk⟩ : ∃ tk : Nat, ((kk : Int) + 1 + a5 % 2) % (kd : Int) = (tk : Int) := ⟨(((kk : Int) + 1 + a5 % 2) % (kd : Int)).toNat, by have := Int.emod_nonneg ((kk : Int) + 1 + a5 % 2) (b := (kd : Int)) (by omega); omega⟩
            have htk2 : tk < kd := by have := Int.emod_lt_of_pos ((kk : Int) + 1 + a5 % 2) (b := (kd : Int)) (by omega); omega
            rw [htk]
            exact kTup.mk (by show 5 ≤ 1000; decide) fun p7 H7 e7 n7 g7 => fin (.chg (nm, kn) kk tk am) p7 _ H7 rfl ⟨hnm, hkk2, htk2, hamo⟩ e7 g7 (.cons (.str _) (.cons (.str _) (.cons (.int _) (.cons (.int _) (.cons (.int _) .nil)))))
          · refine k_eq rfl ?_
            walk_at "st"
            refine k_ifF (by decide +kernel) ?_
            walk_at "st"
            refine k_eq rfl ?_
            walk_at "st"
            refine k_ifF (by decide +kernel) ?_
            walk_at "st"
            refine k_eq rfl ?_
            walk_at "st"
            refine k_ifF (by decide +kernel) ?_
            walk_at "st"
            refine k_eq rfl ?_
            walk_at "st"
            refine k_ifF (by decide +kernel) ?_
            walk_at "st"
            refine k_eq rfl ?_
            walk_at "st"
            refine k_ifF (by decide +kernel) ?_
            walk_at "st"
            exact kTup.mk (by show 4 ≤ 1000; decide) fun p7 H7 e7 n7 g7 => fin (.brn (nm, kn) kk am) p7 _ H7 rfl ⟨hnm, hkk2, hamo⟩ e7 g7 (.cons (.str _) (.cons (.str _) (.cons (.int _) (.cons (.int _) .nil))))
          · refine k_eq rfl ?_
            walk_at "st"
            refine k_ifF (by decide +kernel) ?_
            walk_at "st"
            refine k_eq rfl ?_
            walk_at "st"
            refine k_ifT (by decide +kernel) ?_
            walk_at "st"
            refine k_slL (SqL.of r6) fun rr H7 e7 n7 g7 => ?_
            rw [show cutV [V.int a0, V.int a1, V.int a2, V.int a3, V.int a4, V.int a5, V.int a6] (some 2) none = [V.int a2, V.int a3, V.int a4, V.int a5, V.int a6] from cut_drop (k := 2) (by show 2 ≤ 7; decide)] at g7
            have e07 := e6.trans e7
            walk_at "st"
            refine ⟨st, rr, nm, kvs, nx, m, a2, a3, a4, a5, kd, [.int a6], rfl, e07.get hS.at_, by have := hS.len; omega, hS.nx, hS.md, hS.kn, hS.mo, ⟨hk1, hk3⟩, ⟨hS.n0.1, by have := hS.n0.2; omega⟩, g7, ⟨b2, b2'⟩, ⟨b3, b3'⟩, ⟨b4, b4'⟩, ⟨b5, b5'⟩, fun v ls fr kl xs kvs2 nx2 H8 x8 is8 nok hv hb s8 fr8 nkl gkl hK => ?_⟩
            walk_at "st"
            refine kTup.mk (by show 3 ≤ 1000; decide) fun p9 H9 e9 n9 g9 => ?_
            exact q _ (.rul (nm, kn) ls) _ nx2 H9 (e07.of.trans (x8.trans e9.of)) (.tup (SqT.of g9) (.cons (.str _) (.cons (.str _) (.cons (is8.lx e9) .nil)))) ⟨hnm, nok⟩ ((StW.of hv).put (.inl rfl)) hb (e9.get s8)
              (fun z hz => by
                obtain rfl : nm = z := Option.some.inj hz
                exact ⟨fr, kl, xs, by rw [valV_put, if_pos rfl], e9.sqt fr8, e07.dom kl nkl, e9.lst gkl, hK⟩)
          · refine k_eq rfl ?_
            walk_at "st"
            refine k_ifF (by decide +kernel) ?_
            walk_at "st"
            refine k_eq rfl ?_
            walk_at "st"
            refine k_ifF (by decide +kernel) ?_
            walk_at "st"
            refine k_eq rfl ?_
            walk_at "st"
            refine k_ifT (by decide +kernel) ?_
            walk_at "st"
            exact kTup.mk (by show 2 ≤ 1000; decide) fun p7 H7 e7 n7 g7 => fin (.cls (nm, kn)) p7 _ H7 rfl hnm e7 g7 (.cons (.str _) (.cons (.str _) .nil))
        · walk_at "st"
          refine k_ixL (SqL.of r6) (atI_nat (j := 5) rfl) ?_
          walk_at "st"
          refine k_I (by decide) ?_
          walk_at "st"
          refine k_eq rfl ?_
          walk_at "st"
          refine k_if2 (fun _ => ?_) (fun _ => ?_)
          · walk_at "st"
            exact J _ _ ⟨rfl, n6, hn6', rfl⟩
          · walk_at "st"
            exact J _ _ ⟨rfl, n5, hzn _ hn5, rfl⟩
      · walk_at "st"
        refine k_ixL (SqL.of r6) (atI_nat (j := 5) rfl) ?_
        walk_at "st"
        refine k_I (by decide) ?_
        walk_at "st"
        refine k_eq rfl ?_
        walk_at "st"
        refine k_if2 (fun _ => ?_) (fun _ => ?_)
        · walk_at "st"
          exact J _ _ ⟨rfl, n6, hn6', rfl⟩
        · walk_at "st"
          exact J _ _ ⟨rfl, n4, hzn _ hn4, rfl⟩
    · walk_at "st"
      refine ⟨_, .inl ⟨_, SqL.of g2, rfl⟩, ?_⟩
      dsimp only
      refine k_if2 (fun c => ?_) (fun c => ?_)
      · walk_at "st"
        refine kLst.mk (by show 2 ≤ 1000; decide) fun p3 H3 e3 n3 g3 => ?_
        walk_at "st"
        exact J _ _ ⟨p3, ["mint", "a"], e1.trans (e2.trans e3), (e2.trans e3).lst g1, g3, by decide, by decide, fun z hz => nm8_nA (by
          rcases hz with _ | ⟨_, _ | ⟨_, hz⟩⟩
          · decide +kernel
          · decide +kernel
          · cases hz), rfl⟩
      · walk_at "st"
        refine J _ _ ⟨p2, ys, e1.trans e2, e2.lst g1, g2, fun z => ?_, ?_, fun z hz => hkn z (hys.mem_iff.mp hz), rfl⟩
        · rw [z] at c
          exact absurd c (by decide)
        · rw [hys.length_eq, hkl]
          have := hS.al
          omega
end G
end
section
set_option Elab.async false
set_option linter.all false
set_option maxRecDepth 100000
set_option maxHeartbeats 1000000
namespace G
open PySem PySem.Spec PyProof.Rows L2
local macro_rules | `(tactic| walk_at "st") => `(tactic| repeat (first
  | with_reducible refine k_seq ?_
  | with_reducible refine k_asg ?_
  | with_reducible refine k_gn ?_
  | with_reducible refine k_op ?_
  | ((with_reducible refine' k_var ?vh ?_); (case vh => rfl))
  | with_reducible refine k_c ?_
  | with_reducible refine k_cons ?_
  | with_reducible refine k_nil ?_
  | with_reducible refine k_I0 ?_
  | with_reducible refine k_ret ?_
  | with_reducible refine k_if ?_
  | with_reducible refine k_test ?_
  | with_reducible refine k_bl ?_
  | with_reducible refine k_cb ?_
  | with_reducible refine k_cl ?_
  | with_reducible refine k_int ?_
  | with_reducible refine k_tup ?_
  | with_reducible refine k_lst ?_
  | with_reducible refine k_fld ?_
  | with_reducible refine k_mt ?_
  | with_reducible refine k_for ?_
  | with_reducible refine k_iL ?_
  | with_reducible refine k_iT ?_
  | with_reducible refine k_iR1 ?_
  | with_reducible refine k_iS ?_
  | with_reducible refine k_par ?_
  | with_reducible refine k_ex2 ?_
  | with_reducible refine k_rfl2 ?_
  | with_reducible refine k_iZA ?_
  | with_reducible refine k_gcons ?_
  | with_reducible refine k_gnil ?_
  | with_reducible refine k_exI ?_
  | with_reducible refine k_bits ?_
  | with_reducible refine k_chain ?_
  | ((with_reducible refine' k_aug ?vh ?_); (case vh => rfl))
  | with_reducible refine k_ipI ?_
  | with_reducible refine k_inG ?_
  | with_reducible refine k_m1 ?_
  | with_reducible refine kM1.mk ?_
  | with_reducible refine k_yes ?_
  | with_reducible refine k_lc ?_
  | with_reducible refine k_andV ?_
  | with_reducible refine k_orV ?_
  | with_reducible refine k_tB ?_
  | with_reducible refine k_and ?_
  | with_reducible refine k_or ?_
  | with_reducible refine k_not ?_
  | with_reducible refine k_retN ?_
  | with_reducible refine k_next ?_
  | with_reducible refine k_fset ?_
  | with_reducible refine k_faug ?_
  | with_reducible refine k_sl ?_
  | with_reducible refine k_part ?_
  | with_reducible refine k_nopart ?_
  | with_reducible refine k_un ?_
  | with_reducible refine k_u1 ?_
  | with_reducible refine k_dget ?_
  | with_reducible refine k_din ?_
  | with_reducible refine k_dnin ?_
  | with_reducible refine k_dput ?_
  | with_reducible refine k_dget2 ?_
  | with_reducible refine k_bm ?_
  | with_reducible refine k_augs ?_
  | with_reducible refine k_gsub ?_
  | with_reducible refine k_enT ?_
  | with_reducible refine k_anyI ?_
  | with_reducible refine k_allI ?_
  | with_reducible refine k_lenX ?_
  | with_reducible refine k_sortX ?_
  | with_reducible refine k_drop ?_))
local macro_rules | `(tactic| walk_at "go") => `(tactic| ((try dsimp only [cxOf]); walk_at "st"))
local macro_rules | `(tactic| walk_at "len") => `(tactic| (simp only [List.length_append, List.length_map, List.length_cons, List.length_nil, List.length_replicate] at *; omega))

variable {P : Program} {w : World} {K : PySem.W.Frag} {mg : Str → Option Value} {base : Heap}
/-- the signed keys so far -/
def Trs (nx nx2 : Int) (i : Nat) (trs : List (Int × Int × Int)) : Prop := trs.length ≤ i ∧ trs.Pairwise (fun a b => a.1 < b.1) ∧ ∀ t ∈ trs, (0 ≤ t.1 ∧ t.1 < i) ∧ (0 ≤ t.2.1 ∧ t.2.1 ≤ nx + 1) ∧ (0 ≤ t.2.2 ∧ t.2.2 ≤ nx2)
theorem Trs.mono {nx nx2 nx3 : Int} {i : Nat} {trs : List (Int × Int × Int)} (h : Trs nx nx2 i trs) (hn : nx2 ≤ nx3) : Trs nx nx3 (i + 1) trs := ⟨Nat.le_succ_of_le h.1, h.2.1, fun t ht => by
  obtain ⟨⟨a, b⟩, c, d, e⟩ := h.2.2 t ht
  exact ⟨⟨a, by omega⟩, c, d, by omega⟩⟩
theorem Trs.add {nx nx2 nx3 : Int} {i : Nat} {trs : List (Int × Int × Int)} (h : Trs nx nx2 i trs) (hn : nx2 ≤ nx3) {k l : Int} (hk : 0 ≤ k ∧ k ≤ nx + 1) (hl : 0 ≤ l ∧ l ≤ nx3) : Trs nx nx3 (i + 1) (trs ++ [((i : Int), k, l)]) := by
  obtain ⟨h1, h2, h3⟩ := h.mono hn
  refine ⟨by rw [List.length_append]; have := h.1; show trs.length + 1 ≤ i + 1; omega, ?_, fun t ht => ?_⟩
  · rw [List.pairwise_append]
    refine ⟨h2, List.pairwise_singleton _ _, fun a ha b hb => ?_⟩
    obtain rfl := List.mem_singleton.mp hb
    exact (h.2.2 a ha).1.2
  · rcases List.mem_append.mp ht with ht | ht
    · exact h3 t ht
    · obtain rfl := List.mem_singleton.mp ht
      exact ⟨⟨by show (0:Int) ≤ (i : Int); omega, by show (i : Int) < (i + 1 : Nat); omega⟩, hk, hl⟩
def spLSig (K : PySem.W.Frag) : Sp := fun vs H Q _ => ∃ (st rp ky : Addr) (nm : Str) (kvs kkv : List (Key × V)) (nx a0 a1 a2 : Int), vs = [.ref st, .str nm, .ref rp] ∧ H st = some (.dK kvs) ∧ kvs.length ≤ 600 ∧ valV kvs (.inr "next") = some (.int nx) ∧ 0 ≤ nx ∧ valV kvs (.inr "keys") = some (.ref ky) ∧ H ky = some (.dK kkv) ∧ ky ≠ st ∧
  (∀ v, valV kkv (.inr nm) = some v → ∃ a xs, v = .ref a ∧ H a = some (.lst xs) ∧ KyL nx xs) ∧ H rp = some (.lst [.int a0, .int a1, .int a2]) ∧
  ∀ (p kl : Addr) (ys : List V) (trs : List (Int × Int × Int)) (kvs2 : List (Key × V)) (nx2 : Int) (H' : Hp), Lx (fun a => a = st) H H' → StV kvs kvs2 nx2 → (nx ≤ nx2 ∧ nx2 ≤ nx + 3) → H' st = some (.dK kvs2) → SqT K H' p [.str nm, .ref kl] → H kl = none → H' kl = some (.lst ys) → Isl K H' ys (trs.map kyD) → Trs nx nx2 3 trs → Q (.ref p) H'
theorem ok_law_signature (Z : Zed w K mg) : Fn P w K mg base CX0 1 (He.ga K "_law_signature") (spLSig K) := by
  refine Fn.of0 (F_law_signature Z) sc_law_signature (fun _ _ _ _ _ _ us hl => match us, hl with | [_, _, _], _ => rfl) (fun vs H Q E h => ?_) (fun cdv A outer s H vs Q E hr h => ?_)
  · obtain ⟨st, rp, ky, nm, kvs, kkv, nx, a0, a1, a2, rfl, _⟩ := h
    rfl
  · obtain ⟨st, rp, ky, nm, kvs, kkv, nx, a0, a1, a2, rfl, hst, hkl, hnx, hn0, hky, hkd, nks, hkk, hrp, q⟩ := h
    have nrs : rp ≠ st := fun z => by rw [z, hst] at hrp; cases hrp
    refine ⟨_, (pss_cons (ps_set (i := 3) sc_law_signature.nd rfl (Or.inl rfl) (pe_lst pa_nil)) (pss_cons (ps_for PassesOwn.never rfl (pi_range1 (by rfl) Z.n_range (pa_cons pe_int pa_nil)) (pg_name (i := 4) sc_law_signature.nd rfl (Or.inl rfl)) (pss_cons (ps_set (i := 5) sc_law_signature.nd rfl (Or.inl rfl) (pe_ix ix_list (pe_dget2 (hu_of hr) (pe_dget (hu_of hr) (pv 0) pe_str (fun _ _ => rfl)) (pv 1) (pe_lst (pa_cons pe_non (pa_cons pe_non (pa_cons pe_non pa_nil)))) ⟨rfl, rfl, rfl, rfl⟩) (pv 4) (fun _ _ => rfl))) (pss_one (ps_if (PW.pt (pw_and (pt_cmpR op_notN (pv 5) pe_non (nomark _)) (pw_and1 (pt_cmpR op_ne (pe_op op_mod (pe_ix ix_list (pv 2) (pv 4) (fun _ _ => rfl)) pe_int) pe_int (nomark _))))) (pss_cons (ps_if (pt_cmpR op_eq (pe_op op_mod (pe_ix ix_list (pv 2) (pv 4) (fun _ _ => rfl)) pe_int) pe_int (nomark _)) (pss_one (ps_set (i := 5) sc_law_signature.nd rfl (Or.inl rfl) (pe_op op_add (pv 5) pe_int))) pss_nil) (pss_cons (ps_dput (hu_of hr) (pv 0) pe_str (pe_op op_add (pe_dget (hu_of hr) (pv 0) pe_str (fun _ _ => rfl)) pe_int) rfl) (pss_one (ps_expr (pe_bm PySem.F.plainAttrs_list PySem.F.slot_list_append PySem.F.type_list_append mt_append (pv 3) (pa_cons (pe_tup (pa_cons (pv 4) (pa_cons (pv 5) (pa_cons (pe_op op_sub (pe_dget (hu_of hr) (pv 0) pe_str (fun _ _ => rfl)) pe_int) pa_nil)))) pa_nil)))))) pss_nil)))) (pss_one (ps_ret (pe_tup (pa_cons (pv 1) (pa_cons (pv 3) pa_nil))))))), ?_⟩
    walk_at "go"
    refine kLst.mk (by show 0 ≤ 1000; decide) fun kl H1 e1 nk1 g1 => ?_
    walk_at "st"
    have nls : kl ≠ st := fun z => by rw [z, hst] at nk1; cases nk1
    have nkk : kl ≠ ky := fun z => by rw [z, hkd] at nk1; cases nk1
    refine kR1.mk 3 rfl (by decide) (kFor.rng (Pv := fun i σ H' => Lx (fun a => a = st) H H' ∧ ∃ (nx2 : Int) (kvs2 : List (Key × V)) (ys : List V) (trs : List (Int × Int × Int)) (a b : Option V), StV kvs kvs2 nx2 ∧ (nx ≤ nx2 ∧ nx2 ≤ nx + i) ∧ H' st = some (.dK kvs2) ∧ H' kl = some (.lst ys) ∧ Isl K H' ys (trs.map kyD) ∧ Trs nx nx2 i trs ∧
      σ = [some (.ref st), some (.str nm), some (.ref rp), some (.ref kl), a, b]) 3 ⟨e1.of, nx, kvs, [], [], none, none, StV.refl hnx, ⟨by omega, by omega⟩, e1.get hst, g1, .nil, ⟨Nat.le_refl 0, .nil, fun _ h => nomatch h⟩, rfl⟩ (fun i σ H3 hi z => ?_) fun σ H3 z => ?_)
    · obtain ⟨x3, nx2, kvs2, ys, trs, a, b, hv, ⟨b0, b1⟩, s3, g3k, hI, hT, rfl⟩ := z
      have r3 := x3.at hrp (fun z => (nrs z).elim)
      have k3 := x3.at hkd (fun z => (nks z).elim)
      walk_at "st"
      refine kDG.s s3 (hv.of hky (by decide +kernel)) ?_
      walk_at "st"
      refine kDG2.k k3 ?_
      walk_at "st"
      refine kLst.mk (by show 3 ≤ 1000; decide) fun pd H4 e4 n4 g4 => ?_
      refine ⟨_, DGet.k (k := .inr nm) (e4.get k3), ?_⟩
      obtain ⟨al, xs, ea, ga, hx⟩ : ∃ al xs, (valV kkv (.inr nm)).getD (.ref pd) = .ref al ∧ H4 al = some (.lst xs) ∧ KyL nx xs := by
        cases c : valV kkv (.inr nm) with
        | none => exact ⟨pd, _, rfl, g4, rfl, fun x hx => by
            rcases hx with _ | ⟨_, _ | ⟨_, _ | ⟨_, hx⟩⟩⟩
            · exact .inl rfl
            · exact .inl rfl
            · exact .inl rfl
            · cases hx⟩
        | some v =>
          obtain ⟨al, xs, rfl, ga, hx⟩ := hkk v c
          have nal : al ≠ st := fun z => by rw [z, hst] at ga; cases ga
          exact ⟨al, xs, rfl, e4.lst (x3.at ga (fun z => (nal z).elim)), hx⟩
      rw [ea]
      have hix : i < xs.length := by rw [hx.1]; exact hi
      walk_at "st"
      refine k_ixL (SqL.of ga) (atI_nat (j := i) (List.getElem?_eq_getElem hix)) ?_
      walk_at "st"
      have hxi := hx.2 _ (List.getElem_mem hix)
      generalize xs[i] = x at hxi
      have x4 : Lx (fun a => a = st) H H4 := x3.trans e4.of
      have s4 := e4.get s3
      have k4 := e4.lst g3k
      have I4 := hI.lx e4
      have r4 := e4.lst r3
      have same : Lx (fun a => a = st) H H4 ∧ ∃ (nx2 : Int) (kvs2 : List (Key × V)) (ys : List V) (trs : List (Int × Int × Int)), StV kvs kvs2 nx2 ∧ (nx ≤ nx2 ∧ nx2 ≤ nx + ((i + 1 : Nat) : Int)) ∧ H4 st = some (.dK kvs2) ∧ H4 kl = some (.lst ys) ∧ Isl K H4 ys (trs.map kyD) ∧ Trs nx nx2 (i + 1) trs := ⟨x4, nx2, kvs2, ys, trs, hv, ⟨b0, by omega⟩, s4, k4, I4, hT.mono (Int.le_refl _)⟩
      obtain ⟨ai, hai⟩ : ∃ ai : Int, atI [V.int a0, V.int a1, V.int a2] (i : Int) = some (.int ai) := by
        have : i = 0 ∨ i = 1 ∨ i = 2 := by omega
        rcases this with rfl | rfl | rfl
        · exact ⟨a0, rfl⟩
        · exact ⟨a1, rfl⟩
        · exact ⟨a2, rfl⟩
      walk_at "st"
      rcases hxi with rfl | ⟨t, rfl, t0, t1⟩
      · refine k_ifF rfl ?_
        walk_at "st"
        refine k_ifF rfl ?_
        walk_at "st"
        exact ⟨x4, nx2, kvs2, ys, trs, _, _, hv, ⟨b0, by omega⟩, s4, k4, I4, hT.mono (Int.le_refl _), rfl⟩
      · refine k_ifT rfl ?_
        walk_at "st"
        refine k_ixL (SqL.of r4) hai ?_
        walk_at "st"
        refine k_I (by decide) ?_
        walk_at "st"
        refine k_ne rfl ?_
        walk_at "st"
        refine k_if2 (fun _ => ?_) (fun _ => ?_)
        · dsimp only
          refine k_seqJ (fun σ H' => H4 = H' ∧ ∃ k : Int, (0 ≤ k ∧ k ≤ nx + 1) ∧ σ = [some (.ref st), some (.str nm), some (.ref rp), some (.ref kl), some (.int (i : Nat)), some (.int k)]) (fun σ H' z => ?_) (fun R J => ?_)
          · obtain ⟨rfl, k, hk, rfl⟩ := z
            walk_at "st"
            refine kDG.s s4 hv.nx ?_
            walk_at "st"
            refine kDP.s s4 (by have := hv.1; omega) ?_
            have hv5 := hv.put (nx2 := nx2 + 1)
            have w5 : Lx (fun a => a = st) H4 (upd H4 st (.dK (putK kvs2 (.inr "next") (.int (nx2 + 1))))) := Lx.wr rfl s4 (fun z => z) (by intro ps z; cases z)
            have s5 : upd H4 st (.dK (putK kvs2 (.inr "next") (.int (nx2 + 1)))) st = some (.dK (putK kvs2 (.inr "next") (.int (nx2 + 1)))) := upd_same
            generalize upd H4 st (.dK (putK kvs2 (.inr "next") (.int (nx2 + 1)))) = H5 at w5 s5
            have k5 := w5.at k4 (fun z => (nls z).elim)
            have I5 := I4.lx w5
            walk_at "st"
            refine kBM.app k5 ?_
            walk_at "st"
            refine kDG.s s5 hv5.nx ?_
            walk_at "st"
            refine kTup.mk (by show 3 ≤ 1000; decide) fun pt H6 e6 n6 g6 => ?_
            rw [show nx2 + 1 - 1 = nx2 by omega] at g6
            walk_at "st"
            have k6 := e6.lst k5
            refine k_app k6 (by rw [I5.length, List.length_map]; have := hT.1; omega) ?_
            have w7 : Lx (fun a => a = kl) H6 (upd H6 kl (.lst (ys ++ [.ref pt]))) := Lx.wr rfl k6 (fun z => z) (by intro ps z; cases z)
            walk_at "st"
            refine ⟨((x4.trans w5).trans e6.of).own nk1 (by rw [k6]; exact fun z => nomatch z), nx2 + 1, _, ys ++ [.ref pt], trs ++ [((i : Int), k, nx2)], _, _, hv5, ⟨by omega, by omega⟩, by rw [upd_ne nls.symm]; exact e6.get s5, upd_same, ?_, hT.add (by omega) hk (by omega), rfl⟩
            rw [List.map_append]
            exact ((I5.lx e6).lx w7).append (.cons (.tup (w7.sqt (SqT.of g6)) (.cons (.int _) (.cons (.int _) (.cons (.int _) .nil)))) .nil)
          · walk_at "st"
            refine k_ixL (SqL.of r4) hai ?_
            walk_at "st"
            refine k_I (by decide) ?_
            walk_at "st"
            refine k_eq rfl ?_
            walk_at "st"
            refine k_if2 (fun _ => ?_) (fun _ => ?_)
            · walk_at "st"
              exact J _ _ ⟨rfl, t + 1, ⟨by omega, by omega⟩, rfl⟩
            · walk_at "st"
              exact J _ _ ⟨rfl, t, ⟨by omega, by omega⟩, rfl⟩
        · walk_at "st"
          exact ⟨x4, nx2, kvs2, ys, trs, _, _, hv, ⟨b0, by omega⟩, s4, k4, I4, hT.mono (Int.le_refl _), rfl⟩
    · obtain ⟨x3, nx2, kvs2, ys, trs, a, b, hv, ⟨b0, b1⟩, s3, g3k, hI, hT, rfl⟩ := z
      walk_at "st"
      refine kTup.mk (by show 2 ≤ 1000; decide) fun p H4 e4 n4 g4 => ?_
      exact q p kl ys trs kvs2 nx2 H4 (x3.trans e4.of) hv ⟨b0, by omega⟩ (e4.get s3) (SqT.of g4) nk1 (e4.lst g3k) (hI.lx e4) hT
end G
end
section
set_option Elab.async false
set_option linter.all false
set_option maxRecDepth 100000
set_option maxHeartbeats 1000000
namespace G
open PySem PySem.Spec PyProof.Rows L2
local macro_rules | `(tactic| walk_at "st") => `(tactic| repeat (first
  | with_reducible refine k_seq ?_
  | with_reducible refine k_asg ?_
  | with_reducible refine k_gn ?_
  | with_reducible refine k_op ?_
  | ((with_reducible refine' k_var ?vh ?_); (case vh => rfl))
  | with_reducible refine k_c ?_
  | with_reducible refine k_cons ?_
  | with_reducible refine k_nil ?_
  | with_reducible refine k_I0 ?_
  | with_reducible refine k_ret ?_
  | with_reducible refine k_if ?_
  | with_reducible refine k_test ?_
  | with_reducible refine k_bl ?_
  | with_reducible refine k_cb ?_
  | with_reducible refine k_cl ?_
  | with_reducible refine k_int ?_
  | with_reducible refine k_tup ?_
  | with_reducible refine k_lst ?_
  | with_reducible refine k_fld ?_
  | with_reducible refine k_mt ?_
  | with_reducible refine k_for ?_
  | with_reducible refine k_iL ?_
  | with_reducible refine k_iT ?_
  | with_reducible refine k_iR1 ?_
  | with_reducible refine k_iS ?_
  | with_reducible refine k_par ?_
  | with_reducible refine k_ex2 ?_
  | with_reducible refine k_rfl2 ?_
  | with_reducible refine k_iZA ?_
  | with_reducible refine k_gcons ?_
  | with_reducible refine k_gnil ?_
  | with_reducible refine k_exI ?_
  | with_reducible refine k_bits ?_
  | with_reducible refine k_chain ?_
  | ((with_reducible refine' k_aug ?vh ?_); (case vh => rfl))
  | with_reducible refine k_ipI ?_
  | with_reducible refine k_inG ?_
  | with_reducible refine k_m1 ?_
  | with_reducible refine kM1.mk ?_
  | with_reducible refine k_yes ?_
  | with_reducible refine k_lc ?_
  | with_reducible refine k_andV ?_
  | with_reducible refine k_orV ?_
  | with_reducible refine k_tB ?_
  | with_reducible refine k_and ?_
  | with_reducible refine k_or ?_
  | with_reducible refine k_not ?_
  | with_reducible refine k_retN ?_
  | with_reducible refine k_next ?_
  | with_reducible refine k_fset ?_
  | with_reducible refine k_faug ?_
  | with_reducible refine k_sl ?_
  | with_reducible refine k_part ?_
  | with_reducible refine k_nopart ?_
  | with_reducible refine k_un ?_
  | with_reducible refine k_u1 ?_
  | with_reducible refine k_dget ?_
  | with_reducible refine k_din ?_
  | with_reducible refine k_dnin ?_
  | with_reducible refine k_dput ?_
  | with_reducible refine k_dget2 ?_
  | with_reducible refine k_bm ?_
  | with_reducible refine k_augs ?_
  | with_reducible refine k_gsub ?_
  | with_reducible refine k_enT ?_
  | with_reducible refine k_anyI ?_
  | with_reducible refine k_allI ?_
  | with_reducible refine k_lenX ?_
  | with_reducible refine k_sortX ?_
  | with_reducible refine k_drop ?_))
local macro_rules | `(tactic| walk_at "go") => `(tactic| ((try dsimp only [cxOf]); walk_at "st"))
local macro_rules | `(tactic| walk_at "len") => `(tactic| (simp only [List.length_append, List.length_map, List.length_cons, List.length_nil, List.length_replicate] at *; omega))

variable {P : Program} {w : World} {K : PySem.W.Frag} {mg : Str → Option Value} {base : Heap}
theorem Lx.more {S S' : Addr → Prop} {H H1 H2 : Hp} (x : Lx S H H1) (y : Lx S' H1 H2) (n : ∀ a, S' a → S a ∨ H a = none) : Lx S H H2 :=
  ⟨fun a o e s t => y.keep a o (x.keep a o e s t) (fun z => by
    rcases n a z with h | h
    · exact s h
    · rw [h] at e; cases e) t, fun a t => y.tab a (x.tab a t), fun a t => x.dom a (y.dom a t)⟩
theorem cut_mid {xs : List V} {j n : Nat} (h : j + n ≤ xs.length) : cutV xs (some (j : Int)) (some ((j + n : Nat) : Int)) = (xs.drop j).take n := by
  unfold cutV
  rw [HT.sIx_nat, HT.sIx_nat, Nat.min_eq_left h, Nat.min_eq_left (show j ≤ xs.length by omega), Nat.add_sub_cancel_left]
theorem six {ns : List Int} {j : Nat} (h : j + 6 ≤ ns.length) : ∃ a b c d e f, (ns.drop j).take 6 = [a, b, c, d, e, f] ∧ a ∈ ns ∧ b ∈ ns ∧ c ∈ ns ∧ d ∈ ns ∧ e ∈ ns ∧ f ∈ ns :=
  ⟨ns[j], ns[j + 1], ns[j + 2], ns[j + 3], ns[j + 4], ns[j + 5], by
    rw [List.drop_eq_getElem_cons (show j < ns.length by omega), List.drop_eq_getElem_cons (show j + 1 < ns.length by omega), List.drop_eq_getElem_cons (show j + 1 + 1 < ns.length by omega), List.drop_eq_getElem_cons (show j + 1 + 1 + 1 < ns.length by omega), List.drop_eq_getElem_cons (show j + 1 + 1 + 1 + 1 < ns.length by omega), List.drop_eq_getElem_cons (show j + 1 + 1 + 1 + 1 + 1 < ns.length by omega)]
    rfl, List.getElem_mem _, List.getElem_mem _, List.getElem_mem _, List.getElem_mem _, List.getElem_mem _, List.getElem_mem _⟩
theorem three {ns : List Int} {j : Nat} (h : j + 3 ≤ ns.length) : ∃ a b c, (ns.drop j).take 3 = [a, b, c] :=
  ⟨ns[j], ns[j + 1], ns[j + 2], by
    rw [List.drop_eq_getElem_cons (show j < ns.length by omega), List.drop_eq_getElem_cons (show j + 1 < ns.length by omega), List.drop_eq_getElem_cons (show j + 1 + 1 < ns.length by omega)]
    rfl⟩
theorem StW.g {kvs kvs2 : List (Key × V)} {c : Nat} {n2 : Int} (h : StW kvs kvs2 c n2) {z : Str} {v : V} (e : valV kvs (.inr z) = some v) (hz : (decide (z ≠ "next") && (decide (z ≠ "fresh") && (decide (z ≠ "given") && decide (z ≠ "opened")))) = true) : valV kvs2 (.inr z) = some v := by
  obtain ⟨a, r⟩ := He.ba hz
  obtain ⟨b, r⟩ := He.ba r
  obtain ⟨c, d⟩ := He.ba r
  rw [h.eq _ (fun q => of_decide_eq_true a (Sum.inr.inj q)) (fun q => of_decide_eq_true b (Sum.inr.inj q)) (fun q => of_decide_eq_true c (Sum.inr.inj q)) (fun q => of_decide_eq_true d (Sum.inr.inj q)), e]
theorem StD.go {H H' : Hp} {st aa : Addr} {kvs kvs2 akv : List (Key × V)} {n n2 m : Int} {kd c : Nat} (h : StD H st kvs n m kd aa akv) (hW : StW kvs kvs2 c n2) (hs : H' st = some (.dK kvs2)) (ha : H' aa = some (.dK akv)) (hl : kvs.length + c ≤ 500) (hn : n ≤ n2 ∧ n2 ≤ 90000) : StD H' st kvs2 n2 m kd aa akv :=
  ⟨hs, by have := hW.len; omega, hW.nx, hW.g h.md (by decide +kernel), hW.g h.kn (by decide +kernel), hW.g h.ac (by decide +kernel), ha, h.nm, h.al, h.mo, h.k13, by have := h.n0; omega⟩
/-- the lists of keys of the state -/
def KyP (H : Hp) (kkv : List (Key × V)) (b : Int) : Prop := ∀ z v, valV kkv (.inr z) = some v → ∃ a xs, v = .ref a ∧ H a = some (.lst xs) ∧ KyL b xs
theorem KyP.lx {S : Addr → Prop} {H H' : Hp} {kkv : List (Key × V)} {b c : Int} (h : KyP H kkv b) (x : Lx S H H') (hS : ∀ a xs, H a = some (.lst xs) → ¬ S a) (hb : b ≤ c) : KyP H' kkv c := fun z v e => by
  obtain ⟨a, xs, rfl, g, k⟩ := h z v e
  exact ⟨a, xs, rfl, x.at g (fun s => (hS a xs g s).elim), k.mono hb⟩
/-- what was opened: fresh behind B -/
def OpL (K : PySem.W.Frag) (B H : Hp) (b : Int) (n : Nat) (os : List V) : Prop := os.length ≤ n ∧ ∀ x ∈ os, ∃ (p kl : Addr) (j : Int) (z : Str) (k : Nat) (xs : List V), x = .ref p ∧ SqT K H p [.int j, .str z, .ref kl] ∧ (z, k) ∈ nmA ∧ B kl = none ∧ H kl = some (.lst xs) ∧ KyL b xs
theorem OpL.lx {S : Addr → Prop} {B H H' : Hp} {b c : Int} {n m : Nat} {os : List V} (h : OpL K B H b n os) (x : Lx S H H') (hS : ∀ a, B a = none → ¬ S a) (hb : b ≤ c) (hn : n ≤ m) : OpL K B H' c m os := ⟨Nat.le_trans h.1 hn, fun y hy => by
  obtain ⟨p, kl, j, z, k, xs, rfl, s, hz, f, g, ky⟩ := h.2 y hy
  exact ⟨p, kl, j, z, k, xs, rfl, x.sqt s, hz, f, x.at g (fun q => (hS kl f q).elim), ky.mono hb⟩⟩
theorem OpL.bas {B B' H : Hp} {b : Int} {n : Nat} {os : List V} (h : OpL K B H b n os) (hB : ∀ a, B a = none → B' a = none) : OpL K B' H b n os := ⟨h.1, fun y hy => by
  obtain ⟨p, kl, j, z, k, xs, rfl, s, hz, f, r⟩ := h.2 y hy
  exact ⟨p, kl, j, z, k, xs, rfl, s, hz, hB _ f, r⟩⟩
/-- what was given: fresh behind B -/
def GvL (K : PySem.W.Frag) (B H : Hp) (b : Int) (gkv : List (Key × V)) : Prop := NmK gkv ∧ ∀ z v, valV gkv (.inr z) = some v → ∃ (kl : Addr) (ys : List V) (trs : List (Int × Int × Int)), v = .ref kl ∧ B kl = none ∧ H kl = some (.lst ys) ∧ Isl K H ys (trs.map kyD) ∧ trs.length ≤ 3 ∧ ∀ t ∈ trs, (0 ≤ t.1 ∧ t.1 < 3) ∧ 0 ≤ t.2.2 ∧ t.2.2 ≤ b
theorem GvL.lx {S : Addr → Prop} {B H H' : Hp} {b c : Int} {gkv : List (Key × V)} (h : GvL K B H b gkv) (x : Lx S H H') (hS : ∀ a, B a = none → ¬ S a) (hb : b ≤ c) : GvL K B H' c gkv := ⟨h.1, fun z v e => by
  obtain ⟨kl, ys, trs, rfl, f, g, i, l, t⟩ := h.2 z v e
  exact ⟨kl, ys, trs, rfl, f, x.at g (fun q => (hS kl f q).elim), i.lx x, l, fun u hu => ⟨(t u hu).1, (t u hu).2.1, by have := (t u hu).2.2; omega⟩⟩⟩
theorem GvL.bas {B B' H : Hp} {b : Int} {gkv : List (Key × V)} (h : GvL K B H b gkv) (hB : ∀ a, B a = none → B' a = none) : GvL K B' H b gkv := ⟨h.1, fun z v e => by
  obtain ⟨kl, ys, trs, rfl, f, r⟩ := h.2 z v e
  exact ⟨kl, ys, trs, rfl, hB _ f, r⟩⟩
/-- the state, with its keys -/
structure StG (H : Hp) (st : Addr) (kvs : List (Key × V)) (n m : Int) (kd : Nat) (aa : Addr) (akv : List (Key × V)) (yy : Addr) (kkv : List (Key × V)) : Prop where
  d : StD H st kvs n m kd aa akv
  ky : valV kvs (.inr "keys") = some (.ref yy)
  kyd : H yy = some (.dK kkv)
  ks : yy ≠ st
  as : aa ≠ st
  kp : KyP H kkv n
def spLGroup (K : PySem.W.Frag) : Sp := fun vs H Q _ => ∃ (st : Addr) (kvs : List (Key × V)) (n m c : Int) (kd : Nat) (aa : Addr) (akv : List (Key × V)) (ky : Addr) (kkv : List (Key × V)), vs = [.ref st, .int c, .int 0] ∧ StG H st kvs n m kd aa akv ky kkv ∧ kvs.length ≤ 400 ∧ n ≤ 80000 ∧
  ∀ (g gv op : Addr) (gkv kvs2 : List (Key × V)) (os : List V) (n2 ge : Int) (ds : List Dd) (sg : List Sg) (pd psg : Addr) (xd xs : List V) (H' : Hp), Lx (fun a => a = st) H H' → H g = none → GrA K H' g kd m ds sg ge pd psg xd xs → (ge = 0 ∨ ge = 1) → StW kvs kvs2 6 n2 → (n ≤ n2 ∧ n2 ≤ n + 24) → H' st = some (.dK kvs2) →
    valV kvs2 (.inr "given") = some (.ref gv) → valV kvs2 (.inr "opened") = some (.ref op) → H gv = none → H' gv = some (.dK gkv) → gkv.length ≤ 4 → GvL K H H' n2 gkv → H op = none → H' op = some (.lst os) → OpL K H H' n2 4 os → Q (.ref g) H'
end G
end
section
set_option Elab.async false
set_option linter.all false
set_option maxRecDepth 100000
set_option maxHeartbeats 1000000
namespace G
open PySem PySem.Spec PyProof.Rows L2
local macro_rules | `(tactic| walk_at "st") => `(tactic| repeat (first
  | with_reducible refine k_seq ?_
  | with_reducible refine k_asg ?_
  | with_reducible refine k_gn ?_
  | with_reducible refine k_op ?_
  | ((with_reducible refine' k_var ?vh ?_); (case vh => rfl))
  | with_reducible refine k_c ?_
  | with_reducible refine k_cons ?_
  | with_reducible refine k_nil ?_
  | with_reducible refine k_I0 ?_
  | with_reducible refine k_ret ?_
  | with_reducible refine k_if ?_
  | with_reducible refine k_test ?_
  | with_reducible refine k_bl ?_
  | with_reducible refine k_cb ?_
  | with_reducible refine k_cl ?_
  | with_reducible refine k_int ?_
  | with_reducible refine k_tup ?_
  | with_reducible refine k_lst ?_
  | with_reducible refine k_fld ?_
  | with_reducible refine k_mt ?_
  | with_reducible refine k_for ?_
  | with_reducible refine k_iL ?_
  | with_reducible refine k_iT ?_
  | with_reducible refine k_iR1 ?_
  | with_reducible refine k_iS ?_
  | with_reducible refine k_par ?_
  | with_reducible refine k_ex2 ?_
  | with_reducible refine k_rfl2 ?_
  | with_reducible refine k_iZA ?_
  | with_reducible refine k_gcons ?_
  | with_reducible refine k_gnil ?_
  | with_reducible refine k_exI ?_
  | with_reducible refine k_bits ?_
  | with_reducible refine k_chain ?_
  | ((with_reducible refine' k_aug ?vh ?_); (case vh => rfl))
  | with_reducible refine k_ipI ?_
  | with_reducible refine k_inG ?_
  | with_reducible refine k_m1 ?_
  | with_reducible refine kM1.mk ?_
  | with_reducible refine k_yes ?_
  | with_reducible refine k_lc ?_
  | with_reducible refine k_andV ?_
  | with_reducible refine k_orV ?_
  | with_reducible refine k_tB ?_
  | with_reducible refine k_and ?_
  | with_reducible refine k_or ?_
  | with_reducible refine k_not ?_
  | with_reducible refine k_retN ?_
  | with_reducible refine k_next ?_
  | with_reducible refine k_fset ?_
  | with_reducible refine k_faug ?_
  | with_reducible refine k_sl ?_
  | with_reducible refine k_part ?_
  | with_reducible refine k_nopart ?_
  | with_reducible refine k_un ?_
  | with_reducible refine k_u1 ?_
  | with_reducible refine k_dget ?_
  | with_reducible refine k_din ?_
  | with_reducible refine k_dnin ?_
  | with_reducible refine k_dput ?_
  | with_reducible refine k_dget2 ?_
  | with_reducible refine k_bm ?_
  | with_reducible refine k_augs ?_
  | with_reducible refine k_gsub ?_
  | with_reducible refine k_enT ?_
  | with_reducible refine k_anyI ?_
  | with_reducible refine k_allI ?_
  | with_reducible refine k_lenX ?_
  | with_reducible refine k_sortX ?_
  | with_reducible refine k_drop ?_))
local macro_rules | `(tactic| walk_at "go") => `(tactic| ((try dsimp only [cxOf]); walk_at "st"))
local macro_rules | `(tactic| walk_at "len") => `(tactic| (simp only [List.length_append, List.length_map, List.length_cons, List.length_nil, List.length_replicate] at *; omega))

variable {P : Program} {w : World} {K : PySem.W.Frag} {mg : Str → Option Value} {base : Heap}
/-- a deed's word and name, and what is left in fresh -/
theorem dd_word {d : Dd} {kd : Nat} {m : Int} (ok : d.ok kd m) {H : Hp} {v : V} (h : Is K H v (.tuple d.ds)) : ∃ (p : Addr) (wd z : Str) (k : Nat) (rest : List V), v = .ref p ∧ SqT K H p (.str wd :: .str z :: rest) ∧ (z, k) ∈ nmA ∧
    ((frO d = some z ∧ (wd = "open" ∨ wd = "rule")) ∨ (wd ≠ "open" ∧ wd ≠ "rule")) := by
  cases d with
  | opn n ns =>
    obtain ⟨p, xs, rfl, s, r⟩ := h.tup_inv
    obtain ⟨_, _, rfl, i1, r⟩ := r.cons_inv
    obtain ⟨_, _, rfl, i2, r⟩ := r.cons_inv
    obtain rfl := i1.str_inv
    obtain rfl := i2.str_inv
    exact ⟨p, _, _, _, _, rfl, s, ok.1, .inl ⟨rfl, .inl rfl⟩⟩
  | rul n ns =>
    obtain ⟨p, xs, rfl, s, r⟩ := h.tup_inv
    obtain ⟨_, _, rfl, i1, r⟩ := r.cons_inv
    obtain ⟨_, _, rfl, i2, r⟩ := r.cons_inv
    obtain rfl := i1.str_inv
    obtain rfl := i2.str_inv
    exact ⟨p, _, _, _, _, rfl, s, ok.1, .inl ⟨rfl, .inr rfl⟩⟩
  | cls n =>
    obtain ⟨p, xs, rfl, s, r⟩ := h.tup_inv
    obtain ⟨_, _, rfl, i1, r⟩ := r.cons_inv
    obtain ⟨_, _, rfl, i2, r⟩ := r.cons_inv
    obtain rfl := i1.str_inv
    obtain rfl := i2.str_inv
    exact ⟨p, _, _, _, _, rfl, s, ok, .inr ⟨by decide +kernel, by decide +kernel⟩⟩
  | mov n o k a =>
    obtain ⟨p, xs, rfl, s, r⟩ := h.tup_inv
    obtain ⟨_, _, rfl, i1, r⟩ := r.cons_inv
    obtain ⟨_, _, rfl, i2, r⟩ := r.cons_inv
    obtain rfl := i1.str_inv
    obtain rfl := i2.str_inv
    exact ⟨p, _, _, _, _, rfl, s, ok.1, .inr ⟨by decide +kernel, by decide +kernel⟩⟩
  | mnt n k a =>
    obtain ⟨p, xs, rfl, s, r⟩ := h.tup_inv
    obtain ⟨_, _, rfl, i1, r⟩ := r.cons_inv
    obtain ⟨_, _, rfl, i2, r⟩ := r.cons_inv
    obtain rfl := i1.str_inv
    obtain rfl := i2.str_inv
    exact ⟨p, _, _, _, _, rfl, s, ok.1, .inr ⟨by decide +kernel, by decide +kernel⟩⟩
  | brn n k a =>
    obtain ⟨p, xs, rfl, s, r⟩ := h.tup_inv
    obtain ⟨_, _, rfl, i1, r⟩ := r.cons_inv
    obtain ⟨_, _, rfl, i2, r⟩ := r.cons_inv
    obtain rfl := i1.str_inv
    obtain rfl := i2.str_inv
    exact ⟨p, _, _, _, _, rfl, s, ok.1, .inr ⟨by decide +kernel, by decide +kernel⟩⟩
  | chg n g t a =>
    obtain ⟨p, xs, rfl, s, r⟩ := h.tup_inv
    obtain ⟨_, _, rfl, i1, r⟩ := r.cons_inv
    obtain ⟨_, _, rfl, i2, r⟩ := r.cons_inv
    obtain rfl := i1.str_inv
    obtain rfl := i2.str_inv
    exact ⟨p, _, _, _, _, rfl, s, ok.1, .inr ⟨by decide +kernel, by decide +kernel⟩⟩
theorem ok_law_group (Z : Zed w K mg) : Fn P w K mg base CX0 5 (He.ga K "_law_group") (spLGroup K) := by
  have O_Group_init := ok_Group_init (P := P) (base := base) Z
  have O_law_deed := ok_law_deed (P := P) (base := base) Z
  have O_law_lock := ok_law_lock (P := P) (base := base) Z
  have O_law_numbers := ok_law_numbers (P := P) (base := base) Z
  have O_law_signature := ok_law_signature (P := P) (base := base) Z
  have O_law_signer := ok_law_signer (P := P) (base := base) Z
  refine Fn.of0 (F_law_group Z) sc_law_group (fun _ _ _ _ _ _ us hl => match us, hl with | [_, _, _], _ => rfl) (fun vs H Q E h => ?_) (fun cdv A outer s H vs Q E hr h => ?_)
  · obtain ⟨st, kvs, n, m, c, kd, aa, akv, ky, kkv, rfl, _⟩ := h
    rfl
  · obtain ⟨st, kvs, n, m, c, kd, aa, akv, ky, kkv, rfl, hS, hk4, hn8, q⟩ := h
    have n0 := hS.d.n0.1
    refine ⟨_, (pss_cons (ps_set (i := 3) sc_law_group.nd rfl (Or.inl rfl) (pe_f O_law_numbers hr (by decide) Z.g__law_numbers pass0 (pa_cons (pv 1) (pa_cons pe_int pa_nil)))) (pss_cons (ps_set (i := 4) sc_law_group.nd rfl (Or.inl rfl) (pe_lst pa_nil)) (pss_cons (ps_set (i := 5) sc_law_group.nd rfl (Or.inl rfl) (pe_lst pa_nil)) (pss_cons (ps_for PassesOwn.never rfl (pi_range1 (by rfl) Z.n_range (pa_cons (pe_op op_add pe_int (pe_op op_mod (pe_callTy cr_int (by rfl) Z.n_int (by decide +kernel) (pa_cons (pe_ix ix_list (pv 3) pe_int (fun _ _ => rfl)) pa_nil)) pe_int)) pa_nil)) (pg_name (i := 6) sc_law_group.nd rfl (Or.inl rfl)) (pss_cons (ps_set (i := 7) sc_law_group.nd rfl (Or.inl rfl) (pe_f O_law_deed hr (by decide) Z.g__law_deed pass0 (pa_cons (pv 0) (pa_cons (pe_op op_cat (pe_slice sl_list (pv 3) (po_some (pe_op op_add pe_int (pe_op op_mul pe_int (pv 6)))) (po_some (pe_op op_add pe_int (pe_op op_mul pe_int (pv 6))))) (pe_lst (pa_cons pe_int pa_nil))) pa_nil)))) (pss_cons (ps_expr (pe_bm PySem.F.plainAttrs_list PySem.F.slot_list_append PySem.F.type_list_append mt_append (pv 4) (pa_cons (pv 7) pa_nil))) (pss_one (ps_if (pt_cmpR op_in_seq (pe_ix ix_tup (pv 7) pe_int (fun _ _ => rfl)) (pe_tup (pa_cons pe_str (pa_cons pe_str pa_nil))) (by rfl)) (pss_one (ps_expr (pe_bm PySem.F.plainAttrs_list PySem.F.slot_list_append PySem.F.type_list_append mt_append (pv 5) (pa_cons (pe_tup (pa_cons (pe_op op_sub (pe_callB cr_len (by rfl) Z.n_len PySem.boot_len (pa_cons (pv 4) pa_nil)) pe_int) (pa_cons (pe_ix ix_tup (pv 7) pe_int (fun _ _ => rfl)) (pa_cons (pe_ix ix_tup (pe_dget (hu_of hr) (pv 0) pe_str (fun _ _ => rfl)) pe_int (fun _ _ => rfl)) pa_nil)))) pa_nil)))) pss_nil))))) (pss_cons (ps_set (i := 8) sc_law_group.nd rfl (Or.inl rfl) (pe_lst pa_nil)) (pss_cons (ps_set (i := 9) sc_law_group.nd rfl (Or.inl rfl) pe_dnewK) (pss_cons (ps_for PassesOwn.never rfl (pi_range1 (by rfl) Z.n_range (pa_cons (pe_callB cr_len (by rfl) Z.n_len PySem.boot_len (pa_cons (pv 4) pa_nil)) pa_nil)) (pg_name (i := 6) sc_law_group.nd rfl (Or.inl rfl)) (pss_cons (ps_set (i := 10) sc_law_group.nd rfl (Or.inl rfl) (pe_f O_law_signer hr (by decide) Z.g__law_signer pass0 (pa_cons (pe_ix ix_list (pv 4) (pv 6) (fun _ _ => rfl)) pa_nil))) (pss_one (ps_if (PW.pt (pw_and (pt_cmp (pc_dnotin (hu_of hr) (pv 10) (pv 9)) (by rfl)) (pw_and1 (pt_cmpR op_ne (pe_op op_mod (pe_ix ix_list (pv 3) (pe_op op_add pe_int (pv 6)) (fun _ _ => rfl)) pe_int) pe_int (nomark _))))) (pss_cons (ps_set (i := 11) sc_law_group.nd rfl (Or.inl rfl) (pe_f O_law_signature hr (by decide) Z.g__law_signature pass0 (pa_cons (pv 0) (pa_cons (pv 10) (pa_cons (pe_slice sl_list (pv 3) (po_some (pe_op op_add pe_int (pe_op op_mul pe_int (pv 6)))) (po_some (pe_op op_add pe_int (pe_op op_mul pe_int (pv 6))))) pa_nil))))) (pss_one (ps_if (pt_truth (pe_ix ix_tup (pv 11) pe_int (fun _ _ => rfl)) (by intro _; rfl)) (pss_cons (ps_dput (hu_of hr) (pv 9) (pv 10) (pe_ix ix_tup (pv 11) pe_int (fun _ _ => rfl)) rfl) (pss_cons (ps_set (i := 12) sc_law_group.nd rfl (Or.inl rfl) (pe_callTy cr_tuple (by rfl) Z.n_tuple (by decide +kernel) (pa_cons (pe_lc (own := [("_law_one", 14)]) rfl sc_law_group.nd (pi_list (pe_ix ix_tup (pv 11) pe_int (fun _ _ => rfl))) (blkOk_by (own := [("_law_one", 14)]) (N := ["_law_state", "_law_cell_here", "_law_epoch", "_law_numbers_here", "_law_deeds", "_law_opened", "_law_k", "_law_deed_here", "_law_signatures", "_law_given", "_law_name", "_law_found", "_law_row", "_law_at", "_law_one"]) (sc := defScope s_law_group) (by decide +kernel)) (fun _ _ _ _ _ => (pg_name (i := 14) sc_law_group.nd rfl (Or.inl rfl))) (fun _ _ _ _ _ => pts_nil) (fun _ _ _ _ _ => (pe_tup (pa_cons (pe_ix (ixT_b (K := K) rfl) (pv 14) pe_int (fun _ _ => rfl)) (pa_cons (pe_ix (ixT_b (K := K) rfl) (pv 14) pe_int (fun _ _ => rfl)) (pa_cons (pe_f O_law_lock hr (by decide) Z.g__law_lock pass0 (pa_cons (pe_dget (hu_of hr) (pv 0) pe_str (fun _ _ => rfl)) (pa_cons (pe_ix (ixT_b (K := K) rfl) (pv 14) pe_int (fun _ _ => rfl)) pa_nil))) pa_nil)))))) pa_nil))) (pss_one (ps_expr (pe_bm PySem.F.plainAttrs_list PySem.F.slot_list_append PySem.F.type_list_append mt_append (pv 8) (pa_cons (pe_tup (pa_cons (pv 10) (pa_cons (pv 12) pa_nil))) pa_nil)))))) pss_nil))) pss_nil)))) (pss_cons (ps_set (i := 13) sc_law_group.nd rfl (Or.inl rfl) (pv 2)) (pss_cons (ps_if (pt_cmpR op_eq (pe_op op_mod (pe_ix ix_list (pv 3) pe_int (fun _ _ => rfl)) pe_int) pe_int (nomark _)) (pss_one (ps_set (i := 13) sc_law_group.nd rfl (Or.inl rfl) (pe_op op_add (pv 2) pe_int))) pss_nil) (pss_cons (ps_dput (hu_of hr) (pv 0) pe_str (pv 9) rfl) (pss_cons (ps_dput (hu_of hr) (pv 0) pe_str (pv 5) rfl) (pss_one (ps_ret (pe_mk Z.m_Group O_Group_init hr (by decide) Z.g_Group pass0 (pa_cons (pe_callTy cr_tuple (by rfl) Z.n_tuple (by decide +kernel) (pa_cons (pv 4) pa_nil)) (pa_cons (pe_callTy cr_tuple (by rfl) Z.n_tuple (by decide +kernel) (pa_cons (pv 8) pa_nil)) (pa_cons (pv 13) pa_nil))))))))))))))))), ?_⟩
    walk_at "go"
    refine ⟨c, 60, rfl, by decide, fun np ns H1 e1 nn1 g1 hl hns => ?_⟩
    walk_at "st"
    refine kLst.mk (by show 0 ≤ 1000; decide) fun dl H2 e2 nn2 g2 => ?_
    walk_at "st"
    refine kLst.mk (by show 0 ≤ 1000; decide) fun ol H3 e3 nn3 g3 => ?_
    have hst3 : H3 st = some (.dK kvs) := (e1.trans (e2.trans e3)).get hS.d.at_
    have ndl : dl ≠ st := fun z => by rw [z, e1.get hS.d.at_] at nn2; cases nn2
    have nol : ol ≠ st := fun z => by rw [z, (e1.trans e2).get hS.d.at_] at nn3; cases nn3
    have ndo : dl ≠ ol := fun z => by rw [← z, g2] at nn3; cases nn3
    have nnp : np ≠ st := fun z => by rw [z, hS.d.at_] at nn1; cases nn1
    have nnd : np ≠ dl := fun z => by rw [← z, g1] at nn2; cases nn2
    have nno : np ≠ ol := fun z => by rw [← z, e2.lst g1] at nn3; cases nn3
    have g3d := e3.lst g2
    have g3n := (e2.trans e3).lst g1
    have h3n : ∀ a, H3 a = none → a ≠ st ∧ a ≠ dl ∧ a ≠ ol ∧ a ≠ np := fun a ha => by
      refine ⟨fun z => ?_, fun z => ?_, fun z => ?_, fun z => ?_⟩ <;> subst z
      · rw [hst3] at ha; cases ha
      · rw [g3d] at ha; cases ha
      · rw [g3] at ha; cases ha
      · rw [g3n] at ha; cases ha
    obtain ⟨a0, a00, a01⟩ : ∃ a0 : Int, atI (ns.map V.int) 0 = some (.int a0) ∧ 0 ≤ a0 % 4 ∧ a0 % 4 ≤ 3 := by
      have h0 : 0 < ns.length := by omega
      exact ⟨ns[0], atI_nat (j := 0) (by rw [List.getElem?_map, List.getElem?_eq_getElem h0]; rfl), by omega, by omega⟩
    walk_at "st"
    refine k_ixL (SqL.of g3n) a00 ?_
    walk_at "st"
    refine k_I (by decide) ?_
    walk_at "st"
    obtain ⟨nd, hnd⟩ : ∃ nd : Nat, 1 + a0 % 4 = (nd : Int) := ⟨(1 + a0 % 4).toNat, by omega⟩
    have hnd1 : 1 ≤ nd ∧ nd ≤ 4 := by omega
    refine kR1.mk nd hnd (by omega) (kFor.rng (Pv := fun i σ H' => Lx (fun a => a = st ∨ a = dl ∨ a = ol) H3 H' ∧ ∃ (n2 : Int) (kvs2 : List (Key × V)) (xd os : List V) (ds : List Dd) (a b : Option V), StW kvs kvs2 i n2 ∧ (n ≤ n2 ∧ n2 ≤ n + 3 * i) ∧ H' st = some (.dK kvs2) ∧ H' dl = some (.lst xd) ∧ Isl K H' xd (ds.map fun d => .tuple d.ds) ∧ ds.length = i ∧ (∀ d ∈ ds, d.ok kd m) ∧
      H' ol = some (.lst os) ∧ OpL K H3 H' n2 i os ∧ σ = [some (.ref st), some (.int c), some (.int 0), some (.ref np), some (.ref dl), some (.ref ol), a, b, none, none, none, none, none, none, none]) nd ⟨Lx.refl, n, kvs, [], [], [], none, none, StW.refl hS.d.nx, ⟨by omega, by omega⟩, hst3, g3d, .nil, rfl, fun _ h => (nomatch h), g3, ⟨Nat.le_refl 0, fun _ h => nomatch h⟩, rfl⟩ (fun i σ H4 hi z => ?_) fun σ H4 z => ?_)
    · obtain ⟨x4, n2, kvs2, xd, os, ds, a, b, hW, ⟨b0, b1⟩, s4, d4, I4, hdl, hok, o4, hO, rfl⟩ := z
      obtain ⟨y0, y1, y2, y3, y4, y5, hsx, w0, w1, w2, w3, w4, w5⟩ := six (ns := ns) (j := 1 + 6 * i) (by omega)
      have t4 : ∀ {a : Addr} {kv : List (Key × V)}, H a = some (.dK kv) → a ≠ st → H4 a = some (.dK kv) := fun {a kv} ha has => x4.at ((e1.trans (e2.trans e3)).get ha) (fun z => by
        rcases z with z | z | z
        · exact (has z).elim
        · rw [z] at ha
          have := (e1.trans (e2.trans e3)).get ha
          rw [g3d] at this
          cases this
        · rw [z] at ha
          have := (e1.trans (e2.trans e3)).get ha
          rw [g3] at this
          cases this)
      have n4 := x4.at g3n (fun z => by
        rcases z with z | z | z
        · exact (nnp z).elim
        · exact (nnd z).elim
        · exact (nno z).elim)
      walk_at "st"
      refine k_I (.inl ⟨by decide, by decide⟩) ?_
      walk_at "st"
      refine k_I (.inl ⟨by decide, by decide⟩) ?_
      walk_at "st"
      rw [show (1 : Int) + 6 * (i : Int) = ((1 + 6 * i : Nat) : Int) by omega, show (7 : Int) + 6 * (i : Int) = ((1 + 6 * i + 6 : Nat) : Int) by omega]
      refine k_slL (SqL.of n4) fun sl H5 e5 m5 g5 => ?_
      rw [cut_mid (by rw [List.length_map]; omega), ← List.map_drop, ← List.map_take, hsx] at g5
      walk_at "st"
      refine kLst.mk (by show 1 ≤ 1000; decide) fun zl H6 e6 m6 g6 => ?_
      refine k_cat (e6.lst g5) g6 (by show 6 + 1 ≤ 1000; decide) fun rl H7 e7 m7 g7 => ?_
      have e47 := e5.trans (e6.trans e7)
      walk_at "st"
      refine ⟨st, rl, kvs2, n2, m, kd, aa, akv, y0, y1, y2, y3, y4, y5, 0, rfl, hS.d.go hW (e47.get s4) (e47.get (t4 hS.d.acd hS.as)) (by omega) ⟨b0, by omega⟩, g7, hns _ w0, hns _ w1, hns _ w2, hns _ w3, hns _ w4, hns _ w5, fun v d kvs3 n3 H8 x8 is8 okd hW8 hb8 s8 hfr => ?_⟩
      obtain ⟨p, wd, z, kz, rest, rfl, sp, hz, hcase⟩ := dd_word okd is8
      have d8 := x8.at (e47.lst d4) (fun z => (ndl z).elim)
      have o8 := x8.at (e47.lst o4) (fun z => (nol z).elim)
      have I8 := (I4.lx e47).lx x8
      have x48 : Lx (fun a => a = st ∨ a = dl ∨ a = ol) H4 H8 := e47.of.trans (x8.mono fun a z => .inl z)
      walk_at "st"
      refine kBM.app d8 ?_
      walk_at "st"
      refine k_app d8 (by rw [I4.length, List.length_map, hdl]; omega) ?_
      have w9 : Lx (fun a => a = dl) H8 (upd H8 dl (.lst (xd ++ [.ref p]))) := Lx.wr rfl d8 (fun z => z) (by intro ps z; cases z)
      have d9 : upd H8 dl (.lst (xd ++ [.ref p])) dl = some (.lst (xd ++ [.ref p])) := upd_same
      generalize upd H8 dl (.lst (xd ++ [.ref p])) = H9 at w9 d9
      have s9 := w9.at s8 (fun z => (ndl z.symm).elim)
      have o9 := w9.at o8 (fun z => (ndo z.symm).elim)
      have x49 := x48.trans (w9.mono (S' := fun a => a = st ∨ a = dl ∨ a = ol) fun a z => .inr (.inl z))
      have I9 : Isl K H9 (xd ++ [.ref p]) ((ds ++ [d]).map fun d => .tuple d.ds) := by
        rw [List.map_append]
        exact (I8.lx w9).append (.cons (is8.lx w9) .nil)
      have len9 : (ds ++ [d]).length = i + 1 := by rw [List.length_append, hdl]; rfl
      have ok9 : ∀ u ∈ ds ++ [d], u.ok kd m := fun u hu => by
        rcases List.mem_append.mp hu with hu | hu
        · exact hok u hu
        · rw [List.mem_singleton.mp hu]
          exact okd
      have hb9 : n ≤ n3 ∧ n3 ≤ n + 3 * ((i + 1 : Nat) : Int) := by omega
      walk_at "st"
      refine k_ixT (w9.sqt sp) at0 ?_
      walk_at "st"
      refine kTup.mk (by show 2 ≤ 1000; decide) fun p10 H10 e10 m10 g10 => ?_
      have x410 := x49.trans e10.of
      refine k_inT (SqT.of g10) rfl ?_
      rcases hcase with ⟨hfo, hwd⟩ | ⟨nw1, nw2⟩
      · refine k_bl ?_
        refine k_ifT (by rcases hwd with rfl | rfl <;> decide +kernel) ?_
        walk_at "st"
        obtain ⟨fr, kl, xs, vfr, sfr, fkl, gkl, hky⟩ := hfr z hfo
        walk_at "st"
        refine kBM.app (e10.lst o9) ?_
        walk_at "st"
        refine k_lenL (SqL.of (e10.lst d9)) ?_
        walk_at "st"
        refine k_ixT (e10.sqt (w9.sqt sp)) at1 ?_
        walk_at "st"
        refine kDG.s (e10.get s9) vfr ?_
        walk_at "st"
        refine k_ixT (e10.sqt (w9.sqt sfr)) at1 ?_
        walk_at "st"
        refine kTup.mk (by show 3 ≤ 1000; decide) fun p11 H11 e11 m11 g11 => ?_
        have e911 := e10.trans e11
        have o11 := e911.lst o9
        walk_at "st"
        refine k_app o11 (by have := hO.1; omega) ?_
        have w12 : Lx (fun a => a = ol) H11 (upd H11 ol (.lst (os ++ [.ref p11]))) := Lx.wr rfl o11 (fun z => z) (by intro ps z; cases z)
        have o12 : upd H11 ol (.lst (os ++ [.ref p11])) ol = some (.lst (os ++ [.ref p11])) := upd_same
        generalize upd H11 ol (.lst (os ++ [.ref p11])) = H12 at w12 o12
        have x412 := (x49.trans e911.of).trans (w12.mono (S' := fun a => a = st ∨ a = dl ∨ a = ol) fun a z => .inr (.inr z))
        have f3 : H3 kl = none := x4.dom kl (e47.dom kl fkl)
        have nkl := h3n kl f3
        walk_at "st"
        refine ⟨x4.trans x412, n3, kvs3, _, _, ds ++ [d], _, _, hW.trans hW8, hb9, w12.at (e911.get s9) (fun z => (nol z.symm).elim), w12.at (e911.lst d9) (fun z => (ndo z).elim), (I9.lx e911).lx w12, len9, ok9, o12, ⟨by rw [List.length_append]; have := hO.1; show os.length + 1 ≤ i + 1; omega, fun u hu => ?_⟩, rfl⟩
        rcases List.mem_append.mp hu with hu | hu
        · exact (hO.lx x412 (fun a ha hs => by
            have := h3n a ha
            rcases hs with hs | hs | hs
            · exact this.1 hs
            · exact this.2.1 hs
            · exact this.2.2.1 hs) hb8.1 (Nat.le_refl i)).2 u hu
        · rw [List.mem_singleton.mp hu]
          exact ⟨p11, kl, _, z, kz, xs, rfl, w12.sqt (SqT.of g11), hz, f3, w12.at (e911.lst (w9.at gkl (fun q => (nkl.2.1 q).elim))) (fun q => (nkl.2.2.1 q).elim), hky⟩
      · refine k_bl ?_
        refine k_ifF ?_ ?_
        · show (eqV (.str "open") (.str wd) || (eqV (.str "rule") (.str wd) || false)) = false
          rw [show eqV (.str "open") (.str wd) = false from decide_eq_false fun e => nw1 (by cases e; rfl), show eqV (.str "rule") (.str wd) = false from decide_eq_false fun e => nw2 (by cases e; rfl)]
          rfl
        walk_at "st"
        exact ⟨x4.trans x410, n3, kvs3, _, _, ds ++ [d], _, _, hW.trans hW8, hb9, e10.get s9, e10.lst d9, I9.lx e10, len9, ok9, e10.lst o9, hO.lx x410 (fun a ha hs => by
            have := h3n a ha
            rcases hs with hs | hs | hs
            · exact this.1 hs
            · exact this.2.1 hs
            · exact this.2.2.1 hs) hb8.1 (Nat.le_succ i), rfl⟩
    · obtain ⟨x4, n2, kvs2, xd, os, ds, a, b, hW, ⟨b0, b1⟩, s4, d4, I4, hdl, hok, o4, hO, rfl⟩ := z
      have X4 : Lx (fun a => a = st) H H4 := ((e1.trans (e2.trans e3)).of).more x4 (fun a z => by
        rcases z with z | z | z
        · exact .inl z
        · exact .inr (z ▸ e1.dom _ nn2)
        · exact .inr (z ▸ (e1.trans e2).dom _ nn3))
      have n4 := x4.at g3n (fun z => by
        rcases z with z | z | z
        · exact (nnp z).elim
        · exact (nnd z).elim
        · exact (nno z).elim)
      walk_at "st"
      refine kLst.mk (by show 0 ≤ 1000; decide) fun gl H5 e5 m5 g5 => ?_
      walk_at "st"
      refine k_newK fun gv H6 e6 m6 g6 => ?_
      have e46 := e5.trans e6
      have X6 := X4.trans e46.of
      have s6 := e46.get s4
      have gl6 := e6.lst g5
      have ngs : gl ≠ st := fun z => by rw [z, s4] at m5; cases m5
      have nvs : gv ≠ st := fun z => by rw [z, e5.get s4] at m6; cases m6
      have ngv : gl ≠ gv := fun z => by rw [← z, g5] at m6; cases m6
      have ngl0 : H gl = none := X4.dom gl m5
      have ngv0 : H gv = none := (X4.trans e5.of).dom gv m6
      have h6n : ∀ a, H6 a = none → ¬ (a = st ∨ a = gl ∨ a = gv) := fun a ha hs => by
        rcases hs with hs | hs | hs <;> subst hs
        · rw [s6] at ha; cases ha
        · rw [gl6] at ha; cases ha
        · rw [g6] at ha; cases ha
      have nS6 : ∀ {a : Addr} {o : HO}, H4 a = some o → a ≠ st → ¬ (a = st ∨ a = gl ∨ a = gv) := fun {a o} ha has hs => by
        rcases hs with hs | hs | hs
        · exact has hs
        · subst hs; rw [ha] at m5; cases m5
        · subst hs; rw [e5.dom a m6] at ha; cases ha
      walk_at "st"
      refine k_lenL (SqL.of (e46.lst d4)) ?_
      walk_at "st"
      refine kR1.mk nd (by rw [I4.length, List.length_map, hdl]) (by omega) (kFor.rng (Pv := fun i σ H' => Lx (fun a => a = st ∨ a = gl ∨ a = gv) H6 H' ∧ ∃ (n3 : Int) (kvs3 gkv : List (Key × V)) (ss : List V) (sg : List Sg) (a b c1 d1 f1 : Option V), StW kvs kvs3 nd n3 ∧ (n2 ≤ n3 ∧ n3 ≤ n + 12 + 3 * i) ∧ H' st = some (.dK kvs3) ∧ H' gv = some (.dK gkv) ∧ gkv.length ≤ i ∧ GvL K H6 H' n3 gkv ∧
        H' gl = some (.lst ss) ∧ Isl K H' ss (sg.map fun s => .tuple s.ds) ∧ sg.length ≤ i ∧ (∀ s ∈ sg, s.ok m) ∧ (sg.map fun s => s.n.1).Nodup ∧ (∀ s ∈ sg, (valV gkv (.inr s.n.1)).isSome = true) ∧ σ = [some (.ref st), some (.int c), some (.int 0), some (.ref np), some (.ref dl), some (.ref ol), a, b, some (.ref gl), some (.ref gv), c1, d1, f1, none, none]) nd
        ⟨Lx.refl, n2, kvs2, [], [], [], a, b, none, none, none, hW, ⟨by omega, by omega⟩, s6, g6, Nat.le_refl 0, ⟨fun _ h => (nomatch h), fun _ _ h => (nomatch h)⟩, gl6, .nil, Nat.le_refl 0, fun _ h => (nomatch h), .nil, fun _ h => (nomatch h), rfl⟩ (fun i σ H7 hi z => ?_) fun σ H7 z => ?_)
      · obtain ⟨x7, n3, kvs3, gkv, ss, sg, a, b, c1, d1, f1, hW3, ⟨b3n, b3'⟩, s7, v7, hgl, hG, l7, I7, hsl, hsok, hnod, hsin, rfl⟩ := z
        have b3 : n ≤ n3 := Int.le_trans b0 b3n
        have X7 : Lx (fun a => a = st) H H7 := X6.more x7 (fun a z => by
          rcases z with z | z | z
          · exact .inl z
          · exact .inr (z ▸ ngl0)
          · exact .inr (z ▸ ngv0))
        have d7 := x7.at (e46.lst d4) (fun z => (nS6 d4 ndl z).elim)
        have n7 := x7.at (e46.lst n4) (fun z => (nS6 n4 nnp z).elim)
        have hxi : i < xd.length := by rw [I4.length, List.length_map, hdl]; exact hi
        obtain ⟨d, _, hdm, isd⟩ := isl_map ((I4.lx e46).lx x7) (List.getElem?_eq_getElem hxi)
        walk_at "st"
        refine k_ixL (SqL.of d7) (atI_nat (j := i) (List.getElem?_eq_getElem hxi)) ?_
        walk_at "st"
        refine ⟨_, d, kd, m, rfl, isd, hok d hdm, fun nm hnm => ?_⟩
        walk_at "st"
        refine kDIn.s v7 ?_
        refine k_bl ?_
        have skip : ∀ (kvs4 : List (Key × V)) (n4 : Int) (H' : Hp), Lx (fun a => a = st) H7 H' → StW kvs kvs4 nd n4 → (n3 ≤ n4 ∧ n4 ≤ n3 + 3) → H' st = some (.dK kvs4) → Lx (fun a => a = st ∨ a = gl ∨ a = gv) H6 H' ∧ H' gv = some (.dK gkv) ∧ GvL K H6 H' n4 gkv ∧ H' gl = some (.lst ss) ∧ Isl K H' ss (sg.map fun s => .tuple s.ds) := fun kvs4 n4 H' x hw hb hs =>
          ⟨x7.trans (x.mono fun a z => .inl z), x.at v7 (fun z => (nvs z).elim), hG.lx x (fun a ha z => h6n a ha (.inl z)) hb.1, x.at l7 (fun z => (ngs z).elim), I7.lx x⟩
        cases hq : valV gkv (.inr nm.1) with
        | some v =>
          refine k_ifF rfl ?_
          walk_at "st"
          refine k_ifF rfl ?_
          walk_at "st"
          obtain ⟨y1, y2, y3, y4, y5⟩ := skip kvs3 n3 H7 Lx.refl hW3 ⟨by omega, by omega⟩ s7
          exact ⟨y1, n3, kvs3, gkv, ss, sg, _, _, _, _, _, hW3, ⟨b3n, by omega⟩, s7, y2, Nat.le_succ_of_le hgl, y3, y4, y5, Nat.le_succ_of_le hsl, hsok, hnod, hsin, rfl⟩
        | none =>
          refine k_ifT rfl ?_
          walk_at "st"
          obtain ⟨u, hu⟩ : ∃ u : Int, atI (ns.map V.int) (30 + (i : Int)) = some (.int u) := by
            have h0 : 30 + i < ns.length := by omega
            refine ⟨ns[30 + i], ?_⟩
            rw [show (30 : Int) + (i : Int) = ((30 + i : Nat) : Int) by omega]
            exact atI_nat (by rw [List.getElem?_map, List.getElem?_eq_getElem h0]; rfl)
          walk_at "st"
          refine k_ixL (SqL.of n7) hu ?_
          walk_at "st"
          refine k_I (by decide) ?_
          walk_at "st"
          refine k_ne rfl ?_
          walk_at "st"
          refine k_if2 (fun _ => ?_) (fun _ => ?_)
          · obtain ⟨y0, y1, y2, hsx⟩ := three (ns := ns) (j := 36 + 3 * i) (by omega)
            walk_at "st"
            refine k_I (.inl ⟨by decide, by decide⟩) ?_
            walk_at "st"
            refine k_I (.inl ⟨by decide, by decide⟩) ?_
            walk_at "st"
            rw [show (36 : Int) + 3 * (i : Int) = ((36 + 3 * i : Nat) : Int) by omega, show (39 : Int) + 3 * (i : Int) = ((36 + 3 * i + 3 : Nat) : Int) by omega]
            refine k_slL (SqL.of n7) fun rl H8 e8 m8 g8 => ?_
            rw [cut_mid (by rw [List.length_map]; omega), ← List.map_drop, ← List.map_take, hsx] at g8
            walk_at "st"
            refine ⟨st, rl, ky, nm.1, kvs3, kkv, n3, y0, y1, y2, rfl, e8.get s7, by have := hW3.len; omega, hW3.nx, by omega, hW3.g hS.ky (by decide +kernel), e8.get (X7.at hS.kyd (fun z => (hS.ks z).elim)), hS.ks, fun v hv => hS.kp.lx (X7.trans e8.of) (fun a xs g z => by rw [z, hS.d.at_] at g; cases g) b3 nm.1 v hv, g8, fun p kl ys trs kvs4 n4 H9 x9 hv9 hb9 s9 sp fkl gkl I9 hT => ?_⟩
            have x79 := e8.of.trans x9
            have hW4 : StW kvs kvs4 nd n4 := hW3.trans (StW.of hv9)
            walk_at "st"
            refine k_ixT sp at1 ?_
            walk_at "st"
            refine ⟨_, .inl ⟨_, SqL.of gkl, rfl⟩, ?_⟩
            dsimp only
            have hyl : ys.length = trs.length := by rw [I9.length, List.length_map]
            have ht3 := hT.1
            refine k_if2 (fun hys => ?_) (fun _ => ?_)
            · have hy1 : 1 ≤ ys.length := by
                cases ys with
                | nil => exact absurd hys (by decide)
                | cons _ _ => exact Nat.succ_le_succ (Nat.zero_le _)
              walk_at "st"
              refine k_ixT sp at1 ?_
              walk_at "st"
              have v9 := x79.at v7 (fun z => (nvs z).elim)
              refine kDP.s v9 (by omega) ?_
              have w10 : Lx (fun a => a = gv) H9 (upd H9 gv (.dK (putK gkv (.inr nm.1) (.ref kl)))) := Lx.wr rfl v9 (fun z => z) (by intro ps z; cases z)
              have v10 : upd H9 gv (.dK (putK gkv (.inr nm.1) (.ref kl))) gv = some (.dK (putK gkv (.inr nm.1) (.ref kl))) := upd_same
              generalize upd H9 gv (.dK (putK gkv (.inr nm.1) (.ref kl))) = H10 at w10 v10
              have f6 : H6 kl = none := x7.dom kl (e8.dom kl fkl)
              have nkl := h6n kl f6
              have kl10 := w10.at gkl (fun z => (nkl (.inr (.inr z))).elim)
              have s10 := w10.at s9 (fun z => (nvs z.symm).elim)
              have l10 := w10.at (x79.at l7 (fun z => (ngs z).elim)) (fun z => (ngv z).elim)
              have I10 := I9.lx w10
              have sp10 := w10.sqt sp
              walk_at "st"
              refine k_ixT sp10 at1 ?_
              walk_at "st"
              refine kIL.mk (SqL.of kl10) (kLc.go (walk_list (xs := ys)) (by rw [hyl]; omega) (fun j acc H' => ∃ ks : List (Int × Int × Int), Isl K H' acc (ks.map kyD) ∧ (ks.map fun k => (k.1, k.2.1)) = ((trs.take j).map fun k => (k.1, k.2.1)) ∧ ∀ k ∈ ks, 1 ≤ k.2.2 ∧ k.2.2 ≤ m) (fun _ _ _ _ _ x ⟨ks, i1, i2, i3⟩ => ⟨ks, i1.lx x, i2, i3⟩) ⟨[], .nil, rfl, fun _ h => nomatch h⟩ (fun _ e => e.sql (SqL.of kl10)) (fun E Nx j acc x H11 H12 hj e11 ⟨ks, k1, k2, k3⟩ y fin _ => ?_) fun p12 acc H12 e12 m12 g12 hal ⟨ks, k1, k2, k3⟩ => ?_)
              · obtain ⟨rfl, hx⟩ := y
                obtain ⟨t, htj, htm, ist⟩ := isl_map I10 hx
                obtain ⟨px, rfl, spx⟩ := Is.ints_inv (ns := [t.1, t.2.1, t.2.2]) ist
                have spx11 := e11.sqt spx
                walk_at "st"
                refine ⟨rfl, ?_⟩
                walk_at "st"
                refine k_ifT rfl ?_
                walk_at "st"
                refine k_ixT spx11 at0 ?_
                walk_at "st"
                refine k_ixT spx11 at1 ?_
                walk_at "st"
                refine kDG.s (e11.get s10) (hW4.g hS.d.md (by decide +kernel)) ?_
                walk_at "st"
                refine k_ixT spx11 (atI_nat (j := 2) rfl) ?_
                walk_at "st"
                refine ⟨m, _, rfl, hS.d.mo, fun z H13 z0 z1 e13 => ?_⟩
                walk_at "st"
                refine kTup.mk (by show 3 ≤ 1000; decide) fun p14 H14 e14 m14 g14 => ?_
                have e114 := e13.trans e14
                refine fin _ _ e114 ⟨ks ++ [(t.1, t.2.1, z)], ?_, ?_, ?_⟩
                · rw [List.map_append]
                  exact (k1.lx e114).append (.cons (.tup (SqT.of g14) (.cons (.int _) (.cons (.int _) (.cons (.int _) .nil)))) .nil)
                · rw [List.take_add_one, htj, List.map_append, List.map_append, k2]
                  rfl
                · intro k hk
                  rcases List.mem_append.mp hk with hk | hk
                  · exact k3 k hk
                  · rw [List.mem_singleton.mp hk]
                    exact ⟨z0, z1⟩
              · have hks : (ks.map fun k => (k.1, k.2.1)) = trs.map fun k => (k.1, k.2.1) := by rw [k2, List.take_of_length_le (by omega)]
                have hkl : ks.length = trs.length := by
                  have := congrArg List.length hks
                  rwa [List.length_map, List.length_map] at this
                walk_at "st"
                refine k_tupleL (SqL.of g12) fun p13 H13 e13 m13 g13 => ?_
                walk_at "st"
                have e1013 := e12.trans e13
                refine kBM.app (e1013.lst l10) ?_
                walk_at "st"
                refine kTup.mk (by show 2 ≤ 1000; decide) fun p14 H14 e14 m14 g14 => ?_
                walk_at "st"
                have e1014 := e1013.trans e14
                have l14 := e1014.lst l10
                refine k_app l14 (by rw [I7.length, List.length_map]; omega) ?_
                have w15 : Lx (fun a => a = gl) H14 (upd H14 gl (.lst (ss ++ [.ref p14]))) := Lx.wr rfl l14 (fun z => z) (by intro ps z; cases z)
                have l15 : upd H14 gl (.lst (ss ++ [.ref p14])) gl = some (.lst (ss ++ [.ref p14])) := upd_same
                generalize upd H14 gl (.lst (ss ++ [.ref p14])) = H15 at w15 l15
                have x715 : Lx (fun a => a = st ∨ a = gl ∨ a = gv) H7 H15 := (x79.mono (S' := fun a => a = st ∨ a = gl ∨ a = gv) fun a z => .inl z).trans ((w10.mono (S' := fun a => a = st ∨ a = gl ∨ a = gv) fun a z => .inr (.inr z)).trans (e1014.of.trans (w15.mono (S' := fun a => a = st ∨ a = gl ∨ a = gv) fun a z => .inr (.inl z))))
                have x1015 : Lx (fun a => a = gl) H10 H15 := e1014.of.trans w15
                walk_at "st"
                refine ⟨x7.trans x715, n4, kvs4, putK gkv (.inr nm.1) (.ref kl), _, sg ++ [⟨nm, ks⟩], _, _, _, _, _, hW4, ⟨by omega, by omega⟩, x1015.at s10 (fun z => (ngs z.symm).elim), x1015.at v10 (fun z => (ngv z.symm).elim), ?_, ?_, l15, ?_, ?_, ?_, ?_, ?_, rfl⟩
                · have := length_putK gkv (.inr nm.1 : Key) (.ref kl)
                  omega
                · have hG7 := hG.lx x715 h6n hb9.1
                  refine ⟨hG7.1.put hnm, fun z v hv => ?_⟩
                  rw [valV_put] at hv
                  split at hv
                  · cases hv
                    exact ⟨kl, ys, trs, rfl, f6, x1015.at kl10 (fun z => (nkl (.inr (.inl z))).elim), I10.lx x1015, ht3, fun t ht => ⟨(hT.2.2 t ht).1, (hT.2.2 t ht).2.2⟩⟩
                  · exact hG7.2 z v hv
                · rw [List.map_append]
                  exact (I7.lx x715).append (.cons (.tup (w15.sqt (SqT.of g14)) (.cons (.str _) (.cons (.tup (w15.sqt (e14.sqt (SqT.of g13))) ((k1.lx (e13.trans e14)).lx w15)) .nil))) .nil)
                · rw [List.length_append]
                  show sg.length + 1 ≤ i + 1
                  omega
                · intro s hs
                  rcases List.mem_append.mp hs with hs | hs
                  · exact hsok s hs
                  · rw [List.mem_singleton.mp hs]
                    refine ⟨hnm, by show 1 ≤ ks.length; omega, by show ks.length ≤ 3; omega, ?_, fun k hk => ?_⟩
                    · have hp : (ks.map fun k => (k.1, k.2.1)).Pairwise fun a b => a.1 < b.1 := by
                        rw [hks]
                        exact (List.pairwise_map (f := fun k : Int × Int × Int => (k.1, k.2.1)) (R := fun a b => a.1 < b.1)).mpr hT.2.1
                      exact (List.pairwise_map (f := fun k : Int × Int × Int => (k.1, k.2.1)) (R := fun a b => a.1 < b.1)).mp hp
                    · have hm : (k.1, k.2.1) ∈ trs.map fun k => (k.1, k.2.1) := by
                        rw [← hks]
                        exact List.mem_map_of_mem (f := fun k : Int × Int × Int => (k.1, k.2.1)) hk
                      obtain ⟨t, ht, et⟩ := List.mem_map.mp hm
                      obtain ⟨et1, et2⟩ := Prod.mk.inj et
                      obtain ⟨⟨q1, q2⟩, ⟨q3, q4⟩, _⟩ := hT.2.2 t ht
                      obtain ⟨q5, q6⟩ := k3 k hk
                      exact ⟨⟨by omega, by omega⟩, ⟨by omega, by omega⟩, q5, q6⟩
                · rw [List.map_append, List.nodup_append]
                  refine ⟨hnod, by simp, fun a ha b hb => ?_⟩
                  obtain ⟨s, hs, rfl⟩ := List.mem_map.mp ha
                  obtain rfl : b = nm.1 := by simpa using hb
                  intro e
                  have := hsin s hs
                  rw [e, hq] at this
                  cases this
                · intro s hs
                  rcases List.mem_append.mp hs with hs | hs
                  · rw [valV_put]
                    split
                    · rfl
                    · exact hsin s hs
                  · rw [List.mem_singleton.mp hs, valV_put, if_pos rfl]
                    rfl
            · walk_at "st"
              obtain ⟨y1, y2, y3, y4, y5⟩ := skip kvs4 n4 H9 x79 hW4 hb9 s9
              exact ⟨y1, n4, kvs4, gkv, ss, sg, _, _, _, _, _, hW4, ⟨by omega, by omega⟩, s9, y2, Nat.le_succ_of_le hgl, y3, y4, y5, Nat.le_succ_of_le hsl, hsok, hnod, hsin, rfl⟩
          · walk_at "st"
            obtain ⟨y1, y2, y3, y4, y5⟩ := skip kvs3 n3 H7 Lx.refl hW3 ⟨by omega, by omega⟩ s7
            exact ⟨y1, n3, kvs3, gkv, ss, sg, _, _, _, _, _, hW3, ⟨b3n, by omega⟩, s7, y2, Nat.le_succ_of_le hgl, y3, y4, y5, Nat.le_succ_of_le hsl, hsok, hnod, hsin, rfl⟩
      · obtain ⟨x7, n3, kvs3, gkv, ss, sg, a, b, c1, d1, f1, hW3, ⟨b3n, b3'⟩, s7, v7, hgl, hG, l7, I7, hsl, hsok, hnod, hsin, rfl⟩ := z
        have b3 : n ≤ n3 := Int.le_trans b0 b3n
        have X7 : Lx (fun a => a = st) H H7 := X6.more x7 (fun a z => by
          rcases z with z | z | z
          · exact .inl z
          · exact .inr (z ▸ ngl0)
          · exact .inr (z ▸ ngv0))
        have d7 := x7.at (e46.lst d4) (fun z => (nS6 d4 ndl z).elim)
        have n7 := x7.at (e46.lst n4) (fun z => (nS6 n4 nnp z).elim)
        have o7 := x7.at (e46.lst o4) (fun z => (nS6 o4 nol z).elim)
        have hO7 : OpL K H3 H7 n3 nd os := ⟨hO.1, fun y hy => by
          obtain ⟨p, kl, j, z, k, xs, rfl, s, hz, f, g, ky⟩ := hO.2 y hy
          exact ⟨p, kl, j, z, k, xs, rfl, (e46.of.trans x7).sqt s, hz, f, x7.at (e46.lst g) (fun q => (nS6 g (h3n kl f).1 q).elim), ky.mono b3n⟩⟩
        have Id7 := (I4.lx e46).lx x7
        dsimp only
        refine k_seq ?_
        refine k_asg (k_var rfl (k_gn ?_))
        dsimp only
        refine k_seqJ (fun σ H' => H7 = H' ∧ ∃ (ge : Int) (a b c1 d1 f1 : Option V), (ge = 0 ∨ ge = 1) ∧ σ = [some (.ref st), some (.int c), some (.int 0), some (.ref np), some (.ref dl), some (.ref ol), a, b, some (.ref gl), some (.ref gv), c1, d1, f1, some (.int ge), none]) (fun σ H' z => ?_) (fun R J => ?_)
        · obtain ⟨rfl, ge, a, b, c1, d1, f1, hge, rfl⟩ := z
          walk_at "st"
          refine kDP.s s7 (by have := hW3.len; omega) ?_
          have w8 : Lx (fun a => a = st) H7 (upd H7 st (.dK (putK kvs3 (.inr "given") (.ref gv)))) := Lx.wr rfl s7 (fun z => z) (by intro ps z; cases z)
          have s8 : upd H7 st (.dK (putK kvs3 (.inr "given") (.ref gv))) st = some (.dK (putK kvs3 (.inr "given") (.ref gv))) := upd_same
          generalize upd H7 st (.dK (putK kvs3 (.inr "given") (.ref gv))) = H8 at w8 s8
          have hW8 := hW3.put (v := .ref gv) (.inr (.inl rfl))
          have hW9 := hW8.put (v := .ref ol) (.inr (.inr rfl))
          walk_at "st"
          refine kDP.s s8 (by have := hW8.len; omega) ?_
          have w9 : Lx (fun a => a = st) H8 (upd H8 st (.dK (putK (putK kvs3 (.inr "given") (.ref gv)) (.inr "opened") (.ref ol)))) := Lx.wr rfl s8 (fun z => z) (by intro ps z; cases z)
          have s9 : upd H8 st (.dK (putK (putK kvs3 (.inr "given") (.ref gv)) (.inr "opened") (.ref ol))) st = some (.dK (putK (putK kvs3 (.inr "given") (.ref gv)) (.inr "opened") (.ref ol))) := upd_same
          generalize upd H8 st (.dK (putK (putK kvs3 (.inr "given") (.ref gv)) (.inr "opened") (.ref ol))) = H9 at w9 s9
          have x79 := w8.trans w9
          walk_at "st"
          refine k_mk ?_
          walk_at "st"
          refine k_tupleL (SqL.of (x79.at d7 (fun z => (ndl z).elim))) fun p10 H10 e10 m10 g10 => ?_
          walk_at "st"
          refine k_tupleL (SqL.of (e10.lst (x79.at l7 (fun z => (ngs z).elim)))) fun p11 H11 e11 m11 g11 => ?_
          walk_at "st"
          refine kMk.mk fun g gdx H12 e12 mg12 g12 => ?_
          refine ⟨g, .ref p10, .ref p11, .int ge, gdx, rfl, g12, fun H13 x13 g13 => ⟨rfl, ?_⟩⟩
          have e913 : Le H9 H13 := (e10.trans (e11.trans e12)).drop x13 (fun a z => by rw [z]; exact (e10.trans e11).dom g mg12)
          have x713 := x79.trans e913.of
          refine q g gv ol gkv _ os n3 ge ds sg p10 p11 xd ss H13 (X7.trans x713) (X7.dom g (x79.dom g ((e10.trans e11).dom g mg12))) ⟨⟨gdx, g13⟩, x13.sqt ((e11.trans e12).sqt (SqT.of g10)), x13.sqt (e12.sqt (SqT.of g11)), Id7.lx x713, I7.lx x713, hok, hsok, by omega, by omega, by omega, hnod, by omega⟩ hge
            ⟨by have := hW9.len; omega, hW9.nx, hW9.eq⟩ ⟨b3, by omega⟩ (e913.get s9) ?_ ?_ ngv0 (e913.get (x79.at v7 (fun z => (nvs z).elim))) (by omega) ((hG.lx x713 (fun a ha z => h6n a ha (.inl z)) (Int.le_refl _)).bas fun a ha => X6.dom a ha) ((e1.trans e2).dom ol nn3) (e913.lst (x79.at o7 (fun z => (nol z).elim)))
            ((hO7.lx x713 (fun a ha z => (h3n a ha).1 z) (Int.le_refl _) hnd1.2).bas fun a ha => (e1.trans (e2.trans e3)).dom a ha)
          · rw [valV_put, if_neg (fun e => absurd (Sum.inr.inj e) (by decide +kernel)), valV_put, if_pos rfl]
          · rw [valV_put, if_pos rfl]
        · obtain ⟨u, hu⟩ : ∃ u : Int, atI (ns.map V.int) 50 = some (.int u) := by
            have h0 : 50 < ns.length := by omega
            exact ⟨ns[50], atI_nat (j := 50) (by rw [List.getElem?_map, List.getElem?_eq_getElem h0]; rfl)⟩
          walk_at "st"
          refine k_ixL (SqL.of n7) hu ?_
          walk_at "st"
          refine k_I (by decide) ?_
          walk_at "st"
          refine k_eq rfl ?_
          walk_at "st"
          refine k_if2 (fun _ => ?_) (fun _ => ?_)
          · walk_at "st"
            exact J _ _ ⟨rfl, 1, _, _, _, _, _, .inr rfl, rfl⟩
          · walk_at "st"
            exact J _ _ ⟨rfl, 0, _, _, _, _, _, .inl rfl, rfl⟩
end G
end
section
set_option Elab.async false
set_option linter.all false
set_option maxRecDepth 100000
set_option maxHeartbeats 1000000
namespace G
open PySem PySem.Spec PyProof.Rows L2
local macro_rules | `(tactic| walk_at "st") => `(tactic| repeat (first
  | with_reducible refine k_seq ?_
  | with_reducible refine k_asg ?_
  | with_reducible refine k_gn ?_
  | with_reducible refine k_op ?_
  | ((with_reducible refine' k_var ?vh ?_); (case vh => rfl))
  | with_reducible refine k_c ?_
  | with_reducible refine k_cons ?_
  | with_reducible refine k_nil ?_
  | with_reducible refine k_I0 ?_
  | with_reducible refine k_ret ?_
  | with_reducible refine k_if ?_
  | with_reducible refine k_test ?_
  | with_reducible refine k_bl ?_
  | with_reducible refine k_cb ?_
  | with_reducible refine k_cl ?_
  | with_reducible refine k_int ?_
  | with_reducible refine k_tup ?_
  | with_reducible refine k_lst ?_
  | with_reducible refine k_fld ?_
  | with_reducible refine k_mt ?_
  | with_reducible refine k_for ?_
  | with_reducible refine k_iL ?_
  | with_reducible refine k_iT ?_
  | with_reducible refine k_iR1 ?_
  | with_reducible refine k_iS ?_
  | with_reducible refine k_par ?_
  | with_reducible refine k_ex2 ?_
  | with_reducible refine k_rfl2 ?_
  | with_reducible refine k_iZA ?_
  | with_reducible refine k_gcons ?_
  | with_reducible refine k_gnil ?_
  | with_reducible refine k_exI ?_
  | with_reducible refine k_bits ?_
  | with_reducible refine k_chain ?_
  | ((with_reducible refine' k_aug ?vh ?_); (case vh => rfl))
  | with_reducible refine k_ipI ?_
  | with_reducible refine k_inG ?_
  | with_reducible refine k_m1 ?_
  | with_reducible refine kM1.mk ?_
  | with_reducible refine k_yes ?_
  | with_reducible refine k_lc ?_
  | with_reducible refine k_andV ?_
  | with_reducible refine k_orV ?_
  | with_reducible refine k_tB ?_
  | with_reducible refine k_and ?_
  | with_reducible refine k_or ?_
  | with_reducible refine k_not ?_
  | with_reducible refine k_retN ?_
  | with_reducible refine k_next ?_
  | with_reducible refine k_fset ?_
  | with_reducible refine k_faug ?_
  | with_reducible refine k_sl ?_
  | with_reducible refine k_part ?_
  | with_reducible refine k_nopart ?_
  | with_reducible refine k_un ?_
  | with_reducible refine k_u1 ?_
  | with_reducible refine k_dget ?_
  | with_reducible refine k_din ?_
  | with_reducible refine k_dnin ?_
  | with_reducible refine k_dput ?_
  | with_reducible refine k_dget2 ?_
  | with_reducible refine k_bm ?_
  | with_reducible refine k_augs ?_
  | with_reducible refine k_gsub ?_
  | with_reducible refine k_enT ?_
  | with_reducible refine k_anyI ?_
  | with_reducible refine k_allI ?_
  | with_reducible refine k_lenX ?_
  | with_reducible refine k_sortX ?_
  | with_reducible refine k_drop ?_))
local macro_rules | `(tactic| walk_at "go") => `(tactic| ((try dsimp only [cxOf]); walk_at "st"))
local macro_rules | `(tactic| walk_at "len") => `(tactic| (simp only [List.length_append, List.length_map, List.length_cons, List.length_nil, List.length_replicate] at *; omega))

variable {P : Program} {w : World} {K : PySem.W.Frag} {mg : Str → Option Value} {base : Heap}
theorem valV_key {κ : Type} [DecidableEq κ] {k : κ} : ∀ {kvs : List (κ × V)}, k ∈ kvs.map (·.1) → ∃ v, valV kvs k = some v
  | [], h => by cases h
  | (j, v) :: r, h => by
    by_cases e : j = k
    · exact ⟨v, by unfold valV; simp [e]⟩
    · have h2 : k ∈ r.map (·.1) := by
        rcases List.mem_cons.mp h with q | q
        · exact absurd q.symm e
        · exact q
      obtain ⟨u, hu⟩ := valV_key h2
      refine ⟨u, ?_⟩
      unfold valV at hu ⊢
      simp only [List.find?_cons, e, decide_false]
      exact hu
/-- the keys' dict and its lists -/
def KS (kkv : List (Key × V)) (ky : Addr) : Addr → Prop := fun a => a = ky ∨ ∃ z, valV kkv (.inr z) = some (.ref a)
structure KyN (H H' : Hp) (ky : Addr) (kkv kkv' : List (Key × V)) (b : Int) (n : Nat) : Prop where
  x : Lx (KS kkv ky) H H'
  d : H' ky = some (.dK kkv')
  len : kkv'.length ≤ kkv.length + n
  kp : KyP H' kkv' b
  sp : ∀ z a, valV kkv' (.inr z) = some (.ref a) → KS kkv ky a ∨ H a = none
section
variable {H H' H'' : Hp} {ky : Addr} {kkv kkv' : List (Key × V)} {b : Int} {n m : Nat}
theorem KyN.le (h : KyN H H' ky kkv kkv' b n) (e : Le H' H'') : KyN H H'' ky kkv kkv' b n := ⟨h.x.trans e.of, e.get h.d, h.len, h.kp.lx e (fun _ _ _ z => z) (Int.le_refl b), h.sp⟩
theorem KyN.from_ (h : KyN H' H'' ky kkv kkv' b n) (e : Le H H') : KyN H H'' ky kkv kkv' b n := ⟨e.of.trans h.x, h.d, h.len, h.kp, fun z a q => (h.sp z a q).imp id (e.dom a)⟩
theorem KyN.mono (h : KyN H H' ky kkv kkv' b n) (e : n ≤ m) : KyN H H' ky kkv kkv' b m := ⟨h.x, h.d, by have := h.len; omega, h.kp, h.sp⟩
theorem KyL.set {b : Int} {xs : List V} (h : KyL b xs) {j : Nat} {t : Int} (ht : 0 ≤ t ∧ t ≤ b) : KyL b (xs.set j (.int t)) := ⟨by rw [List.length_set]; exact h.1, fun x hx => by
  rcases List.mem_or_eq_of_mem_set hx with hx | rfl
  · exact h.2 x hx
  · exact .inr ⟨t, rfl, ht⟩⟩
theorem KyN.set (h : KyN H H' ky kkv kkv' b n) {z : Str} {a : Addr} {xs : List V} {j : Nat} {t : Int} (hz : valV kkv' (.inr z) = some (.ref a)) (ha : H' a = some (.lst xs)) (hx : KyL b xs) (ht : 0 ≤ t ∧ t ≤ b) : KyN H (upd H' a (.lst (xs.set j (.int t)))) ky kkv kkv' b n := by
  have na : ky ≠ a := fun e => by
    rw [← e, h.d] at ha
    cases ha
  refine ⟨?_, by rw [upd_ne na]; exact h.d, h.len, fun u v hv => ?_, h.sp⟩
  · rcases h.sp z a hz with s | s
    · exact h.x.trans (Lx.wr s ha (fun z => z) (by intro ps z; cases z))
    · exact h.x.own s (by rw [ha]; exact fun z => nomatch z)
  · obtain ⟨c, ys, rfl, g, k⟩ := h.kp u v hv
    by_cases e : c = a
    · subst e
      exact ⟨c, _, rfl, upd_same, hx.set ht⟩
    · exact ⟨c, ys, rfl, by rw [upd_ne e]; exact g, k⟩
theorem KyN.put (h : KyN H H' ky kkv kkv' b n) {z : Str} {a : Addr} {xs : List V} (ha0 : H a = none) (ha : H' a = some (.lst xs)) (hx : KyL b xs) : KyN H (upd H' ky (.dK (putK kkv' (.inr z) (.ref a)))) ky kkv (putK kkv' (.inr z) (.ref a)) b (n + 1) := by
  have w1 : Lx (fun a => a = ky) H' (upd H' ky (.dK (putK kkv' (.inr z) (.ref a)))) := Lx.wr rfl h.d (fun z => z) (by intro ps z; cases z)
  have na : a ≠ ky := fun e => by
    rw [e, h.d] at ha
    cases ha
  refine ⟨h.x.trans (w1.mono fun a e => .inl e), upd_same, ?_, fun u v hv => ?_, fun u c hc => ?_⟩
  · have := length_putK kkv' (.inr z : Key) (.ref a)
    have := h.len
    omega
  · rw [valV_put] at hv
    split at hv
    · cases hv
      exact ⟨a, xs, rfl, by rw [upd_ne na]; exact ha, hx⟩
    · exact h.kp.lx w1 (fun c ys g e => by rw [e, h.d] at g; cases g) (Int.le_refl b) u v hv
  · rw [valV_put] at hc
    split at hc
    · cases hc
      exact .inr ha0
    · exact h.sp u c hc
end
def spLDone (K : PySem.W.Frag) : Sp := fun vs H Q _ => ∃ (B : Hp) (st g gv op aa ky : Addr) (kvs gkv akv kkv : List (Key × V)) (os : List V) (b : Int) (kd : Nat) (m : Int) (ds : List Dd) (sg : List Sg) (ge : Int) (pd psg : Addr) (xd xs : List V), vs = [.ref st, .ref g] ∧
  H st = some (.dK kvs) ∧ valV kvs (.inr "given") = some (.ref gv) ∧ valV kvs (.inr "opened") = some (.ref op) ∧ valV kvs (.inr "keys") = some (.ref ky) ∧ valV kvs (.inr "accounts") = some (.ref aa) ∧ H gv = some (.dK gkv) ∧ gkv.length ≤ 4 ∧ GvL K B H b gkv ∧ H op = some (.lst os) ∧ OpL K B H b 4 os ∧
  H aa = some (.dK akv) ∧ H ky = some (.dK kkv) ∧ kkv.length ≤ 500 ∧ KyP H kkv b ∧ GrA K H g kd m ds sg ge pd psg xd xs ∧ st ≠ ky ∧ gv ≠ ky ∧ aa ≠ ky ∧ B op = none ∧ B ky ≠ none ∧ (∀ z a, valV kkv (.inr z) = some (.ref a) → B a ≠ none) ∧
  ∀ (kkv' : List (Key × V)) (H' : Hp), KyN H H' ky kkv kkv' b 8 → Q (.bl true) H'
theorem ok_law_done (Z : Zed w K mg) : Fn P w K mg base CX0 1 (He.ga K "_law_done") (spLDone K) := by
  refine Fn.of0 (F_law_done Z) sc_law_done (fun _ _ _ _ _ _ us hl => match us, hl with | [_, _], _ => rfl) (fun vs H Q E h => ?_) (fun cdv A outer s H vs Q E hr h => ?_)
  · obtain ⟨B, st, g, gv, op, aa, ky, kvs, gkv, akv, kkv, os, b, kd, m, ds, sg, ge, pd, psg, xd, xs, rfl, _⟩ := h
    rfl
  · obtain ⟨B, st, g, gv, op, aa, ky, kvs, gkv, akv, kkv, os, b, kd, m, ds, sg, ge, pd, psg, xd, xs, rfl, hst, hgv, hop, hky, haa, gvd, hgl, hG, opd, hO, aad, kyd, hkl, hkp, hA, nst, ngv, naa, bop, bky, bls, q⟩ := h
    obtain ⟨ks, hks, hkn, hkl4⟩ := hG.1.keys
    -- what stays
    have nKS : ∀ {a : Addr} {o : HO}, H a = some o → a ≠ ky → (∀ xs, o ≠ .lst xs) → ¬ KS kkv ky a := fun {a o} ha hne ho z => by
      rcases z with z | ⟨u, hu⟩
      · exact hne z
      · obtain ⟨c, ys, e, gc, _⟩ := hkp u _ hu
        cases e
        rw [ha] at gc
        exact ho ys (Option.some.inj gc)
    have nB : ∀ a, B a = none → ¬ KS kkv ky a := fun a ha z => by
      rcases z with z | ⟨u, hu⟩
      · rw [z] at ha; exact bky ha
      · exact bls u a hu ha
    have st' : ∀ {H'}, Lx (KS kkv ky) H H' → H' st = some (.dK kvs) := fun x => x.at hst (fun z => (nKS hst nst (fun _ => nofun) z).elim)
    refine ⟨_, (pss_cons (ps_for PassesOwn.never rfl (pi_list (pe_callB (call_sortedD rfl) (by rfl) Z.n_sorted (by decide +kernel) (pa_cons (pe_dget (hu_of hr) (pv 0) pe_str (fun _ _ => rfl)) pa_nil))) (pg_name (i := 2) sc_law_done.nd rfl (Or.inl rfl)) (pss_one (ps_for PassesOwn.never rfl (pi_list (pe_dget (hu_of hr) (pe_dget (hu_of hr) (pv 0) pe_str (fun _ _ => rfl)) (pv 2) (fun _ _ => rfl))) (pg_name (i := 3) sc_law_done.nd rfl (Or.inl rfl)) (pss_one (ps_if (pt_cmp (pc_din (hu_of hr) (pv 2) (pe_dget (hu_of hr) (pv 0) pe_str (fun _ _ => rfl))) (by rfl)) (pss_cons (ps_set (i := 4) sc_law_done.nd rfl (Or.inl rfl) (pe_dget (hu_of hr) (pe_dget (hu_of hr) (pv 0) pe_str (fun _ _ => rfl)) (pv 2) (fun _ _ => rfl))) (pss_one (ps_asg (pe_ix ix_tup (pv 3) pe_int (fun _ _ => rfl)) (pg_sub (pv 4) (pe_ix ix_tup (pv 3) pe_int (fun _ _ => rfl)) set_list)))) pss_nil))))) (pss_cons (ps_for PassesOwn.never rfl (pi_list (pe_dget (hu_of hr) (pv 0) pe_str (fun _ _ => rfl))) (pg_name (i := 5) sc_law_done.nd rfl (Or.inl rfl)) (pss_one (ps_dput (hu_of hr) (pe_dget (hu_of hr) (pv 0) pe_str (fun _ _ => rfl)) (pe_ix ix_tup (pv 5) pe_int (fun _ _ => rfl)) (pe_callTy cr_list (by rfl) Z.n_list (by decide +kernel) (pa_cons (pe_ix ix_tup (pv 5) pe_int (fun _ _ => rfl)) pa_nil)) rfl))) (pss_cons (ps_for PassesOwn.never rfl (pi_tup (pe_fld (pv 1) rfl)) (pg_name (i := 6) sc_law_done.nd rfl (Or.inl rfl)) (pss_one (ps_if (PW.pt (pw_and (pt_cmpR op_eq (pe_ix ix_tup (pv 6) pe_int (fun _ _ => rfl)) pe_str (nomark _)) (pw_and1 (pt_cmp (pc_dnotin (hu_of hr) (pe_ix ix_tup (pv 6) pe_int (fun _ _ => rfl)) (pe_dget (hu_of hr) (pv 0) pe_str (fun _ _ => rfl))) (by rfl))))) (pss_one (ps_dput (hu_of hr) (pe_dget (hu_of hr) (pv 0) pe_str (fun _ _ => rfl)) (pe_ix ix_tup (pv 6) pe_int (fun _ _ => rfl)) (pe_lst (pa_cons pe_non (pa_cons pe_non (pa_cons pe_non pa_nil)))) rfl)) pss_nil))) (pss_one (ps_ret pe_bl))))), ?_⟩
    walk_at "go"
    refine kDG.s hst hgv ?_
    walk_at "st"
    refine ⟨gv, gkv, ks, rfl, .inl gvd, hks, by omega, fun ys p2 hys hsrt hn2 => ?_⟩
    have e2 := Le.new (o := .lst (ys.map V.str)) hn2
    have g2 : upd H p2 (.lst (ys.map V.str)) p2 = some (.lst (ys.map V.str)) := upd_same
    generalize upd H p2 (.lst (ys.map V.str)) = H2 at e2 g2
    have n2 : ¬ KS kkv ky p2 := fun z => by
      rcases z with z | ⟨u, hu⟩
      · rw [z, kyd] at hn2; cases hn2
      · obtain ⟨c, ys, e, gc, _⟩ := hkp u _ hu
        cases e
        rw [hn2] at gc
        cases gc
    have hst2 := e2.get hst
    have kp2 : KyP H2 kkv b := hkp.lx e2 (fun _ _ _ z => z) (Int.le_refl b)
    have sS : ¬ KS kkv ky st := nKS hst nst (fun _ => nofun)
    have vS : ¬ KS kkv ky gv := nKS gvd ngv (fun _ => nofun)
    have aS : ¬ KS kkv ky aa := nKS aad naa (fun _ => nofun)
    obtain ⟨gx, hg⟩ := hA.at_
    have gS : ¬ KS kkv ky g := nKS hg (fun z => by rw [z, kyd] at hg; cases hg) (fun _ => nofun)
    refine kIL.mk (SqL.of g2) (kFor.go (walk_list (xs := ys.map V.str)) (fun i σ H' => KyN H2 H' ky kkv kkv b 0 ∧ ∃ u v c : Option V, σ = [some (.ref st), some (.ref g), u, v, c, none, none]) ⟨⟨Lx.refl, e2.get kyd, Nat.le_refl _, kp2, fun z a h => .inl (.inr ⟨z, h⟩)⟩, _, _, _, rfl⟩ (fun i σ H' _ z => SqL.of (z.1.x.at g2 (fun h => (n2 h).elim))) (fun i x σ H4 H5 hi z y => ?_) fun σ H4 z => ?_)
    · obtain ⟨hN, u, v, c, rfl⟩ := z
      obtain ⟨rfl, hx⟩ := y
      obtain ⟨z, hz, rfl⟩ : ∃ z ∈ ys, x = .str z := by
        obtain ⟨z, hz, e⟩ := List.mem_map.mp (List.mem_of_getElem? hx)
        exact ⟨z, hz, e.symm⟩
      obtain ⟨v', hv'⟩ := valV_key (kvs := gkv) (k := .inr z) (by rw [hks]; exact List.mem_map_of_mem (hys.mem_iff.mp hz))
      obtain ⟨kl, ls, trs, rfl, fkl, gkl, isl, l3, ht⟩ := hG.2 z v' hv'
      have s4 := hN.x.at hst2 (fun q => (sS q).elim)
      have v4 := hN.x.at (e2.get gvd) (fun q => (vS q).elim)
      walk_at "st"
      refine kDG.s s4 hgv ?_
      walk_at "st"
      refine kDG.s v4 hv' ?_
      refine kIL.mk (SqL.of (hN.x.at (e2.lst gkl) (fun q => (nB kl fkl q).elim))) (kFor.go (walk_list (xs := ls)) (fun j σ H' => KyN H2 H' ky kkv kkv b 0 ∧ ∃ v c : Option V, σ = [some (.ref st), some (.ref g), some (.str z), v, c, none, none]) ⟨hN, _, _, rfl⟩ (fun j σ H' _ z => SqL.of (z.1.x.at (e2.lst gkl) (fun q => (nB kl fkl q).elim))) (fun j x σ H6 H7 hj z2 y => ?_) fun σ H6 z2 => ?_)
      · obtain ⟨hN, v, c, rfl⟩ := z2
        obtain ⟨rfl, hx⟩ := y
        obtain ⟨t, _, htm, ist⟩ := isl_map ((isl.lx e2).lx hN.x) hx
        obtain ⟨px, rfl, spx⟩ := Is.ints_inv (ns := [t.1, t.2.1, t.2.2]) ist
        obtain ⟨⟨t0, t1⟩, t2, t3⟩ := ht t htm
        have s6 := hN.x.at hst2 (fun q => (sS q).elim)
        walk_at "st"
        refine kDG.s s6 hky ?_
        refine kDIn.s hN.d ?_
        refine k_bl ?_
        cases hq : valV kkv (.inr z) with
        | none =>
          refine k_ifF rfl ?_
          walk_at "st"
          exact ⟨hN, _, _, rfl⟩
        | some v =>
          refine k_ifT rfl ?_
          walk_at "st"
          obtain ⟨a, xs, rfl, ga, kx⟩ := hN.kp z v hq
          walk_at "st"
          refine kDG.s s6 hky ?_
          walk_at "st"
          refine kDG.s hN.d hq ?_
          walk_at "st"
          refine k_ixT spx (atI_nat (j := 2) rfl) ?_
          walk_at "st"
          refine k_ixT spx at0 ?_
          walk_at "st"
          obtain ⟨jj, hjj⟩ : ∃ jj : Nat, t.1 = (jj : Int) := ⟨t.1.toNat, by omega⟩
          rw [hjj]
          refine k_setL ga (by rw [kx.1]; omega) ?_
          walk_at "st"
          exact ⟨hN.set hq ga kx ⟨t2, t3⟩, _, _, rfl⟩
      · obtain ⟨hN, v, c, rfl⟩ := z2
        walk_at "st"
        exact ⟨hN, _, _, _, rfl⟩
    · obtain ⟨hN, u, v, c, rfl⟩ := z
      have s4 := hN.x.at hst2 (fun q => (sS q).elim)
      walk_at "st"
      refine kDG.s s4 hop ?_
      refine kIL.mk (SqL.of (hN.x.at (e2.lst opd) (fun q => (nB op bop q).elim))) (kFor.go (walk_list (xs := os)) (fun i σ H' => ∃ kkv', KyN H2 H' ky kkv kkv' b i ∧ ∃ w : Option V, σ = [some (.ref st), some (.ref g), u, v, c, w, none]) ⟨kkv, hN, _, rfl⟩ (fun i σ H' _ z => SqL.of (z.choose_spec.1.x.at (e2.lst opd) (fun q => (nB op bop q).elim))) (fun i x σ H6 H7 hj z2 y => ?_) fun σ H6 z2 => ?_)
      · obtain ⟨kkv', hN, w, rfl⟩ := z2
        obtain ⟨rfl, hx⟩ := y
        obtain ⟨p, kl, j, z, k, xs, rfl, sp, hz, f, gk, kx⟩ := hO.2 _ (List.mem_of_getElem? hx)
        have sp6 := hN.x.sqt (e2.sqt sp)
        have s6 := hN.x.at hst2 (fun q => (sS q).elim)
        walk_at "st"
        refine k_ixT sp6 (atI_nat (j := 2) rfl) ?_
        walk_at "st"
        refine k_listL (SqL.of (hN.x.at (e2.lst gk) (fun q => (nB kl f q).elim))) fun nl H8 e8 m8 g8 => ?_
        have hN8 := hN.le e8
        walk_at "st"
        refine kDG.s (e8.get s6) hky ?_
        walk_at "st"
        refine k_ixT (e8.sqt sp6) at1 ?_
        walk_at "st"
        refine kDP.s hN8.d (by have := hN8.len; have := hO.1; omega) ?_
        walk_at "st"
        exact ⟨_, hN8.put (hN.x.dom nl m8) g8 kx, _, rfl⟩
      · obtain ⟨kkv', hN, w, rfl⟩ := z2
        have hN := hN.mono hO.1
        walk_at "st"
        refine Z.f_deeds (hN.x.at (e2.get hg) (fun q => (gS q).elim)) ?_
        walk_at "st"
        refine kIT.mk (hN.x.sqt (e2.sqt hA.sd)) (kFor.go (walk_tup (xs := xd)) (fun i σ H' => ∃ kkv', KyN H2 H' ky kkv kkv' b (4 + i) ∧ ∃ w2 : Option V, σ = [some (.ref st), some (.ref g), u, v, c, w, w2]) ⟨kkv', hN, _, rfl⟩ (fun i σ H' _ z => z.choose_spec.1.x.sqt (e2.sqt hA.sd)) (fun i x σ H6 H7 hj z2 y => ?_) fun σ H6 z2 => ?_)
        · obtain ⟨kkv', hN, w2, rfl⟩ := z2
          obtain ⟨rfl, hx⟩ := y
          obtain ⟨d, _, hdm, isd⟩ := isl_map ((hA.id_.lx e2).lx hN.x) hx
          obtain ⟨p, wd, z, kz, rest, rfl, sp, hz, _⟩ := dd_word (hA.okd d hdm) isd
          have s6 := hN.x.at hst2 (fun q => (sS q).elim)
          walk_at "st"
          refine k_ixT sp at0 ?_
          walk_at "st"
          refine k_eq rfl ?_
          walk_at "st"
          refine k_if2 (fun _ => ?_) (fun _ => ?_)
          · walk_at "st"
            refine k_ixT sp at1 ?_
            walk_at "st"
            refine kDG.s s6 haa ?_
            refine kDIn.s (hN.x.at (e2.get aad) (fun q => (aS q).elim)) ?_
            refine k_bl ?_
            refine k_if2 (fun _ => ?_) (fun _ => ?_)
            · walk_at "st"
              refine kLst.mk (by show 3 ≤ 1000; decide) fun nl H8 e8 m8 g8 => ?_
              have hN8 := hN.le e8
              walk_at "st"
              refine kDG.s (e8.get s6) hky ?_
              walk_at "st"
              refine k_ixT (e8.sqt sp) at1 ?_
              walk_at "st"
              have hd4 := hA.d4
              have hxd : xd.length = ds.length := by rw [hA.id_.length, List.length_map]
              refine kDP.s hN8.d (by have := hN8.len; omega) ?_
              walk_at "st"
              exact ⟨_, hN8.put (hN.x.dom nl m8) g8 ⟨rfl, fun x hx => .inl (by
                rcases hx with _ | ⟨_, _ | ⟨_, _ | ⟨_, hx⟩⟩⟩
                · rfl
                · rfl
                · rfl
                · cases hx)⟩, _, rfl⟩
            · walk_at "st"
              exact ⟨_, hN.mono (Nat.le_succ _), _, rfl⟩
          · walk_at "st"
            exact ⟨_, hN.mono (Nat.le_succ _), _, rfl⟩
        · obtain ⟨kkv', hN, w2, rfl⟩ := z2
          have hd4 := hA.d4
          have hxd : xd.length = ds.length := by rw [hA.id_.length, List.length_map]
          walk_at "st"
          exact q kkv' H6 ((hN.from_ e2).mono (by omega))
end G
end
section
set_option Elab.async false
set_option linter.all false
set_option maxRecDepth 100000
set_option maxHeartbeats 1000000
namespace G
open PySem PySem.Spec PyProof.Rows L2
local macro_rules | `(tactic| walk_at "st") => `(tactic| repeat (first
  | with_reducible refine k_seq ?_
  | with_reducible refine k_asg ?_
  | with_reducible refine k_gn ?_
  | with_reducible refine k_op ?_
  | ((with_reducible refine' k_var ?vh ?_); (case vh => rfl))
  | with_reducible refine k_c ?_
  | with_reducible refine k_cons ?_
  | with_reducible refine k_nil ?_
  | with_reducible refine k_I0 ?_
  | with_reducible refine k_ret ?_
  | with_reducible refine k_if ?_
  | with_reducible refine k_test ?_
  | with_reducible refine k_bl ?_
  | with_reducible refine k_cb ?_
  | with_reducible refine k_cl ?_
  | with_reducible refine k_int ?_
  | with_reducible refine k_tup ?_
  | with_reducible refine k_lst ?_
  | with_reducible refine k_fld ?_
  | with_reducible refine k_mt ?_
  | with_reducible refine k_for ?_
  | with_reducible refine k_iL ?_
  | with_reducible refine k_iT ?_
  | with_reducible refine k_iR1 ?_
  | with_reducible refine k_iS ?_
  | with_reducible refine k_par ?_
  | with_reducible refine k_ex2 ?_
  | with_reducible refine k_rfl2 ?_
  | with_reducible refine k_iZA ?_
  | with_reducible refine k_gcons ?_
  | with_reducible refine k_gnil ?_
  | with_reducible refine k_exI ?_
  | with_reducible refine k_bits ?_
  | with_reducible refine k_chain ?_
  | ((with_reducible refine' k_aug ?vh ?_); (case vh => rfl))
  | with_reducible refine k_ipI ?_
  | with_reducible refine k_inG ?_
  | with_reducible refine k_m1 ?_
  | with_reducible refine kM1.mk ?_
  | with_reducible refine k_yes ?_
  | with_reducible refine k_lc ?_
  | with_reducible refine k_andV ?_
  | with_reducible refine k_orV ?_
  | with_reducible refine k_tB ?_
  | with_reducible refine k_and ?_
  | with_reducible refine k_or ?_
  | with_reducible refine k_not ?_
  | with_reducible refine k_retN ?_
  | with_reducible refine k_next ?_
  | with_reducible refine k_fset ?_
  | with_reducible refine k_faug ?_
  | with_reducible refine k_sl ?_
  | with_reducible refine k_part ?_
  | with_reducible refine k_nopart ?_
  | with_reducible refine k_un ?_
  | with_reducible refine k_u1 ?_
  | with_reducible refine k_dget ?_
  | with_reducible refine k_din ?_
  | with_reducible refine k_dnin ?_
  | with_reducible refine k_dput ?_
  | with_reducible refine k_dget2 ?_
  | with_reducible refine k_bm ?_
  | with_reducible refine k_augs ?_
  | with_reducible refine k_gsub ?_
  | with_reducible refine k_enT ?_
  | with_reducible refine k_anyI ?_
  | with_reducible refine k_allI ?_
  | with_reducible refine k_lenX ?_
  | with_reducible refine k_sortX ?_
  | with_reducible refine k_drop ?_))
local macro_rules | `(tactic| walk_at "go") => `(tactic| ((try dsimp only [cxOf]); walk_at "st"))
local macro_rules | `(tactic| walk_at "len") => `(tactic| (simp only [List.length_append, List.length_map, List.length_cons, List.length_nil, List.length_replicate] at *; omega))

variable {P : Program} {w : World} {K : PySem.W.Frag} {mg : Str → Option Value} {base : Heap}
def spLLedger (K : PySem.W.Frag) : Sp := fun vs H Q _ => ∃ (sp : Addr) (sc : List Int), vs = [.ref sp] ∧ SqL K H sp (sc.map V.int) ∧ T3 K H ∧
  ∀ (p : Addr) (X : LdX) (o : Option Tree) (nv : V) (st ac ky kl al : Addr) (H' : Hp), Le H H' → SqT K H' p [.ref st, .ref X.s, .ref X.r, nv, .ref X.l] → LdE K X H' o 0 → MdO X.m → (1 ≤ X.kd ∧ X.kd ≤ 3) → H' st = some (.dK (kvB ac ky X.m X.kd)) → H' ac = some (.dK [(.inr "mint", .ref al)]) → H' ky = some (.dK [(.inr "mint", .ref kl)]) → H' kl = some (.lst [.int 1, .non, .non]) → kl ≠ X.tl → H kl = none → H st = none → H ky = none → (∀ a, X.S a → H a = none) → Q (.ref p) H'
theorem ok_law_ledger [Y : Tbs K mg base] (Z : Zed w K mg) : Fn P w K mg base CX0 57 (He.ga K "_law_ledger") (spLLedger K) := by
  have O_Ledger_init := ok_Ledger_init (P := P) (base := base) Z
  have O_Rules_init := ok_Rules_init (P := P) (base := base) Z
  have O_Sealer_init := ok_Sealer_init (P := P) (base := base) Z
  have O_law_begin := ok_law_begin (P := P) (base := base) Z
  have O_law_cell := ok_law_cell (P := P) (base := base) Z
  have O_law_modulus := ok_law_modulus (P := P) (base := base) Z
  have O_law_rules := ok_law_rules (P := P) (base := base) Z
  refine Fn.of0 (F_law_ledger Z) sc_law_ledger (fun _ _ _ _ _ _ us hl => match us, hl with | [_], _ => rfl) (fun vs H Q E h => ?_) (fun cdv A outer s H vs Q E hr h => ?_)
  · obtain ⟨sp, sc, rfl, _⟩ := h
    rfl
  · obtain ⟨sp, sc, rfl, hsp, ht, q⟩ := h
    refine ⟨_, (pss_cons (ps_set (i := 1) sc_law_ledger.nd rfl (Or.inl rfl) (pe_f O_law_modulus hr (by decide) Z.g__law_modulus pass0 (pa_cons (pe_f O_law_cell hr (by decide) Z.g__law_cell pass0 (pa_cons (pv 0) (pa_cons pe_int pa_nil))) pa_nil))) (pss_cons (ps_set (i := 2) sc_law_ledger.nd rfl (Or.inl rfl) (pe_op op_add pe_int (pe_op op_mod (pe_callTy cr_int (by rfl) Z.n_int (by decide +kernel) (pa_cons (pe_f O_law_cell hr (by decide) Z.g__law_cell pass0 (pa_cons (pv 0) (pa_cons pe_int pa_nil))) pa_nil)) pe_int))) (pss_cons (ps_set (i := 3) sc_law_ledger.nd rfl (Or.inl rfl) (pe_f O_law_begin hr (by decide) Z.g__law_begin pass0 (pa_cons (pv 1) (pa_cons (pv 2) (pa_cons (pe_op op_fdiv (pe_f O_law_cell hr (by decide) Z.g__law_cell pass0 (pa_cons (pv 0) (pa_cons pe_int pa_nil))) pe_int) pa_nil))))) (pss_cons (ps_set (i := 4) sc_law_ledger.nd rfl (Or.inl rfl) (pe_f O_law_rules hr (by decide) Z.g__law_rules pass0 (pa_cons (pe_f O_law_cell hr (by decide) Z.g__law_cell pass0 (pa_cons (pv 0) (pa_cons pe_int pa_nil))) (pa_cons (pv 2) pa_nil)))) (pss_cons (ps_set (i := 5) sc_law_ledger.nd rfl (Or.inl rfl) (pe_callTy cr_tuple (by rfl) Z.n_tuple (by decide +kernel) (pa_cons (pe_ix ix_list (pe_dget (hu_of hr) (pe_dget (hu_of hr) (pv 3) pe_str (fun _ _ => rfl)) pe_str (fun _ _ => rfl)) pe_int (fun _ _ => rfl)) pa_nil))) (pss_cons (ps_set (i := 6) sc_law_ledger.nd rfl (Or.inl rfl) (pe_mk Z.m_Sealer O_Sealer_init hr (by decide) Z.g_Sealer pass0 (pa_cons (pv 1) pa_nil))) (pss_cons (ps_set (i := 7) sc_law_ledger.nd rfl (Or.inl rfl) (pe_mk Z.m_Rules O_Rules_init hr (by decide) Z.g_Rules pass0 (pa_cons (pv 2) (pa_cons (pe_ix ix_tup (pv 4) pe_int (fun _ _ => rfl)) (pa_cons (pe_ix ix_tup (pv 4) pe_int (fun _ _ => rfl)) pa_nil))))) (pss_one (ps_ret (pe_tup (pa_cons (pv 3) (pa_cons (pv 6) (pa_cons (pv 7) (pa_cons (pv 5) (pa_cons (pe_mk Z.m_Ledger O_Ledger_init hr (by decide) Z.g_Ledger pass0 (pa_cons (pv 6) (pa_cons (pv 7) (pa_cons (pv 5) pa_nil)))) pa_nil))))))))))))))), ?_⟩
    walk_at "go"
    refine ⟨sp, sc, 0, rfl, hsp, fun c0 => ?_⟩
    walk_at "st"
    refine ⟨c0, rfl, fun m H1 hm e1 => ?_⟩
    walk_at "st"
    refine ⟨sp, sc, 1, rfl, e1.sql hsp, fun c1 => ?_⟩
    walk_at "st"
    refine k_I (by decide) ?_
    walk_at "st"
    obtain ⟨kd, hkd⟩ : ∃ kd : Nat, 1 + c1 % 3 = (kd : Int) := ⟨(1 + c1 % 3).toNat, by omega⟩
    have hk13 : 1 ≤ kd ∧ kd ≤ 3 := by omega
    rw [hkd]
    refine ⟨sp, sc, 1, rfl, e1.sql hsp, fun c2 => ?_⟩
    walk_at "st"
    refine k_I ⟨by decide, by decide⟩ ?_
    walk_at "st"
    refine ⟨m, _, kd, rfl, hm, hk13, fun st ac ky kl al wl an ns H2 e2 nst nky nkl g2 ga2 gl2 gn2 hns gk2 gkl2 => ?_⟩
    walk_at "st"
    refine ⟨sp, sc, 2, rfl, (e1.trans e2).sql hsp, fun c3 => ?_⟩
    walk_at "st"
    refine ⟨c3, kd, rfl, hk13, fun p3 d fee rkv H3 e3 s3 g3 hrt hfee => ?_⟩
    walk_at "st"
    refine kDG.s (e3.get g2) rfl ?_
    walk_at "st"
    refine kDG.s (e3.get ga2) rfl ?_
    walk_at "st"
    refine k_ixL (SqL.of (e3.lst gl2)) at1 ?_
    walk_at "st"
    refine k_tupleL (SqL.of (e3.lst gn2)) fun nt H4 e4 n4 g4 => ?_
    have e04 := e1.trans (e2.trans (e3.trans e4))
    have e34 := e3.trans e4
    walk_at "st"
    refine k_mk ?_
    walk_at "st"
    refine kMk.mk fun sl sdx H5 e5 n5 g5 => ?_
    refine ⟨sl, sdx, m, rfl, hm.1, hm.2, g5, fun H6 x6 hs6 => ⟨rfl, ?_⟩⟩
    have e46 : Le H4 H6 := e5.drop x6 (fun a z => by rw [z]; exact n5)
    walk_at "st"
    refine k_mk ?_
    walk_at "st"
    refine k_ixT ((e4.trans e46).sqt s3) at1 ?_
    walk_at "st"
    refine k_ixT ((e4.trans e46).sqt s3) (atI_nat (j := 2) rfl) ?_
    walk_at "st"
    refine kMk.mk fun rl rdx H7 e7 n7 g7 => ?_
    have e67 := e7
    refine ⟨rl, kd, fee, d, rkv, rdx, rfl, g7, (ht.lx (e04.trans (e46.trans e7))), (e4.trans (e46.trans e7)).get g3, hrt.lx (e4.trans (e46.trans e7)), hk13, hfee, fun rd H8 x8 hru => ⟨rfl, ?_⟩⟩
    have e68 : Le H6 H8 := e7.drop x8 (fun a z => by rw [z]; exact n7)
    have e48 := e46.trans e68
    have e08 := e04.trans e48
    walk_at "st"
    refine k_mk ?_
    walk_at "st"
    refine kMk.mk fun ll ldx H9 e9 n9 g9 => ?_
    have e89 := e9
    refine ⟨ll, sl, rl, ldx, .ref nt, m, kd, fee, rd, rkv, ns, rfl, g9, hs6.le (e68.trans e9), hru.le e9, ht.lx (e08.trans e9), Is.of_ints (SqT.of ((e48.trans e9).get g4)), hns, fun rc tl ch sh o H10 x10 nrc ntl hd => ⟨rfl, ?_⟩⟩
    have e810 : Le H8 H10 := e9.drop x10 (fun a z => by rw [z]; exact n9)
    have e210 : Le H2 H10 := e34.trans (e48.trans e810)
    walk_at "st"
    refine kTup.mk (by show 5 ≤ 1000; decide) fun p11 H11 e11 n11 g11 => ?_
    have e211 := e210.trans e11
    have e011 := (e08.trans e810).trans e11
    obtain ⟨tv, j, hda⟩ := hd
    refine q p11 ⟨ll, ldx, sl, rl, m, kd, fee, rd, rkv, rc, tl, ch, sh⟩ (some o) (.ref nt) st ac ky kl al H11 e011 (SqT.of g11) ⟨tv, j, hda.le e11⟩ hm hk13 (e211.get g2) (e211.get ga2) (e211.get gk2) (e211.get gkl2) (fun z => ?_) (e1.dom kl nkl) (e1.dom st nst) (e1.dom ky nky) (fun a z => ?_)
    · have h9 := ((e34.trans e48).trans e9).get gkl2
      rw [z] at h9
      rw [show H9 tl = none from ntl] at h9
      cases h9
    · rcases z with z | z | z
      · rw [z]; exact e08.dom ll n9
      · rw [z]; exact (e08.trans e9).dom rc nrc
      · rw [z]; exact (e08.trans e9).dom tl ntl
end G
end
section
set_option Elab.async false
set_option linter.all false
set_option maxRecDepth 100000
set_option maxHeartbeats 1000000
namespace G
open PySem PySem.Spec PyProof.Rows L2
local macro_rules | `(tactic| walk_at "st") => `(tactic| repeat (first
  | with_reducible refine k_seq ?_
  | with_reducible refine k_asg ?_
  | with_reducible refine k_gn ?_
  | with_reducible refine k_op ?_
  | ((with_reducible refine' k_var ?vh ?_); (case vh => rfl))
  | with_reducible refine k_c ?_
  | with_reducible refine k_cons ?_
  | with_reducible refine k_nil ?_
  | with_reducible refine k_I0 ?_
  | with_reducible refine k_ret ?_
  | with_reducible refine k_if ?_
  | with_reducible refine k_test ?_
  | with_reducible refine k_bl ?_
  | with_reducible refine k_cb ?_
  | with_reducible refine k_cl ?_
  | with_reducible refine k_int ?_
  | with_reducible refine k_tup ?_
  | with_reducible refine k_lst ?_
  | with_reducible refine k_fld ?_
  | with_reducible refine k_mt ?_
  | with_reducible refine k_for ?_
  | with_reducible refine k_iL ?_
  | with_reducible refine k_iT ?_
  | with_reducible refine k_iR1 ?_
  | with_reducible refine k_iS ?_
  | with_reducible refine k_par ?_
  | with_reducible refine k_ex2 ?_
  | with_reducible refine k_rfl2 ?_
  | with_reducible refine k_iZA ?_
  | with_reducible refine k_gcons ?_
  | with_reducible refine k_gnil ?_
  | with_reducible refine k_exI ?_
  | with_reducible refine k_bits ?_
  | with_reducible refine k_chain ?_
  | ((with_reducible refine' k_aug ?vh ?_); (case vh => rfl))
  | with_reducible refine k_ipI ?_
  | with_reducible refine k_inG ?_
  | with_reducible refine k_m1 ?_
  | with_reducible refine kM1.mk ?_
  | with_reducible refine k_yes ?_
  | with_reducible refine k_lc ?_
  | with_reducible refine k_andV ?_
  | with_reducible refine k_orV ?_
  | with_reducible refine k_tB ?_
  | with_reducible refine k_and ?_
  | with_reducible refine k_or ?_
  | with_reducible refine k_not ?_
  | with_reducible refine k_retN ?_
  | with_reducible refine k_next ?_
  | with_reducible refine k_fset ?_
  | with_reducible refine k_faug ?_
  | with_reducible refine k_sl ?_
  | with_reducible refine k_part ?_
  | with_reducible refine k_nopart ?_
  | with_reducible refine k_un ?_
  | with_reducible refine k_u1 ?_
  | with_reducible refine k_dget ?_
  | with_reducible refine k_din ?_
  | with_reducible refine k_dnin ?_
  | with_reducible refine k_dput ?_
  | with_reducible refine k_dget2 ?_
  | with_reducible refine k_bm ?_
  | with_reducible refine k_augs ?_
  | with_reducible refine k_gsub ?_
  | with_reducible refine k_enT ?_
  | with_reducible refine k_anyI ?_
  | with_reducible refine k_allI ?_
  | with_reducible refine k_lenX ?_
  | with_reducible refine k_sortX ?_
  | with_reducible refine k_drop ?_))
local macro_rules | `(tactic| walk_at "go") => `(tactic| ((try dsimp only [cxOf]); walk_at "st"))
local macro_rules | `(tactic| walk_at "len") => `(tactic| (simp only [List.length_append, List.length_map, List.length_cons, List.length_nil, List.length_replicate] at *; omega))

variable {P : Program} {w : World} {K : PySem.W.Frag} {mg : Str → Option Value} {base : Heap}
theorem LdA.lx {S : Addr → Prop} {X : LdX} {H H' : Hp} {o : Option Tree} {n : Nat} {tv : V} {j : Str} (h : LdA K X H o n tv j) (x : Lx S H H') (n1 : ¬ S X.l) (n2 : ¬ S X.s) (n3 : ¬ S X.r) (n4 : ¬ S X.rd) (n5 : ¬ S X.rc) (n6 : ¬ S X.tl) : LdA K X H' o n tv j :=
  ⟨x.at h.at_ (fun z => (n1 z).elim), h.is.lx x, h.ac, h.se.lx x n2, h.ru.lx x n3 n4, h.t3.lx x, h.rcp.lx x n5, let ⟨ts, a, b⟩ := h.tl; ⟨ts, x.at a (fun z => (n6 z).elim), b⟩, h.jl⟩
def spLDo (K : PySem.W.Frag) : Sp := fun vs H Q _ => ∃ (B : Hp) (X : LdX) (o : Option Tree) (n : Nat) (st g gv op ky : Addr) (kvs gkv kkv : List (Key × V)) (os : List V) (b : Int) (ds : List Dd) (sg : List Sg) (ge : Int) (pd psg : Addr) (xd xs : List V), vs = [.ref st, .ref X.l, .ref g] ∧
  LdE K X H o n ∧ n < 18 ∧ GrA K H g X.kd X.m ds sg ge pd psg xd xs ∧ Bd ge ∧ B g = none ∧
  H st = some (.dK kvs) ∧ kvs.length ≤ 800 ∧ valV kvs (.inr "given") = some (.ref gv) ∧ valV kvs (.inr "opened") = some (.ref op) ∧ valV kvs (.inr "keys") = some (.ref ky) ∧ H gv = some (.dK gkv) ∧ gkv.length ≤ 4 ∧ GvL K B H b gkv ∧ H op = some (.lst os) ∧ OpL K B H b 4 os ∧
  H ky = some (.dK kkv) ∧ kkv.length ≤ 500 ∧ KyP H kkv b ∧ st ≠ ky ∧ gv ≠ ky ∧ gv ≠ st ∧ B op = none ∧ B ky ≠ none ∧ (∀ z a, valV kkv (.inr z) = some (.ref a) → B a ≠ none ∧ a ≠ X.tl) ∧ (∀ a, X.S a → B a ≠ none) ∧
  (∀ (p : Addr) (pl : Int) (wd : Str) (H' : Hp), wd ≠ "" → Le H H' → SqT K H' p [.int pl, .str wd] → Q (.ref p) H') ∧
  ∀ (o' : Option Tree) (ac : Addr) (akv kkv' : List (Key × V)) (H' : Hp), Lx (fun a => X.S a ∨ a = st ∨ KS kkv ky a) H H' → LdE K X H' o' (n + 1) → (∀ j, tot o' j = tot o j + netL ds j) → H ac = none → H' st = some (.dK (putK kvs (.inr "accounts") (.ref ac))) → H' ac = some (.dK akv) → NmK akv → akv.length ≤ 8 →
    H' ky = some (.dK kkv') → kkv'.length ≤ kkv.length + 8 → KyP H' kkv' b → (∀ z a, valV kkv' (.inr z) = some (.ref a) → KS kkv ky a ∨ H a = none) → Q .non H'
theorem ok_law_do [Pz P] [Y : Tbs K mg base] (Z : Zed w K mg) : Fn P w K mg base CX0 108 (He.ga K "_law_do") (spLDo K) := by
  have O_Ledger_do := ok_Ledger_do (P := P) (base := base) Z
  have O_law_done := ok_law_done (P := P) (base := base) Z
  have O_law_sync := ok_law_sync (P := P) (base := base) Z
  have O_Ledger_do := ok_Ledger_do (P := P) (base := base) Z
  refine Fn.of0 (F_law_do Z) sc_law_do (fun _ _ _ _ _ _ us hl => match us, hl with | [_, _, _], _ => rfl) (fun vs H Q E h => ?_) (fun cdv A outer s H vs Q E hr h => ?_)
  · obtain ⟨B, X, o, n, st, g, gv, op, ky, kvs, gkv, kkv, os, b, ds, sg, ge, pd, psg, xd, xs, rfl, _⟩ := h
    rfl
  · obtain ⟨B, X, o, n, st, g, gv, op, ky, kvs, gkv, kkv, os, b, ds, sg, ge, pd, psg, xd, xs, rfl, hd, hn, hA, hge, bg, hst, hkl, hgv, hop, hky, gvd, hgl, hG, opd, hO, kyd, hkkl, hkp, nst, ngv, ngs, bop, bky, bls, bX, qx, q⟩ := h
    refine ⟨_, (pss_cons (ps_try_as (i := 3) (tb := fun W => tDrop (tMtS (He.ga K "Ledger") "do" (spLdDo K) (WE W) (tVar 1) (tCons (tVar 2) tNil))) (ts := fun a cls d => tRet (tTup (tCons (tXf a cls d (He.ga K "GroupRefused") "index_of_deed" (tVar 3)) (tCons (tXf a cls d (He.ga K "GroupRefused") "word" (tVar 3)) tNil)))) (Wout := fun _ _ _ _ => False) rfl rfl sc_law_do.nd rfl rfl ⟨rfl, by decide, Or.inl Z.g_GroupRefused⟩ takesNo
      (fun W pn xe tk _ => pss_one (ps_expr (pe_mS Z.c_Ledger Z.t_Ledger_do O_Ledger_do hr (by decide) (fun σ => passAt tk σ) (pv 1) (pa_cons (pv 2) pa_nil))))
      (fun a oe cls d pn hz hf => pss_one (ps_ret (pe_tup (pa_cons (pe_xf Z.gr.xf Z.gr.no1 hz hf (pv 3)) (pa_cons (pe_xf Z.gr.xf Z.gr.no2 hz hf (pv 3)) pa_nil)))))) (pss_cons (ps_expr (pe_f O_law_sync hr (by decide) Z.g__law_sync pass0 (pa_cons (pv 0) (pa_cons (pv 1) pa_nil)))) (pss_cons (ps_expr (pe_f O_law_done hr (by decide) Z.g__law_done pass0 (pa_cons (pv 0) (pa_cons (pv 2) pa_nil)))) (pss_one (ps_ret pe_non))))), ?_⟩
    walk_at "go"
    obtain ⟨tv, j, hda⟩ := hd
    obtain ⟨gx, hg⟩ := hA.at_
    have bXrc : B X.rc ≠ none := bX _ (.inr (.inl rfl))
    have ngrc : g ≠ X.rc := fun z => bXrc (by rw [← z]; exact bg)
    have gXS : ¬ X.S g := hda.nS hg (by show 3 < 9; decide) (.inr ngrc)
    refine k_mtS ?_
    walk_at "st"
    refine kMt.mk hda.at_ (by kernel_rfl) ?_
    walk_at "st"
    refine ⟨X, o, n, g, ds, sg, ge, pd, psg, xd, xs, rfl, ⟨tv, j, hda⟩, hn, hA, hge, ngrc, fun pl wd d H1 hw e1 hd1 => ?_, fun z o' H1 x1 hd1 htot => ?_⟩
    · refine ⟨true, Z.gr.te, fun _ a ha => ?_, fun h => nomatch h⟩
      walk_at "st"
      refine k_xf ?_
      walk_at "st"
      refine kXf.mk (v := .int pl) hd1 (by kernel_rfl) ?_
      walk_at "st"
      refine k_xf ?_
      walk_at "st"
      refine kXf.mk (v := .str wd) hd1 (by kernel_rfl) ?_
      walk_at "st"
      exact kTup.mk (by show 2 ≤ 1000; decide) fun p H2 e2 n2 g2 => qx p pl wd H2 hw (e1.trans e2) (SqT.of g2)
    · obtain ⟨tv1, j1, hda1⟩ := hd1
      obtain ⟨trc, otrc, drc, hrc, _⟩ := hda.rcp
      obtain ⟨tls, htl, _⟩ := hda.tl
      have noX : ∀ {a : Addr} {kv : List (Key × V)}, H a = some (.dK kv) → ¬ X.S a := fun {a kv} ha z => by
        rcases z with z | z | z
        · rw [z, hda.at_] at ha; cases ha
        · rw [z, hrc] at ha; cases ha
        · rw [z, htl] at ha; cases ha
      have bXS : ∀ a, B a = none → ¬ X.S a := fun a ha z => bX a z ha
      have s1 := x1.at hst (fun z => (noX hst z).elim)
      have gv1 := x1.at gvd (fun z => (noX gvd z).elim)
      have ky1 := x1.at kyd (fun z => (noX kyd z).elim)
      have op1 := x1.at opd (fun z => (bXS op bop z).elim)
      have kp1 : KyP H1 kkv b := fun z v hv => by
        obtain ⟨a, ys, rfl, ga, kx⟩ := hkp z v hv
        refine ⟨a, ys, rfl, x1.at ga (fun q => ?_), kx⟩
        rcases q with q | q | q
        · rw [q, hda.at_] at ga; cases ga
        · rw [q, hrc] at ga; cases ga
        · exact ((bls z a hv).2 q).elim
      walk_at "st"
      refine ⟨st, kvs, X, o', tv1, j1, rfl, s1, by omega, hda1.at_, hda1.is, hda1.ac, fun ac akv H2 x2 nac s2 a2 hnm hal => ?_⟩
      have nas : ac ≠ st := fun z => by rw [z, s1] at nac; cases nac
      have nak : ac ≠ ky := fun z => by rw [z, ky1] at nac; cases nac
      have vput : ∀ {z : Str} {v : V}, valV kvs (.inr z) = some v → (z ≠ "accounts") → valV (putK kvs (.inr "accounts") (.ref ac)) (.inr z) = some v := fun {z v} h hz => by rw [valV_put, if_neg (fun e => hz (Sum.inr.inj e)), h]
      have gst : g ≠ st := fun z => by rw [z, hst] at hg; cases hg
      have st2 : ∀ {a : Addr} {o : HO}, H1 a = some o → (∀ kv, o ≠ .dK kv) → ¬ a = st := fun {a o} ha ho z => by
        rw [z, s1] at ha
        exact ho _ (Option.some.inj ha).symm
      have stB : ∀ {a : Addr} {xs : List V}, H1 a = some (.lst xs) → ¬ a = st := fun ha => st2 ha (fun _ => nofun)
      have hG1 := hG.lx x1 bXS (Int.le_refl b)
      have hO1 := hO.lx x1 bXS (Int.le_refl b) (Nat.le_refl 4)
      have hG2 : GvL K B H2 b gkv := ⟨hG1.1, fun z v e => by
        obtain ⟨kl, ys, trs, rfl, f, g, i, l, t⟩ := hG1.2 z v e
        exact ⟨kl, ys, trs, rfl, f, x2.at g (fun q => (stB g q).elim), i.lx x2, l, t⟩⟩
      have hO2 : OpL K B H2 b 4 os := ⟨hO1.1, fun y hy => by
        obtain ⟨p, kl, j, z, k, xs, rfl, s, hz, f, g, k2⟩ := hO1.2 y hy
        exact ⟨p, kl, j, z, k, xs, rfl, x2.sqt s, hz, f, x2.at g (fun q => (stB g q).elim), k2⟩⟩
      have kp2 : KyP H2 kkv b := kp1.lx x2 (fun a xs g z => stB g z) (Int.le_refl b)
      walk_at "st"
      refine ⟨B, st, g, gv, op, ac, ky, putK kvs (.inr "accounts") (.ref ac), gkv, akv, kkv, os, b, X.kd, X.m, ds, sg, ge, pd, psg, xd, xs, rfl, s2, vput hgv (by decide +kernel), vput hop (by decide +kernel), vput hky (by decide +kernel), by rw [valV_put, if_pos rfl], x2.at gv1 (fun z => (ngs z).elim), hgl, hG2, x2.at op1 (fun z => (stB op1 z).elim), hO2, a2, x2.at ky1 (fun z => (nst z.symm).elim), hkkl, kp2, (hA.lx x1 gXS).lx x2 gst, nst, ngv, nak, bop, bky, fun z a hz => (bls z a hz).1, fun kkv' H3 hN => ?_⟩
      have nKS : ∀ {a : Addr} {o : HO}, H2 a = some o → a ≠ ky → (∀ xs, o ≠ .lst xs) → ¬ KS kkv ky a := fun {a o} ha hne ho z => by
        rcases z with z | ⟨u, hu⟩
        · exact hne z
        · obtain ⟨c, ys, e, gc, _⟩ := kp2 u _ hu
          cases e
          rw [ha] at gc
          exact ho ys (Option.some.inj gc)
      have ky2 := x2.at ky1 (fun z => (nst z.symm).elim)
      have nky : ∀ {a : Addr} {o : HO}, H2 a = some o → (∀ kv, o ≠ .dK kv) → a ≠ ky := fun {a o} ha ho z => by
        rw [z, ky2] at ha
        exact ho _ (Option.some.inj ha).symm
      obtain ⟨trc1, otrc1, drc1, hrc1, _⟩ := hda1.rcp
      obtain ⟨tls1, htl1, _⟩ := hda1.tl
      obtain ⟨⟨sx, hs1⟩, _⟩ := hda1.se
      obtain ⟨rx, hr1⟩ := hda1.ru.at_
      have hd2 : LdA K X H2 o' (n + 1) tv1 j1 := hda1.lx x2 (st2 hda1.at_ (fun _ => nofun)) (st2 hs1 (fun _ => nofun)) (st2 hr1 (fun _ => nofun)) (st2 hda1.ru.rts (fun _ => nofun)) (st2 hrc1 (fun _ => nofun)) (stB htl1)
      obtain ⟨trc2, otrc2, drc2, hrc2, _⟩ := hd2.rcp
      obtain ⟨tls2, htl2, _⟩ := hd2.tl
      obtain ⟨⟨sx2, hs2⟩, _⟩ := hd2.se
      obtain ⟨rx2, hr2⟩ := hd2.ru.at_
      have hd3 : LdA K X H3 o' (n + 1) tv1 j1 := hd2.lx hN.x (nKS hd2.at_ (nky hd2.at_ (fun _ => nofun)) (fun _ => nofun)) (nKS hs2 (nky hs2 (fun _ => nofun)) (fun _ => nofun)) (nKS hr2 (nky hr2 (fun _ => nofun)) (fun _ => nofun)) (nKS hd2.ru.rts (nky hd2.ru.rts (fun _ => nofun)) (fun _ => nofun)) (nKS hrc2 (nky hrc2 (fun _ => nofun)) (fun _ => nofun)) (fun z => by
        rcases z with z | ⟨u, hu⟩
        · exact nky htl2 (fun _ => nofun) z
        · exact (bls u _ hu).2 rfl)
      have x3 : Lx (fun a => X.S a ∨ a = st ∨ KS kkv ky a) H H3 := (x1.mono fun a z => .inl z).trans ((x2.mono (S' := fun a => X.S a ∨ a = st ∨ KS kkv ky a) fun a z => .inr (.inl z)).trans (hN.x.mono fun a z => .inr (.inr z)))
      walk_at "st"
      refine q o' ac akv kkv' H3 x3 ⟨tv1, j1, hd3⟩ htot (x1.dom ac nac) (hN.x.at s2 (fun z => (nKS s2 nst (fun _ => nofun) z).elim)) (hN.x.at a2 (fun z => (nKS a2 nak (fun _ => nofun) z).elim)) hnm hal hN.d hN.len hN.kp (fun z a hz => (hN.sp z a hz).imp id fun e => x1.dom a (x2.dom a e))
end G
end
section
set_option Elab.async false
set_option linter.all false
set_option maxRecDepth 100000
set_option maxHeartbeats 1000000
namespace G
open PySem PySem.Spec PyProof.Rows L2
local macro_rules | `(tactic| walk_at "st") => `(tactic| repeat (first
  | with_reducible refine k_seq ?_
  | with_reducible refine k_asg ?_
  | with_reducible refine k_gn ?_
  | with_reducible refine k_op ?_
  | ((with_reducible refine' k_var ?vh ?_); (case vh => rfl))
  | with_reducible refine k_c ?_
  | with_reducible refine k_cons ?_
  | with_reducible refine k_nil ?_
  | with_reducible refine k_I0 ?_
  | with_reducible refine k_ret ?_
  | with_reducible refine k_if ?_
  | with_reducible refine k_test ?_
  | with_reducible refine k_bl ?_
  | with_reducible refine k_cb ?_
  | with_reducible refine k_cl ?_
  | with_reducible refine k_int ?_
  | with_reducible refine k_tup ?_
  | with_reducible refine k_lst ?_
  | with_reducible refine k_fld ?_
  | with_reducible refine k_mt ?_
  | with_reducible refine k_for ?_
  | with_reducible refine k_iL ?_
  | with_reducible refine k_iT ?_
  | with_reducible refine k_iR1 ?_
  | with_reducible refine k_iS ?_
  | with_reducible refine k_par ?_
  | with_reducible refine k_ex2 ?_
  | with_reducible refine k_rfl2 ?_
  | with_reducible refine k_iZA ?_
  | with_reducible refine k_gcons ?_
  | with_reducible refine k_gnil ?_
  | with_reducible refine k_exI ?_
  | with_reducible refine k_bits ?_
  | with_reducible refine k_chain ?_
  | ((with_reducible refine' k_aug ?vh ?_); (case vh => rfl))
  | with_reducible refine k_ipI ?_
  | with_reducible refine k_inG ?_
  | with_reducible refine k_m1 ?_
  | with_reducible refine kM1.mk ?_
  | with_reducible refine k_yes ?_
  | with_reducible refine k_lc ?_
  | with_reducible refine k_andV ?_
  | with_reducible refine k_orV ?_
  | with_reducible refine k_tB ?_
  | with_reducible refine k_and ?_
  | with_reducible refine k_or ?_
  | with_reducible refine k_not ?_
  | with_reducible refine k_retN ?_
  | with_reducible refine k_next ?_
  | with_reducible refine k_fset ?_
  | with_reducible refine k_faug ?_
  | with_reducible refine k_sl ?_
  | with_reducible refine k_part ?_
  | with_reducible refine k_nopart ?_
  | with_reducible refine k_un ?_
  | with_reducible refine k_u1 ?_
  | with_reducible refine k_dget ?_
  | with_reducible refine k_din ?_
  | with_reducible refine k_dnin ?_
  | with_reducible refine k_dput ?_
  | with_reducible refine k_dget2 ?_
  | with_reducible refine k_bm ?_
  | with_reducible refine k_augs ?_
  | with_reducible refine k_gsub ?_
  | with_reducible refine k_enT ?_
  | with_reducible refine k_anyI ?_
  | with_reducible refine k_allI ?_
  | with_reducible refine k_lenX ?_
  | with_reducible refine k_sortX ?_
  | with_reducible refine k_drop ?_))
local macro_rules | `(tactic| walk_at "go") => `(tactic| ((try dsimp only [cxOf]); walk_at "st"))
local macro_rules | `(tactic| walk_at "len") => `(tactic| (simp only [List.length_append, List.length_map, List.length_cons, List.length_nil, List.length_replicate] at *; omega))

variable {P : Program} {w : World} {K : PySem.W.Frag} {mg : Str → Option Value} {base : Heap}
theorem cl_ints : ∀ ns : List Int, PyData.canLayAll0 (ns.map PyData.int) = true ∧ PyData.depthAll (ns.map PyData.int) = 0
  | [] => ⟨by simp only [List.map_nil, PyData.canLayAll0], by simp only [List.map_nil, PyData.depthAll]⟩
  | n :: r => by
    obtain ⟨a, b⟩ := cl_ints r
    refine ⟨?_, ?_⟩
    · simp only [List.map_cons, PyData.canLayAll0, PyData.canLay0, a, Bool.and_self]
    · simp only [List.map_cons, PyData.depthAll, PyData.depth, b, Nat.max_self]
theorem nm_str : ∀ n ∈ nmA, PyData.canLay0 (.str n.1) = true := by decide +kernel
theorem leaf_lay {kd : Nat} {L : Leaf} (h : AcL kd L) : PyData.canLay0 (leafD L) = true ∧ PyData.depth (leafD L) ≤ 2 := by
  obtain ⟨a, b⟩ := cl_ints L.ws
  obtain ⟨c, d⟩ := cl_ints L.ns
  have e := nm_str _ h.nm
  have f : PyData.canLay0 (.str "leaf") = true := by decide +kernel
  unfold leafD
  refine ⟨?_, ?_⟩
  · simp only [PyData.canLay0, PyData.canLayAll0, Bool.and_true, Bool.and_eq_true] at e f ⊢
    exact ⟨f, e, a, c⟩
  · simp only [PyData.depth, PyData.depthAll, b, d]
    decide
theorem lay_all : ∀ {l : List PyData}, (∀ d ∈ l, PyData.canLay0 d = true ∧ PyData.depth d ≤ 2) → PyData.canLayAll0 l = true ∧ PyData.depthAll l ≤ 2
  | [], _ => ⟨by simp only [PyData.canLayAll0], by simp only [PyData.depthAll]; decide⟩
  | x :: r, h => by
    obtain ⟨a, b⟩ := h x List.mem_cons_self
    obtain ⟨c, d⟩ := lay_all (l := r) fun y hy => h y (List.mem_cons_of_mem _ hy)
    refine ⟨?_, ?_⟩
    · simp only [PyData.canLayAll0, a, c, Bool.and_self]
    · simp only [PyData.depthAll]
      omega
theorem AcO.lv {kd : Nat} {o : Option Tree} (h : AcO kd o) {L : Leaf} (hL : L ∈ lvsO o) : AcL kd L := by
  cases o with
  | none => cases hL
  | some t => exact (h t rfl).2 L hL
theorem lvs_lay {kd : Nat} {o : Option Tree} (h : AcO kd o) : PyData.canLay0 (.list ((lvsO o).map leafD)) = true ∧ SeqAt.shaped (.list ((lvsO o).map leafD)) = true := by
  obtain ⟨a, b⟩ := lay_all (l := (lvsO o).map leafD) fun d hd => by
    obtain ⟨L, hL, rfl⟩ := List.mem_map.mp hd
    exact leaf_lay (h.lv hL)
  have c : PyData.canLay0 (.list ((lvsO o).map leafD)) = true := by simp only [PyData.canLay0, a]
  refine ⟨c, ?_⟩
  unfold SeqAt.shaped
  rw [c, Bool.true_and]
  refine decide_eq_true ?_
  simp only [PyData.depth]
  omega
theorem wAt_get {kd k : Nat} {L : Leaf} (h : AcL kd L) (hk : k < kd) : atI (L.ws.map V.int) (k : Int) = some (.int (wAt k L)) := by
  have hl : k < L.ws.length := by rw [h.len]; exact hk
  refine atI_nat ?_
  rw [List.getElem?_map, List.getElem?_eq_getElem hl]
  show some (V.int _) = some (V.int (L.ws.getD k 0))
  rw [List.getD_eq_getElem?_getD, List.getElem?_eq_getElem hl]
  rfl
theorem wAt_bd {kd k : Nat} {L : Leaf} (h : AcL kd L) (hk : k < kd) : 0 ≤ wAt k L ∧ wAt k L ≤ 1000000000000 := by
  have hl : k < L.ws.length := by rw [h.len]; exact hk
  have e : wAt k L = L.ws[k] := by
    show L.ws.getD k 0 = _
    rw [List.getD_eq_getElem?_getD, List.getElem?_eq_getElem hl]
    rfl
  rw [e]
  exact h.ws _ (List.getElem_mem hl)
/-- law_do, by what both ends share -/
theorem do_join {vs : List V} {H : Hp} {Q : VK} {E : XK} (J : VK) (hq : ∀ v H', J v H' → Q v H') (h : spLDo K vs H J E) : spLDo K vs H Q E := by
  obtain ⟨B, X, o, n, st, g, gv, op, ky, kvs, gkv, kkv, os, b, ds, sg, ge, pd, psg, xd, xs, e, hd, hn, hA, hge, bg, hst, hkl, hgv, hop, hky, gvd, hgl, hG, opd, hO, kyd, hkkl, hkp, nst, ngv, ngs, bop, bky, bls, bX, qx, q⟩ := h
  exact ⟨B, X, o, n, st, g, gv, op, ky, kvs, gkv, kkv, os, b, ds, sg, ge, pd, psg, xd, xs, e, hd, hn, hA, hge, bg, hst, hkl, hgv, hop, hky, gvd, hgl, hG, opd, hO, kyd, hkkl, hkp, nst, ngv, ngs, bop, bky, bls, bX, fun p pl wd H' a b c => hq _ _ (qx p pl wd H' a b c), fun o' ac akv kkv' H' a1 a2 a3 a4 a5 a6 a7 a8 a9 a10 a11 a12 => hq _ _ (q o' ac akv kkv' H' a1 a2 a3 a4 a5 a6 a7 a8 a9 a10 a11 a12)⟩
end G
end
section
set_option Elab.async false
set_option linter.all false
set_option maxRecDepth 100000
set_option maxHeartbeats 1000000
namespace G
open PySem PySem.Spec PyProof.Rows L2
local macro_rules | `(tactic| walk_at "st") => `(tactic| repeat (first
  | with_reducible refine k_seq ?_
  | with_reducible refine k_asg ?_
  | with_reducible refine k_gn ?_
  | with_reducible refine k_op ?_
  | ((with_reducible refine' k_var ?vh ?_); (case vh => rfl))
  | with_reducible refine k_c ?_
  | with_reducible refine k_cons ?_
  | with_reducible refine k_nil ?_
  | with_reducible refine k_I0 ?_
  | with_reducible refine k_ret ?_
  | with_reducible refine k_if ?_
  | with_reducible refine k_test ?_
  | with_reducible refine k_bl ?_
  | with_reducible refine k_cb ?_
  | with_reducible refine k_cl ?_
  | with_reducible refine k_int ?_
  | with_reducible refine k_tup ?_
  | with_reducible refine k_lst ?_
  | with_reducible refine k_fld ?_
  | with_reducible refine k_mt ?_
  | with_reducible refine k_for ?_
  | with_reducible refine k_iL ?_
  | with_reducible refine k_iT ?_
  | with_reducible refine k_iR1 ?_
  | with_reducible refine k_iS ?_
  | with_reducible refine k_par ?_
  | with_reducible refine k_ex2 ?_
  | with_reducible refine k_rfl2 ?_
  | with_reducible refine k_iZA ?_
  | with_reducible refine k_gcons ?_
  | with_reducible refine k_gnil ?_
  | with_reducible refine k_exI ?_
  | with_reducible refine k_bits ?_
  | with_reducible refine k_chain ?_
  | ((with_reducible refine' k_aug ?vh ?_); (case vh => rfl))
  | with_reducible refine k_ipI ?_
  | with_reducible refine k_inG ?_
  | with_reducible refine k_m1 ?_
  | with_reducible refine kM1.mk ?_
  | with_reducible refine k_yes ?_
  | with_reducible refine k_lc ?_
  | with_reducible refine k_andV ?_
  | with_reducible refine k_orV ?_
  | with_reducible refine k_tB ?_
  | with_reducible refine k_and ?_
  | with_reducible refine k_or ?_
  | with_reducible refine k_not ?_
  | with_reducible refine k_retN ?_
  | with_reducible refine k_next ?_
  | with_reducible refine k_fset ?_
  | with_reducible refine k_faug ?_
  | with_reducible refine k_sl ?_
  | with_reducible refine k_part ?_
  | with_reducible refine k_nopart ?_
  | with_reducible refine k_un ?_
  | with_reducible refine k_u1 ?_
  | with_reducible refine k_dget ?_
  | with_reducible refine k_din ?_
  | with_reducible refine k_dnin ?_
  | with_reducible refine k_dput ?_
  | with_reducible refine k_dget2 ?_
  | with_reducible refine k_bm ?_
  | with_reducible refine k_augs ?_
  | with_reducible refine k_gsub ?_
  | with_reducible refine k_enT ?_
  | with_reducible refine k_anyI ?_
  | with_reducible refine k_allI ?_
  | with_reducible refine k_lenX ?_
  | with_reducible refine k_sortX ?_
  | with_reducible refine k_drop ?_))
local macro_rules | `(tactic| walk_at "go") => `(tactic| ((try dsimp only [cxOf]); walk_at "st"))
local macro_rules | `(tactic| walk_at "len") => `(tactic| (simp only [List.length_append, List.length_map, List.length_cons, List.length_nil, List.length_replicate] at *; omega))

variable {P : Program} {w : World} {K : PySem.W.Frag} {mg : Str → Option Value} {base : Heap}
theorem LdA.stx {X : LdX} {H H' : Hp} {o : Option Tree} {n : Nat} {tv : V} {j : Str} {st : Addr} {kvs : List (Key × V)} (h : LdA K X H o n tv j) (x : Lx (fun a => a = st) H H') (hs : H st = some (.dK kvs)) : LdA K X H' o n tv j := by
  have st2 : ∀ {a : Addr} {o : HO}, H a = some o → (∀ kv, o ≠ .dK kv) → ¬ a = st := fun {a o} ha ho z => by
    rw [z, hs] at ha
    exact ho _ (Option.some.inj ha).symm
  obtain ⟨trc, otrc, drc, hrc, _⟩ := h.rcp
  obtain ⟨tls, htl, _⟩ := h.tl
  obtain ⟨⟨sx, hs1⟩, _⟩ := h.se
  obtain ⟨rx, hr1⟩ := h.ru.at_
  exact h.lx x (st2 h.at_ (fun _ => nofun)) (st2 hs1 (fun _ => nofun)) (st2 hr1 (fun _ => nofun)) (st2 h.ru.rts (fun _ => nofun)) (st2 hrc (fun _ => nofun)) (st2 htl (fun _ => nofun))
theorem LdA.nn {X : LdX} {H : Hp} {o : Option Tree} {n : Nat} {tv : V} {j : Str} (h : LdA K X H o n tv j) : ∀ a, X.S a → H a ≠ none := fun a z q => by
  obtain ⟨trc, otrc, drc, hrc, _⟩ := h.rcp
  obtain ⟨tls, htl, _⟩ := h.tl
  rcases z with z | z | z
  · rw [z, h.at_] at q; cases q
  · rw [z, hrc] at q; cases q
  · rw [z, htl] at q; cases q
section
variable {H H' : Hp} {st aa ky ac : Addr} {kvs kvs2 akv akv' kkv kkv' : List (Key × V)} {n n2 m : Int} {kd c : Nat}
theorem StG.stx (h : StG H st kvs n m kd aa akv ky kkv) (hW : StW kvs kvs2 c n2) (x : Lx (fun a => a = st) H H') (hs : H' st = some (.dK kvs2)) (hl : kvs.length + c ≤ 500) (hn : n ≤ n2 ∧ n2 ≤ 90000) : StG H' st kvs2 n2 m kd aa akv ky kkv :=
  ⟨h.d.go hW hs (x.at h.d.acd (fun z => (h.as z).elim)) hl hn, hW.g h.ky (by decide +kernel), x.at h.kyd (fun z => (h.ks z).elim), h.ks, h.as, h.kp.lx x (fun a xs g z => by rw [z, h.d.at_] at g; cases g) hn.1⟩
theorem StG.le (h : StG H st kvs n m kd aa akv ky kkv) (e : Le H H') : StG H' st kvs n m kd aa akv ky kkv :=
  ⟨⟨e.get h.d.at_, h.d.len, h.d.nx, h.d.md, h.d.kn, h.d.ac, e.get h.d.acd, h.d.nm, h.d.al, h.d.mo, h.d.k13, h.d.n0⟩, h.ky, e.get h.kyd, h.ks, h.as, h.kp.lx e (fun _ _ _ z => z) (Int.le_refl n)⟩
theorem StG.acc (h : StG H st kvs n m kd aa akv ky kkv) (hs : H' st = some (.dK (putK kvs (.inr "accounts") (.ref ac)))) (ha : H' ac = some (.dK akv')) (hn : NmK akv') (hl : akv'.length ≤ 8) (hl2 : kvs.length ≤ 499) (ns : ac ≠ st) (hk : H' ky = some (.dK kkv')) (hp : KyP H' kkv' n) : StG H' st (putK kvs (.inr "accounts") (.ref ac)) n m kd ac akv' ky kkv' := by
  have vput : ∀ {z : Str} {v : V}, valV kvs (.inr z) = some v → (z ≠ "accounts") → valV (putK kvs (.inr "accounts") (.ref ac)) (.inr z) = some v := fun {z v} h hz => by rw [valV_put, if_neg (fun e => hz (Sum.inr.inj e)), h]
  have := length_putK kvs (.inr "accounts" : Key) (.ref ac)
  exact ⟨⟨hs, by omega, vput h.d.nx (by decide +kernel), vput h.d.md (by decide +kernel), vput h.d.kn (by decide +kernel), by rw [valV_put, if_pos rfl], ha, hn, hl, h.d.mo, h.d.k13, h.d.n0⟩, vput h.ky (by decide +kernel), hk, h.ks, ns, hp⟩
end
def kR2 (R : It → Hp → Prop) (vs : List V) (H1 : Hp) : Prop := ∃ i j : Int, vs = [.int i, .int j] ∧ (-(2 ^ 62) ≤ i ∧ i < 2 ^ 62 ∧ -(2 ^ 62) ≤ j ∧ j < 2 ^ 62) ∧ R (Itr i (j - i).toNat) H1
theorem k_iR2 {σ : L2.St} {H : Hp} {R : It → Hp → Prop} {tr : TA} (h : tr σ H (kR2 R)) : iRng2 tr σ H R := h
theorem kR2.mk {H : Hp} {R : It → Hp → Prop} {i j : Int} (k : Nat) (hk : (j - i).toNat = k) (hb : -1000 ≤ i ∧ i ≤ 1000 ∧ -1000 ≤ j ∧ j ≤ 1000) (q : R (Itr i k) H) : kR2 R [.int i, .int j] H := ⟨i, j, rfl, by omega, by rw [hk]; exact q⟩
theorem valV_one {k q : Key} {v u : V} (h : valV [(k, v)] q = some u) : u = v := by
  unfold valV at h
  by_cases e : k = q
  · simp [e] at h
    exact h.symm
  · simp [e] at h
theorem k_notV {ta : TE} {σ : L2.St} {H : Hp} {Q : VK} (h : ta σ H fun x H1 => ∃ c, x = .bl c ∧ Q (.bl (!c)) H1) : tNotV ta σ H Q := h
/-- ahead of a round -/
def RdS (K : PySem.W.Frag) (H0 : Hp) (X : LdX) (st ky : Addr) (i : Nat) (H : Hp) : Prop := Le H0 H ∧ ∃ (o : Option Tree) (n : Nat) (kvs akv kkv : List (Key × V)) (aa : Addr) (nx : Int), LdE K X H o n ∧ n ≤ i ∧ StG H st kvs nx X.m X.kd aa akv ky kkv ∧ kvs.length ≤ 10 + 8 * i ∧ kkv.length ≤ 1 + 8 * i ∧ nx ≤ 2 + 24 * i ∧ (∀ z a, valV kkv (.inr z) = some (.ref a) → a ≠ X.tl ∧ H0 a = none)
def spLaw (K : PySem.W.Frag) : Sp := fun vs H Q _ => ∃ (sp : Addr) (sc : List Int), vs = [.ref sp] ∧ SqL K H sp (sc.map V.int) ∧ sc.length ≤ 63 ∧ T3 K H ∧ ∀ H', Q (.bl true) H'
theorem ok_law [Pz P] [Y : Tbs K mg base] (Z : Zed w K mg) {fd : FuncData} (F : FunD K "law" "law" (defArgs s_law) (defBody s_law) (defScope s_law) [] [] (He.fAd K ("law", none)) fd) : FnOk P w K mg base CX0 109 (He.ga K "law") fd ["_law_script"] (spLaw K) := by
  have O_Ledger_epoch := ok_Ledger_epoch (P := P) (base := base) Z
  have O_Ledger_tree := ok_Ledger_tree (P := P) (base := base) Z
  have O_law_cell := ok_law_cell (P := P) (base := base) Z
  have O_law_do := ok_law_do (P := P) (base := base) Z
  have O_law_group := ok_law_group (P := P) (base := base) Z
  have O_law_ledger := ok_law_ledger (P := P) (base := base) Z
  have O_law_net := ok_law_net (P := P) (base := base) Z
  have O_leaves_of := ok_leaves_of (P := P) (base := base) Z 49
  have O_minted := ok_minted (P := P) (base := base) Z
  refine FunD.okC (p := ("law", none)) F sc_law (fun vs H Q E h => ?_) (fun A outer s H vs Q E hr h => ?_)
  · obtain ⟨sp, sc, rfl, _⟩ := h
    rfl
  · obtain ⟨sp, sc, rfl, hsp, hsl, ht, q⟩ := h
    refine ⟨_, PSs.nox ((pss_cons (ps_asg (pe_f O_law_ledger hr (by decide) Z.g__law_ledger pass0 (pa_cons (pv 0) pa_nil)) (pg_tup rfl (pgs_cons (pg_name (i := 1) sc_law.nd rfl (Or.inl rfl)) (pgs_cons (pg_name (i := 2) sc_law.nd rfl (Or.inl rfl)) (pgs_cons (pg_name (i := 3) sc_law.nd rfl (Or.inl rfl)) (pgs_cons (pg_name (i := 4) sc_law.nd rfl (Or.inl rfl)) (pgs_cons (pg_name (i := 5) sc_law.nd rfl (Or.inl rfl)) pgs_nil))))))) (pss_cons (ps_for PassesOwn.never rfl (pi_range2 (by rfl) Z.n_range (pa_cons pe_int (pa_cons (pe_callB (call_min2 rfl) (by rfl) Z.n_min (by decide +kernel) (pa_cons pe_int (pa_cons (pe_callB (call_max2 rfl) (by rfl) Z.n_max (by decide +kernel) (pa_cons pe_int (pa_cons (pe_callB cr_len (by rfl) Z.n_len PySem.boot_len (pa_cons (pv 0) pa_nil)) pa_nil))) pa_nil))) pa_nil))) (pg_name (i := 6) sc_law.nd rfl (Or.inl rfl)) (pss_cons (ps_set (i := 7) sc_law.nd rfl (Or.inl rfl) (pe_f O_law_group hr (by decide) Z.g__law_group pass0 (pa_cons (pv 1) (pa_cons (pe_f O_law_cell hr (by decide) Z.g__law_cell pass0 (pa_cons (pv 0) (pa_cons (pv 6) pa_nil))) (pa_cons (pe_m0 Z.c_Ledger Z.t_Ledger_epoch O_Ledger_epoch hr (by decide) pass0 (pv 5)) pa_nil))))) (pss_cons (ps_set (i := 8) sc_law.nd rfl (Or.inl rfl) (pe_f O_leaves_of hr (by decide) Z.g_leaves_of pass0 (pa_cons (pe_m0 Z.c_Ledger Z.t_Ledger_tree O_Ledger_tree hr (by decide) pass0 (pv 5)) pa_nil))) (pss_cons (ps_set (i := 9) sc_law.nd rfl (Or.inl rfl) (pe_f O_law_do hr (by decide) Z.g__law_do pass0 (pa_cons (pv 1) (pa_cons (pv 5) (pa_cons (pv 7) pa_nil))))) (pss_cons (ps_set (i := 10) sc_law.nd rfl (Or.inl rfl) (pe_f O_leaves_of hr (by decide) Z.g_leaves_of pass0 (pa_cons (pe_m0 Z.c_Ledger Z.t_Ledger_tree O_Ledger_tree hr (by decide) pass0 (pv 5)) pa_nil))) (pss_cons (ps_if (PW.pt (pw_and (pt_cmpR op_notN (pv 9) pe_non (nomark _)) (pw_and1 (PW.pt (pw_or (pt_cmpR (op_neD hr.units) (pv 10) (pv 8) (nomark _)) (pw_or1 (pt_cmpR op_eq (pe_ix ix_tup (pv 9) pe_int (fun _ _ => rfl)) pe_str (nomark _)))))))) (pss_one (ps_ret pe_bl)) pss_nil) (pss_one (ps_for PassesOwn.never rfl (pi_range1 (by rfl) Z.n_range (pa_cons (pe_fld (pv 3) rfl) pa_nil)) (pg_name (i := 11) sc_law.nd rfl (Or.inr rfl)) (pss_cons (ps_if (pt_cmpR op_ne (pe_f O_minted hr (by decide) Z.g_minted pass0 (pa_cons (pv 7) (pa_cons (pv 11) pa_nil))) (pe_f O_law_net hr (by decide) Z.g__law_net pass0 (pa_cons (pv 7) (pa_cons (pv 11) pa_nil))) (nomark _)) (pss_one (ps_ret pe_bl)) pss_nil) (pss_cons (ps_set (i := 12) sc_law.nd rfl (Or.inl rfl) (pe_op op_sub (pe_callB (cr_sum rfl) (by rfl) Z.n_sum (by decide +kernel) (pa_cons (pe_lc (own := [("_law_leaf", 13)]) rfl sc_law.nd (pi_list (pv 10)) (blkOk_by (own := [("_law_leaf", 13)]) (N := ["_law_script", "_law_state", "_law_sealer", "_law_told", "_law_notes_here", "_law_ledger_here", "_law_k", "_law_group_here", "_law_before", "_law_refused", "_law_after", "_law_kind", "_law_change", "_law_leaf"]) (sc := defScope s_law) (by decide +kernel)) (fun _ _ _ _ _ => (pg_name (i := 13) sc_law.nd rfl (Or.inl rfl))) (fun _ _ _ _ _ => pts_nil) (fun _ _ _ _ _ => (pe_ix (ixT_b (K := K) rfl) (pe_ix (ixT_b (K := K) rfl) (pv 13) pe_int (fun _ _ => rfl)) (pv 11) (fun _ _ => rfl)))) pa_nil)) (pe_callB (cr_sum rfl) (by rfl) Z.n_sum (by decide +kernel) (pa_cons (pe_lc (own := [("_law_leaf", 13)]) rfl sc_law.nd (pi_list (pv 8)) (blkOk_by (own := [("_law_leaf", 13)]) (N := ["_law_script", "_law_state", "_law_sealer", "_law_told", "_law_notes_here", "_law_ledger_here", "_law_k", "_law_group_here", "_law_before", "_law_refused", "_law_after", "_law_kind", "_law_change", "_law_leaf"]) (sc := defScope s_law) (by decide +kernel)) (fun _ _ _ _ _ => (pg_name (i := 13) sc_law.nd rfl (Or.inl rfl))) (fun _ _ _ _ _ => pts_nil) (fun _ _ _ _ _ => (pe_ix (ixT_b (K := K) rfl) (pe_ix (ixT_b (K := K) rfl) (pv 13) pe_int (fun _ _ => rfl)) (pv 11) (fun _ _ => rfl)))) pa_nil)))) (pss_cons (ps_if (PW.pt (pw_and (pt_cmpR op_isN (pv 9) pe_non (nomark _)) (pw_and1 (pt_cmpR op_ne (pv 12) (pe_f O_law_net hr (by decide) Z.g__law_net pass0 (pa_cons (pv 7) (pa_cons (pv 11) pa_nil))) (nomark _))))) (pss_one (ps_ret pe_bl)) pss_nil) (pss_one (ps_if (pt_val (pe_callB (cr_any rfl) (by rfl) Z.n_any (by decide +kernel) (pa_cons (pe_lc (own := [("_law_leaf", 13)]) rfl sc_law.nd (pi_list (pv 10)) (blkOk_by (own := [("_law_leaf", 13)]) (N := ["_law_script", "_law_state", "_law_sealer", "_law_told", "_law_notes_here", "_law_ledger_here", "_law_k", "_law_group_here", "_law_before", "_law_refused", "_law_after", "_law_kind", "_law_change", "_law_leaf"]) (sc := defScope s_law) (by decide +kernel)) (fun _ _ _ _ _ => (pg_name (i := 13) sc_law.nd rfl (Or.inl rfl))) (fun _ _ _ _ _ => pts_nil) (fun _ _ _ _ _ => (pe_not (pe_chain op_le op_le pe_int (pe_ix (ixT_b (K := K) rfl) (pe_ix (ixT_b (K := K) rfl) (pv 13) pe_int (fun _ _ => rfl)) (pv 11) (fun _ _ => rfl)) (pe_op op_pow pe_int pe_int))))) pa_nil))) (pss_one (ps_ret pe_bl)) pss_nil))))))))))))) (pss_one (ps_ret pe_bl))))), ?_⟩
    walk_at "go"
    refine ⟨sp, sc, rfl, hsp, ht, fun p X o0 nv st ac ky kl al H1 e1 sq hd hm hk hst hac hky hkl nkl klf stf kyf Xf => ?_⟩
    walk_at "st"
    refine k_gtup sq rfl ?_
    walk_at "st"
    refine k_iR2 ?_
    walk_at "st"
    refine k_lenL (e1.sql hsp) ?_
    walk_at "st"
    rw [List.length_map]
    walk_at "st"
    refine ⟨_, _, rfl, ?_⟩
    walk_at "st"
    refine ⟨_, _, rfl, ?_⟩
    walk_at "st"
    obtain ⟨rr, hrr, hr18⟩ : ∃ rr : Nat, ((if (if (sc.length : Int) > 8 then (sc.length : Int) else 8) < 21 then (if (sc.length : Int) > 8 then (sc.length : Int) else 8) else 21) - 3).toNat = rr ∧ rr ≤ 18 := ⟨_, rfl, by split <;> split <;> omega⟩
    refine kR2.mk rr hrr (by split <;> split <;> omega) (kFor.go (walk_range (lo := 3) (n := rr)) (fun i σ H' => RdS K H X st ky i H' ∧ ∃ a6 a7 a8 a9 a10 a11 a12 : Option V, σ = [some (.ref sp), some (.ref st), some (.ref X.s), some (.ref X.r), some nv, some (.ref X.l), a6, a7, a8, a9, a10, a11, a12, none]) ⟨⟨e1, o0, 0, kvB ac ky X.m X.kd, [(.inr "mint", .ref al)], [(.inr "mint", .ref kl)], ac, 2, hd, Nat.le_refl 0, ?_, by show 5 ≤ 10 + 8 * 0; decide, by show 1 ≤ 1 + 8 * 0; decide, by decide, ?_⟩, _, _, _, _, _, _, _, rfl⟩ (fun _ _ _ _ _ => trivial) (fun i x σ H2 H3 hi z y => ?_) fun σ H2 z => ?_)
    · refine ⟨⟨hst, by show 5 ≤ 500; decide, rfl, rfl, rfl, rfl, hac, fun p hp => ⟨_, mint_nA, ?_⟩, by show 1 ≤ 8; decide, hm, hk, by decide, by decide⟩, rfl, hky, fun z => ?_, fun z => ?_, fun z v hv => ?_⟩
      · rw [List.mem_singleton.mp hp]
      · rw [z, hst] at hky
        have e := HO.dK.inj (Option.some.inj hky)
        exact absurd (congrArg List.length e) (by show ¬ 5 = 1; decide)
      · rw [z, hst] at hac
        have e := HO.dK.inj (Option.some.inj hac)
        exact absurd (congrArg List.length e) (by show ¬ 5 = 1; decide)
      · obtain rfl := valV_one hv
        exact ⟨kl, _, rfl, hkl, rfl, fun x hx => by
          rcases hx with _ | ⟨_, _ | ⟨_, _ | ⟨_, hx⟩⟩⟩
          · exact .inr ⟨1, rfl, by decide, by decide⟩
          · exact .inl rfl
          · exact .inl rfl
          · cases hx⟩
    · intro z a hv
      have := valV_one hv
      cases this
      exact ⟨nkl, klf⟩
    · obtain ⟨⟨e2, o, n, kvs, akv, kkv, aa, nx, ⟨tv, j, hd2⟩, hn, hS, hkv, hkk, hnx, hkl2⟩, a6, a7, a8, a9, a10, a11, a12, rfl⟩ := z
      have ex : x = V.int ((3 + i : Nat) : Int) := y.2.trans (congrArg V.int (by show (3 : Int) + (i : Int) = _; omega))
      rw [ex, y.1]
      walk_at "st"
      refine ⟨sp, sc, 3 + i, rfl, e2.sql hsp, fun cz => ?_⟩
      walk_at "st"
      refine kMt.mk hd2.at_ (by kernel_rfl) ?_
      walk_at "st"
      refine ⟨X, tv, j, rfl, hd2.at_, ?_⟩
      walk_at "st"
      refine ⟨st, kvs, nx, X.m, cz, X.kd, aa, akv, ky, kkv, rfl, hS, by omega, by omega, fun g gv op gkv kvs2 os n2 ge ds sg pd psg xd xs H4 x4 ng hA hge hW hb s4 hgv hop ngv gvd hgl hG nop opd hO => ?_⟩
      have hd4 := hd2.stx x4 hS.d.at_
      have e4 : Le H H4 := e2.drop x4 (fun a z => z ▸ stf)
      walk_at "st"
      refine kMt.mk hd4.at_ (by kernel_rfl) ?_
      walk_at "st"
      refine ⟨X, tv, j, rfl, hd4.at_, ?_⟩
      walk_at "st"
      refine ⟨tv, o, rfl, by decide, hd4.is, hd4.ac.wfo, fun t h => dep_lt ((hd4.ac t h).1), fun rb bs H5 e5 n5 g5 ib => ?_⟩
      walk_at "st"
      have hS5 := (hS.stx hW x4 s4 (by omega) ⟨hb.1, by omega⟩).le e5
      have hd5 := hd4.le e5
      have nS2 : ∀ a, H2 a = none → ¬ (X.S a ∨ a = st ∨ KS kkv ky a) := fun a ha z => by
        rcases z with z | z | z | ⟨u, hu⟩
        · exact hd2.nn a z ha
        · rw [z, hS.d.at_] at ha; cases ha
        · rw [z, hS.kyd] at ha; cases ha
        · obtain ⟨c, ys, e, gc, _⟩ := hS.kp u _ hu
          cases e
          rw [ha] at gc; cases gc
      have nrb : ¬ (X.S rb ∨ rb = st ∨ KS kkv ky rb) := nS2 rb (x4.dom rb n5)
      have ngS : ¬ (X.S g ∨ g = st ∨ KS kkv ky g) := nS2 g ng
      have bkl : ∀ z a, valV kkv (.inr z) = some (.ref a) → H2 a ≠ none := fun z a hz q => by
        obtain ⟨c, ys, e, gc, _⟩ := hS.kp z _ hz
        cases e
        rw [q] at gc
        cases gc
      have hge1 : 0 ≤ ge ∧ ge ≤ 1 := by omega
      have tlk : ky ≠ X.tl := fun z => by
        obtain ⟨ts, a1, _⟩ := hd5.tl
        rw [← z, hS5.kyd] at a1; cases a1
      refine do_join (fun v H6 => ∃ (o' : Option Tree) (n' : Nat) (kvs' akv' kkv' : List (Key × V)) (aa' : Addr) (tv' : V) (j' : Str), Lx (fun a => X.S a ∨ a = st ∨ KS kkv ky a) H5 H6 ∧ LdA K X H6 o' n' tv' j' ∧ n' ≤ n + 1 ∧ StG H6 st kvs' n2 X.m X.kd aa' akv' ky kkv' ∧ kvs'.length ≤ kvs.length + 7 ∧ kkv'.length ≤ kkv.length + 8 ∧
        (∀ z a, valV kkv' (.inr z) = some (.ref a) → a ≠ X.tl ∧ H a = none) ∧ ((∃ (p : Addr) (pl : Int) (wd : Str), v = .ref p ∧ wd ≠ "" ∧ SqT K H6 p [.int pl, .str wd] ∧ o' = o) ∨ (v = .non ∧ ∀ j, tot o' j = tot o j + netL ds j))) (fun v H6 z => ?_)
        ⟨H2, X, o, n, st, g, gv, op, ky, kvs2, gkv, kkv, os, n2, ds, sg, ge, pd, psg, xd, xs, rfl, ⟨tv, j, hd5⟩, by omega, hA.le e5, bd_of (c := 1) hge1.1 hge1.2, ng, hS5.d.at_, by have := hW.len; omega, hgv, hop, hS5.ky, e5.get gvd, hgl, hG.lx e5 (fun _ _ z => z) (Int.le_refl _), e5.lst opd, hO.lx e5 (fun _ _ z => z) (Int.le_refl _) (Nat.le_refl 4), hS5.kyd, by omega, hS5.kp, fun z => hS.ks z.symm, (fun z => by rw [z, hS.kyd] at ngv; cases ngv), (fun z => by rw [z, hS.d.at_] at ngv; cases ngv), nop, (fun z => by rw [hS.kyd] at z; cases z), fun z a hz => ⟨bkl z a hz, (hkl2 z a hz).1⟩, hd2.nn,
          fun p pl wd H6 hw e6 sq6 => ⟨o, n, kvs2, akv, kkv, aa, tv, j, e6.of, hd5.le e6, Nat.le_succ n, hS5.le e6, by have := hW.len; omega, by omega, hkl2, .inl ⟨p, pl, wd, rfl, hw, sq6, rfl⟩⟩,
          fun o' ac2 akv2 kkv2 H6 x6 hd6 htot nac s6 a6 hnm hal k6 hkl6 hkp6 hsp6 => by
            obtain ⟨tv', j', hd6⟩ := hd6
            have nas : ac2 ≠ st := fun z => by rw [z, hS5.d.at_] at nac; cases nac
            refine ⟨o', n + 1, _, akv2, kkv2, ac2, tv', j', x6, hd6, Nat.le_refl _, hS5.acc s6 a6 hnm hal (by have := hW.len; omega) nas k6 hkp6, ?_, hkl6, fun z a hz => ?_, .inr ⟨rfl, htot⟩⟩
            · have := length_putK kvs2 (.inr "accounts" : Key) (.ref ac2)
              have := hW.len
              omega
            · rcases hsp6 z a hz with (q | ⟨u, hu⟩) | q
              · exact ⟨q ▸ tlk, q ▸ kyf⟩
              · exact hkl2 u a hu
              · exact ⟨fun e => hd5.nn a (.inr (.inr e)) q, (e4.trans e5).dom a q⟩⟩
      obtain ⟨o', n', kvs', akv', kkv', aa', tv', j', x6, hd6, hn', hS6, hkv6, hkk6, hkl6, hv⟩ := z
      have e6 : Le H H6 := (e4.trans e5).drop x6 (fun a z => by
        rcases z with z | z | z | ⟨u, hu⟩
        · exact Xf a z
        · rw [z]; exact stf
        · rw [z]; exact kyf
        · exact (hkl2 u a hu).2)
      walk_at "st"
      refine kMt.mk hd6.at_ (by kernel_rfl) ?_
      walk_at "st"
      refine ⟨X, tv', j', rfl, hd6.at_, ?_⟩
      walk_at "st"
      refine ⟨tv', o', rfl, by decide, hd6.is, hd6.ac.wfo, fun t h => dep_lt ((hd6.ac t h).1), fun ra as H7 e7 n7 g7 ia => ?_⟩
      have hb7 := e7.lst (x6.at g5 (fun z => (nrb z).elim))
      have ib7 := (ib.lx x6).lx e7
      have hA7 := ((hA.le e5).lx x6 ngS).le e7
      have hv7 : (∃ (p : Addr) (pl : Int) (wd : Str), v = .ref p ∧ wd ≠ "" ∧ SqT K H7 p [.int pl, .str wd] ∧ o' = o) ∨ (v = .non ∧ ∀ j, tot o' j = tot o j + netL ds j) := by
        rcases hv with ⟨p, pl, wd, a, b, c, d⟩ | h
        · exact .inl ⟨p, pl, wd, a, b, e7.sqt c, d⟩
        · exact .inr h
      have hal : as.length = (lvsO o').length := by rw [ia.length, List.length_map]
      have hbl : bs.length = (lvsO o).length := by rw [ib.length, List.length_map]
      have hal8 : as.length ≤ 8 := by rw [hal]; exact lvsO_le hd6.ac
      have hbl8 : bs.length ≤ 8 := by rw [hbl]; exact lvsO_le hd2.ac
      have hd7 := hd6.le e7
      obtain ⟨rx, hr7⟩ := hd7.ru.at_
      refine k_gn ?_
      dsimp only
      refine k_seqJ (fun σ H' => H7 = H' ∧ σ = [some (.ref sp), some (.ref st), some (.ref X.s), some (.ref X.r), some nv, some (.ref X.l), some (.int ((3 + i : Nat) : Int)), some (.ref g), some (.ref rb), some v, some (.ref ra), a11, a12, none]) (fun σ H' z => ?_) (fun R J => ?_)
      · obtain ⟨rfl, rfl⟩ := z
        walk_at "st"
        refine Z.f_kinds hr7 ?_
        walk_at "st"
        refine kR1.mk X.kd rfl (by omega) (kFor.rng (Pv := fun k σ H' => Le H7 H' ∧ ∃ b11 b12 : Option V, σ = [some (.ref sp), some (.ref st), some (.ref X.s), some (.ref X.r), some nv, some (.ref X.l), some (.int ((3 + i : Nat) : Int)), some (.ref g), some (.ref rb), some v, some (.ref ra), b11, b12, none]) X.kd ⟨Lx.refl, _, _, rfl⟩ (fun k σ H8 hkk z => ?_) fun σ H8 z => ?_)
        · obtain ⟨e8, b11, b12, rfl⟩ := z
          have hA8 := hA7.le e8
          walk_at "st"
          refine ⟨g, X.m, X.kd, ds, sg, ge, pd, psg, xd, xs, k, rfl, hA8, ?_⟩
          walk_at "st"
          refine ⟨g, X.m, X.kd, ds, sg, ge, pd, psg, xd, xs, k, rfl, hA8, ?_⟩
          walk_at "st"
          refine k_ne rfl ?_
          walk_at "st"
          refine k_ifF (by simp) ?_
          walk_at "st"
          refine kIL.mk (SqL.of (e8.lst g7)) (kLc.go (walk_list (xs := as)) (by omega) (fun i acc _ => acc = ((lvsO o').take i).map fun L => V.int (wAt k L)) (fun _ _ _ _ _ _ z => z) rfl (fun _ e => e.sql (SqL.of (e8.lst g7))) (fun E Nx i acc x Hx Hy hi e hp y fin _ => ?_) fun pa acc H9 e9 na g9 _ hppa => ?_)
          · obtain ⟨rfl, hx⟩ := y
            obtain ⟨L, hL1, hLm, isL⟩ := isl_map ((ia.lx e8).lx e) hx
            obtain ⟨lp, q1, r1, rfl, t1, t2, t3⟩ := leaf_inv isL
            walk_at "st"
            refine ⟨rfl, ?_⟩
            walk_at "st"
            refine k_ifT rfl ?_
            walk_at "st"
            refine k_ixT t1 (atI_nat (j := 2) rfl) ?_
            walk_at "st"
            refine k_ixT t2 (wAt_get (hd6.ac.lv hLm) hkk) ?_
            walk_at "st"
            refine fin _ _ Lx.refl ?_
            rw [List.take_add_one, hL1, List.map_append, ← hp]
            rfl
          rw [hal, List.take_length] at hppa
          walk_at "st"
          refine ⟨pa, (lvsO o').map (wAt k), rfl, by rw [hppa] at g9; rw [List.map_map]; exact SqL.of g9, ?_⟩
          walk_at "st"
          refine kIL.mk (SqL.of (e9.lst (e8.lst hb7))) (kLc.go (walk_list (xs := bs)) (by omega) (fun i acc _ => acc = ((lvsO o).take i).map fun L => V.int (wAt k L)) (fun _ _ _ _ _ _ z => z) rfl (fun _ e => e.sql (SqL.of (e9.lst (e8.lst hb7)))) (fun E Nx i acc x Hx Hy hi e hp y fin _ => ?_) fun pb acc H10 e10 na g10 _ hppb => ?_)
          · obtain ⟨rfl, hx⟩ := y
            obtain ⟨L, hL1, hLm, isL⟩ := isl_map (((ib7.lx e8).lx e9).lx e) hx
            obtain ⟨lp, q1, r1, rfl, t1, t2, t3⟩ := leaf_inv isL
            walk_at "st"
            refine ⟨rfl, ?_⟩
            walk_at "st"
            refine k_ifT rfl ?_
            walk_at "st"
            refine k_ixT t1 (atI_nat (j := 2) rfl) ?_
            walk_at "st"
            refine k_ixT t2 (wAt_get (hd2.ac.lv hLm) hkk) ?_
            walk_at "st"
            refine fin _ _ Lx.refl ?_
            rw [List.take_add_one, hL1, List.map_append, ← hp]
            rfl
          rw [hbl, List.take_length] at hppb
          walk_at "st"
          refine ⟨pb, (lvsO o).map (wAt k), rfl, by rw [hppb] at g10; rw [List.map_map]; exact SqL.of g10, ?_⟩
          have e710 := (e8.trans e9).trans e10
          have hA10 := hA7.le e710
          refine k_I0 ?_
          refine k_gn ?_
          dsimp only
          refine k_seqJ (fun σ H' => H10 = H' ∧ σ = [some (.ref sp), some (.ref st), some (.ref X.s), some (.ref X.r), some nv, some (.ref X.l), some (.int ((3 + i : Nat) : Int)), some (.ref g), some (.ref rb), some v, some (.ref ra), some (.int (k : Nat)), some (.int (((lvsO o').map (wAt k)).sum - ((lvsO o).map (wAt k)).sum)), none]) (fun σ H' z => ?_) (fun R J => ?_)
          · obtain ⟨rfl, rfl⟩ := z
            have ga10 := e710.lst g7
            walk_at "st"
            refine kIL.mk (SqL.of ga10) (kLc.go (walk_list (xs := as)) (by omega) (fun i acc _ => acc = (List.replicate i false).map V.bl) (fun _ _ _ _ _ _ z => z) rfl (fun _ e => e.sql (SqL.of ga10)) (fun E Nx i acc x Hx Hy hi e hp y fin _ => ?_) fun pc acc H11 e11 na g11 _ hpc => ?_)
            · obtain ⟨rfl, hx⟩ := y
              obtain ⟨L, hL1, hLm, isL⟩ := isl_map ((ia.lx e710).lx e) hx
              obtain ⟨lp, q1, r1, rfl, t1, t2, t3⟩ := leaf_inv isL
              obtain ⟨w0, w1⟩ := wAt_bd (hd6.ac.lv hLm) hkk
              walk_at "st"
              refine ⟨rfl, ?_⟩
              walk_at "st"
              refine k_ifT rfl ?_
              walk_at "st"
              refine k_notV ?_
              walk_at "st"
              refine k_ixT t1 (atI_nat (j := 2) rfl) ?_
              walk_at "st"
              refine k_ixT t2 (wAt_get (hd6.ac.lv hLm) hkk) ?_
              walk_at "st"
              refine k_ifT (decide_eq_true w0) ?_
              walk_at "st"
              refine k_I ⟨by decide, by decide, by decide⟩ ?_
              walk_at "st"
              have p12 : (10 : Int) ^ (12 : Int).toNat = 1000000000000 := by decide +kernel
              rw [decide_eq_true (show wAt k L ≤ 10 ^ (12 : Int).toNat by rw [p12]; exact w1)]
              refine fin _ _ Lx.refl ?_
              rw [hp, List.replicate_succ', List.map_append]
              rfl
            · walk_at "st"
              refine ⟨pc, List.replicate as.length false, rfl, by rw [hpc] at g11; exact SqL.of g11, ?_⟩
              walk_at "st"
              refine k_ifF (by simp) ?_
              walk_at "st"
              exact ⟨e710.trans e11, _, _, rfl⟩
          · rcases hv7 with ⟨p, pl, wd, rfl, hw, sq7, rfl⟩ | ⟨rfl, htot⟩
            · walk_at "st"
              refine k_ifF rfl ?_
              walk_at "st"
              exact J _ _ ⟨rfl, rfl⟩
            · walk_at "st"
              refine k_ifT rfl ?_
              walk_at "st"
              refine ⟨g, X.m, X.kd, ds, sg, ge, pd, psg, xd, xs, k, rfl, hA10, ?_⟩
              walk_at "st"
              refine k_ne rfl ?_
              walk_at "st"
              have hk2 : ((lvsO o').map (wAt k)).sum - ((lvsO o).map (wAt k)).sum = netL ds k := by
                have h := htot k
                have h1 : tot o' k = ((lvsO o').map (wAt k)).sum := rfl
                have h2 : tot o k = ((lvsO o).map (wAt k)).sum := rfl
                omega
              refine k_ifF (by rw [hk2]; simp) ?_
              walk_at "st"
              exact J _ _ ⟨rfl, rfl⟩
        · obtain ⟨e8, b11, b12, rfl⟩ := z
          walk_at "st"
          exact ⟨⟨(e6.trans e7).trans e8, o', n', kvs', akv', kkv', aa', n2, ⟨tv', j', hd7.le e8⟩, by omega, (hS6.le e7).le e8, by omega, by omega, by omega, hkl6⟩, _, _, _, _, _, _, _, rfl⟩
      · rcases hv7 with ⟨p, pl, wd, rfl, hw, sq7, rfl⟩ | ⟨rfl, htot⟩
        · walk_at "st"
          refine k_ifT rfl ?_
          walk_at "st"
          refine ⟨_, _, .lst (SqL.of g7) ia.dp, .lst (SqL.of hb7) ib7.dp, (lvs_lay hd6.ac).2, (lvs_lay hd6.ac).2, ?_⟩
          rw [SeqAt.eqv_refl _ (lvs_lay hd6.ac).1]
          refine k_bl ?_
          refine k_ifF rfl ?_
          walk_at "st"
          refine k_ixT sq7 at1 ?_
          walk_at "st"
          refine k_eq rfl ?_
          walk_at "st"
          refine k_ifF (decide_eq_false fun e => hw (by cases e; rfl)) ?_
          walk_at "st"
          exact J _ _ ⟨rfl, rfl⟩
        · walk_at "st"
          refine k_ifF rfl ?_
          walk_at "st"
          exact J _ _ ⟨rfl, rfl⟩
    · walk_at "st"
      exact q H2
end G
end
section
set_option Elab.async false
set_option linter.all false
set_option maxRecDepth 100000
set_option maxHeartbeats 0
namespace G
open PySem PySem.Spec PyProof.Rows L2
abbrev rwL : PySem.W.OpenLaw := PySem.Challenge.rw_sumgrove_k83_whole_money_only_by_minting
instance pzL : Pz rwL.prog := ⟨by kernel_rfl, by kernel_rfl⟩
theorem law_at {w : World} {mg : Str → Option Value} {f : Addr} {h : Heap} {K : PySem.W.Frag} (KX : K.In h) (Gn : h.Ns mainGlobals mg) (hmg : mg "law" = some (.ref f)) (c : He.SaysX fa fn ts tf HeadT.exZ w h K) (g : grV K = grW) : LamX.LawAtS rwL w K CX0 109 63 "_law_script" mg f h := by
  obtain ⟨m1, m2⟩ := He.ba c.more
  have Z : Zed w K mg := ⟨⟨h, KX, Gn⟩, c.t, m1, m2, g⟩
  obtain ⟨fd, F⟩ := F_law Z
  have e := hmg.symm.trans Z.g_law
  cases e
  have b := FunD.bindsA (ps := ["_law_script"]) F (fun _ _ _ _ _ _ us hl => match us, hl with | [_], _ => rfl)
  have cs : ∀ p ∈ tf.map (He.cT K), ∃ d ∈ tf, p = He.cT K d := fun p hp => by
    obtain ⟨d, hd, rfl⟩ := List.mem_map.mp hp
    exact ⟨d, hd, rfl⟩
  refine ⟨fd, tf.map (He.cT K), spLaw K, fun p hp => ?_, fun p hp => ?_, fun p hp => ?_, fun s v => b s [v] rfl, fun H a ns hl _ hT hS => ⟨a, ns, rfl, hS, hl, ?_, fun _ => rfl⟩, fun base hK hG hB => ?_⟩
  · obtain ⟨d, hd, rfl⟩ := cs p hp
    exact c.empty d hd
  · obtain ⟨d, hd, rfl⟩ := cs p hp
    exact c.out d hd
  · obtain ⟨d, hd, rfl⟩ := cs p hp
    exact PySem.W.codeHd_of_K KX (c.hd d hd)
  · have t0 : ∀ d ∈ tf, TabG H (He.cT K d).2 := fun d hd => ⟨#[], hT _ (List.mem_map_of_mem hd), ?_⟩
    · exact ⟨t0 _ (by simp [tf]), t0 _ (by simp [tf]), t0 _ (by simp [tf])⟩
    · exact trivial
  · have t0 : ∀ d ∈ tf, GxR.TabB base mg (He.cT K d).1 (He.cT K d).2 := fun d hd => let q := hB _ (List.mem_map_of_mem hd); ⟨q.code, q.bm, q.gP⟩
    haveI : Tbs K mg base := ⟨t0 _ (by simp [tf]), t0 _ (by simp [tf]), t0 _ (by simp [tf])⟩
    exact ok_law Z F
end G
open PySem PySem.W PySem.Calls PyProof.Rows
theorem PySem.Challenge.cw_sumgrove_k83_whole_money_only_by_minting_holds : PySem.Challenge.rw_sumgrove_k83_whole_money_only_by_minting.Holds := by
  refine HeadT.of_row fun said => ?_
  refine HandSHeadRun.head_any (r := HeadT.R) (q := HeadT.qv) (H := HeadT.hookZ) (ob := HeadT.ob) (M := 20000) (loose := HeadT.names) (d := HandSHeadRun.topDef HeadT.R.prog 145) (kwd := []) HeadT.ob_eq
    HeadT.h_e HeadT.h_f HeadT.run HeadT.h_def HeadT.h_p HeadT.h_k HeadT.h_wr said HeadT.h_ok HeadT.h_b HeadT.h_w ?hc
  case hc =>
    refine LamX.walk_ofTsE (l := G.rwL) (n := 63) (k := 109) (x := "_law_script") (CX := fun _ => L2.CX0) rfl (by decide) (by kernel_rfl) ⟨rfl, by decide, by decide⟩ ?F (fun _ _ _ _ _ z => z)
    intro w mg f h Y Gn hmg0
    obtain ⟨K, KX, c, g⟩ := Y
    have hmg : mg ("law" : PySem.Str) = some (.ref f) := by
      have e : (HandSHeadRun.topDef HeadT.R.prog 145).name = ("law" : PySem.Str) := by kernel_rfl
      rw [← e]
      exact hmg0
    exact ⟨K, KX, G.law_at KX Gn hmg c g⟩
end
