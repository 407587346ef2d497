import PyProof.Rows.All
import Wide.All
import OpenK.AllK
import Wide.FinOn
import KE.KStateDown
import KE.OsHead
import Lean
import HandS.ForSpec
import HandS.ForMost
import HandS.ExcInit
import HandS.ExcField
import HandS.Defaults
import HandS.Head0
import HandS.Head1
import HandS.Head2
import HandS.Head3
import HandS.Head4
import HandS.HeadHook1
import HandS.HeadHook2
import HandS.Codes
import KE.KeyNested
import PyProof.NeData
import PyProof.DictUpdate
import HandS.SetFor
import HandS.Strs
import HandS.SortRule
import HandS.SortInts
import HandS.Replace
import HandS.Conv
import HandS.Steps
import HandS.TryMany
import PyVakepb
import PySem.Challenge.RW_whykept_s01_answers
set_option Elab.async false
set_option linter.all false
set_option maxRecDepth 100000
set_option maxHeartbeats 0
namespace Wk
open PySem PySem.Spec PyProof.Rows L2
/-- the i-th statement of the program -/
def top (i : Nat) : Stmt := PySem.Challenge.pw_whykept_s01_answers.main.body.getD i (.Pass ⟨0, 0, 0, 0⟩)

abbrev s_Part___init__ : Stmt := inClass (top 5) 0
abbrev s_Program___init__ : Stmt := inClass (top 6) 0
abbrev s_Program_setting_names : Stmt := inClass (top 6) 1
abbrev s_Program_part_names : Stmt := inClass (top 6) 2
abbrev s_Program_number_of : Stmt := inClass (top 6) 3
abbrev s_Program_how_many_assignments : Stmt := inClass (top 6) 4
abbrev s_Program_assignment : Stmt := inClass (top 6) 5
abbrev s_Program_piece_word : Stmt := inClass (top 6) 6
abbrev s_Program_meant : Stmt := inClass (top 6) 7
abbrev s_listed : Stmt := top 7
abbrev s_statement_words : Stmt := top 8
abbrev s_block_words : Stmt := top 9
abbrev s_one_form : Stmt := top 10
abbrev s_Run___init__ : Stmt := inClass (top 14) 0
abbrev s_Run_depth : Stmt := inClass (top 14) 1
abbrev s_Run_enter : Stmt := inClass (top 14) 2
abbrev s_Run_call : Stmt := inClass (top 14) 3
abbrev s_Run_make : Stmt := inClass (top 14) 4
abbrev s_Run_do_one : Stmt := inClass (top 14) 5
abbrev s_Run_close : Stmt := inClass (top 14) 6
abbrev s_Run_next_one : Stmt := inClass (top 14) 7
abbrev s_Run_done : Stmt := inClass (top 14) 8
abbrev s_entered_exactly : Stmt := top 15
abbrev s_leads_in : Stmt := top 19
abbrev s_flat : Stmt := top 20
abbrev s_rising : Stmt := top 21
abbrev s_table_in : Stmt := top 22
abbrev s_table_of_all : Stmt := top 23
abbrev s_come_to : Stmt := top 24
abbrev s_shortest_chain : Stmt := top 26
abbrev s_Reached___init__ : Stmt := inClass (top 27) 0
abbrev s_Reached_worked_out : Stmt := inClass (top 27) 1
abbrev s_Reached_come_to : Stmt := inClass (top 27) 2
abbrev s_Reached_lost : Stmt := inClass (top 27) 3
abbrev s_Reached_size_of : Stmt := inClass (top 27) 4
abbrev s_Reached_lost_size : Stmt := inClass (top 27) 5
abbrev s_Reached_chain : Stmt := inClass (top 27) 6
abbrev s_Reached_chain_around : Stmt := inClass (top 27) 7
abbrev s_Reached_hangs_on : Stmt := inClass (top 27) 8
abbrev s_Reached_closest : Stmt := inClass (top 27) 9
abbrev s_Fault___init__ : Stmt := inClass (top 45) 0
abbrev s_sign_of : Stmt := top 46
abbrev s_run_end : Stmt := top 47
abbrev s_remark_end : Stmt := top 48
abbrev s_worth_of : Stmt := top 49
abbrev s_number_at : Stmt := top 50
abbrev s_token_at : Stmt := top 51
abbrev s_tokens_of : Stmt := top 52
abbrev s_Reader___init__ : Stmt := inClass (top 70) 0
abbrev s_Reader_where : Stmt := inClass (top 70) 1
abbrev s_Reader_comes : Stmt := inClass (top 70) 2
abbrev s_Reader_want : Stmt := inClass (top 70) 3
abbrev s_Reader_take : Stmt := inClass (top 70) 4
abbrev s_Reader_read : Stmt := inClass (top 70) 5
abbrev s_Reader_next_name : Stmt := inClass (top 70) 6
abbrev s_Reader_read_name : Stmt := inClass (top 70) 7
abbrev s_Reader_read_new_name : Stmt := inClass (top 70) 8
abbrev s_Reader_read_size : Stmt := inClass (top 70) 9
abbrev s_Reader_begin : Stmt := inClass (top 70) 10
abbrev s_Reader_goes_on : Stmt := inClass (top 70) 11
abbrev s_Reader_new_word : Stmt := inClass (top 70) 12
abbrev s_Reader_setting : Stmt := inClass (top 70) 13
abbrev s_Reader_piece : Stmt := inClass (top 70) 14
abbrev s_Reader_make : Stmt := inClass (top 70) 15
abbrev s_Reader_call : Stmt := inClass (top 70) 16
abbrev s_Reader_say : Stmt := inClass (top 70) 17
abbrev s_Reader_when : Stmt := inClass (top 70) 18
abbrev s_Reader_statement : Stmt := inClass (top 70) 19
abbrev s_Reader_block : Stmt := inClass (top 70) 20
abbrev s_Reader_part : Stmt := inClass (top 70) 21
abbrev s_Reader_entry : Stmt := inClass (top 70) 22
abbrev s_Reader_start : Stmt := inClass (top 70) 23
abbrev s_Reader_whole : Stmt := inClass (top 70) 24
abbrev s_read_program : Stmt := top 71
abbrev s_Refused___init__ : Stmt := inClass (top 79) 0
abbrev s_want : Stmt := top 80
abbrev s_told : Stmt := top 81
abbrev s_Desk___init__ : Stmt := inClass (top 82) 0
abbrev s_Desk_load : Stmt := inClass (top 82) 1
abbrev s_Desk_want_mode : Stmt := inClass (top 82) 2
abbrev s_Desk_want_parts : Stmt := inClass (top 82) 3
abbrev s_Desk_shown : Stmt := inClass (top 82) 4
abbrev s_Desk_chain : Stmt := inClass (top 82) 5
abbrev s_Desk_lost : Stmt := inClass (top 82) 6
abbrev s_Desk_tree : Stmt := inClass (top 82) 7
abbrev s_Desk_shares : Stmt := inClass (top 82) 8
abbrev s_Desk_around : Stmt := inClass (top 82) 9
abbrev s_Desk_both : Stmt := inClass (top 82) 10
abbrev s_Desk_heavy : Stmt := inClass (top 82) 11
abbrev s_Desk_asked : Stmt := inClass (top 82) 12
abbrev s_Desk_answer : Stmt := inClass (top 82) 13
abbrev s_rows_at : Stmt := top 83
abbrev s_answers : Stmt := top 84
def d_Part___init__ : He.DefD := ⟨("Part", some "__init__"), "__init__", "Part.__init__", defArgs s_Part___init__, defBody s_Part___init__, defScope s_Part___init__, [], []⟩
def d_Program___init__ : He.DefD := ⟨("Program", some "__init__"), "__init__", "Program.__init__", defArgs s_Program___init__, defBody s_Program___init__, defScope s_Program___init__, [], []⟩
def d_Program_setting_names : He.DefD := ⟨("Program", some "setting_names"), "setting_names", "Program.setting_names", defArgs s_Program_setting_names, defBody s_Program_setting_names, defScope s_Program_setting_names, [], []⟩
def d_Program_part_names : He.DefD := ⟨("Program", some "part_names"), "part_names", "Program.part_names", defArgs s_Program_part_names, defBody s_Program_part_names, defScope s_Program_part_names, [], []⟩
def d_Program_number_of : He.DefD := ⟨("Program", some "number_of"), "number_of", "Program.number_of", defArgs s_Program_number_of, defBody s_Program_number_of, defScope s_Program_number_of, [], []⟩
def d_Program_how_many_assignments : He.DefD := ⟨("Program", some "how_many_assignments"), "how_many_assignments", "Program.how_many_assignments", defArgs s_Program_how_many_assignments, defBody s_Program_how_many_assignments, defScope s_Program_how_many_assignments, [], []⟩
def d_Program_assignment : He.DefD := ⟨("Program", some "assignment"), "assignment", "Program.assignment", defArgs s_Program_assignment, defBody s_Program_assignment, defScope s_Program_assignment, [], []⟩
def d_Program_piece_word : He.DefD := ⟨("Program", some "piece_word"), "piece_word", "Program.piece_word", defArgs s_Program_piece_word, defBody s_Program_piece_word, defScope s_Program_piece_word, [], []⟩
def d_Program_meant : He.DefD := ⟨("Program", some "meant"), "meant", "Program.meant", defArgs s_Program_meant, defBody s_Program_meant, defScope s_Program_meant, [], []⟩
def d_listed : He.DefD := ⟨("listed", none), "listed", "listed", defArgs s_listed, defBody s_listed, defScope s_listed, [], []⟩
def d_statement_words : He.DefD := ⟨("statement_words", none), "statement_words", "statement_words", defArgs s_statement_words, defBody s_statement_words, defScope s_statement_words, [], []⟩
def d_block_words : He.DefD := ⟨("block_words", none), "block_words", "block_words", defArgs s_block_words, defBody s_block_words, defScope s_block_words, [], []⟩
def d_one_form : He.DefD := ⟨("one_form", none), "one_form", "one_form", defArgs s_one_form, defBody s_one_form, defScope s_one_form, [], []⟩
def d_Run___init__ : He.DefD := ⟨("Run", some "__init__"), "__init__", "Run.__init__", defArgs s_Run___init__, defBody s_Run___init__, defScope s_Run___init__, [], []⟩
def d_Run_depth : He.DefD := ⟨("Run", some "depth"), "depth", "Run.depth", defArgs s_Run_depth, defBody s_Run_depth, defScope s_Run_depth, [], []⟩
def d_Run_enter : He.DefD := ⟨("Run", some "enter"), "enter", "Run.enter", defArgs s_Run_enter, defBody s_Run_enter, defScope s_Run_enter, [], []⟩
def d_Run_call : He.DefD := ⟨("Run", some "call"), "call", "Run.call", defArgs s_Run_call, defBody s_Run_call, defScope s_Run_call, [], []⟩
def d_Run_make : He.DefD := ⟨("Run", some "make"), "make", "Run.make", defArgs s_Run_make, defBody s_Run_make, defScope s_Run_make, [], []⟩
def d_Run_do_one : He.DefD := ⟨("Run", some "do_one"), "do_one", "Run.do_one", defArgs s_Run_do_one, defBody s_Run_do_one, defScope s_Run_do_one, [], []⟩
def d_Run_close : He.DefD := ⟨("Run", some "close"), "close", "Run.close", defArgs s_Run_close, defBody s_Run_close, defScope s_Run_close, [], []⟩
def d_Run_next_one : He.DefD := ⟨("Run", some "next_one"), "next_one", "Run.next_one", defArgs s_Run_next_one, defBody s_Run_next_one, defScope s_Run_next_one, [], []⟩
def d_Run_done : He.DefD := ⟨("Run", some "done"), "done", "Run.done", defArgs s_Run_done, defBody s_Run_done, defScope s_Run_done, [], []⟩
def d_entered_exactly : He.DefD := ⟨("entered_exactly", none), "entered_exactly", "entered_exactly", defArgs s_entered_exactly, defBody s_entered_exactly, defScope s_entered_exactly, [], []⟩
def d_leads_in : He.DefD := ⟨("leads_in", none), "leads_in", "leads_in", defArgs s_leads_in, defBody s_leads_in, defScope s_leads_in, [], []⟩
def d_flat : He.DefD := ⟨("flat", none), "flat", "flat", defArgs s_flat, defBody s_flat, defScope s_flat, [], []⟩
def d_rising : He.DefD := ⟨("rising", none), "rising", "rising", defArgs s_rising, defBody s_rising, defScope s_rising, [], []⟩
def d_table_in : He.DefD := ⟨("table_in", none), "table_in", "table_in", defArgs s_table_in, defBody s_table_in, defScope s_table_in, [], []⟩
def d_table_of_all : He.DefD := ⟨("table_of_all", none), "table_of_all", "table_of_all", defArgs s_table_of_all, defBody s_table_of_all, defScope s_table_of_all, [], []⟩
def d_come_to : He.DefD := ⟨("come_to", none), "come_to", "come_to", defArgs s_come_to, defBody s_come_to, defScope s_come_to, [], []⟩
def d_shortest_chain : He.DefD := ⟨("shortest_chain", none), "shortest_chain", "shortest_chain", defArgs s_shortest_chain, defBody s_shortest_chain, defScope s_shortest_chain, [], []⟩
def d_Reached___init__ : He.DefD := ⟨("Reached", some "__init__"), "__init__", "Reached.__init__", defArgs s_Reached___init__, defBody s_Reached___init__, defScope s_Reached___init__, [], []⟩
def d_Reached_worked_out : He.DefD := ⟨("Reached", some "worked_out"), "worked_out", "Reached.worked_out", defArgs s_Reached_worked_out, defBody s_Reached_worked_out, defScope s_Reached_worked_out, [], []⟩
def d_Reached_come_to : He.DefD := ⟨("Reached", some "come_to"), "come_to", "Reached.come_to", defArgs s_Reached_come_to, defBody s_Reached_come_to, defScope s_Reached_come_to, [], []⟩
def d_Reached_lost : He.DefD := ⟨("Reached", some "lost"), "lost", "Reached.lost", defArgs s_Reached_lost, defBody s_Reached_lost, defScope s_Reached_lost, [], []⟩
def d_Reached_size_of : He.DefD := ⟨("Reached", some "size_of"), "size_of", "Reached.size_of", defArgs s_Reached_size_of, defBody s_Reached_size_of, defScope s_Reached_size_of, [], []⟩
def d_Reached_lost_size : He.DefD := ⟨("Reached", some "lost_size"), "lost_size", "Reached.lost_size", defArgs s_Reached_lost_size, defBody s_Reached_lost_size, defScope s_Reached_lost_size, [], []⟩
def d_Reached_chain : He.DefD := ⟨("Reached", some "chain"), "chain", "Reached.chain", defArgs s_Reached_chain, defBody s_Reached_chain, defScope s_Reached_chain, [], []⟩
def d_Reached_chain_around : He.DefD := ⟨("Reached", some "chain_around"), "chain_around", "Reached.chain_around", defArgs s_Reached_chain_around, defBody s_Reached_chain_around, defScope s_Reached_chain_around, [], []⟩
def d_Reached_hangs_on : He.DefD := ⟨("Reached", some "hangs_on"), "hangs_on", "Reached.hangs_on", defArgs s_Reached_hangs_on, defBody s_Reached_hangs_on, defScope s_Reached_hangs_on, [], []⟩
def d_Reached_closest : He.DefD := ⟨("Reached", some "closest"), "closest", "Reached.closest", defArgs s_Reached_closest, defBody s_Reached_closest, defScope s_Reached_closest, [], []⟩
def d_Fault___init__ : He.DefD := ⟨("Fault", some "__init__"), "__init__", "Fault.__init__", defArgs s_Fault___init__, defBody s_Fault___init__, defScope s_Fault___init__, [], []⟩
def d_sign_of : He.DefD := ⟨("sign_of", none), "sign_of", "sign_of", defArgs s_sign_of, defBody s_sign_of, defScope s_sign_of, [], []⟩
def d_run_end : He.DefD := ⟨("run_end", none), "run_end", "run_end", defArgs s_run_end, defBody s_run_end, defScope s_run_end, [], []⟩
def d_remark_end : He.DefD := ⟨("remark_end", none), "remark_end", "remark_end", defArgs s_remark_end, defBody s_remark_end, defScope s_remark_end, [], []⟩
def d_worth_of : He.DefD := ⟨("worth_of", none), "worth_of", "worth_of", defArgs s_worth_of, defBody s_worth_of, defScope s_worth_of, [], []⟩
def d_number_at : He.DefD := ⟨("number_at", none), "number_at", "number_at", defArgs s_number_at, defBody s_number_at, defScope s_number_at, [], []⟩
def d_token_at : He.DefD := ⟨("token_at", none), "token_at", "token_at", defArgs s_token_at, defBody s_token_at, defScope s_token_at, [], []⟩
def d_tokens_of : He.DefD := ⟨("tokens_of", none), "tokens_of", "tokens_of", defArgs s_tokens_of, defBody s_tokens_of, defScope s_tokens_of, [], []⟩
def d_Reader___init__ : He.DefD := ⟨("Reader", some "__init__"), "__init__", "Reader.__init__", defArgs s_Reader___init__, defBody s_Reader___init__, defScope s_Reader___init__, [], []⟩
def d_Reader_where : He.DefD := ⟨("Reader", some "where"), "where", "Reader.where", defArgs s_Reader_where, defBody s_Reader_where, defScope s_Reader_where, [], []⟩
def d_Reader_comes : He.DefD := ⟨("Reader", some "comes"), "comes", "Reader.comes", defArgs s_Reader_comes, defBody s_Reader_comes, defScope s_Reader_comes, [], []⟩
def d_Reader_want : He.DefD := ⟨("Reader", some "want"), "want", "Reader.want", defArgs s_Reader_want, defBody s_Reader_want, defScope s_Reader_want, [], []⟩
def d_Reader_take : He.DefD := ⟨("Reader", some "take"), "take", "Reader.take", defArgs s_Reader_take, defBody s_Reader_take, defScope s_Reader_take, [], []⟩
def d_Reader_read : He.DefD := ⟨("Reader", some "read"), "read", "Reader.read", defArgs s_Reader_read, defBody s_Reader_read, defScope s_Reader_read, [], []⟩
def d_Reader_next_name : He.DefD := ⟨("Reader", some "next_name"), "next_name", "Reader.next_name", defArgs s_Reader_next_name, defBody s_Reader_next_name, defScope s_Reader_next_name, [], []⟩
def d_Reader_read_name : He.DefD := ⟨("Reader", some "read_name"), "read_name", "Reader.read_name", defArgs s_Reader_read_name, defBody s_Reader_read_name, defScope s_Reader_read_name, [], []⟩
def d_Reader_read_new_name : He.DefD := ⟨("Reader", some "read_new_name"), "read_new_name", "Reader.read_new_name", defArgs s_Reader_read_new_name, defBody s_Reader_read_new_name, defScope s_Reader_read_new_name, [], []⟩
def d_Reader_read_size : He.DefD := ⟨("Reader", some "read_size"), "read_size", "Reader.read_size", defArgs s_Reader_read_size, defBody s_Reader_read_size, defScope s_Reader_read_size, [], []⟩
def d_Reader_begin : He.DefD := ⟨("Reader", some "begin"), "begin", "Reader.begin", defArgs s_Reader_begin, defBody s_Reader_begin, defScope s_Reader_begin, [], []⟩
def d_Reader_goes_on : He.DefD := ⟨("Reader", some "goes_on"), "goes_on", "Reader.goes_on", defArgs s_Reader_goes_on, defBody s_Reader_goes_on, defScope s_Reader_goes_on, [], []⟩
def d_Reader_new_word : He.DefD := ⟨("Reader", some "new_word"), "new_word", "Reader.new_word", defArgs s_Reader_new_word, defBody s_Reader_new_word, defScope s_Reader_new_word, [], []⟩
def d_Reader_setting : He.DefD := ⟨("Reader", some "setting"), "setting", "Reader.setting", defArgs s_Reader_setting, defBody s_Reader_setting, defScope s_Reader_setting, [], []⟩
def d_Reader_piece : He.DefD := ⟨("Reader", some "piece"), "piece", "Reader.piece", defArgs s_Reader_piece, defBody s_Reader_piece, defScope s_Reader_piece, [], []⟩
def d_Reader_make : He.DefD := ⟨("Reader", some "make"), "make", "Reader.make", defArgs s_Reader_make, defBody s_Reader_make, defScope s_Reader_make, [], []⟩
def d_Reader_call : He.DefD := ⟨("Reader", some "call"), "call", "Reader.call", defArgs s_Reader_call, defBody s_Reader_call, defScope s_Reader_call, [], []⟩
def d_Reader_say : He.DefD := ⟨("Reader", some "say"), "say", "Reader.say", defArgs s_Reader_say, defBody s_Reader_say, defScope s_Reader_say, [], []⟩
def d_Reader_when : He.DefD := ⟨("Reader", some "when"), "when", "Reader.when", defArgs s_Reader_when, defBody s_Reader_when, defScope s_Reader_when, [], []⟩
def d_Reader_statement : He.DefD := ⟨("Reader", some "statement"), "statement", "Reader.statement", defArgs s_Reader_statement, defBody s_Reader_statement, defScope s_Reader_statement, [], []⟩
def d_Reader_block : He.DefD := ⟨("Reader", some "block"), "block", "Reader.block", defArgs s_Reader_block, defBody s_Reader_block, defScope s_Reader_block, [], []⟩
def d_Reader_part : He.DefD := ⟨("Reader", some "part"), "part", "Reader.part", defArgs s_Reader_part, defBody s_Reader_part, defScope s_Reader_part, [], []⟩
def d_Reader_entry : He.DefD := ⟨("Reader", some "entry"), "entry", "Reader.entry", defArgs s_Reader_entry, defBody s_Reader_entry, defScope s_Reader_entry, [], []⟩
def d_Reader_start : He.DefD := ⟨("Reader", some "start"), "start", "Reader.start", defArgs s_Reader_start, defBody s_Reader_start, defScope s_Reader_start, [], []⟩
def d_Reader_whole : He.DefD := ⟨("Reader", some "whole"), "whole", "Reader.whole", defArgs s_Reader_whole, defBody s_Reader_whole, defScope s_Reader_whole, [], []⟩
def d_read_program : He.DefD := ⟨("read_program", none), "read_program", "read_program", defArgs s_read_program, defBody s_read_program, defScope s_read_program, [], []⟩
def d_Refused___init__ : He.DefD := ⟨("Refused", some "__init__"), "__init__", "Refused.__init__", defArgs s_Refused___init__, defBody s_Refused___init__, defScope s_Refused___init__, [], []⟩
def d_want : He.DefD := ⟨("want", none), "want", "want", defArgs s_want, defBody s_want, defScope s_want, [], []⟩
def d_told : He.DefD := ⟨("told", none), "told", "told", defArgs s_told, defBody s_told, defScope s_told, [], []⟩
def d_Desk___init__ : He.DefD := ⟨("Desk", some "__init__"), "__init__", "Desk.__init__", defArgs s_Desk___init__, defBody s_Desk___init__, defScope s_Desk___init__, [], []⟩
def d_Desk_load : He.DefD := ⟨("Desk", some "load"), "load", "Desk.load", defArgs s_Desk_load, defBody s_Desk_load, defScope s_Desk_load, [], []⟩
def d_Desk_want_mode : He.DefD := ⟨("Desk", some "want_mode"), "want_mode", "Desk.want_mode", defArgs s_Desk_want_mode, defBody s_Desk_want_mode, defScope s_Desk_want_mode, [], []⟩
def d_Desk_want_parts : He.DefD := ⟨("Desk", some "want_parts"), "want_parts", "Desk.want_parts", defArgs s_Desk_want_parts, defBody s_Desk_want_parts, defScope s_Desk_want_parts, [], []⟩
def d_Desk_shown : He.DefD := ⟨("Desk", some "shown"), "shown", "Desk.shown", defArgs s_Desk_shown, defBody s_Desk_shown, defScope s_Desk_shown, [], []⟩
def d_Desk_chain : He.DefD := ⟨("Desk", some "chain"), "chain", "Desk.chain", defArgs s_Desk_chain, defBody s_Desk_chain, defScope s_Desk_chain, [], []⟩
def d_Desk_lost : He.DefD := ⟨("Desk", some "lost"), "lost", "Desk.lost", defArgs s_Desk_lost, defBody s_Desk_lost, defScope s_Desk_lost, [], []⟩
def d_Desk_tree : He.DefD := ⟨("Desk", some "tree"), "tree", "Desk.tree", defArgs s_Desk_tree, defBody s_Desk_tree, defScope s_Desk_tree, [], []⟩
def d_Desk_shares : He.DefD := ⟨("Desk", some "shares"), "shares", "Desk.shares", defArgs s_Desk_shares, defBody s_Desk_shares, defScope s_Desk_shares, [], []⟩
def d_Desk_around : He.DefD := ⟨("Desk", some "around"), "around", "Desk.around", defArgs s_Desk_around, defBody s_Desk_around, defScope s_Desk_around, [], []⟩
def d_Desk_both : He.DefD := ⟨("Desk", some "both"), "both", "Desk.both", defArgs s_Desk_both, defBody s_Desk_both, defScope s_Desk_both, [], []⟩
def d_Desk_heavy : He.DefD := ⟨("Desk", some "heavy"), "heavy", "Desk.heavy", defArgs s_Desk_heavy, defBody s_Desk_heavy, defScope s_Desk_heavy, [], []⟩
def d_Desk_asked : He.DefD := ⟨("Desk", some "asked"), "asked", "Desk.asked", defArgs s_Desk_asked, defBody s_Desk_asked, defScope s_Desk_asked, [], []⟩
def d_Desk_answer : He.DefD := ⟨("Desk", some "answer"), "answer", "Desk.answer", defArgs s_Desk_answer, defBody s_Desk_answer, defScope s_Desk_answer, [], []⟩
def d_rows_at : He.DefD := ⟨("rows_at", none), "rows_at", "rows_at", defArgs s_rows_at, defBody s_rows_at, defScope s_rows_at, [], []⟩
def d_answers : He.DefD := ⟨("answers", none), "answers", "answers", defArgs s_answers, defBody s_answers, defScope s_answers, [], []⟩
/-! ### an own exception class with its own __init__ -/
def oexB (K : PySem.W.Frag) (C : Addr) : Bool := match K.lookup C with
  | some ⟨.type t, _, .cls cd, sl⟩ => (match cd.mro, sl.toList with
    | .ref c :: bm, [_, _, _, _, some (.builtin n), _] => decide (t = "type") && (decide (c = C) && (decide (n = "ValueError.__new__") && (cd.hasDict && (!cd.hasDel && PySem.HandSPX.refsVE bm))))
    | _, _ => false)
  | _ => false
theorem oexB_ok {K : PySem.W.Frag} {C : Addr} (h : oexB K C = true) : ∃ nm q N bs bm sn sub ab col dd k0 k1 k2 k3 k5, K.lookup C = some (excClassObj nm q C N bs bm true sn sub ab col dd k0 k1 k2 k3 k5 "ValueError.__new__") ∧ PySem.HandSPX.refsVE bm = true := by
  unfold oexB at h
  split at h
  · rename_i t dd cd sl ho
    split at h
    · rename_i c bm k0 k1 k2 k3 n k5 hm hs
      simp only [Bool.and_eq_true, decide_eq_true_eq, Bool.not_eq_true'] at h
      obtain ⟨rfl, rfl, rfl, hd, hdel, hr⟩ := h
      obtain ⟨nm, bs, mro, ns, qn, hd', sn, sub, ab, col, del⟩ := cd
      dsimp only at hm hdel hd
      subst hm hdel hd
      have hsl : sl = #[k0, k1, k2, k3, some (.builtin "ValueError.__new__"), k5] := by
        obtain ⟨l⟩ := sl
        simp only at hs
        rw [hs]
      subst hsl
      exact ⟨nm, qn, ns, bs, bm, sn, sub, ab, col, dd, k0, k1, k2, k3, k5, ho, hr⟩
    · cases h
  · cases h
def oexF (x : Str) (K : PySem.W.Frag) : Bool := oexB K (He.ga K x) && (He.eqO (PySem.W.findIn K (.ref (He.ga K x)) "__setattr__") (some (some (.builtin "object.__setattr__"))) &&
  (decide (PySem.W.subIn K (.ref (He.ga K x)) (.type "BaseException") = some true) && (decide (PySem.W.typeIn K (.ref (He.ga K x)) = some (.type "type")) && (PySem.W.keepIn K (.ref (He.ga K x)) &&
  (He.eqO (PySem.W.findIn K (.ref (He.ga K x)) "__init__") (some (some (.ref (He.ma K (He.ga K x) "__init__")))) && (decide (PySem.W.typeIn K (.ref (He.ma K (He.ga K x) "__init__")) = some (.type "function")) && xfB K (He.ga K x)))))))
structure OexF (K : PySem.W.Frag) (x : Str) : Prop where
  oc : OexC K (He.ga K x)
  ini : PySem.W.findIn K (.ref (He.ga K x)) "__init__" = some (some (.ref (He.ma K (He.ga K x) "__init__")))
  tin : PySem.W.typeIn K (.ref (He.ma K (He.ga K x) "__init__")) = some (.type "function")
  xf : XfC K (He.ga K x)
theorem oexF_ok {K : PySem.W.Frag} {x : Str} (h : oexF x K = true) : OexF K x := by
  obtain ⟨h1, h⟩ := He.ba h
  obtain ⟨h2, h⟩ := He.ba h
  obtain ⟨h3, h⟩ := He.ba h
  obtain ⟨h4, h⟩ := He.ba h
  obtain ⟨h5, h⟩ := He.ba h
  obtain ⟨h6, h⟩ := He.ba h
  obtain ⟨h7, h8⟩ := He.ba h
  exact ⟨⟨oexB_ok h1, He.eqO_ok h2, of_decide_eq_true h3, of_decide_eq_true h4, h5⟩, He.eqO_ok h6, of_decide_eq_true h7, xfB_ok h8⟩
/-- ValueError.__init__ -/
def veiF (K : PySem.W.Frag) : Bool := match PySem.W.findCls K (.type "ValueError") (.type "type") "__init__" with
  | some (.val (.builtin n)) => decide (n = "ValueError.__init__")
  | _ => false
theorem veiF_ok {K : PySem.W.Frag} (h : veiF K = true) : PySem.W.findCls K (.type "ValueError") (.type "type") "__init__" = some (.val (.builtin "ValueError.__init__")) := by
  unfold veiF at h
  split at h
  · rename_i n e
    rw [e, of_decide_eq_true h]
  · cases h
/-- the j-th item of the tuple x -/
def itA (x : Str) (j : Nat) (K : PySem.W.Frag) : Addr := match K.lookup (He.ga K x) with
  | some ⟨_, _, .seq its _, _⟩ => (match its.toList[j]? with
    | some (.ref a) => a
    | _ => 0)
  | _ => 0
def tupA (a : PySem.W.Frag → Addr) (vs : PySem.W.Frag → List V) (K : PySem.W.Frag) : Bool := match K.lookup (a K) with
  | some ⟨.type c, _, .seq its _, _⟩ => decide (c = "tuple") && (decide (its.size ≤ sizeLine) && He.relAll (vs K) its.toList)
  | _ => false
theorem tupA_ok {a : PySem.W.Frag → Addr} {vs : PySem.W.Frag → List V} {K : PySem.W.Frag} (h : tupA a vs K = true) (H : Hp) : SqT K H (a K) (vs K) := by
  unfold tupA at h
  split at h
  · rename_i c d its n sl q
    obtain ⟨h1, h2⟩ := He.ba h
    obtain ⟨h3, h4⟩ := He.ba h2
    exact .inr ⟨_, its, n, q, congrArg Value.type (of_decide_eq_true h1), rfl, of_decide_eq_true h3, He.relAll_ok h4⟩
  · cases h
def aliasF (x y : Str) (K : PySem.W.Frag) : Bool := He.eqO (PySem.W.nsIn K mainGlobals x) (some (some (.ref (He.ga K y))))

def fn0 : List He.DefD := [d_Part___init__, d_Program___init__, d_Program_setting_names, d_Program_part_names, d_Program_number_of, d_Program_how_many_assignments, d_Program_assignment, d_Program_piece_word, d_Program_meant, d_listed, d_statement_words, d_block_words, d_one_form, d_Run___init__, d_Run_depth, d_Run_enter, d_Run_call, d_Run_make, d_Run_do_one, d_Run_close, d_Run_next_one, d_Run_done, d_entered_exactly, d_leads_in, d_flat, d_rising, d_table_in, d_table_of_all, d_come_to, d_shortest_chain]
def fn1 : List He.DefD := [d_Reached___init__, d_Reached_worked_out, d_Reached_come_to, d_Reached_lost, d_Reached_size_of, d_Reached_lost_size, d_Reached_chain, d_Reached_chain_around, d_Reached_hangs_on, d_Reached_closest, d_Fault___init__, d_sign_of, d_run_end, d_remark_end, d_worth_of, d_number_at, d_token_at, d_tokens_of, d_Reader___init__, d_Reader_where, d_Reader_comes, d_Reader_want, d_Reader_take, d_Reader_read, d_Reader_next_name, d_Reader_read_name, d_Reader_read_new_name, d_Reader_read_size, d_Reader_begin, d_Reader_goes_on]
def fn2 : List He.DefD := [d_Reader_new_word, d_Reader_setting, d_Reader_piece, d_Reader_make, d_Reader_call, d_Reader_say, d_Reader_when, d_Reader_statement, d_Reader_block, d_Reader_part, d_Reader_entry, d_Reader_start, d_Reader_whole, d_read_program, d_Refused___init__, d_want, d_told, d_Desk___init__, d_Desk_load, d_Desk_want_mode, d_Desk_want_parts, d_Desk_shown, d_Desk_chain, d_Desk_lost, d_Desk_tree, d_Desk_shares, d_Desk_around, d_Desk_both, d_Desk_heavy, d_Desk_asked]
def fn3 : List He.DefD := [d_Desk_answer, d_rows_at, d_answers]
def fn : List He.DefD := fn0 ++ (fn1 ++ (fn2 ++ (fn3)))
def fa0 : List He.Fa := [.glo "Part", .glo "Program", .glo "listed", .glo "statement_words", .glo "block_words", .glo "one_form", .glo "Run", .glo "entered_exactly", .glo "leads_in", .glo "flat", .glo "rising", .glo "table_in", .glo "table_of_all", .glo "come_to", .glo "shortest_chain", .glo "Reached", .glo "Fault", .glo "sign_of", .glo "run_end", .glo "remark_end", .glo "worth_of", .glo "number_at", .glo "token_at", .glo "tokens_of", .glo "Reader", .glo "read_program", .glo "Refused", .glo "want", .glo "told", .glo "Desk"]
def fa1 : List He.Fa := [.glo "rows_at", .glo "answers", .free "len", .free "divmod", .free "str", .free "range", .free "list", .free "sorted", .free "dict", .free "sum", .free "all", .free "any", .free "ord", .free "min", .free "tuple", .free "set", .free "enumerate", .free "ValueError", .int "MOST_STATEMENTS" (100), .int "MOST_WITHIN" (9), .int "BY_CONDITIONS" (0), .int "BY_BRANCHES" (1), .int "REMARK" (35), .int "LINE_END" (10), .int "LONGEST_NAME" (16), .int "MOST_NUMBER" (1000000000), .int "NO_TOKEN" (2), .int "LONG_TEXT" (1), .int "MISPLACED" (3), .int "TOO_MANY" (4)]
def fa2 : List He.Fa := [.int "TAKEN" (5), .int "TWICE" (6), .int "NO_SIZE" (7), .int "NO_SUCH" (8), .int "NO_PART_reading" (9), .int "MOST_BYTES" (4096), .int "MOST_SETTINGS" (3), .int "MOST_WORDS" (4), .int "MOST_PARTS" (10), .int "MOST_ENTRIES" (4), .int "MOST_PIECES" (3), .int "MOST_WHENS" (3), .int "GREATEST_SIZE" (99), .int "NO_PROGRAM" (-1), .int "NO_MODE" (-2), .int "NO_PART_parts" (-4), .int "TWO_MODES" (2), .int "ALL_MODES" (3), .str "SAY" "say", .str "CALL" "call", .str "MAKE" "make", .str "WHEN" "when", .str "NAME" "name", .str "WORD" "word", .str "NUMBER" "number", .str "SIGN" "sign", .str "END" "end", .str "LETTERS" "abcdefghijklmnopqrstuvwxyzABCDEFGHIJKLMNOPQRSTUVWXYZ", .str "DIGITS" "0123456789", .str "SIGNS" "+,:;{}"]
def fa3 : List He.Fa := [.str "UNKNOWN" "?", .cls "Part", .mkr "Part", .noat "Part" "name", .noat "Part" "size", .noat "Part" "statements", .cls "Program", .mkr "Program", .noat "Program" "settings", .noat "Program" "parts", .noat "Program" "entries", .meth "Program" "setting_names", .meth "Program" "part_names", .meth "Program" "number_of", .meth "Program" "how_many_assignments", .meth "Program" "assignment", .meth "Program" "piece_word", .meth "Program" "meant", .cls "Run", .mkr "Run", .noat "Run" "program", .noat "Run" "chosen", .noat "Run" "left", .noat "Run" "open_ones", .noat "Run" "entered", .noat "Run" "is_going", .meth "Run" "depth", .meth "Run" "enter", .meth "Run" "call", .meth "Run" "make"]
def fa4 : List He.Fa := [.meth "Run" "do_one", .meth "Run" "close", .meth "Run" "next_one", .meth "Run" "done", .cls "Reached", .mkr "Reached", .noat "Reached" "program", .noat "Reached" "tables", .noat "Reached" "branches", .noat "Reached" "known", .meth "Reached" "worked_out", .meth "Reached" "come_to", .meth "Reached" "lost", .meth "Reached" "size_of", .meth "Reached" "lost_size", .meth "Reached" "chain", .meth "Reached" "chain_around", .meth "Reached" "hangs_on", .meth "Reached" "closest", .cls "Reader", .mkr "Reader", .noat "Reader" "tokens", .noat "Reader" "at", .noat "Reader" "program", .noat "Reader" "called", .noat "Reader" "deep", .meth "Reader" "where", .meth "Reader" "comes", .meth "Reader" "want", .meth "Reader" "take"]
def fa5 : List He.Fa := [.meth "Reader" "read", .meth "Reader" "next_name", .meth "Reader" "read_name", .meth "Reader" "read_new_name", .meth "Reader" "read_size", .meth "Reader" "begin", .meth "Reader" "goes_on", .meth "Reader" "new_word", .meth "Reader" "setting", .meth "Reader" "piece", .meth "Reader" "make", .meth "Reader" "call", .meth "Reader" "say", .meth "Reader" "when", .meth "Reader" "statement", .meth "Reader" "block", .meth "Reader" "part", .meth "Reader" "entry", .meth "Reader" "start", .meth "Reader" "whole", .cls "Desk", .mkr "Desk", .noat "Desk" "program", .noat "Desk" "reached", .meth "Desk" "load", .meth "Desk" "want_mode", .meth "Desk" "want_parts", .meth "Desk" "shown", .meth "Desk" "chain", .meth "Desk" "lost"]
def fa6 : List He.Fa := [.meth "Desk" "tree", .meth "Desk" "shares", .meth "Desk" "around", .meth "Desk" "both", .meth "Desk" "heavy", .meth "Desk" "asked", .meth "Desk" "answer", .noat "Fault" "code", .noat "Fault" "place", .keep "Fault", .exm "Fault" "Fault" true, .noat "Refused" "number", .keep "Refused", .exm "Refused" "Refused" true]
def fa : List He.Fa := fa0 ++ (fa1 ++ (fa2 ++ (fa3 ++ (fa4 ++ (fa5 ++ (fa6))))))
def ow0 : List (PySem.W.Frag → Bool) := [oexF "Fault", oexF "Refused", veiF, aliasF "come_to_leading" "come_to", (fun K => He.eqO (PySem.W.nsIn K mainGlobals "WORDS") (some (some (.ref (He.ga K "WORDS"))))), tupA (fun K => He.ga K "WORDS") (fun _ => [.str "set", .str "part", .str "size", .str "start", .str "say", .str "call", .str "make", .str "when", .str "is"]), (fun K => He.eqO (PySem.W.nsIn K mainGlobals "BLANKS") (some (some (.ref (He.ga K "BLANKS"))))), tupA (fun K => He.ga K "BLANKS") (fun _ => [.int (32), .int (9), .int (10)]), (fun K => He.eqO (PySem.W.nsIn K mainGlobals "FORMS") (some (some (.ref (He.ga K "FORMS"))))), tupA (fun K => He.ga K "FORMS") (fun K => [.ref (itA "FORMS" 0 K), .ref (itA "FORMS" 1 K), .ref (itA "FORMS" 2 K), .ref (itA "FORMS" 3 K), .ref (itA "FORMS" 4 K), .ref (itA "FORMS" 5 K), .ref (itA "FORMS" 6 K), .ref (itA "FORMS" 7 K), .ref (itA "FORMS" 8 K)]), tupA (itA "FORMS" 0) (fun _ => [.int (0), .int (1)]), tupA (itA "FORMS" 1) (fun _ => [.int (0), .int (0)]), tupA (itA "FORMS" 2) (fun _ => [.int (2), .int (0)]), tupA (itA "FORMS" 3) (fun _ => [.int (2), .int (0)]), tupA (itA "FORMS" 4) (fun _ => [.int (0), .int (0)]), tupA (itA "FORMS" 5) (fun _ => [.int (1), .int (0)]), tupA (itA "FORMS" 6) (fun _ => [.int (2), .int (0)]), tupA (itA "FORMS" 7) (fun _ => [.int (3), .int (0)]), tupA (itA "FORMS" 8) (fun _ => [.int (1), .int (0)])]
def ow : List (PySem.W.Frag → Bool) := ow0
def loose0 : List PySem.Str := ["SAY", "CALL", "MAKE", "WHEN", "Part", "Program", "listed", "statement_words", "block_words", "one_form", "MOST_STATEMENTS", "MOST_WITHIN", "Run", "entered_exactly", "BY_CONDITIONS", "BY_BRANCHES", "leads_in", "flat", "rising", "table_in", "table_of_all", "come_to", "come_to_leading", "shortest_chain", "Reached", "NAME", "WORD", "NUMBER", "SIGN", "END"]
def loose1 : List PySem.Str := ["WORDS", "LETTERS", "DIGITS", "SIGNS", "BLANKS", "REMARK", "LINE_END", "LONGEST_NAME", "MOST_NUMBER", "UNKNOWN", "NO_TOKEN", "Fault", "sign_of", "run_end", "remark_end", "worth_of", "number_at", "token_at", "tokens_of", "LONG_TEXT", "MISPLACED", "TOO_MANY", "TAKEN", "TWICE", "NO_SIZE", "NO_SUCH", "NO_PART_reading", "MOST_BYTES", "MOST_SETTINGS", "MOST_WORDS"]
def loose2 : List PySem.Str := ["MOST_PARTS", "MOST_ENTRIES", "MOST_PIECES", "MOST_WHENS", "GREATEST_SIZE", "Reader", "read_program", "NO_PROGRAM", "NO_MODE", "NO_PART_parts", "FORMS", "TWO_MODES", "ALL_MODES", "Refused", "want", "told", "Desk", "rows_at"]
def loose : List PySem.Str := loose0 ++ (loose1 ++ (loose2))
/-! ### the Hook -/
/-- the objects that are looked at: the module's names, what they name (a class: its namespace), what stands there, code objects -/
def refsG (g : Addr → Option Obj) (a : Addr) : List Addr := match g a with
  | some o => (match o.data with
    | .seq its _ => its.toList.flatMap He.refV
    | .dict es _ => es.toList.flatMap fun e => He.refV e.val
    | .func fd => He.refV fd.code
    | .cls cd => [cd.ns]
    | _ => [])
  | none => []
def clsG (g : Addr → Option Obj) (a : Addr) : Bool := match g a with
  | some o => (match o.data with
    | .cls _ => true
    | _ => false)
  | none => false
def asW (g : Addr → Option Obj) : List Addr :=
  let a1 := refsG g mainGlobals
  let cl := a1.filter (clsG g)
  let ns := cl.flatMap (refsG g)
  let ms := ns.flatMap (refsG g)
  mainGlobals :: (cl ++ (ns ++ (ms ++ (a1 ++ (ms.flatMap (refsG g) ++ (a1.filter fun a => !clsG g a).flatMap (refsG g))))))
def obsX (K : PySem.W.Frag) : He.AlD := ((fa.all fun f => f.ok K) && ((ow.all fun p => p K) && fn.all fun d => d.ok K), fn.map fun d => He.fnW K d.at_)
def SaysX (K : PySem.W.Frag) : Prop := obsX K = He.valD fn
def obsXG (g : Addr → Option Obj) : He.AlD := obsX (He.frG g (asW g))
def hk : PySem.W.Hook where
  α := He.AlD
  obs := fun s => obsXG s.heap.get?
  val := fun _ => He.valD fn
  says := fun _ h => ∃ K : PySem.W.Frag, K.In h ∧ SaysX K
  of := fun _ _ e => ⟨_, He.frG_in, e⟩
  keeps := fun _ _ _ ⟨K, hK, c⟩ k => ⟨K, PySem.W.Frag.In.keeps hK k, c⟩
abbrev R : PySem.W.OpenSpec := PySem.Challenge.rw_whykept_s01_answers
def ob (s : PySem.W.SharedT) : He.AlD := obsXG (HandSHeadRun.getT s)
theorem ob_eq (s : PySem.W.SharedT) : ob s = hk.obs s.abs := by
  have e : HandSHeadRun.getT s = s.abs.heap.get? := funext (HandSHeadRun.getT_eq s)
  show obsXG (HandSHeadRun.getT s) = obsXG s.abs.heap.get?
  rw [e]
theorem SaysX.fact {K : PySem.W.Frag} (c : SaysX K) (i : Nat) {f : He.Fa} (h : fa[i]? = some f := by rfl) : f.ok K = true := by
  have c1 := (He.ba (show ((fa.all fun f => f.ok K) && ((ow.all fun p => p K) && fn.all fun d => d.ok K)) = true from congrArg (fun z : He.AlD => z.1) c)).1
  exact List.all_eq_true.mp c1 f (List.mem_of_getElem? h)
theorem SaysX.own {K : PySem.W.Frag} (c : SaysX K) (i : Nat) {p : PySem.W.Frag → Bool} (h : ow[i]? = some p := by rfl) : p K = true := by
  have c1 := (He.ba (He.ba (show ((fa.all fun f => f.ok K) && ((ow.all fun p => p K) && fn.all fun d => d.ok K)) = true from congrArg (fun z : He.AlD => z.1) c)).2).1
  exact List.all_eq_true.mp c1 p (List.mem_of_getElem? h)
theorem SaysX.def_ {K : PySem.W.Frag} (c : SaysX K) (i : Nat) {d : He.DefD} (h : fn[i]? = some d := by rfl) : ∃ fd, FunD K d.name d.qual d.params d.body d.scope (d.dvs K) (d.kws K) (He.fAd K d.at_) fd := by
  have c2 := (He.ba (He.ba (show ((fa.all fun f => f.ok K) && ((ow.all fun p => p K) && fn.all fun d => d.ok K)) = true from congrArg (fun z : He.AlD => z.1) c)).2).2
  have e : fn.map (fun d => He.fnW K d.at_) = fn.map He.DefD.val := congrArg (fun z : He.AlD => z.2) c
  have e2 : (fn.map fun d => He.fnW K d.at_)[i]? = (fn.map He.DefD.val)[i]? := by rw [e]
  rw [List.getElem?_map, List.getElem?_map, h] at e2
  exact He.DefD.funD (Option.some.inj e2) (List.all_eq_true.mp c2 d (List.mem_of_getElem? h))
/-- what the defs' proofs lean on -/
structure Tx (K : PySem.W.Frag) (mg : Str → Option Value) : Prop where
  says : SaysX K
  some_ : ∀ x v, PySem.W.nsIn K mainGlobals x = some (some v) → mg x = some v
  none_ : ∀ x, PySem.W.nsIn K mainGlobals x = some none → mg x = none
section
variable {K : PySem.W.Frag} {mg : Str → Option Value}
theorem int_of {x : Str} {i : Int} (T : Tx K mg) (c : (He.Fa.int x i).ok K = true) : ∃ t, mg x = some (.int i t) := by
  have c2 : (match PySem.W.nsIn K mainGlobals x with
    | some (some (.int j _)) => decide (j = i)
    | _ => false) = true := c
  split at c2
  · rename_i j t e
    have ej : j = i := of_decide_eq_true c2
    rw [ej] at e
    exact ⟨t, T.some_ _ _ e⟩
  · cases c2
theorem str_of {x z : Str} (T : Tx K mg) (c : (He.Fa.str x z).ok K = true) : ∃ t, mg x = some (.str z t) := by
  have c2 : (match PySem.W.nsIn K mainGlobals x with
    | some (some (.str y _)) => decide (y = z)
    | _ => false) = true := c
  split at c2
  · rename_i y t e
    have ey : y = z := of_decide_eq_true c2
    rw [ey] at e
    exact ⟨t, T.some_ _ _ e⟩
  · cases c2

theorem Tx.g_Part (T : Tx K mg) : mg "Part" = some (.ref (He.ga K "Part")) := T.some_ _ _ (He.eqO_ok (T.says.fact 0 (f := .glo "Part") rfl))
theorem Tx.g_Program (T : Tx K mg) : mg "Program" = some (.ref (He.ga K "Program")) := T.some_ _ _ (He.eqO_ok (T.says.fact 1 (f := .glo "Program") rfl))
theorem Tx.g_listed (T : Tx K mg) : mg "listed" = some (.ref (He.ga K "listed")) := T.some_ _ _ (He.eqO_ok (T.says.fact 2 (f := .glo "listed") rfl))
theorem Tx.g_statement_words (T : Tx K mg) : mg "statement_words" = some (.ref (He.ga K "statement_words")) := T.some_ _ _ (He.eqO_ok (T.says.fact 3 (f := .glo "statement_words") rfl))
theorem Tx.g_block_words (T : Tx K mg) : mg "block_words" = some (.ref (He.ga K "block_words")) := T.some_ _ _ (He.eqO_ok (T.says.fact 4 (f := .glo "block_words") rfl))
theorem Tx.g_one_form (T : Tx K mg) : mg "one_form" = some (.ref (He.ga K "one_form")) := T.some_ _ _ (He.eqO_ok (T.says.fact 5 (f := .glo "one_form") rfl))
theorem Tx.g_Run (T : Tx K mg) : mg "Run" = some (.ref (He.ga K "Run")) := T.some_ _ _ (He.eqO_ok (T.says.fact 6 (f := .glo "Run") rfl))
theorem Tx.g_entered_exactly (T : Tx K mg) : mg "entered_exactly" = some (.ref (He.ga K "entered_exactly")) := T.some_ _ _ (He.eqO_ok (T.says.fact 7 (f := .glo "entered_exactly") rfl))
theorem Tx.g_leads_in (T : Tx K mg) : mg "leads_in" = some (.ref (He.ga K "leads_in")) := T.some_ _ _ (He.eqO_ok (T.says.fact 8 (f := .glo "leads_in") rfl))
theorem Tx.g_flat (T : Tx K mg) : mg "flat" = some (.ref (He.ga K "flat")) := T.some_ _ _ (He.eqO_ok (T.says.fact 9 (f := .glo "flat") rfl))
theorem Tx.g_rising (T : Tx K mg) : mg "rising" = some (.ref (He.ga K "rising")) := T.some_ _ _ (He.eqO_ok (T.says.fact 10 (f := .glo "rising") rfl))
theorem Tx.g_table_in (T : Tx K mg) : mg "table_in" = some (.ref (He.ga K "table_in")) := T.some_ _ _ (He.eqO_ok (T.says.fact 11 (f := .glo "table_in") rfl))
theorem Tx.g_table_of_all (T : Tx K mg) : mg "table_of_all" = some (.ref (He.ga K "table_of_all")) := T.some_ _ _ (He.eqO_ok (T.says.fact 12 (f := .glo "table_of_all") rfl))
theorem Tx.g_come_to (T : Tx K mg) : mg "come_to" = some (.ref (He.ga K "come_to")) := T.some_ _ _ (He.eqO_ok (T.says.fact 13 (f := .glo "come_to") rfl))
theorem Tx.g_shortest_chain (T : Tx K mg) : mg "shortest_chain" = some (.ref (He.ga K "shortest_chain")) := T.some_ _ _ (He.eqO_ok (T.says.fact 14 (f := .glo "shortest_chain") rfl))
theorem Tx.g_Reached (T : Tx K mg) : mg "Reached" = some (.ref (He.ga K "Reached")) := T.some_ _ _ (He.eqO_ok (T.says.fact 15 (f := .glo "Reached") rfl))
theorem Tx.g_Fault (T : Tx K mg) : mg "Fault" = some (.ref (He.ga K "Fault")) := T.some_ _ _ (He.eqO_ok (T.says.fact 16 (f := .glo "Fault") rfl))
theorem Tx.g_sign_of (T : Tx K mg) : mg "sign_of" = some (.ref (He.ga K "sign_of")) := T.some_ _ _ (He.eqO_ok (T.says.fact 17 (f := .glo "sign_of") rfl))
theorem Tx.g_run_end (T : Tx K mg) : mg "run_end" = some (.ref (He.ga K "run_end")) := T.some_ _ _ (He.eqO_ok (T.says.fact 18 (f := .glo "run_end") rfl))
theorem Tx.g_remark_end (T : Tx K mg) : mg "remark_end" = some (.ref (He.ga K "remark_end")) := T.some_ _ _ (He.eqO_ok (T.says.fact 19 (f := .glo "remark_end") rfl))
theorem Tx.g_worth_of (T : Tx K mg) : mg "worth_of" = some (.ref (He.ga K "worth_of")) := T.some_ _ _ (He.eqO_ok (T.says.fact 20 (f := .glo "worth_of") rfl))
theorem Tx.g_number_at (T : Tx K mg) : mg "number_at" = some (.ref (He.ga K "number_at")) := T.some_ _ _ (He.eqO_ok (T.says.fact 21 (f := .glo "number_at") rfl))
theorem Tx.g_token_at (T : Tx K mg) : mg "token_at" = some (.ref (He.ga K "token_at")) := T.some_ _ _ (He.eqO_ok (T.says.fact 22 (f := .glo "token_at") rfl))
theorem Tx.g_tokens_of (T : Tx K mg) : mg "tokens_of" = some (.ref (He.ga K "tokens_of")) := T.some_ _ _ (He.eqO_ok (T.says.fact 23 (f := .glo "tokens_of") rfl))
theorem Tx.g_Reader (T : Tx K mg) : mg "Reader" = some (.ref (He.ga K "Reader")) := T.some_ _ _ (He.eqO_ok (T.says.fact 24 (f := .glo "Reader") rfl))
theorem Tx.g_read_program (T : Tx K mg) : mg "read_program" = some (.ref (He.ga K "read_program")) := T.some_ _ _ (He.eqO_ok (T.says.fact 25 (f := .glo "read_program") rfl))
theorem Tx.g_Refused (T : Tx K mg) : mg "Refused" = some (.ref (He.ga K "Refused")) := T.some_ _ _ (He.eqO_ok (T.says.fact 26 (f := .glo "Refused") rfl))
theorem Tx.g_want (T : Tx K mg) : mg "want" = some (.ref (He.ga K "want")) := T.some_ _ _ (He.eqO_ok (T.says.fact 27 (f := .glo "want") rfl))
theorem Tx.g_told (T : Tx K mg) : mg "told" = some (.ref (He.ga K "told")) := T.some_ _ _ (He.eqO_ok (T.says.fact 28 (f := .glo "told") rfl))
theorem Tx.g_Desk (T : Tx K mg) : mg "Desk" = some (.ref (He.ga K "Desk")) := T.some_ _ _ (He.eqO_ok (T.says.fact 29 (f := .glo "Desk") rfl))
theorem Tx.g_rows_at (T : Tx K mg) : mg "rows_at" = some (.ref (He.ga K "rows_at")) := T.some_ _ _ (He.eqO_ok (T.says.fact 30 (f := .glo "rows_at") rfl))
theorem Tx.g_answers (T : Tx K mg) : mg "answers" = some (.ref (He.ga K "answers")) := T.some_ _ _ (He.eqO_ok (T.says.fact 31 (f := .glo "answers") rfl))
theorem Tx.n_len (T : Tx K mg) : mg "len" = none := T.none_ _ (He.eqO_ok (T.says.fact 32 (f := .free "len") rfl))
theorem Tx.n_divmod (T : Tx K mg) : mg "divmod" = none := T.none_ _ (He.eqO_ok (T.says.fact 33 (f := .free "divmod") rfl))
theorem Tx.n_str (T : Tx K mg) : mg "str" = none := T.none_ _ (He.eqO_ok (T.says.fact 34 (f := .free "str") rfl))
theorem Tx.n_range (T : Tx K mg) : mg "range" = none := T.none_ _ (He.eqO_ok (T.says.fact 35 (f := .free "range") rfl))
theorem Tx.n_list (T : Tx K mg) : mg "list" = none := T.none_ _ (He.eqO_ok (T.says.fact 36 (f := .free "list") rfl))
theorem Tx.n_sorted (T : Tx K mg) : mg "sorted" = none := T.none_ _ (He.eqO_ok (T.says.fact 37 (f := .free "sorted") rfl))
theorem Tx.n_dict (T : Tx K mg) : mg "dict" = none := T.none_ _ (He.eqO_ok (T.says.fact 38 (f := .free "dict") rfl))
theorem Tx.n_sum (T : Tx K mg) : mg "sum" = none := T.none_ _ (He.eqO_ok (T.says.fact 39 (f := .free "sum") rfl))
theorem Tx.n_all (T : Tx K mg) : mg "all" = none := T.none_ _ (He.eqO_ok (T.says.fact 40 (f := .free "all") rfl))
theorem Tx.n_any (T : Tx K mg) : mg "any" = none := T.none_ _ (He.eqO_ok (T.says.fact 41 (f := .free "any") rfl))
theorem Tx.n_ord (T : Tx K mg) : mg "ord" = none := T.none_ _ (He.eqO_ok (T.says.fact 42 (f := .free "ord") rfl))
theorem Tx.n_min (T : Tx K mg) : mg "min" = none := T.none_ _ (He.eqO_ok (T.says.fact 43 (f := .free "min") rfl))
theorem Tx.n_tuple (T : Tx K mg) : mg "tuple" = none := T.none_ _ (He.eqO_ok (T.says.fact 44 (f := .free "tuple") rfl))
theorem Tx.n_set (T : Tx K mg) : mg "set" = none := T.none_ _ (He.eqO_ok (T.says.fact 45 (f := .free "set") rfl))
theorem Tx.n_enumerate (T : Tx K mg) : mg "enumerate" = none := T.none_ _ (He.eqO_ok (T.says.fact 46 (f := .free "enumerate") rfl))
theorem Tx.n_ValueError (T : Tx K mg) : mg "ValueError" = none := T.none_ _ (He.eqO_ok (T.says.fact 47 (f := .free "ValueError") rfl))
theorem Tx.g_MOST_STATEMENTS (T : Tx K mg) : ∃ t, mg "MOST_STATEMENTS" = some (.int (100) t) := int_of T (T.says.fact 48 (f := .int "MOST_STATEMENTS" (100)) rfl)
theorem Tx.g_MOST_WITHIN (T : Tx K mg) : ∃ t, mg "MOST_WITHIN" = some (.int (9) t) := int_of T (T.says.fact 49 (f := .int "MOST_WITHIN" (9)) rfl)
theorem Tx.g_BY_CONDITIONS (T : Tx K mg) : ∃ t, mg "BY_CONDITIONS" = some (.int (0) t) := int_of T (T.says.fact 50 (f := .int "BY_CONDITIONS" (0)) rfl)
theorem Tx.g_BY_BRANCHES (T : Tx K mg) : ∃ t, mg "BY_BRANCHES" = some (.int (1) t) := int_of T (T.says.fact 51 (f := .int "BY_BRANCHES" (1)) rfl)
theorem Tx.g_REMARK (T : Tx K mg) : ∃ t, mg "REMARK" = some (.int (35) t) := int_of T (T.says.fact 52 (f := .int "REMARK" (35)) rfl)
theorem Tx.g_LINE_END (T : Tx K mg) : ∃ t, mg "LINE_END" = some (.int (10) t) := int_of T (T.says.fact 53 (f := .int "LINE_END" (10)) rfl)
theorem Tx.g_LONGEST_NAME (T : Tx K mg) : ∃ t, mg "LONGEST_NAME" = some (.int (16) t) := int_of T (T.says.fact 54 (f := .int "LONGEST_NAME" (16)) rfl)
theorem Tx.g_MOST_NUMBER (T : Tx K mg) : ∃ t, mg "MOST_NUMBER" = some (.int (1000000000) t) := int_of T (T.says.fact 55 (f := .int "MOST_NUMBER" (1000000000)) rfl)
theorem Tx.g_NO_TOKEN (T : Tx K mg) : ∃ t, mg "NO_TOKEN" = some (.int (2) t) := int_of T (T.says.fact 56 (f := .int "NO_TOKEN" (2)) rfl)
theorem Tx.g_LONG_TEXT (T : Tx K mg) : ∃ t, mg "LONG_TEXT" = some (.int (1) t) := int_of T (T.says.fact 57 (f := .int "LONG_TEXT" (1)) rfl)
theorem Tx.g_MISPLACED (T : Tx K mg) : ∃ t, mg "MISPLACED" = some (.int (3) t) := int_of T (T.says.fact 58 (f := .int "MISPLACED" (3)) rfl)
theorem Tx.g_TOO_MANY (T : Tx K mg) : ∃ t, mg "TOO_MANY" = some (.int (4) t) := int_of T (T.says.fact 59 (f := .int "TOO_MANY" (4)) rfl)
theorem Tx.g_TAKEN (T : Tx K mg) : ∃ t, mg "TAKEN" = some (.int (5) t) := int_of T (T.says.fact 60 (f := .int "TAKEN" (5)) rfl)
theorem Tx.g_TWICE (T : Tx K mg) : ∃ t, mg "TWICE" = some (.int (6) t) := int_of T (T.says.fact 61 (f := .int "TWICE" (6)) rfl)
theorem Tx.g_NO_SIZE (T : Tx K mg) : ∃ t, mg "NO_SIZE" = some (.int (7) t) := int_of T (T.says.fact 62 (f := .int "NO_SIZE" (7)) rfl)
theorem Tx.g_NO_SUCH (T : Tx K mg) : ∃ t, mg "NO_SUCH" = some (.int (8) t) := int_of T (T.says.fact 63 (f := .int "NO_SUCH" (8)) rfl)
theorem Tx.g_NO_PART_reading (T : Tx K mg) : ∃ t, mg "NO_PART_reading" = some (.int (9) t) := int_of T (T.says.fact 64 (f := .int "NO_PART_reading" (9)) rfl)
theorem Tx.g_MOST_BYTES (T : Tx K mg) : ∃ t, mg "MOST_BYTES" = some (.int (4096) t) := int_of T (T.says.fact 65 (f := .int "MOST_BYTES" (4096)) rfl)
theorem Tx.g_MOST_SETTINGS (T : Tx K mg) : ∃ t, mg "MOST_SETTINGS" = some (.int (3) t) := int_of T (T.says.fact 66 (f := .int "MOST_SETTINGS" (3)) rfl)
theorem Tx.g_MOST_WORDS (T : Tx K mg) : ∃ t, mg "MOST_WORDS" = some (.int (4) t) := int_of T (T.says.fact 67 (f := .int "MOST_WORDS" (4)) rfl)
theorem Tx.g_MOST_PARTS (T : Tx K mg) : ∃ t, mg "MOST_PARTS" = some (.int (10) t) := int_of T (T.says.fact 68 (f := .int "MOST_PARTS" (10)) rfl)
theorem Tx.g_MOST_ENTRIES (T : Tx K mg) : ∃ t, mg "MOST_ENTRIES" = some (.int (4) t) := int_of T (T.says.fact 69 (f := .int "MOST_ENTRIES" (4)) rfl)
theorem Tx.g_MOST_PIECES (T : Tx K mg) : ∃ t, mg "MOST_PIECES" = some (.int (3) t) := int_of T (T.says.fact 70 (f := .int "MOST_PIECES" (3)) rfl)
theorem Tx.g_MOST_WHENS (T : Tx K mg) : ∃ t, mg "MOST_WHENS" = some (.int (3) t) := int_of T (T.says.fact 71 (f := .int "MOST_WHENS" (3)) rfl)
theorem Tx.g_GREATEST_SIZE (T : Tx K mg) : ∃ t, mg "GREATEST_SIZE" = some (.int (99) t) := int_of T (T.says.fact 72 (f := .int "GREATEST_SIZE" (99)) rfl)
theorem Tx.g_NO_PROGRAM (T : Tx K mg) : ∃ t, mg "NO_PROGRAM" = some (.int (-1) t) := int_of T (T.says.fact 73 (f := .int "NO_PROGRAM" (-1)) rfl)
theorem Tx.g_NO_MODE (T : Tx K mg) : ∃ t, mg "NO_MODE" = some (.int (-2) t) := int_of T (T.says.fact 74 (f := .int "NO_MODE" (-2)) rfl)
theorem Tx.g_NO_PART_parts (T : Tx K mg) : ∃ t, mg "NO_PART_parts" = some (.int (-4) t) := int_of T (T.says.fact 75 (f := .int "NO_PART_parts" (-4)) rfl)
theorem Tx.g_TWO_MODES (T : Tx K mg) : ∃ t, mg "TWO_MODES" = some (.int (2) t) := int_of T (T.says.fact 76 (f := .int "TWO_MODES" (2)) rfl)
theorem Tx.g_ALL_MODES (T : Tx K mg) : ∃ t, mg "ALL_MODES" = some (.int (3) t) := int_of T (T.says.fact 77 (f := .int "ALL_MODES" (3)) rfl)
theorem Tx.g_SAY (T : Tx K mg) : ∃ t, mg "SAY" = some (.str "say" t) := str_of T (T.says.fact 78 (f := .str "SAY" "say") rfl)
theorem Tx.g_CALL (T : Tx K mg) : ∃ t, mg "CALL" = some (.str "call" t) := str_of T (T.says.fact 79 (f := .str "CALL" "call") rfl)
theorem Tx.g_MAKE (T : Tx K mg) : ∃ t, mg "MAKE" = some (.str "make" t) := str_of T (T.says.fact 80 (f := .str "MAKE" "make") rfl)
theorem Tx.g_WHEN (T : Tx K mg) : ∃ t, mg "WHEN" = some (.str "when" t) := str_of T (T.says.fact 81 (f := .str "WHEN" "when") rfl)
theorem Tx.g_NAME (T : Tx K mg) : ∃ t, mg "NAME" = some (.str "name" t) := str_of T (T.says.fact 82 (f := .str "NAME" "name") rfl)
theorem Tx.g_WORD (T : Tx K mg) : ∃ t, mg "WORD" = some (.str "word" t) := str_of T (T.says.fact 83 (f := .str "WORD" "word") rfl)
theorem Tx.g_NUMBER (T : Tx K mg) : ∃ t, mg "NUMBER" = some (.str "number" t) := str_of T (T.says.fact 84 (f := .str "NUMBER" "number") rfl)
theorem Tx.g_SIGN (T : Tx K mg) : ∃ t, mg "SIGN" = some (.str "sign" t) := str_of T (T.says.fact 85 (f := .str "SIGN" "sign") rfl)
theorem Tx.g_END (T : Tx K mg) : ∃ t, mg "END" = some (.str "end" t) := str_of T (T.says.fact 86 (f := .str "END" "end") rfl)
theorem Tx.g_LETTERS (T : Tx K mg) : ∃ t, mg "LETTERS" = some (.str "abcdefghijklmnopqrstuvwxyzABCDEFGHIJKLMNOPQRSTUVWXYZ" t) := str_of T (T.says.fact 87 (f := .str "LETTERS" "abcdefghijklmnopqrstuvwxyzABCDEFGHIJKLMNOPQRSTUVWXYZ") rfl)
theorem Tx.g_DIGITS (T : Tx K mg) : ∃ t, mg "DIGITS" = some (.str "0123456789" t) := str_of T (T.says.fact 88 (f := .str "DIGITS" "0123456789") rfl)
theorem Tx.g_SIGNS (T : Tx K mg) : ∃ t, mg "SIGNS" = some (.str "+,:;{}" t) := str_of T (T.says.fact 89 (f := .str "SIGNS" "+,:;{}") rfl)
theorem Tx.g_UNKNOWN (T : Tx K mg) : ∃ t, mg "UNKNOWN" = some (.str "?" t) := str_of T (T.says.fact 90 (f := .str "UNKNOWN" "?") rfl)
theorem Tx.c_Part (T : Tx K mg) : Cls K (He.ga K "Part") := He.cls_ok (T.says.fact 91 (f := .cls "Part") rfl)
theorem Tx.m_Part (T : Tx K mg) : Mk K (He.ga K "Part") (He.ma K (He.ga K "Part") "__init__") := He.mkr_ok (T.says.fact 92 (f := .mkr "Part") rfl)
theorem Tx.na_Part_name (T : Tx K mg) : NoAttr K (He.ga K "Part") "name" := He.noat_ok (T.says.fact 93 (f := .noat "Part" "name") rfl)
theorem Tx.na_Part_size (T : Tx K mg) : NoAttr K (He.ga K "Part") "size" := He.noat_ok (T.says.fact 94 (f := .noat "Part" "size") rfl)
theorem Tx.na_Part_statements (T : Tx K mg) : NoAttr K (He.ga K "Part") "statements" := He.noat_ok (T.says.fact 95 (f := .noat "Part" "statements") rfl)
theorem Tx.c_Program (T : Tx K mg) : Cls K (He.ga K "Program") := He.cls_ok (T.says.fact 96 (f := .cls "Program") rfl)
theorem Tx.m_Program (T : Tx K mg) : Mk K (He.ga K "Program") (He.ma K (He.ga K "Program") "__init__") := He.mkr_ok (T.says.fact 97 (f := .mkr "Program") rfl)
theorem Tx.na_Program_settings (T : Tx K mg) : NoAttr K (He.ga K "Program") "settings" := He.noat_ok (T.says.fact 98 (f := .noat "Program" "settings") rfl)
theorem Tx.na_Program_parts (T : Tx K mg) : NoAttr K (He.ga K "Program") "parts" := He.noat_ok (T.says.fact 99 (f := .noat "Program" "parts") rfl)
theorem Tx.na_Program_entries (T : Tx K mg) : NoAttr K (He.ga K "Program") "entries" := He.noat_ok (T.says.fact 100 (f := .noat "Program" "entries") rfl)
theorem Tx.me_Program_setting_names (T : Tx K mg) : Meth K (He.ga K "Program") "setting_names" (He.ma K (He.ga K "Program") "setting_names") := He.meth_ok (T.says.fact 101 (f := .meth "Program" "setting_names") rfl)
theorem Tx.me_Program_part_names (T : Tx K mg) : Meth K (He.ga K "Program") "part_names" (He.ma K (He.ga K "Program") "part_names") := He.meth_ok (T.says.fact 102 (f := .meth "Program" "part_names") rfl)
theorem Tx.me_Program_number_of (T : Tx K mg) : Meth K (He.ga K "Program") "number_of" (He.ma K (He.ga K "Program") "number_of") := He.meth_ok (T.says.fact 103 (f := .meth "Program" "number_of") rfl)
theorem Tx.me_Program_how_many_assignments (T : Tx K mg) : Meth K (He.ga K "Program") "how_many_assignments" (He.ma K (He.ga K "Program") "how_many_assignments") := He.meth_ok (T.says.fact 104 (f := .meth "Program" "how_many_assignments") rfl)
theorem Tx.me_Program_assignment (T : Tx K mg) : Meth K (He.ga K "Program") "assignment" (He.ma K (He.ga K "Program") "assignment") := He.meth_ok (T.says.fact 105 (f := .meth "Program" "assignment") rfl)
theorem Tx.me_Program_piece_word (T : Tx K mg) : Meth K (He.ga K "Program") "piece_word" (He.ma K (He.ga K "Program") "piece_word") := He.meth_ok (T.says.fact 106 (f := .meth "Program" "piece_word") rfl)
theorem Tx.me_Program_meant (T : Tx K mg) : Meth K (He.ga K "Program") "meant" (He.ma K (He.ga K "Program") "meant") := He.meth_ok (T.says.fact 107 (f := .meth "Program" "meant") rfl)
theorem Tx.c_Run (T : Tx K mg) : Cls K (He.ga K "Run") := He.cls_ok (T.says.fact 108 (f := .cls "Run") rfl)
theorem Tx.m_Run (T : Tx K mg) : Mk K (He.ga K "Run") (He.ma K (He.ga K "Run") "__init__") := He.mkr_ok (T.says.fact 109 (f := .mkr "Run") rfl)
theorem Tx.na_Run_program (T : Tx K mg) : NoAttr K (He.ga K "Run") "program" := He.noat_ok (T.says.fact 110 (f := .noat "Run" "program") rfl)
theorem Tx.na_Run_chosen (T : Tx K mg) : NoAttr K (He.ga K "Run") "chosen" := He.noat_ok (T.says.fact 111 (f := .noat "Run" "chosen") rfl)
theorem Tx.na_Run_left (T : Tx K mg) : NoAttr K (He.ga K "Run") "left" := He.noat_ok (T.says.fact 112 (f := .noat "Run" "left") rfl)
theorem Tx.na_Run_open_ones (T : Tx K mg) : NoAttr K (He.ga K "Run") "open_ones" := He.noat_ok (T.says.fact 113 (f := .noat "Run" "open_ones") rfl)
theorem Tx.na_Run_entered (T : Tx K mg) : NoAttr K (He.ga K "Run") "entered" := He.noat_ok (T.says.fact 114 (f := .noat "Run" "entered") rfl)
theorem Tx.na_Run_is_going (T : Tx K mg) : NoAttr K (He.ga K "Run") "is_going" := He.noat_ok (T.says.fact 115 (f := .noat "Run" "is_going") rfl)
theorem Tx.me_Run_depth (T : Tx K mg) : Meth K (He.ga K "Run") "depth" (He.ma K (He.ga K "Run") "depth") := He.meth_ok (T.says.fact 116 (f := .meth "Run" "depth") rfl)
theorem Tx.me_Run_enter (T : Tx K mg) : Meth K (He.ga K "Run") "enter" (He.ma K (He.ga K "Run") "enter") := He.meth_ok (T.says.fact 117 (f := .meth "Run" "enter") rfl)
theorem Tx.me_Run_call (T : Tx K mg) : Meth K (He.ga K "Run") "call" (He.ma K (He.ga K "Run") "call") := He.meth_ok (T.says.fact 118 (f := .meth "Run" "call") rfl)
theorem Tx.me_Run_make (T : Tx K mg) : Meth K (He.ga K "Run") "make" (He.ma K (He.ga K "Run") "make") := He.meth_ok (T.says.fact 119 (f := .meth "Run" "make") rfl)
theorem Tx.me_Run_do_one (T : Tx K mg) : Meth K (He.ga K "Run") "do_one" (He.ma K (He.ga K "Run") "do_one") := He.meth_ok (T.says.fact 120 (f := .meth "Run" "do_one") rfl)
theorem Tx.me_Run_close (T : Tx K mg) : Meth K (He.ga K "Run") "close" (He.ma K (He.ga K "Run") "close") := He.meth_ok (T.says.fact 121 (f := .meth "Run" "close") rfl)
theorem Tx.me_Run_next_one (T : Tx K mg) : Meth K (He.ga K "Run") "next_one" (He.ma K (He.ga K "Run") "next_one") := He.meth_ok (T.says.fact 122 (f := .meth "Run" "next_one") rfl)
theorem Tx.me_Run_done (T : Tx K mg) : Meth K (He.ga K "Run") "done" (He.ma K (He.ga K "Run") "done") := He.meth_ok (T.says.fact 123 (f := .meth "Run" "done") rfl)
theorem Tx.c_Reached (T : Tx K mg) : Cls K (He.ga K "Reached") := He.cls_ok (T.says.fact 124 (f := .cls "Reached") rfl)
theorem Tx.m_Reached (T : Tx K mg) : Mk K (He.ga K "Reached") (He.ma K (He.ga K "Reached") "__init__") := He.mkr_ok (T.says.fact 125 (f := .mkr "Reached") rfl)
theorem Tx.na_Reached_program (T : Tx K mg) : NoAttr K (He.ga K "Reached") "program" := He.noat_ok (T.says.fact 126 (f := .noat "Reached" "program") rfl)
theorem Tx.na_Reached_tables (T : Tx K mg) : NoAttr K (He.ga K "Reached") "tables" := He.noat_ok (T.says.fact 127 (f := .noat "Reached" "tables") rfl)
theorem Tx.na_Reached_branches (T : Tx K mg) : NoAttr K (He.ga K "Reached") "branches" := He.noat_ok (T.says.fact 128 (f := .noat "Reached" "branches") rfl)
theorem Tx.na_Reached_known (T : Tx K mg) : NoAttr K (He.ga K "Reached") "known" := He.noat_ok (T.says.fact 129 (f := .noat "Reached" "known") rfl)
theorem Tx.me_Reached_worked_out (T : Tx K mg) : Meth K (He.ga K "Reached") "worked_out" (He.ma K (He.ga K "Reached") "worked_out") := He.meth_ok (T.says.fact 130 (f := .meth "Reached" "worked_out") rfl)
theorem Tx.me_Reached_come_to (T : Tx K mg) : Meth K (He.ga K "Reached") "come_to" (He.ma K (He.ga K "Reached") "come_to") := He.meth_ok (T.says.fact 131 (f := .meth "Reached" "come_to") rfl)
theorem Tx.me_Reached_lost (T : Tx K mg) : Meth K (He.ga K "Reached") "lost" (He.ma K (He.ga K "Reached") "lost") := He.meth_ok (T.says.fact 132 (f := .meth "Reached" "lost") rfl)
theorem Tx.me_Reached_size_of (T : Tx K mg) : Meth K (He.ga K "Reached") "size_of" (He.ma K (He.ga K "Reached") "size_of") := He.meth_ok (T.says.fact 133 (f := .meth "Reached" "size_of") rfl)
theorem Tx.me_Reached_lost_size (T : Tx K mg) : Meth K (He.ga K "Reached") "lost_size" (He.ma K (He.ga K "Reached") "lost_size") := He.meth_ok (T.says.fact 134 (f := .meth "Reached" "lost_size") rfl)
theorem Tx.me_Reached_chain (T : Tx K mg) : Meth K (He.ga K "Reached") "chain" (He.ma K (He.ga K "Reached") "chain") := He.meth_ok (T.says.fact 135 (f := .meth "Reached" "chain") rfl)
theorem Tx.me_Reached_chain_around (T : Tx K mg) : Meth K (He.ga K "Reached") "chain_around" (He.ma K (He.ga K "Reached") "chain_around") := He.meth_ok (T.says.fact 136 (f := .meth "Reached" "chain_around") rfl)
theorem Tx.me_Reached_hangs_on (T : Tx K mg) : Meth K (He.ga K "Reached") "hangs_on" (He.ma K (He.ga K "Reached") "hangs_on") := He.meth_ok (T.says.fact 137 (f := .meth "Reached" "hangs_on") rfl)
theorem Tx.me_Reached_closest (T : Tx K mg) : Meth K (He.ga K "Reached") "closest" (He.ma K (He.ga K "Reached") "closest") := He.meth_ok (T.says.fact 138 (f := .meth "Reached" "closest") rfl)
theorem Tx.c_Reader (T : Tx K mg) : Cls K (He.ga K "Reader") := He.cls_ok (T.says.fact 139 (f := .cls "Reader") rfl)
theorem Tx.m_Reader (T : Tx K mg) : Mk K (He.ga K "Reader") (He.ma K (He.ga K "Reader") "__init__") := He.mkr_ok (T.says.fact 140 (f := .mkr "Reader") rfl)
theorem Tx.na_Reader_tokens (T : Tx K mg) : NoAttr K (He.ga K "Reader") "tokens" := He.noat_ok (T.says.fact 141 (f := .noat "Reader" "tokens") rfl)
theorem Tx.na_Reader_at (T : Tx K mg) : NoAttr K (He.ga K "Reader") "at" := He.noat_ok (T.says.fact 142 (f := .noat "Reader" "at") rfl)
theorem Tx.na_Reader_program (T : Tx K mg) : NoAttr K (He.ga K "Reader") "program" := He.noat_ok (T.says.fact 143 (f := .noat "Reader" "program") rfl)
theorem Tx.na_Reader_called (T : Tx K mg) : NoAttr K (He.ga K "Reader") "called" := He.noat_ok (T.says.fact 144 (f := .noat "Reader" "called") rfl)
theorem Tx.na_Reader_deep (T : Tx K mg) : NoAttr K (He.ga K "Reader") "deep" := He.noat_ok (T.says.fact 145 (f := .noat "Reader" "deep") rfl)
theorem Tx.me_Reader_where (T : Tx K mg) : Meth K (He.ga K "Reader") "where" (He.ma K (He.ga K "Reader") "where") := He.meth_ok (T.says.fact 146 (f := .meth "Reader" "where") rfl)
theorem Tx.me_Reader_comes (T : Tx K mg) : Meth K (He.ga K "Reader") "comes" (He.ma K (He.ga K "Reader") "comes") := He.meth_ok (T.says.fact 147 (f := .meth "Reader" "comes") rfl)
theorem Tx.me_Reader_want (T : Tx K mg) : Meth K (He.ga K "Reader") "want" (He.ma K (He.ga K "Reader") "want") := He.meth_ok (T.says.fact 148 (f := .meth "Reader" "want") rfl)
theorem Tx.me_Reader_take (T : Tx K mg) : Meth K (He.ga K "Reader") "take" (He.ma K (He.ga K "Reader") "take") := He.meth_ok (T.says.fact 149 (f := .meth "Reader" "take") rfl)
theorem Tx.me_Reader_read (T : Tx K mg) : Meth K (He.ga K "Reader") "read" (He.ma K (He.ga K "Reader") "read") := He.meth_ok (T.says.fact 150 (f := .meth "Reader" "read") rfl)
theorem Tx.me_Reader_next_name (T : Tx K mg) : Meth K (He.ga K "Reader") "next_name" (He.ma K (He.ga K "Reader") "next_name") := He.meth_ok (T.says.fact 151 (f := .meth "Reader" "next_name") rfl)
theorem Tx.me_Reader_read_name (T : Tx K mg) : Meth K (He.ga K "Reader") "read_name" (He.ma K (He.ga K "Reader") "read_name") := He.meth_ok (T.says.fact 152 (f := .meth "Reader" "read_name") rfl)
theorem Tx.me_Reader_read_new_name (T : Tx K mg) : Meth K (He.ga K "Reader") "read_new_name" (He.ma K (He.ga K "Reader") "read_new_name") := He.meth_ok (T.says.fact 153 (f := .meth "Reader" "read_new_name") rfl)
theorem Tx.me_Reader_read_size (T : Tx K mg) : Meth K (He.ga K "Reader") "read_size" (He.ma K (He.ga K "Reader") "read_size") := He.meth_ok (T.says.fact 154 (f := .meth "Reader" "read_size") rfl)
theorem Tx.me_Reader_begin (T : Tx K mg) : Meth K (He.ga K "Reader") "begin" (He.ma K (He.ga K "Reader") "begin") := He.meth_ok (T.says.fact 155 (f := .meth "Reader" "begin") rfl)
theorem Tx.me_Reader_goes_on (T : Tx K mg) : Meth K (He.ga K "Reader") "goes_on" (He.ma K (He.ga K "Reader") "goes_on") := He.meth_ok (T.says.fact 156 (f := .meth "Reader" "goes_on") rfl)
theorem Tx.me_Reader_new_word (T : Tx K mg) : Meth K (He.ga K "Reader") "new_word" (He.ma K (He.ga K "Reader") "new_word") := He.meth_ok (T.says.fact 157 (f := .meth "Reader" "new_word") rfl)
theorem Tx.me_Reader_setting (T : Tx K mg) : Meth K (He.ga K "Reader") "setting" (He.ma K (He.ga K "Reader") "setting") := He.meth_ok (T.says.fact 158 (f := .meth "Reader" "setting") rfl)
theorem Tx.me_Reader_piece (T : Tx K mg) : Meth K (He.ga K "Reader") "piece" (He.ma K (He.ga K "Reader") "piece") := He.meth_ok (T.says.fact 159 (f := .meth "Reader" "piece") rfl)
theorem Tx.me_Reader_make (T : Tx K mg) : Meth K (He.ga K "Reader") "make" (He.ma K (He.ga K "Reader") "make") := He.meth_ok (T.says.fact 160 (f := .meth "Reader" "make") rfl)
theorem Tx.me_Reader_call (T : Tx K mg) : Meth K (He.ga K "Reader") "call" (He.ma K (He.ga K "Reader") "call") := He.meth_ok (T.says.fact 161 (f := .meth "Reader" "call") rfl)
theorem Tx.me_Reader_say (T : Tx K mg) : Meth K (He.ga K "Reader") "say" (He.ma K (He.ga K "Reader") "say") := He.meth_ok (T.says.fact 162 (f := .meth "Reader" "say") rfl)
theorem Tx.me_Reader_when (T : Tx K mg) : Meth K (He.ga K "Reader") "when" (He.ma K (He.ga K "Reader") "when") := He.meth_ok (T.says.fact 163 (f := .meth "Reader" "when") rfl)
theorem Tx.me_Reader_statement (T : Tx K mg) : Meth K (He.ga K "Reader") "statement" (He.ma K (He.ga K "Reader") "statement") := He.meth_ok (T.says.fact 164 (f := .meth "Reader" "statement") rfl)
theorem Tx.me_Reader_block (T : Tx K mg) : Meth K (He.ga K "Reader") "block" (He.ma K (He.ga K "Reader") "block") := He.meth_ok (T.says.fact 165 (f := .meth "Reader" "block") rfl)
theorem Tx.me_Reader_part (T : Tx K mg) : Meth K (He.ga K "Reader") "part" (He.ma K (He.ga K "Reader") "part") := He.meth_ok (T.says.fact 166 (f := .meth "Reader" "part") rfl)
theorem Tx.me_Reader_entry (T : Tx K mg) : Meth K (He.ga K "Reader") "entry" (He.ma K (He.ga K "Reader") "entry") := He.meth_ok (T.says.fact 167 (f := .meth "Reader" "entry") rfl)
theorem Tx.me_Reader_start (T : Tx K mg) : Meth K (He.ga K "Reader") "start" (He.ma K (He.ga K "Reader") "start") := He.meth_ok (T.says.fact 168 (f := .meth "Reader" "start") rfl)
theorem Tx.me_Reader_whole (T : Tx K mg) : Meth K (He.ga K "Reader") "whole" (He.ma K (He.ga K "Reader") "whole") := He.meth_ok (T.says.fact 169 (f := .meth "Reader" "whole") rfl)
theorem Tx.c_Desk (T : Tx K mg) : Cls K (He.ga K "Desk") := He.cls_ok (T.says.fact 170 (f := .cls "Desk") rfl)
theorem Tx.m_Desk (T : Tx K mg) : Mk K (He.ga K "Desk") (He.ma K (He.ga K "Desk") "__init__") := He.mkr_ok (T.says.fact 171 (f := .mkr "Desk") rfl)
theorem Tx.na_Desk_program (T : Tx K mg) : NoAttr K (He.ga K "Desk") "program" := He.noat_ok (T.says.fact 172 (f := .noat "Desk" "program") rfl)
theorem Tx.na_Desk_reached (T : Tx K mg) : NoAttr K (He.ga K "Desk") "reached" := He.noat_ok (T.says.fact 173 (f := .noat "Desk" "reached") rfl)
theorem Tx.me_Desk_load (T : Tx K mg) : Meth K (He.ga K "Desk") "load" (He.ma K (He.ga K "Desk") "load") := He.meth_ok (T.says.fact 174 (f := .meth "Desk" "load") rfl)
theorem Tx.me_Desk_want_mode (T : Tx K mg) : Meth K (He.ga K "Desk") "want_mode" (He.ma K (He.ga K "Desk") "want_mode") := He.meth_ok (T.says.fact 175 (f := .meth "Desk" "want_mode") rfl)
theorem Tx.me_Desk_want_parts (T : Tx K mg) : Meth K (He.ga K "Desk") "want_parts" (He.ma K (He.ga K "Desk") "want_parts") := He.meth_ok (T.says.fact 176 (f := .meth "Desk" "want_parts") rfl)
theorem Tx.me_Desk_shown (T : Tx K mg) : Meth K (He.ga K "Desk") "shown" (He.ma K (He.ga K "Desk") "shown") := He.meth_ok (T.says.fact 177 (f := .meth "Desk" "shown") rfl)
theorem Tx.me_Desk_chain (T : Tx K mg) : Meth K (He.ga K "Desk") "chain" (He.ma K (He.ga K "Desk") "chain") := He.meth_ok (T.says.fact 178 (f := .meth "Desk" "chain") rfl)
theorem Tx.me_Desk_lost (T : Tx K mg) : Meth K (He.ga K "Desk") "lost" (He.ma K (He.ga K "Desk") "lost") := He.meth_ok (T.says.fact 179 (f := .meth "Desk" "lost") rfl)
theorem Tx.me_Desk_tree (T : Tx K mg) : Meth K (He.ga K "Desk") "tree" (He.ma K (He.ga K "Desk") "tree") := He.meth_ok (T.says.fact 180 (f := .meth "Desk" "tree") rfl)
theorem Tx.me_Desk_shares (T : Tx K mg) : Meth K (He.ga K "Desk") "shares" (He.ma K (He.ga K "Desk") "shares") := He.meth_ok (T.says.fact 181 (f := .meth "Desk" "shares") rfl)
theorem Tx.me_Desk_around (T : Tx K mg) : Meth K (He.ga K "Desk") "around" (He.ma K (He.ga K "Desk") "around") := He.meth_ok (T.says.fact 182 (f := .meth "Desk" "around") rfl)
theorem Tx.me_Desk_both (T : Tx K mg) : Meth K (He.ga K "Desk") "both" (He.ma K (He.ga K "Desk") "both") := He.meth_ok (T.says.fact 183 (f := .meth "Desk" "both") rfl)
theorem Tx.me_Desk_heavy (T : Tx K mg) : Meth K (He.ga K "Desk") "heavy" (He.ma K (He.ga K "Desk") "heavy") := He.meth_ok (T.says.fact 184 (f := .meth "Desk" "heavy") rfl)
theorem Tx.me_Desk_asked (T : Tx K mg) : Meth K (He.ga K "Desk") "asked" (He.ma K (He.ga K "Desk") "asked") := He.meth_ok (T.says.fact 185 (f := .meth "Desk" "asked") rfl)
theorem Tx.me_Desk_answer (T : Tx K mg) : Meth K (He.ga K "Desk") "answer" (He.ma K (He.ga K "Desk") "answer") := He.meth_ok (T.says.fact 186 (f := .meth "Desk" "answer") rfl)
theorem Tx.na_Fault_code (T : Tx K mg) : NoAttr K (He.ga K "Fault") "code" := He.noat_ok (T.says.fact 187 (f := .noat "Fault" "code") rfl)
theorem Tx.na_Fault_place (T : Tx K mg) : NoAttr K (He.ga K "Fault") "place" := He.noat_ok (T.says.fact 188 (f := .noat "Fault" "place") rfl)
theorem Tx.k_Fault (T : Tx K mg) : PySem.W.keepIn K (.ref (He.ga K "Fault")) = true := He.keep_ok (T.says.fact 189 (f := .keep "Fault") rfl)
theorem Tx.x_Fault (T : Tx K mg) : PySem.W.exmOne K (.ref (He.ga K "Fault")) (.ref (He.ga K "Fault")) = some true := He.exm_ok (T.says.fact 190 (f := .exm "Fault" "Fault" true) rfl)
theorem Tx.na_Refused_number (T : Tx K mg) : NoAttr K (He.ga K "Refused") "number" := He.noat_ok (T.says.fact 191 (f := .noat "Refused" "number") rfl)
theorem Tx.k_Refused (T : Tx K mg) : PySem.W.keepIn K (.ref (He.ga K "Refused")) = true := He.keep_ok (T.says.fact 192 (f := .keep "Refused") rfl)
theorem Tx.x_Refused (T : Tx K mg) : PySem.W.exmOne K (.ref (He.ga K "Refused")) (.ref (He.ga K "Refused")) = some true := He.exm_ok (T.says.fact 193 (f := .exm "Refused" "Refused" true) rfl)
theorem Tx.e_Fault (T : Tx K mg) : OexF K "Fault" := oexF_ok (T.says.own 0 rfl)
theorem Tx.e_Refused (T : Tx K mg) : OexF K "Refused" := oexF_ok (T.says.own 1 rfl)
theorem Tx.vei (T : Tx K mg) : PySem.W.findCls K (.type "ValueError") (.type "type") "__init__" = some (.val (.builtin "ValueError.__init__")) := veiF_ok (T.says.own 2 rfl)
theorem Tx.g_come_to_leading (T : Tx K mg) : mg "come_to_leading" = some (.ref (He.ga K "come_to")) := T.some_ _ _ (He.eqO_ok (T.says.own 3 rfl))
theorem Tx.g_WORDS (T : Tx K mg) : mg "WORDS" = some (.ref (He.ga K "WORDS")) := T.some_ _ _ (He.eqO_ok (T.says.own 4 rfl))
theorem Tx.t_WORDS (T : Tx K mg) : ∀ H, SqT K H (He.ga K "WORDS") [.str "set", .str "part", .str "size", .str "start", .str "say", .str "call", .str "make", .str "when", .str "is"] := fun H => tupA_ok (T.says.own 5 rfl) H
theorem Tx.g_BLANKS (T : Tx K mg) : mg "BLANKS" = some (.ref (He.ga K "BLANKS")) := T.some_ _ _ (He.eqO_ok (T.says.own 6 rfl))
theorem Tx.t_BLANKS (T : Tx K mg) : ∀ H, SqT K H (He.ga K "BLANKS") [.int (32), .int (9), .int (10)] := fun H => tupA_ok (T.says.own 7 rfl) H
theorem Tx.g_FORMS (T : Tx K mg) : mg "FORMS" = some (.ref (He.ga K "FORMS")) := T.some_ _ _ (He.eqO_ok (T.says.own 8 rfl))
theorem Tx.t_FORMS (T : Tx K mg) : ∀ H, SqT K H (He.ga K "FORMS") [.ref (itA "FORMS" 0 K), .ref (itA "FORMS" 1 K), .ref (itA "FORMS" 2 K), .ref (itA "FORMS" 3 K), .ref (itA "FORMS" 4 K), .ref (itA "FORMS" 5 K), .ref (itA "FORMS" 6 K), .ref (itA "FORMS" 7 K), .ref (itA "FORMS" 8 K)] := fun H => tupA_ok (T.says.own 9 rfl) H
theorem Tx.t_FORMS_0 (T : Tx K mg) : ∀ H, SqT K H (itA "FORMS" 0 K) [.int (0), .int (1)] := fun H => tupA_ok (T.says.own 10 rfl) H
theorem Tx.t_FORMS_1 (T : Tx K mg) : ∀ H, SqT K H (itA "FORMS" 1 K) [.int (0), .int (0)] := fun H => tupA_ok (T.says.own 11 rfl) H
theorem Tx.t_FORMS_2 (T : Tx K mg) : ∀ H, SqT K H (itA "FORMS" 2 K) [.int (2), .int (0)] := fun H => tupA_ok (T.says.own 12 rfl) H
theorem Tx.t_FORMS_3 (T : Tx K mg) : ∀ H, SqT K H (itA "FORMS" 3 K) [.int (2), .int (0)] := fun H => tupA_ok (T.says.own 13 rfl) H
theorem Tx.t_FORMS_4 (T : Tx K mg) : ∀ H, SqT K H (itA "FORMS" 4 K) [.int (0), .int (0)] := fun H => tupA_ok (T.says.own 14 rfl) H
theorem Tx.t_FORMS_5 (T : Tx K mg) : ∀ H, SqT K H (itA "FORMS" 5 K) [.int (1), .int (0)] := fun H => tupA_ok (T.says.own 15 rfl) H
theorem Tx.t_FORMS_6 (T : Tx K mg) : ∀ H, SqT K H (itA "FORMS" 6 K) [.int (2), .int (0)] := fun H => tupA_ok (T.says.own 16 rfl) H
theorem Tx.t_FORMS_7 (T : Tx K mg) : ∀ H, SqT K H (itA "FORMS" 7 K) [.int (3), .int (0)] := fun H => tupA_ok (T.says.own 17 rfl) H
theorem Tx.t_FORMS_8 (T : Tx K mg) : ∀ H, SqT K H (itA "FORMS" 8 K) [.int (1), .int (0)] := fun H => tupA_ok (T.says.own 18 rfl) H
abbrev FnP (K : PySem.W.Frag) (x q : Str) (st : Stmt) (f : Addr) (fd : FuncData) : Prop := FunD K x q (defArgs st) (defBody st) (defScope st) [] [] f fd
theorem Tx.f_Part___init__ (T : Tx K mg) : ∃ fd, FnP K "__init__" "Part.__init__" s_Part___init__ (He.ma K (He.ga K "Part") "__init__") fd := T.says.def_ 0 (d := d_Part___init__) rfl
theorem Tx.f_Program___init__ (T : Tx K mg) : ∃ fd, FnP K "__init__" "Program.__init__" s_Program___init__ (He.ma K (He.ga K "Program") "__init__") fd := T.says.def_ 1 (d := d_Program___init__) rfl
theorem Tx.f_Program_setting_names (T : Tx K mg) : ∃ fd, FnP K "setting_names" "Program.setting_names" s_Program_setting_names (He.ma K (He.ga K "Program") "setting_names") fd := T.says.def_ 2 (d := d_Program_setting_names) rfl
theorem Tx.f_Program_part_names (T : Tx K mg) : ∃ fd, FnP K "part_names" "Program.part_names" s_Program_part_names (He.ma K (He.ga K "Program") "part_names") fd := T.says.def_ 3 (d := d_Program_part_names) rfl
theorem Tx.f_Program_number_of (T : Tx K mg) : ∃ fd, FnP K "number_of" "Program.number_of" s_Program_number_of (He.ma K (He.ga K "Program") "number_of") fd := T.says.def_ 4 (d := d_Program_number_of) rfl
theorem Tx.f_Program_how_many_assignments (T : Tx K mg) : ∃ fd, FnP K "how_many_assignments" "Program.how_many_assignments" s_Program_how_many_assignments (He.ma K (He.ga K "Program") "how_many_assignments") fd := T.says.def_ 5 (d := d_Program_how_many_assignments) rfl
theorem Tx.f_Program_assignment (T : Tx K mg) : ∃ fd, FnP K "assignment" "Program.assignment" s_Program_assignment (He.ma K (He.ga K "Program") "assignment") fd := T.says.def_ 6 (d := d_Program_assignment) rfl
theorem Tx.f_Program_piece_word (T : Tx K mg) : ∃ fd, FnP K "piece_word" "Program.piece_word" s_Program_piece_word (He.ma K (He.ga K "Program") "piece_word") fd := T.says.def_ 7 (d := d_Program_piece_word) rfl
theorem Tx.f_Program_meant (T : Tx K mg) : ∃ fd, FnP K "meant" "Program.meant" s_Program_meant (He.ma K (He.ga K "Program") "meant") fd := T.says.def_ 8 (d := d_Program_meant) rfl
theorem Tx.f_listed (T : Tx K mg) : ∃ fd, FnP K "listed" "listed" s_listed (He.ga K "listed") fd := T.says.def_ 9 (d := d_listed) rfl
theorem Tx.f_statement_words (T : Tx K mg) : ∃ fd, FnP K "statement_words" "statement_words" s_statement_words (He.ga K "statement_words") fd := T.says.def_ 10 (d := d_statement_words) rfl
theorem Tx.f_block_words (T : Tx K mg) : ∃ fd, FnP K "block_words" "block_words" s_block_words (He.ga K "block_words") fd := T.says.def_ 11 (d := d_block_words) rfl
theorem Tx.f_one_form (T : Tx K mg) : ∃ fd, FnP K "one_form" "one_form" s_one_form (He.ga K "one_form") fd := T.says.def_ 12 (d := d_one_form) rfl
theorem Tx.f_Run___init__ (T : Tx K mg) : ∃ fd, FnP K "__init__" "Run.__init__" s_Run___init__ (He.ma K (He.ga K "Run") "__init__") fd := T.says.def_ 13 (d := d_Run___init__) rfl
theorem Tx.f_Run_depth (T : Tx K mg) : ∃ fd, FnP K "depth" "Run.depth" s_Run_depth (He.ma K (He.ga K "Run") "depth") fd := T.says.def_ 14 (d := d_Run_depth) rfl
theorem Tx.f_Run_enter (T : Tx K mg) : ∃ fd, FnP K "enter" "Run.enter" s_Run_enter (He.ma K (He.ga K "Run") "enter") fd := T.says.def_ 15 (d := d_Run_enter) rfl
theorem Tx.f_Run_call (T : Tx K mg) : ∃ fd, FnP K "call" "Run.call" s_Run_call (He.ma K (He.ga K "Run") "call") fd := T.says.def_ 16 (d := d_Run_call) rfl
theorem Tx.f_Run_make (T : Tx K mg) : ∃ fd, FnP K "make" "Run.make" s_Run_make (He.ma K (He.ga K "Run") "make") fd := T.says.def_ 17 (d := d_Run_make) rfl
theorem Tx.f_Run_do_one (T : Tx K mg) : ∃ fd, FnP K "do_one" "Run.do_one" s_Run_do_one (He.ma K (He.ga K "Run") "do_one") fd := T.says.def_ 18 (d := d_Run_do_one) rfl
theorem Tx.f_Run_close (T : Tx K mg) : ∃ fd, FnP K "close" "Run.close" s_Run_close (He.ma K (He.ga K "Run") "close") fd := T.says.def_ 19 (d := d_Run_close) rfl
theorem Tx.f_Run_next_one (T : Tx K mg) : ∃ fd, FnP K "next_one" "Run.next_one" s_Run_next_one (He.ma K (He.ga K "Run") "next_one") fd := T.says.def_ 20 (d := d_Run_next_one) rfl
theorem Tx.f_Run_done (T : Tx K mg) : ∃ fd, FnP K "done" "Run.done" s_Run_done (He.ma K (He.ga K "Run") "done") fd := T.says.def_ 21 (d := d_Run_done) rfl
theorem Tx.f_entered_exactly (T : Tx K mg) : ∃ fd, FnP K "entered_exactly" "entered_exactly" s_entered_exactly (He.ga K "entered_exactly") fd := T.says.def_ 22 (d := d_entered_exactly) rfl
theorem Tx.f_leads_in (T : Tx K mg) : ∃ fd, FnP K "leads_in" "leads_in" s_leads_in (He.ga K "leads_in") fd := T.says.def_ 23 (d := d_leads_in) rfl
theorem Tx.f_flat (T : Tx K mg) : ∃ fd, FnP K "flat" "flat" s_flat (He.ga K "flat") fd := T.says.def_ 24 (d := d_flat) rfl
theorem Tx.f_rising (T : Tx K mg) : ∃ fd, FnP K "rising" "rising" s_rising (He.ga K "rising") fd := T.says.def_ 25 (d := d_rising) rfl
theorem Tx.f_table_in (T : Tx K mg) : ∃ fd, FnP K "table_in" "table_in" s_table_in (He.ga K "table_in") fd := T.says.def_ 26 (d := d_table_in) rfl
theorem Tx.f_table_of_all (T : Tx K mg) : ∃ fd, FnP K "table_of_all" "table_of_all" s_table_of_all (He.ga K "table_of_all") fd := T.says.def_ 27 (d := d_table_of_all) rfl
theorem Tx.f_come_to (T : Tx K mg) : ∃ fd, FnP K "come_to" "come_to" s_come_to (He.ga K "come_to") fd := T.says.def_ 28 (d := d_come_to) rfl
theorem Tx.f_shortest_chain (T : Tx K mg) : ∃ fd, FnP K "shortest_chain" "shortest_chain" s_shortest_chain (He.ga K "shortest_chain") fd := T.says.def_ 29 (d := d_shortest_chain) rfl
theorem Tx.f_Reached___init__ (T : Tx K mg) : ∃ fd, FnP K "__init__" "Reached.__init__" s_Reached___init__ (He.ma K (He.ga K "Reached") "__init__") fd := T.says.def_ 30 (d := d_Reached___init__) rfl
theorem Tx.f_Reached_worked_out (T : Tx K mg) : ∃ fd, FnP K "worked_out" "Reached.worked_out" s_Reached_worked_out (He.ma K (He.ga K "Reached") "worked_out") fd := T.says.def_ 31 (d := d_Reached_worked_out) rfl
theorem Tx.f_Reached_come_to (T : Tx K mg) : ∃ fd, FnP K "come_to" "Reached.come_to" s_Reached_come_to (He.ma K (He.ga K "Reached") "come_to") fd := T.says.def_ 32 (d := d_Reached_come_to) rfl
theorem Tx.f_Reached_lost (T : Tx K mg) : ∃ fd, FnP K "lost" "Reached.lost" s_Reached_lost (He.ma K (He.ga K "Reached") "lost") fd := T.says.def_ 33 (d := d_Reached_lost) rfl
theorem Tx.f_Reached_size_of (T : Tx K mg) : ∃ fd, FnP K "size_of" "Reached.size_of" s_Reached_size_of (He.ma K (He.ga K "Reached") "size_of") fd := T.says.def_ 34 (d := d_Reached_size_of) rfl
theorem Tx.f_Reached_lost_size (T : Tx K mg) : ∃ fd, FnP K "lost_size" "Reached.lost_size" s_Reached_lost_size (He.ma K (He.ga K "Reached") "lost_size") fd := T.says.def_ 35 (d := d_Reached_lost_size) rfl
theorem Tx.f_Reached_chain (T : Tx K mg) : ∃ fd, FnP K "chain" "Reached.chain" s_Reached_chain (He.ma K (He.ga K "Reached") "chain") fd := T.says.def_ 36 (d := d_Reached_chain) rfl
theorem Tx.f_Reached_chain_around (T : Tx K mg) : ∃ fd, FnP K "chain_around" "Reached.chain_around" s_Reached_chain_around (He.ma K (He.ga K "Reached") "chain_around") fd := T.says.def_ 37 (d := d_Reached_chain_around) rfl
theorem Tx.f_Reached_hangs_on (T : Tx K mg) : ∃ fd, FnP K "hangs_on" "Reached.hangs_on" s_Reached_hangs_on (He.ma K (He.ga K "Reached") "hangs_on") fd := T.says.def_ 38 (d := d_Reached_hangs_on) rfl
theorem Tx.f_Reached_closest (T : Tx K mg) : ∃ fd, FnP K "closest" "Reached.closest" s_Reached_closest (He.ma K (He.ga K "Reached") "closest") fd := T.says.def_ 39 (d := d_Reached_closest) rfl
theorem Tx.f_Fault___init__ (T : Tx K mg) : ∃ fd, FnP K "__init__" "Fault.__init__" s_Fault___init__ (He.ma K (He.ga K "Fault") "__init__") fd := T.says.def_ 40 (d := d_Fault___init__) rfl
theorem Tx.f_sign_of (T : Tx K mg) : ∃ fd, FnP K "sign_of" "sign_of" s_sign_of (He.ga K "sign_of") fd := T.says.def_ 41 (d := d_sign_of) rfl
theorem Tx.f_run_end (T : Tx K mg) : ∃ fd, FnP K "run_end" "run_end" s_run_end (He.ga K "run_end") fd := T.says.def_ 42 (d := d_run_end) rfl
theorem Tx.f_remark_end (T : Tx K mg) : ∃ fd, FnP K "remark_end" "remark_end" s_remark_end (He.ga K "remark_end") fd := T.says.def_ 43 (d := d_remark_end) rfl
theorem Tx.f_worth_of (T : Tx K mg) : ∃ fd, FnP K "worth_of" "worth_of" s_worth_of (He.ga K "worth_of") fd := T.says.def_ 44 (d := d_worth_of) rfl
theorem Tx.f_number_at (T : Tx K mg) : ∃ fd, FnP K "number_at" "number_at" s_number_at (He.ga K "number_at") fd := T.says.def_ 45 (d := d_number_at) rfl
theorem Tx.f_token_at (T : Tx K mg) : ∃ fd, FnP K "token_at" "token_at" s_token_at (He.ga K "token_at") fd := T.says.def_ 46 (d := d_token_at) rfl
theorem Tx.f_tokens_of (T : Tx K mg) : ∃ fd, FnP K "tokens_of" "tokens_of" s_tokens_of (He.ga K "tokens_of") fd := T.says.def_ 47 (d := d_tokens_of) rfl
theorem Tx.f_Reader___init__ (T : Tx K mg) : ∃ fd, FnP K "__init__" "Reader.__init__" s_Reader___init__ (He.ma K (He.ga K "Reader") "__init__") fd := T.says.def_ 48 (d := d_Reader___init__) rfl
theorem Tx.f_Reader_where (T : Tx K mg) : ∃ fd, FnP K "where" "Reader.where" s_Reader_where (He.ma K (He.ga K "Reader") "where") fd := T.says.def_ 49 (d := d_Reader_where) rfl
theorem Tx.f_Reader_comes (T : Tx K mg) : ∃ fd, FnP K "comes" "Reader.comes" s_Reader_comes (He.ma K (He.ga K "Reader") "comes") fd := T.says.def_ 50 (d := d_Reader_comes) rfl
theorem Tx.f_Reader_want (T : Tx K mg) : ∃ fd, FnP K "want" "Reader.want" s_Reader_want (He.ma K (He.ga K "Reader") "want") fd := T.says.def_ 51 (d := d_Reader_want) rfl
theorem Tx.f_Reader_take (T : Tx K mg) : ∃ fd, FnP K "take" "Reader.take" s_Reader_take (He.ma K (He.ga K "Reader") "take") fd := T.says.def_ 52 (d := d_Reader_take) rfl
theorem Tx.f_Reader_read (T : Tx K mg) : ∃ fd, FnP K "read" "Reader.read" s_Reader_read (He.ma K (He.ga K "Reader") "read") fd := T.says.def_ 53 (d := d_Reader_read) rfl
theorem Tx.f_Reader_next_name (T : Tx K mg) : ∃ fd, FnP K "next_name" "Reader.next_name" s_Reader_next_name (He.ma K (He.ga K "Reader") "next_name") fd := T.says.def_ 54 (d := d_Reader_next_name) rfl
theorem Tx.f_Reader_read_name (T : Tx K mg) : ∃ fd, FnP K "read_name" "Reader.read_name" s_Reader_read_name (He.ma K (He.ga K "Reader") "read_name") fd := T.says.def_ 55 (d := d_Reader_read_name) rfl
theorem Tx.f_Reader_read_new_name (T : Tx K mg) : ∃ fd, FnP K "read_new_name" "Reader.read_new_name" s_Reader_read_new_name (He.ma K (He.ga K "Reader") "read_new_name") fd := T.says.def_ 56 (d := d_Reader_read_new_name) rfl
theorem Tx.f_Reader_read_size (T : Tx K mg) : ∃ fd, FnP K "read_size" "Reader.read_size" s_Reader_read_size (He.ma K (He.ga K "Reader") "read_size") fd := T.says.def_ 57 (d := d_Reader_read_size) rfl
theorem Tx.f_Reader_begin (T : Tx K mg) : ∃ fd, FnP K "begin" "Reader.begin" s_Reader_begin (He.ma K (He.ga K "Reader") "begin") fd := T.says.def_ 58 (d := d_Reader_begin) rfl
theorem Tx.f_Reader_goes_on (T : Tx K mg) : ∃ fd, FnP K "goes_on" "Reader.goes_on" s_Reader_goes_on (He.ma K (He.ga K "Reader") "goes_on") fd := T.says.def_ 59 (d := d_Reader_goes_on) rfl
theorem Tx.f_Reader_new_word (T : Tx K mg) : ∃ fd, FnP K "new_word" "Reader.new_word" s_Reader_new_word (He.ma K (He.ga K "Reader") "new_word") fd := T.says.def_ 60 (d := d_Reader_new_word) rfl
theorem Tx.f_Reader_setting (T : Tx K mg) : ∃ fd, FnP K "setting" "Reader.setting" s_Reader_setting (He.ma K (He.ga K "Reader") "setting") fd := T.says.def_ 61 (d := d_Reader_setting) rfl
theorem Tx.f_Reader_piece (T : Tx K mg) : ∃ fd, FnP K "piece" "Reader.piece" s_Reader_piece (He.ma K (He.ga K "Reader") "piece") fd := T.says.def_ 62 (d := d_Reader_piece) rfl
theorem Tx.f_Reader_make (T : Tx K mg) : ∃ fd, FnP K "make" "Reader.make" s_Reader_make (He.ma K (He.ga K "Reader") "make") fd := T.says.def_ 63 (d := d_Reader_make) rfl
theorem Tx.f_Reader_call (T : Tx K mg) : ∃ fd, FnP K "call" "Reader.call" s_Reader_call (He.ma K (He.ga K "Reader") "call") fd := T.says.def_ 64 (d := d_Reader_call) rfl
theorem Tx.f_Reader_say (T : Tx K mg) : ∃ fd, FnP K "say" "Reader.say" s_Reader_say (He.ma K (He.ga K "Reader") "say") fd := T.says.def_ 65 (d := d_Reader_say) rfl
theorem Tx.f_Reader_when (T : Tx K mg) : ∃ fd, FnP K "when" "Reader.when" s_Reader_when (He.ma K (He.ga K "Reader") "when") fd := T.says.def_ 66 (d := d_Reader_when) rfl
theorem Tx.f_Reader_statement (T : Tx K mg) : ∃ fd, FnP K "statement" "Reader.statement" s_Reader_statement (He.ma K (He.ga K "Reader") "statement") fd := T.says.def_ 67 (d := d_Reader_statement) rfl
theorem Tx.f_Reader_block (T : Tx K mg) : ∃ fd, FnP K "block" "Reader.block" s_Reader_block (He.ma K (He.ga K "Reader") "block") fd := T.says.def_ 68 (d := d_Reader_block) rfl
theorem Tx.f_Reader_part (T : Tx K mg) : ∃ fd, FnP K "part" "Reader.part" s_Reader_part (He.ma K (He.ga K "Reader") "part") fd := T.says.def_ 69 (d := d_Reader_part) rfl
theorem Tx.f_Reader_entry (T : Tx K mg) : ∃ fd, FnP K "entry" "Reader.entry" s_Reader_entry (He.ma K (He.ga K "Reader") "entry") fd := T.says.def_ 70 (d := d_Reader_entry) rfl
theorem Tx.f_Reader_start (T : Tx K mg) : ∃ fd, FnP K "start" "Reader.start" s_Reader_start (He.ma K (He.ga K "Reader") "start") fd := T.says.def_ 71 (d := d_Reader_start) rfl
theorem Tx.f_Reader_whole (T : Tx K mg) : ∃ fd, FnP K "whole" "Reader.whole" s_Reader_whole (He.ma K (He.ga K "Reader") "whole") fd := T.says.def_ 72 (d := d_Reader_whole) rfl
theorem Tx.f_read_program (T : Tx K mg) : ∃ fd, FnP K "read_program" "read_program" s_read_program (He.ga K "read_program") fd := T.says.def_ 73 (d := d_read_program) rfl
theorem Tx.f_Refused___init__ (T : Tx K mg) : ∃ fd, FnP K "__init__" "Refused.__init__" s_Refused___init__ (He.ma K (He.ga K "Refused") "__init__") fd := T.says.def_ 74 (d := d_Refused___init__) rfl
theorem Tx.f_want (T : Tx K mg) : ∃ fd, FnP K "want" "want" s_want (He.ga K "want") fd := T.says.def_ 75 (d := d_want) rfl
theorem Tx.f_told (T : Tx K mg) : ∃ fd, FnP K "told" "told" s_told (He.ga K "told") fd := T.says.def_ 76 (d := d_told) rfl
theorem Tx.f_Desk___init__ (T : Tx K mg) : ∃ fd, FnP K "__init__" "Desk.__init__" s_Desk___init__ (He.ma K (He.ga K "Desk") "__init__") fd := T.says.def_ 77 (d := d_Desk___init__) rfl
theorem Tx.f_Desk_load (T : Tx K mg) : ∃ fd, FnP K "load" "Desk.load" s_Desk_load (He.ma K (He.ga K "Desk") "load") fd := T.says.def_ 78 (d := d_Desk_load) rfl
theorem Tx.f_Desk_want_mode (T : Tx K mg) : ∃ fd, FnP K "want_mode" "Desk.want_mode" s_Desk_want_mode (He.ma K (He.ga K "Desk") "want_mode") fd := T.says.def_ 79 (d := d_Desk_want_mode) rfl
theorem Tx.f_Desk_want_parts (T : Tx K mg) : ∃ fd, FnP K "want_parts" "Desk.want_parts" s_Desk_want_parts (He.ma K (He.ga K "Desk") "want_parts") fd := T.says.def_ 80 (d := d_Desk_want_parts) rfl
theorem Tx.f_Desk_shown (T : Tx K mg) : ∃ fd, FnP K "shown" "Desk.shown" s_Desk_shown (He.ma K (He.ga K "Desk") "shown") fd := T.says.def_ 81 (d := d_Desk_shown) rfl
theorem Tx.f_Desk_chain (T : Tx K mg) : ∃ fd, FnP K "chain" "Desk.chain" s_Desk_chain (He.ma K (He.ga K "Desk") "chain") fd := T.says.def_ 82 (d := d_Desk_chain) rfl
theorem Tx.f_Desk_lost (T : Tx K mg) : ∃ fd, FnP K "lost" "Desk.lost" s_Desk_lost (He.ma K (He.ga K "Desk") "lost") fd := T.says.def_ 83 (d := d_Desk_lost) rfl
theorem Tx.f_Desk_tree (T : Tx K mg) : ∃ fd, FnP K "tree" "Desk.tree" s_Desk_tree (He.ma K (He.ga K "Desk") "tree") fd := T.says.def_ 84 (d := d_Desk_tree) rfl
theorem Tx.f_Desk_shares (T : Tx K mg) : ∃ fd, FnP K "shares" "Desk.shares" s_Desk_shares (He.ma K (He.ga K "Desk") "shares") fd := T.says.def_ 85 (d := d_Desk_shares) rfl
theorem Tx.f_Desk_around (T : Tx K mg) : ∃ fd, FnP K "around" "Desk.around" s_Desk_around (He.ma K (He.ga K "Desk") "around") fd := T.says.def_ 86 (d := d_Desk_around) rfl
theorem Tx.f_Desk_both (T : Tx K mg) : ∃ fd, FnP K "both" "Desk.both" s_Desk_both (He.ma K (He.ga K "Desk") "both") fd := T.says.def_ 87 (d := d_Desk_both) rfl
theorem Tx.f_Desk_heavy (T : Tx K mg) : ∃ fd, FnP K "heavy" "Desk.heavy" s_Desk_heavy (He.ma K (He.ga K "Desk") "heavy") fd := T.says.def_ 88 (d := d_Desk_heavy) rfl
theorem Tx.f_Desk_asked (T : Tx K mg) : ∃ fd, FnP K "asked" "Desk.asked" s_Desk_asked (He.ma K (He.ga K "Desk") "asked") fd := T.says.def_ 89 (d := d_Desk_asked) rfl
theorem Tx.f_Desk_answer (T : Tx K mg) : ∃ fd, FnP K "answer" "Desk.answer" s_Desk_answer (He.ma K (He.ga K "Desk") "answer") fd := T.says.def_ 90 (d := d_Desk_answer) rfl
theorem Tx.f_rows_at (T : Tx K mg) : ∃ fd, FnP K "rows_at" "rows_at" s_rows_at (He.ga K "rows_at") fd := T.says.def_ 91 (d := d_rows_at) rfl
theorem Tx.f_answers (T : Tx K mg) : ∃ fd, FnP K "answers" "answers" s_answers (He.ga K "answers") fd := T.says.def_ 92 (d := d_answers) rfl
end
end Wk
set_option maxHeartbeats 0
namespace Wk
open PySem PySem.Spec PyProof.Rows L2
theorem run (w : World) : HandSHeadRun.RunEqS R (PySem.W.view R.prog [84]) hk ob 20000 loose w := by
  intro os
  kernel_rfl
end Wk
set_option maxHeartbeats 4000000
namespace Wk
open PySem PySem.Spec PyProof.Rows L2
open PySem.W (Codec OpenSpec)
/-- the end of a Spec row over a head by facts: the written part is what the head's Hook tells of -/
theorem walk_specE {r : OpenSpec} {k : Nat} {q : Program} {loose : List Str} {XP : (Str → Option Value) → Heap → Prop} {YP : World → Heap → Prop} {d : DefRec} {CX : CXT} {ps : List Str} {sp : PySem.W.Frag → Sp}
    (hwell : r.wellSaid = true) (hlen : r.args.length = ps.length) (hr : Room k callerA)
    (F : ∀ (w : World) (mg : Str → Option Value) (fa : Addr) (h : Heap), YP w h → h.Ns mainGlobals mg → mg d.name = some (.ref fa) →
      ∃ (K : PySem.W.Frag) (fd : FuncData), K.In h ∧ (∀ (s : Shared) (us : List Value), us.length = ps.length → BindsTo s fd ⟨us, []⟩ (ps.zip us)) ∧
        ∀ base : Heap, K.In base → base.Ns mainGlobals mg → FnOk r.prog w K mg base CX k fa fd ps (sp K))
    (hsp : ∀ (K : PySem.W.Frag) (H : Hp) (xs : List V) (a : Codec.denoteAll r.args), OnlyF H → Codec.withinAll r.args a = true → Codec.app r.args r.asked a = true → DwAll K H xs (Codec.encAll r.args a) →
      sp K xs H (fun v H' => Dw K H' v (r.ret.enc (Codec.app r.args r.f a))) fun _ _ _ => False)
    (hCX : ∀ (H : Hp) (s : Shared) (e : Value) (s' : Shared), CX [] H s (fun _ _ _ => False) e s' → False) :
    PySem.W.WalkOS q loose XP YP r d [] (fun f vs => PySem.call f vs) := by
  intro w s0 s1 mg mb G Y fa o pm cd doc dV kV ho hd hcd hD hmg hg args vals as hpre hlay hrd hwl hlo
  obtain ⟨a, e1, e2⟩ := PySem.W.os_pre_some hpre
  obtain ⟨e3, hwi⟩ := Codec.encAll_of_decAll r.args args a e1
  subst e3
  obtain ⟨K, fd, KX, hb, hF⟩ := F w mg fa _ Y G.T.g hmg
  refine PySem.W.enter_call (codeAny_mono (spec_call (R := []) (cl := classAt s0.heap) (d0 := r.ret.enc (Codec.app r.args r.f a)) KX G.T.g G.T.b G.T.builtins G.T.nolimit hg hwl (pl_encAll _ _) (layable_weight hlay) hr hF hb (by rw [encAll_len]; exact hlen)
    (fun H xs hO hS => hsp K H xs a hO hwi e2 hS) fun H e s' => hCX H s1 e s') fun r' s' hq => ?_)
  obtain ⟨u, as', rfl, h1, h2, h3, h4⟩ := hq
  exact ⟨.inl ⟨u, _, as', rfl, fun _ => rfl, h1, (OpenSpec.post_iff hwell hwi _ _).mpr rfl, fun z => Bool.noConfusion (show false = true from z)⟩, h2, h3, h4⟩
/-- what the row asks of the def answers -/
def spAns (K : PySem.W.Frag) : Sp := fun vs H Q _ => ∃ (a : Addr) (ns : List Int), vs = [.ref a] ∧ SqL K H a (ns.map V.int) ∧ ns.length ≤ 17000 ∧ PyVakepb.answers_asked ns = true ∧
  ∀ (H' : Hp) (p : Addr), H' p = some (.lst ((PyVakepb.answers ns).map V.int)) → Q (.ref p) H'
theorem the_end
  (OK : ∀ (w : World) (K : PySem.W.Frag) (mg : Str → Option Value) (base : Heap) (fd : FuncData), Tx K mg → K.In base → base.Ns mainGlobals mg → FnP K "answers" "answers" s_answers (He.ga K "answers") fd → FnOk R.prog w K mg base CX0 29 (He.ga K "answers") fd ["calls"] (spAns K)) : R.Holds := by
  open PySem PySem.W PySem.Calls in
  w_on
  refine HandSHeadRun.head_spec (r := R) (q := PySem.W.view R.prog [84]) (H := hk) (ob := ob) (M := 20000) (loose := loose) (d := HandSHeadRun.topDef R.prog 84) (kwd := []) ob_eq
    (by kernel_rfl) (fun s => by kernel_rfl) run (by kernel_rfl) (by kernel_rfl) (by kernel_rfl) PySem.W.os_shapes (by decide +kernel) (by decide +kernel) ⟨rfl, rfl, rfl, rfl, rfl, by decide +kernel⟩ ?hw ?hc
  case hw => exact ⟨[.list [.int 1]], by decide +kernel, by decide +kernel⟩
  case hc =>
    refine walk_specE (k := 29) (CX := CX0) (ps := ["calls"]) (sp := spAns) (by decide +kernel) rfl ⟨rfl, ?_, ?_⟩ ?F ?S (fun _ _ _ _ z => z)
    case F =>
      intro w mg fa h Y G hmg0
      obtain ⟨K, KX, c⟩ := Y
      have T : Tx K mg := ⟨c, fun x v e => PySem.W.mg_of KX G e, fun x e => PySem.W.mg_none_of KX G e⟩
      have hmg : mg ("answers" : PySem.Str) = some (.ref fa) := by
        have e : (HandSHeadRun.topDef R.prog 84).name = ("answers" : PySem.Str) := by kernel_rfl
        rw [← e]
        exact hmg0
      have e := hmg.symm.trans T.g_answers
      cases e
      obtain ⟨fd, F⟩ := T.f_answers
      exact ⟨K, fd, KX, FunD.bindsA (ps := ["calls"]) F fun _ _ _ _ _ _ us hl => (match us, hl with | [_], _ => rfl), fun base hK hN => OK w K mg base fd T hK hN F⟩
    case S =>
      intro K H xs a hO hwi hask hx
      cases hx with
      | cons h1 h2 =>
        cases h2
        cases h1 with
        | lst hs ha =>
          have e := L2.ints_dw a.1 _ ha
          subst e
          have q : ((Codec.inLen 0 17000 a.1 && a.1.all (Codec.inInt (-1000000000000000000) 1000000000000000000)) && true) = true := hwi
          rw [Bool.and_eq_true, Bool.and_eq_true] at q
          exact ⟨_, a.1, rfl, hs, (Codec.inNat_iff.mp q.1.1).2, hask, fun H' p hp => .lst (L2.SqL.of hp) (L2.dw_ints _)⟩
    case refine_1 => decide +kernel
    case refine_2 => decide +kernel
end Wk
set_option maxHeartbeats 2000000
/-! Programs as the specification has them: what holds of one that is read; runs told the program's way. No Python here. -/
namespace Wk
open Vakepa (Prog Stmt Piece Setting Part)
/-- the statement behind the first one -/
def tailS : Stmt → Stmt
  | .done => .done
  | .say _ r => r
  | .call _ r => r
  | .make _ r => r
  | .when_ _ _ _ r => r
/-- .. behind the first i -/
def dropS : Nat → Stmt → Stmt
  | 0, s => s
  | i + 1, s => tailS (dropS i s)
def lenS : Stmt → Nat
  | .done => 0
  | .say _ r => lenS r + 1
  | .call _ r => lenS r + 1
  | .make _ r => lenS r + 1
  | .when_ _ _ _ r => lenS r + 1
/-- all statements -/
def cntS : Stmt → Nat
  | .done => 0
  | .say _ r => cntS r + 1
  | .call _ r => cntS r + 1
  | .make _ r => cntS r + 1
  | .when_ _ _ b r => cntS b + cntS r + 1
/-- how deep whens stand -/
def deepS : Stmt → Nat
  | .done => 0
  | .say _ r => deepS r
  | .call _ r => deepS r
  | .make _ r => deepS r
  | .when_ _ _ b r => max (deepS b + 1) (deepS r)
theorem lenS_le_cntS : ∀ s, lenS s ≤ cntS s
  | .done => Nat.le_refl _
  | .say _ r => Nat.succ_le_succ (lenS_le_cntS r)
  | .call _ r => Nat.succ_le_succ (lenS_le_cntS r)
  | .make _ r => Nat.succ_le_succ (lenS_le_cntS r)
  | .when_ _ _ b r => by
    have := lenS_le_cntS r
    simp only [lenS, cntS]
    omega
theorem dropS_succ : ∀ (i : Nat) (s : Stmt), dropS (i + 1) s = dropS i (tailS s)
  | 0, _ => rfl
  | i + 1, s => congrArg tailS (dropS_succ i s)
theorem lenS_tail : ∀ s, s ≠ .done → lenS s = lenS (tailS s) + 1
  | .done, h => absurd rfl h
  | .say _ _, _ => rfl
  | .call _ _, _ => rfl
  | .make _ _, _ => rfl
  | .when_ _ _ _ _, _ => rfl
theorem lenS_zero : ∀ s, lenS s = 0 → s = .done
  | .done, _ => rfl
  | .say _ _, h => by simp [lenS] at h
  | .call _ _, h => by simp [lenS] at h
  | .make _ _, h => by simp [lenS] at h
  | .when_ _ _ _ _, h => by simp [lenS] at h
theorem lenS_drop : ∀ (i : Nat) (s : Stmt), lenS (dropS i s) = lenS s - i
  | 0, _ => rfl
  | i + 1, s => by
    have ih := lenS_drop i s
    show lenS (tailS (dropS i s)) = _
    by_cases h : dropS i s = .done
    · rw [h] at ih ⊢
      simp only [lenS, tailS] at ih ⊢
      omega
    · have := lenS_tail _ h
      omega
theorem drop_ne {i : Nat} {s : Stmt} (h : i < lenS s) : dropS i s ≠ .done := fun e => by
  have := lenS_drop i s
  rw [e] at this
  simp only [lenS] at this
  omega
theorem drop_end {i : Nat} {s : Stmt} (h : lenS s ≤ i) : dropS i s = .done := lenS_zero _ (by rw [lenS_drop]; omega)
/-! ### what holds of a program that is read -/
def OkP (p : Prog) : Piece → Prop
  | .set k => k < p.sets.length
  | .word b => b.length ≤ 16 ∧ ∀ s ∈ p.sets, s.name ≠ b
def OkS (p : Prog) : Stmt → Prop
  | .done => True
  | .say k r => 1 ≤ k ∧ k ≤ 99 ∧ OkS p r
  | .call k r => k < p.parts.length ∧ OkS p r
  | .make ps r => ps.length ≤ 3 ∧ (∀ q ∈ ps, OkP p q) ∧ OkS p r
  | .when_ x v b r => (∃ s, p.sets[x]? = some s ∧ v < s.values.length) ∧ OkS p b ∧ OkS p r
structure Good (p : Prog) : Prop where
  nparts : p.parts.length ≤ 10
  nsets : p.sets.length ≤ 3
  nstarts : p.starts.length ≤ 4
  names : (p.parts.map (·.name)).Nodup
  snames : (p.sets.map (·.name)).Nodup
  sname16 : ∀ s ∈ p.sets, s.name.length ≤ 16
  vals : ∀ s ∈ p.sets, 0 < s.values.length ∧ s.values.length ≤ 4 ∧ ∀ b ∈ s.values, b.length ≤ 16
  starts : p.starts.Nodup ∧ ∀ e ∈ p.starts, e < p.parts.length
  parts : ∀ x ∈ p.parts, 1 ≤ x.size ∧ x.size ≤ 99 ∧ x.name.length ≤ 16 ∧ OkS p x.body ∧ cntS x.body ≤ 5000 ∧ deepS x.body ≤ 3
/-- a word's number for each setting -/
def VokN (ss : List Setting) (v : List Nat) : Prop := v.length = ss.length ∧ ∀ (i : Nat) (s : Setting) (x : Nat), ss[i]? = some s → v[i]? = some x → x < s.values.length
theorem valuesBy_length : ∀ (cs : List Nat) (a : Nat), (Vakepa.valuesBy cs a).length = cs.length
  | [], _ => rfl
  | _ :: r, a => congrArg Nat.succ (valuesBy_length r _)
theorem valuesBy_lt : ∀ (cs : List Nat) (a i c x : Nat), (∀ c ∈ cs, 0 < c) → cs[i]? = some c → (Vakepa.valuesBy cs a)[i]? = some x → x < c
  | [], _, _, _, _, _, h, _ => by simp at h
  | n :: r, a, 0, c, x, hp, h1, h2 => by
    have e1 : n = c := by simpa using h1
    have e2 : a % n = x := by simpa [Vakepa.valuesBy] using h2
    subst e1 e2
    exact Nat.mod_lt _ (hp n List.mem_cons_self)
  | n :: r, a, i + 1, c, x, hp, h1, h2 => valuesBy_lt r (a / n) i c x (fun c hc => hp c (List.mem_cons_of_mem _ hc)) (by simpa using h1) (by simpa [Vakepa.valuesBy] using h2)
theorem Good.vok {p : Prog} (g : Good p) (a : Nat) : VokN p.sets (Vakepa.valuesOf p a) := by
  refine ⟨by unfold Vakepa.valuesOf; rw [valuesBy_length]; simp [Vakepa.counts], fun i s x h1 h2 => ?_⟩
  refine valuesBy_lt (Vakepa.counts p) a i _ x (fun c hc => ?_) (by unfold Vakepa.counts; rw [List.getElem?_map, h1]; rfl) h2
  obtain ⟨s, hs, rfl⟩ := List.mem_map.mp hc
  exact (g.vals s hs).1
/-! ### runs -/
structure RSt where
  todo : List (Stmt × Bool)
  ent : List Nat
  going : Bool
/-- how many parts the place is within -/
def within (t : List (Stmt × Bool)) : Nat := (t.filter (·.2)).length
section
variable (p : Prog) (out : List Nat) (v : Vakepa.Values)
def enterM (k : Nat) (st : RSt) : RSt := if within st.todo = 9 then { st with ent := Vakepa.mark k st.ent, going := false } else { st with todo := (Vakepa.bodyOf p k, true) :: st.todo, ent := Vakepa.mark k st.ent }
def callM (k : Nat) (st : RSt) : RSt := if out.contains k = true then { st with going := false } else enterM p k st
def makeM (ps : List Piece) (st : RSt) : RSt := match Vakepa.partNamed p (Vakepa.madeName p v ps) with
  | none => st
  | some k => if out.contains k = true then st else enterM p k st
def doM : Stmt → RSt → RSt
  | .done, st => st
  | .say _ _, st => st
  | .call k _, st => callM p out k st
  | .make ps _, st => makeM p out v ps st
  | .when_ x w b _, st => if v.getD x 0 = w then { st with todo := (b, false) :: st.todo } else st
def closeT : List (Stmt × Bool) → List (Stmt × Bool)
  | [] => []
  | (s, f) :: t => if lenS s = 0 then closeT t else (s, f) :: t
def closeM (st : RSt) : RSt := { st with todo := closeT st.todo }
/-- the next statement, and what is still to do -/
def nextM : List (Stmt × Bool) → List (Stmt × Bool)
  | [] => []
  | (s, f) :: t => (tailS s, f) :: t
def headM : List (Stmt × Bool) → Stmt
  | [] => .done
  | (s, _) :: _ => s
def turnM (st : RSt) : RSt := if st.going = true ∧ st.todo ≠ [] then closeM (doM p out v (headM st.todo) { st with todo := nextM st.todo }) else st
def loopM : Nat → RSt → RSt
  | 0, st => st
  | n + 1, st => loopM n (turnM p out v st)
def doneM (e : Nat) : RSt := loopM p out v 100 (closeM (callM p out e ⟨[], [], true⟩))
/-! ### .. are the specification's -/
def depth : List (Stmt × Bool) → List (Stmt × Nat)
  | [] => []
  | (s, f) :: t => (s, within ((s, f) :: t) - 1) :: depth t
structure RelR (st : RSt) (r : Vakepa.Run) : Prop where
  todo : st.going = true → r.todo = depth st.todo
  ent : r.entered = st.ent
  fin : st.going = (r.fin == 0)
/-- the lowest one is a part's -/
def Based : List (Stmt × Bool) → Prop
  | [] => True
  | [(_, f)] => f = true
  | _ :: t => Based t
theorem based_cons {a : Stmt × Bool} {t : List (Stmt × Bool)} (h : t ≠ []) : Based (a :: t) ↔ Based t := by
  cases t with
  | nil => exact absurd rfl h
  | cons b r => exact Iff.rfl
theorem based_tail {a : Stmt × Bool} {t : List (Stmt × Bool)} (h : Based (a :: t)) : Based t := by
  cases t with
  | nil => trivial
  | cons b r => exact h
theorem within_pos : ∀ {t : List (Stmt × Bool)}, t ≠ [] → Based t → 0 < within t
  | [], h, _ => absurd rfl h
  | [(s, f)], _, h => by
    have e : f = true := h
    subst e
    simp [within]
  | a :: b :: r, _, h => by
    have ih := within_pos (t := b :: r) (by simp) h
    unfold within at ih ⊢
    rw [List.filter_cons]
    split
    · exact Nat.succ_pos _
    · exact ih
theorem within_cons (s s' : Stmt) (f : Bool) (t : List (Stmt × Bool)) : within ((s, f) :: t) = within ((s', f) :: t) := by
  unfold within
  rw [List.filter_cons, List.filter_cons]
  cases f <;> simp
theorem within_true (s : Stmt) (t : List (Stmt × Bool)) : within ((s, true) :: t) = within t + 1 := by
  unfold within
  simp
theorem within_false (s : Stmt) (t : List (Stmt × Bool)) : within ((s, false) :: t) = within t := by
  unfold within
  simp
theorem over_of {r : Vakepa.Run} (h : r.fin ≠ 0) (f : Nat) : Vakepa.goBy p out v f r = r := by
  cases f with
  | zero => rfl
  | succ f =>
    have e : Vakepa.over r = true := by
      unfold Vakepa.over
      have : (r.fin != 0) = true := by simpa using h
      rw [this]
      rfl
    unfold Vakepa.goBy
    rw [if_pos e]
theorem over_nil {r : Vakepa.Run} (h : r.todo = []) (f : Nat) : Vakepa.goBy p out v f r = r := by
  cases f with
  | zero => rfl
  | succ f =>
    have e : Vakepa.over r = true := by
      unfold Vakepa.over
      rw [h]
      simp
    unfold Vakepa.goBy
    rw [if_pos e]
theorem go_step {r : Vakepa.Run} (h : r.fin = 0) (ht : r.todo ≠ []) (f : Nat) : Vakepa.goBy p out v (f + 1) r = Vakepa.goBy p out v f (Vakepa.step1 p out v r) := by
  have e : ¬ Vakepa.over r = true := by
    unfold Vakepa.over
    rw [h]
    cases hr : r.todo with
    | nil => exact absurd hr ht
    | cons a t => simp
  rw [Vakepa.goBy, if_neg e]
theorem closeT_based : ∀ {t : List (Stmt × Bool)}, Based t → Based (closeT t)
  | [], _ => trivial
  | (s, f) :: t, h => by
    unfold closeT
    split
    · exact closeT_based (based_tail h)
    · exact h
theorem closeT_len : ∀ (t : List (Stmt × Bool)), (closeT t).length ≤ t.length
  | [] => Nat.le_refl _
  | (s, f) :: t => by
    unfold closeT
    split
    · have := closeT_len t
      simp
      omega
    · exact Nat.le_refl _
/-- dones at the top are left, one by one -/
theorem go_close : ∀ (t : List (Stmt × Bool)) (r : Vakepa.Run) (f : Nat), r.fin = 0 → r.todo = depth t → t.length ≤ f → ∃ f', f' + t.length = f + (closeT t).length ∧ Vakepa.goBy p out v f r = Vakepa.goBy p out v f' { r with todo := depth (closeT t) }
  | [], r, f, _, ht, _ => ⟨f, rfl, by rw [show depth (closeT []) = r.todo from ht.symm]⟩
  | (s, b) :: t, r, f, hf, ht, hl => by
    unfold closeT
    split
    · rename_i h0
      have es := lenS_zero s h0
      subst es
      cases f with
      | zero => simp at hl
      | succ f =>
        have ht' : r.todo = (Stmt.done, within ((Stmt.done, b) :: t) - 1) :: depth t := ht
        rw [go_step p out v hf (by rw [ht']; simp)]
        have e : Vakepa.step1 p out v r = { r with todo := depth t } := by
          unfold Vakepa.step1
          rw [ht']
        rw [e]
        obtain ⟨f', h1, h2⟩ := go_close t { r with todo := depth t } f hf rfl (by simpa using hl)
        refine ⟨f', by rw [List.length_cons]; omega, ?_⟩
        rw [h2]
    · exact ⟨f, rfl, by rw [← ht]⟩
theorem lenS_ne {s : Stmt} (h : s ≠ .done) : lenS s ≠ 0 := fun e => h (lenS_zero s e)
theorem closeT_head : ∀ {t : List (Stmt × Bool)} {s : Stmt} {f : Bool} {r : List (Stmt × Bool)}, closeT t = (s, f) :: r → s ≠ .done
  | [], _, _, _, h => by simp [closeT] at h
  | (s', f') :: t, s, f, r, h => by
    unfold closeT at h
    split at h
    · exact closeT_head h
    · rename_i hn
      injection h with h1 h2
      injection h1 with h1 _
      subst h1
      exact fun e => hn (by rw [e]; rfl)
/-- a part is entered -/
theorem enter_rel {k d : Nat} {st : RSt} {r : Vakepa.Run} (h : RelR st r) (hg : st.going = true) (hd : d + 1 = within st.todo) (hw : within st.todo ≤ 9) : RelR (enterM p k st) (Vakepa.enter p k d r) := by
  obtain ⟨h1, h2, h3⟩ := h
  unfold enterM Vakepa.enter
  by_cases c : within st.todo = 9
  · rw [if_pos c, if_pos (by show 8 ≤ d; omega)]
    exact ⟨fun z => Bool.noConfusion z, by rw [← h2], rfl⟩
  · rw [if_neg c, if_neg (by show ¬ 8 ≤ d; omega)]
    refine ⟨fun _ => ?_, by rw [← h2], h3⟩
    show (Vakepa.bodyOf p k, d + 1) :: r.todo = (Vakepa.bodyOf p k, within ((Vakepa.bodyOf p k, true) :: st.todo) - 1) :: depth st.todo
    rw [within_true, h1 hg, hd]
    rfl
/-- what holds of a state besides -/
structure OkR (st : RSt) : Prop where
  based : Based st.todo
  few : within st.todo ≤ 9
theorem enter_ok {k : Nat} {st : RSt} (h : OkR st) : OkR (enterM p k st) ∧ (enterM p k st).todo.length ≤ st.todo.length + 1 := by
  obtain ⟨h1, h2⟩ := h
  unfold enterM
  split
  · exact ⟨⟨h1, h2⟩, Nat.le_succ _⟩
  · refine ⟨⟨?_, ?_⟩, by simp⟩
    · cases e : st.todo with
      | nil => trivial
      | cons a t =>
        show Based ((Vakepa.bodyOf p k, true) :: a :: t)
        rw [← e]
        exact (based_cons (by rw [e]; simp)).mpr h1
    · show within ((Vakepa.bodyOf p k, true) :: st.todo) ≤ 9
      rw [within_true]
      omega
theorem tail_ok {s s' : Stmt} {f : Bool} {t : List (Stmt × Bool)} {st : RSt} (h : OkR st) (e : st.todo = (s, f) :: t) : OkR { st with todo := (s', f) :: t } := by
  obtain ⟨h1, h2⟩ := h
  rw [e] at h1 h2
  refine ⟨?_, by show within ((s', f) :: t) ≤ 9; rw [within_cons s' s]; exact h2⟩
  cases t with
  | nil => exact h1
  | cons a t => exact h1
theorem step_rel {st : RSt} {r : Vakepa.Run} {s : Stmt} {f : Bool} {t : List (Stmt × Bool)} (h : RelR st r) (e : st.todo = (s, f) :: t) (hs : s ≠ .done) (hg : st.going = true) (ok : OkR st) (hn : r.n < 100) :
    RelR (doM p out v s { st with todo := (tailS s, f) :: t }) (Vakepa.step1 p out v r) ∧ (Vakepa.step1 p out v r).n = r.n + 1 ∧ OkR (doM p out v s { st with todo := (tailS s, f) :: t }) ∧
      (doM p out v s { st with todo := (tailS s, f) :: t }).todo.length ≤ st.todo.length + 1 := by
  have hf : r.fin = 0 := by
    have := h.fin
    rw [hg] at this
    simpa using this.symm
  have ht : r.todo = (s, within ((s, f) :: t) - 1) :: depth t := by rw [h.todo hg, e]; rfl
  have hpos : 0 < within ((s, f) :: t) := within_pos (by simp) (by rw [← e]; exact ok.based)
  have few : within ((s, f) :: t) ≤ 9 := by rw [← e]; exact ok.few
  have ok' : OkR { st with todo := (tailS s, f) :: t } := tail_ok ok e
  have nl : ¬ Vakepa.LONG ≤ r.n := by show ¬ 100 ≤ r.n; omega
  have rel' : RelR { st with todo := (tailS s, f) :: t } { r with n := r.n + 1, todo := (tailS s, within ((s, f) :: t) - 1) :: depth t } := by
    refine ⟨fun _ => ?_, h.ent, h.fin⟩
    show _ = (tailS s, within ((tailS s, f) :: t) - 1) :: depth t
    rw [within_cons (tailS s) s]
  have hw' : within ((s, f) :: t) - 1 + 1 = within ((tailS s, f) :: t) := by rw [within_cons (tailS s) s]; omega
  have hlen : ((tailS s, f) :: t).length = st.todo.length := by rw [e]; rfl
  unfold Vakepa.step1
  rw [ht]
  cases s with
  | done => exact absurd rfl hs
  | say k b =>
    dsimp only
    rw [if_neg nl]
    exact ⟨⟨rel'.todo, rel'.ent, rel'.fin⟩, rfl, ok', by show ((tailS (.say k b), f) :: t).length ≤ _; omega⟩
  | call k b =>
    dsimp only
    rw [if_neg nl]
    by_cases c : out.contains k = true
    · rw [if_pos c]
      have em : doM p out v (.call k b) { st with todo := (tailS (.call k b), f) :: t } = { st with todo := (tailS (.call k b), f) :: t, going := false } := by
        show callM p out k _ = _
        unfold callM
        rw [if_pos c]
      rw [em]
      exact ⟨⟨fun z => Bool.noConfusion z, h.ent, rfl⟩, rfl, ⟨ok'.based, ok'.few⟩, by show ((tailS (.call k b), f) :: t).length ≤ _; omega⟩
    · rw [if_neg c]
      have em : doM p out v (.call k b) { st with todo := (tailS (.call k b), f) :: t } = enterM p k { st with todo := (tailS (.call k b), f) :: t } := by
        show callM p out k _ = _
        unfold callM
        rw [if_neg c]
      rw [em]
      refine ⟨enter_rel p rel' hg hw' ok'.few, ?_, (enter_ok p ok').1, ?_⟩
      · unfold Vakepa.enter
        split <;> rfl
      · have := (enter_ok p (k := k) ok').2
        show _ ≤ _
        have e2 : ({ st with todo := (tailS (.call k b), f) :: t } : RSt).todo.length = st.todo.length := hlen
        omega
  | make ps b =>
    dsimp only
    rw [if_neg nl]
    have em : doM p out v (.make ps b) { st with todo := (tailS (.make ps b), f) :: t } = makeM p out v ps { st with todo := (tailS (.make ps b), f) :: t } := rfl
    rw [em]
    unfold makeM
    cases hk : Vakepa.partNamed p (Vakepa.madeName p v ps) with
    | none => exact ⟨⟨rel'.todo, rel'.ent, rel'.fin⟩, rfl, ok', by show ((tailS (.make ps b), f) :: t).length ≤ _; omega⟩
    | some k =>
      dsimp only
      by_cases c : out.contains k = true
      · rw [if_pos c, if_pos c]
        exact ⟨⟨rel'.todo, rel'.ent, rel'.fin⟩, rfl, ok', by show ((tailS (.make ps b), f) :: t).length ≤ _; omega⟩
      · rw [if_neg c, if_neg c]
        refine ⟨enter_rel p rel' hg hw' ok'.few, ?_, (enter_ok p ok').1, ?_⟩
        · unfold Vakepa.enter
          split <;> rfl
        · have := (enter_ok p (k := k) ok').2
          have e2 : ({ st with todo := (tailS (.make ps b), f) :: t } : RSt).todo.length = st.todo.length := hlen
          omega
  | when_ x w c b =>
    dsimp only
    rw [if_neg nl]
    by_cases q : v.getD x 0 = w
    · have em : doM p out v (.when_ x w c b) { st with todo := (tailS (.when_ x w c b), f) :: t } = { st with todo := (c, false) :: (tailS (.when_ x w c b), f) :: t } := by
        show (if _ then _ else _) = _
        rw [if_pos q]
      rw [em, if_pos q]
      refine ⟨⟨fun _ => ?_, h.ent, h.fin⟩, rfl, ⟨?_, ?_⟩, ?_⟩
      · show _ = (c, within ((c, false) :: (tailS (.when_ x w c b), f) :: t) - 1) :: (tailS (.when_ x w c b), within ((tailS (.when_ x w c b), f) :: t) - 1) :: depth t
        rw [within_false, within_cons (tailS _) (.when_ x w c b)]
        rfl
      · exact (based_cons (by simp)).mpr ok'.based
      · show within ((c, false) :: (tailS (.when_ x w c b), f) :: t) ≤ 9
        rw [within_false]
        exact ok'.few
      · show ((c, false) :: (tailS (.when_ x w c b), f) :: t).length ≤ _
        rw [List.length_cons]
        omega
    · have em : doM p out v (.when_ x w c b) { st with todo := (tailS (.when_ x w c b), f) :: t } = { st with todo := (tailS (.when_ x w c b), f) :: t } := by
        show (if _ then _ else _) = _
        rw [if_neg q]
      rw [em, if_neg q]
      exact ⟨⟨rel'.todo, rel'.ent, rel'.fin⟩, rfl, ok', by show ((tailS (.when_ x w c b), f) :: t).length ≤ _; omega⟩
theorem close_ok {st : RSt} (h : OkR st) : OkR (closeM st) := by
  refine ⟨closeT_based h.based, ?_⟩
  show within (closeT st.todo) ≤ 9
  have : ∀ t : List (Stmt × Bool), within (closeT t) ≤ within t := by
    intro t
    induction t with
    | nil => exact Nat.le_refl _
    | cons a t ih =>
      obtain ⟨s, f⟩ := a
      unfold closeT
      split
      · refine Nat.le_trans ih ?_
        unfold within
        rw [List.filter_cons]
        split <;> simp
      · exact Nat.le_refl _
  exact Nat.le_trans (this _) h.few
/-- the loop and the specification's steps enter the same parts -/
theorem loop_go : ∀ (k : Nat) (st : RSt) (r : Vakepa.Run) (f : Nat), RelR st r → OkR st → r.n + k = 100 → st.todo.length + 2 * k + 1 ≤ f → (Vakepa.goBy p out v f r).entered = (loopM p out v k (closeM st)).ent := by
  intro k
  induction k with
  | zero =>
    intro st r f h ok hn hf
    show _ = st.ent
    by_cases hg : st.going = true
    · have h0 : r.fin = 0 := by
        have := h.fin
        rw [hg] at this
        simpa using this.symm
      obtain ⟨f', e1, e2⟩ := go_close p out v st.todo r f h0 (h.todo hg) (by omega)
      rw [e2]
      cases hc : closeT st.todo with
      | nil => rw [over_nil p out v (by rfl)]; exact h.ent
      | cons a t =>
        obtain ⟨s, b⟩ := a
        have hs := closeT_head hc
        have := closeT_len st.todo
        rw [hc, List.length_cons] at e1
        obtain ⟨f'', rfl⟩ : ∃ g, f' = g + 1 := ⟨f' - 1, by omega⟩
        rw [go_step p out v (by exact h0) (by simp [depth])]
        have e : Vakepa.step1 p out v { r with todo := depth ((s, b) :: t) } = { r with todo := depth ((s, b) :: t), fin := 2 } := by
          unfold Vakepa.step1
          show (match (s, within ((s, b) :: t) - 1) :: depth t with | [] => _ | (.done, _) :: t => _ | (s, d) :: t => _) = _
          cases s with
          | done => exact absurd rfl hs
          | say _ _ => dsimp only; rw [if_pos (by show 100 ≤ r.n; omega)]
          | call _ _ => dsimp only; rw [if_pos (by show 100 ≤ r.n; omega)]
          | make _ _ => dsimp only; rw [if_pos (by show 100 ≤ r.n; omega)]
          | when_ _ _ _ _ => dsimp only; rw [if_pos (by show 100 ≤ r.n; omega)]
        rw [e, over_of p out v (by show 2 ≠ 0; decide)]
        exact h.ent
    · have h0 : r.fin ≠ 0 := by
        have := h.fin
        intro z
        rw [z] at this
        exact hg this
      rw [over_of p out v h0]
      exact h.ent
  | succ k ih =>
    intro st r f h ok hn hf
    show _ = (loopM p out v k (turnM p out v (closeM st))).ent
    by_cases hg : st.going = true
    · have h0 : r.fin = 0 := by
        have := h.fin
        rw [hg] at this
        simpa using this.symm
      obtain ⟨f', e1, e2⟩ := go_close p out v st.todo r f h0 (h.todo hg) (by omega)
      rw [e2]
      have hl := closeT_len st.todo
      cases hc : closeT st.todo with
      | nil =>
        have et : turnM p out v (closeM st) = closeM st := by
          unfold turnM
          rw [if_neg]
          rintro ⟨_, q⟩
          exact q hc
        have all : ∀ n, loopM p out v n (closeM st) = closeM st := by
          intro n
          induction n with
          | zero => rfl
          | succ n ih =>
            show loopM p out v n (turnM p out v (closeM st)) = _
            rw [et]
            exact ih
        rw [et, all, over_nil p out v (by rfl)]
        exact h.ent
      | cons a t =>
        obtain ⟨s, b⟩ := a
        have hs := closeT_head hc
        rw [hc, List.length_cons] at e1 hl
        obtain ⟨f'', rfl⟩ : ∃ g, f' = g + 1 := ⟨f' - 1, by omega⟩
        have et : turnM p out v (closeM st) = closeM (doM p out v s { (closeM st) with todo := (tailS s, b) :: t }) := by
          unfold turnM
          rw [if_pos ⟨hg, by show closeT st.todo ≠ []; rw [hc]; simp⟩]
          show closeM (doM p out v (headM (closeT st.todo)) { (closeM st) with todo := nextM (closeT st.todo) }) = _
          rw [hc]
          rfl
        rw [et, go_step p out v (by exact h0) (by simp [depth])]
        have rel1 : RelR (closeM st) { r with todo := depth ((s, b) :: t) } := ⟨fun _ => by show depth ((s, b) :: t) = depth (closeT st.todo); rw [hc], h.ent, h.fin⟩
        obtain ⟨q1, q2, q3, q4⟩ := step_rel p out v rel1 hc hs hg (close_ok ok) (by show r.n < 100; omega)
        refine ih _ _ f'' q1 q3 (by rw [q2]; show r.n + 1 + k = 100; omega) ?_
        have e4 : (closeM st).todo.length = t.length + 1 := by
          show (closeT st.todo).length = _
          rw [hc]
          rfl
        rw [e4] at q4
        have q5 : (doM p out v s ⟨(tailS s, b) :: t, (closeM st).ent, (closeM st).going⟩).todo.length ≤ t.length + 1 + 1 := q4
        show (doM p out v s ⟨(tailS s, b) :: t, (closeM st).ent, (closeM st).going⟩).todo.length + 2 * k + 1 ≤ f''
        omega
    · have h0 : r.fin ≠ 0 := by
        have := h.fin
        intro z
        rw [z] at this
        exact hg this
      have et : ∀ st : RSt, st.going ≠ true → turnM p out v st = st := by
        intro st hs
        unfold turnM
        rw [if_neg fun z => hs z.1]
      have all : ∀ n (st : RSt), st.going ≠ true → loopM p out v n st = st := by
        intro n
        induction n with
        | zero => intro st _; rfl
        | succ n ih =>
          intro st hs
          show loopM p out v n (turnM p out v st) = _
          rw [et st hs]
          exact ih st hs
      rw [et _ (by exact hg), all k _ (by exact hg), over_of p out v h0]
      exact h.ent
/-- **a run enters what the program's run enters** -/
theorem run_entered (e : Nat) : (Vakepa.run p out e v).entered = (doneM p out v e).ent := by
  unfold Vakepa.run doneM Vakepa.begin_ callM
  by_cases c : out.contains e = true
  · rw [if_pos c, if_pos c]
    exact loop_go p out v 100 ⟨[], [], false⟩ ⟨[], [], [], 0, 3⟩ 400 ⟨fun z => Bool.noConfusion z, rfl, rfl⟩ ⟨trivial, by decide⟩ rfl (by decide)
  · rw [if_neg c, if_neg c]
    have e1 : enterM p e ⟨[], [], true⟩ = ⟨[(Vakepa.bodyOf p e, true)], [e], true⟩ := by
      unfold enterM
      rw [if_neg (by decide)]
      rfl
    rw [e1]
    exact loop_go p out v 100 ⟨[(Vakepa.bodyOf p e, true)], [e], true⟩ ⟨[(Vakepa.bodyOf p e, 0)], [], [e], 0, 0⟩ 400 ⟨fun _ => rfl, rfl, rfl⟩ ⟨rfl, by show 1 ≤ 9; decide⟩ rfl (by show 1 + 2 * 100 + 1 ≤ 400; decide)
end
end Wk
set_option maxHeartbeats 2000000
/-! What is read is Good: plain. -/
namespace Wk.G
open VakepBase (Bytes PTok Toks PName here wrong next nextWord taken takeWord takeSign takeName word token lex isBlank isLetter isDigit numberOf)
open Vakepa (Raw RawPart Piece Setting takeValues takePieces takeNat takeStmts takeParts takeStarts takeSets solve solveParts Prog pieceOf)
abbrev FE := VakepBase.Fault
theorem ok_bind {A B : Type} {x : Except FE A} {f : A → Except FE B} {y : B} (h : x.bind f = .ok y) : ∃ a, x = .ok a ∧ f a = .ok y := by
  cases x with
  | error e => cases h
  | ok a => exact ⟨a, rfl, h⟩
theorem ok_map {A B : Type} {x : Except FE A} {f : A → B} {y : B} (h : x.map f = .ok y) : ∃ a, x = .ok a ∧ f a = y := by
  cases x with
  | error e => cases h
  | ok a =>
    have h2 : Except.ok (f a) = (Except.ok y : Except FE B) := h
    injection h2 with h2
    exact ⟨a, rfl, h2⟩
theorem ok_if {A : Type} {c : Prop} [Decidable c] {f : FE} {x : Except FE A} {y : A} (h : (if c then .error f else x) = .ok y) : ¬ c ∧ x = .ok y := by
  by_cases hc : c
  · rw [if_pos hc] at h; cases h
  · rw [if_neg hc] at h; exact ⟨hc, h⟩
/-- names are short -/
def Nm (l : Toks) : Prop := ∀ t ∈ l, ∀ b, t.tok = .name b → b.length ≤ 16
theorem Nm.drop {l : Toks} (h : Nm l) (j : Nat) : Nm (l.drop j) := fun t ht => h t (List.mem_of_mem_drop ht)
/-- what is left -/
def Suf (m l : Toks) : Prop := ∃ j, m = l.drop j
theorem Suf.refl (l : Toks) : Suf l l := ⟨0, rfl⟩
theorem Suf.drop (l : Toks) (j : Nat) : Suf (l.drop j) l := ⟨j, rfl⟩
theorem Suf.trans {k m l : Toks} (a : Suf k m) (b : Suf m l) : Suf k l := by
  obtain ⟨i, rfl⟩ := a
  obtain ⟨j, rfl⟩ := b
  exact ⟨_, List.drop_drop⟩
theorem Suf.nm {m l : Toks} (a : Suf m l) (h : Nm l) : Nm m := by
  obtain ⟨i, rfl⟩ := a
  exact h.drop i
theorem Suf.len {m l : Toks} (a : Suf m l) : m.length ≤ l.length := by
  obtain ⟨i, rfl⟩ := a
  rw [List.length_drop]
  exact Nat.sub_le _ _
theorem next_len {t : VakepBase.Tok} {l : Toks} (h : next t l = true) : (l.drop 1).length + 1 = l.length := by
  cases l with
  | nil => cases h
  | cons a r => rfl
theorem taken_ok {t : VakepBase.Tok} {l m : Toks} (h : taken t l = .ok m) : Suf m l ∧ m.length + 1 = l.length := by
  unfold taken at h
  by_cases c : next t l = true
  · rw [if_pos c] at h
    injection h with h
    rw [← h]
    exact ⟨Suf.drop l 1, next_len c⟩
  · rw [if_neg c] at h; cases h
theorem takeName_ok {l : Toks} {x : PName × Toks} (h : takeName l = .ok x) (hn : Nm l) : Suf x.2 l ∧ x.2.length + 1 = l.length ∧ x.1.name.length ≤ 16 := by
  unfold takeName at h
  split at h
  · rename_i p b r
    split at h
    · cases h
    · injection h with h
      rw [← h]
      exact ⟨⟨1, rfl⟩, rfl, hn _ List.mem_cons_self b rfl⟩
  · cases h
theorem takeNat_ok {most : Nat} {l : Toks} {x : Nat × Toks} (h : takeNat most l = .ok x) : Suf x.2 l ∧ x.2.length + 1 = l.length ∧ 1 ≤ x.1 ∧ x.1 ≤ most := by
  unfold takeNat at h
  split at h
  · rename_i q n r
    obtain ⟨c, h⟩ := ok_if h
    injection h with h
    rw [← h]
    refine ⟨⟨1, rfl⟩, rfl, ?_, ?_⟩
    · show 1 ≤ n
      omega
    · show n ≤ most
      omega
  · cases h
def ValsOk (vs : List Bytes) : Prop := vs.length ≤ 4 ∧ ∀ b ∈ vs, b.length ≤ 16
theorem ValsOk.snoc {vs : List Bytes} (h : ValsOk vs) {b : Bytes} (h4 : ¬ 4 ≤ vs.length) (hb : b.length ≤ 16) : ValsOk (vs ++ [b]) := by
  refine ⟨by rw [List.length_append]; show vs.length + 1 ≤ 4; omega, fun x hx => ?_⟩
  rcases List.mem_append.mp hx with hx | hx
  · exact h.2 x hx
  · rw [List.mem_singleton.mp hx]; exact hb
theorem takeValues_ok : ∀ (n : Nat) (vs : List Bytes) (l : Toks) (r : List Bytes × Toks), takeValues n vs l = .ok r → Nm l → ValsOk vs → ValsOk r.1 ∧ 0 < r.1.length ∧ Suf r.2 l
  | 0, _, _, _, h, _, _ => by cases h
  | n + 1, vs, l, r, h, hn, hv => by
    rw [takeValues] at h
    obtain ⟨x, hx, h⟩ := ok_bind h
    obtain ⟨s1, l1, n1⟩ := takeName_ok hx hn
    obtain ⟨c4, h⟩ := ok_if h
    obtain ⟨c5, h⟩ := ok_if h
    have hv2 := hv.snoc c4 n1
    split at h
    · obtain ⟨a, b, c⟩ := takeValues_ok n _ _ _ h ((s1.nm hn).drop 1) hv2
      exact ⟨a, b, c.trans ((Suf.drop _ 1).trans s1)⟩
    · obtain ⟨m, hm, h⟩ := ok_map h
      rw [← h]
      exact ⟨hv2, by show 0 < (vs ++ [x.1.name]).length; rw [List.length_append]; exact Nat.succ_pos _, (taken_ok hm).1.trans s1⟩
structure SetsOk (ss : List Setting) : Prop where
  len : ss.length ≤ 3
  nd : (ss.map (·.name)).Nodup
  ok : ∀ s ∈ ss, s.name.length ≤ 16 ∧ 0 < s.values.length ∧ ValsOk s.values
theorem nodup_snoc {l : List Bytes} {b : Bytes} (h : l.Nodup) (hb : b ∉ l) : (l ++ [b]).Nodup := by
  rw [List.nodup_append]
  refine ⟨h, by simp, fun x hx y hy e => ?_⟩
  rw [List.mem_singleton.mp hy] at e
  exact hb (e ▸ hx)
theorem takeSets_ok : ∀ (n : Nat) (ss : List Setting) (l : Toks) (r : List Setting × Toks), takeSets n ss l = .ok r → Nm l → SetsOk ss → SetsOk r.1 ∧ Suf r.2 l
  | 0, _, _, _, h, _, _ => by cases h
  | n + 1, ss, l, r, h, hn, hs => by
    rw [takeSets] at h
    split at h
    · obtain ⟨c3, h⟩ := ok_if h
      obtain ⟨x, hx, h⟩ := ok_bind h
      obtain ⟨s1, l1, n1⟩ := takeName_ok hx (hn.drop 1)
      obtain ⟨c5, h⟩ := ok_if h
      obtain ⟨r1, hr1, h⟩ := ok_bind h
      obtain ⟨s2, l2⟩ := taken_ok hr1
      obtain ⟨v, hv, h⟩ := ok_bind h
      have nm2 := s2.nm (s1.nm (hn.drop 1))
      obtain ⟨v1, v2, s3⟩ := takeValues_ok _ _ _ _ hv nm2 ⟨Nat.zero_le _, fun _ h => nomatch h⟩
      have hs2 : SetsOk (ss ++ [⟨x.1.name, v.1⟩]) := by
        refine ⟨by rw [List.length_append]; have : ¬ 3 ≤ ss.length := c3; show ss.length + 1 ≤ 3; omega, ?_, fun s hs3 => ?_⟩
        · rw [List.map_append]
          refine nodup_snoc hs.nd fun hm => c5 ?_
          obtain ⟨s, hs4, e⟩ := List.mem_map.mp hm
          exact List.any_eq_true.mpr ⟨s, hs4, by rw [e]; exact beq_self_eq_true _⟩
        · rcases List.mem_append.mp hs3 with q | q
          · exact hs.ok s q
          · rw [List.mem_singleton.mp q]; exact ⟨n1, v2, v1⟩
      obtain ⟨a, b⟩ := takeSets_ok n _ _ _ h (s3.nm nm2) hs2
      exact ⟨a, b.trans (s3.trans (s2.trans (s1.trans (Suf.drop l 1))))⟩
    · injection h with h
      rw [← h]
      exact ⟨hs, Suf.refl l⟩
def OkPS (ss : List Setting) : Piece → Prop
  | .set k => k < ss.length
  | .word b => b.length ≤ 16 ∧ ∀ s ∈ ss, s.name ≠ b
theorem pieceOf_ok (ss : List Setting) {b : Bytes} (hb : b.length ≤ 16) : OkPS ss (pieceOf ss b) := by
  unfold pieceOf
  cases h : ss.findIdx? fun s => s.name == b with
  | some k => exact (List.findIdx?_eq_some_iff_getElem.mp h).1
  | none =>
    refine ⟨hb, fun s hs e => ?_⟩
    have := List.findIdx?_eq_none_iff.mp h s hs
    rw [e] at this
    exact absurd this (by simp)
def PcsOk (ss : List Setting) (ps : List Piece) : Prop := ps.length ≤ 3 ∧ ∀ q ∈ ps, OkPS ss q
theorem takePieces_ok (ss : List Setting) : ∀ (n : Nat) (ps : List Piece) (l : Toks) (r : List Piece × Toks), takePieces ss n ps l = .ok r → Nm l → PcsOk ss ps → PcsOk ss r.1 ∧ Suf r.2 l
  | 0, _, _, _, h, _, _ => by cases h
  | n + 1, ps, l, r, h, hn, hv => by
    rw [takePieces] at h
    obtain ⟨x, hx, h⟩ := ok_bind h
    obtain ⟨s1, l1, n1⟩ := takeName_ok hx hn
    obtain ⟨c4, h⟩ := ok_if h
    have hv2 : PcsOk ss (ps ++ [pieceOf ss x.1.name]) := by
      refine ⟨by rw [List.length_append]; have : ¬ 3 ≤ ps.length := c4; show ps.length + 1 ≤ 3; omega, fun q hq => ?_⟩
      rcases List.mem_append.mp hq with q1 | q1
      · exact hv.2 q q1
      · rw [List.mem_singleton.mp q1]; exact pieceOf_ok ss n1
    dsimp only at h
    split at h
    · obtain ⟨a, c⟩ := takePieces_ok ss n _ _ _ h ((s1.nm hn).drop 1) hv2
      exact ⟨a, c.trans ((Suf.drop _ 1).trans s1)⟩
    · obtain ⟨m, hm, h⟩ := ok_map h
      rw [← h]
      exact ⟨hv2, (taken_ok hm).1.trans s1⟩
def OkR (ss : List Setting) : Raw → Prop
  | .done => True
  | .say k r => 1 ≤ k ∧ k ≤ 99 ∧ OkR ss r
  | .call _ r => OkR ss r
  | .make ps r => PcsOk ss ps ∧ OkR ss r
  | .when_ x v b r => (∃ s, ss[x]? = some s ∧ v < s.values.length) ∧ OkR ss b ∧ OkR ss r
def cntR : Raw → Nat
  | .done => 0
  | .say _ r => cntR r + 1
  | .call _ r => cntR r + 1
  | .make _ r => cntR r + 1
  | .when_ _ _ b r => cntR b + cntR r + 1
def deepR : Raw → Nat
  | .done => 0
  | .say _ r => deepR r
  | .call _ r => deepR r
  | .make _ r => deepR r
  | .when_ _ _ b r => max (deepR b + 1) (deepR r)
theorem takeStmts_ok (ss : List Setting) : ∀ (n d : Nat) (l : Toks) (r : Raw × Toks), takeStmts ss n d l = .ok r → Nm l → d ≤ 3 → OkR ss r.1 ∧ cntR r.1 + r.2.length ≤ l.length ∧ d + deepR r.1 ≤ 3 ∧ Suf r.2 l
  | 0, _, _, _, h, _, _ => by cases h
  | n + 1, d, l, r, h, hn, hd => by
    rw [takeStmts] at h
    split at h
    · rename_i c
      injection h with h
      rw [← h]
      refine ⟨trivial, ?_, hd, Suf.drop l 1⟩
      show 0 + (l.drop 1).length ≤ _
      have := next_len c
      omega
    · split at h
      · rename_i c
        have nl := next_len c
        obtain ⟨k, hk, h⟩ := ok_bind h
        obtain ⟨s1, l1, k1, k2⟩ := takeNat_ok hk
        obtain ⟨m, hm, h⟩ := ok_bind h
        obtain ⟨s2, l2⟩ := taken_ok hm
        obtain ⟨x, hx, h⟩ := ok_map h
        have s3 := s2.trans (s1.trans (Suf.drop l 1))
        obtain ⟨a, b, c, e⟩ := takeStmts_ok ss n d m x hx (s3.nm hn) hd
        rw [← h]
        refine ⟨⟨k1, k2, a⟩, ?_, c, e.trans s3⟩
        show cntR x.1 + 1 + x.2.length ≤ _
        omega
      · split at h
        · rename_i c
          have nl := next_len c
          obtain ⟨k, hk, h⟩ := ok_bind h
          obtain ⟨s1, l1, n1⟩ := takeName_ok hk (hn.drop 1)
          obtain ⟨m, hm, h⟩ := ok_bind h
          obtain ⟨s2, l2⟩ := taken_ok hm
          obtain ⟨x, hx, h⟩ := ok_map h
          have s3 := s2.trans (s1.trans (Suf.drop l 1))
          obtain ⟨a, b, c, e⟩ := takeStmts_ok ss n d m x hx (s3.nm hn) hd
          rw [← h]
          refine ⟨a, ?_, c, e.trans s3⟩
          show cntR x.1 + 1 + x.2.length ≤ _
          omega
        · split at h
          · rename_i c
            have nl := next_len c
            obtain ⟨p, hp, h⟩ := ok_bind h
            obtain ⟨p1, s1⟩ := takePieces_ok ss _ _ _ _ hp (hn.drop 1) ⟨Nat.zero_le _, fun _ h => nomatch h⟩
            obtain ⟨x, hx, h⟩ := ok_map h
            have s3 := s1.trans (Suf.drop l 1)
            have l3 := s1.len
            obtain ⟨a, b, c, e⟩ := takeStmts_ok ss n d p.2 x hx (s3.nm hn) hd
            rw [← h]
            refine ⟨⟨p1, a⟩, ?_, c, e.trans s3⟩
            show cntR x.1 + 1 + x.2.length ≤ _
            omega
          · obtain ⟨r0, hr0, h⟩ := ok_bind h
            obtain ⟨s1, l1⟩ := taken_ok hr0
            obtain ⟨cd, h⟩ := ok_if h
            have cd : ¬ 3 ≤ d := cd
            obtain ⟨x, hx, h⟩ := ok_bind h
            obtain ⟨s2, l2, n2⟩ := takeName_ok hx (s1.nm hn)
            split at h
            · cases h
            · rename_i k hk
              obtain ⟨r3, hr3, h⟩ := ok_bind h
              obtain ⟨s3, l3⟩ := taken_ok hr3
              have nm3 := s3.nm (s2.nm (s1.nm hn))
              obtain ⟨v, hv, h⟩ := ok_bind h
              obtain ⟨s4, l4, n4⟩ := takeName_ok hv nm3
              split at h
              · cases h
              · rename_i j hj
                obtain ⟨r5, hr5, h⟩ := ok_bind h
                obtain ⟨s5, l5⟩ := taken_ok hr5
                have s05 := s5.trans (s4.trans (s3.trans (s2.trans s1)))
                obtain ⟨b, hb, h⟩ := ok_bind h
                obtain ⟨b1, b2, b3, b4⟩ := takeStmts_ok ss n (d + 1) r5 b hb (s05.nm hn) (by omega)
                have s06 := b4.trans s05
                obtain ⟨y, hy, h⟩ := ok_map h
                obtain ⟨y1, y2, y3, y4⟩ := takeStmts_ok ss n d b.2 y hy (s06.nm hn) hd
                rw [← h]
                obtain ⟨vs, e1, e2⟩ := Option.bind_eq_some_iff.mp hj
                obtain ⟨s, e3, e4⟩ := Option.map_eq_some_iff.mp e1
                refine ⟨⟨⟨s, e3, ?_⟩, b1, y1⟩, ?_, ?_, y4.trans s06⟩
                · rw [e4]
                  exact (List.findIdx?_eq_some_iff_getElem.mp e2).1
                · show cntR b.1 + cntR y.1 + 1 + y.2.length ≤ _
                  omega
                · show d + max (deepR b.1 + 1) (deepR y.1) ≤ 3
                  omega
structure RPOk (ss : List Setting) (r : RawPart) : Prop where
  s1 : 1 ≤ r.size
  s2 : r.size ≤ 99
  nm : r.name.length ≤ 16
  ok : OkR ss r.body
  cnt : cntR r.body ≤ 5000
  deep : deepR r.body ≤ 3
structure PartsOk (ss : List Setting) (rs : List RawPart) : Prop where
  len : rs.length ≤ 10
  nd : (rs.map (·.name)).Nodup
  ok : ∀ r ∈ rs, RPOk ss r
theorem takeParts_ok (ss : List Setting) : ∀ (n : Nat) (rs : List RawPart) (l : Toks) (r : List RawPart × Toks), takeParts ss n rs l = .ok r → Nm l → l.length ≤ 5000 → PartsOk ss rs → PartsOk ss r.1 ∧ Suf r.2 l
  | 0, _, _, _, h, _, _, _ => by cases h
  | n + 1, rs, l, r, h, hn, hl, hs => by
    rw [takeParts] at h
    split at h
    · obtain ⟨c3, h⟩ := ok_if h
      obtain ⟨x, hx, h⟩ := ok_bind h
      obtain ⟨s1, l1, n1⟩ := takeName_ok hx (hn.drop 1)
      obtain ⟨c5, h⟩ := ok_if h
      obtain ⟨r1, hr1, h⟩ := ok_bind h
      obtain ⟨s2, l2⟩ := taken_ok hr1
      obtain ⟨k, hk, h⟩ := ok_bind h
      obtain ⟨s3, l3, k1, k2⟩ := takeNat_ok hk
      obtain ⟨r4, hr4, h⟩ := ok_bind h
      obtain ⟨s4, l4⟩ := taken_ok hr4
      obtain ⟨b, hb, h⟩ := ok_bind h
      have s04 := s4.trans (s3.trans (s2.trans (s1.trans (Suf.drop l 1))))
      have len4 := s04.len
      obtain ⟨b1, b2, b3, b4⟩ := takeStmts_ok ss _ _ _ _ hb (s04.nm hn) (by omega)
      have s05 := b4.trans s04
      have len5 := s05.len
      have hs2 : PartsOk ss (rs ++ [⟨x.1.name, k.1, b.1⟩]) := by
        refine ⟨by rw [List.length_append]; have : ¬ 10 ≤ rs.length := c3; show rs.length + 1 ≤ 10; omega, ?_, fun s hs3 => ?_⟩
        · rw [List.map_append]
          refine nodup_snoc hs.nd fun hm => c5 (.inl ?_)
          obtain ⟨s, hs4, e⟩ := List.mem_map.mp hm
          exact List.any_eq_true.mpr ⟨s, hs4, by rw [e]; exact beq_self_eq_true _⟩
        · rcases List.mem_append.mp hs3 with q | q
          · exact hs.ok s q
          · rw [List.mem_singleton.mp q]; exact ⟨k1, k2, n1, b1, by show cntR b.1 ≤ 5000; omega, by show deepR b.1 ≤ 3; omega⟩
      obtain ⟨a, b⟩ := takeParts_ok ss n _ _ _ h (s05.nm hn) (by omega) hs2
      exact ⟨a, b.trans s05⟩
    · split at h
      · cases h
      · injection h with h
        rw [← h]
        exact ⟨hs, Suf.refl l⟩
structure StartsOk (n : Nat) (es : List Nat) : Prop where
  len : es.length ≤ 4
  nd : es.Nodup
  ok : ∀ e ∈ es, e < n
theorem takeStarts_ok (names : List Bytes) : ∀ (n : Nat) (es : List Nat) (l : Toks) (r : List Nat), takeStarts names n es l = .ok r → StartsOk names.length es → StartsOk names.length r
  | 0, _, _, _, h, _ => by cases h
  | n + 1, es, l, r, h, hs => by
    rw [takeStarts] at h
    obtain ⟨x, hx, h⟩ := ok_bind h
    obtain ⟨c4, h⟩ := ok_if h
    split at h
    · cases h
    · rename_i k hk
      obtain ⟨c6, h⟩ := ok_if h
      have hs2 : StartsOk names.length (es ++ [k]) := by
        refine ⟨by rw [List.length_append]; have : ¬ 4 ≤ es.length := c4; show es.length + 1 ≤ 4; omega, ?_, fun e he => ?_⟩
        · rw [List.nodup_append]
          refine ⟨hs.nd, by simp, fun x hx y hy e => c6 ?_⟩
          rw [List.mem_singleton.mp hy] at e
          rw [← e]
          simpa using hx
        · rcases List.mem_append.mp he with q | q
          · exact hs.ok e q
          · rw [List.mem_singleton.mp q]; exact (List.findIdx?_eq_some_iff_getElem.mp hk).1
      split at h
      · exact takeStarts_ok names n _ _ _ h hs2
      · obtain ⟨m, hm, h⟩ := ok_bind h
        split at h
        · injection h with h
          rw [← h]; exact hs2
        · cases h
theorem solve_ok {p : Prog} {ss : List Setting} {names : List Bytes} (e1 : p.sets = ss) (e2 : p.parts.length = names.length) : ∀ (r : Raw) (s : Vakepa.Stmt), solve names r = .ok s → OkR ss r → OkS p s ∧ cntS s = cntR r ∧ deepS s = deepR r
  | .done, s, h, _ => by
    have h : (Except.ok Vakepa.Stmt.done : Except FE Vakepa.Stmt) = .ok s := h
    injection h with h
    rw [← h]
    exact ⟨trivial, rfl, rfl⟩
  | .say k r, s, h, hr => by
    obtain ⟨x, hx, h⟩ := ok_map h
    obtain ⟨a, b, c⟩ := solve_ok e1 e2 r x hx hr.2.2
    rw [← h]
    exact ⟨⟨hr.1, hr.2.1, a⟩, congrArg Nat.succ b, c⟩
  | .call q r, s, h, hr => by
    rw [solve] at h
    split at h
    · cases h
    · rename_i k hk
      obtain ⟨x, hx, h⟩ := ok_map h
      obtain ⟨a, b, c⟩ := solve_ok e1 e2 r x hx hr
      rw [← h]
      exact ⟨⟨by rw [e2]; exact (List.findIdx?_eq_some_iff_getElem.mp hk).1, a⟩, congrArg Nat.succ b, c⟩
  | .make ps r, s, h, hr => by
    obtain ⟨x, hx, h⟩ := ok_map h
    obtain ⟨a, b, c⟩ := solve_ok e1 e2 r x hx hr.2
    rw [← h]
    refine ⟨⟨hr.1.1, fun q hq => ?_, a⟩, congrArg Nat.succ b, c⟩
    have := hr.1.2 q hq
    rw [← e1] at this
    cases q with
    | set k => exact this
    | word b => exact this
  | .when_ x v b r, s, h, hr => by
    obtain ⟨y, hy, h⟩ := ok_bind h
    obtain ⟨z, hz, h⟩ := ok_map h
    obtain ⟨a1, b1, c1⟩ := solve_ok e1 e2 b y hy hr.2.1
    obtain ⟨a2, b2, c2⟩ := solve_ok e1 e2 r z hz hr.2.2
    rw [← h]
    refine ⟨⟨by rw [e1]; exact hr.1, a1, a2⟩, ?_, ?_⟩
    · show cntS y + cntS z + 1 = cntR b + cntR r + 1
      rw [b1, b2]
    · show max (deepS y + 1) (deepS z) = max (deepR b + 1) (deepR r)
      rw [c1, c2]
theorem solveParts_ok {names : List Bytes} : ∀ (rs : List RawPart) (ps : List Vakepa.Part), solveParts names rs = .ok ps → ps.map (·.name) = rs.map (·.name) ∧ ∀ x ∈ ps, ∃ r ∈ rs, x.name = r.name ∧ x.size = r.size ∧ solve names r.body = .ok x.body
  | [], ps, h => by
    have h : (Except.ok [] : Except FE (List Vakepa.Part)) = .ok ps := h
    injection h with h
    rw [← h]
    exact ⟨rfl, fun _ h => nomatch h⟩
  | r :: rs, ps, h => by
    rw [solveParts] at h
    obtain ⟨b, hb, h⟩ := ok_bind h
    obtain ⟨l, hl, h⟩ := ok_map h
    obtain ⟨a, c⟩ := solveParts_ok rs l hl
    rw [← h]
    refine ⟨by rw [List.map_cons, List.map_cons, a], fun x hx => ?_⟩
    rcases List.mem_cons.mp hx with q | q
    · exact ⟨r, List.mem_cons_self, by rw [q], by rw [q], by rw [q]; exact hb⟩
    · obtain ⟨r2, m, z⟩ := c x q
      exact ⟨r2, List.mem_cons_of_mem _ m, z⟩
/-! ### tokens -/
theorem tw_cons_pos {p : UInt8 → Bool} {c : UInt8} {r : Bytes} (h : p c = true) : 1 ≤ ((c :: r).takeWhile p).length := by
  rw [List.takeWhile_cons, h]
  exact Nat.succ_le_succ (Nat.zero_le _)
theorem token_ok {c : UInt8} {r : Bytes} {x : VakepBase.Tok × Nat} (h : token (c :: r) = some x) : 1 ≤ x.2 ∧ ∀ b, x.1 = .name b → b.length ≤ 16 := by
  unfold token at h
  dsimp only at h
  split at h
  · rename_i hc
    split at h
    · cases h
    · rename_i h16
      injection h with h
      rw [← h]
      refine ⟨tw_cons_pos (by rw [hc]; rfl), fun b e => ?_⟩
      injection e with e
      rw [← e]
      exact Nat.le_of_not_lt h16
  · split at h
    · rename_i hd
      obtain ⟨n, hn, h⟩ := Option.map_eq_some_iff.mp h
      rw [← h]
      exact ⟨tw_cons_pos hd, fun b e => nomatch e⟩
    · split at h
      · injection h with h
        rw [← h]
        exact ⟨Nat.le_refl _, fun b e => nomatch e⟩
      · cases h
theorem dw_len {p : UInt8 → Bool} : ∀ l : Bytes, (l.dropWhile p).length ≤ l.length
  | [] => Nat.le_refl _
  | a :: r => by
    rw [List.dropWhile_cons]
    split
    · exact Nat.le_succ_of_le (dw_len r)
    · exact Nat.le_refl _
theorem lex_ok : ∀ (n a : Nat) (l : Bytes) (ts : Toks), lex n a l = .ok ts → Nm ts ∧ ts.length ≤ l.length + 1
  | 0, a, l, ts, h => by
    have h : (Except.ok [⟨a, .last⟩] : Except FE Toks) = .ok ts := by rw [lex] at h; exact h
    injection h with h
    rw [← h]
    exact ⟨(fun t ht b e => by rw [List.mem_singleton.mp ht] at e; exact nomatch e), Nat.succ_le_succ (Nat.zero_le _)⟩
  | n + 1, a, [], ts, h => by
    have h : (Except.ok [⟨a, .last⟩] : Except FE Toks) = .ok ts := by rw [lex] at h; exact h
    injection h with h
    rw [← h]
    exact ⟨(fun t ht b e => by rw [List.mem_singleton.mp ht] at e; exact nomatch e), Nat.le_refl _⟩
  | n + 1, a, c :: r, ts, h => by
    rw [lex] at h
    split at h
    · obtain ⟨x, y⟩ := lex_ok n _ _ _ h
      exact ⟨x, Nat.le_succ_of_le y⟩
    · split at h
      · obtain ⟨x, y⟩ := lex_ok n _ _ _ h
        have := dw_len (p := (· != 10)) r
        refine ⟨x, ?_⟩
        rw [List.length_cons]
        omega
      · split at h
        · cases h
        · rename_i x hx
          obtain ⟨x1, x2⟩ := token_ok hx
          obtain ⟨m, hm, h⟩ := ok_map h
          obtain ⟨a1, a2⟩ := lex_ok n _ _ _ hm
          rw [← h]
          refine ⟨fun t ht b e => ?_, ?_⟩
          · rcases List.mem_cons.mp ht with q | q
            · rw [q] at e; exact x2 b e
            · exact a1 t q b e
          · rw [List.length_drop] at a2
            rw [List.length_cons] at a2 ⊢
            rw [List.length_cons]
            omega
theorem good_of_read {b : Bytes} {pr : Prog} (h : Vakepa.read b = .ok pr) : Good pr := by
  unfold Vakepa.read at h
  obtain ⟨l, hl, h⟩ := ok_bind h
  unfold VakepBase.tokens at hl
  obtain ⟨c0, hl⟩ := ok_if hl
  obtain ⟨nm, ln⟩ := lex_ok _ _ _ _ hl
  have c0 : ¬ 4096 < b.length := c0
  obtain ⟨s, hs, h⟩ := ok_bind h
  obtain ⟨so, s1⟩ := takeSets_ok _ _ _ _ hs nm ⟨Nat.zero_le _, List.nodup_nil, fun _ h => nomatch h⟩
  obtain ⟨p, hp, h⟩ := ok_bind h
  have := s1.len
  obtain ⟨po, s2⟩ := takeParts_ok s.1 _ _ _ _ hp (s1.nm nm) (by omega) ⟨Nat.zero_le _, List.nodup_nil, fun _ h => nomatch h⟩
  dsimp only at h
  obtain ⟨r, hr, h⟩ := ok_bind h
  obtain ⟨e, he, h⟩ := ok_bind h
  have eo := takeStarts_ok _ _ _ _ _ he ⟨Nat.zero_le _, List.nodup_nil, fun _ h => nomatch h⟩
  obtain ⟨ps, hps, h⟩ := ok_map h
  obtain ⟨x1, x2⟩ := solveParts_ok _ _ hps
  have pl : ps.length = p.1.length := by
    have := congrArg List.length x1
    rwa [List.length_map, List.length_map] at this
  rw [List.length_map] at eo
  rw [← h]
  refine ⟨by show ps.length ≤ 10; rw [pl]; exact po.len, so.len, eo.len, by show (ps.map (·.name)).Nodup; rw [x1]; exact po.nd, so.nd, fun s hs => (so.ok s hs).1, fun s hs => ⟨(so.ok s hs).2.1, (so.ok s hs).2.2.1, (so.ok s hs).2.2.2⟩, ⟨eo.nd, fun k hk => by show k < ps.length; rw [pl]; exact eo.ok k hk⟩, fun x hx => ?_⟩
  obtain ⟨r, hr, a1, a2, a3⟩ := x2 x hx
  have q := po.ok r hr
  obtain ⟨b1, b2, b3⟩ := solve_ok (p := ⟨s.1, ps, e⟩) (ss := s.1) rfl (by show ps.length = _; rw [pl, List.length_map]) r.body x.body a3 q.ok
  rw [a1, a2, b2, b3]
  exact ⟨q.s1, q.s2, q.nm, b1, q.cnt, q.deep⟩
end Wk.G
set_option maxHeartbeats 2000000
/-! A list of calls, call by call: plain. -/
namespace Wk.G
open VakepBase (Bytes)
/-- how many numbers and rows a call has -/
def frm : Nat → Nat × Nat
  | 0 => (0, 1)
  | 1 => (0, 0)
  | 2 => (2, 0)
  | 3 => (2, 0)
  | 4 => (0, 0)
  | 5 => (1, 0)
  | 6 => (2, 0)
  | 7 => (3, 0)
  | 8 => (1, 0)
  | _ => (0, 0)
/-- the call of a number, but load -/
def cOf : Nat → List Int → Option Vakepb.Call
  | 1, [] => some .shown
  | 2, [m, k] => some (.chain m k)
  | 3, [m, k] => some (.lost m k)
  | 4, [] => some .tree
  | 5, [m] => some (.shares m)
  | 6, [k, g] => some (.around k g)
  | 7, [m, k, g] => some (.both m k g)
  | 8, [m] => some (.heavy m)
  | _, _ => none
def cJ (j : Nat) (ns : List Int) (b : Bytes) : Option Vakepb.Call := if j = 0 then some (.load b) else cOf j ns
def bytesI (b : Bytes) : List Int := b.map fun c => ((c.toNat : Nat) : Int)
theorem shape_ok {x : Int} {n k : Nat} (h : PyVakepb.shape x = some (n, k)) : ∃ p : Nat, p ≤ 8 ∧ x = (p : Int) ∧ (n, k) = frm p := by
  unfold PyVakepb.shape at h
  by_cases h0 : x = 0
  · rw [if_pos h0] at h; exact ⟨0, by decide, h0, (Option.some.inj h).symm⟩
  rw [if_neg h0] at h
  by_cases h1 : x = 1
  · rw [if_pos h1] at h; exact ⟨1, by decide, h1, (Option.some.inj h).symm⟩
  rw [if_neg h1] at h
  by_cases h2 : x = 2
  · rw [if_pos h2] at h; exact ⟨2, by decide, h2, (Option.some.inj h).symm⟩
  rw [if_neg h2] at h
  by_cases h3 : x = 3
  · rw [if_pos h3] at h; exact ⟨3, by decide, h3, (Option.some.inj h).symm⟩
  rw [if_neg h3] at h
  by_cases h4 : x = 4
  · rw [if_pos h4] at h; exact ⟨4, by decide, h4, (Option.some.inj h).symm⟩
  rw [if_neg h4] at h
  by_cases h5 : x = 5
  · rw [if_pos h5] at h; exact ⟨5, by decide, h5, (Option.some.inj h).symm⟩
  rw [if_neg h5] at h
  by_cases h6 : x = 6
  · rw [if_pos h6] at h; exact ⟨6, by decide, h6, (Option.some.inj h).symm⟩
  rw [if_neg h6] at h
  by_cases h7 : x = 7
  · rw [if_pos h7] at h; exact ⟨7, by decide, h7, (Option.some.inj h).symm⟩
  rw [if_neg h7] at h
  by_cases h8 : x = 8
  · rw [if_pos h8] at h; exact ⟨8, by decide, h8, (Option.some.inj h).symm⟩
  rw [if_neg h8] at h
  cases h
theorem bytes_back {x : List Int} (h : ∀ z ∈ x, 0 ≤ z ∧ z < 256) : bytesI (VakepbNeutral.bytesOf x) = x := by
  unfold bytesI VakepbNeutral.bytesOf
  rw [List.map_map]
  refine (List.map_congr_left fun z hz => ?_).trans (List.map_id x)
  obtain ⟨h1, h2⟩ := h z hz
  show (((UInt8.ofNat z.toNat).toNat : Nat) : Int) = z
  rw [UInt8.toNat_ofNat_of_lt' (by show z.toNat < 256; omega)]
  omega
theorem step_of {c0 : List (List Int)} {c : Vakepb.Call} (h : VakepbNeutral.callOf (PyVakepb.whole c0) = some c) (o : Vakepb.Obj) : VakepbNeutral.step o (PyVakepb.whole c0) = ((Vakepb.step o c).1, VakepbNeutral.encode (Vakepb.step o c).2) := by
  unfold VakepbNeutral.step
  rw [h]
theorem take1 {r : List Int} (h : ¬ r.length < 1) : ∃ a, r.take 1 = [a] := by
  match r, h with
  | [], h => exact absurd (Nat.succ_pos 0) h
  | a :: _, _ => exact ⟨a, rfl⟩
theorem take2 {r : List Int} (h : ¬ r.length < 2) : ∃ a b, r.take 2 = [a, b] := by
  match r, h with
  | [], h => exact absurd (by decide) h
  | [_], h => exact absurd (by simp) h
  | a :: b :: _, _ => exact ⟨a, b, rfl⟩
theorem take3 {r : List Int} (h : ¬ r.length < 3) : ∃ a b c, r.take 3 = [a, b, c] := by
  match r, h with
  | [], h => exact absurd (by decide) h
  | [_], h => exact absurd (by simp) h
  | [_, _], h => exact absurd (by simp) h
  | a :: b :: c :: _, _ => exact ⟨a, b, c, rfl⟩
structure NextC (ns : List Int) (j : Nat) (cs : List (List (List Int))) (p : Nat) (b : Bytes) (c : Vakepb.Call) (t : Nat) (c0 : List (List Int)) (cs' : List (List (List Int))) : Prop where
  p8 : p ≤ 8
  num : ns[j]? = some (p : Int)
  call : cJ p ((ns.drop (j + 1)).take (frm p).1) b = some c
  most : (frm p).1 ≤ (ns.drop (j + 1)).length
  rows : ((frm p).2 = 0 ∧ t = j + 1 + (frm p).1) ∨ ((frm p).2 = 1 ∧ p = 0 ∧ ns[j + 1]? = some (b.length : Int) ∧ (ns.drop (j + 2)).take b.length = bytesI b ∧ t = j + 2 + b.length)
  blen : b.length ≤ 8192
  tl : t ≤ ns.length
  tj : j < t
  cs : cs = c0 :: cs'
  rest : ∃ f, PyFlat.calls PyVakepb.shape f (ns.drop t) = some cs'
  step : ∀ o, VakepbNeutral.step o (PyVakepb.whole c0) = ((Vakepb.step o c).1, VakepbNeutral.encode (Vakepb.step o c).2)
theorem rows_none {shape : Int → Option (Nat × Nat)} {p : Int} {r : List Int} {n : Nat} (hs : shape p = some (n, 0)) {x : List (List Int) × List Int} (h : PyFlat.call shape (p :: r) = some x) : ¬ r.length < n ∧ x = ([p :: r.take n], r.drop n) := by
  unfold PyFlat.call at h
  dsimp only at h
  rw [hs] at h
  dsimp only at h
  by_cases c : r.length < n
  · rw [if_pos c] at h; cases h
  · rw [if_neg c] at h
    exact ⟨c, (Option.some.inj h).symm⟩
theorem rows_one {shape : Int → Option (Nat × Nat)} {p : Int} {r : List Int} (hs : shape p = some (0, 1)) {x : List (List Int) × List Int} (h : PyFlat.call shape (p :: r) = some x) : ∃ (l : Nat) (s : List Int), r = (l : Int) :: s ∧ l ≤ s.length ∧ x = ([[p], s.take l], s.drop l) := by
  unfold PyFlat.call at h
  dsimp only at h
  rw [hs] at h
  dsimp only at h
  rw [if_neg (Nat.not_lt_zero _)] at h
  cases r with
  | nil => cases h
  | cons l s =>
    have e : PyFlat.rows 1 (List.drop 0 (l :: s)) = match (if 0 ≤ l ∧ l.toNat ≤ s.length then some (s.take l.toNat, s.drop l.toNat) else none) with
      | none => none
      | some (x, s) => some ([x], s) := rfl
    rw [e] at h
    by_cases c : 0 ≤ l ∧ l.toNat ≤ s.length
    · rw [if_pos c] at h
      refine ⟨l.toNat, s, ?_, c.2, (Option.some.inj h).symm⟩
      congr 1
      omega
    · rw [if_neg c] at h; cases h
theorem next_call {ns : List Int} {j f : Nat} {cs : List (List (List Int))} (h : PyFlat.calls PyVakepb.shape f (ns.drop j) = some cs) (hj : j < ns.length) (ha : ∀ c ∈ cs, VakepbNeutral.asked1 (PyVakepb.whole c) = true) :
    ∃ p b c t c0 cs', NextC ns j cs p b c t c0 cs' := by
  have hx := List.getElem?_eq_getElem hj
  have hd : ns.drop j = ns[j] :: ns.drop (j + 1) := List.drop_eq_getElem_cons hj
  generalize ns[j] = x at hx hd
  rw [hd] at h
  cases f with
  | zero => cases h
  | succ f =>
    rw [PyFlat.calls] at h
    cases hc : PyFlat.call PyVakepb.shape (x :: ns.drop (j + 1)) with
    | none => rw [hc] at h; cases h
    | some y =>
      obtain ⟨c0, t0⟩ := y
      rw [hc] at h
      dsimp only at h
      cases hr : PyFlat.calls PyVakepb.shape f t0 with
      | none => rw [hr] at h; cases h
      | some cs' =>
        rw [hr] at h
        dsimp only at h
        have ecs := (Option.some.inj h).symm
        have hask : VakepbNeutral.asked1 (PyVakepb.whole c0) = true := ha c0 (by rw [ecs]; exact List.mem_cons_self)
        cases hsh : PyVakepb.shape x with
        | none =>
          unfold PyFlat.call at hc
          dsimp only at hc
          rw [hsh] at hc
          cases hc
        | some nk =>
          obtain ⟨n, k⟩ := nk
          obtain ⟨p, hp, ex, en⟩ := shape_ok hsh
          by_cases hp0 : p = 0
          · subst hp0
            have en : (n, k) = (0, 1) := en
            injection en with en ek
            subst en ek
            obtain ⟨l, s, er, hl, ec⟩ := rows_one hsh hc
            injection ec with ec et
            subst ec et ex
            have hask : ((s.take l).all (fun (z : Int) => VakepbNeutral.natural z 8) && decide ((s.take l).length ≤ 8192)) = true := hask
            rw [Bool.and_eq_true] at hask
            have hz : ∀ z ∈ s.take l, 0 ≤ z ∧ z < 256 := fun z hz => by
              have := List.all_eq_true.mp hask.1 z hz
              unfold VakepbNeutral.natural at this
              rw [Bool.and_eq_true, decide_eq_true_eq, decide_eq_true_eq] at this
              exact ⟨this.1, by have := this.2; omega⟩
            have hbl : (VakepbNeutral.bytesOf (s.take l)).length = l := by
              unfold VakepbNeutral.bytesOf
              rw [List.length_map, List.length_take]
              omega
            have hj1 : j + 1 < ns.length := by
              have := congrArg List.length er
              rw [List.length_drop, List.length_cons] at this
              omega
            have es : ns.drop (j + 2) = s := by
              have := congrArg (List.drop 1) er
              rw [List.drop_drop] at this
              exact this
            have e1 : ns[j + 1]? = some (l : Int) := by
              have := congrArg (fun z : List Int => z[0]?) er
              simpa using this
            have hlen : (ns.drop (j + 2)).length = s.length := congrArg List.length es
            rw [List.length_drop] at hlen
            refine ⟨0, VakepbNeutral.bytesOf (s.take l), .load (VakepbNeutral.bytesOf (s.take l)), j + 2 + l, _, cs', ⟨Nat.zero_le _, hx, rfl, Nat.zero_le _, .inr ⟨rfl, rfl, ?_, ?_, ?_⟩, ?_, by omega, by omega, ecs, ⟨f, ?_⟩, step_of ?_⟩⟩
            · rw [hbl]; exact e1
            · rw [hbl, es, bytes_back hz]
            · rw [hbl]
            · have := of_decide_eq_true hask.2
              rw [hbl]
              rw [List.length_take] at this
              omega
            · rw [← List.drop_drop, es]
              exact hr
            · have hb : NeutralIO.bytes (s.take l) = true := List.all_eq_true.mpr fun z hz' => by
                obtain ⟨a, b⟩ := hz z hz'
                rw [decide_eq_true a, decide_eq_true (show z ≤ 255 by omega)]
                rfl
              show (if NeutralIO.bytes (s.take l) = true then some _ else none) = _
              rw [if_pos hb]
          · have ek : k = 0 := by
              have := congrArg Prod.snd en
              have e : k = (frm p).2 := this
              match p, hp, hp0 with
              | 0, _, h => exact absurd rfl h
              | 1, _, _ => exact e
              | 2, _, _ => exact e
              | 3, _, _ => exact e
              | 4, _, _ => exact e
              | 5, _, _ => exact e
              | 6, _, _ => exact e
              | 7, _, _ => exact e
              | 8, _, _ => exact e
              | p + 9, h, _ => omega
            subst ek
            obtain ⟨hn, ec⟩ := rows_none hsh hc
            injection ec with ec et
            subst ec et ex
            have enn : n = (frm p).1 := congrArg Prod.fst en
            have hf2 : (frm p).2 = 0 := (congrArg Prod.snd en).symm
            have key : ∃ c, cJ p ((ns.drop (j + 1)).take n) [] = some c ∧ VakepbNeutral.callOf (PyVakepb.whole [((p : Nat) : Int) :: (ns.drop (j + 1)).take n]) = some c := by
              generalize ns.drop (j + 1) = r at hn
              clear hc hr hd hask ecs h ha hx
              subst enn
              match p, hp, hp0, hn with
              | 0, _, h, _ => exact absurd rfl h
              | 1, _, _, _ => exact ⟨_, rfl, rfl⟩
              | 2, _, _, hn => obtain ⟨a, b, e⟩ := take2 (r := r) hn; rw [show (frm 2).1 = 2 from rfl, e]; exact ⟨_, rfl, rfl⟩
              | 3, _, _, hn => obtain ⟨a, b, e⟩ := take2 (r := r) hn; rw [show (frm 3).1 = 2 from rfl, e]; exact ⟨_, rfl, rfl⟩
              | 4, _, _, _ => exact ⟨_, rfl, rfl⟩
              | 5, _, _, hn => obtain ⟨a, e⟩ := take1 (r := r) hn; rw [show (frm 5).1 = 1 from rfl, e]; exact ⟨_, rfl, rfl⟩
              | 6, _, _, hn => obtain ⟨a, b, e⟩ := take2 (r := r) hn; rw [show (frm 6).1 = 2 from rfl, e]; exact ⟨_, rfl, rfl⟩
              | 7, _, _, hn => obtain ⟨a, b, c, e⟩ := take3 (r := r) hn; rw [show (frm 7).1 = 3 from rfl, e]; exact ⟨_, rfl, rfl⟩
              | 8, _, _, hn => obtain ⟨a, e⟩ := take1 (r := r) hn; rw [show (frm 8).1 = 1 from rfl, e]; exact ⟨_, rfl, rfl⟩
              | p + 9, h, _, _ => omega
            obtain ⟨c, k1, k2⟩ := key
            have hn2 := hn
            rw [List.length_drop] at hn2
            refine ⟨p, [], c, j + 1 + n, _, cs', ⟨hp, hx, by rw [← enn]; exact k1, by rw [← enn]; omega, .inl ⟨hf2, by rw [enn]⟩, by decide, by omega, by omega, ecs, ⟨f, ?_⟩, step_of k2⟩⟩
            rw [← List.drop_drop]
            exact hr
theorem calls_end {f : Nat} {cs : List (List (List Int))} (h : PyFlat.calls PyVakepb.shape f [] = some cs) : cs = [] := by
  cases f <;> exact (Option.some.inj h).symm
/-- what is asked, as the program needs it -/
theorem asked_ok {ns : List Int} (h : PyVakepb.answers_asked ns = true) : ∃ cs, PyFlat.calls PyVakepb.shape ns.length ns = some cs ∧ (∀ c ∈ cs, VakepbNeutral.asked1 (PyVakepb.whole c) = true) ∧
    PyVakepb.answers ns = PyFlat.told (PyFlat.played VakepbNeutral.step VakepbNeutral.start (cs.map PyVakepb.whole)) ∧ (PyVakepb.answers ns).length ≤ 10000000 := by
  unfold PyVakepb.answers_asked at h
  cases hc : PyFlat.calls PyVakepb.shape ns.length ns with
  | none => rw [hc] at h; cases h
  | some cs =>
    rw [hc] at h
    dsimp only at h
    rw [Bool.and_eq_true, Bool.and_eq_true] at h
    obtain ⟨⟨_, h1⟩, h2⟩ := h
    refine ⟨cs, rfl, fun c hc' => ?_, ?_, of_decide_eq_true h2⟩
    · unfold VakepbNeutral.asked at h1
      rw [Bool.and_eq_true] at h1
      exact List.all_eq_true.mp h1.1 _ (List.mem_map_of_mem hc')
    · unfold PyVakepb.answers PyVakepb.calls
      rw [hc]
end Wk.G
set_option maxHeartbeats 4000000
/-! Rules that the hand layer lacks: dicts of truths whose keys are ints and None; != of a list and an empty one; a dict whose keys are pairs (an int, a tuple of ints). -/
namespace Wk
open PySem PySem.Spec PyProof.Rows L2

/-! ### keys: an int or None -/
def keyNI : Option Int → Value → Bool
  | none, v => v == Value.none
  | some k, v => Value.isInt k v
theorem keyNI_shape : ∀ {k : Option Int} {v : Value}, keyNI k v = true → (k = none ∧ v = Value.none) ∨ ∃ i t, k = some i ∧ v = Value.int i t
  | none, v, h => .inl ⟨rfl, eq_of_beq h⟩
  | some i, v, h => by
    obtain ⟨t, e⟩ := Value.isInt_shape (k := i) (v := v) h
    exact .inr ⟨i, t, rfl, e⟩
theorem keyNI_int (i : Int) (t : Tok) : keyNI (some i) (.int i t) = true := by simp [keyNI, Value.isInt]
theorem keyNI_none : keyNI none .none = true := rfl
def niKind (prog : Program) (w : World) : PySem.KeyKind prog w (Option Int) where
  is := keyNI
  hash := fun k => match k with
    | none => reduceHash 0xFCA86420
    | some i => hashInt i
  inj := fun v a b ha hb => by
    rcases keyNI_shape ha with ⟨rfl, rfl⟩ | ⟨i, t, rfl, rfl⟩
    · rcases keyNI_shape hb with ⟨rfl, _⟩ | ⟨j, u, rfl, e⟩
      · rfl
      · exact nomatch e
    · rcases keyNI_shape hb with ⟨rfl, e⟩ | ⟨j, u, rfl, e⟩
      · exact nomatch e
      · injection e with e1 _
        rw [e1]
  byValue := fun k v h => by
    rcases keyNI_shape h with ⟨rfl, rfl⟩ | ⟨i, t, rfl, rfl⟩ <;> rfl
  pyHash := fun hv h => by
    rcases keyNI_shape hv with ⟨rfl, rfl⟩ | ⟨i, t, rfl, rfl⟩
    · exact PySem.W.pyHash_slot (T := "NoneType") rfl F.slot_NoneType_hash F.entry_NoneType_hash (F.args_NoneType_hash_1 _) (beq_builtin_none _) (.inl rfl) (wpAny_bind (wpAny_pure (wpAny_bind (wpAny_mkInt (wpAny_pure ⟨_, _, rfl, h⟩)))))
    · exact wpAny_pyHash_int h
  eqBool := fun hu hv h => by
    rcases keyNI_shape hu with ⟨rfl, rfl⟩ | ⟨i, t, rfl, rfl⟩
    · rcases keyNI_shape hv with ⟨rfl, rfl⟩ | ⟨j, u, rfl, rfl⟩
      · exact SeqAt.EqAt.same _ _ _ _ _ h
      · exact SeqAt.EqAt.none_int j u _ _ _ _ h
    · rcases keyNI_shape hv with ⟨rfl, rfl⟩ | ⟨j, u, rfl, rfl⟩
      · exact SeqAt.EqAt.int_none i t _ _ _ _ h
      · refine wpAny_eqBool_int ?_
        have e : (i == j) = decide ((some i : Option Int) = some j) := by
          by_cases q : i = j
          · subst q
            simp
          · have q2 : ¬ (some i : Option Int) = some j := fun z => q (Option.some.inj z)
            rw [decide_eq_false q2]
            exact beq_eq_false_iff_ne.mpr q
        rw [e]
        exact h
  «strs» := fun k x t v h => by
    rcases keyNI_shape h with ⟨rfl, e⟩ | ⟨i, u, rfl, e⟩ <;> exact nomatch e
/-- the key as a value -/
def niV : Option Int → V
  | none => .non
  | some i => .int i
theorem niV_is {P : Program} {w : World} {k : Option Int} {u : Value} (r : RelV (niV k) u) : (niKind P w).is k u = true := by
  cases k with
  | none =>
    obtain rfl : u = Value.none := r
    exact keyNI_none
  | some i =>
    obtain ⟨t, rfl⟩ : ∃ t, u = Value.int i t := r
    exact keyNI_int i t
theorem niV_of {k : Option Int} {u : Value} (h : keyNI k u = true) : RelV (niV k) u := by
  rcases keyNI_shape h with ⟨rfl, rfl⟩ | ⟨i, t, rfl, rfl⟩
  · rfl
  · exact ⟨t, rfl⟩

/-! ### dicts of truths -/
def tru (ks : List (Option Int)) : List (Option Int × Value) := ks.map fun k => (k, Value.bool true)
/-- a dict of truths, its keys in order -/
def putN (ks : List (Option Int)) (k : Option Int) : List (Option Int) := if k ∈ ks then ks else ks ++ [k]
def uniN (ks more : List (Option Int)) : List (Option Int) := more.foldl putN ks
theorem tru_any (ks : List (Option Int)) (k : Option Int) : ((tru ks).any fun kv => decide (kv.1 = k)) = decide (k ∈ ks) := by
  induction ks with
  | nil => simp [tru]
  | cons a r ih =>
    have ih' : ((r.map fun k => (k, Value.bool true)).any fun kv => decide (kv.1 = k)) = decide (k ∈ r) := ih
    simp only [tru, List.map_cons, List.any_cons, ih', List.mem_cons]
    by_cases e : a = k
    · subst e
      simp
    · have e' : ¬ k = a := fun z => e z.symm
      simp [e, e']
theorem tru_put (ks : List (Option Int)) (k : Option Int) : stored (tru ks) k (.bool true) = tru (putN ks k) := by
  unfold stored putN
  rw [tru_any]
  by_cases h : k ∈ ks
  · rw [if_pos (by simpa using h), if_pos h]
    unfold tru
    rw [List.map_map]
    refine List.map_congr_left fun x _ => ?_
    by_cases e : x = k
    · simp [e]
    · simp [e]
  · rw [if_neg (by simpa using h), if_neg h]
    simp [tru]
theorem tru_uni (ks more : List (Option Int)) : merged (tru ks) (tru more) = tru (uniN ks more) := by
  induction more generalizing ks with
  | nil => rfl
  | cons a r ih =>
    show merged (stored (tru ks) a (.bool true)) (tru r) = tru (uniN (putN ks a) r)
    rw [tru_put]
    exact ih _
theorem tru_keys (ks : List (Option Int)) : (tru ks).map (·.1) = ks := by
  unfold tru
  rw [List.map_map]
  exact List.map_id _
theorem tru_length (ks : List (Option Int)) : (tru ks).length = ks.length := by
  unfold tru
  exact List.length_map _
theorem tru_value (ks : List (Option Int)) (k : Option Int) : (valueAt (tru ks) k).isSome = decide (k ∈ ks) := by
  unfold valueAt
  rw [Option.isSome_map]
  induction ks with
  | nil => simp [tru]
  | cons a r ih =>
    have ih' : ((r.map fun k => (k, Value.bool true)).find? fun kv => decide (kv.1 = k)).isSome = decide (k ∈ r) := ih
    simp only [tru, List.map_cons, List.find?_cons, List.mem_cons]
    by_cases e : a = k
    · subst e
      simp
    · have e' : ¬ k = a := fun z => e z.symm
      simp only [e, decide_false, e', false_or]
      exact ih'
theorem mem_putN {ks : List (Option Int)} {k j : Option Int} : j ∈ putN ks k ↔ j ∈ ks ∨ j = k := by
  unfold putN
  split
  · rename_i h
    constructor
    · exact .inl
    · rintro (q | rfl)
      · exact q
      · exact h
  · simp
theorem mem_uniN {more : List (Option Int)} : ∀ {ks : List (Option Int)} {j : Option Int}, j ∈ uniN ks more ↔ j ∈ ks ∨ j ∈ more := by
  induction more with
  | nil => intro ks j; simp [uniN]
  | cons a r ih =>
    intro ks j
    show j ∈ uniN (putN ks a) r ↔ _
    rw [ih, mem_putN, List.mem_cons]
    constructor
    · rintro ((q | q) | q)
      · exact .inl q
      · exact .inr (.inl q)
      · exact .inr (.inr q)
    · rintro (q | q | q)
      · exact .inl (.inl q)
      · exact .inl (.inr q)
      · exact .inr q
theorem putN_len (ks : List (Option Int)) (k : Option Int) : (putN ks k).length ≤ ks.length + 1 := by
  unfold putN
  split
  · omega
  · simp
theorem uniN_len : ∀ (more ks : List (Option Int)), (uniN ks more).length ≤ ks.length + more.length
  | [], ks => by simp [uniN]
  | a :: r, ks => by
    have h1 := uniN_len r (putN ks a)
    have h2 := putN_len ks a
    show (uniN (putN ks a) r).length ≤ _
    rw [List.length_cons]
    omega
/-- .. as it stands at a -/
def dN (P : Program) (w : World) (a : Addr) (ks : List (Option Int)) : HO := .ext fun h => ks.length ≤ sizeLine ∧ (a == sysModules) = false ∧ h.DictOf (niKind P w) a (tru ks)
section
variable {P : Program} {w : World} {H : Hp} {h : Heap} {a : Addr} {ks : List (Option Int)}
theorem dN_ok (z : ks.length ≤ sizeLine) (hs : (a == sysModules) = false) (d : h.DictOf (niKind P w) a (tru ks)) : ObjOk P w H h a (dN P w a ks) := by
  obtain ⟨o, es, ep, e, r⟩ := id d
  exact ⟨⟨z, hs, d⟩, ⟨o, e⟩, fun h1 h2 ⟨z, hs, d⟩ k => ⟨z, hs, d.at fun o e => k o e⟩⟩
theorem dN_rd (ok : HOk P w H h) (e : Rd H a (dN P w a ks)) : ks.length ≤ sizeLine ∧ (a == sysModules) = false ∧ h.DictOf (niKind P w) a (tru ks) := by
  have x : ObjOk P w H h a (.ext fun h => ks.length ≤ sizeLine ∧ (a == sysModules) = false ∧ h.DictOf (niKind P w) a (tru ks)) := e.ok ok
  exact x.1
theorem dN_nodup (ok : HOk P w H h) (e : Rd H a (dN P w a ks)) : ks.Nodup := by
  obtain ⟨_, _, o, es, ep, _, _, _, _, _, n⟩ := dN_rd ok e
  rw [tru_keys] at n
  exact n
theorem dN_mut (e : H a = some (dN P w a ks)) : Mut (H a) := by
  rw [e]
  exact True.intro
end
section
variable {X : Cx} {pins : List (Addr × Obj)} {σ : L2.St} {H : Hp} {s : Shared} {a b : Addr} {ks ms : List (Option Int)} {k : Option Int} {u r : Value} {A : Around} {E : Value → Shared → Prop}
/-- k in d -/
theorem dn_in {Q : Value → Shared → Prop} (I : Inv X pins σ H s) (e : Rd H a (dN X.prog X.w a ks)) (ry : RelV (niV k) u) (h : ∀ s', Inv X pins σ H s' → Q (.bool (decide (k ∈ ks))) s') : wpAny (model X.prog X.w) A (compareOp .In u (.ref a)) Q E s := by
  obtain ⟨z, hd, dd⟩ := dN_rd I.hok e
  refine wpAny_in_of (niV_is ry) hd dd.mapOf ?_
  rw [tru_value]
  exact h _ (I.tok _)
theorem dn_notIn {Q : Value → Shared → Prop} (I : Inv X pins σ H s) (e : Rd H a (dN X.prog X.w a ks)) (ry : RelV (niV k) u) (h : ∀ s', Inv X pins σ H s' → Q (.bool (!decide (k ∈ ks))) s') : wpAny (model X.prog X.w) A (compareOp .NotIn u (.ref a)) Q E s := by
  obtain ⟨z, hd, dd⟩ := dN_rd I.hok e
  refine wpAny_notIn_of (niV_is ry) hd dd.mapOf ?_
  rw [tru_value]
  exact h _ (I.tok _)
/-- d[k] = True -/
theorem dn_set {Q : Unit → Shared → Prop} (I : Inv X pins σ H s) (e : H a = some (dN X.prog X.w a ks)) (ry : RelV (niV k) u) (hl : ks.length < sizeLine) (h : ∀ s', Inv X pins σ (upd H a (dN X.prog X.w a (putN ks k))) s' → Q () s') :
    wpAny (model X.prog X.w) A (setItem (.ref a) u (.bool true)) Q E s := by
  obtain ⟨z, hd, dd⟩ := dN_rd I.hok (.inl e)
  refine wpAny_setItem_pairs (hsz := by rw [tru_length]; exact z) (niV_is ry) dd fun h' dd' hs => h _ ?_
  rw [tru_put] at dd'
  have he : ∃ q, h'.get? a = some q := let ⟨q, _, _, hq, _⟩ := dd'; ⟨q, hq⟩
  have hz : (putN ks k).length ≤ sizeLine := by have := putN_len ks k; omega
  exact d_write I (dN_mut e) hs he (dN_ok hz hd dd')
/-- d.update(e) -/
theorem dn_upd {Q : Value → Shared → Prop} (I : Inv X pins σ H s) (ne : a ≠ b) (e : H a = some (dN X.prog X.w a ks)) (f : H b = some (dN X.prog X.w b ms)) (hl : ks.length + ms.length ≤ sizeLine)
    (h : ∀ s', Inv X pins σ (upd H a (dN X.prog X.w a (uniN ks ms))) s' → Q .none s') : wpAny (model X.prog X.w) A (call (.builtin "dict.update") [.ref a, .ref b]) Q E s := by
  obtain ⟨z, hd, dd⟩ := dN_rd I.hok (.inl e)
  obtain ⟨z2, hd2, dd2⟩ := dN_rd I.hok (.inl f)
  refine call_meetsIn PySem.F.slot_dict_update dd.typeIs PySem.F.entry_dict_update (PySem.F.args_dict_update_2 _ _) (meets_dict_update (niKind X.prog X.w) a b ne hd2)
    ⟨tru ks, tru ms, dd, dd2, by rw [tru_length, tru_length]; exact hl, fun h' x1 x2 hs => h _ ?_⟩
  rw [tru_uni] at x1
  have he : ∃ q, h'.get? a = some q := let ⟨q, _, _, hq, _⟩ := x1; ⟨q, hq⟩
  exact d_write (t' := s.toks) I (dN_mut e) hs he (dN_ok (Nat.le_trans (uniN_len ms ks) hl) hd x1)
end
section
variable {X : Cx} {pos pos' tpos apos cpos : Pos} {o i e value : Expr} {td ty tv : TE}
/-- {} -/
def tNewN (P : Program) (w : World) : TE := fun _ H Q => ∀ p, H p = none → Q (.ref p) (upd H p (dN P w p []))
theorem pe_newN : PE X (.Dict [] [] pos) (tNewN X.prog X.w) := ⟨fun pins s σ H Q I h =>
  wpAny_Dict_empty ⟨.ref s.heap.objs.size, _, I.laid (a := s.heap.objs.size) (o := dN X.prog X.w s.heap.objs.size []) (t' := s.toks) (fun _ _ q => Heap.get?_push_of_some _ q) (Nat.le_refl _)
    (dN_ok (Nat.zero_le _) (beq_eq_false_iff_ne.mpr (Ne.symm (Nat.ne_of_lt I.big))) (Heap.DictOf.new s.heap)), rfl, h _ (I.hok.fresh (Nat.le_refl _))⟩⟩
def tInN (P : Program) (w : World) (ty td : TE) : TE := fun σ H Q => ty σ H fun y H1 => td σ H1 fun x H2 => ∃ (a : Addr) (ks : List (Option Int)) (k : Option Int), x = .ref a ∧ H2 a = some (dN P w a ks) ∧ y = niV k ∧ Q (.bl (decide (k ∈ ks))) H2
def tNotInN (P : Program) (w : World) (ty td : TE) : TE := fun σ H Q => ty σ H fun y H1 => td σ H1 fun x H2 => ∃ (a : Addr) (ks : List (Option Int)) (k : Option Int), x = .ref a ∧ H2 a = some (dN P w a ks) ∧ y = niV k ∧ Q (.bl (!decide (k ∈ ks))) H2
theorem pc_inN (hi : PE X i ty) (ho : PE X o td) : PC X .In i o (tInN X.prog X.w ty td) := by
  refine ⟨fun pins s σ H Q I h => ?_⟩
  refine thn (hi.run pins s σ H _ I h) fun iv s1 ⟨y, H1, I1, ry, q1⟩ => thn (ho.run pins s1 σ H1 _ I1 q1) fun u s2 ⟨x, H2, I2, rx, a, ks, k, ex, ea, ey, q2⟩ => ?_
  subst ex ey
  obtain rfl : u = Value.ref a := rx
  exact dn_in I2 (.inl ea) ry fun s3 I3 => ⟨.bl _, H2, I3, rfl, q2⟩
theorem pc_notInN (hi : PE X i ty) (ho : PE X o td) : PC X .NotIn i o (tNotInN X.prog X.w ty td) := by
  refine ⟨fun pins s σ H Q I h => ?_⟩
  refine thn (hi.run pins s σ H _ I h) fun iv s1 ⟨y, H1, I1, ry, q1⟩ => thn (ho.run pins s1 σ H1 _ I1 q1) fun u s2 ⟨x, H2, I2, rx, a, ks, k, ex, ea, ey, q2⟩ => ?_
  subst ex ey
  obtain rfl : u = Value.ref a := rx
  exact dn_notIn I2 (.inl ea) ry fun s3 I3 => ⟨.bl _, H2, I3, rfl, q2⟩
/-- d[k] = True -/
def sPutN (P : Program) (w : World) (td ty tv : TE) : TS := fun D σ H => tv σ H fun v H1 => td σ H1 fun x H2 => ty σ H2 fun y H3 => ∃ (a : Addr) (ks : List (Option Int)) (k : Option Int), v = .bl true ∧ x = .ref a ∧ y = niV k ∧ H3 a = some (dN P w a ks) ∧ ks.length < sizeLine ∧
  D.nx σ (upd H3 a (dN P w a (putN ks k)))
theorem ps_putN (ho : PE X o td) (hi : PE X i ty) (hv : PE X value tv) (hs : swapsWith value (some (.Subscript o i pos')) pos.line X.env = pure false := by rfl) : PS X (.Assign [.Subscript o i pos'] value pos) (sPutN X.prog X.w td ty tv) := by
  refine ⟨fun pins s σ H D I h => ?_⟩
  refine wpAny_Assign_Subscript (thn (hv.run pins s σ H _ I h) fun r s1 ⟨v, H1, I1, rv, q1⟩ => thn (ho.run pins s1 σ H1 _ I1 q1) fun u s2 ⟨x, H2, I2, rx, q2⟩ => thn (hi.run pins s2 σ H2 _ I2 q2) fun iv s3 ⟨y, H3, I3, ry, a, ks, k, ev, ex, ey, ea, hl, q3⟩ => ?_) hs
  subst ev ex ey
  obtain rfl : u = Value.ref a := rx
  obtain rfl : r = Value.bool true := rv
  exact dn_set I3 ea ry hl fun s4 I4 => ⟨σ, _, I4, q3⟩
/-- d.update(e) -/
def tUpdN (P : Program) (w : World) (td te : TE) : TE := fun σ H Q => td σ H fun x H1 => (∃ (a : Addr) (ks : List (Option Int)), x = .ref a ∧ H1 a = some (dN P w a ks)) ∧ te σ H1 fun y H2 => ∃ (a b : Addr) (ks ms : List (Option Int)), x = .ref a ∧ y = .ref b ∧ a ≠ b ∧
  H2 a = some (dN P w a ks) ∧ H2 b = some (dN P w b ms) ∧ ks.length + ms.length ≤ sizeLine ∧ Q .non (upd H2 a (dN P w a (uniN ks ms)))
theorem pe_updN (ho : PE X o td) (he : PE X e tv) (hbase : attributeBase o "update" X.env (eval o X.env) = eval o X.env := by rfl)
    (hfew : ((backTo cpos (starEach [e] X.env)).all (fun x => !x.1) && (backToKw cpos (keywordEach [] X.env)).all (fun x => x.1.isSome)
      && decide ([e].length + ([] : List Keyword).length + (if ([] : List Keyword).isEmpty then 0 else 1) < 30)) = true := by rfl)
    (hline : (apos.endLine == cpos.line) = true := by rfl) (hs : starEach [e] X.env = [(false, eval e X.env)] := by rfl) : PE X (.Call (.Attribute o "update" apos) [e] [] cpos) (tUpdN X.prog X.w td tv) := by
  refine ⟨fun pins s σ H Q I h => ?_⟩
  refine wpAny_Call_method_late hbase hfew hline rfl (thn (ho.run pins s σ H _ I h) fun v s1 ⟨x, H1, I1, r1, ⟨a, ks, ex, ea⟩, q1⟩ => ?_)
  subst ex
  obtain rfl : v = Value.ref a := r1
  obtain ⟨_, _, dd⟩ := dN_rd I1.hok (.inl ea)
  refine ⟨"dict", "dict.update", PySem.F.plainAttrs_dict, PySem.F.slot_dict_update, PySem.F.type_dict_update, dd.typeIs, dd.mapOf.noDict, ?_⟩
  have hA := (pa_cons he pa_nil hs).run cpos pins s1 σ H1 (fun vs H2 => match vs with
    | [y] => ∃ (a' b : Addr) (ks ms : List (Option Int)), V.ref a = .ref a' ∧ y = .ref b ∧ a' ≠ b ∧ H2 a' = some (dN X.prog X.w a' ks) ∧ H2 b = some (dN X.prog X.w b ms) ∧ ks.length + ms.length ≤ sizeLine ∧ Q .non (upd H2 a' (dN X.prog X.w a' (uniN ks ms)))
    | _ => False) I1 q1
  rw [hs] at hA ⊢
  refine Calls.callWith_builtin (by rfl) (Calls.evalArgs_plain ?_)
  refine thn hA fun us s2 ⟨vs, H2, I2, r2, q2⟩ => ?_
  cases r2 with
  | nil => exact q2.elim
  | @cons y u _ _ r3 r4 =>
    cases r4 with
    | cons _ _ => exact q2.elim
    | nil =>
      obtain ⟨a', b, ks2, ms, e1, e2, ne, ea2, eb, hl, q2⟩ := q2
      subst e2
      obtain rfl : a = a' := V.ref.inj e1
      obtain rfl : u = Value.ref b := r3
      exact dn_upd I2 ne ea2 eb hl fun s3 I3 => ⟨.non, _, I3, rfl, q2⟩
end
end Wk
set_option maxHeartbeats 4000000
namespace Wk
open PySem PySem.Spec PyProof.Rows L2
/-! ### dict([(n, True) for ..]) -/
def kT (ns : List Int) : List (L2.Key × V) := ns.map fun n => (Sum.inl n, V.bl true)
theorem valV_kT {ns : List Int} {m : Int} (h : m ∉ ns) : valV (kT ns) (Sum.inl m) = none := by
  induction ns with
  | nil => rfl
  | cons a r ih =>
    have h1 : a ≠ m := fun e => h (by rw [e]; exact List.mem_cons_self)
    show valV ((Sum.inl a, V.bl true) :: kT r) (Sum.inl m) = none
    rw [valV_neg (p := ((Sum.inl a : L2.Key), V.bl true)) (fun e => h1 (Sum.inl.inj e))]
    exact ih fun z => h (List.mem_cons_of_mem _ z)
theorem merge_kT : ∀ (more acc : List Int), (acc ++ more).Nodup → mergeK (kT acc) (kT more) = kT (acc ++ more)
  | [], acc, _ => by simp [mergeK, kT]
  | a :: r, acc, h => by
    have ha : a ∉ acc := fun m => (List.nodup_append.mp h).2.2 a m a List.mem_cons_self rfl
    show mergeK (putK (kT acc) (Sum.inl a) (.bl true)) (kT r) = kT (acc ++ a :: r)
    rw [putK_new _ (valV_kT ha)]
    have e : kT acc ++ [((Sum.inl a : L2.Key), V.bl true)] = kT (acc ++ [a]) := by simp [kT]
    rw [e, merge_kT r (acc ++ [a]) (by simpa using h)]
    simp
theorem keysOf_ni {P : Program} {w : World} : ∀ {ns : List Int} {es : List DictEntry} {vs : List (L2.Key × Value)}, KV (kT ns) vs → Pairs (mixKind P w) es vs → (∀ e ∈ es, ∃ k, (mixKind P w).is k e.key = true ∧ e.hash = (mixKind P w).hash k) →
    Pairs (niKind P w) es (tru (ns.map some)) ∧ ∀ e ∈ es, ∃ k, (niKind P w).is k e.key = true ∧ e.hash = (niKind P w).hash k
  | [], _, _, r, p, _ => by
    cases r
    cases p
    exact ⟨.nil, fun e he => nomatch he⟩
  | n :: ns, _, _, r, p, hk => by
    cases r with
    | cons h t =>
      cases p with
      | @cons e kv es kvs h1 h2 h3 =>
        obtain ⟨e1, e2⟩ := h
        rw [← e1] at h1
        obtain ⟨t', ek⟩ := Value.isInt_shape (k := n) (v := e.key) h1
        obtain ⟨q1, q2⟩ := keysOf_ni t h3 fun e he => hk e (List.mem_cons_of_mem _ he)
        have hv : e.val = Value.bool true := h2.trans e2
        refine ⟨.cons (by show keyNI (some n) e.key = true; rw [ek]; exact keyNI_int _ _) hv q1, fun e' he => ?_⟩
        rcases List.mem_cons.mp he with rfl | he
        · obtain ⟨k, z1, z2⟩ := hk e' List.mem_cons_self
          refine ⟨some n, by show keyNI (some n) e'.key = true; rw [ek]; exact keyNI_int _ _, ?_⟩
          have ek2 : k = Sum.inl n := (mixKind P w).inj _ _ _ z1 h1
          rw [z2, ek2]
          rfl
        · exact q2 e' he
/-- a dict of ints, told as a dict of truths -/
theorem inv_dN {X : Cx} {pins : List (Addr × Obj)} {σ : L2.St} {H : Hp} {s : Shared} {a : Addr} {ns : List Int} (I : Inv X pins σ H s) (e : H a = some (.dK (kT ns))) : Inv X pins σ (upd H a (dN X.prog X.w a (ns.map some))) s := by
  obtain ⟨z, hd, vs, rel, o, es, ep, ho, hx, hdt, hk, hp, hn⟩ := dk_of I.hok e
  obtain ⟨q1, q2⟩ := keysOf_ni rel hp (fun e he => hk e (by simpa using he))
  have hlen : (ns.map some).length ≤ sizeLine := by
    rw [List.length_map]
    simpa [kT] using z
  have nd : ((tru (ns.map some)).map (·.1)).Nodup := by
    rw [tru_keys]
    have h1 : (vs.map (·.1)) = (kT ns).map (·.1) := rel.keys.symm
    rw [h1] at hn
    have h2 : (kT ns).map (·.1) = ns.map Sum.inl := by simp [kT]
    rw [h2] at hn
    exact List.pairwise_map.mpr ((List.pairwise_map.mp hn).imp fun h e => h (congrArg Sum.inl (Option.some.inj e)))
  exact I.write (t' := s.toks) (x := a) (e := a) (o := dN X.prog X.w a (ns.map some)) (h' := s.heap) (by rw [e]; exact True.intro) (.inl rfl) (fun _ _ _ q => q) ⟨o, ho⟩ (dN_ok hlen hd ⟨o, es, ep, ho, hx, hdt, fun e he => q2 e (by simpa using he), q1, nd⟩)
theorem call_dictN {X : Cx} (hcalm : X.calm = true) : CallR X (.type "dict") (fun xs H Q => ∃ (a : Addr) (ps : List Addr) (ns : List Int), xs = [.ref a] ∧ SqL X.K H a (ps.map V.ref) ∧ Paired (fun p n => SqT X.K H p [.int n, .bl true]) ps ns ∧ ns.Nodup ∧
    ∀ p, H p = none → Q (.ref p) (upd H p (dN X.prog X.w p (ns.map some)))) := by
  intro pins s σ H xs us Q I r q
  obtain ⟨a, ps, ns, ex, hq, hp, nd, q⟩ := q
  have hp2 : Paired (fun (p : Addr) (kv : L2.Key × V) => SqT X.K H p [kV kv.1, kv.2]) ps (kT ns) := by
    clear hq nd q
    induction hp with
    | nil => exact .nil
    | cons h t ih => exact .cons h ih
  refine thn (call_dictP hcalm pins s σ H xs us (fun v H' => ∃ p, v = .ref p ∧ H p = none ∧ H' = upd H p (.dK (kT ns))) I r ⟨a, ps, kT ns, ex, hq, hp2, fun p hp => ⟨p, rfl, hp, ?_⟩⟩) fun u s' ⟨v, H', I', rv, p, ev, hn, eH⟩ => ?_
  · rw [show mergeK [] (kT ns) = kT ns from by simpa [kT] using merge_kT ns [] (by simpa using nd)]
  · subst ev eH
    have J := inv_dN I' upd_same
    rw [upd_upd] at J
    exact ⟨.ref p, _, J, rv, q p hn⟩
/-! ### walks over such a dict -/
def Itn (P : Program) (w : World) (d : Addr) (o : Obj) (ks : List (Option Int)) : It :=
  ⟨fun i H => H d = some (.frz o (dN P w d ks)) ∧ i < ks.length, fun i H x H' => H' = H ∧ ∃ k, ks[i]? = some k ∧ x = niV k, fun i H => H d = some (.frz o (dN P w d ks)) ∧ ks.length ≤ i⟩
theorem frzN {X : Cx} {pins : List (Addr × Obj)} {σ : L2.St} {H : Hp} {s : Shared} {d : Addr} {o : Obj} {ks : List (Option Int)} (I : Inv X pins σ H s) (h : H d = some (.frz o (dN X.prog X.w d ks))) :
    (d == sysModules) = false ∧ s.heap.get? d = some o ∧ o.ExactDict ∧ ∃ (es : Array DictEntry) (ep : Nat), o.data = .dict es ep ∧ es.size = ks.length ∧ s.heap.DictAt (niKind X.prog X.w) d (tru ks) ep := by
  obtain ⟨hd, x, _⟩ := I.hok d _ h
  obtain ⟨z, hs, o', es, ep, ho, hx, hdt, r⟩ := x
  rw [hd] at ho
  cases ho
  refine ⟨hs, hd, hx, es, ep, hdt, ?_, o, es, hd, hx, hdt, r⟩
  have l1 := r.2.1.length
  rw [tru_length, Array.length_toList] at l1
  exact l1
theorem dict_ep2 {o : Obj} {es es' : Array DictEntry} {ep ep' : Nat} (h : o.data = .dict es ep) (h' : o.data = .dict es' ep') : es = es' ∧ ep = ep' := by
  rw [h] at h'
  injection h' with h1 h2
  exact ⟨h1, h2⟩
theorem turn_n {P : Program} {w : World} {K : PySem.W.Frag} {tg : Expr} {d : Addr} {o : Obj} {es : Array DictEntry} {ep : Nat} {ks : List (Option Int)} (it : Addr) (hod : o.data = .dict es ep) : Turn P w K tg (Itn P w d o ks) [it] it (fun i h => h.IsKeyIter it d i ks.length ep) where
  mem := by simp
  obj := fun i h st b hb => by
    have e : b = it := by simpa using hb
    subst e
    obtain ⟨oi, e, c, dd⟩ := st
    exact ⟨oi, e, fun v z => by rw [dd] at z; cases z⟩
  keep := fun i h h' st k => st.at fun oi e => k it (by simp) oi e
  item := by
    intro X hP hw hK hc i pins s σ H E I hf st hg
    subst hP hw hK
    obtain ⟨hd, hi⟩ := hg
    obtain ⟨f0, f1, f2, f3, f4, f5⟩ := hf it (by simp)
    obtain ⟨hs, hgd, hx, es', ep', hdt, hsz, hm⟩ := frzN I hd
    obtain ⟨rfl, rfl⟩ := dict_ep2 hod hdt
    obtain ⟨k, hk⟩ : ∃ p, ks[i]? = some p := ⟨ks[i], List.getElem?_eq_getElem hi⟩
    have hu : (tru ks)[i]? = some (k, Value.bool true) := by
      unfold tru
      rw [List.getElem?_map, hk]
      rfl
    have hl : ks.length = (tru ks).length := (tru_length ks).symm
    rw [hl] at st
    refine wpAny_pyNext_dict_item st hm hu fun key h' hkey st' sb => ?_
    have I1 : Inv X pins σ H { s with heap := h' } := I.turned (t' := s.toks) (fun b ob hb e => (sb.2 b hb).trans e) f0 f1 f3 f4 f5
    obtain ⟨oi, e, c, dd⟩ := id st'
    refine ⟨key, rfl, go_of (s := { s with heap := h' }) e c dd (by decide) ⟨niV k, H, I1, niV_of hkey, ⟨rfl, k, hk, rfl⟩, ?_, fun b hb => (hf b hb).1⟩⟩
    show h'.IsKeyIter it d (i + 1) ks.length _
    rw [hl]
    exact st'
  done := by
    intro X hP hw hK hc i pins s σ H E I hf st hg
    subst hP hw hK
    obtain ⟨hd, hi⟩ := hg
    obtain ⟨f0, f1, f2, f3, f4, f5⟩ := hf it (by simp)
    obtain ⟨hs, hgd, hx, es', ep', hdt, hsz, hm⟩ := frzN I hd
    obtain ⟨rfl, rfl⟩ := dict_ep2 hod hdt
    exact next_key_end (I.ok.hd hc) st hgd hdt hsz hi fun h' eb => ⟨rfl, I.turned (t' := s.toks) (fun b ob hb e => eb b ob hb e) f0 f1 f3 f4 f5⟩
  self := fun A i s Q E st h => wpAny_pyIter_keyiter st h
def iKeysN (P : Program) (w : World) (td : TE) : TI := fun σ H R => td σ H fun x H1 => ∃ (d : Addr) (o : Obj) (ks : List (Option Int)), x = .ref d ∧ H1 d = some (.frz o (dN P w d ks)) ∧ R (Itn P w d o ks) H1
theorem pi_keysN {X : Cx} {tg e : Expr} {td : TE} (he : PE X e td) : PI X tg e (iKeysN X.prog X.w td) := by
  refine ⟨fun pins s σ H R I h => ?_⟩
  refine thn (he.run pins s σ H _ I h) fun u s1 ⟨x, H1, I1, rx, d, o, ks, ex, hd, q⟩ => ?_
  subst ex
  obtain rfl : u = Value.ref d := rx
  obtain ⟨hs, hgd, hx, es, ep, hdt, hsz, hm⟩ := frzN I1 hd
  refine iter_keys hs hgd hx hdt (pi_one (tk := s1.toks) I1 _ (turn_n _ hdt) ⟨_, Heap.get?_push_size _ rfl, rfl, ?_⟩ q)
  rw [hsz] <;> rfl
/-- the reading of a comprehension over such a dict -/
theorem lc_n {P : Program} {w : World} {d : Addr} {o : Obj} {ks : List (Option Int)} {g : TG} {tt : TT} {te : TE} {vs : List Nat} {σ : L2.St} {H1 : Hp} {D : Addr} {Qd : Hp → Prop} (Pv : Nat → Hp → Prop) (h0 : Pv 0 (upd H1 D (.lst [])))
    (hl : ∀ i H, i ≤ ks.length → Pv i H → H d = some (.frz o (dN P w d ks)))
    (hs : ∀ i k H, ks[i]? = some k → Pv i H → g (niV k) (wipe σ vs) H fun σ2 H2 => wipe σ2 vs = wipe σ vs ∧ tt σ2 H2 fun b H3 => if b = true then te σ2 H3 fun y H4 => ∃ acc, H4 D = some (.lst acc) ∧ acc.length < sizeLine ∧ Pv (i + 1) (upd H4 D (.lst (acc ++ [y]))) else Pv (i + 1) H3)
    (hd : ∀ H, Pv ks.length H → Qd H) :
    ∃ W : Nat → Nat → Hp → Prop, (∃ m, W 0 m (upd H1 D (.lst []))) ∧ ∀ i m H, W i m H → ((Itn P w d o ks).stop i H ∧ Qd H) ∨ ((Itn P w d o ks).go i H ∧ ∃ Nx : Hp → Prop, (∀ H', Nx H' → ∃ m', m' < m ∧ W (i + 1) m' H') ∧
      ∀ x H', (Itn P w d o ks).yld i H x H' → g x (wipe σ vs) H' fun σ2 H2 => wipe σ2 vs = wipe σ vs ∧ tt σ2 H2 fun b H3 => if b = true then te σ2 H3 fun y H4 => ∃ acc, H4 D = some (.lst acc) ∧ acc.length < sizeLine ∧ Nx (upd H4 D (.lst (acc ++ [y]))) else Nx H3) := by
  refine ⟨fun i m H => m + i = ks.length ∧ Pv i H, ⟨ks.length, by omega, h0⟩, fun i m H ⟨hm, p⟩ => ?_⟩
  have q := hl i H (by omega) p
  by_cases hi : i < ks.length
  · refine .inr ⟨⟨q, hi⟩, fun H' => Pv (i + 1) H', fun H' p' => ⟨m - 1, by omega, by omega, p'⟩, ?_⟩
    rintro x H' ⟨rfl, k, hk, rfl⟩
    exact hs i k _ hk p
  · have e : i = ks.length := by omega
    subst e
    exact .inl ⟨⟨q, Nat.le_refl _⟩, hd H p⟩
/-! ### a list that is not empty -/
def rNeNil (K : PySem.W.Frag) : R2 := fun x y H Q => ∃ (a b : Addr) (xs : List V), x = .ref a ∧ y = .ref b ∧ SqL K H a xs ∧ SqL K H b [] ∧ Q (.bl (!xs.isEmpty)) H
theorem op_neNil {X : Cx} (hu : X.A.units < cLine) : OpR X (compareOp .NotEq) (rNeNil X.K) := by
  intro pins s σ H x y v u Q I rx ry h
  obtain ⟨a, b, xs, ex, ey, h1, h2, q⟩ := h
  subst ex ey
  obtain rfl : v = Value.ref a := rx
  obtain rfl : u = Value.ref b := ry
  obtain ⟨i1, r1, p1, _⟩ := I.list h1
  obtain ⟨i2, r2, p2, _⟩ := I.list h2
  cases r2
  have fin : EP X pins σ Q (.bool (!xs.isEmpty)) s := ⟨.bl _, H, I, rfl, q⟩
  cases r1 with
  | nil => exact SeqAt.RcNeAt.lists p1.isList p2.isList rfl hu (e := fun _ => true) (fun j j1 => absurd j1 (by simp)) _ _ _ _ fin
  | cons r t => exact SeqAt.RcNeAt.lists_lengths p1.isList p2.isList (by simp) hu _ _ _ _ fin
end Wk
set_option maxHeartbeats 4000000
namespace Wk
open PySem PySem.Spec PyProof.Rows L2
/-! ### a dict whose keys are pairs (an int, a tuple of ints), its values lists -/
structure Ent where
  m : Int
  left : List Int
  q : Addr
  l : Addr
def ky (m : Int) (left : List Int) : NestedKey := .tup [.num m, .tup (left.map NestedKey.num)]
theorem nums_inj : ∀ {a b : List Int}, a.map NestedKey.num = b.map NestedKey.num → a = b
  | [], [], _ => rfl
  | [], _ :: _, h => by simp at h
  | _ :: _, [], h => by simp at h
  | x :: a, y :: b, h => by
    rw [List.map_cons, List.map_cons] at h
    injection h with h1 h2
    injection h1 with h1
    rw [h1, nums_inj h2]
theorem ky_inj {m m' : Int} {l l' : List Int} (h : ky m l = ky m' l') : m = m' ∧ l = l' := by
  injection h with h
  injection h with h1 h2
  injection h1 with h1
  injection h2 with h2 _
  injection h2 with h2
  exact ⟨h1, nums_inj h2⟩
/-- the pair (m, left) stands at q -/
def KeyAt (H : Hp) (q : Addr) (m : Int) (left : List Int) : Prop := ∃ t, H q = some (.tup [.int m, .ref t]) ∧ H t = some (.tup (left.map V.int))
theorem KeyAt.same {H H' : Hp} {q : Addr} {m : Int} {left : List Int} (k : KeyAt H q m left) (h : ∀ b xs, H b = some (.tup xs) → H' b = some (.tup xs)) : KeyAt H' q m left :=
  let ⟨t, a, b⟩ := k
  ⟨t, h _ _ a, h _ _ b⟩
theorem nums_at {h : Heap} : ∀ {ns : List Int} {us : List Value}, Vals (ns.map V.int) us → NestedAll h (ns.map NestedKey.num) us
  | [], _, r => by cases r; exact .nil
  | n :: ns, _, r => by
    cases r with
    | cons a b =>
      obtain ⟨t, rfl⟩ := a
      exact .cons (.int n t) (nums_at b)
theorem tup_at {P : Program} {w : World} {H : Hp} {h : Heap} {a : Addr} {xs : List V} (ok : HOk P w H h) (e : H a = some (.tup xs)) : ∃ (o : Obj) (vs : Array Value) (n : Nat), h.get? a = some o ∧ o.cls = .type "tuple" ∧ o.data = .seq vs n ∧ Vals xs vs.toList := by
  obtain ⟨_, its, r, o, h1, h2, n, h3⟩ := (show ObjOk P w H h a (.tup xs) from ok a _ e)
  exact ⟨o, its.toArray, n, h1, h2, h3, by simpa using r⟩
theorem key_is {P : Program} {w : World} {H : Hp} {h : Heap} {q : Addr} {m : Int} {left : List Int} (ok : HOk P w H h) (k : KeyAt H q m left) : (nestedKind P w).is h (ky m left) q := by
  obtain ⟨t, e1, e2⟩ := k
  obtain ⟨o, vs, n, a1, a2, a3, r⟩ := tup_at ok e1
  obtain ⟨o', vs', n', b1, b2, b3, r'⟩ := tup_at ok e2
  refine ⟨.tup a1 a2 a3 ?_, ?_⟩
  · generalize vs.toList = us at r
    cases r with
    | cons r1 r2 =>
      cases r2 with
      | cons r3 r4 =>
        cases r4
        obtain ⟨tk, rfl⟩ := r1
        obtain rfl := r3
        exact .cons (.int m tk) (.cons (.tup b1 b2 b3 (nums_at r')) .nil)
  · have d0 : ∀ l : List Int, NestedKey.depthAll (l.map NestedKey.num) = 0 := by
      intro l
      induction l with
      | nil => rfl
      | cons a r ih => show max 0 (NestedKey.depthAll (r.map NestedKey.num)) = 0; rw [ih]; rfl
    show NestedKey.depthAll [.num m, .tup (left.map NestedKey.num)] + 1 ≤ 8
    show max 0 (max (NestedKey.depthAll (left.map NestedKey.num) + 1) 0) + 1 ≤ 8
    rw [d0]
    decide
def entH (es : List Ent) : List (NestedKey × Addr × Value) := es.map fun e => (ky e.m e.left, e.q, Value.ref e.l)
def dH (P : Program) (w : World) (a : Addr) (es : List Ent) : HO := .ext fun h => es.length ≤ sizeLine ∧ (a == sysModules) = false ∧ ((entH es).map (·.1)).Nodup ∧
  ∃ o ds ep, h.get? a = some o ∧ o.ExactDict ∧ o.data = .dict ds ep ∧ ds.toList = (entH es).map (entryOfKey (nestedKind P w))
def Keys (H : Hp) (es : List Ent) : Prop := ∀ e ∈ es, KeyAt H e.q e.m e.left
def hasH (es : List Ent) (m : Int) (left : List Int) : Bool := es.any fun e => decide (e.m = m) && decide (e.left = left)
section
variable {P : Program} {w : World} {H : Hp} {h : Heap} {a : Addr} {es : List Ent}
theorem dH_ok (z : es.length ≤ sizeLine) (hs : (a == sysModules) = false) (n : ((entH es).map (·.1)).Nodup) {o : Obj} {ds : Array DictEntry} {ep : Nat} (ho : h.get? a = some o) (hx : o.ExactDict) (hd : o.data = .dict ds ep) (he : ds.toList = (entH es).map (entryOfKey (nestedKind P w))) : ObjOk P w H h a (dH P w a es) :=
  ⟨⟨z, hs, n, o, ds, ep, ho, hx, hd, he⟩, ⟨o, ho⟩, fun h1 h2 ⟨z, hs, n, o, ds, ep, ho, r⟩ k => ⟨z, hs, n, o, ds, ep, k _ ho, r⟩⟩
theorem dH_at (ok : HOk P w H h) (e : H a = some (dH P w a es)) (ks : Keys H es) : es.length ≤ sizeLine ∧ (a == sysModules) = false ∧ h.DictOfH (nestedKind P w) a (entH es) := by
  have x : ObjOk P w H h a (.ext fun h => es.length ≤ sizeLine ∧ (a == sysModules) = false ∧ ((entH es).map (·.1)).Nodup ∧ ∃ o ds ep, h.get? a = some o ∧ o.ExactDict ∧ o.data = .dict ds ep ∧ ds.toList = (entH es).map (entryOfKey (nestedKind P w))) := ok a _ e
  obtain ⟨z, hs, n, o, ds, ep, ho, hx, hd, he⟩ := x.1
  refine ⟨z, hs, o, ds, ep, ho, hx, hd, he, fun y hy => ?_, n⟩
  obtain ⟨e', he', rfl⟩ := List.mem_map.mp hy
  exact key_is ok (ks e' he')
theorem dH_nodup (ok : HOk P w H h) (e : H a = some (dH P w a es)) : (es.map fun e => (e.m, e.left)).Nodup := by
  have x : ObjOk P w H h a (.ext fun h => es.length ≤ sizeLine ∧ (a == sysModules) = false ∧ ((entH es).map (·.1)).Nodup ∧ ∃ o ds ep, h.get? a = some o ∧ o.ExactDict ∧ o.data = .dict ds ep ∧ ds.toList = (entH es).map (entryOfKey (nestedKind P w))) := ok a _ e
  obtain ⟨z, hs, n, _⟩ := x.1
  unfold entH at n
  rw [List.map_map] at n
  exact List.pairwise_map.mpr ((List.pairwise_map.mp n).imp fun {x y} h e => h (by
    have e1 : x.m = y.m := congrArg Prod.fst e
    have e2 : x.left = y.left := congrArg Prod.snd e
    show ky x.m x.left = ky y.m y.left
    rw [e1, e2]))
theorem atKey_has (es : List Ent) (m : Int) (left : List Int) : (atKey (entH es) (ky m left)).isSome = hasH es m left := by
  unfold atKey
  rw [Option.isSome_map]
  induction es with
  | nil => rfl
  | cons e r ih =>
    have ih' : ((r.map fun e => (ky e.m e.left, e.q, Value.ref e.l)).find? fun x => decide (x.1 = ky m left)).isSome = hasH r m left := ih
    show (((ky e.m e.left, e.q, Value.ref e.l) :: r.map fun e => (ky e.m e.left, e.q, Value.ref e.l)).find? fun x => decide (x.1 = ky m left)).isSome = ((decide (e.m = m) && decide (e.left = left)) || hasH r m left)
    rw [List.find?_cons]
    by_cases c : ky e.m e.left = ky m left
    · obtain ⟨c1, c2⟩ := ky_inj c
      simp [c1, c2]
    · have c' : (decide (e.m = m) && decide (e.left = left)) = false := by
        cases q : (decide (e.m = m) && decide (e.left = left)) with
        | false => rfl
        | true =>
          rw [Bool.and_eq_true, decide_eq_true_eq, decide_eq_true_eq] at q
          exact absurd (by rw [q.1, q.2]) c
      rw [c', Bool.false_or]
      simp only [c, decide_false]
      exact ih'
theorem atKey_mem {es : List Ent} {e : Ent} (n : (es.map fun e => (e.m, e.left)).Nodup) (he : e ∈ es) : atKey (entH es) (ky e.m e.left) = some (e.q, Value.ref e.l) := by
  unfold atKey
  induction es with
  | nil => cases he
  | cons a r ih =>
    have n' : ((a.m, a.left) :: r.map fun e => (e.m, e.left)).Nodup := n
    obtain ⟨n1, n2⟩ := List.nodup_cons.mp n'
    show (((ky a.m a.left, a.q, Value.ref a.l) :: r.map fun e => (ky e.m e.left, e.q, Value.ref e.l)).find? fun x => decide (x.1 = ky e.m e.left)).map (·.2) = some (e.q, Value.ref e.l)
    rw [List.find?_cons]
    rcases List.mem_cons.mp he with q | q
    · subst q
      simp
    · have c : ¬ ky a.m a.left = ky e.m e.left := fun z => by
        obtain ⟨z1, z2⟩ := ky_inj z
        exact n1 (List.mem_map.mpr ⟨e, q, by rw [z1, z2]⟩)
      simp only [c, decide_false]
      exact ih n2 q
end
section
variable {X : Cx} {pos pos' tpos apos cpos : Pos} {o i e value : Expr} {td ty tv : TE}
theorem room_h {A : Around} (hu : A.units + 64 < cLine) (P : Program) (w : World) : (nestedKind P w).room A.in1 := by
  show A.in1.units + 8 < cLine
  rw [Around.in1_units]
  omega
def tNewH (P : Program) (w : World) : TE := fun _ H Q => ∀ p, H p = none → Q (.ref p) (upd H p (dH P w p []))
theorem pe_newH : PE X (.Dict [] [] pos) (tNewH X.prog X.w) := ⟨fun pins s σ H Q I h =>
  wpAny_Dict_empty ⟨.ref s.heap.objs.size, _, I.laid (a := s.heap.objs.size) (o := dH X.prog X.w s.heap.objs.size []) (t' := s.toks) (fun _ _ q => Heap.get?_push_of_some _ q) (Nat.le_refl _)
    (dH_ok (Nat.zero_le _) (beq_eq_false_iff_ne.mpr (Ne.symm (Nat.ne_of_lt I.big))) List.nodup_nil (Heap.get?_push_size _ rfl) ⟨rfl, rfl, rfl⟩ rfl rfl), rfl, h _ (I.hok.fresh (Nat.le_refl _))⟩⟩
def tNotInH (P : Program) (w : World) (ty td : TE) : TE := fun σ H Q => ty σ H fun y H1 => td σ H1 fun x H2 => ∃ (a q : Addr) (es : List Ent) (m : Int) (left : List Int), x = .ref a ∧ H2 a = some (dH P w a es) ∧ Keys H2 es ∧ y = .ref q ∧ KeyAt H2 q m left ∧ Q (.bl (!hasH es m left)) H2
theorem pc_notInH (hu : X.A.units + 64 < cLine) (hi : PE X i ty) (ho : PE X o td) : PC X .NotIn i o (tNotInH X.prog X.w ty td) := by
  refine ⟨fun pins s σ H Q I h => ?_⟩
  refine thn (hi.run pins s σ H _ I h) fun iv s1 ⟨y, H1, I1, ry, q1⟩ => thn (ho.run pins s1 σ H1 _ I1 q1) fun u s2 ⟨x, H2, I2, rx, a, q, es, m, left, ex, ea, ks, ey, k, q2⟩ => ?_
  subst ex ey
  obtain rfl : u = Value.ref a := rx
  obtain rfl : iv = Value.ref q := ry
  obtain ⟨z, hd, dd⟩ := dH_at I2.hok ea ks
  refine wpAny_notIn_heap (room_h hu _ _) (key_is I2.hok k) hd dd ?_
  rw [atKey_has]
  exact ⟨.bl _, H2, I2.tok _, rfl, q2⟩
def tGetH (P : Program) (w : World) (td ty : TE) : TE := fun σ H Q => td σ H fun x H1 => ty σ H1 fun y H2 => ∃ (a q : Addr) (es : List Ent) (e : Ent), x = .ref a ∧ H2 a = some (dH P w a es) ∧ Keys H2 es ∧ y = .ref q ∧ e ∈ es ∧ KeyAt H2 q e.m e.left ∧ Q (.ref e.l) H2
theorem pe_getH (hu : X.A.units + 64 < cLine) (ho : PE X o td) (hi : PE X i ty) (hs : NoSl i) : PE X (.Subscript o i pos) (tGetH X.prog X.w td ty) := by
  refine ⟨fun pins s σ H Q I h => ?_⟩
  refine subD_of PySem.F.slot_dict_getitem.lookup hs (thn (ho.run pins s σ H _ I h) fun u s1 ⟨x, H1, I1, rx, q1⟩ => thn (hi.run pins s1 σ H1 _ I1 q1) fun iv s2 ⟨y, H2, I2, ry, a, q, es, e, ex, ea, ks, ey, he, k, q2⟩ => ?_)
  subst ex ey
  obtain rfl : u = Value.ref a := rx
  obtain rfl : iv = Value.ref q := ry
  obtain ⟨z, hd, dd⟩ := dH_at I2.hok ea ks
  obtain ⟨ob, _, _, h1, h2, _⟩ := id dd
  exact ⟨⟨ob, h1, h2.1⟩, wpAny_getItem_heap (room_h hu _ _) (key_is I2.hok k) dd (atKey_mem (dH_nodup I2.hok ea) he) ⟨.ref e.l, H2, I2.tok _, rfl, q2⟩⟩
/-- d[key] = v, the key new -/
def sPutH (P : Program) (w : World) (td ty tv : TE) : TS := fun D σ H => tv σ H fun v H1 => td σ H1 fun x H2 => ty σ H2 fun y H3 => ∃ (a q l : Addr) (es : List Ent) (m : Int) (left : List Int), v = .ref l ∧ x = .ref a ∧ H3 a = some (dH P w a es) ∧ Keys H3 es ∧ y = .ref q ∧ KeyAt H3 q m left ∧
  hasH es m left = false ∧ es.length < sizeLine ∧ D.nx σ (upd H3 a (dH P w a (es ++ [⟨m, left, q, l⟩])))
theorem ps_putH (hu : X.A.units + 64 < cLine) (ho : PE X o td) (hi : PE X i ty) (hv : PE X value tv) (hs : swapsWith value (some (.Subscript o i pos')) pos.line X.env = pure false := by rfl) : PS X (.Assign [.Subscript o i pos'] value pos) (sPutH X.prog X.w td ty tv) := by
  refine ⟨fun pins s σ H D I h => ?_⟩
  refine wpAny_Assign_Subscript (thn (hv.run pins s σ H _ I h) fun r s1 ⟨v, H1, I1, rv, q1⟩ => thn (ho.run pins s1 σ H1 _ I1 q1) fun u s2 ⟨x, H2, I2, rx, q2⟩ => thn (hi.run pins s2 σ H2 _ I2 q2) fun iv s3 ⟨y, H3, I3, ry, a, q, l, es, m, left, ev, ex, ea, ks, ey, k, nh, hl, q3⟩ => ?_) hs
  subst ev ex ey
  obtain rfl : r = Value.ref l := rv
  obtain rfl : u = Value.ref a := rx
  obtain rfl : iv = Value.ref q := ry
  obtain ⟨z, hd, dd⟩ := dH_at I3.hok ea ks
  have hn : atKey (entH es) (ky m left) = none := by
    have e := atKey_has es m left
    rw [nh] at e
    cases q : atKey (entH es) (ky m left) with
    | none => rfl
    | some p => rw [q] at e; cases e
  refine wpAny_setItem_heap (hsz := by unfold entH; rw [List.length_map]; exact z) (room_h hu _ _) (key_is I3.hok k) dd fun h' dd' sb => ?_
  rw [storedH_new hn] at dd'
  have ee : entH es ++ [(ky m left, q, Value.ref l)] = entH (es ++ [⟨m, left, q, l⟩]) := by unfold entH; rw [List.map_append]; rfl
  rw [ee] at dd'
  obtain ⟨ob, ds, ep, h1, h2, h3, h4, h5, h6⟩ := dd'
  exact ⟨σ, _, d_write I3 (by rw [ea]; exact True.intro) sb ⟨ob, h1⟩ (dH_ok (by rw [List.length_append]; show es.length + 1 ≤ _; omega) hd h6 h1 h2 h3 h4), q3⟩
end
end Wk
set_option maxHeartbeats 4000000
/-! set(xs) of a list of ints: which ints are in it, as what sorted asks of a set (a list's turn of the layer's set of a tuple). -/
namespace Wk
open PySem PySem.Spec PyProof.Rows L2
abbrev fset (w : World) : Obj := { cls := .type "set", dict := none, data := .set #[] 0 (.fresh 0 0 (!w.params.followText "set-order")) }
section
variable {P : Program} {w : World} {A : Around} {E : Value → Shared → Prop}
set_option maxHeartbeats 8000000 in
theorem call_set_lst {hp : Heap} {g : Array GenState} {d : Drawn} {t : Nat} {os : OsState} {l : Addr} {items : Array Value} (ns : List Int) {Q : Value → Shared → Prop} (hh : A.handled = none) (hl : hp.IsList l items) (hit : IntsAre items.toList ns) (hb : ns.length + 1 < scanBound)
    (h : ∀ (h' : Heap) (tk c : Nat), SetR w h' hp.objs.size (fun j => decide (j ∈ ns)) c → c ≤ ns.length → (∀ b o, hp.get? b = some o → h'.get? b = some o) → Q (.ref hp.objs.size) ⟨h', g, d, tk, os⟩) :
    wpAny (model P w) A (call (.type "set") [.ref l]) Q E ⟨hp, g, d, t, os⟩ := by
  have hisz : items.size = ns.length := by
    have q := IntsAre.length hit
    rwa [Array.length_toList] at q
  have hS : (hp.push (fset w)).get? hp.objs.size = some (fset w) := Heap.get?_push_size _ rfl
  have hT : Shared.TypeIs ⟨hp.push (fset w), g, d, t, os⟩ (.ref hp.objs.size) "set" := ⟨_, hS, rfl⟩
  have hSz : (hp.push (fset w)).objs.size = hp.objs.size + 1 := Heap.size_push ..
  obtain ⟨c, tl, hmro⟩ := F.called_set.mro
  have m1 := F.called_set.made
  have m2 := F.called_set.sub
  have m3 := F.called_set.notType
  have m4 := F.called_set.canCreate
  have m5 := F.typeCall_set_1 (.ref l)
  refine wpAny_call (codeAny_of_tree ?_)
  show wpAny _ _ (callAny (.type "set") _) _ _ _
  refine wpAny_pure ⟨Code.quiet_builtin _ (by decide +kernel), codeAny_builtin F.entry_type_call ?_⟩
  rw [Around.under_plain (weight_type_call_type "set" [.ref l] []) rfl]
  repeat (any_goals (first | assumption | wp_step))
  refine codeAny_mono (code_set_led1 (s := ⟨hp, g, d, t, os⟩) (.ref l) (E := E) (Q₁ := fun obj s1 => obj = .ref hp.objs.size ∧ s1 = ⟨hp.push (fset w), g, d, t, os⟩) ⟨rfl, rfl⟩) fun r s1 hr => ?_
  cases r with
  | error e => exact hr
  | ok fl =>
    cases fl with
    | next => exact hr.elim
    | brk => exact hr.elim
    | cont => exact hr.elim
    | ret obj =>
      obtain ⟨rfl, rfl⟩ := hr
      have m6 := F.called_set.init.lookup
      have m7 := F.called_set.init.bind (.ref hp.objs.size)
      repeat (any_goals (first | assumption | wp_step))
      refine codeAny_mono (codeAny_call_builtin (R := wants (fun r s2 => r = .none ∧ ∃ h' tk c, s2 = ⟨h', g, d, tk, os⟩ ∧ SetR w h' hp.objs.size (fun j => decide (j ∈ ns)) c ∧ c ≤ ns.length ∧
          (∀ b o, hp.get? b = some o → h'.get? b = some o)) E) F.called_set.init.plain F.entry_set_init (check_set_init_1 hT ?_)) fun r2 s2 hr2 => ?_
      · obtain ⟨⟨ocls, odict, odata, oslots⟩, hol, hcl, nl, hdl⟩ := hl
        simp only at hcl hdl
        subst hcl hdl
        have hol' : (hp.push (fset w)).get? l = some { cls := .type "list", dict := odict, data := .seq items nl, slots := oslots } := Heap.get?_push_of_some _ hol
        have n1 := F.sub_list_set
        have n2 := F.sub_list_frozenset
        have n3 : (Value.type "list" == Value.type "dict") = false := by decide
        have hl1 : (hp.push (fset w)).IsList l items := ⟨_, hol', rfl, nl, rfl⟩
        unfold Builtin.«set.__init__» noKeywords Builtin.Frozenset.updateFrom
        generalize hPI : pyIter = PI
        wp_walk
        subst hPI
        refine wpAny_pyIter_list hl1 (wpAny_bind (wpAny_runValue ?_))
        have hlS : l < hp.objs.size := Heap.lt_size hol
        have hh3 : A.in1.in1.in1.handled = none := by simp [hh]
        have ne1 : l ≠ (hp.push (fset w)).objs.size := by rw [hSz]; exact Nat.ne_of_lt (Nat.lt_succ_of_lt hlS)
        have ne2 : hp.objs.size ∉ [(hp.push (fset w)).objs.size, l] := by
          rw [hSz]
          intro z
          rcases List.mem_cons.mp z with z | z
          · exact absurd z (Nat.ne_of_lt (Nat.lt_succ_self _))
          · exact absurd (List.mem_singleton.mp z) (Nat.ne_of_gt hlS)
        have hval : ∀ (i : Nat) (v : Value), items[i]? = some v → ∃ k t, ns[i]? = some k ∧ v = .int k t := fun i v hv => by
          have hi : i < ns.length := by rw [← hisz]; exact (Array.getElem?_eq_some_iff.mp hv).1
          obtain ⟨t, e⟩ := IntsAre.int_at hit i v (by rw [Array.getElem?_toList]; exact hv)
          refine ⟨ns[i], t, List.getElem?_eq_getElem hi, ?_⟩
          rw [e, List.getD_eq_getElem?_getD, List.getElem?_eq_getElem hi] <;> rfl
        refine set_update_ints ((Walks.list hh3 _ l ne1 items).toS) hp.objs.size ne2 ns hisz hb hval (items.size - 0) 0 _ (by omega) (Nat.zero_le _) ⟨⟨_, Heap.get?_push_size _ rfl, rfl, rfl⟩, hl1.push _⟩
          ⟨0, Nat.le_refl 0, setR_new_at (Heap.get?_push_of_some _ hS)⟩ fun s' c' hm hc' hS' => ?_
        obtain ⟨h', g2, d2, tk', os2⟩ := s'
        obtain rfl : g2 = g := hm.gens
        obtain rfl : d2 = d := hm.drawn
        obtain rfl : os2 = os := hm.os
        show wpAny _ _ _ _ _ _
        refine wpAny_pure ?_
        show wpAny _ _ (ret Value.none) _ _ _
        refine wpAny_pure ⟨rfl, h', tk', c', rfl, hS', by rw [← hisz]; exact hc', fun b o e => ?_⟩
        have hb0 : b < hp.objs.size := Heap.lt_size e
        refine hm.heap b o ?_ (Heap.get?_push_of_some _ (Heap.get?_push_of_some _ e))
        show b ∉ [hp.objs.size, (hp.push (fset w)).objs.size]
        rw [hSz]
        intro z
        rcases List.mem_cons.mp z with z | z
        · exact absurd z (Nat.ne_of_lt hb0)
        · exact absurd (List.mem_singleton.mp z) (Nat.ne_of_lt (Nat.lt_succ_of_lt hb0))
      · cases r2 with
        | error e => exact hr2
        | ok fl2 =>
          cases fl2 with
          | next => exact hr2.elim
          | brk => exact hr2.elim
          | cont => exact hr2.elim
          | ret r =>
            obtain ⟨rfl, h', tk, c', rfl, hS', hc', hk'⟩ := hr2
            repeat (any_goals (first | assumption | wp_step))
            exact h _ _ _ hS' hc' hk'
end
theorem ints_vals : ∀ {ns : List Int} {us : List Value}, Vals (ns.map V.int) us → IntsAre us ns
  | [], _, r => by cases r; exact .nil
  | n :: ns, _, r => by
    cases r with
    | cons a b =>
      obtain ⟨t, rfl⟩ := a
      exact IntsAre.cons _ t (ints_vals b)
/-- set(xs) -/
theorem call_setL {X : Cx} (hc : X.calm = true) : CallR X (.type "set") (fun xs H Q => ∃ (a : Addr) (ns : List Int), xs = [.ref a] ∧ SqL X.K H a (ns.map V.int) ∧ ns.length < 60 ∧ ∀ p c, H p = none → c ≤ ns.length → Q (.ref p) (upd H p (SetO X.w p (fun j => decide (j ∈ ns)) c))) := by
  intro pins s σ H xs us Q I r h
  obtain ⟨a, ns, rfl, hq, hz, q⟩ := h
  rw [Vals.ref1 r]
  obtain ⟨its, rv, pl, _⟩ := I.list hq
  have hn : H s.heap.objs.size = none := I.hok.fresh (Nat.le_refl _)
  obtain ⟨hp, g, d, t, os⟩ := s
  refine call_set_lst ns (I.ok.hd hc) pl.isList (by simpa using ints_vals rv) (by unfold scanBound; omega) fun h' tk c hS hc' k => ?_
  exact ⟨.ref _, _, I.laid (t' := tk) k (Nat.le_refl _) (setO_new hS), rfl, q _ c hn hc'⟩
end Wk
set_option maxHeartbeats 2000000
namespace Wk
open PySem PySem.Spec PyProof.Rows L2
section
variable {K : PySem.W.Frag} {mg : Str → Option Value}
theorem Tx.k_MOST_STATEMENTS (T : Tx K mg) : ∃ u, mg "MOST_STATEMENTS" = some u ∧ RelV (.int (100)) u := let ⟨t, e⟩ := T.g_MOST_STATEMENTS; ⟨_, e, ⟨t, rfl⟩⟩
theorem Tx.k_MOST_WITHIN (T : Tx K mg) : ∃ u, mg "MOST_WITHIN" = some u ∧ RelV (.int (9)) u := let ⟨t, e⟩ := T.g_MOST_WITHIN; ⟨_, e, ⟨t, rfl⟩⟩
theorem Tx.k_BY_CONDITIONS (T : Tx K mg) : ∃ u, mg "BY_CONDITIONS" = some u ∧ RelV (.int (0)) u := let ⟨t, e⟩ := T.g_BY_CONDITIONS; ⟨_, e, ⟨t, rfl⟩⟩
theorem Tx.k_BY_BRANCHES (T : Tx K mg) : ∃ u, mg "BY_BRANCHES" = some u ∧ RelV (.int (1)) u := let ⟨t, e⟩ := T.g_BY_BRANCHES; ⟨_, e, ⟨t, rfl⟩⟩
theorem Tx.k_REMARK (T : Tx K mg) : ∃ u, mg "REMARK" = some u ∧ RelV (.int (35)) u := let ⟨t, e⟩ := T.g_REMARK; ⟨_, e, ⟨t, rfl⟩⟩
theorem Tx.k_LINE_END (T : Tx K mg) : ∃ u, mg "LINE_END" = some u ∧ RelV (.int (10)) u := let ⟨t, e⟩ := T.g_LINE_END; ⟨_, e, ⟨t, rfl⟩⟩
theorem Tx.k_LONGEST_NAME (T : Tx K mg) : ∃ u, mg "LONGEST_NAME" = some u ∧ RelV (.int (16)) u := let ⟨t, e⟩ := T.g_LONGEST_NAME; ⟨_, e, ⟨t, rfl⟩⟩
theorem Tx.k_MOST_NUMBER (T : Tx K mg) : ∃ u, mg "MOST_NUMBER" = some u ∧ RelV (.int (1000000000)) u := let ⟨t, e⟩ := T.g_MOST_NUMBER; ⟨_, e, ⟨t, rfl⟩⟩
theorem Tx.k_NO_TOKEN (T : Tx K mg) : ∃ u, mg "NO_TOKEN" = some u ∧ RelV (.int (2)) u := let ⟨t, e⟩ := T.g_NO_TOKEN; ⟨_, e, ⟨t, rfl⟩⟩
theorem Tx.k_LONG_TEXT (T : Tx K mg) : ∃ u, mg "LONG_TEXT" = some u ∧ RelV (.int (1)) u := let ⟨t, e⟩ := T.g_LONG_TEXT; ⟨_, e, ⟨t, rfl⟩⟩
theorem Tx.k_MISPLACED (T : Tx K mg) : ∃ u, mg "MISPLACED" = some u ∧ RelV (.int (3)) u := let ⟨t, e⟩ := T.g_MISPLACED; ⟨_, e, ⟨t, rfl⟩⟩
theorem Tx.k_TOO_MANY (T : Tx K mg) : ∃ u, mg "TOO_MANY" = some u ∧ RelV (.int (4)) u := let ⟨t, e⟩ := T.g_TOO_MANY; ⟨_, e, ⟨t, rfl⟩⟩
theorem Tx.k_TAKEN (T : Tx K mg) : ∃ u, mg "TAKEN" = some u ∧ RelV (.int (5)) u := let ⟨t, e⟩ := T.g_TAKEN; ⟨_, e, ⟨t, rfl⟩⟩
theorem Tx.k_TWICE (T : Tx K mg) : ∃ u, mg "TWICE" = some u ∧ RelV (.int (6)) u := let ⟨t, e⟩ := T.g_TWICE; ⟨_, e, ⟨t, rfl⟩⟩
theorem Tx.k_NO_SIZE (T : Tx K mg) : ∃ u, mg "NO_SIZE" = some u ∧ RelV (.int (7)) u := let ⟨t, e⟩ := T.g_NO_SIZE; ⟨_, e, ⟨t, rfl⟩⟩
theorem Tx.k_NO_SUCH (T : Tx K mg) : ∃ u, mg "NO_SUCH" = some u ∧ RelV (.int (8)) u := let ⟨t, e⟩ := T.g_NO_SUCH; ⟨_, e, ⟨t, rfl⟩⟩
theorem Tx.k_NO_PART_reading (T : Tx K mg) : ∃ u, mg "NO_PART_reading" = some u ∧ RelV (.int (9)) u := let ⟨t, e⟩ := T.g_NO_PART_reading; ⟨_, e, ⟨t, rfl⟩⟩
theorem Tx.k_MOST_BYTES (T : Tx K mg) : ∃ u, mg "MOST_BYTES" = some u ∧ RelV (.int (4096)) u := let ⟨t, e⟩ := T.g_MOST_BYTES; ⟨_, e, ⟨t, rfl⟩⟩
theorem Tx.k_MOST_SETTINGS (T : Tx K mg) : ∃ u, mg "MOST_SETTINGS" = some u ∧ RelV (.int (3)) u := let ⟨t, e⟩ := T.g_MOST_SETTINGS; ⟨_, e, ⟨t, rfl⟩⟩
theorem Tx.k_MOST_WORDS (T : Tx K mg) : ∃ u, mg "MOST_WORDS" = some u ∧ RelV (.int (4)) u := let ⟨t, e⟩ := T.g_MOST_WORDS; ⟨_, e, ⟨t, rfl⟩⟩
theorem Tx.k_MOST_PARTS (T : Tx K mg) : ∃ u, mg "MOST_PARTS" = some u ∧ RelV (.int (10)) u := let ⟨t, e⟩ := T.g_MOST_PARTS; ⟨_, e, ⟨t, rfl⟩⟩
theorem Tx.k_MOST_ENTRIES (T : Tx K mg) : ∃ u, mg "MOST_ENTRIES" = some u ∧ RelV (.int (4)) u := let ⟨t, e⟩ := T.g_MOST_ENTRIES; ⟨_, e, ⟨t, rfl⟩⟩
theorem Tx.k_MOST_PIECES (T : Tx K mg) : ∃ u, mg "MOST_PIECES" = some u ∧ RelV (.int (3)) u := let ⟨t, e⟩ := T.g_MOST_PIECES; ⟨_, e, ⟨t, rfl⟩⟩
theorem Tx.k_MOST_WHENS (T : Tx K mg) : ∃ u, mg "MOST_WHENS" = some u ∧ RelV (.int (3)) u := let ⟨t, e⟩ := T.g_MOST_WHENS; ⟨_, e, ⟨t, rfl⟩⟩
theorem Tx.k_GREATEST_SIZE (T : Tx K mg) : ∃ u, mg "GREATEST_SIZE" = some u ∧ RelV (.int (99)) u := let ⟨t, e⟩ := T.g_GREATEST_SIZE; ⟨_, e, ⟨t, rfl⟩⟩
theorem Tx.k_NO_PROGRAM (T : Tx K mg) : ∃ u, mg "NO_PROGRAM" = some u ∧ RelV (.int (-1)) u := let ⟨t, e⟩ := T.g_NO_PROGRAM; ⟨_, e, ⟨t, rfl⟩⟩
theorem Tx.k_NO_MODE (T : Tx K mg) : ∃ u, mg "NO_MODE" = some u ∧ RelV (.int (-2)) u := let ⟨t, e⟩ := T.g_NO_MODE; ⟨_, e, ⟨t, rfl⟩⟩
theorem Tx.k_NO_PART_parts (T : Tx K mg) : ∃ u, mg "NO_PART_parts" = some u ∧ RelV (.int (-4)) u := let ⟨t, e⟩ := T.g_NO_PART_parts; ⟨_, e, ⟨t, rfl⟩⟩
theorem Tx.k_TWO_MODES (T : Tx K mg) : ∃ u, mg "TWO_MODES" = some u ∧ RelV (.int (2)) u := let ⟨t, e⟩ := T.g_TWO_MODES; ⟨_, e, ⟨t, rfl⟩⟩
theorem Tx.k_ALL_MODES (T : Tx K mg) : ∃ u, mg "ALL_MODES" = some u ∧ RelV (.int (3)) u := let ⟨t, e⟩ := T.g_ALL_MODES; ⟨_, e, ⟨t, rfl⟩⟩
theorem Tx.k_SAY (T : Tx K mg) : ∃ u, mg "SAY" = some u ∧ RelV (.str "say") u := let ⟨t, e⟩ := T.g_SAY; ⟨_, e, ⟨t, rfl⟩⟩
theorem Tx.k_CALL (T : Tx K mg) : ∃ u, mg "CALL" = some u ∧ RelV (.str "call") u := let ⟨t, e⟩ := T.g_CALL; ⟨_, e, ⟨t, rfl⟩⟩
theorem Tx.k_MAKE (T : Tx K mg) : ∃ u, mg "MAKE" = some u ∧ RelV (.str "make") u := let ⟨t, e⟩ := T.g_MAKE; ⟨_, e, ⟨t, rfl⟩⟩
theorem Tx.k_WHEN (T : Tx K mg) : ∃ u, mg "WHEN" = some u ∧ RelV (.str "when") u := let ⟨t, e⟩ := T.g_WHEN; ⟨_, e, ⟨t, rfl⟩⟩
theorem Tx.k_NAME (T : Tx K mg) : ∃ u, mg "NAME" = some u ∧ RelV (.str "name") u := let ⟨t, e⟩ := T.g_NAME; ⟨_, e, ⟨t, rfl⟩⟩
theorem Tx.k_WORD (T : Tx K mg) : ∃ u, mg "WORD" = some u ∧ RelV (.str "word") u := let ⟨t, e⟩ := T.g_WORD; ⟨_, e, ⟨t, rfl⟩⟩
theorem Tx.k_NUMBER (T : Tx K mg) : ∃ u, mg "NUMBER" = some u ∧ RelV (.str "number") u := let ⟨t, e⟩ := T.g_NUMBER; ⟨_, e, ⟨t, rfl⟩⟩
theorem Tx.k_SIGN (T : Tx K mg) : ∃ u, mg "SIGN" = some u ∧ RelV (.str "sign") u := let ⟨t, e⟩ := T.g_SIGN; ⟨_, e, ⟨t, rfl⟩⟩
theorem Tx.k_END (T : Tx K mg) : ∃ u, mg "END" = some u ∧ RelV (.str "end") u := let ⟨t, e⟩ := T.g_END; ⟨_, e, ⟨t, rfl⟩⟩
theorem Tx.k_LETTERS (T : Tx K mg) : ∃ u, mg "LETTERS" = some u ∧ RelV (.str "abcdefghijklmnopqrstuvwxyzABCDEFGHIJKLMNOPQRSTUVWXYZ") u := let ⟨t, e⟩ := T.g_LETTERS; ⟨_, e, ⟨t, rfl⟩⟩
theorem Tx.k_DIGITS (T : Tx K mg) : ∃ u, mg "DIGITS" = some u ∧ RelV (.str "0123456789") u := let ⟨t, e⟩ := T.g_DIGITS; ⟨_, e, ⟨t, rfl⟩⟩
theorem Tx.k_SIGNS (T : Tx K mg) : ∃ u, mg "SIGNS" = some u ∧ RelV (.str "+,:;{}") u := let ⟨t, e⟩ := T.g_SIGNS; ⟨_, e, ⟨t, rfl⟩⟩
theorem Tx.k_UNKNOWN (T : Tx K mg) : ∃ u, mg "UNKNOWN" = some u ∧ RelV (.str "?") u := let ⟨t, e⟩ := T.g_UNKNOWN; ⟨_, e, ⟨t, rfl⟩⟩
theorem Tx.k_WORDS (T : Tx K mg) : ∃ u, mg "WORDS" = some u ∧ RelV (.ref (He.ga K "WORDS")) u := ⟨_, T.g_WORDS, rfl⟩
theorem Tx.k_BLANKS (T : Tx K mg) : ∃ u, mg "BLANKS" = some u ∧ RelV (.ref (He.ga K "BLANKS")) u := ⟨_, T.g_BLANKS, rfl⟩
theorem Tx.k_FORMS (T : Tx K mg) : ∃ u, mg "FORMS" = some u ∧ RelV (.ref (He.ga K "FORMS")) u := ⟨_, T.g_FORMS, rfl⟩
end
/-! ### promises by the number of arguments -/
def Sp1 (f : V → Hp → VK → XK → Prop) : Sp := fun vs H Q E => ∃ a, vs = [a] ∧ f a H Q E
def Sp2 (f : V → V → Hp → VK → XK → Prop) : Sp := fun vs H Q E => ∃ a b, vs = [a, b] ∧ f a b H Q E
def Sp3 (f : V → V → V → Hp → VK → XK → Prop) : Sp := fun vs H Q E => ∃ a b c, vs = [a, b, c] ∧ f a b c H Q E
def Sp4 (f : V → V → V → V → Hp → VK → XK → Prop) : Sp := fun vs H Q E => ∃ a b c d, vs = [a, b, c, d] ∧ f a b c d H Q E
section
variable {vs : List V} {H : Hp} {Q : VK} {E : XK} {x1 x2 x3 x4 : Str}
theorem Sp1.len {f} (h : Sp1 f vs H Q E) : vs.length = [x1].length := by
  obtain ⟨a, rfl, _⟩ := h
  rfl
theorem Sp2.len {f} (h : Sp2 f vs H Q E) : vs.length = [x1, x2].length := by
  obtain ⟨a, b, rfl, _⟩ := h
  rfl
theorem Sp3.len {f} (h : Sp3 f vs H Q E) : vs.length = [x1, x2, x3].length := by
  obtain ⟨a, b, c, rfl, _⟩ := h
  rfl
theorem Sp4.len {f} (h : Sp4 f vs H Q E) : vs.length = [x1, x2, x3, x4].length := by
  obtain ⟨a, b, c, d, rfl, _⟩ := h
  rfl
end
/-- the def at a keeps sp -/
def FK (P : Program) (w : World) (K : PySem.W.Frag) (mg : Str → Option Value) (base : Heap) (CX : CXT) (k : Nat) (a : Addr) (ps : List Str) (sp : Sp) : Prop :=
  ∃ fd, FnOk P w K mg base CX k a fd ps sp ∧ Binds K fd ps [] ∧ PySem.W.keepIn K (.ref a) = true
theorem passR {P : Program} {w : World} {K : PySem.W.Frag} {mg : Str → Option Value} {base : Heap} {N : List Str} {qual : Str} {scope : Scope} {f : Addr} {cd : Value} {A : Around} {outer : List Env} {s : Shared} {H : Hp} {E : XK} :
    Passes (L2.CX P w) (cxOf (L2.CX P w) P w K mg base N qual scope f cd A outer s H E) E := passes_call (W := fun cls d _ H => E cls d H) (takes_of rfl rfl rfl rfl) fun _ _ _ _ h => h
theorem hu1_of {A : Around} {k : Nat} (hr : Room k A) : A.units < cLine := Nat.lt_of_succ_lt (hu_of hr)
/-- o.m(e, ..) within a try: what it raises is wished for at the slots as they stand -/
def tMethS (C : Addr) (m : Str) (sp : Sp) (E : L2.St → XK) (ta : TE) (t : TA) : TE := fun σ H Q => ta σ H fun x H1 => ∃ a dx fs, x = .ref a ∧ H1 a = some (.ins C dx fs) ∧ fs.lookup m = none ∧ t σ H1 fun vs H2 => sp (x :: vs) H2 Q (E σ)
theorem pe_methS {X : Cx} {CX : CXT} {k : Nat} {f C : Addr} {fd : FuncData} {ps : List Str} {sp : Sp} {E : L2.St → XK} {m : Str} {pos apos : Pos} {e o : Expr} {es : List Expr} {ta : TE} {t : TA} {pl : Sem Bool} (he : PE X o ta) (c : Cls X.K C) (hm : Meth X.K C m f)
    (F : FnOk X.prog X.w X.K X.mg X.base CX k f fd ps sp) (hr : Room k X.A) (hb : Binds X.K fd ps []) (hx : ∀ σ, PassesAt CX X σ (E σ)) (ha : PA X (e :: es) t)
    (hst : starEach (e :: es) X.env = (false, eval e X.env) :: starEach es X.env := by rfl) (hpl : (backTo pos (starEach es X.env)).any (·.1) = false := by rfl)
    (ht : eval (.Call (.Attribute o m apos) (e :: es) [] pos) X.env = (do
      let ov ← eval o X.env
      standAt apos.atName
      let (f, first) ← holding [ov] (getMethod ov m pl)
      callWith pos f first (backTo pos (starEach (e :: es) X.env)) (backToKw pos (keywordEach [] X.env))) := by rfl) :
    PE X (.Call (.Attribute o m apos) (e :: es) [] pos) (tMethS C m sp E ta t) := by
  refine ⟨fun pins s σ H Q I h => ?_⟩
  refine PySem.W.methodCall_KW (pl := pl) (thn (he.run pins s σ H _ I h) fun u s1 ⟨x, H1, I1, rx, a, dx, fs, ex, ea, l, q⟩ => ?_) ht
  subst ex
  obtain rfl : u = Value.ref a := rx
  refine getmeth_ok I1 ea c hm l ?_
  refine PySem.W.callWith_K (first := [.ref a]) (h₀ := X.base) I.ok.mod.kin hm.kp (thn (ha.run pos pins s1 σ H1 _ I1 q) fun us s2 ⟨vs, H2, I2, r, q2⟩ => ⟨I2.kIn, ?_⟩) hst hpl
  exact run_fnS (us := .ref a :: us) (vs := .ref a :: vs) F hr hb (hx σ) I2 (.cons rfl r) q2
/-- len of a list, of a tuple -/
def rLenK (K : PySem.W.Frag) : List V → Hp → VK → Prop := fun xs H Q => ∃ p ys, xs = [.ref p] ∧ (SqL K H p ys ∨ SqT K H p ys) ∧ Q (.int ys.length) H
theorem call_lenK {X : Cx} : CallR X (.builtin "len") (rLenK X.K) := call_len_seq
/-! ### fields -/
theorem lk_here {k : Str} {v : V} {r : List (Str × V)} : List.lookup k ((k, v) :: r) = some v := by
  have e : (k == k) = true := beq_self_eq_true k
  simp only [List.lookup, e]
theorem lk_past {k g : Str} {v : V} {r : List (Str × V)} (h : (k == g) = false) : List.lookup k ((g, v) :: r) = List.lookup k r := by
  simp only [List.lookup, h]
theorem put_here {f : Str} {v x : V} {r : List (Str × V)} : putF f v ((f, x) :: r) = (f, v) :: r := if_pos rfl
theorem put_past {f g : Str} {v x : V} {r : List (Str × V)} (h : ¬ g = f) : putF f v ((g, x) :: r) = (g, x) :: putF f v r := if_neg h
def F_Part (v0 v1 v2 : V) : List (Str × V) := [("name", v0), ("size", v1), ("statements", v2)]
theorem l_Part_name {v0 v1 v2 : V} : List.lookup ("name" : Str) (F_Part v0 v1 v2) = some v0 := lk_here
theorem p_Part_name {v0 v1 v2 y : V} : putF "name" y (F_Part v0 v1 v2) = F_Part y v1 v2 := put_here
theorem l_Part_size {v0 v1 v2 : V} : List.lookup ("size" : Str) (F_Part v0 v1 v2) = some v1 := (lk_past (by decide +kernel)).trans (lk_here)
theorem p_Part_size {v0 v1 v2 y : V} : putF "size" y (F_Part v0 v1 v2) = F_Part v0 y v2 := (put_past (by decide +kernel)).trans (congrArg _ (put_here))
theorem l_Part_statements {v0 v1 v2 : V} : List.lookup ("statements" : Str) (F_Part v0 v1 v2) = some v2 := (lk_past (by decide +kernel)).trans ((lk_past (by decide +kernel)).trans (lk_here))
theorem p_Part_statements {v0 v1 v2 y : V} : putF "statements" y (F_Part v0 v1 v2) = F_Part v0 v1 y := (put_past (by decide +kernel)).trans (congrArg _ ((put_past (by decide +kernel)).trans (congrArg _ (put_here))))
theorem i_Part {v0 v1 v2 : V} : putF "statements" v2 (putF "size" v1 (putF "name" v0 [])) = F_Part v0 v1 v2 := by
  unfold F_Part
  simp (decide := true) [putF]
def F_Program (v0 v1 v2 : V) : List (Str × V) := [("settings", v0), ("parts", v1), ("entries", v2)]
theorem l_Program_settings {v0 v1 v2 : V} : List.lookup ("settings" : Str) (F_Program v0 v1 v2) = some v0 := lk_here
theorem p_Program_settings {v0 v1 v2 y : V} : putF "settings" y (F_Program v0 v1 v2) = F_Program y v1 v2 := put_here
theorem l_Program_parts {v0 v1 v2 : V} : List.lookup ("parts" : Str) (F_Program v0 v1 v2) = some v1 := (lk_past (by decide +kernel)).trans (lk_here)
theorem p_Program_parts {v0 v1 v2 y : V} : putF "parts" y (F_Program v0 v1 v2) = F_Program v0 y v2 := (put_past (by decide +kernel)).trans (congrArg _ (put_here))
theorem l_Program_entries {v0 v1 v2 : V} : List.lookup ("entries" : Str) (F_Program v0 v1 v2) = some v2 := (lk_past (by decide +kernel)).trans ((lk_past (by decide +kernel)).trans (lk_here))
theorem p_Program_entries {v0 v1 v2 y : V} : putF "entries" y (F_Program v0 v1 v2) = F_Program v0 v1 y := (put_past (by decide +kernel)).trans (congrArg _ ((put_past (by decide +kernel)).trans (congrArg _ (put_here))))
theorem n_Program_setting_names {v0 v1 v2 : V} : List.lookup ("setting_names" : Str) (F_Program v0 v1 v2) = none := (lk_past (by decide +kernel)).trans ((lk_past (by decide +kernel)).trans ((lk_past (by decide +kernel)).trans (rfl)))
theorem n_Program_part_names {v0 v1 v2 : V} : List.lookup ("part_names" : Str) (F_Program v0 v1 v2) = none := (lk_past (by decide +kernel)).trans ((lk_past (by decide +kernel)).trans ((lk_past (by decide +kernel)).trans (rfl)))
theorem n_Program_number_of {v0 v1 v2 : V} : List.lookup ("number_of" : Str) (F_Program v0 v1 v2) = none := (lk_past (by decide +kernel)).trans ((lk_past (by decide +kernel)).trans ((lk_past (by decide +kernel)).trans (rfl)))
theorem n_Program_how_many_assignments {v0 v1 v2 : V} : List.lookup ("how_many_assignments" : Str) (F_Program v0 v1 v2) = none := (lk_past (by decide +kernel)).trans ((lk_past (by decide +kernel)).trans ((lk_past (by decide +kernel)).trans (rfl)))
theorem n_Program_assignment {v0 v1 v2 : V} : List.lookup ("assignment" : Str) (F_Program v0 v1 v2) = none := (lk_past (by decide +kernel)).trans ((lk_past (by decide +kernel)).trans ((lk_past (by decide +kernel)).trans (rfl)))
theorem n_Program_piece_word {v0 v1 v2 : V} : List.lookup ("piece_word" : Str) (F_Program v0 v1 v2) = none := (lk_past (by decide +kernel)).trans ((lk_past (by decide +kernel)).trans ((lk_past (by decide +kernel)).trans (rfl)))
theorem n_Program_meant {v0 v1 v2 : V} : List.lookup ("meant" : Str) (F_Program v0 v1 v2) = none := (lk_past (by decide +kernel)).trans ((lk_past (by decide +kernel)).trans ((lk_past (by decide +kernel)).trans (rfl)))
theorem i_Program {v0 v1 v2 : V} : putF "entries" v2 (putF "parts" v1 (putF "settings" v0 [])) = F_Program v0 v1 v2 := by
  unfold F_Program
  simp (decide := true) [putF]
def F_Run (v0 v1 v2 v3 v4 v5 : V) : List (Str × V) := [("program", v0), ("chosen", v1), ("left", v2), ("open_ones", v3), ("entered", v4), ("is_going", v5)]
theorem l_Run_program {v0 v1 v2 v3 v4 v5 : V} : List.lookup ("program" : Str) (F_Run v0 v1 v2 v3 v4 v5) = some v0 := lk_here
theorem p_Run_program {v0 v1 v2 v3 v4 v5 y : V} : putF "program" y (F_Run v0 v1 v2 v3 v4 v5) = F_Run y v1 v2 v3 v4 v5 := put_here
theorem l_Run_chosen {v0 v1 v2 v3 v4 v5 : V} : List.lookup ("chosen" : Str) (F_Run v0 v1 v2 v3 v4 v5) = some v1 := (lk_past (by decide +kernel)).trans (lk_here)
theorem p_Run_chosen {v0 v1 v2 v3 v4 v5 y : V} : putF "chosen" y (F_Run v0 v1 v2 v3 v4 v5) = F_Run v0 y v2 v3 v4 v5 := (put_past (by decide +kernel)).trans (congrArg _ (put_here))
theorem l_Run_left {v0 v1 v2 v3 v4 v5 : V} : List.lookup ("left" : Str) (F_Run v0 v1 v2 v3 v4 v5) = some v2 := (lk_past (by decide +kernel)).trans ((lk_past (by decide +kernel)).trans (lk_here))
theorem p_Run_left {v0 v1 v2 v3 v4 v5 y : V} : putF "left" y (F_Run v0 v1 v2 v3 v4 v5) = F_Run v0 v1 y v3 v4 v5 := (put_past (by decide +kernel)).trans (congrArg _ ((put_past (by decide +kernel)).trans (congrArg _ (put_here))))
theorem l_Run_open_ones {v0 v1 v2 v3 v4 v5 : V} : List.lookup ("open_ones" : Str) (F_Run v0 v1 v2 v3 v4 v5) = some v3 := (lk_past (by decide +kernel)).trans ((lk_past (by decide +kernel)).trans ((lk_past (by decide +kernel)).trans (lk_here)))
theorem p_Run_open_ones {v0 v1 v2 v3 v4 v5 y : V} : putF "open_ones" y (F_Run v0 v1 v2 v3 v4 v5) = F_Run v0 v1 v2 y v4 v5 := (put_past (by decide +kernel)).trans (congrArg _ ((put_past (by decide +kernel)).trans (congrArg _ ((put_past (by decide +kernel)).trans (congrArg _ (put_here))))))
theorem l_Run_entered {v0 v1 v2 v3 v4 v5 : V} : List.lookup ("entered" : Str) (F_Run v0 v1 v2 v3 v4 v5) = some v4 := (lk_past (by decide +kernel)).trans ((lk_past (by decide +kernel)).trans ((lk_past (by decide +kernel)).trans ((lk_past (by decide +kernel)).trans (lk_here))))
theorem p_Run_entered {v0 v1 v2 v3 v4 v5 y : V} : putF "entered" y (F_Run v0 v1 v2 v3 v4 v5) = F_Run v0 v1 v2 v3 y v5 := (put_past (by decide +kernel)).trans (congrArg _ ((put_past (by decide +kernel)).trans (congrArg _ ((put_past (by decide +kernel)).trans (congrArg _ ((put_past (by decide +kernel)).trans (congrArg _ (put_here))))))))
theorem l_Run_is_going {v0 v1 v2 v3 v4 v5 : V} : List.lookup ("is_going" : Str) (F_Run v0 v1 v2 v3 v4 v5) = some v5 := (lk_past (by decide +kernel)).trans ((lk_past (by decide +kernel)).trans ((lk_past (by decide +kernel)).trans ((lk_past (by decide +kernel)).trans ((lk_past (by decide +kernel)).trans (lk_here)))))
theorem p_Run_is_going {v0 v1 v2 v3 v4 v5 y : V} : putF "is_going" y (F_Run v0 v1 v2 v3 v4 v5) = F_Run v0 v1 v2 v3 v4 y := (put_past (by decide +kernel)).trans (congrArg _ ((put_past (by decide +kernel)).trans (congrArg _ ((put_past (by decide +kernel)).trans (congrArg _ ((put_past (by decide +kernel)).trans (congrArg _ ((put_past (by decide +kernel)).trans (congrArg _ (put_here))))))))))
theorem n_Run_depth {v0 v1 v2 v3 v4 v5 : V} : List.lookup ("depth" : Str) (F_Run v0 v1 v2 v3 v4 v5) = none := (lk_past (by decide +kernel)).trans ((lk_past (by decide +kernel)).trans ((lk_past (by decide +kernel)).trans ((lk_past (by decide +kernel)).trans ((lk_past (by decide +kernel)).trans ((lk_past (by decide +kernel)).trans (rfl))))))
theorem n_Run_enter {v0 v1 v2 v3 v4 v5 : V} : List.lookup ("enter" : Str) (F_Run v0 v1 v2 v3 v4 v5) = none := (lk_past (by decide +kernel)).trans ((lk_past (by decide +kernel)).trans ((lk_past (by decide +kernel)).trans ((lk_past (by decide +kernel)).trans ((lk_past (by decide +kernel)).trans ((lk_past (by decide +kernel)).trans (rfl))))))
theorem n_Run_call {v0 v1 v2 v3 v4 v5 : V} : List.lookup ("call" : Str) (F_Run v0 v1 v2 v3 v4 v5) = none := (lk_past (by decide +kernel)).trans ((lk_past (by decide +kernel)).trans ((lk_past (by decide +kernel)).trans ((lk_past (by decide +kernel)).trans ((lk_past (by decide +kernel)).trans ((lk_past (by decide +kernel)).trans (rfl))))))
theorem n_Run_make {v0 v1 v2 v3 v4 v5 : V} : List.lookup ("make" : Str) (F_Run v0 v1 v2 v3 v4 v5) = none := (lk_past (by decide +kernel)).trans ((lk_past (by decide +kernel)).trans ((lk_past (by decide +kernel)).trans ((lk_past (by decide +kernel)).trans ((lk_past (by decide +kernel)).trans ((lk_past (by decide +kernel)).trans (rfl))))))
theorem n_Run_do_one {v0 v1 v2 v3 v4 v5 : V} : List.lookup ("do_one" : Str) (F_Run v0 v1 v2 v3 v4 v5) = none := (lk_past (by decide +kernel)).trans ((lk_past (by decide +kernel)).trans ((lk_past (by decide +kernel)).trans ((lk_past (by decide +kernel)).trans ((lk_past (by decide +kernel)).trans ((lk_past (by decide +kernel)).trans (rfl))))))
theorem n_Run_close {v0 v1 v2 v3 v4 v5 : V} : List.lookup ("close" : Str) (F_Run v0 v1 v2 v3 v4 v5) = none := (lk_past (by decide +kernel)).trans ((lk_past (by decide +kernel)).trans ((lk_past (by decide +kernel)).trans ((lk_past (by decide +kernel)).trans ((lk_past (by decide +kernel)).trans ((lk_past (by decide +kernel)).trans (rfl))))))
theorem n_Run_next_one {v0 v1 v2 v3 v4 v5 : V} : List.lookup ("next_one" : Str) (F_Run v0 v1 v2 v3 v4 v5) = none := (lk_past (by decide +kernel)).trans ((lk_past (by decide +kernel)).trans ((lk_past (by decide +kernel)).trans ((lk_past (by decide +kernel)).trans ((lk_past (by decide +kernel)).trans ((lk_past (by decide +kernel)).trans (rfl))))))
theorem n_Run_done {v0 v1 v2 v3 v4 v5 : V} : List.lookup ("done" : Str) (F_Run v0 v1 v2 v3 v4 v5) = none := (lk_past (by decide +kernel)).trans ((lk_past (by decide +kernel)).trans ((lk_past (by decide +kernel)).trans ((lk_past (by decide +kernel)).trans ((lk_past (by decide +kernel)).trans ((lk_past (by decide +kernel)).trans (rfl))))))
theorem i_Run {v0 v1 v2 v3 v4 v5 : V} : putF "is_going" v5 (putF "entered" v4 (putF "open_ones" v3 (putF "left" v2 (putF "chosen" v1 (putF "program" v0 []))))) = F_Run v0 v1 v2 v3 v4 v5 := by
  unfold F_Run
  simp (decide := true) [putF]
def F_Reached (v0 v1 v2 v3 : V) : List (Str × V) := [("program", v0), ("tables", v1), ("branches", v2), ("known", v3)]
theorem l_Reached_program {v0 v1 v2 v3 : V} : List.lookup ("program" : Str) (F_Reached v0 v1 v2 v3) = some v0 := lk_here
theorem p_Reached_program {v0 v1 v2 v3 y : V} : putF "program" y (F_Reached v0 v1 v2 v3) = F_Reached y v1 v2 v3 := put_here
theorem l_Reached_tables {v0 v1 v2 v3 : V} : List.lookup ("tables" : Str) (F_Reached v0 v1 v2 v3) = some v1 := (lk_past (by decide +kernel)).trans (lk_here)
theorem p_Reached_tables {v0 v1 v2 v3 y : V} : putF "tables" y (F_Reached v0 v1 v2 v3) = F_Reached v0 y v2 v3 := (put_past (by decide +kernel)).trans (congrArg _ (put_here))
theorem l_Reached_branches {v0 v1 v2 v3 : V} : List.lookup ("branches" : Str) (F_Reached v0 v1 v2 v3) = some v2 := (lk_past (by decide +kernel)).trans ((lk_past (by decide +kernel)).trans (lk_here))
theorem p_Reached_branches {v0 v1 v2 v3 y : V} : putF "branches" y (F_Reached v0 v1 v2 v3) = F_Reached v0 v1 y v3 := (put_past (by decide +kernel)).trans (congrArg _ ((put_past (by decide +kernel)).trans (congrArg _ (put_here))))
theorem l_Reached_known {v0 v1 v2 v3 : V} : List.lookup ("known" : Str) (F_Reached v0 v1 v2 v3) = some v3 := (lk_past (by decide +kernel)).trans ((lk_past (by decide +kernel)).trans ((lk_past (by decide +kernel)).trans (lk_here)))
theorem p_Reached_known {v0 v1 v2 v3 y : V} : putF "known" y (F_Reached v0 v1 v2 v3) = F_Reached v0 v1 v2 y := (put_past (by decide +kernel)).trans (congrArg _ ((put_past (by decide +kernel)).trans (congrArg _ ((put_past (by decide +kernel)).trans (congrArg _ (put_here))))))
theorem n_Reached_worked_out {v0 v1 v2 v3 : V} : List.lookup ("worked_out" : Str) (F_Reached v0 v1 v2 v3) = none := (lk_past (by decide +kernel)).trans ((lk_past (by decide +kernel)).trans ((lk_past (by decide +kernel)).trans ((lk_past (by decide +kernel)).trans (rfl))))
theorem n_Reached_come_to {v0 v1 v2 v3 : V} : List.lookup ("come_to" : Str) (F_Reached v0 v1 v2 v3) = none := (lk_past (by decide +kernel)).trans ((lk_past (by decide +kernel)).trans ((lk_past (by decide +kernel)).trans ((lk_past (by decide +kernel)).trans (rfl))))
theorem n_Reached_lost {v0 v1 v2 v3 : V} : List.lookup ("lost" : Str) (F_Reached v0 v1 v2 v3) = none := (lk_past (by decide +kernel)).trans ((lk_past (by decide +kernel)).trans ((lk_past (by decide +kernel)).trans ((lk_past (by decide +kernel)).trans (rfl))))
theorem n_Reached_size_of {v0 v1 v2 v3 : V} : List.lookup ("size_of" : Str) (F_Reached v0 v1 v2 v3) = none := (lk_past (by decide +kernel)).trans ((lk_past (by decide +kernel)).trans ((lk_past (by decide +kernel)).trans ((lk_past (by decide +kernel)).trans (rfl))))
theorem n_Reached_lost_size {v0 v1 v2 v3 : V} : List.lookup ("lost_size" : Str) (F_Reached v0 v1 v2 v3) = none := (lk_past (by decide +kernel)).trans ((lk_past (by decide +kernel)).trans ((lk_past (by decide +kernel)).trans ((lk_past (by decide +kernel)).trans (rfl))))
theorem n_Reached_chain {v0 v1 v2 v3 : V} : List.lookup ("chain" : Str) (F_Reached v0 v1 v2 v3) = none := (lk_past (by decide +kernel)).trans ((lk_past (by decide +kernel)).trans ((lk_past (by decide +kernel)).trans ((lk_past (by decide +kernel)).trans (rfl))))
theorem n_Reached_chain_around {v0 v1 v2 v3 : V} : List.lookup ("chain_around" : Str) (F_Reached v0 v1 v2 v3) = none := (lk_past (by decide +kernel)).trans ((lk_past (by decide +kernel)).trans ((lk_past (by decide +kernel)).trans ((lk_past (by decide +kernel)).trans (rfl))))
theorem n_Reached_hangs_on {v0 v1 v2 v3 : V} : List.lookup ("hangs_on" : Str) (F_Reached v0 v1 v2 v3) = none := (lk_past (by decide +kernel)).trans ((lk_past (by decide +kernel)).trans ((lk_past (by decide +kernel)).trans ((lk_past (by decide +kernel)).trans (rfl))))
theorem n_Reached_closest {v0 v1 v2 v3 : V} : List.lookup ("closest" : Str) (F_Reached v0 v1 v2 v3) = none := (lk_past (by decide +kernel)).trans ((lk_past (by decide +kernel)).trans ((lk_past (by decide +kernel)).trans ((lk_past (by decide +kernel)).trans (rfl))))
theorem i_Reached {v0 v1 v2 v3 : V} : putF "known" v3 (putF "branches" v2 (putF "tables" v1 (putF "program" v0 []))) = F_Reached v0 v1 v2 v3 := by
  unfold F_Reached
  simp (decide := true) [putF]
def F_Reader (v0 v1 v2 v3 v4 : V) : List (Str × V) := [("tokens", v0), ("at", v1), ("program", v2), ("called", v3), ("deep", v4)]
theorem l_Reader_tokens {v0 v1 v2 v3 v4 : V} : List.lookup ("tokens" : Str) (F_Reader v0 v1 v2 v3 v4) = some v0 := lk_here
theorem p_Reader_tokens {v0 v1 v2 v3 v4 y : V} : putF "tokens" y (F_Reader v0 v1 v2 v3 v4) = F_Reader y v1 v2 v3 v4 := put_here
theorem l_Reader_at {v0 v1 v2 v3 v4 : V} : List.lookup ("at" : Str) (F_Reader v0 v1 v2 v3 v4) = some v1 := (lk_past (by decide +kernel)).trans (lk_here)
theorem p_Reader_at {v0 v1 v2 v3 v4 y : V} : putF "at" y (F_Reader v0 v1 v2 v3 v4) = F_Reader v0 y v2 v3 v4 := (put_past (by decide +kernel)).trans (congrArg _ (put_here))
theorem l_Reader_program {v0 v1 v2 v3 v4 : V} : List.lookup ("program" : Str) (F_Reader v0 v1 v2 v3 v4) = some v2 := (lk_past (by decide +kernel)).trans ((lk_past (by decide +kernel)).trans (lk_here))
theorem p_Reader_program {v0 v1 v2 v3 v4 y : V} : putF "program" y (F_Reader v0 v1 v2 v3 v4) = F_Reader v0 v1 y v3 v4 := (put_past (by decide +kernel)).trans (congrArg _ ((put_past (by decide +kernel)).trans (congrArg _ (put_here))))
theorem l_Reader_called {v0 v1 v2 v3 v4 : V} : List.lookup ("called" : Str) (F_Reader v0 v1 v2 v3 v4) = some v3 := (lk_past (by decide +kernel)).trans ((lk_past (by decide +kernel)).trans ((lk_past (by decide +kernel)).trans (lk_here)))
theorem p_Reader_called {v0 v1 v2 v3 v4 y : V} : putF "called" y (F_Reader v0 v1 v2 v3 v4) = F_Reader v0 v1 v2 y v4 := (put_past (by decide +kernel)).trans (congrArg _ ((put_past (by decide +kernel)).trans (congrArg _ ((put_past (by decide +kernel)).trans (congrArg _ (put_here))))))
theorem l_Reader_deep {v0 v1 v2 v3 v4 : V} : List.lookup ("deep" : Str) (F_Reader v0 v1 v2 v3 v4) = some v4 := (lk_past (by decide +kernel)).trans ((lk_past (by decide +kernel)).trans ((lk_past (by decide +kernel)).trans ((lk_past (by decide +kernel)).trans (lk_here))))
theorem p_Reader_deep {v0 v1 v2 v3 v4 y : V} : putF "deep" y (F_Reader v0 v1 v2 v3 v4) = F_Reader v0 v1 v2 v3 y := (put_past (by decide +kernel)).trans (congrArg _ ((put_past (by decide +kernel)).trans (congrArg _ ((put_past (by decide +kernel)).trans (congrArg _ ((put_past (by decide +kernel)).trans (congrArg _ (put_here))))))))
theorem n_Reader_where {v0 v1 v2 v3 v4 : V} : List.lookup ("where" : Str) (F_Reader v0 v1 v2 v3 v4) = none := (lk_past (by decide +kernel)).trans ((lk_past (by decide +kernel)).trans ((lk_past (by decide +kernel)).trans ((lk_past (by decide +kernel)).trans ((lk_past (by decide +kernel)).trans (rfl)))))
theorem n_Reader_comes {v0 v1 v2 v3 v4 : V} : List.lookup ("comes" : Str) (F_Reader v0 v1 v2 v3 v4) = none := (lk_past (by decide +kernel)).trans ((lk_past (by decide +kernel)).trans ((lk_past (by decide +kernel)).trans ((lk_past (by decide +kernel)).trans ((lk_past (by decide +kernel)).trans (rfl)))))
theorem n_Reader_want {v0 v1 v2 v3 v4 : V} : List.lookup ("want" : Str) (F_Reader v0 v1 v2 v3 v4) = none := (lk_past (by decide +kernel)).trans ((lk_past (by decide +kernel)).trans ((lk_past (by decide +kernel)).trans ((lk_past (by decide +kernel)).trans ((lk_past (by decide +kernel)).trans (rfl)))))
theorem n_Reader_take {v0 v1 v2 v3 v4 : V} : List.lookup ("take" : Str) (F_Reader v0 v1 v2 v3 v4) = none := (lk_past (by decide +kernel)).trans ((lk_past (by decide +kernel)).trans ((lk_past (by decide +kernel)).trans ((lk_past (by decide +kernel)).trans ((lk_past (by decide +kernel)).trans (rfl)))))
theorem n_Reader_read {v0 v1 v2 v3 v4 : V} : List.lookup ("read" : Str) (F_Reader v0 v1 v2 v3 v4) = none := (lk_past (by decide +kernel)).trans ((lk_past (by decide +kernel)).trans ((lk_past (by decide +kernel)).trans ((lk_past (by decide +kernel)).trans ((lk_past (by decide +kernel)).trans (rfl)))))
theorem n_Reader_next_name {v0 v1 v2 v3 v4 : V} : List.lookup ("next_name" : Str) (F_Reader v0 v1 v2 v3 v4) = none := (lk_past (by decide +kernel)).trans ((lk_past (by decide +kernel)).trans ((lk_past (by decide +kernel)).trans ((lk_past (by decide +kernel)).trans ((lk_past (by decide +kernel)).trans (rfl)))))
theorem n_Reader_read_name {v0 v1 v2 v3 v4 : V} : List.lookup ("read_name" : Str) (F_Reader v0 v1 v2 v3 v4) = none := (lk_past (by decide +kernel)).trans ((lk_past (by decide +kernel)).trans ((lk_past (by decide +kernel)).trans ((lk_past (by decide +kernel)).trans ((lk_past (by decide +kernel)).trans (rfl)))))
theorem n_Reader_read_new_name {v0 v1 v2 v3 v4 : V} : List.lookup ("read_new_name" : Str) (F_Reader v0 v1 v2 v3 v4) = none := (lk_past (by decide +kernel)).trans ((lk_past (by decide +kernel)).trans ((lk_past (by decide +kernel)).trans ((lk_past (by decide +kernel)).trans ((lk_past (by decide +kernel)).trans (rfl)))))
theorem n_Reader_read_size {v0 v1 v2 v3 v4 : V} : List.lookup ("read_size" : Str) (F_Reader v0 v1 v2 v3 v4) = none := (lk_past (by decide +kernel)).trans ((lk_past (by decide +kernel)).trans ((lk_past (by decide +kernel)).trans ((lk_past (by decide +kernel)).trans ((lk_past (by decide +kernel)).trans (rfl)))))
theorem n_Reader_begin {v0 v1 v2 v3 v4 : V} : List.lookup ("begin" : Str) (F_Reader v0 v1 v2 v3 v4) = none := (lk_past (by decide +kernel)).trans ((lk_past (by decide +kernel)).trans ((lk_past (by decide +kernel)).trans ((lk_past (by decide +kernel)).trans ((lk_past (by decide +kernel)).trans (rfl)))))
theorem n_Reader_goes_on {v0 v1 v2 v3 v4 : V} : List.lookup ("goes_on" : Str) (F_Reader v0 v1 v2 v3 v4) = none := (lk_past (by decide +kernel)).trans ((lk_past (by decide +kernel)).trans ((lk_past (by decide +kernel)).trans ((lk_past (by decide +kernel)).trans ((lk_past (by decide +kernel)).trans (rfl)))))
theorem n_Reader_new_word {v0 v1 v2 v3 v4 : V} : List.lookup ("new_word" : Str) (F_Reader v0 v1 v2 v3 v4) = none := (lk_past (by decide +kernel)).trans ((lk_past (by decide +kernel)).trans ((lk_past (by decide +kernel)).trans ((lk_past (by decide +kernel)).trans ((lk_past (by decide +kernel)).trans (rfl)))))
theorem n_Reader_setting {v0 v1 v2 v3 v4 : V} : List.lookup ("setting" : Str) (F_Reader v0 v1 v2 v3 v4) = none := (lk_past (by decide +kernel)).trans ((lk_past (by decide +kernel)).trans ((lk_past (by decide +kernel)).trans ((lk_past (by decide +kernel)).trans ((lk_past (by decide +kernel)).trans (rfl)))))
theorem n_Reader_piece {v0 v1 v2 v3 v4 : V} : List.lookup ("piece" : Str) (F_Reader v0 v1 v2 v3 v4) = none := (lk_past (by decide +kernel)).trans ((lk_past (by decide +kernel)).trans ((lk_past (by decide +kernel)).trans ((lk_past (by decide +kernel)).trans ((lk_past (by decide +kernel)).trans (rfl)))))
theorem n_Reader_make {v0 v1 v2 v3 v4 : V} : List.lookup ("make" : Str) (F_Reader v0 v1 v2 v3 v4) = none := (lk_past (by decide +kernel)).trans ((lk_past (by decide +kernel)).trans ((lk_past (by decide +kernel)).trans ((lk_past (by decide +kernel)).trans ((lk_past (by decide +kernel)).trans (rfl)))))
theorem n_Reader_call {v0 v1 v2 v3 v4 : V} : List.lookup ("call" : Str) (F_Reader v0 v1 v2 v3 v4) = none := (lk_past (by decide +kernel)).trans ((lk_past (by decide +kernel)).trans ((lk_past (by decide +kernel)).trans ((lk_past (by decide +kernel)).trans ((lk_past (by decide +kernel)).trans (rfl)))))
theorem n_Reader_say {v0 v1 v2 v3 v4 : V} : List.lookup ("say" : Str) (F_Reader v0 v1 v2 v3 v4) = none := (lk_past (by decide +kernel)).trans ((lk_past (by decide +kernel)).trans ((lk_past (by decide +kernel)).trans ((lk_past (by decide +kernel)).trans ((lk_past (by decide +kernel)).trans (rfl)))))
theorem n_Reader_when {v0 v1 v2 v3 v4 : V} : List.lookup ("when" : Str) (F_Reader v0 v1 v2 v3 v4) = none := (lk_past (by decide +kernel)).trans ((lk_past (by decide +kernel)).trans ((lk_past (by decide +kernel)).trans ((lk_past (by decide +kernel)).trans ((lk_past (by decide +kernel)).trans (rfl)))))
theorem n_Reader_statement {v0 v1 v2 v3 v4 : V} : List.lookup ("statement" : Str) (F_Reader v0 v1 v2 v3 v4) = none := (lk_past (by decide +kernel)).trans ((lk_past (by decide +kernel)).trans ((lk_past (by decide +kernel)).trans ((lk_past (by decide +kernel)).trans ((lk_past (by decide +kernel)).trans (rfl)))))
theorem n_Reader_block {v0 v1 v2 v3 v4 : V} : List.lookup ("block" : Str) (F_Reader v0 v1 v2 v3 v4) = none := (lk_past (by decide +kernel)).trans ((lk_past (by decide +kernel)).trans ((lk_past (by decide +kernel)).trans ((lk_past (by decide +kernel)).trans ((lk_past (by decide +kernel)).trans (rfl)))))
theorem n_Reader_part {v0 v1 v2 v3 v4 : V} : List.lookup ("part" : Str) (F_Reader v0 v1 v2 v3 v4) = none := (lk_past (by decide +kernel)).trans ((lk_past (by decide +kernel)).trans ((lk_past (by decide +kernel)).trans ((lk_past (by decide +kernel)).trans ((lk_past (by decide +kernel)).trans (rfl)))))
theorem n_Reader_entry {v0 v1 v2 v3 v4 : V} : List.lookup ("entry" : Str) (F_Reader v0 v1 v2 v3 v4) = none := (lk_past (by decide +kernel)).trans ((lk_past (by decide +kernel)).trans ((lk_past (by decide +kernel)).trans ((lk_past (by decide +kernel)).trans ((lk_past (by decide +kernel)).trans (rfl)))))
theorem n_Reader_start {v0 v1 v2 v3 v4 : V} : List.lookup ("start" : Str) (F_Reader v0 v1 v2 v3 v4) = none := (lk_past (by decide +kernel)).trans ((lk_past (by decide +kernel)).trans ((lk_past (by decide +kernel)).trans ((lk_past (by decide +kernel)).trans ((lk_past (by decide +kernel)).trans (rfl)))))
theorem n_Reader_whole {v0 v1 v2 v3 v4 : V} : List.lookup ("whole" : Str) (F_Reader v0 v1 v2 v3 v4) = none := (lk_past (by decide +kernel)).trans ((lk_past (by decide +kernel)).trans ((lk_past (by decide +kernel)).trans ((lk_past (by decide +kernel)).trans ((lk_past (by decide +kernel)).trans (rfl)))))
theorem i_Reader {v0 v1 v2 v3 v4 : V} : putF "deep" v4 (putF "called" v3 (putF "program" v2 (putF "at" v1 (putF "tokens" v0 [])))) = F_Reader v0 v1 v2 v3 v4 := by
  unfold F_Reader
  simp (decide := true) [putF]
def F_Desk (v0 v1 : V) : List (Str × V) := [("program", v0), ("reached", v1)]
theorem l_Desk_program {v0 v1 : V} : List.lookup ("program" : Str) (F_Desk v0 v1) = some v0 := lk_here
theorem p_Desk_program {v0 v1 y : V} : putF "program" y (F_Desk v0 v1) = F_Desk y v1 := put_here
theorem l_Desk_reached {v0 v1 : V} : List.lookup ("reached" : Str) (F_Desk v0 v1) = some v1 := (lk_past (by decide +kernel)).trans (lk_here)
theorem p_Desk_reached {v0 v1 y : V} : putF "reached" y (F_Desk v0 v1) = F_Desk v0 y := (put_past (by decide +kernel)).trans (congrArg _ (put_here))
theorem n_Desk_load {v0 v1 : V} : List.lookup ("load" : Str) (F_Desk v0 v1) = none := (lk_past (by decide +kernel)).trans ((lk_past (by decide +kernel)).trans (rfl))
theorem n_Desk_want_mode {v0 v1 : V} : List.lookup ("want_mode" : Str) (F_Desk v0 v1) = none := (lk_past (by decide +kernel)).trans ((lk_past (by decide +kernel)).trans (rfl))
theorem n_Desk_want_parts {v0 v1 : V} : List.lookup ("want_parts" : Str) (F_Desk v0 v1) = none := (lk_past (by decide +kernel)).trans ((lk_past (by decide +kernel)).trans (rfl))
theorem n_Desk_shown {v0 v1 : V} : List.lookup ("shown" : Str) (F_Desk v0 v1) = none := (lk_past (by decide +kernel)).trans ((lk_past (by decide +kernel)).trans (rfl))
theorem n_Desk_chain {v0 v1 : V} : List.lookup ("chain" : Str) (F_Desk v0 v1) = none := (lk_past (by decide +kernel)).trans ((lk_past (by decide +kernel)).trans (rfl))
theorem n_Desk_lost {v0 v1 : V} : List.lookup ("lost" : Str) (F_Desk v0 v1) = none := (lk_past (by decide +kernel)).trans ((lk_past (by decide +kernel)).trans (rfl))
theorem n_Desk_tree {v0 v1 : V} : List.lookup ("tree" : Str) (F_Desk v0 v1) = none := (lk_past (by decide +kernel)).trans ((lk_past (by decide +kernel)).trans (rfl))
theorem n_Desk_shares {v0 v1 : V} : List.lookup ("shares" : Str) (F_Desk v0 v1) = none := (lk_past (by decide +kernel)).trans ((lk_past (by decide +kernel)).trans (rfl))
theorem n_Desk_around {v0 v1 : V} : List.lookup ("around" : Str) (F_Desk v0 v1) = none := (lk_past (by decide +kernel)).trans ((lk_past (by decide +kernel)).trans (rfl))
theorem n_Desk_both {v0 v1 : V} : List.lookup ("both" : Str) (F_Desk v0 v1) = none := (lk_past (by decide +kernel)).trans ((lk_past (by decide +kernel)).trans (rfl))
theorem n_Desk_heavy {v0 v1 : V} : List.lookup ("heavy" : Str) (F_Desk v0 v1) = none := (lk_past (by decide +kernel)).trans ((lk_past (by decide +kernel)).trans (rfl))
theorem n_Desk_asked {v0 v1 : V} : List.lookup ("asked" : Str) (F_Desk v0 v1) = none := (lk_past (by decide +kernel)).trans ((lk_past (by decide +kernel)).trans (rfl))
theorem n_Desk_answer {v0 v1 : V} : List.lookup ("answer" : Str) (F_Desk v0 v1) = none := (lk_past (by decide +kernel)).trans ((lk_past (by decide +kernel)).trans (rfl))
theorem i_Desk {v0 v1 : V} : putF "reached" v1 (putF "program" v0 []) = F_Desk v0 v1 := by
  unfold F_Desk
  simp (decide := true) [putF]
end Wk
set_option maxHeartbeats 2000000
/-! What stands in the heap: texts, settings, statements, parts, programs. -/
namespace Wk
open PySem PySem.Spec PyProof.Rows L2
abbrev Bytes := VakepBase.Bytes
/-- a text of bytes -/
def S (b : Bytes) : Str := ⟨(b.map fun c => c.toNat).toArray⟩
theorem S_list (b : Bytes) : (S b).cps.toList = b.map fun c => c.toNat := by simp [S]
theorem toNat_inj : ∀ {a b : Bytes}, (a.map fun c => c.toNat) = b.map (fun c => c.toNat) → a = b
  | [], [], _ => rfl
  | [], _ :: _, h => by simp at h
  | _ :: _, [], h => by simp at h
  | x :: a, y :: b, h => by
    rw [List.map_cons, List.map_cons] at h
    injection h with h1 h2
    rw [UInt8.toNat_inj.mp h1, toNat_inj h2]
theorem S_inj {a b : Bytes} (h : S a = S b) : a = b := by
  have e : (S a).cps.toList = (S b).cps.toList := by rw [h]
  rw [S_list, S_list] at e
  exact toNat_inj e
theorem S_length (b : Bytes) : (S b).length = b.length := by
  show (S b).cps.size = b.length
  simp [S]
theorem V_S_inj {a b : Bytes} (h : V.str (S a) = V.str (S b)) : a = b := S_inj (V.str.inj h)
theorem eqS (a b : Bytes) : decide (V.str (S a) = V.str (S b)) = (a == b) := by
  by_cases e : a = b
  · subst e
    simp
  · rw [decide_eq_false fun h => e (V_S_inj h)]
    exact (beq_eq_false_iff_ne.mpr e).symm
def strL (l : List Bytes) : List V := l.map fun b => .str (S b)
theorem strL_flat (l : List Bytes) : (strL l).all flatV = true := by
  unfold strL
  rw [List.all_map]
  exact List.all_eq_true.mpr fun _ _ => rfl
def natL (l : List Nat) : List V := l.map fun (n : Nat) => V.int (n : Int)
/-- the number of a part, or None -/
def optV : Option Nat → V
  | none => .non
  | some k => .int (k : Int)
section
variable (K : PySem.W.Frag)
abbrev cPart : Addr := He.ga K "Part"
abbrev cProgram : Addr := He.ga K "Program"
abbrev cRun : Addr := He.ga K "Run"
abbrev cReached : Addr := He.ga K "Reached"
abbrev cReader : Addr := He.ga K "Reader"
abbrev cDesk : Addr := He.ga K "Desk"
abbrev cFault : Addr := He.ga K "Fault"
abbrev cRefused : Addr := He.ga K "Refused"
end
/-- a setting -/
def SetV (H : Hp) (v : V) (s : Vakepa.Setting) : Prop := ∃ t l, v = .ref t ∧ H t = some (.tup [.str (S s.name), .ref l]) ∧ H l = some (.lst (strL s.values))
/-- a part's name -/
def NameV (K : PySem.W.Frag) (H : Hp) (v : V) (b : Bytes) : Prop := ∃ a dx z l, v = .ref a ∧ H a = some (.ins (cPart K) dx (F_Part (.str (S b)) z l))
/-- a program's settings | its parts' names -/
def SetsAt (K : PySem.W.Frag) (H : Hp) (p : Addr) (ss : List Vakepa.Setting) : Prop := ∃ dx ls y z vs, H p = some (.ins (cProgram K) dx (F_Program (.ref ls) y z)) ∧ H ls = some (.lst vs) ∧ Paired (SetV H) vs ss
def NamesAt (K : PySem.W.Frag) (H : Hp) (p : Addr) (nm : List Bytes) : Prop := ∃ dx x lp z vs, H p = some (.ins (cProgram K) dx (F_Program x (.ref lp) z)) ∧ H lp = some (.lst vs) ∧ Paired (NameV K H) vs nm
theorem Paired.at_ {α β : Type} {F : α → β → Prop} : ∀ {l : List α} {m : List β} {i : Nat} {x : α}, Paired F l m → l[i]? = some x → ∃ y, m[i]? = some y ∧ F x y
  | _, _, _, _, .nil, e => by simp at e
  | _, _, 0, _, .cons r _, e => by simp at e; subst e; exact ⟨_, rfl, r⟩
  | _, _, i + 1, x, .cons _ t, e => by
    obtain ⟨y, h1, h2⟩ := Paired.at_ (i := i) (x := x) t (by simpa using e)
    exact ⟨y, by simpa using h1, h2⟩
theorem Paired.at2 {α β : Type} {F : α → β → Prop} : ∀ {l : List α} {m : List β} {i : Nat} {y : β}, Paired F l m → m[i]? = some y → ∃ x, l[i]? = some x ∧ F x y
  | _, _, _, _, .nil, e => by simp at e
  | _, _, 0, _, .cons r _, e => by simp at e; subst e; exact ⟨_, rfl, r⟩
  | _, _, i + 1, x, .cons _ t, e => by
    obtain ⟨y, h1, h2⟩ := Paired.at2 (i := i) (y := x) t (by simpa using e)
    exact ⟨y, by simpa using h1, h2⟩
theorem take_more {α : Type} {l : List α} {i : Nat} {x : α} (h : l[i]? = some x) : l.take (i + 1) = l.take i ++ [x] := by
  rw [List.take_add_one, h]
  rfl
theorem SetV.same {H H' : Hp} (e : Same H H') {v : V} {s : Vakepa.Setting} (h : SetV H v s) : SetV H' v s :=
  let ⟨t, l, a, b, c⟩ := h
  ⟨t, l, a, e _ _ b, e _ _ c⟩
theorem NameV.same {K : PySem.W.Frag} {H H' : Hp} (e : Same H H') {v : V} {b : Bytes} (h : NameV K H v b) : NameV K H' v b :=
  let ⟨a, dx, z, l, x, y⟩ := h
  ⟨a, dx, z, l, x, e _ _ y⟩
theorem _root_.L2.Same.new {H : Hp} {p : Addr} {o : HO} (h : H p = none) : Same H (upd H p o) := fun a u e => by
  rw [upd_ne (ne_of_none e h)]
  exact e
/-- an object that H does not know may change -/
theorem _root_.L2.Same.mut {H H' : Hp} {p : Addr} {o : HO} (e : Same H H') (h : H p = none) : Same H (upd H' p o) := fun a u ha => by
  rw [upd_ne (ne_of_none ha h)]
  exact e a u ha
/-! ### comprehensions that change nothing -/
def picks (n : Nat) (ys : Nat → Option V) : List V := (List.range n).filterMap ys
theorem picks_more {n : Nat} {ys : Nat → Option V} : picks (n + 1) ys = picks n ys ++ (ys n).toList := by
  unfold picks
  rw [List.range_succ, List.filterMap_append]
  cases h : ys n <;> simp [h]
theorem picks_le (n : Nat) (ys : Nat → Option V) : (picks n ys).length ≤ n := by
  unfold picks
  exact Nat.le_trans (List.length_filterMap_le _ _) (by simp)
theorem picks_bind {α : Type} {f : α → Option V} : ∀ {l : List α} {n : Nat}, n = l.length → picks n (fun i => (l[i]?).bind f) = l.filterMap f
  | [], n, h => by subst h; rfl
  | a :: l, n, h => by
    subst h
    have ih := picks_bind (f := f) (l := l) rfl
    unfold picks at ih ⊢
    rw [List.length_cons, List.range_succ_eq_map, List.filterMap_cons, List.filterMap_map, List.filterMap_cons]
    have e : ((fun i => ((a :: l)[i]?).bind f) ∘ Nat.succ) = fun i => (l[i]?).bind f := by
      funext i
      simp
    rw [e, ih]
    rfl
theorem picks_at {α : Type} {f : α → V} {l : List α} {n : Nat} (h : n = l.length) : picks n (fun i => (l[i]?).map f) = l.map f := by
  have e : (fun i : Nat => (l[i]?).map f) = fun i => (l[i]?).bind fun x => some (f x) := by
    funext i
    cases l[i]? <;> rfl
  rw [e, picks_bind h]
  exact congrFun (List.filterMap_eq_map (f := f)) l
section
variable {K : PySem.W.Frag} {a : Addr} {xs : List V} {g : TG} {tt : TT} {te : TE} {vs : List Nat} {σ : L2.St} {H1 : Hp} {D : Addr} {Qd : Hp → Prop}
/-- one turn: the item x, from any heap that keeps H1 -/
def Turn1 (g : TG) (tt : TT) (te : TE) (vs : List Nat) (σ : L2.St) (x : V) (H : Hp) (y : Option V) : Prop := ∀ (Kt : V → Hp → Prop) (Kf : Hp → Prop), (∀ z H4, y = some z → Same H H4 → Kt z H4) → (∀ H3, y = none → Same H H3 → Kf H3) →
  g x (wipe σ vs) H fun σ2 H2 => wipe σ2 vs = wipe σ vs ∧ tt σ2 H2 fun b H3 => if b = true then te σ2 H3 Kt else Kf H3
theorem pure_step {H : Hp} {x : V} {ys : Nat → Option V} {i n : Nat} (hi : i < n) (hz : n < sizeLine) (e : Same H1 H) (eD : H D = some (.lst (picks i ys))) (hD : H1 D = none) (t : Turn1 g tt te vs σ x H (ys i)) :
    g x (wipe σ vs) H fun σ2 H2 => wipe σ2 vs = wipe σ vs ∧ tt σ2 H2 fun b H3 => if b = true then te σ2 H3 fun y H4 => ∃ acc, H4 D = some (.lst acc) ∧ acc.length < sizeLine ∧ (Same H1 (upd H4 D (.lst (acc ++ [y]))) ∧ (upd H4 D (.lst (acc ++ [y]))) D = some (.lst (picks (i + 1) ys))) else (Same H1 H3 ∧ H3 D = some (.lst (picks (i + 1) ys))) := by
  refine t _ _ (fun z H4 ey e4 => ⟨_, e4 _ _ eD, ?_, L2.Same.mut (e.trans e4) hD, ?_⟩) (fun H3 ey e3 => ⟨e.trans e3, ?_⟩)
  · have := picks_le i ys
    omega
  · rw [upd_same, picks_more, ey]
    rfl
  · rw [e3 _ _ eD, picks_more, ey]
    simp
theorem lc_pure (ys : Nat → Option V) (hq : SqL K H1 a xs) (hD : H1 D = none) (hz : xs.length < sizeLine) (hs : ∀ i x H, xs[i]? = some x → Same H1 H → Turn1 g tt te vs σ x H (ys i)) (hd : ∀ H, Same H1 H → H D = some (.lst (picks xs.length ys)) → Qd H) :
    ∃ W : Nat → Nat → Hp → Prop, (∃ m, W 0 m (upd H1 D (.lst []))) ∧ ∀ i m H, W i m H →
      ((Itl K a).stop i H ∧ Qd H) ∨ ((Itl K a).go i H ∧ ∃ Nx : Hp → Prop, (∀ H', Nx H' → ∃ m', m' < m ∧ W (i + 1) m' H') ∧ ∀ x H', (Itl K a).yld i H x H' → g x (wipe σ vs) H' fun σ2 H2 => wipe σ2 vs = wipe σ vs ∧ tt σ2 H2 fun b H3 =>
        if b = true then te σ2 H3 fun y H4 => ∃ acc, H4 D = some (.lst acc) ∧ acc.length < sizeLine ∧ Nx (upd H4 D (.lst (acc ++ [y]))) else Nx H3) :=
  lc_list (K := K) (a := a) (xs := xs) (fun i H => Same H1 H ∧ H D = some (.lst (picks i ys))) ⟨Same.new hD, upd_same⟩ (fun i H _ e => e.1.seq hq)
    (fun i x H hx e => pure_step (List.getElem?_eq_some_iff.mp hx).1 hz e.1 e.2 hD (hs i x H hx e.1)) fun H e => hd H e.1 e.2
theorem lc_pureT (ys : Nat → Option V) (hq : ∀ H, Same H1 H → SqT K H a xs) (hD : H1 D = none) (hz : xs.length < sizeLine) (hs : ∀ i x H, xs[i]? = some x → Same H1 H → Turn1 g tt te vs σ x H (ys i)) (hd : ∀ H, Same H1 H → H D = some (.lst (picks xs.length ys)) → Qd H) :
    ∃ W : Nat → Nat → Hp → Prop, (∃ m, W 0 m (upd H1 D (.lst []))) ∧ ∀ i m H, W i m H →
      ((Itt K a).stop i H ∧ Qd H) ∨ ((Itt K a).go i H ∧ ∃ Nx : Hp → Prop, (∀ H', Nx H' → ∃ m', m' < m ∧ W (i + 1) m' H') ∧ ∀ x H', (Itt K a).yld i H x H' → g x (wipe σ vs) H' fun σ2 H2 => wipe σ2 vs = wipe σ vs ∧ tt σ2 H2 fun b H3 =>
        if b = true then te σ2 H3 fun y H4 => ∃ acc, H4 D = some (.lst acc) ∧ acc.length < sizeLine ∧ Nx (upd H4 D (.lst (acc ++ [y]))) else Nx H3) :=
  lc_tup (K := K) (a := a) (xs := xs) (fun i H => Same H1 H ∧ H D = some (.lst (picks i ys))) ⟨Same.new hD, upd_same⟩ (fun i H _ e => hq H e.1)
    (fun i x H hx e => pure_step (List.getElem?_eq_some_iff.mp hx).1 hz e.1 e.2 hD (hs i x H hx e.1)) fun H e => hd H e.1 e.2
theorem lc_pureR {lo : Int} {n : Nat} (ys : Nat → Option V) (hD : H1 D = none) (hz : n < sizeLine) (hs : ∀ i H, i < n → Same H1 H → Turn1 g tt te vs σ (.int (lo + i)) H (ys i)) (hd : ∀ H, Same H1 H → H D = some (.lst (picks n ys)) → Qd H) :
    ∃ W : Nat → Nat → Hp → Prop, (∃ m, W 0 m (upd H1 D (.lst []))) ∧ ∀ i m H, W i m H →
      ((Itr lo n).stop i H ∧ Qd H) ∨ ((Itr lo n).go i H ∧ ∃ Nx : Hp → Prop, (∀ H', Nx H' → ∃ m', m' < m ∧ W (i + 1) m' H') ∧ ∀ x H', (Itr lo n).yld i H x H' → g x (wipe σ vs) H' fun σ2 H2 => wipe σ2 vs = wipe σ vs ∧ tt σ2 H2 fun b H3 =>
        if b = true then te σ2 H3 fun y H4 => ∃ acc, H4 D = some (.lst acc) ∧ acc.length < sizeLine ∧ Nx (upd H4 D (.lst (acc ++ [y]))) else Nx H3) :=
  lc_range (lo := lo) (n := n) (fun i H => Same H1 H ∧ H D = some (.lst (picks i ys))) ⟨Same.new hD, upd_same⟩
    (fun i H hx e => pure_step hx hz e.1 e.2 hD (hs i H hx e.1)) fun H e => hd H e.1 e.2
end
theorem sz {n : Nat} (h : n ≤ 100000) : n ≤ sizeLine := Nat.le_trans h (by decide)
theorem szl {n : Nat} (h : n < 100000) : n < sizeLine := Nat.lt_of_lt_of_le h (by decide)
/-! ### texts in lists -/
theorem eqV_S (a b : Bytes) : eqV (.str (S a)) (.str (S b)) = (a == b) := by
  have e : eqV (.str (S a)) (.str (S b)) = (S a == S b) := rfl
  rw [e]
  by_cases h : a = b
  · subst h
    simp
  · rw [beq_eq_false_iff_ne.mpr h]
    exact beq_eq_false_iff_ne.mpr fun z => h (S_inj z)
theorem beq_swap (a b : Bytes) : (a == b) = (b == a) := by
  by_cases h : a = b
  · subst h
    rfl
  · rw [beq_eq_false_iff_ne.mpr h, beq_eq_false_iff_ne.mpr (Ne.symm h)]
theorem inV_S (b : Bytes) (l : List Bytes) : inV (.str (S b)) (strL l) = l.contains b := by
  unfold inV strL
  induction l with
  | nil => rfl
  | cons a r ih =>
    rw [List.map_cons, List.any_cons, ih, eqV_S, List.contains_cons]
    rw [beq_swap]
/-- the place of the first one -/
theorem index_S {b : Bytes} {l : List Bytes} {j : Nat} (h : l.findIdx? (· == b) = some j) : (strL l)[j]? = some (.str (S b)) ∧ ∀ (m : Nat) (z : V), m < j → (strL l)[m]? = some z → eqV z (.str (S b)) = false := by
  obtain ⟨hj, h1, h2⟩ := List.findIdx?_eq_some_iff_getElem.mp h
  have e : l[j] = b := eq_of_beq h1
  refine ⟨by unfold strL; rw [List.getElem?_map, List.getElem?_eq_getElem hj, e]; rfl, fun m z hm hz => ?_⟩
  have hml : m < l.length := by omega
  unfold strL at hz
  rw [List.getElem?_map, List.getElem?_eq_getElem hml] at hz
  have ez : V.str (S l[m]) = z := Option.some.inj hz
  rw [← ez, eqV_S]
  have := h2 m hm
  simpa using this
theorem find_of_contains {b : Bytes} : ∀ {l : List Bytes}, l.contains b = (l.findIdx? (· == b)).isSome
  | [] => rfl
  | a :: r => by
    rw [List.contains_cons, List.findIdx?_cons, find_of_contains (l := r), beq_swap b a]
    cases (a == b) with
    | true => rfl
    | false =>
      rw [Bool.false_or, if_neg Bool.false_ne_true, Option.isSome_map]
/-! ### texts put together -/
theorem Str_ext {a b : Str} (h : a.cps.toList = b.cps.toList) : a = b := by
  obtain ⟨⟨a⟩⟩ := a
  obtain ⟨⟨b⟩⟩ := b
  have : a = b := h
  rw [this]
theorem S_append (a b : Bytes) : S a ++ S b = S (a ++ b) := by
  refine Str_ext ?_
  show ((S a).cps ++ (S b).cps).toList = _
  rw [Array.toList_append, S_list, S_list, S_list, List.map_append]
theorem S_nil : S [] = ("" : Str) := by decide +kernel
theorem S_join (sep : Bytes) : ∀ l : List Bytes, Str.join (S sep) (l.map S) = S (VakepBase.joined sep l)
  | [] => S_nil.symm
  | [x] => rfl
  | x :: y :: r => by
    show S x ++ S sep ++ Str.join (S sep) ((y :: r).map S) = S (x ++ sep ++ VakepBase.joined sep (y :: r))
    rw [S_join sep (y :: r), S_append, S_append]
theorem joined_nil : ∀ l : List Bytes, VakepBase.joined [] l = l.flatten
  | [] => rfl
  | [x] => by simp [VakepBase.joined]
  | x :: y :: r => by
    show x ++ [] ++ VakepBase.joined [] (y :: r) = x ++ (y :: r).flatten
    rw [joined_nil (y :: r), List.append_nil]
theorem strL_map (l : List Bytes) : strL l = (l.map S).map V.str := by
  unfold strL
  rw [List.map_map]
  rfl
/-! ### settings, assignments -/
def tot (ss : List Vakepa.Setting) : Nat := (ss.map fun s => s.values.length).foldl (fun x y => x * y) 1
/-- what a piece stands for, by its text -/
def wordOf (ss : List Vakepa.Setting) (v : List Nat) (b : Bytes) : Bytes := match ss.findIdx? (fun s => s.name == b) with
  | none => b
  | some k => ((ss[k]?).bind fun s => s.values[v.getD k 0]?).getD []
/-- a word's number for each setting -/
abbrev Vok (ss : List Vakepa.Setting) (v : List Nat) : Prop := VokN ss v
theorem find_map {α β : Type} (f : α → β) (p : β → Bool) (l : List α) : (l.map f).findIdx? p = l.findIdx? fun x => p (f x) := by
  induction l with
  | nil => rfl
  | cons a r ih => rw [List.map_cons, List.findIdx?_cons, List.findIdx?_cons, ih]
theorem tot_more {ss : List Vakepa.Setting} {i : Nat} {s : Vakepa.Setting} (h : ss[i]? = some s) : tot (ss.take (i + 1)) = tot (ss.take i) * s.values.length := by
  unfold tot
  rw [take_more h, List.map_append, List.foldl_append]
  rfl
theorem valuesBy_more : ∀ {cs : List Nat} {i c a : Nat} , cs[i]? = some c → ∀ m acc, Vakepa.valuesBy cs a = acc ++ Vakepa.valuesBy (cs.drop i) m → Vakepa.valuesBy cs a = (acc ++ [m % c]) ++ Vakepa.valuesBy (cs.drop (i + 1)) (m / c) := by
  intro cs i c a h m acc e
  have hi : i < cs.length := (List.getElem?_eq_some_iff.mp h).1
  have e2 : cs.drop i = c :: cs.drop (i + 1) := by
    rw [List.drop_eq_getElem_cons hi]
    rw [List.getElem?_eq_getElem hi] at h
    rw [Option.some.inj h]
  rw [e, e2]
  show acc ++ (m % c :: Vakepa.valuesBy (cs.drop (i + 1)) (m / c)) = _
  simp
theorem atI_n {xs : List V} {j : Nat} {v : V} (h : xs[j]? = some v) : atI xs (j : Int) = some v := atI_nat h
theorem natL_at {l : List Nat} {i x : Nat} (h : l[i]? = some x) : (natL l)[i]? = some (.int (x : Int)) := by
  unfold natL
  rw [List.getElem?_map, h]
  rfl
theorem strL_at {l : List Bytes} {i : Nat} {b : Bytes} (h : l[i]? = some b) : (strL l)[i]? = some (.str (S b)) := by
  unfold strL
  rw [List.getElem?_map, h]
  rfl
theorem SetsAt.same {K : PySem.W.Frag} {H H' : Hp} (e : Same H H') {p : Addr} {ss : List Vakepa.Setting} (h : SetsAt K H p ss) : SetsAt K H' p ss :=
  let ⟨dx, ls, y, z, vs, a, b, c⟩ := h
  ⟨dx, ls, y, z, vs, e _ _ a, e _ _ b, Paired.mapP c fun _ _ q => q.same e⟩
theorem NamesAt.same {K : PySem.W.Frag} {H H' : Hp} (e : Same H H') {p : Addr} {nm : List Bytes} (h : NamesAt K H p nm) : NamesAt K H' p nm :=
  let ⟨dx, x, lp, z, vs, a, b, c⟩ := h
  ⟨dx, x, lp, z, vs, e _ _ a, e _ _ b, Paired.mapP c fun _ _ q => q.same e⟩
end Wk
set_option maxHeartbeats 2000000
/-! Statements, parts, programs as they stand in the heap. -/
namespace Wk
open PySem PySem.Spec PyProof.Rows L2
open Vakepa (Prog Piece)
abbrev Stm := Vakepa.Stmt
def StV (pr : Prog) (G : Hp) : Stm → List V → Prop
  | .done, xs => xs = []
  | .say k r, xs => ∃ t ys, xs = .ref t :: ys ∧ G t = some (.tup [.str "say", .int (k : Nat)]) ∧ StV pr G r ys
  | .call k r, xs => ∃ t ys, xs = .ref t :: ys ∧ G t = some (.tup [.str "call", .str (S (Vakepa.nameOf pr k))]) ∧ StV pr G r ys
  | .make ps r, xs => ∃ t ys, xs = .ref t :: ys ∧ (∃ l, G t = some (.tup [.str "make", .ref l]) ∧ G l = some (.lst (strL (ps.map (Vakepa.showPiece pr))))) ∧ StV pr G r ys
  | .when_ x v b r, xs => ∃ t ys, xs = .ref t :: ys ∧ (∃ l zs, G t = some (.tup [.str "when", .int (x : Nat), .int (v : Nat), .ref l]) ∧ G l = some (.lst zs) ∧ StV pr G b zs) ∧ StV pr G r ys
/-- the first statement stands at t -/
def ItV (pr : Prog) (G : Hp) : Stm → Addr → Prop
  | .done, _ => False
  | .say k _, t => G t = some (.tup [.str "say", .int (k : Nat)])
  | .call k _, t => G t = some (.tup [.str "call", .str (S (Vakepa.nameOf pr k))])
  | .make ps _, t => ∃ l, G t = some (.tup [.str "make", .ref l]) ∧ G l = some (.lst (strL (ps.map (Vakepa.showPiece pr))))
  | .when_ x v b _, t => ∃ l zs, G t = some (.tup [.str "when", .int (x : Nat), .int (v : Nat), .ref l]) ∧ G l = some (.lst zs) ∧ StV pr G b zs
section
variable {pr : Prog} {G G' : Hp}
theorem StV.cons : ∀ {s : Stm} {xs : List V}, StV pr G s xs → s ≠ .done → ∃ t ys, xs = .ref t :: ys ∧ ItV pr G s t ∧ StV pr G (tailS s) ys
  | .done, _, _, h => absurd rfl h
  | .say _ _, _, h, _ => h
  | .call _ _, _, h, _ => h
  | .make _ _, _, h, _ => h
  | .when_ _ _ _ _, _, h, _ => h
theorem StV.of : ∀ {s : Stm} {t : Addr} {ys : List V}, ItV pr G s t → StV pr G (tailS s) ys → StV pr G s (.ref t :: ys)
  | .done, _, _, h, _ => h.elim
  | .say _ _, t, ys, h, r => ⟨t, ys, rfl, h, r⟩
  | .call _ _, t, ys, h, r => ⟨t, ys, rfl, h, r⟩
  | .make _ _, t, ys, h, r => ⟨t, ys, rfl, h, r⟩
  | .when_ _ _ _ _, t, ys, h, r => ⟨t, ys, rfl, h, r⟩
theorem StV.len : ∀ {n : Nat} {s : Stm} {xs : List V}, lenS s = n → StV pr G s xs → xs.length = n
  | 0, s, xs, e, h => by
    have := lenS_zero s e
    subst this
    rw [show xs = [] from h]
    rfl
  | n + 1, s, xs, e, h => by
    have ne : s ≠ .done := fun z => by rw [z] at e; simp [lenS] at e
    obtain ⟨t, ys, rfl, _, h2⟩ := h.cons ne
    have := lenS_tail s ne
    rw [List.length_cons, StV.len (n := n) (by omega) h2]
theorem StV.length {s : Stm} {xs : List V} (h : StV pr G s xs) : xs.length = lenS s := h.len rfl
theorem StV.drop : ∀ {i : Nat} {s : Stm} {xs : List V}, StV pr G s xs → StV pr G (dropS i s) (xs.drop i)
  | 0, _, _, h => h
  | i + 1, s, xs, h => by
    have ih := StV.drop (i := i) h
    show StV pr G (tailS (dropS i s)) (xs.drop (i + 1))
    have ed : xs.drop (i + 1) = (xs.drop i).drop 1 := by rw [List.drop_drop]
    rw [ed]
    by_cases e : dropS i s = .done
    · rw [e] at ih ⊢
      rw [show xs.drop i = [] from ih]
      exact rfl
    · obtain ⟨t, ys, e2, _, h2⟩ := ih.cons e
      rw [e2]
      exact h2
theorem StV.at_ {i : Nat} {s : Stm} {xs : List V} {x : V} (h : StV pr G s xs) (e : xs[i]? = some x) : ∃ t, x = .ref t ∧ ItV pr G (dropS i s) t ∧ dropS i s ≠ .done := by
  have hi : i < xs.length := (List.getElem?_eq_some_iff.mp e).1
  rw [h.length] at hi
  have ne := drop_ne hi
  obtain ⟨t, ys, e2, h2, _⟩ := (h.drop (i := i)).cons ne
  refine ⟨t, ?_, h2, ne⟩
  have : (xs.drop i)[0]? = some x := by rw [List.getElem?_drop]; exact e
  rw [e2] at this
  exact (Option.some.inj this).symm
theorem StV.same (e : Same G G') : ∀ {s : Stm} {xs : List V}, StV pr G s xs → StV pr G' s xs
  | .done, _, h => h
  | .say _ _, _, ⟨t, ys, a, b, c⟩ => ⟨t, ys, a, e _ _ b, c.same e⟩
  | .call _ _, _, ⟨t, ys, a, b, c⟩ => ⟨t, ys, a, e _ _ b, c.same e⟩
  | .make _ _, _, ⟨t, ys, a, ⟨l, b, b2⟩, c⟩ => ⟨t, ys, a, ⟨l, e _ _ b, e _ _ b2⟩, c.same e⟩
  | .when_ _ _ _ _, _, ⟨t, ys, a, ⟨l, zs, b, b2, b3⟩, c⟩ => ⟨t, ys, a, ⟨l, zs, e _ _ b, e _ _ b2, b3.same e⟩, c.same e⟩
end
/-- a part -/
def PartV (K : PySem.W.Frag) (pr : Prog) (G : Hp) (v : V) (x : Vakepa.Part) : Prop := ∃ a dx l xs, v = .ref a ∧ G a = some (.ins (cPart K) dx (F_Part (.str (S x.name)) (.int (x.size : Nat)) (.ref l))) ∧ G l = some (.lst xs) ∧ StV pr G x.body xs
/-- **a program** -/
structure ProgAt (K : PySem.W.Frag) (pr : Prog) (G : Hp) (p dx ls lp le : Addr) (vs ws : List V) : Prop where
  ins : G p = some (.ins (cProgram K) dx (F_Program (.ref ls) (.ref lp) (.ref le)))
  sl : G ls = some (.lst vs)
  sets : Paired (SetV G) vs pr.sets
  pl : G lp = some (.lst ws)
  parts : Paired (PartV K pr G) ws pr.parts
  el : G le = some (.lst (natL pr.starts))
def Pg (K : PySem.W.Frag) (pr : Prog) (G : Hp) (p : Addr) : Prop := ∃ dx ls lp le vs ws, ProgAt K pr G p dx ls lp le vs ws
section
variable {K : PySem.W.Frag} {pr : Prog} {G G' : Hp} {p : Addr}
theorem PartV.same (e : Same G G') {v : V} {x : Vakepa.Part} (h : PartV K pr G v x) : PartV K pr G' v x :=
  let ⟨a, dx, l, xs, h1, h2, h3, h4⟩ := h
  ⟨a, dx, l, xs, h1, e _ _ h2, e _ _ h3, h4.same e⟩
theorem Pg.same (e : Same G G') (h : Pg K pr G p) : Pg K pr G' p :=
  let ⟨dx, ls, lp, le, vs, ws, h⟩ := h
  ⟨dx, ls, lp, le, vs, ws, e _ _ h.ins, e _ _ h.sl, Paired.mapP h.sets fun _ _ q => q.same e, e _ _ h.pl, Paired.mapP h.parts fun _ _ q => q.same e, e _ _ h.el⟩
theorem Pg.setsAt (h : Pg K pr G p) : SetsAt K G p pr.sets :=
  let ⟨dx, ls, lp, le, vs, ws, h⟩ := h
  ⟨dx, ls, _, _, vs, h.ins, h.sl, h.sets⟩
theorem Pg.namesAt (h : Pg K pr G p) : NamesAt K G p (pr.parts.map (·.name)) := by
  obtain ⟨dx, ls, lp, le, vs, ws, h⟩ := h
  refine ⟨dx, _, lp, _, ws, h.ins, h.pl, ?_⟩
  have : ∀ {ws : List V} {xs : List Vakepa.Part}, Paired (PartV K pr G) ws xs → Paired (NameV K G) ws (xs.map (·.name)) := by
    intro ws xs q
    induction q with
    | nil => exact .nil
    | cons r t ih =>
      obtain ⟨a, dx, l, xs, h1, h2, _⟩ := r
      exact .cons ⟨a, dx, _, _, h1, h2⟩ ih
  exact this h.parts
/-- the statements of part k -/
theorem Pg.body {k : Nat} (h : Pg K pr G p) (hk : k < pr.parts.length) : ∃ dx ls lp le ws a da nm z l xs, G p = some (.ins (cProgram K) dx (F_Program ls (.ref lp) le)) ∧ G lp = some (.lst ws) ∧ ws[k]? = some (.ref a) ∧
    G a = some (.ins (cPart K) da (F_Part nm z (.ref l))) ∧ z = .int ((((pr.parts[k]?).map fun x => x.size).getD 0 : Nat) : Int) ∧ G l = some (.lst xs) ∧ StV pr G (Vakepa.bodyOf pr k) xs ∧ nm = .str (S (Vakepa.nameOf pr k)) := by
  obtain ⟨dx, ls, lp, le, vs, ws, h⟩ := h
  obtain ⟨x, hx, a, da, l, xs, rfl, h2, h3, h4⟩ := Paired.at2 h.parts (List.getElem?_eq_getElem hk)
  refine ⟨dx, _, lp, _, ws, a, da, _, _, l, xs, h.ins, h.pl, hx, h2, ?_, h3, ?_, ?_⟩
  · rw [List.getElem?_eq_getElem hk]
    rfl
  · unfold Vakepa.bodyOf
    rw [List.getElem?_eq_getElem hk]
    exact h4
  · unfold Vakepa.nameOf
    rw [List.getElem?_eq_getElem hk]
    rfl
end
/-! ### made names -/
section
variable {pr : Prog} {v : List Nat}
theorem find_nodup {α : Type} [DecidableEq α] : ∀ {l : List α} {k : Nat} {x : α}, l.Nodup → l[k]? = some x → l.findIdx? (fun y => decide (y = x)) = some k
  | [], _, _, _, h => by simp at h
  | a :: r, 0, x, _, h => by
    have e : a = x := by simpa using h
    rw [List.findIdx?_cons, if_pos (decide_eq_true e)]
  | a :: r, k + 1, x, hn, h => by
    obtain ⟨h1, h2⟩ := List.nodup_cons.mp hn
    have hr : r[k]? = some x := by simpa using h
    have ne : a ≠ x := fun e => h1 (by rw [e]; exact List.mem_of_getElem? hr)
    rw [List.findIdx?_cons, if_neg (by simpa using ne), find_nodup h2 hr]
    rfl
theorem beq_fun (b : Bytes) : (fun y : Bytes => y == b) = fun y => decide (y = b) := by
  funext y
  by_cases h : y = b
  · subst h
    simp
  · rw [decide_eq_false h]
    exact beq_eq_false_iff_ne.mpr h
theorem partNamed_eq (b : Bytes) : (pr.parts.map (·.name)).findIdx? (· == b) = Vakepa.partNamed pr b := find_map _ _ _
theorem partNamed_of (g : Good pr) {k : Nat} (hk : k < pr.parts.length) : (pr.parts.map (·.name)).findIdx? (· == Vakepa.nameOf pr k) = some k := by
  rw [beq_fun]
  refine find_nodup g.names ?_
  rw [List.getElem?_map, List.getElem?_eq_getElem hk]
  unfold Vakepa.nameOf
  rw [List.getElem?_eq_getElem hk]
  rfl
theorem partNamed_lt {b : Bytes} {k : Nat} (h : Vakepa.partNamed pr b = some k) : k < pr.parts.length := (List.findIdx?_eq_some_iff_getElem.mp h).1
theorem word_piece (g : Good pr) {q : Piece} (h : OkP pr q) : wordOf pr.sets v (Vakepa.showPiece pr q) = Vakepa.pieceText pr v q := by
  cases q with
  | set k =>
    have hk : k < pr.sets.length := h
    have e1 : Vakepa.showPiece pr (.set k) = (pr.sets[k]).name := by
      show ((pr.sets[k]?).map fun s => s.name).getD [] = _
      rw [List.getElem?_eq_getElem hk]
      rfl
    have e2 : pr.sets.findIdx? (fun s => s.name == (pr.sets[k]).name) = some k := by
      have := find_map (fun s : Vakepa.Setting => s.name) (· == (pr.sets[k]).name) pr.sets
      rw [← this, beq_fun]
      exact find_nodup g.snames (by rw [List.getElem?_map, List.getElem?_eq_getElem hk]; rfl)
    unfold wordOf
    rw [e1, e2]
    rfl
  | word b =>
    have e : pr.sets.findIdx? (fun s => s.name == b) = none := by
      rw [List.findIdx?_eq_none_iff]
      intro s hs
      exact beq_eq_false_iff_ne.mpr (h.2 s hs)
    show wordOf pr.sets v b = b
    unfold wordOf
    rw [e]
theorem pieces_word (g : Good pr) : ∀ {ps : List Piece}, (∀ q ∈ ps, OkP pr q) → (ps.map (Vakepa.showPiece pr)).map (wordOf pr.sets v) = ps.map (Vakepa.pieceText pr v)
  | [], _ => rfl
  | q :: r, h => by
    rw [List.map_cons, List.map_cons, List.map_cons, word_piece g (h q List.mem_cons_self), pieces_word g fun q hq => h q (List.mem_cons_of_mem _ hq)]
theorem made_eq (g : Good pr) {ps : List Piece} (h : ∀ q ∈ ps, OkP pr q) : ((ps.map (Vakepa.showPiece pr)).map (wordOf pr.sets v)).flatten = Vakepa.madeName pr v ps := by
  rw [pieces_word g h]
  exact List.flatMap_def.symm
theorem word16 (g : Good pr) {q : Piece} (h : OkP pr q) : (Vakepa.pieceText pr v q).length ≤ 16 := by
  cases q with
  | word b => exact h.1
  | set k =>
    have hk : k < pr.sets.length := h
    show (((pr.sets[k]?).bind fun s => s.values[v.getD k 0]?).getD []).length ≤ 16
    rw [List.getElem?_eq_getElem hk, Option.bind_some]
    cases e : (pr.sets[k]).values[v.getD k 0]? with
    | none => simp
    | some b => exact (g.vals _ (List.getElem_mem hk)).2.2 b (List.mem_of_getElem? e)
theorem pieces_size (g : Good pr) : ∀ {ps : List Piece}, (∀ q ∈ ps, OkP pr q) → (((ps.map (Vakepa.showPiece pr)).map (wordOf pr.sets v)).map List.length).sum ≤ 16 * ps.length
  | [], _ => Nat.le_refl _
  | q :: r, h => by
    have ih := pieces_size g (ps := r) fun q hq => h q (List.mem_cons_of_mem _ hq)
    have h1 := word16 (v := v) g (h q List.mem_cons_self)
    rw [List.map_cons, List.map_cons, List.map_cons, List.sum_cons, word_piece g (h q List.mem_cons_self), List.length_cons]
    omega
end
end Wk
set_option maxHeartbeats 2000000
/-! A run as it stands in the heap. -/
namespace Wk
open PySem PySem.Spec PyProof.Rows L2
open Vakepa (Prog Piece)
structure RunC where
  pr : Prog
  v : List Nat
  out : List Nat
  p : Addr
  c : Addr
  l : Addr
  lo : Addr
  de : Addr
  dx : Addr
def entK (l : List Nat) : List (Option Int) := l.map fun (k : Nat) => some (k : Int)
theorem entK_mark (k : Nat) (l : List Nat) : putN (entK l) (some (k : Int)) = entK (Vakepa.mark k l) := by
  unfold putN Vakepa.mark
  have e : (some (k : Int) ∈ entK l) ↔ l.contains k = true := by
    unfold entK
    rw [List.mem_map]
    constructor
    · rintro ⟨j, hj, e⟩
      have : (j : Int) = (k : Int) := Option.some.inj e
      have : j = k := by omega
      subst this
      simpa using hj
    · intro h
      exact ⟨k, by simpa using h, rfl⟩
  by_cases h : l.contains k = true
  · rw [if_pos h, if_pos (e.mpr h)]
  · rw [if_neg h, if_neg fun z => h (e.mp z)]
    unfold entK
    rw [List.map_append]
    rfl
def RowV (pr : Prog) (G H : Hp) (a : Addr) (e : Stm × Bool) : Prop := ∃ (l : Addr) (xs : List V) (s0 : Stm) (i : Nat), H a = some (.lst [.ref l, .int (i : Int), .bl e.2]) ∧ G l = some (.lst xs) ∧ StV pr G s0 xs ∧ dropS i s0 = e.1 ∧ i ≤ xs.length ∧ G a = none
structure RunAt (P : Program) (w : World) (K : PySem.W.Frag) (G H : Hp) (r : Addr) (c : RunC) (st : RSt) (as : List Addr) : Prop where
  same : Same G H
  ins : H r = some (.ins (cRun K) c.dx (F_Run (.ref c.p) (.ref c.c) (.ref c.l) (.ref c.lo) (.ref c.de) (.bl st.going)))
  gr : G r = none
  glo : G c.lo = none
  gde : G c.de = none
  prog : Pg K c.pr G c.p
  ch : G c.c = some (.lst (natL c.v))
  lf : G c.l = some (.tup (natL c.out))
  ol : H c.lo = some (.lst (as.map V.ref))
  rows : Paired (RowV c.pr G H) as st.todo.reverse
  nd : as.Nodup
  nl : c.lo ∉ as
  ent : H c.de = some (dN P w c.de (entK st.ent))
  good : Good c.pr
  vok : Vok c.pr.sets c.v
section
variable {P : Program} {w : World} {K : PySem.W.Frag} {G H H' : Hp} {r : Addr} {c : RunC} {st : RSt} {as : List Addr}
theorem dN_ne {a : Addr} {ks : List (Option Int)} {xs : List V} : HO.lst xs ≠ dN P w a ks := fun z => nomatch (show HO.lst xs = HO.ext _ from z)
theorem dN_ni {a C dx : Addr} {fs : List (Str × V)} {ks : List (Option Int)} : HO.ins C dx fs ≠ dN P w a ks := fun z => nomatch (show HO.ins C dx fs = HO.ext _ from z)
theorem RowV.same (e : Same H H') {pr : Prog} {a : Addr} {x : Stm × Bool} (h : RowV pr G H a x) : RowV pr G H' a x :=
  let ⟨l, xs, s0, i, h1, h2⟩ := h
  ⟨l, xs, s0, i, e _ _ h1, h2⟩
theorem RunAt.same' (h : RunAt P w K G H r c st as) (e : Same H H') : RunAt P w K G H' r c st as :=
  ⟨Same.trans h.same e, e _ _ h.ins, h.gr, h.glo, h.gde, h.prog, h.ch, h.lf, e _ _ h.ol, Paired.mapP h.rows fun _ _ q => q.same e, h.nd, h.nl, e _ _ h.ent, h.good, h.vok⟩
theorem rows_lst {as : List Addr} {L : List (Stm × Bool)} {pr : Prog} (h : Paired (RowV pr G H) as L) : ∀ a ∈ as, ∃ xs, H a = some (.lst xs) := by
  induction h with
  | nil => intro a ha; cases ha
  | cons r t ih =>
    intro a ha
    rcases List.mem_cons.mp ha with e | ha
    · subst e
      obtain ⟨l, xs, s0, i, h1, _⟩ := r
      exact ⟨_, h1⟩
    · exact ih a ha
theorem rows_keep {as : List Addr} {L : List (Stm × Bool)} {pr : Prog} {a : Addr} {o : HO} (h : Paired (RowV pr G H) as L) (ha : a ∉ as) : Paired (RowV pr G (upd H a o)) as L := by
  induction h with
  | nil => exact .nil
  | cons r t ih =>
    obtain ⟨h1, h2⟩ : ¬ a = _ ∧ a ∉ _ := by simpa using ha
    obtain ⟨l, xs, s0, i, q1, q2⟩ := r
    exact .cons ⟨l, xs, s0, i, by rw [upd_ne (Ne.symm h1)]; exact q1, q2⟩ (ih h2)
/-- an object that is neither a row nor .. changes -/
theorem RunAt.setEnt (h : RunAt P w K G H r c st as) (ent' : List Nat) : RunAt P w K G (upd H c.de (dN P w c.de (entK ent'))) r c { st with ent := ent' } as := by
  have n1 : r ≠ c.de := ne_of h.ins h.ent dN_ni
  have n2 : c.lo ≠ c.de := ne_of h.ol h.ent dN_ne
  have n3 : c.de ∉ as := fun z => by
    obtain ⟨xs, q⟩ := rows_lst h.rows _ z
    rw [h.ent] at q
    exact dN_ne (Option.some.inj q).symm
  exact ⟨L2.Same.mut h.same h.gde, by rw [upd_ne n1]; exact h.ins, h.gr, h.glo, h.gde, h.prog, h.ch, h.lf, by rw [upd_ne n2]; exact h.ol, rows_keep h.rows n3, h.nd, h.nl, upd_same, h.good, h.vok⟩
theorem RunAt.setGoing (h : RunAt P w K G H r c st as) (g : Bool) : RunAt P w K G (upd H r (.ins (cRun K) c.dx (F_Run (.ref c.p) (.ref c.c) (.ref c.l) (.ref c.lo) (.ref c.de) (.bl g)))) r c { st with going := g } as := by
  have n1 : c.de ≠ r := (ne_of h.ins h.ent dN_ni).symm
  have n2 : c.lo ≠ r := ne_of h.ol h.ins (fun z => nomatch z)
  have n3 : r ∉ as := fun z => by
    obtain ⟨xs, q⟩ := rows_lst h.rows _ z
    rw [h.ins] at q
    cases q
  exact ⟨L2.Same.mut h.same h.gr, upd_same, h.gr, h.glo, h.gde, h.prog, h.ch, h.lf, by rw [upd_ne n2]; exact h.ol, rows_keep h.rows n3, h.nd, h.nl, by rw [upd_ne n1]; exact h.ent, h.good, h.vok⟩
/-- a new row on top -/
theorem RunAt.push (h : RunAt P w K G H r c st as) {q l : Addr} {xs : List V} {s : Stm} {f : Bool} (hq : H q = some (.lst [.ref l, .int 0, .bl f])) (gq : G q = none) (nq : q ∉ as) (nlo : q ≠ c.lo) (hl : G l = some (.lst xs)) (hs : StV c.pr G s xs) :
    RunAt P w K G (upd H c.lo (.lst (as.map V.ref ++ [.ref q]))) r c { st with todo := (s, f) :: st.todo } (as ++ [q]) := by
  have n1 : r ≠ c.lo := ne_of h.ins h.ol (fun z => nomatch z)
  have n2 : c.de ≠ c.lo := (ne_of h.ol h.ent dN_ne).symm
  refine ⟨L2.Same.mut h.same h.glo, by rw [upd_ne n1]; exact h.ins, h.gr, h.glo, h.gde, h.prog, h.ch, h.lf, by rw [upd_same, List.map_append]; rfl, ?_, ?_, ?_, by rw [upd_ne n2]; exact h.ent, h.good, h.vok⟩
  · rw [List.reverse_cons]
    exact Paired.snoc (rows_keep h.rows h.nl) ⟨l, xs, s, 0, by rw [upd_ne nlo]; exact hq, hl, hs, rfl, Nat.zero_le _, gq⟩
  · exact List.nodup_append.mpr ⟨h.nd, by simp, fun a ha b hb => by
      have e : b = q := by simpa using hb
      subst e
      exact fun z => nq (z ▸ ha)⟩
  · intro z
    rcases List.mem_append.mp z with z | z
    · exact h.nl z
    · exact nlo (List.mem_singleton.mp z).symm
theorem paired_snoc {α β : Type} {F : α → β → Prop} : ∀ {l : List α} {m : List β} {b : β}, Paired F l (m ++ [b]) → ∃ l' a, l = l' ++ [a] ∧ Paired F l' m ∧ F a b
  | _, [], b, .cons r .nil => ⟨[], _, rfl, .nil, r⟩
  | _, x :: m, b, .cons r t => by
    obtain ⟨l', a, e, h1, h2⟩ := paired_snoc t
    exact ⟨_ :: l', a, by rw [e]; rfl, .cons r h1, h2⟩
/-- the top row -/
theorem RunAt.top (h : RunAt P w K G H r c st as) {s : Stm} {f : Bool} {t : List (Stm × Bool)} (e : st.todo = (s, f) :: t) : ∃ as' a, as = as' ++ [a] ∧ Paired (RowV c.pr G H) as' t.reverse ∧ RowV c.pr G H a (s, f) := by
  have := h.rows
  rw [e, List.reverse_cons] at this
  obtain ⟨as', a, e1, h1, h2⟩ := paired_snoc this
  exact ⟨as', a, e1, h1, h2⟩
theorem nodup_snoc {α : Type} {l : List α} {a : α} (h : (l ++ [a]).Nodup) : l.Nodup ∧ a ∉ l := by
  obtain ⟨h1, _, h3⟩ := List.nodup_append.mp h
  exact ⟨h1, fun z => h3 a z a (by simp) rfl⟩
/-- the top row goes on by one statement -/
theorem RunAt.step {q : Addr} (h : RunAt P w K G H r c st (as ++ [q])) {s : Stm} {f : Bool} {t : List (Stm × Bool)} (e : st.todo = (s, f) :: t) {l : Addr} {xs : List V} {s0 : Stm} {i : Nat} (hq : H q = some (.lst [.ref l, .int (i : Int), .bl f]))
    (hl : G l = some (.lst xs)) (hs : StV c.pr G s0 xs) (hi : dropS i s0 = s) (hlt : i < xs.length) (gq : G q = none) : RunAt P w K G (upd H q (.lst [.ref l, .int ((i + 1 : Nat) : Int), .bl f])) r c { st with todo := (tailS s, f) :: t } (as ++ [q]) := by
  have n1 : r ≠ q := ne_of h.ins hq (fun z => nomatch z)
  have n2 : c.de ≠ q := (ne_of hq h.ent dN_ne).symm
  have hm : q ∈ as ++ [q] := List.mem_append_right _ List.mem_cons_self
  have n3 : c.lo ≠ q := fun z => h.nl (z.symm ▸ hm)
  obtain ⟨as', a, ea, h1, _⟩ := h.top e
  obtain ⟨ea1, ea2⟩ := List.append_inj' ea rfl
  cases ea2
  subst ea1
  obtain ⟨nd1, nd2⟩ := nodup_snoc h.nd
  refine ⟨L2.Same.mut h.same gq, by rw [upd_ne n1]; exact h.ins, h.gr, h.glo, h.gde, h.prog, h.ch, h.lf, by rw [upd_ne n3]; exact h.ol, ?_, h.nd, h.nl, by rw [upd_ne n2]; exact h.ent, h.good, h.vok⟩
  show Paired _ _ ((tailS s, f) :: t).reverse
  rw [List.reverse_cons]
  exact Paired.snoc (rows_keep h1 nd2) ⟨l, xs, s0, i + 1, upd_same, hl, hs, by show tailS (dropS i s0) = tailS s; rw [hi], hlt, gq⟩
theorem RunAt.pop {q : Addr} (h : RunAt P w K G H r c st (as ++ [q])) {s : Stm} {f : Bool} {t : List (Stm × Bool)} (e : st.todo = (s, f) :: t) : RunAt P w K G (upd H c.lo (.lst (as.map V.ref))) r c { st with todo := t } as := by
  have n1 : r ≠ c.lo := ne_of h.ins h.ol (fun z => nomatch z)
  have n2 : c.de ≠ c.lo := (ne_of h.ol h.ent dN_ne).symm
  obtain ⟨as', a, ea, h1, _⟩ := h.top e
  obtain ⟨ea1, _⟩ := List.append_inj' ea rfl
  subst ea1
  obtain ⟨nd1, nd2⟩ := nodup_snoc h.nd
  have nl : c.lo ∉ as := fun z => h.nl (List.mem_append_left _ z)
  exact ⟨L2.Same.mut h.same h.glo, by rw [upd_ne n1]; exact h.ins, h.gr, h.glo, h.gde, h.prog, h.ch, h.lf, upd_same, rows_keep h1 nl, nd1, nl, by rw [upd_ne n2]; exact h.ent, h.good, h.vok⟩
end
theorem zip_flags : ∀ {as : List Addr} {L : List (Stm × Bool)}, as.length = L.length → ((as.zip L).filterMap fun x => if x.2.2 = true then some (V.ref x.1) else none).length = (L.filter (·.2)).length
  | [], [], _ => rfl
  | [], _ :: _, h => by simp at h
  | _ :: _, [], h => by simp at h
  | a :: as, (s, f) :: L, h => by
    have ih := zip_flags (as := as) (L := L) (by simpa using h)
    rw [List.zip_cons_cons, List.filterMap_cons, List.filter_cons]
    cases f with
    | true => simp only [if_true, List.length_cons, ih]
    | false => simpa using ih
theorem within_rev (t : List (Stm × Bool)) : (t.reverse.filter (·.2)).length = within t := by
  unfold within
  rw [List.filter_reverse, List.length_reverse]
end Wk
set_option maxHeartbeats 2000000
/-! Dicts of truths as sets of parts. -/
namespace Wk
open PySem PySem.Spec PyProof.Rows L2
theorem putN_nodup {ks : List (Option Int)} {k : Option Int} (h : ks.Nodup) : (putN ks k).Nodup := by
  unfold putN
  split
  · exact h
  · rename_i c
    exact List.nodup_append.mpr ⟨h, by simp, fun a ha b hb => by
      have e : b = k := by simpa using hb
      subst e
      exact fun z => c (z ▸ ha)⟩
theorem uniN_nodup : ∀ {ms ks : List (Option Int)}, ks.Nodup → (uniN ks ms).Nodup
  | [], _, h => h
  | a :: r, ks, h => uniN_nodup (ms := r) (ks := putN ks a) (putN_nodup h)
/-- the keys are the parts in S; None may be one as well -/
structure NS (n : Nat) (S : Nat → Prop) (ks : List (Option Int)) : Prop where
  nd : ks.Nodup
  mem : ∀ j ∈ ks, j = none ∨ ∃ k : Nat, j = some (k : Int) ∧ S k
  all : ∀ k, S k → some (k : Int) ∈ ks
  lt : ∀ k, S k → k < n
section
variable {n : Nat} {S T : Nat → Prop} {ks ms : List (Option Int)}
theorem NS.congr (h : NS n S ks) (e : ∀ k, S k ↔ T k) : NS n T ks :=
  ⟨h.nd, fun j hj => (h.mem j hj).imp id fun ⟨k, a, b⟩ => ⟨k, a, (e k).mp b⟩, fun k hk => h.all k ((e k).mpr hk), fun k hk => h.lt k ((e k).mpr hk)⟩
theorem NS.nil : NS n (fun _ => False) [] := ⟨List.nodup_nil, fun j hj => (nomatch hj), fun k (hk : False) => hk.elim, fun k (hk : False) => hk.elim⟩
theorem NS.put (h : NS n S ks) {k : Nat} (hk : k < n) : NS n (fun j => S j ∨ j = k) (putN ks (some (k : Int))) := by
  refine ⟨putN_nodup h.nd, fun j hj => ?_, fun j hj => ?_, fun j hj => ?_⟩
  · rcases mem_putN.mp hj with q | q
    · exact (h.mem j q).imp id fun ⟨m, a, b⟩ => ⟨m, a, .inl b⟩
    · exact .inr ⟨k, q, .inr rfl⟩
  · rcases hj with q | q
    · exact mem_putN.mpr (.inl (h.all j q))
    · rw [q]; exact mem_putN.mpr (.inr rfl)
  · rcases hj with q | q
    · exact h.lt j q
    · rw [q]; exact hk
theorem NS.putNone (h : NS n S ks) : NS n S (putN ks none) := by
  refine ⟨putN_nodup h.nd, fun j hj => ?_, fun j hj => mem_putN.mpr (.inl (h.all j hj)), h.lt⟩
  rcases mem_putN.mp hj with q | q
  · exact h.mem j q
  · exact .inl q
theorem NS.uni (h : NS n S ks) (g : NS n T ms) : NS n (fun j => S j ∨ T j) (uniN ks ms) := by
  refine ⟨uniN_nodup h.nd, fun j hj => ?_, fun j hj => ?_, fun j hj => ?_⟩
  · rcases mem_uniN.mp hj with q | q
    · exact (h.mem j q).imp id fun ⟨m, a, b⟩ => ⟨m, a, .inl b⟩
    · exact (g.mem j q).imp id fun ⟨m, a, b⟩ => ⟨m, a, .inr b⟩
  · rcases hj with q | q
    · exact mem_uniN.mpr (.inl (h.all j q))
    · exact mem_uniN.mpr (.inr (g.all j q))
  · rcases hj with q | q
    · exact h.lt j q
    · exact g.lt j q
theorem NS.has (h : NS n S ks) (k : Nat) : some (k : Int) ∈ ks ↔ S k := by
  refine ⟨fun q => ?_, h.all k⟩
  rcases h.mem _ q with e | ⟨m, e, s⟩
  · cases e
  · have : (k : Int) = (m : Int) := Option.some.inj e
    have : k = m := by omega
    rw [this]
    exact s
theorem nodup_len {α : Type} [DecidableEq α] : ∀ {l m : List α}, l.Nodup → (∀ x ∈ l, x ∈ m) → l.length ≤ m.length
  | [], _, _, _ => Nat.zero_le _
  | a :: r, m, h, s => by
    obtain ⟨h1, h2⟩ := List.nodup_cons.mp h
    have ha := s a List.mem_cons_self
    have ih := nodup_len (l := r) (m := m.erase a) h2 fun x hx => by
      have ne : x ≠ a := fun e => h1 (e ▸ hx)
      exact (List.mem_erase_of_ne ne).mpr (s x (List.mem_cons_of_mem _ hx))
    have e := List.length_erase_of_mem ha
    have p := List.length_pos_of_mem ha
    rw [List.length_cons]
    omega
theorem NS.len (h : NS n S ks) : ks.length ≤ n + 1 := by
  have := nodup_len (m := none :: (List.range n).map fun (k : Nat) => some (k : Int)) h.nd fun j hj => by
    rcases h.mem j hj with e | ⟨k, e, s⟩
    · rw [e]; exact List.mem_cons_self
    · rw [e]; exact List.mem_cons_of_mem _ (List.mem_map.mpr ⟨k, List.mem_range.mpr (h.lt k s), rfl⟩)
  simpa using this
theorem NS.ent {l : List Nat} (h : l.Nodup) (hl : ∀ k ∈ l, k < n) : NS n (· ∈ l) (entK l) := by
  refine ⟨?_, fun j hj => ?_, fun k hk => List.mem_map.mpr ⟨k, hk, rfl⟩, hl⟩
  · unfold entK
    have : ∀ {l : List Nat}, l.Nodup → (l.map fun (k : Nat) => some (k : Int)).Nodup := by
      intro l hl
      induction l with
      | nil => exact List.nodup_nil
      | cons a r ih =>
        obtain ⟨h1, h2⟩ := List.nodup_cons.mp hl
        rw [List.map_cons]
        refine List.nodup_cons.mpr ⟨fun z => ?_, ih h2⟩
        obtain ⟨b, hb, e⟩ := List.mem_map.mp z
        have : (b : Int) = (a : Int) := Option.some.inj e
        have : b = a := by omega
        exact h1 (this ▸ hb)
    exact this h
  · obtain ⟨k, hk, e⟩ := List.mem_map.mp hj
    exact .inr ⟨k, e.symm, hk⟩
end
/-- the parts in order: a list of them from a set -/
theorem inOrder_mem (pr : Vakepa.Prog) (l : List Nat) (k : Nat) : k ∈ Vakepa.inOrder pr l ↔ k < pr.parts.length ∧ k ∈ l := by
  unfold Vakepa.inOrder
  rw [List.mem_filter, List.mem_range, List.contains_iff_mem]
theorem inOrder_congr {pr : Vakepa.Prog} {l m : List Nat} (h : ∀ k, k < pr.parts.length → (k ∈ l ↔ k ∈ m)) : Vakepa.inOrder pr l = Vakepa.inOrder pr m := by
  unfold Vakepa.inOrder
  refine List.filter_congr fun k hk => ?_
  have := h k (List.mem_range.mp hk)
  by_cases c : k ∈ l
  · rw [List.contains_iff_mem.mpr c, List.contains_iff_mem.mpr (this.mp c)]
  · have c2 : ¬ k ∈ m := fun z => c (this.mpr z)
    have e1 : l.contains k = false := by simpa using c
    have e2 : m.contains k = false := by simpa using c2
    rw [e1, e2]
end Wk
set_option maxHeartbeats 2000000
namespace Wk
open PySem PySem.Spec PyProof.Rows L2
section
variable {P : Program} {w : World} {K : PySem.W.Frag} {mg : Str → Option Value} {base : Heap}
def spSettingNames (K : PySem.W.Frag) : Sp := Sp1 fun a H Q _ => ∃ p ss, a = .ref p ∧ SetsAt K H p ss ∧ ss.length < 1000 ∧ ∀ q H', H q = none → Same H H' → H' q = some (.lst (strL (ss.map (·.name)))) → Q (.ref q) H'
theorem sc_Program_setting_names : FnScope ["self", "name", "words"] ["self"] (defScope s_Program_setting_names) := ⟨rfl, rfl, rfl, by decide +kernel, rfl, by decide +kernel, by decide +kernel⟩
theorem ok_Program_setting_names (T : Tx K mg) : FK P w K mg base CX0 1 (He.ma K (He.ga K "Program") "setting_names") ["self"] (spSettingNames K) := by
  obtain ⟨fd, F⟩ := T.f_Program_setting_names
  refine ⟨fd, F.ok sc_Program_setting_names (fun vs H Q E h => Sp1.len h) (fun cdv A outer s H vs Q E hr h => ?body), F.bindsN (fun _ _ _ _ _ _ us hl => match us, hl with | [_], _ => rfl), F.kp⟩
  refine ⟨_, PSs.nox (pss_one (ps_ret (pe_lc (own := [("name", 1), ("words", 2)]) rfl sc_Program_setting_names.nd (pi_list (pe_fld (pv 0) rfl)) (blkOk_by (own := [("name", 1), ("words", 2)]) (N := ["self", "name", "words"]) (sc := defScope s_Program_setting_names) (by decide +kernel)) (fun _ _ _ _ _ => (show PG _ _ (gTup K 2 _) from by exact (pg_tup (n := 2) rfl (pgs_cons (pg_name (i := 1) sc_Program_setting_names.nd rfl (.inl rfl) (.inr rfl)) (pgs_cons (pg_name (i := 2) sc_Program_setting_names.nd rfl (.inl rfl) (.inr rfl)) pgs_nil))))) (fun _ _ _ _ _ => pts_nil) (fun _ _ _ _ _ => (pv 1))))), ?_⟩
  obtain ⟨_, rfl, p, ss, rfl, ⟨dx, ls, y, z, vs, hp, hl, pr⟩, hz, k⟩ := h
  refine ⟨_, rfl, p, cProgram K, dx, _, _, rfl, hp, T.c_Program, T.na_Program_settings, l_Program_settings, ls, rfl, ⟨vs, SqL.of hl⟩, fun D hD => ?_⟩
  have hlen : vs.length = ss.length := Paired.length pr
  refine lc_pure (K := K) (xs := vs) (fun i => (ss[i]?).map fun s => .str (S s.name)) (SqL.of hl) hD (szl (by omega)) (fun i x H1 hx e Kt Kf kt kf => ?_) fun H1 e eD => k D H1 hD e ?_
  · obtain ⟨s, es, t, l, rfl, ht, hl2⟩ := Paired.at_ pr hx
    exact ⟨t, _, rfl, SqT.of (e _ _ ht), rfl, _, _, rfl, _, _, rfl, rfl, rfl, _, rfl, kt _ _ (by rw [es]; rfl) (Same.refl _)⟩
  · rw [eD, picks_at hlen]
    simp [strL]
def spPartNames (K : PySem.W.Frag) : Sp := Sp1 fun a H Q _ => ∃ p nm, a = .ref p ∧ NamesAt K H p nm ∧ nm.length < 1000 ∧ ∀ q H', H q = none → Same H H' → H' q = some (.lst (strL nm)) → Q (.ref q) H'
theorem sc_Program_part_names : FnScope ["self", "part"] ["self"] (defScope s_Program_part_names) := ⟨rfl, rfl, rfl, by decide +kernel, rfl, by decide +kernel, by decide +kernel⟩
theorem ok_Program_part_names (T : Tx K mg) : FK P w K mg base CX0 1 (He.ma K (He.ga K "Program") "part_names") ["self"] (spPartNames K) := by
  obtain ⟨fd, F⟩ := T.f_Program_part_names
  refine ⟨fd, F.ok sc_Program_part_names (fun vs H Q E h => Sp1.len h) (fun cdv A outer s H vs Q E hr h => ?body), F.bindsN (fun _ _ _ _ _ _ us hl => match us, hl with | [_], _ => rfl), F.kp⟩
  refine ⟨_, PSs.nox (pss_one (ps_ret (pe_lc (own := [("part", 1)]) rfl sc_Program_part_names.nd (pi_list (pe_fld (pv 0) rfl)) (blkOk_by (own := [("part", 1)]) (N := ["self", "part"]) (sc := defScope s_Program_part_names) (by decide +kernel)) (fun _ _ _ _ _ => (pg_name (i := 1) sc_Program_part_names.nd rfl (.inl rfl) (.inr rfl))) (fun _ _ _ _ _ => pts_nil) (fun _ _ _ _ _ => (show PE _ _ (tFld K _ _) from by exact (pe_fld (pv 1) rfl)))))), ?_⟩
  obtain ⟨_, rfl, p, nm, rfl, ⟨dx, x, lp, z, vs, hp, hl, pr⟩, hz, k⟩ := h
  refine ⟨_, rfl, p, cProgram K, dx, _, _, rfl, hp, T.c_Program, T.na_Program_parts, l_Program_parts, lp, rfl, ⟨vs, SqL.of hl⟩, fun D hD => ?_⟩
  have hlen : vs.length = nm.length := Paired.length pr
  refine lc_pure (K := K) (xs := vs) (fun i => (nm[i]?).map fun s => .str (S s)) (SqL.of hl) hD (szl (by omega)) (fun i x H1 hx e Kt Kf kt kf => ?_) fun H1 e eD => k D H1 hD e ?_
  · obtain ⟨s, es, a, dy, z1, l1, rfl, ha⟩ := Paired.at_ pr hx
    exact ⟨rfl, _, rfl, a, _, dy, _, _, rfl, e _ _ ha, T.c_Part, T.na_Part_name, l_Part_name, kt _ _ (by rw [es]; rfl) (Same.refl _)⟩
  · rw [eD, picks_at hlen]
    rfl
def spNumberOf (K : PySem.W.Frag) : Sp := Sp2 fun a x H Q _ => ∃ p nm b, a = .ref p ∧ x = .str (S b) ∧ NamesAt K H p nm ∧ nm.length < 1000 ∧ ∀ H', Same H H' → Q (optV (nm.findIdx? (· == b))) H'
theorem sc_Program_number_of : FnScope ["self", "name", "names"] ["self", "name"] (defScope s_Program_number_of) := ⟨rfl, rfl, rfl, by decide +kernel, rfl, by decide +kernel, by decide +kernel⟩
theorem ok_Program_number_of (T : Tx K mg) : FK P w K mg base CX0 2 (He.ma K (He.ga K "Program") "number_of") ["self", "name"] (spNumberOf K) := by
  obtain ⟨fd, F⟩ := T.f_Program_number_of
  obtain ⟨fd0, G0, b0, k0⟩ := ok_Program_part_names (P := P) (w := w) (base := base) T
  refine ⟨fd, F.ok sc_Program_number_of (fun vs H Q E h => Sp2.len h) (fun cdv A outer s H vs Q E hr h => ?body), F.bindsN (fun _ _ _ _ _ _ us hl => match us, hl with | [_, _], _ => rfl), F.kp⟩
  refine ⟨_, PSs.nox (pss_cons (ps_set (i := 2) sc_Program_number_of.nd rfl (.inl rfl) (pe_meth0 (pv 0) T.c_Program T.me_Program_part_names G0 (hr.mono (by first | decide | omega)) b0 .nil pass0) (hf := (.inr rfl)))
      (pss_one (ps_ret (pe_ifExp (pt_cmpR op_in_seq (pv 1) (pv 2) rfl) (pe_bm PySem.F.plainAttrs_list PySem.F.slot_list_index PySem.F.type_list_index mt_index (pv 2) (pa_cons (pv 1) pa_nil)) pe_non)))), ?_⟩
  obtain ⟨_, _, rfl, p, nm, b, rfl, rfl, hN, hz, k⟩ := h
  obtain ⟨dx, x, lp, z, vs, hp, hl, pr⟩ := id hN
  refine ⟨_, rfl, p, dx, _, rfl, hp, n_Program_part_names, _, rfl, p, nm, rfl, hN, hz, fun q H1 hq e eq => ?_⟩
  refine ⟨_, rfl, _, rfl, q, _, rfl, .inl (SqL.of eq), rfl, strL_flat _, _, rfl, ?_⟩
  show if inV (.str (S b)) (strL nm) = true then _ else _
  rw [inV_S, find_of_contains]
  cases hf : nm.findIdx? (· == b) with
  | none =>
    have := k H1 e
    rw [hf] at this
    exact this
  | some j =>
    have := k H1 e
    rw [hf] at this
    obtain ⟨i1, i2⟩ := index_S hf
    exact ⟨_, rfl, .inl ⟨rfl, _, SqL.of eq⟩, _, rfl, q, _, _, j, _, rfl, rfl, SqL.of eq, rfl, strL_flat _, i1, by rw [eqV_S]; exact beq_self_eq_true b, i2, this⟩
def spPartInit (K : PySem.W.Frag) : Sp := Sp4 fun p a b c H Q _ => ∃ q dx, p = .ref q ∧ H q = some (.ins (cPart K) dx []) ∧ Q .non (upd H q (.ins (cPart K) dx (F_Part a b c)))
theorem sc_Part___init__ : FnScope ["self", "name", "size", "statements"] ["self", "name", "size", "statements"] (defScope s_Part___init__) := ⟨rfl, rfl, rfl, by decide +kernel, rfl, by decide +kernel, by decide +kernel⟩
theorem ok_Part___init__ (T : Tx K mg) : FK P w K mg base CX0 1 (He.ma K (He.ga K "Part") "__init__") ["self", "name", "size", "statements"] (spPartInit K) := by
  obtain ⟨fd, F⟩ := T.f_Part___init__
  refine ⟨fd, F.ok sc_Part___init__ (fun vs H Q E h => Sp4.len h) (fun cdv A outer s H vs Q E hr h => ?body), F.bindsN (fun _ _ _ _ _ _ us hl => match us, hl with | [_, _, _, _], _ => rfl), F.kp⟩
  refine ⟨_, PSs.nox (pss_cons (ps_fld (pv 0) (pv 1) rfl)
      (pss_cons (ps_fld (pv 0) (pv 2) rfl)
      (pss_one (ps_fld (pv 0) (pv 3) rfl)))), ?_⟩
  obtain ⟨_, a, b, c, rfl, q, dx, rfl, hq, k⟩ := h
  refine ⟨_, rfl, _, rfl, q, _, dx, _, rfl, hq, T.c_Part, T.na_Part_name, by decide, ?_⟩
  refine ⟨_, rfl, _, rfl, q, _, dx, _, rfl, upd_same, T.c_Part, T.na_Part_size, by show 1 < 1000; decide, ?_⟩
  refine ⟨_, rfl, _, rfl, q, _, dx, _, rfl, upd_same, T.c_Part, T.na_Part_statements, by show 2 < 1000; decide, ?_⟩
  rw [upd_upd, upd_upd]
  rw [← i_Part] at k
  exact k
def spProgramInit (K : PySem.W.Frag) : Sp := Sp4 fun p a b c H Q _ => ∃ q dx, p = .ref q ∧ H q = some (.ins (cProgram K) dx []) ∧ Q .non (upd H q (.ins (cProgram K) dx (F_Program a b c)))
theorem sc_Program___init__ : FnScope ["self", "settings", "parts", "entries"] ["self", "settings", "parts", "entries"] (defScope s_Program___init__) := ⟨rfl, rfl, rfl, by decide +kernel, rfl, by decide +kernel, by decide +kernel⟩
theorem ok_Program___init__ (T : Tx K mg) : FK P w K mg base CX0 1 (He.ma K (He.ga K "Program") "__init__") ["self", "settings", "parts", "entries"] (spProgramInit K) := by
  obtain ⟨fd, F⟩ := T.f_Program___init__
  refine ⟨fd, F.ok sc_Program___init__ (fun vs H Q E h => Sp4.len h) (fun cdv A outer s H vs Q E hr h => ?body), F.bindsN (fun _ _ _ _ _ _ us hl => match us, hl with | [_, _, _, _], _ => rfl), F.kp⟩
  refine ⟨_, PSs.nox (pss_cons (ps_fld (pv 0) (pv 1) rfl)
      (pss_cons (ps_fld (pv 0) (pv 2) rfl)
      (pss_one (ps_fld (pv 0) (pv 3) rfl)))), ?_⟩
  obtain ⟨_, a, b, c, rfl, q, dx, rfl, hq, k⟩ := h
  refine ⟨_, rfl, _, rfl, q, _, dx, _, rfl, hq, T.c_Program, T.na_Program_settings, by decide, ?_⟩
  refine ⟨_, rfl, _, rfl, q, _, dx, _, rfl, upd_same, T.c_Program, T.na_Program_parts, by show 1 < 1000; decide, ?_⟩
  refine ⟨_, rfl, _, rfl, q, _, dx, _, rfl, upd_same, T.c_Program, T.na_Program_entries, by show 2 < 1000; decide, ?_⟩
  rw [upd_upd, upd_upd]
  rw [← i_Program] at k
  exact k
def spHowMany (K : PySem.W.Frag) : Sp := Sp1 fun a H Q _ => ∃ p ss, a = .ref p ∧ SetsAt K H p ss ∧ (∀ s ∈ ss, s.values.length ≤ 1000) ∧ ∀ H', Same H H' → Q (.int (tot ss : Nat)) H'
theorem sc_Program_how_many_assignments : FnScope ["self", "found", "name", "words"] ["self"] (defScope s_Program_how_many_assignments) := ⟨rfl, rfl, rfl, by decide +kernel, rfl, by decide +kernel, by decide +kernel⟩
theorem ok_Program_how_many_assignments (T : Tx K mg) : FK P w K mg base CX0 1 (He.ma K (He.ga K "Program") "how_many_assignments") ["self"] (spHowMany K) := by
  obtain ⟨fd, F⟩ := T.f_Program_how_many_assignments
  refine ⟨fd, F.ok sc_Program_how_many_assignments (fun vs H Q E h => Sp1.len h) (fun cdv A outer s H vs Q E hr h => ?body), F.bindsN (fun _ _ _ _ _ _ us hl => match us, hl with | [_], _ => rfl), F.kp⟩
  refine ⟨_, PSs.nox (pss_cons (ps_set (i := 1) sc_Program_how_many_assignments.nd rfl (.inl rfl) pe_int (hf := (.inr rfl)))
      (pss_cons (ps_for PassesOwn.never rfl (pi_list (pe_fld (pv 0) rfl)) (pg_tup (n := 2) rfl (pgs_cons (pg_name (i := 2) sc_Program_how_many_assignments.nd rfl (.inl rfl) (.inr rfl)) (pgs_cons (pg_name (i := 3) sc_Program_how_many_assignments.nd rfl (.inl rfl) (.inr rfl)) pgs_nil))) (pss_one (ps_set (i := 1) sc_Program_how_many_assignments.nd rfl (.inl rfl) (pe_op op_mul (pv 1) (pe_callB call_lenK rfl T.n_len boot_len (pa_cons (pv 3) pa_nil))) (hf := (.inr rfl)))))
      (pss_one (ps_ret (pv 1))))), ?_⟩
  obtain ⟨_, rfl, p, ss, rfl, ⟨dx, ls, y, z, vs, hp, hl, pr⟩, hz, k⟩ := h
  have hlen : vs.length = ss.length := Paired.length pr
  refine ⟨_, rfl, p, cProgram K, dx, _, _, rfl, hp, T.c_Program, T.na_Program_settings, l_Program_settings, ls, rfl, ⟨vs, SqL.of hl⟩, ?_⟩
  refine for_list (K := K) (a := ls) (xs := vs) (fun i σ H' => ∃ n w, σ = [some (.ref p), some (.int (tot (ss.take i) : Nat)), n, w] ∧ Same H H') ⟨none, none, rfl, Same.refl _⟩ (fun i σ H' _ ⟨_, _, _, e⟩ => e.seq (SqL.of hl)) ?_ ?_
  · rintro i x σ H' hx ⟨n, w, rfl, e⟩
    obtain ⟨s, es, t, l, rfl, ht, hl2⟩ := Paired.at_ pr hx
    refine ⟨t, _, rfl, SqT.of (e _ _ ht), rfl, _, _, rfl, _, _, rfl, rfl, ?_⟩
    have hb : s.values.length ≤ 1000 := hz s (List.mem_of_getElem? es)
    have hsl : (strL s.values).length = s.values.length := List.length_map _
    refine ⟨_, rfl, _, rfl, l, _, rfl, .inl (SqL.of (e _ _ hl2)), _, _, rfl, rfl, .inr ⟨by omega, by omega⟩, ?_⟩
    refine ⟨some (.str (S s.name)), some (.ref l), ?_, e⟩
    rw [tot_more es, Int.natCast_mul, ← hsl]
    rfl
  · rintro σ H' ⟨n, w, rfl, e⟩
    refine ⟨_, rfl, ?_⟩
    rw [hlen, List.take_length]
    exact k H' e
def spAssignment (K : PySem.W.Frag) : Sp := Sp2 fun a x H Q _ => ∃ p ss n, a = .ref p ∧ x = .int (n : Nat) ∧ SetsAt K H p ss ∧ ss.length < 1000 ∧ (∀ s ∈ ss, 0 < s.values.length ∧ s.values.length ≤ 1000) ∧
  ∀ q H', H q = none → Same H H' → H' q = some (.lst (natL (Vakepa.valuesBy (ss.map fun s => s.values.length) n))) → Q (.ref q) H'
theorem sc_Program_assignment : FnScope ["self", "number", "found", "name", "words", "word"] ["self", "number"] (defScope s_Program_assignment) := ⟨rfl, rfl, rfl, by decide +kernel, rfl, by decide +kernel, by decide +kernel⟩
theorem ok_Program_assignment (T : Tx K mg) : FK P w K mg base CX0 1 (He.ma K (He.ga K "Program") "assignment") ["self", "number"] (spAssignment K) := by
  obtain ⟨fd, F⟩ := T.f_Program_assignment
  refine ⟨fd, F.ok sc_Program_assignment (fun vs H Q E h => Sp2.len h) (fun cdv A outer s H vs Q E hr h => ?body), F.bindsN (fun _ _ _ _ _ _ us hl => match us, hl with | [_, _], _ => rfl), F.kp⟩
  refine ⟨_, PSs.nox (pss_cons (ps_set (i := 2) sc_Program_assignment.nd rfl (.inl rfl) (pe_lst pa_nil) (hf := (.inr rfl)))
      (pss_cons (ps_for PassesOwn.never rfl (pi_list (pe_fld (pv 0) rfl)) (pg_tup (n := 2) rfl (pgs_cons (pg_name (i := 3) sc_Program_assignment.nd rfl (.inl rfl) (.inr rfl)) (pgs_cons (pg_name (i := 4) sc_Program_assignment.nd rfl (.inl rfl) (.inr rfl)) pgs_nil))) (pss_cons (ps_asg (pe_callB call_divmod rfl T.n_divmod (by decide +kernel) (pa_cons (pv 1) (pa_cons (pe_callB call_lenK rfl T.n_len boot_len (pa_cons (pv 4) pa_nil)) pa_nil))) (pg_tup (n := 2) rfl (pgs_cons (pg_name (i := 1) sc_Program_assignment.nd rfl (.inl rfl) (.inr rfl)) (pgs_cons (pg_name (i := 5) sc_Program_assignment.nd rfl (.inl rfl) (.inr rfl)) pgs_nil))))
      (pss_one (ps_expr (pe_bm PySem.F.plainAttrs_list PySem.F.slot_list_append PySem.F.type_list_append mt_append (pv 2) (pa_cons (pv 5) pa_nil))))))
      (pss_one (ps_ret (pv 2))))), ?_⟩
  obtain ⟨_, _, rfl, p, ss, n, rfl, rfl, ⟨dx, ls, y, z, vs, hp, hl, pr⟩, hsz, hz, k⟩ := h
  have hlen : vs.length = ss.length := Paired.length pr
  refine ⟨by decide, fun D hD => ?_⟩
  refine ⟨_, rfl, p, cProgram K, dx, _, _, rfl, (Same.new hD) _ _ hp, T.c_Program, T.na_Program_settings, l_Program_settings, ls, rfl, ⟨vs, SqL.of ((Same.new hD) _ _ hl)⟩, ?_⟩
  refine for_list (K := K) (a := ls) (xs := vs) (fun i σ H' => ∃ m acc c d e', σ = [some (.ref p), some (.int (m : Nat)), some (.ref D), c, d, e'] ∧ Same H H' ∧ H' D = some (.lst (natL acc)) ∧ acc.length ≤ i ∧
    Vakepa.valuesBy (ss.map fun s => s.values.length) n = acc ++ Vakepa.valuesBy ((ss.map fun s => s.values.length).drop i) m) ⟨n, [], none, none, none, rfl, Same.new hD, upd_same, Nat.le_refl _, rfl⟩ (fun i σ H' _ ⟨_, _, _, _, _, _, e, _⟩ => e.seq (SqL.of hl)) ?_ ?_
  · rintro i x σ H' hx ⟨m, acc, c, d, e', rfl, e, eD, hacc, ev⟩
    have hi := (List.getElem?_eq_some_iff.mp hx).1
    obtain ⟨s, es, t, l, rfl, ht, hl2⟩ := Paired.at_ pr hx
    refine ⟨t, _, rfl, SqT.of (e _ _ ht), rfl, _, _, rfl, _, _, rfl, rfl, ?_⟩
    obtain ⟨h0, h1⟩ := hz s (List.mem_of_getElem? es)
    have hsl : (strL s.values).length = s.values.length := List.length_map _
    refine ⟨_, rfl, _, rfl, l, _, rfl, .inl (SqL.of (e _ _ hl2)), _, _, rfl, ⟨by omega, by omega⟩, fun q hq => ?_⟩
    have e2 := Same.trans e (Same.new (o := HO.tup [V.int ((m : Int) / ((strL s.values).length : Int)), V.int ((m : Int) % ((strL s.values).length : Int))]) hq)
    refine ⟨q, _, rfl, SqT.of upd_same, rfl, _, _, rfl, _, _, rfl, rfl, ?_⟩
    have eD2 := (Same.new (o := HO.tup [V.int ((m : Int) / ((strL s.values).length : Int)), V.int ((m : Int) % ((strL s.values).length : Int))]) hq) _ _ eD
    refine ⟨_, rfl, .inl ⟨rfl, _, SqL.of eD2⟩, _, rfl, D, _, _, rfl, rfl, eD2, szl (by unfold natL; rw [List.length_map]; omega), ?_⟩
    refine ⟨m / s.values.length, acc ++ [m % s.values.length], some (.str (S s.name)), some (.ref l), some (.int ((m % s.values.length : Nat) : Int)), ?_, L2.Same.mut e2 hD, ?_, ?_, ?_⟩
    · rw [hsl]
      rfl
    · rw [upd_same, hsl]
      simp [natL]
    · rw [List.length_append]
      simp
      omega
    · exact valuesBy_more (by rw [List.getElem?_map, es]; rfl) m acc ev
  · rintro σ H' ⟨m, acc, c, d, e', rfl, e, eD, hacc, ev⟩
    refine ⟨_, rfl, k D H' hD e ?_⟩
    rw [eD, ev, hlen, List.drop_of_length_le (by rw [List.length_map]; omega)]
    simp [Vakepa.valuesBy]
def spPieceWord (K : PySem.W.Frag) : Sp := Sp3 fun a x y H Q _ => ∃ p ss b c v, a = .ref p ∧ x = .str (S b) ∧ y = .ref c ∧ SetsAt K H p ss ∧ ss.length < 1000 ∧ H c = some (.lst (natL v)) ∧ Vok ss v ∧ ∀ H', Same H H' → Q (.str (S (wordOf ss v b))) H'
theorem sc_Program_piece_word : FnScope ["self", "piece", "chosen", "names", "place"] ["self", "piece", "chosen"] (defScope s_Program_piece_word) := ⟨rfl, rfl, rfl, by decide +kernel, rfl, by decide +kernel, by decide +kernel⟩
theorem ok_Program_piece_word (T : Tx K mg) : FK P w K mg base CX0 2 (He.ma K (He.ga K "Program") "piece_word") ["self", "piece", "chosen"] (spPieceWord K) := by
  obtain ⟨fd, F⟩ := T.f_Program_piece_word
  obtain ⟨fd0, G0, b0, k0⟩ := ok_Program_setting_names (P := P) (w := w) (base := base) T
  refine ⟨fd, F.ok sc_Program_piece_word (fun vs H Q E h => Sp3.len h) (fun cdv A outer s H vs Q E hr h => ?body), F.bindsN (fun _ _ _ _ _ _ us hl => match us, hl with | [_, _, _], _ => rfl), F.kp⟩
  refine ⟨_, PSs.nox (pss_cons (ps_set (i := 3) sc_Program_piece_word.nd rfl (.inl rfl) (pe_meth0 (pv 0) T.c_Program T.me_Program_setting_names G0 (hr.mono (by first | decide | omega)) b0 .nil pass0) (hf := (.inr rfl)))
      (pss_cons (ps_if (pt_cmpR op_notIn_seq (pv 1) (pv 3) rfl) (pss_one (ps_ret (pv 1))) pss_nil)
      (pss_cons (ps_set (i := 4) sc_Program_piece_word.nd rfl (.inl rfl) (pe_bm PySem.F.plainAttrs_list PySem.F.slot_list_index PySem.F.type_list_index mt_index (pv 3) (pa_cons (pv 1) pa_nil)) (hf := (.inr rfl)))
      (pss_one (ps_ret (pe_ix ix_list (pe_ix ix_tup (pe_ix ix_list (pe_fld (pv 0) rfl) (pv 4) (fun _ _ => rfl)) pe_int (fun _ _ => rfl)) (pe_ix ix_list (pv 2) (pv 4) (fun _ _ => rfl)) (fun _ _ => rfl))))))), ?_⟩
  obtain ⟨_, _, _, rfl, p, ss, b, c, v, rfl, rfl, rfl, hS, hz, hc, hv, k⟩ := h
  obtain ⟨dx, ls, y, z, vs, hp, hl, pr⟩ := id hS
  refine ⟨_, rfl, p, dx, _, rfl, hp, n_Program_setting_names, _, rfl, p, ss, rfl, hS, hz, fun q H1 hq e eq => ?_⟩
  refine ⟨_, rfl, _, rfl, q, _, rfl, .inl (SqL.of eq), rfl, strL_flat _, _, rfl, ?_⟩
  show if (!inV (.str (S b)) (strL (ss.map (·.name)))) = true then _ else _
  have hm := find_map (·.name) (· == b) ss
  rw [inV_S, find_of_contains, hm]
  have kk := k H1 e
  cases hf : ss.findIdx? (fun s => s.name == b) with
  | none =>
    unfold wordOf at kk
    rw [hf] at kk
    exact ⟨_, rfl, kk⟩
  | some j =>
    rw [hf] at hm
    obtain ⟨i1, i2⟩ := index_S hm
    obtain ⟨hj, _⟩ := List.findIdx?_eq_some_iff_getElem.mp hf
    obtain ⟨x, hx, t, l, rfl, ht, hl2⟩ := Paired.at2 pr (List.getElem?_eq_getElem hj)
    have hvl : j < v.length := by rw [hv.1]; exact hj
    have hw := hv.2 j _ _ (List.getElem?_eq_getElem hj) (List.getElem?_eq_getElem hvl)
    refine ⟨_, rfl, .inl ⟨rfl, _, SqL.of eq⟩, _, rfl, q, _, _, j, _, rfl, rfl, SqL.of eq, rfl, strL_flat _, i1, by rw [eqV_S]; exact beq_self_eq_true b, i2, ?_⟩
    refine ⟨_, rfl, p, _, dx, _, _, rfl, e _ _ hp, T.c_Program, T.na_Program_settings, l_Program_settings, _, rfl, ls, vs, _, _, rfl, rfl, SqL.of (e _ _ hl), atI_n hx, ?_⟩
    refine ⟨t, _, _, _, rfl, rfl, SqT.of (e _ _ ht), (atI_n (j := 1) rfl), ?_⟩
    refine ⟨_, rfl, _, rfl, c, _, _, _, rfl, rfl, SqL.of (e _ _ hc), atI_n (natL_at (List.getElem?_eq_getElem hvl)), ?_⟩
    refine ⟨l, _, _, _, rfl, rfl, SqL.of (e _ _ hl2), atI_n (strL_at (List.getElem?_eq_getElem hw)), ?_⟩
    unfold wordOf at kk
    rw [hf] at kk
    have e1 : v.getD j 0 = v[j] := by rw [List.getD_eq_getElem?_getD, List.getElem?_eq_getElem hvl]; rfl
    simp only [List.getElem?_eq_getElem hj, Option.bind_some, e1, List.getElem?_eq_getElem hw, Option.getD_some] at kk
    exact kk
def spMeant (K : PySem.W.Frag) : Sp := Sp3 fun a x y H Q _ => ∃ p ss nm bs l c v, a = .ref p ∧ x = .ref l ∧ y = .ref c ∧ SetsAt K H p ss ∧ NamesAt K H p nm ∧ ss.length < 1000 ∧ nm.length < 1000 ∧ H l = some (.lst (strL bs)) ∧ bs.length < 1000 ∧
  H c = some (.lst (natL v)) ∧ Vok ss v ∧ ((bs.map (wordOf ss v)).map List.length).sum ≤ 1000000 ∧ ∀ H', Same H H' → Q (optV (nm.findIdx? (· == (bs.map (wordOf ss v)).flatten))) H'
theorem sc_Program_meant : FnScope ["self", "pieces", "chosen", "piece"] ["self", "pieces", "chosen"] (defScope s_Program_meant) := ⟨rfl, rfl, rfl, by decide +kernel, rfl, by decide +kernel, by decide +kernel⟩
theorem ok_Program_meant (T : Tx K mg) : FK P w K mg base CX0 3 (He.ma K (He.ga K "Program") "meant") ["self", "pieces", "chosen"] (spMeant K) := by
  obtain ⟨fd, F⟩ := T.f_Program_meant
  obtain ⟨fd0, G0, b0, k0⟩ := ok_Program_number_of (P := P) (w := w) (base := base) T
  obtain ⟨fd1, G1, b1, k1⟩ := ok_Program_piece_word (P := P) (w := w) (base := base) T
  refine ⟨fd, F.ok sc_Program_meant (fun vs H Q E h => Sp3.len h) (fun cdv A outer s H vs Q E hr h => ?body), F.bindsN (fun _ _ _ _ _ _ us hl => match us, hl with | [_, _, _], _ => rfl), F.kp⟩
  refine ⟨_, PSs.nox (pss_one (ps_ret (pe_meth (pv 0) T.c_Program T.me_Program_number_of G0 (hr.mono (by first | decide | omega)) b0 .nil pass0 (pa_cons (pe_join pe_str (pe_lc (own := [("piece", 3)]) rfl sc_Program_meant.nd (pi_list (pv 1)) (blkOk_by (own := [("piece", 3)]) (N := ["self", "pieces", "chosen", "piece"]) (sc := defScope s_Program_meant) (by decide +kernel)) (fun _ _ _ _ _ => (pg_name (i := 3) sc_Program_meant.nd rfl (.inl rfl) (.inr rfl))) (fun _ _ _ _ _ => pts_nil) (fun _ _ _ _ _ => (pe_meth (pv 0) T.c_Program T.me_Program_piece_word G1 (hr.mono (by first | decide | omega)) b1 .nil pass0 (pa_cons (pv 3) (pa_cons (pv 2) pa_nil)))))) pa_nil)))), ?_⟩
  obtain ⟨_, _, _, rfl, p, ss, nm, bs, l, c, v, rfl, rfl, rfl, hS, hN, hsz, hnz, hl, hbz, hc, hv, hw, k⟩ := h
  obtain ⟨dx, ls, y, z, vs, hp, _⟩ := id hS
  refine ⟨_, rfl, p, dx, _, rfl, hp, n_Program_number_of, ⟨_, rfl⟩, ?_⟩
  refine ⟨_, rfl, l, rfl, ⟨_, SqL.of hl⟩, fun D hD => ?_⟩
  have hlen : (strL bs).length = bs.length := List.length_map _
  refine lc_pure (K := K) (xs := strL bs) (fun i => (bs[i]?).map fun b => .str (S (wordOf ss v b))) (SqL.of hl) hD (szl (by omega)) (fun i x H1 hx e Kt Kf kt kf => ?_) fun H1 e eD => ?_
  · have hi : i < bs.length := by rw [← hlen]; exact (List.getElem?_eq_some_iff.mp hx).1
    rw [strL_at (List.getElem?_eq_getElem hi)] at hx
    have ex := Option.some.inj hx
    subst ex
    exact ⟨rfl, _, rfl, p, dx, _, rfl, e _ _ hp, n_Program_piece_word, _, rfl, _, rfl, _, _, _, rfl, p, ss, _, c, v, rfl, rfl, rfl, hS.same e, hsz, e _ _ hc, hv, fun H2 e2 => kt _ _ (by rw [List.getElem?_eq_getElem hi]; rfl) e2⟩
  · rw [picks_at hlen] at eD
    have e1 : bs.map (fun b => V.str (S (wordOf ss v b))) = ((bs.map (wordOf ss v)).map S).map V.str := by
      rw [List.map_map, List.map_map]
      rfl
    rw [e1] at eD
    refine ⟨_, D, (bs.map (wordOf ss v)).map S, rfl, rfl, .inl (SqL.of eD), ?_, ?_⟩
    · rw [List.map_map]
      have e2 : (Str.length ∘ S) = List.length := funext S_length
      rw [e2]
      show _ + _ * 0 ≤ _
      omega
    · rw [TL.join_eq, ← S_nil, S_join, joined_nil]
      exact ⟨_, _, rfl, p, nm, _, rfl, rfl, hN.same e, hnz, fun H2 e2 => k H2 (Same.trans e e2)⟩
end
end Wk
set_option maxHeartbeats 2000000
namespace Wk
open PySem PySem.Spec PyProof.Rows L2
open Vakepa (Piece)
/-- what the statements still to do are, and how many -/
structure TOk (pr : Vakepa.Prog) (n : Nat) (st : RSt) : Prop where
  ok : ∀ e ∈ st.todo, OkS pr e.1
  len : st.todo.length ≤ n
  ent : st.ent.length ≤ n
  nd : st.ent.Nodup
  lt : ∀ k ∈ st.ent, k < pr.parts.length
section
variable {pr : Vakepa.Prog} {out v : List Nat} {n : Nat} {st : RSt}
theorem TOk.up (h : TOk pr n st) : TOk pr (n + 1) st := ⟨h.ok, Nat.le_succ_of_le h.len, Nat.le_succ_of_le h.ent, h.nd, h.lt⟩
theorem mark_len (k : Nat) (l : List Nat) : (Vakepa.mark k l).length ≤ l.length + 1 := by
  unfold Vakepa.mark
  split
  · omega
  · simp
theorem mark_mem (k j : Nat) (l : List Nat) : j ∈ Vakepa.mark k l ↔ j ∈ l ∨ j = k := by
  unfold Vakepa.mark
  split
  · rename_i c
    exact ⟨.inl, fun z => z.elim id fun e => e ▸ List.contains_iff_mem.mp c⟩
  · rw [List.mem_append, List.mem_singleton]
theorem mark_nodup {k : Nat} {l : List Nat} (h : l.Nodup) : (Vakepa.mark k l).Nodup := by
  unfold Vakepa.mark
  split
  · exact h
  · rename_i c
    exact List.nodup_append.mpr ⟨h, by simp, fun a ha b hb => by
      have e : b = k := by simpa using hb
      subst e
      exact fun z => c (List.contains_iff_mem.mpr (z ▸ ha))⟩
theorem Good.okBody (g : Good pr) {k : Nat} (hk : k < pr.parts.length) : OkS pr (Vakepa.bodyOf pr k) := by
  unfold Vakepa.bodyOf
  rw [List.getElem?_eq_getElem hk]
  exact (g.parts _ (List.getElem_mem hk)).2.2.2.1
theorem TOk.enter (g : Good pr) (h : TOk pr n st) {k : Nat} (hk : k < pr.parts.length) : TOk pr (n + 1) (enterM pr k st) := by
  have hm := mark_len k st.ent
  have h3 := h.ent
  have h2 := h.len
  have n1 : (Vakepa.mark k st.ent).Nodup := mark_nodup h.nd
  have n2 : ∀ j ∈ Vakepa.mark k st.ent, j < pr.parts.length := fun j hj => ((mark_mem k j _).mp hj).elim (h.lt j) fun e => e ▸ hk
  unfold enterM
  split
  · exact ⟨h.ok, by show st.todo.length ≤ _; omega, by show (Vakepa.mark k st.ent).length ≤ _; omega, n1, n2⟩
  · refine ⟨fun e he => ?_, by show st.todo.length + 1 ≤ _; omega, by show (Vakepa.mark k st.ent).length ≤ _; omega, n1, n2⟩
    rcases List.mem_cons.mp he with rfl | he
    · exact g.okBody hk
    · exact h.ok e he
theorem TOk.call (g : Good pr) (h : TOk pr n st) {k : Nat} (hk : k < pr.parts.length) : TOk pr (n + 1) (callM pr out k st) := by
  unfold callM
  split
  · exact ⟨h.ok, Nat.le_succ_of_le h.len, Nat.le_succ_of_le h.ent, h.nd, h.lt⟩
  · exact h.enter g hk
theorem TOk.make (g : Good pr) (h : TOk pr n st) (ps : List Piece) : TOk pr (n + 1) (makeM pr out v ps st) := by
  unfold makeM
  split
  · exact h.up
  · rename_i k e
    split
    · exact h.up
    · exact h.enter g (partNamed_lt e)
theorem TOk.do_ (g : Good pr) (h : TOk pr n st) {s : Stm} (hs : OkS pr s) : TOk pr (n + 1) (doM pr out v s st) := by
  cases s with
  | done => exact h.up
  | say => exact h.up
  | call k r => exact h.call g hs.1
  | make ps r => exact h.make g ps
  | when_ x w b r =>
    show TOk pr (n + 1) (if v.getD x 0 = w then { st with todo := (b, false) :: st.todo } else st)
    split
    · refine ⟨fun e he => ?_, Nat.succ_le_succ h.len, Nat.le_succ_of_le h.ent, h.nd, h.lt⟩
      rcases List.mem_cons.mp he with rfl | he
      · exact hs.2.1
      · exact h.ok e he
    · exact h.up
theorem closeT_mem : ∀ {t : List (Stm × Bool)} {e : Stm × Bool}, e ∈ closeT t → e ∈ t
  | [], _, h => h
  | (s, f) :: t, e, h => by
    unfold closeT at h
    split at h
    · exact List.mem_cons_of_mem _ (closeT_mem h)
    · exact h
theorem TOk.close (h : TOk pr n st) : TOk pr n (closeM st) := ⟨fun e he => h.ok e (closeT_mem he), Nat.le_trans (closeT_len _) h.len, h.ent, h.nd, h.lt⟩
theorem OkS.tail : ∀ {s : Stm}, OkS pr s → OkS pr (tailS s)
  | .done, h => h
  | .say _ _, h => h.2.2
  | .call _ _, h => h.2
  | .make _ _, h => h.2.2
  | .when_ _ _ _ _, h => h.2.2
theorem TOk.next (h : TOk pr n st) : TOk pr n { st with todo := nextM st.todo } := by
  obtain ⟨h1, h2, h3, h4, h5⟩ := h
  cases e : st.todo with
  | nil =>
    refine ⟨fun x hx => ?_, Nat.zero_le _, h3, h4, h5⟩
    cases hx
  | cons a t =>
    obtain ⟨s, f⟩ := a
    rw [e] at h1 h2
    refine ⟨fun x hx => ?_, h2, h3, h4, h5⟩
    rcases List.mem_cons.mp hx with rfl | hx
    · exact (h1 (s, f) List.mem_cons_self).tail
    · exact h1 x (List.mem_cons_of_mem _ hx)
theorem TOk.turn (g : Good pr) (h : TOk pr n st) : TOk pr (n + 1) (turnM pr out v st) := by
  unfold turnM
  split
  · rename_i c
    refine TOk.close (TOk.do_ g h.next ?_)
    cases e : st.todo with
    | nil => exact trivial
    | cons a t =>
      have := h.ok a (by rw [e]; exact List.mem_cons_self)
      exact this
  · exact h.up
theorem TOk.start : TOk pr 0 ⟨[], [], true⟩ := ⟨fun _ h => (nomatch h), Nat.le_refl _, Nat.le_refl _, List.nodup_nil, fun _ h => (nomatch h)⟩
theorem loopM_succ : ∀ (i : Nat) (st : RSt), loopM pr out v (i + 1) st = turnM pr out v (loopM pr out v i st)
  | 0, _ => rfl
  | i + 1, st => loopM_succ i (turnM pr out v st)
theorem TOk.loop (g : Good pr) (h : TOk pr n st) : ∀ i, TOk pr (n + i) (loopM pr out v i st)
  | 0 => h
  | i + 1 => by
    rw [loopM_succ]
    exact (TOk.loop g h i).turn g
theorem TOk.done (g : Good pr) {e : Nat} (he : e < pr.parts.length) : TOk pr 101 (doneM pr out v e) := TOk.loop (n := 1) g (TOk.close (TOk.call g TOk.start he)) 100
/-- after a close there is a statement to do -/
theorem closed_head : ∀ (i : Nat) (st : RSt) {s : Stm} {f : Bool} {t : List (Stm × Bool)}, (loopM pr out v i (closeM st)).todo = (s, f) :: t → s ≠ .done
  | 0, st, _, _, _, h => closeT_head (t := st.todo) h
  | i + 1, st, s, f, t, h => by
    rw [loopM_succ] at h
    unfold turnM at h
    split at h
    · exact closeT_head h
    · exact closed_head i st h
end
theorem gone {G H : Hp} (e : Same G H) {q : Addr} (h : H q = none) : G q = none := by
  cases x : G q with
  | none => rfl
  | some o => rw [e _ _ x] at h; cases h
theorem RunAt.pushNew {P : Program} {w : World} {K : PySem.W.Frag} {G H : Hp} {r : Addr} {c : RunC} {st : RSt} {as : List Addr} (h : RunAt P w K G H r c st as) {q l : Addr} {xs : List V} {s : Stm} {f : Bool} (hq : H q = none) (hl : G l = some (.lst xs)) (hs : StV c.pr G s xs) :
    RunAt P w K G (upd (upd H q (.lst [.ref l, .int 0, .bl f])) c.lo (.lst (as.map V.ref ++ [.ref q]))) r c { st with todo := (s, f) :: st.todo } (as ++ [q]) := by
  refine RunAt.push (h.same' (Same.new hq)) upd_same (gone h.same hq) (fun z => ?_) (fun z => ?_) hl hs
  · obtain ⟨xs, e⟩ := rows_lst h.rows _ z
    rw [hq] at e
    cases e
  · have := h.ol
    rw [← z, hq] at this
    cases this
theorem inV_N (k : Nat) (l : List Nat) : inV (.int (k : Int)) (natL l) = l.contains k := by
  unfold inV natL
  induction l with
  | nil => rfl
  | cons a r ih =>
    rw [List.map_cons, List.any_cons, ih, List.contains_cons]
    congr 1
    by_cases e : k = a
    · subst e
      have : eqV (.int (k : Int)) (.int (k : Int)) = true := by show ((k : Int) == (k : Int)) = true; simp
      rw [this]
      simp
    · rw [beq_eq_false_iff_ne.mpr e]
      exact beq_eq_false_iff_ne.mpr (fun z => e (by omega))
theorem natL_flat (l : List Nat) : (natL l).all flatV = true := by
  unfold natL
  rw [List.all_map]
  exact List.all_eq_true.mpr fun _ _ => rfl
theorem natL_len (l : List Nat) : (natL l).length = l.length := List.length_map _
theorem entK_len (l : List Nat) : (entK l).length = l.length := List.length_map _
theorem RunAt.len {P : Program} {w : World} {K : PySem.W.Frag} {G H : Hp} {r : Addr} {c : RunC} {st : RSt} {as : List Addr} (h : RunAt P w K G H r c st as) : as.length = st.todo.length := by
  rw [Paired.length h.rows, List.length_reverse]
section
variable {P : Program} {w : World} {K : PySem.W.Frag} {mg : Str → Option Value} {base : Heap}
def spRunInit (P : Program) (w : World) (K : PySem.W.Frag) : Sp := Sp4 fun s p c l H Q _ => ∃ r dx, s = .ref r ∧ H r = some (.ins (cRun K) dx []) ∧ ∀ lo de H', H lo = none → H de = none → lo ≠ de → (∀ b o, H b = some o → b ≠ r → H' b = some o) →
  H' r = some (.ins (cRun K) dx (F_Run p c l (.ref lo) (.ref de) (.bl true))) → H' lo = some (.lst []) → H' de = some (dN P w de []) → Q .non H'
theorem sc_Run___init__ : FnScope ["self", "program", "chosen", "left"] ["self", "program", "chosen", "left"] (defScope s_Run___init__) := ⟨rfl, rfl, rfl, by decide +kernel, rfl, by decide +kernel, by decide +kernel⟩
theorem ok_Run___init__ (T : Tx K mg) : FK P w K mg base CX0 1 (He.ma K (He.ga K "Run") "__init__") ["self", "program", "chosen", "left"] (spRunInit P w K) := by
  obtain ⟨fd, F⟩ := T.f_Run___init__
  refine ⟨fd, F.ok sc_Run___init__ (fun vs H Q E h => Sp4.len h) (fun cdv A outer s H vs Q E hr h => ?body), F.bindsN (fun _ _ _ _ _ _ us hl => match us, hl with | [_, _, _, _], _ => rfl), F.kp⟩
  refine ⟨_, PSs.nox (pss_cons (ps_fld (pv 0) (pv 1) rfl)
      (pss_cons (ps_fld (pv 0) (pv 2) rfl)
      (pss_cons (ps_fld (pv 0) (pv 3) rfl)
      (pss_cons (ps_fld (pv 0) (pe_lst pa_nil) rfl)
      (pss_cons (ps_fld (pv 0) pe_newN rfl)
      (pss_one (ps_fld (pv 0) pe_bl rfl))))))), ?_⟩
  obtain ⟨_, p, c, l, rfl, r, dx, rfl, hr, k⟩ := h
  refine ⟨_, rfl, _, rfl, r, _, dx, _, rfl, hr, T.c_Run, T.na_Run_program, by decide, ?_⟩
  refine ⟨_, rfl, _, rfl, r, _, dx, _, rfl, upd_same, T.c_Run, T.na_Run_chosen, by show 1 < 1000; decide, ?_⟩
  refine ⟨_, rfl, _, rfl, r, _, dx, _, rfl, upd_same, T.c_Run, T.na_Run_left, by show 2 < 1000; decide, ?_⟩
  refine ⟨by decide, fun lo hlo => ?_⟩
  have nlo : lo ≠ r := fun z => by rw [z, upd_same] at hlo; cases hlo
  have hlo0 : H lo = none := by rw [upd_ne nlo, upd_ne nlo, upd_ne nlo] at hlo; exact hlo
  refine ⟨_, rfl, r, _, dx, _, rfl, by rw [upd_ne nlo.symm]; exact upd_same, T.c_Run, T.na_Run_open_ones, by show 3 < 1000; decide, fun de hde => ?_⟩
  have nde : de ≠ r := fun z => by rw [z, upd_same] at hde; cases hde
  have nld : lo ≠ de := fun z => by rw [← z, upd_ne nlo, upd_same] at hde; cases hde
  have hde0 : H de = none := by rw [upd_ne nde, upd_ne nld.symm, upd_ne nde, upd_ne nde, upd_ne nde] at hde; exact hde
  refine ⟨_, rfl, r, _, dx, _, rfl, by rw [upd_ne nde.symm]; exact upd_same, T.c_Run, T.na_Run_entered, by show 4 < 1000; decide, ?_⟩
  refine ⟨_, rfl, r, _, dx, _, rfl, upd_same, T.c_Run, T.na_Run_is_going, by show 5 < 1000; decide, ?_⟩
  refine k lo de _ hlo0 hde0 nld (fun b o hb nb => ?_) ?_ ?_ ?_
  · have n1 : b ≠ lo := ne_of_none hb hlo0
    have n2 : b ≠ de := ne_of_none hb hde0
    rw [upd_ne nb, upd_ne nb, upd_ne n2, upd_ne nb, upd_ne n1, upd_ne nb, upd_ne nb, upd_ne nb]
    exact hb
  · rw [upd_same, i_Run]
  · rw [upd_ne nlo, upd_ne nlo, upd_ne nld, upd_ne nlo, upd_same]
  · rw [upd_ne nde, upd_ne nde, upd_same]
    rfl
def spDepth (P : Program) (w : World) (K : PySem.W.Frag) : Sp := Sp1 fun s H Q _ => ∃ G r c st as, s = .ref r ∧ RunAt P w K G H r c st as ∧ as.length < 1000 ∧ ∀ H', Same H H' → Q (.int (within st.todo : Nat)) H'
theorem sc_Run_depth : FnScope ["self", "row"] ["self"] (defScope s_Run_depth) := ⟨rfl, rfl, rfl, by decide +kernel, rfl, by decide +kernel, by decide +kernel⟩
theorem ok_Run_depth (T : Tx K mg) : FK P w K mg base CX0 1 (He.ma K (He.ga K "Run") "depth") ["self"] (spDepth P w K) := by
  obtain ⟨fd, F⟩ := T.f_Run_depth
  refine ⟨fd, F.ok sc_Run_depth (fun vs H Q E h => Sp1.len h) (fun cdv A outer s H vs Q E hr h => ?body), F.bindsN (fun _ _ _ _ _ _ us hl => match us, hl with | [_], _ => rfl), F.kp⟩
  refine ⟨_, PSs.nox (pss_one (ps_ret (pe_callB call_lenK rfl T.n_len boot_len (pa_cons (pe_lc (own := [("row", 1)]) rfl sc_Run_depth.nd (pi_list (pe_fld (pv 0) rfl)) (blkOk_by (own := [("row", 1)]) (N := ["self", "row"]) (sc := defScope s_Run_depth) (by decide +kernel)) (fun _ _ _ _ _ => (pg_name (i := 1) sc_Run_depth.nd rfl (.inl rfl) (.inr rfl))) (fun _ _ _ _ _ => (pts_one (pt_val (show PE _ _ (tOp (rIxL K) _ _) from by exact (pe_ix ix_list (pv 1) pe_int (fun _ _ => rfl)))))) (fun _ _ _ _ _ => (pv 1))) pa_nil)))), ?_⟩
  obtain ⟨_, rfl, G, r, c, st, as, rfl, h, hz, k⟩ := h
  refine ⟨_, rfl, r, _, c.dx, _, _, rfl, h.ins, T.c_Run, T.na_Run_open_ones, l_Run_open_ones, c.lo, rfl, ⟨_, SqL.of h.ol⟩, fun D hD => ?_⟩
  have hlen : as.length = st.todo.reverse.length := Paired.length h.rows
  have hzl : (as.zip st.todo.reverse).length = as.length := by rw [List.length_zip]; omega
  refine lc_pure (K := K) (xs := as.map V.ref) (fun i => ((as.zip st.todo.reverse)[i]?).bind fun x => if x.2.2 = true then some (V.ref x.1) else none) (SqL.of h.ol) hD (szl (by rw [List.length_map]; exact Nat.lt_trans hz (by decide))) (fun i x H1 hx e Kt Kf kt kf => ?_) fun H1 e eD => ?_
  · have hi : i < as.length := by have := (List.getElem?_eq_some_iff.mp hx).1; rwa [List.length_map] at this
    rw [List.getElem?_map, List.getElem?_eq_getElem hi] at hx
    have ex := Option.some.inj hx
    subst ex
    obtain ⟨e1, he1, l, xs, s0, j, ha, _⟩ := Paired.at_ h.rows (List.getElem?_eq_getElem hi)
    have hzi : (as.zip st.todo.reverse)[i]? = some (as[i], e1) := by
      rw [List.getElem?_zip_eq_some]
      exact ⟨List.getElem?_eq_getElem hi, he1⟩
    refine ⟨rfl, _, rfl, as[i], _, _, _, rfl, rfl, SqL.of (e _ _ ha), atI_n (j := 2) rfl, e1.2, rfl, ?_⟩
    cases hb : e1.2 with
    | true => exact ⟨_, rfl, kt _ _ (by rw [hzi]; simp [hb]) (Same.refl _)⟩
    | false => exact kf _ (by rw [hzi]; simp [hb]) (Same.refl _)
  · rw [List.length_map, ← hzl, picks_bind rfl] at eD
    refine ⟨D, _, rfl, .inl (SqL.of eD), ?_⟩
    rw [zip_flags hlen, within_rev]
    exact k H1 e
def spEnter (P : Program) (w : World) (K : PySem.W.Frag) : Sp := Sp2 fun s x H Q _ => ∃ G r c st as k, s = .ref r ∧ x = .int (k : Nat) ∧ RunAt P w K G H r c st as ∧ st.todo.length < 900 ∧ st.ent.length < 900 ∧ k < c.pr.parts.length ∧
  ∀ H' as', RunAt P w K G H' r c (enterM c.pr k st) as' → Q .non H'
theorem sc_Run_enter : FnScope ["self", "number"] ["self", "number"] (defScope s_Run_enter) := ⟨rfl, rfl, rfl, by decide +kernel, rfl, by decide +kernel, by decide +kernel⟩
theorem ok_Run_enter (T : Tx K mg) : FK P w K mg base CX0 2 (He.ma K (He.ga K "Run") "enter") ["self", "number"] (spEnter P w K) := by
  obtain ⟨fd, F⟩ := T.f_Run_enter
  obtain ⟨fd0, G0, b0, k0⟩ := ok_Run_depth (P := P) (w := w) (base := base) T
  refine ⟨fd, F.ok sc_Run_enter (fun vs H Q E h => Sp2.len h) (fun cdv A outer s H vs Q E hr h => ?body), F.bindsN (fun _ _ _ _ _ _ us hl => match us, hl with | [_, _], _ => rfl), F.kp⟩
  refine ⟨_, PSs.nox (pss_cons (ps_putN (pe_fld (pv 0) rfl) (pv 1) pe_bl)
      (pss_one (ps_if (pt_cmpR op_eq (pe_meth0 (pv 0) T.c_Run T.me_Run_depth G0 (hr.mono (by first | decide | omega)) b0 .nil pass0) (C8.pe_gc rfl T.k_MOST_WITHIN) (nomark _)) (pss_one (ps_fld (pv 0) pe_bl rfl)) (pss_one (ps_expr (pe_bm PySem.F.plainAttrs_list PySem.F.slot_list_append PySem.F.type_list_append mt_append (pe_fld (pv 0) rfl) (pa_cons (pe_lst (pa_cons (pe_fld (pe_ix ix_list (pe_fld (pe_fld (pv 0) rfl) rfl) (pv 1) (fun _ _ => rfl)) rfl) (pa_cons pe_int (pa_cons pe_bl pa_nil)))) pa_nil))))))), ?_⟩
  obtain ⟨_, _, rfl, G, r, c, st, as, k, rfl, rfl, h, hz, hez, hk, kk⟩ := h
  refine ⟨_, rfl, r, _, c.dx, _, _, rfl, h.ins, T.c_Run, T.na_Run_entered, l_Run_entered, _, rfl, ?_⟩
  refine ⟨c.de, entK st.ent, some (k : Int), rfl, rfl, rfl, h.ent, szl (by rw [entK_len]; omega), ?_⟩
  rw [entK_mark]
  have h1 := h.setEnt (Vakepa.mark k st.ent)
  have hl := h.len
  refine ⟨_, rfl, r, c.dx, _, rfl, h1.ins, n_Run_depth, ⟨_, rfl, G, r, c, _, as, rfl, h1, by omega, fun H2 e2 => ?_⟩⟩
  have h2 := h1.same' e2
  refine ⟨rfl, _, rfl, ?_⟩
  show if decide (V.int ((within st.todo : Nat) : Int) = V.int 9) = true then _ else _
  have ew : (V.int ((within st.todo : Nat) : Int) = V.int 9) ↔ within st.todo = 9 := ⟨fun z => by have := V.int.inj z; omega, fun z => by rw [z]; rfl⟩
  unfold enterM at kk
  by_cases hw : within st.todo = 9
  · rw [if_pos (decide_eq_true (ew.mpr hw))]
    rw [if_pos hw] at kk
    refine ⟨_, rfl, r, _, c.dx, _, rfl, h2.ins, T.c_Run, T.na_Run_is_going, by show 6 < 1000; decide, ?_⟩
    rw [p_Run_is_going]
    exact kk _ _ (h2.setGoing false)
  · rw [if_neg fun z => hw (ew.mp (of_decide_eq_true z))]
    rw [if_neg hw] at kk
    refine ⟨_, rfl, r, _, c.dx, _, _, rfl, h2.ins, T.c_Run, T.na_Run_open_ones, l_Run_open_ones, .inl ⟨rfl, _, SqL.of h2.ol⟩, ?_⟩
    obtain ⟨dx, ls, lp, le, ws, a, da, nm, z, l, xs, hp, hlp, hws, ha, hz, hlx, hst, hnm⟩ := h.prog.body hk
    have sm := h2.same
    refine ⟨_, rfl, r, _, c.dx, _, _, rfl, h2.ins, T.c_Run, T.na_Run_program, l_Run_program, c.p, _, dx, _, _, rfl, sm _ _ hp, T.c_Program, T.na_Program_parts, l_Program_parts, ?_⟩
    refine ⟨_, rfl, lp, ws, _, _, rfl, rfl, SqL.of (sm _ _ hlp), atI_n hws, a, _, da, _, _, rfl, sm _ _ ha, T.c_Part, T.na_Part_statements, l_Part_statements, ?_⟩
    refine ⟨by show 3 ≤ sizeLine; decide, fun q hq => ?_⟩
    refine ⟨c.lo, as.map V.ref, _, rfl, rfl, ?_, szl (by rw [List.length_map]; omega), ?_⟩
    · rw [upd_ne (ne_of_none h2.ol hq)]
      exact h2.ol
    · exact kk _ _ (h2.pushNew (f := true) hq hlx hst)
def spCall (P : Program) (w : World) (K : PySem.W.Frag) : Sp := Sp2 fun s x H Q _ => ∃ G r c st as k, s = .ref r ∧ x = .int (k : Nat) ∧ RunAt P w K G H r c st as ∧ st.todo.length < 900 ∧ st.ent.length < 900 ∧ k < c.pr.parts.length ∧
  ∀ H' as', RunAt P w K G H' r c (callM c.pr c.out k st) as' → Q .non H'
theorem sc_Run_call : FnScope ["self", "number"] ["self", "number"] (defScope s_Run_call) := ⟨rfl, rfl, rfl, by decide +kernel, rfl, by decide +kernel, by decide +kernel⟩
theorem ok_Run_call (T : Tx K mg) : FK P w K mg base CX0 3 (He.ma K (He.ga K "Run") "call") ["self", "number"] (spCall P w K) := by
  obtain ⟨fd, F⟩ := T.f_Run_call
  obtain ⟨fd0, G0, b0, k0⟩ := ok_Run_enter (P := P) (w := w) (base := base) T
  refine ⟨fd, F.ok sc_Run_call (fun vs H Q E h => Sp2.len h) (fun cdv A outer s H vs Q E hr h => ?body), F.bindsN (fun _ _ _ _ _ _ us hl => match us, hl with | [_, _], _ => rfl), F.kp⟩
  refine ⟨_, PSs.nox (pss_one (ps_if (pt_cmpR op_in_seq (pv 1) (pe_fld (pv 0) rfl) rfl) (pss_one (ps_fld (pv 0) pe_bl rfl)) (pss_one (ps_expr (pe_meth (pv 0) T.c_Run T.me_Run_enter G0 (hr.mono (by first | decide | omega)) b0 .nil pass0 (pa_cons (pv 1) pa_nil)))))), ?_⟩
  obtain ⟨_, _, rfl, G, r, c, st, as, k, rfl, rfl, h, hz, hez, hk, kk⟩ := h
  refine ⟨_, rfl, _, rfl, r, _, c.dx, _, _, rfl, h.ins, T.c_Run, T.na_Run_left, l_Run_left, c.l, _, rfl, .inr (SqT.of (h.same _ _ h.lf)), rfl, natL_flat _, _, rfl, ?_⟩
  show if inV (.int (k : Int)) (natL c.out) = true then _ else _
  rw [inV_N]
  unfold callM at kk
  by_cases hc : c.out.contains k = true
  · rw [if_pos hc]
    rw [if_pos hc] at kk
    refine ⟨_, rfl, r, _, c.dx, _, rfl, h.ins, T.c_Run, T.na_Run_is_going, by show 6 < 1000; decide, ?_⟩
    rw [p_Run_is_going]
    exact kk _ _ (h.setGoing false)
  · rw [if_neg hc]
    rw [if_neg hc] at kk
    exact ⟨_, rfl, r, c.dx, _, rfl, h.ins, n_Run_enter, _, rfl, _, _, rfl, G, r, c, st, as, k, rfl, rfl, h, hz, hez, hk, kk⟩
def spRMake (P : Program) (w : World) (K : PySem.W.Frag) : Sp := Sp2 fun s x H Q _ => ∃ G r c st as l ps, s = .ref r ∧ x = .ref l ∧ RunAt P w K G H r c st as ∧ st.todo.length < 900 ∧ st.ent.length < 900 ∧ G l = some (.lst (strL (ps.map (Vakepa.showPiece c.pr)))) ∧ ps.length ≤ 3 ∧ (∀ q ∈ ps, OkP c.pr q) ∧
  ∀ H' as', RunAt P w K G H' r c (makeM c.pr c.out c.v ps st) as' → Q .non H'
theorem sc_Run_make : FnScope ["self", "pieces", "number"] ["self", "pieces"] (defScope s_Run_make) := ⟨rfl, rfl, rfl, by decide +kernel, rfl, by decide +kernel, by decide +kernel⟩
theorem ok_Run_make (T : Tx K mg) : FK P w K mg base CX0 4 (He.ma K (He.ga K "Run") "make") ["self", "pieces"] (spRMake P w K) := by
  obtain ⟨fd, F⟩ := T.f_Run_make
  obtain ⟨fd0, G0, b0, k0⟩ := ok_Run_enter (P := P) (w := w) (base := base) T
  obtain ⟨fd1, G1, b1, k1⟩ := ok_Program_meant (P := P) (w := w) (base := base) T
  refine ⟨fd, F.ok sc_Run_make (fun vs H Q E h => Sp2.len h) (fun cdv A outer s H vs Q E hr h => ?body), F.bindsN (fun _ _ _ _ _ _ us hl => match us, hl with | [_, _], _ => rfl), F.kp⟩
  refine ⟨_, PSs.nox (pss_cons (ps_set (i := 2) sc_Run_make.nd rfl (.inl rfl) (pe_meth (pe_fld (pv 0) rfl) T.c_Program T.me_Program_meant G1 (hr.mono (by first | decide | omega)) b1 .nil pass0 (pa_cons (pv 1) (pa_cons (pe_fld (pv 0) rfl) pa_nil))) (hf := (.inr rfl)))
      (pss_one (ps_if (PW.pt (pw_and (pt_cmpR op_notN (pv 2) pe_non (nomark _)) (pw_and1 (pt_cmpR op_notIn_seq (pv 2) (pe_fld (pv 0) rfl) rfl)))) (pss_one (ps_expr (pe_meth (pv 0) T.c_Run T.me_Run_enter G0 (hr.mono (by first | decide | omega)) b0 .nil pass0 (pa_cons (pv 2) pa_nil)))) pss_nil))), ?_⟩
  obtain ⟨_, _, rfl, G, r, c, st, as, l, ps, rfl, rfl, h, hz, hez, hl, hp3, hok, kk⟩ := h
  obtain ⟨dx, ls, lp, le, vs, ws, hP⟩ := id h.prog
  have sm := h.same
  have hS := h.prog.setsAt.same sm
  have hN := h.prog.namesAt.same sm
  have g := h.good
  refine ⟨_, rfl, r, _, c.dx, _, _, rfl, h.ins, T.c_Run, T.na_Run_program, l_Run_program, c.p, dx, _, rfl, sm _ _ hP.ins, n_Program_meant, _, rfl, ?_⟩
  refine ⟨_, rfl, r, _, c.dx, _, _, rfl, h.ins, T.c_Run, T.na_Run_chosen, l_Run_chosen, _, _, _, rfl, ?_⟩
  refine ⟨c.p, c.pr.sets, c.pr.parts.map (·.name), ps.map (Vakepa.showPiece c.pr), l, c.c, c.v, rfl, rfl, rfl, hS, hN, by have := g.nsets; omega, by have := g.nparts; rw [List.length_map]; omega, sm _ _ hl, by rw [List.length_map]; omega, sm _ _ h.ch, h.vok, ?_, fun H2 e2 => ?_⟩
  · have := pieces_size (v := c.v) g hok
    omega
  · rw [made_eq g hok, partNamed_eq]
    have h2 := h.same' e2
    unfold makeM at kk
    cases hn : Vakepa.partNamed c.pr (Vakepa.madeName c.pr c.v ps) with
    | none =>
      rw [hn] at kk
      exact ⟨_, rfl, rfl, _, rfl, kk _ _ h2⟩
    | some k =>
      rw [hn] at kk
      have hk := partNamed_lt hn
      refine ⟨_, rfl, rfl, _, rfl, _, rfl, _, rfl, r, _, c.dx, _, _, rfl, h2.ins, T.c_Run, T.na_Run_left, l_Run_left, c.l, _, rfl, .inr (SqT.of (h2.same _ _ h2.lf)), rfl, natL_flat _, _, rfl, ?_⟩
      show if (!inV (.int (k : Int)) (natL c.out)) = true then _ else _
      rw [inV_N]
      by_cases hc : c.out.contains k = true
      · rw [hc]
        simp only [hc, if_true] at kk
        exact kk _ _ h2
      · have hc' : c.out.contains k = false := by simpa using hc
        rw [hc']
        simp only [hc', Bool.false_eq_true, if_false] at kk
        exact ⟨_, rfl, r, c.dx, _, rfl, h2.ins, n_Run_enter, _, rfl, _, _, rfl, G, r, c, st, as, k, rfl, rfl, h2, hz, hez, hk, kk⟩
def spDoOne (P : Program) (w : World) (K : PySem.W.Frag) : Sp := Sp2 fun s x H Q _ => ∃ G r c st as t stm, s = .ref r ∧ x = .ref t ∧ RunAt P w K G H r c st as ∧ st.todo.length < 900 ∧ st.ent.length < 900 ∧ ItV c.pr G stm t ∧ OkS c.pr stm ∧
  ∀ H' as', RunAt P w K G H' r c (doM c.pr c.out c.v stm st) as' → Q .non H'
theorem sc_Run_do_one : FnScope ["self", "statement"] ["self", "statement"] (defScope s_Run_do_one) := ⟨rfl, rfl, rfl, by decide +kernel, rfl, by decide +kernel, by decide +kernel⟩
theorem ok_Run_do_one (T : Tx K mg) : FK P w K mg base CX0 5 (He.ma K (He.ga K "Run") "do_one") ["self", "statement"] (spDoOne P w K) := by
  obtain ⟨fd, F⟩ := T.f_Run_do_one
  obtain ⟨fd0, G0, b0, k0⟩ := ok_Run_call (P := P) (w := w) (base := base) T
  obtain ⟨fd1, G1, b1, k1⟩ := ok_Program_number_of (P := P) (w := w) (base := base) T
  obtain ⟨fd2, G2, b2, k2⟩ := ok_Run_make (P := P) (w := w) (base := base) T
  refine ⟨fd, F.ok sc_Run_do_one (fun vs H Q E h => Sp2.len h) (fun cdv A outer s H vs Q E hr h => ?body), F.bindsN (fun _ _ _ _ _ _ us hl => match us, hl with | [_, _], _ => rfl), F.kp⟩
  refine ⟨_, PSs.nox (pss_one (ps_if (pt_cmpR op_eq (pe_ix ix_tup (pv 1) pe_int (fun _ _ => rfl)) (C8.pe_gc rfl T.k_CALL) (nomark _)) (pss_one (ps_expr (pe_meth (pv 0) T.c_Run T.me_Run_call G0 (hr.mono (by first | decide | omega)) b0 .nil pass0 (pa_cons (pe_meth (pe_fld (pv 0) rfl) T.c_Program T.me_Program_number_of G1 (hr.mono (by first | decide | omega)) b1 .nil pass0 (pa_cons (pe_ix ix_tup (pv 1) pe_int (fun _ _ => rfl)) pa_nil)) pa_nil)))) (pss_one (ps_if (pt_cmpR op_eq (pe_ix ix_tup (pv 1) pe_int (fun _ _ => rfl)) (C8.pe_gc rfl T.k_MAKE) (nomark _)) (pss_one (ps_expr (pe_meth (pv 0) T.c_Run T.me_Run_make G2 (hr.mono (by first | decide | omega)) b2 .nil pass0 (pa_cons (pe_ix ix_tup (pv 1) pe_int (fun _ _ => rfl)) pa_nil)))) (pss_one (ps_if (PW.pt (pw_and (pt_cmpR op_eq (pe_ix ix_tup (pv 1) pe_int (fun _ _ => rfl)) (C8.pe_gc rfl T.k_WHEN) (nomark _)) (pw_and1 (pt_cmpR op_eq (pe_ix ix_list (pe_fld (pv 0) rfl) (pe_ix ix_tup (pv 1) pe_int (fun _ _ => rfl)) (fun _ _ => rfl)) (pe_ix ix_tup (pv 1) pe_int (fun _ _ => rfl)) (nomark _))))) (pss_one (ps_expr (pe_bm PySem.F.plainAttrs_list PySem.F.slot_list_append PySem.F.type_list_append mt_append (pe_fld (pv 0) rfl) (pa_cons (pe_lst (pa_cons (pe_ix ix_tup (pv 1) pe_int (fun _ _ => rfl)) (pa_cons pe_int (pa_cons pe_bl pa_nil)))) pa_nil)))) pss_nil)))))), ?_⟩
  obtain ⟨_, _, rfl, G, r, c, st, as, t, stm, rfl, rfl, h, hz, hez, ht, hok, kk⟩ := h
  have sm := h.same
  have g := h.good
  cases stm with
  | done => exact ht.elim
  | say k b =>
    have ht' : G t = some (.tup [.str "say", .int (k : Nat)]) := ht
    refine ⟨_, rfl, t, _, _, _, rfl, rfl, SqT.of (sm _ _ ht'), rfl, rfl, _, rfl, ?_⟩
    refine ⟨_, rfl, t, _, _, _, rfl, rfl, SqT.of (sm _ _ ht'), rfl, rfl, _, rfl, ?_⟩
    refine ⟨_, rfl, t, _, _, _, rfl, rfl, SqT.of (sm _ _ ht'), rfl, rfl, _, rfl, ?_⟩
    exact kk _ _ h
  | call k b =>
    have ht' : G t = some (.tup [.str "call", .str (S (Vakepa.nameOf c.pr k))]) := ht
    have hk : k < c.pr.parts.length := hok.1
    obtain ⟨dx, ls, lp, le, vs, ws, hP⟩ := id h.prog
    refine ⟨_, rfl, t, _, _, _, rfl, rfl, SqT.of (sm _ _ ht'), rfl, rfl, _, rfl, ?_⟩
    refine ⟨_, rfl, r, c.dx, _, rfl, h.ins, n_Run_call, ?_⟩
    refine ⟨_, rfl, r, _, c.dx, _, _, rfl, h.ins, T.c_Run, T.na_Run_program, l_Run_program, c.p, dx, _, rfl, sm _ _ hP.ins, n_Program_number_of, ?_⟩
    refine ⟨_, rfl, t, _, _, _, rfl, rfl, SqT.of (sm _ _ ht'), (atI_n (j := 1) rfl), _, _, rfl, c.p, _, _, rfl, rfl, h.prog.namesAt.same sm, by have := g.nparts; rw [List.length_map]; omega, fun H2 e2 => ?_⟩
    rw [partNamed_of g hk]
    exact ⟨_, _, rfl, G, r, c, st, as, k, rfl, rfl, h.same' e2, hz, hez, hk, kk⟩
  | make ps b =>
    obtain ⟨l, ht', hl⟩ : ∃ l, G t = some (.tup [.str "make", .ref l]) ∧ G l = some (.lst (strL (ps.map (Vakepa.showPiece c.pr)))) := ht
    refine ⟨_, rfl, t, _, _, _, rfl, rfl, SqT.of (sm _ _ ht'), rfl, rfl, _, rfl, ?_⟩
    refine ⟨_, rfl, t, _, _, _, rfl, rfl, SqT.of (sm _ _ ht'), rfl, rfl, _, rfl, ?_⟩
    refine ⟨_, rfl, r, c.dx, _, rfl, h.ins, n_Run_make, ?_⟩
    exact ⟨_, rfl, t, _, _, _, rfl, rfl, SqT.of (sm _ _ ht'), (atI_n (j := 1) rfl), _, _, rfl, G, r, c, st, as, l, ps, rfl, rfl, h, hz, hez, hl, hok.1, hok.2.1, kk⟩
  | when_ x v b rs =>
    obtain ⟨l, zs, ht', hl, hst⟩ : ∃ l zs, G t = some (.tup [.str "when", .int (x : Nat), .int (v : Nat), .ref l]) ∧ G l = some (.lst zs) ∧ StV c.pr G b zs := ht
    obtain ⟨s, hs, hv⟩ := hok.1
    have hxl : x < c.v.length := by rw [h.vok.1]; exact (List.getElem?_eq_some_iff.mp hs).1
    refine ⟨_, rfl, t, _, _, _, rfl, rfl, SqT.of (sm _ _ ht'), rfl, rfl, _, rfl, ?_⟩
    refine ⟨_, rfl, t, _, _, _, rfl, rfl, SqT.of (sm _ _ ht'), rfl, rfl, _, rfl, ?_⟩
    refine ⟨_, rfl, t, _, _, _, rfl, rfl, SqT.of (sm _ _ ht'), rfl, rfl, _, rfl, ?_⟩
    refine ⟨_, rfl, r, _, c.dx, _, _, rfl, h.ins, T.c_Run, T.na_Run_chosen, l_Run_chosen, ?_⟩
    refine ⟨_, rfl, t, _, _, _, rfl, rfl, SqT.of (sm _ _ ht'), (atI_n (j := 1) rfl), c.c, _, _, _, rfl, rfl, SqL.of (sm _ _ h.ch), atI_n (natL_at (List.getElem?_eq_getElem hxl)), ?_⟩
    refine ⟨_, rfl, t, _, _, _, rfl, rfl, SqT.of (sm _ _ ht'), (atI_n (j := 2) rfl), rfl, _, rfl, ?_⟩
    show if decide (V.int ((c.v[x] : Nat) : Int) = V.int (v : Int)) = true then _ else _
    have ew : (V.int ((c.v[x] : Nat) : Int) = V.int (v : Int)) ↔ c.v.getD x 0 = v := by
      rw [List.getD_eq_getElem?_getD, List.getElem?_eq_getElem hxl]
      exact ⟨fun z => by have := V.int.inj z; show c.v[x] = v; omega, fun z => by have z : c.v[x] = v := z; rw [z]⟩
    have kk : ∀ H' as', RunAt P w K G H' r c (if c.v.getD x 0 = v then { st with todo := (b, false) :: st.todo } else st) as' → Q .non H' := kk
    by_cases hc : c.v.getD x 0 = v
    · rw [if_pos (decide_eq_true (ew.mpr hc))]
      rw [if_pos hc] at kk
      refine ⟨_, rfl, r, _, c.dx, _, _, rfl, h.ins, T.c_Run, T.na_Run_open_ones, l_Run_open_ones, .inl ⟨rfl, _, SqL.of h.ol⟩, ?_⟩
      refine ⟨_, rfl, t, _, _, _, rfl, rfl, SqT.of (sm _ _ ht'), (atI_n (j := 3) rfl), by show 3 ≤ sizeLine; decide, fun q hq => ?_⟩
      refine ⟨c.lo, as.map V.ref, _, rfl, rfl, ?_, szl (by rw [List.length_map, h.len]; omega), ?_⟩
      · rw [upd_ne (ne_of_none h.ol hq)]
        exact h.ol
      · exact kk _ _ (h.pushNew (f := false) hq hl hst)
    · rw [if_neg fun z => hc (ew.mp (of_decide_eq_true z))]
      rw [if_neg hc] at kk
      exact kk _ _ h
def spClose (P : Program) (w : World) (K : PySem.W.Frag) : Sp := Sp1 fun s H Q _ => ∃ G r c st as, s = .ref r ∧ RunAt P w K G H r c st as ∧ st.todo.length < 900 ∧ ∀ H' as', RunAt P w K G H' r c (closeM st) as' → Q .non H'
theorem sc_Run_close : FnScope ["self"] ["self"] (defScope s_Run_close) := ⟨rfl, rfl, rfl, by decide +kernel, rfl, by decide +kernel, by decide +kernel⟩
theorem ok_Run_close (T : Tx K mg) : FK P w K mg base CX0 1 (He.ma K (He.ga K "Run") "close") ["self"] (spClose P w K) := by
  obtain ⟨fd, F⟩ := T.f_Run_close
  refine ⟨fd, F.ok sc_Run_close (fun vs H Q E h => Sp1.len h) (fun cdv A outer s H vs Q E hr h => ?body), F.bindsN (fun _ _ _ _ _ _ us hl => match us, hl with | [_], _ => rfl), F.kp⟩
  have hu1 := hu1_of hr
  refine ⟨_, PSs.nox (pss_one (ps_while PassesOwn.never (PW.pt (pw_and (pt_cmpR (op_neNil hu1) (pe_fld (pv 0) rfl) (pe_lst pa_nil) (nomark _)) (pw_and1 (pt_cmpR op_eq (pe_ix ix_list (pe_ix ix_list (pe_fld (pv 0) rfl) (pe_un un_neg pe_int) (fun _ _ => rfl)) pe_int (fun _ _ => rfl)) (pe_callB call_lenK rfl T.n_len boot_len (pa_cons (pe_ix ix_list (pe_ix ix_list (pe_fld (pv 0) rfl) (pe_un un_neg pe_int) (fun _ _ => rfl)) pe_int (fun _ _ => rfl)) pa_nil)) (nomark _))))) (pss_one (ps_expr (pe_bm0 PySem.F.plainAttrs_list PySem.F.slot_list_pop PySem.F.type_list_pop mt_pop (pe_fld (pv 0) rfl)))))), ?_⟩
  obtain ⟨_, rfl, G, r, c, st, as, rfl, h, hz, kk⟩ := h
  refine ⟨fun m σ H => ∃ as' todo, σ = [some (.ref r)] ∧ m = todo.length ∧ RunAt P w K G H r c { st with todo := todo } as' ∧ todo.length < 900 ∧ closeT todo = closeT st.todo, ⟨_, as, st.todo, rfl, rfl, h, hz, rfl⟩, ?_⟩
  rintro m σ H ⟨as, todo, rfl, rfl, h, hz, ec⟩
  refine ⟨_, rfl, r, _, c.dx, _, _, rfl, h.ins, T.c_Run, T.na_Run_open_ones, l_Run_open_ones, by show 0 ≤ sizeLine; decide, fun q hq => ?_⟩
  have h2 := h.same' (Same.new (o := HO.lst []) hq)
  refine ⟨c.lo, q, as.map V.ref, rfl, rfl, SqL.of h2.ol, SqL.of upd_same, _, rfl, ?_⟩
  cases todo with
  | nil =>
    have : as = [] := List.length_eq_zero_iff.mp h.len
    subst this
    refine kk _ [] ?_
    have e : closeM st = { st with todo := [] } := by unfold closeM; rw [← ec]; rfl
    rw [e]
    exact h2
  | cons x t =>
    obtain ⟨s, f⟩ := x
    obtain ⟨as', a, rfl, h1, l, xs, s0, i, ha, hl, hst, hi, hil, ga⟩ := h2.top (st := { st with todo := (s, f) :: t }) rfl
    have e1 : (!((as' ++ [a]).map V.ref).isEmpty) = true := by cases as' <;> rfl
    rw [e1]
    have hat : atI ((as' ++ [a]).map V.ref) (-1) = some (.ref a) := by
      rw [List.map_append]
      exact atI_last _ _
    refine ⟨_, rfl, r, _, c.dx, _, _, rfl, h2.ins, T.c_Run, T.na_Run_open_ones, l_Run_open_ones, _, rfl, c.lo, _, _, _, rfl, rfl, SqL.of h2.ol, hat, ?_⟩
    refine ⟨a, _, _, _, rfl, rfl, SqL.of ha, atI_n (j := 1) rfl, ?_⟩
    refine ⟨_, rfl, r, _, c.dx, _, _, rfl, h2.ins, T.c_Run, T.na_Run_open_ones, l_Run_open_ones, _, rfl, c.lo, _, _, _, rfl, rfl, SqL.of h2.ol, hat, a, _, _, _, rfl, rfl, SqL.of ha, atI_n (j := 0) rfl, ?_⟩
    refine ⟨l, xs, rfl, .inl (SqL.of (h2.same _ _ hl)), rfl, _, rfl, ?_⟩
    show if decide (V.int (i : Int) = V.int (xs.length : Int)) = true then _ else _
    have hxs := hst.length
    have hs : lenS s = lenS s0 - i := by rw [← lenS_drop, hi]
    by_cases hc : i = xs.length
    · rw [if_pos (by rw [hc]; exact decide_eq_true rfl)]
      have hs0 : lenS s = 0 := by omega
      have ec2 : closeT ((s, f) :: t) = closeT t := by
        show (if lenS s = 0 then closeT t else _) = _
        rw [if_pos hs0]
      refine ⟨fun σ' H' => σ' = [some (.ref r)] ∧ RunAt P w K G H' r c { st with todo := t } as', ?_, ?_⟩
      · rintro σ' H' ⟨rfl, hh⟩
        exact ⟨t.length, by simp, as', t, rfl, rfl, hh, by rw [List.length_cons] at hz; omega, by rw [← ec, ec2]⟩
      · refine ⟨_, rfl, r, _, c.dx, _, _, rfl, h2.ins, T.c_Run, T.na_Run_open_ones, l_Run_open_ones, .inl ⟨rfl, _, SqL.of h2.ol⟩, c.lo, _, .ref a, rfl, rfl, h2.ol, ?_, rfl, ?_⟩
        · rw [List.map_append, List.length_append, List.length_map]
          show (as'.map V.ref ++ [.ref a])[as'.length + 1 - 1]? = _
          rw [Nat.add_sub_cancel, List.getElem?_append_right (by rw [List.length_map]; exact Nat.le_refl _), List.length_map, Nat.sub_self]
          rfl
        · have e : ((as' ++ [a]).map V.ref).dropLast = as'.map V.ref := by rw [List.map_append]; exact List.dropLast_concat
          rw [e]
          exact h2.pop (st := { st with todo := (s, f) :: t }) rfl
    · rw [if_neg fun z => hc (by have := V.int.inj (of_decide_eq_true z); omega)]
      have hs0 : ¬ lenS s = 0 := by omega
      have ec2 : closeT ((s, f) :: t) = (s, f) :: t := by
        show (if lenS s = 0 then closeT t else _) = _
        rw [if_neg hs0]
      have e : closeM st = { st with todo := (s, f) :: t } := by unfold closeM; rw [← ec, ec2]
      refine kk _ (as' ++ [a]) ?_
      rw [e]
      exact h2
def spNextOne (P : Program) (w : World) (K : PySem.W.Frag) : Sp := Sp1 fun s H Q _ => ∃ G r c st as stm f t, s = .ref r ∧ RunAt P w K G H r c st as ∧ st.todo = (stm, f) :: t ∧ stm ≠ .done ∧
  ∀ H' q, RunAt P w K G H' r c { st with todo := nextM st.todo } as → ItV c.pr G stm q → Q (.ref q) H'
theorem sc_Run_next_one : FnScope ["self", "row"] ["self"] (defScope s_Run_next_one) := ⟨rfl, rfl, rfl, by decide +kernel, rfl, by decide +kernel, by decide +kernel⟩
theorem ok_Run_next_one (T : Tx K mg) : FK P w K mg base CX0 1 (He.ma K (He.ga K "Run") "next_one") ["self"] (spNextOne P w K) := by
  obtain ⟨fd, F⟩ := T.f_Run_next_one
  refine ⟨fd, F.ok sc_Run_next_one (fun vs H Q E h => Sp1.len h) (fun cdv A outer s H vs Q E hr h => ?body), F.bindsN (fun _ _ _ _ _ _ us hl => match us, hl with | [_], _ => rfl), F.kp⟩
  refine ⟨_, PSs.nox (pss_cons (ps_set (i := 1) sc_Run_next_one.nd rfl (.inl rfl) (pe_ix ix_list (pe_fld (pv 0) rfl) (pe_un un_neg pe_int) (fun _ _ => rfl)) (hf := (.inr rfl)))
      (pss_cons (ps_asg (pe_op op_add (pe_ix ix_list (pv 1) pe_int (fun _ _ => rfl)) pe_int) (pg_sub (pv 1) pe_int set_list))
      (pss_one (ps_ret (pe_ix ix_list (pe_ix ix_list (pv 1) pe_int (fun _ _ => rfl)) (pe_op op_sub (pe_ix ix_list (pv 1) pe_int (fun _ _ => rfl)) pe_int) (fun _ _ => rfl)))))), ?_⟩
  obtain ⟨_, rfl, G, r, c, st, as, stm, f, t, rfl, h, et, hne, kk⟩ := h
  obtain ⟨as', a, rfl, h1, l, xs, s0, i, ha, hl, hst, hi, hil, ga⟩ := h.top et
  have hat : atI ((as' ++ [a]).map V.ref) (-1) = some (.ref a) := by
    rw [List.map_append]
    exact atI_last _ _
  have hxs := hst.length
  have hlen : lenS stm ≠ 0 := lenS_ne hne
  have hlt : i < xs.length := by
    have hs : lenS stm = lenS s0 - i := by rw [← lenS_drop, hi]
    omega
  refine ⟨_, rfl, r, _, c.dx, _, _, rfl, h.ins, T.c_Run, T.na_Run_open_ones, l_Run_open_ones, _, rfl, c.lo, _, _, _, rfl, rfl, SqL.of h.ol, hat, ?_⟩
  refine ⟨_, rfl, a, _, _, _, rfl, rfl, SqL.of ha, atI_n (j := 1) rfl, _, _, rfl, rfl, ?_⟩
  refine ⟨_, rfl, a, _, _, 1, rfl, rfl, ha, rfl, ?_⟩
  have h2 := h.step et ha hl hst hi hlt ga
  have e1 : ([V.ref l, V.int (i : Int), V.bl f] : List V).set 1 (V.int ((i : Int) + 1)) = [.ref l, .int ((i + 1 : Nat) : Int), .bl f] := rfl
  rw [e1]
  obtain ⟨q, eq, hq, _⟩ := hst.at_ (List.getElem?_eq_getElem hlt)
  refine ⟨_, rfl, a, _, _, _, rfl, rfl, SqL.of upd_same, atI_n (j := 0) rfl, _, rfl, a, _, _, _, rfl, rfl, SqL.of upd_same, atI_n (j := 1) rfl, _, _, rfl, rfl, ?_⟩
  refine ⟨l, xs, _, xs[i], rfl, rfl, SqL.of (h2.same _ _ hl), ?_, ?_⟩
  · have e2 : ((i + 1 : Nat) : Int) - 1 = (i : Int) := by omega
    rw [e2]
    exact atI_n (List.getElem?_eq_getElem hlt)
  · rw [eq]
    refine kk _ q ?_ (by rw [show stm = dropS i s0 from hi.symm]; exact hq)
    have e3 : nextM st.todo = (tailS stm, f) :: t := by rw [et]; rfl
    rw [e3]
    exact h2
def spDone (P : Program) (w : World) (K : PySem.W.Frag) : Sp := Sp2 fun s x H Q _ => ∃ G r c k, s = .ref r ∧ x = .int (k : Nat) ∧ RunAt P w K G H r c ⟨[], [], true⟩ [] ∧ k < c.pr.parts.length ∧
  ∀ H' as', RunAt P w K G H' r c (doneM c.pr c.out c.v k) as' → Q (.ref c.de) H'
theorem sc_Run_done : FnScope ["self", "entry", "turn"] ["self", "entry"] (defScope s_Run_done) := ⟨rfl, rfl, rfl, by decide +kernel, rfl, by decide +kernel, by decide +kernel⟩
theorem ok_Run_done (T : Tx K mg) : FK P w K mg base CX0 6 (He.ma K (He.ga K "Run") "done") ["self", "entry"] (spDone P w K) := by
  obtain ⟨fd, F⟩ := T.f_Run_done
  obtain ⟨fd0, G0, b0, k0⟩ := ok_Run_close (P := P) (w := w) (base := base) T
  obtain ⟨fd1, G1, b1, k1⟩ := ok_Run_do_one (P := P) (w := w) (base := base) T
  obtain ⟨fd2, G2, b2, k2⟩ := ok_Run_next_one (P := P) (w := w) (base := base) T
  obtain ⟨fd3, G3, b3, k3⟩ := ok_Run_call (P := P) (w := w) (base := base) T
  refine ⟨fd, F.ok sc_Run_done (fun vs H Q E h => Sp2.len h) (fun cdv A outer s H vs Q E hr h => ?body), F.bindsN (fun _ _ _ _ _ _ us hl => match us, hl with | [_, _], _ => rfl), F.kp⟩
  have hu1 := hu1_of hr
  refine ⟨_, PSs.nox (pss_cons (ps_expr (pe_meth (pv 0) T.c_Run T.me_Run_call G3 (hr.mono (by first | decide | omega)) b3 .nil pass0 (pa_cons (pv 1) pa_nil)))
      (pss_cons (ps_expr (pe_meth0 (pv 0) T.c_Run T.me_Run_close G0 (hr.mono (by first | decide | omega)) b0 .nil pass0))
      (pss_cons (ps_for PassesOwn.never rfl (pi_range1 rfl T.n_range (pa_cons (C8.pe_gc rfl T.k_MOST_STATEMENTS) pa_nil)) (pg_name (i := 2) sc_Run_done.nd rfl (.inl rfl) (.inr rfl)) (pss_one (ps_if (PW.pt (pw_and (pt_val (pe_fld (pv 0) rfl)) (pw_and1 (pt_cmpR (op_neNil hu1) (pe_fld (pv 0) rfl) (pe_lst pa_nil) (nomark _))))) (pss_cons (ps_expr (pe_meth (pv 0) T.c_Run T.me_Run_do_one G1 (hr.mono (by first | decide | omega)) b1 .nil pass0 (pa_cons (pe_meth0 (pv 0) T.c_Run T.me_Run_next_one G2 (hr.mono (by first | decide | omega)) b2 .nil pass0) pa_nil)))
      (pss_one (ps_expr (pe_meth0 (pv 0) T.c_Run T.me_Run_close G0 (hr.mono (by first | decide | omega)) b0 .nil pass0)))) pss_nil)))
      (pss_one (ps_ret (pe_fld (pv 0) rfl)))))), ?_⟩
  obtain ⟨_, _, rfl, G, r, c, k, rfl, rfl, h, hk, kk⟩ := h
  have g := h.good
  refine ⟨_, rfl, r, c.dx, _, rfl, h.ins, n_Run_call, _, rfl, _, _, rfl, G, r, c, _, [], k, rfl, rfl, h, by show 0 < 900; decide, by show 0 < 900; decide, hk, fun H1 as1 h1 => ?_⟩
  have t1 : TOk c.pr 1 (callM c.pr c.out k ⟨[], [], true⟩) := TOk.call g TOk.start hk
  refine ⟨_, rfl, r, c.dx, _, rfl, h1.ins, n_Run_close, _, rfl, G, r, c, _, as1, rfl, h1, by have := t1.len; omega, fun H2 as2 h2 => ?_⟩
  have t2 := t1.close
  refine ⟨_, rfl, by decide, by decide, ?_⟩
  refine for_range (fun i σ H => ∃ tv as, σ = [some (.ref r), some (.int (k : Nat)), tv] ∧ RunAt P w K G H r c (loopM c.pr c.out c.v i (closeM (callM c.pr c.out k ⟨[], [], true⟩))) as) ⟨none, as2, rfl, h2⟩ ?_ ?_
  · rintro i σ H3 hi ⟨tv, as, rfl, h3⟩
    have t3 := TOk.loop (out := c.out) (v := c.v) g t2 i
    have hi : i < 100 := hi
    have nd3 := fun s f t => closed_head (pr := c.pr) (out := c.out) (v := c.v) i (callM c.pr c.out k ⟨[], [], true⟩) (s := s) (f := f) (t := t)
    have es : loopM c.pr c.out c.v (i + 1) (closeM (callM c.pr c.out k ⟨[], [], true⟩)) = turnM c.pr c.out c.v (loopM c.pr c.out c.v i (closeM (callM c.pr c.out k ⟨[], [], true⟩))) := loopM_succ i _
    rw [es]
    generalize loopM c.pr c.out c.v i (closeM (callM c.pr c.out k ⟨[], [], true⟩)) = st at h3 t3 nd3 ⊢
    refine ⟨_, rfl, r, _, c.dx, _, _, rfl, h3.ins, T.c_Run, T.na_Run_is_going, l_Run_is_going, st.going, rfl, ?_⟩
    cases hg : st.going with
    | false =>
      refine ⟨_, as, rfl, ?_⟩
      have e : turnM c.pr c.out c.v st = st := by
        unfold turnM
        rw [if_neg fun z => by rw [hg] at z; exact Bool.noConfusion z.1]
      rw [e]
      exact h3
    | true =>
      refine ⟨_, rfl, r, _, c.dx, _, _, rfl, h3.ins, T.c_Run, T.na_Run_open_ones, l_Run_open_ones, by show 0 ≤ sizeLine; decide, fun q hq => ?_⟩
      have h4 := h3.same' (Same.new (o := HO.lst []) hq)
      refine ⟨c.lo, q, as.map V.ref, rfl, rfl, SqL.of h4.ol, SqL.of upd_same, _, rfl, ?_⟩
      cases et : st.todo with
      | nil =>
        have : as = [] := List.length_eq_zero_iff.mp (by rw [h4.len, et]; rfl)
        subst this
        refine ⟨_, [], rfl, ?_⟩
        have e : turnM c.pr c.out c.v st = st := by
          unfold turnM
          rw [if_neg fun z => z.2 et]
        rw [e]
        exact h4
      | cons x t =>
        obtain ⟨s, f⟩ := x
        have hne := nd3 _ _ _ et
        have e1 : (!(as.map V.ref).isEmpty) = true := by
          have := h4.len
          rw [et] at this
          cases as with
          | nil => cases this
          | cons => rfl
        rw [e1]
        have e : turnM c.pr c.out c.v st = closeM (doM c.pr c.out c.v s { st with todo := nextM st.todo }) := by
          unfold turnM
          rw [if_pos ⟨hg, by rw [et]; simp⟩, et]
          rfl
        have hoks : OkS c.pr s := t3.ok (s, f) (by rw [et]; exact List.mem_cons_self)
        have t4 := t3.next
        have t5 := t4.do_ (out := c.out) (v := c.v) g hoks
        refine ⟨_, rfl, r, c.dx, _, rfl, h4.ins, n_Run_do_one, ?_⟩
        refine ⟨_, rfl, r, c.dx, _, rfl, h4.ins, n_Run_next_one, _, rfl, G, r, c, st, as, s, f, t, rfl, h4, et, hne, fun H5 q5 h5 hq5 => ?_⟩
        refine ⟨_, _, rfl, G, r, c, _, as, q5, s, rfl, rfl, h5, by have := t4.len; omega, by have := t4.ent; omega, hq5, hoks, fun H6 as6 h6 => ?_⟩
        refine ⟨_, rfl, r, c.dx, _, rfl, h6.ins, n_Run_close, _, rfl, G, r, c, _, as6, rfl, h6, by have := t5.len; omega, fun H7 as7 h7 => ?_⟩
        refine ⟨_, as7, rfl, ?_⟩
        rw [e]
        exact h7
  · rintro σ H3 ⟨tv, as, rfl, h3⟩
    exact ⟨_, rfl, r, _, c.dx, _, _, rfl, h3.ins, T.c_Run, T.na_Run_entered, l_Run_entered, kk _ as h3⟩
/-- what is entered in some run -/
def EntBy (pr : Vakepa.Prog) (out : List Nat) (k : Nat) : Prop := ∃ e ∈ pr.starts, ∃ a, a < Vakepa.total pr ∧ k ∈ (Vakepa.run pr out e (Vakepa.valuesOf pr a)).entered
theorem enters_mem (pr : Vakepa.Prog) (out : List Nat) (k : Nat) : k ∈ Vakepb.enters pr out ↔ k < pr.parts.length ∧ EntBy pr out k := by
  unfold Vakepb.enters Vakepb.tidy
  rw [inOrder_mem]
  refine and_congr_right fun _ => ?_
  unfold EntBy Vakepa.assignments
  rw [List.mem_flatMap]
  constructor
  · rintro ⟨e, he, h⟩
    obtain ⟨a, ha, hk⟩ := List.mem_flatMap.mp h
    exact ⟨e, he, a, List.mem_range.mp ha, hk⟩
  · rintro ⟨e, he, a, ha, hk⟩
    exact ⟨e, he, List.mem_flatMap.mpr ⟨a, List.mem_range.mpr ha, hk⟩⟩
theorem tot_total (pr : Vakepa.Prog) : tot pr.sets = Vakepa.total pr := rfl
theorem Good.tot {pr : Vakepa.Prog} (g : Good pr) : Vakepa.total pr ≤ 64 ∧ 0 < Vakepa.total pr := by
  have : ∀ (l : List Nat) (m : Nat), 0 < m → (∀ c ∈ l, 0 < c ∧ c ≤ 4) → l.foldl (fun x y => x * y) m ≤ m * 4 ^ l.length ∧ 0 < l.foldl (fun x y => x * y) m := by
    intro l
    induction l with
    | nil => intro m h _; exact ⟨by simp, h⟩
    | cons c r ih =>
      intro m h hc
      obtain ⟨c1, c2⟩ := hc c List.mem_cons_self
      obtain ⟨h1, h2⟩ := ih (m * c) (Nat.mul_pos h c1) fun x hx => hc x (List.mem_cons_of_mem _ hx)
      refine ⟨Nat.le_trans h1 ?_, h2⟩
      rw [List.length_cons, Nat.pow_succ, Nat.mul_assoc, Nat.mul_comm (4 ^ r.length) 4]
      exact Nat.mul_le_mul_left m (Nat.mul_le_mul_right _ c2)
  obtain ⟨h1, h2⟩ := this (Vakepa.counts pr) 1 (by decide) fun c hc => by
    obtain ⟨s, hs, rfl⟩ := List.mem_map.mp hc
    have := g.vals s hs
    exact ⟨this.1, this.2.1⟩
  refine ⟨Nat.le_trans h1 ?_, h2⟩
  have hl : (Vakepa.counts pr).length ≤ 3 := by unfold Vakepa.counts; rw [List.length_map]; exact g.nsets
  rw [Nat.one_mul]
  exact Nat.pow_le_pow_right (by decide) hl
/-- all but D is kept -/
def Keep (D : Addr) (H H' : Hp) : Prop := ∀ b o, H b = some o → b ≠ D → H' b = some o
theorem Keep.of {D : Addr} {H H' : Hp} (e : Same H H') : Keep D H H' := fun b o h _ => e b o h
theorem Keep.trans {D : Addr} {H H' H2 : Hp} (e : Keep D H H') (f : Keep D H' H2) : Keep D H H2 := fun b o h n => f b o (e b o h n) n
theorem Keep.upd {D : Addr} {H H' : Hp} {o : HO} (e : Keep D H H') : Keep D H (L2.upd H' D o) := fun b u h n => by rw [upd_ne n]; exact e b u h n
theorem Keep.same {D : Addr} {H H' : Hp} (e : Keep D H H') (h : H D = none) : Same H H' := fun b o hb => e b o hb (ne_of_none hb h)
def spEntered (P : Program) (w : World) (K : PySem.W.Frag) : Sp := Sp2 fun s x H Q _ => ∃ p pr l out, s = .ref p ∧ x = .ref l ∧ Pg K pr H p ∧ Good pr ∧ H l = some (.tup (natL out)) ∧
  ∀ q H' ks, H q = none → Same H H' → H' q = some (dN P w q ks) → NS pr.parts.length (EntBy pr out) ks → Q (.ref q) H'
theorem sc_entered_exactly : FnScope ["program", "left", "found", "number", "chosen", "entry"] ["program", "left"] (defScope s_entered_exactly) := ⟨rfl, rfl, rfl, by decide +kernel, rfl, by decide +kernel, by decide +kernel⟩
theorem ok_entered_exactly (T : Tx K mg) : FK P w K mg base CX0 7 (He.ga K "entered_exactly") ["program", "left"] (spEntered P w K) := by
  obtain ⟨fd, F⟩ := T.f_entered_exactly
  obtain ⟨fd0, G0, b0, k0⟩ := ok_Program_how_many_assignments (P := P) (w := w) (base := base) T
  obtain ⟨fd1, G1, b1, k1⟩ := ok_Run_done (P := P) (w := w) (base := base) T
  obtain ⟨fd2, G2, b2, k2⟩ := ok_Run___init__ (P := P) (w := w) (base := base) T
  obtain ⟨fd3, G3, b3, k3⟩ := ok_Program_assignment (P := P) (w := w) (base := base) T
  refine ⟨fd, F.ok sc_entered_exactly (fun vs H Q E h => Sp2.len h) (fun cdv A outer s H vs Q E hr h => ?body), F.bindsN (fun _ _ _ _ _ _ us hl => match us, hl with | [_, _], _ => rfl), F.kp⟩
  refine ⟨_, PSs.nox (pss_cons (ps_set (i := 2) sc_entered_exactly.nd rfl (.inl rfl) pe_newN (hf := (.inr rfl)))
      (pss_cons (ps_for PassesOwn.never rfl (pi_range1 rfl T.n_range (pa_cons (pe_meth0 (pv 0) T.c_Program T.me_Program_how_many_assignments G0 (hr.mono (by first | decide | omega)) b0 .nil pass0) pa_nil)) (pg_name (i := 3) sc_entered_exactly.nd rfl (.inl rfl) (.inr rfl)) (pss_cons (ps_set (i := 4) sc_entered_exactly.nd rfl (.inl rfl) (pe_meth (pv 0) T.c_Program T.me_Program_assignment G3 (hr.mono (by first | decide | omega)) b3 .nil pass0 (pa_cons (pv 3) pa_nil)) (hf := (.inr rfl)))
      (pss_one (ps_for PassesOwn.never rfl (pi_list (pe_fld (pv 0) rfl)) (pg_name (i := 5) sc_entered_exactly.nd rfl (.inl rfl) (.inr rfl)) (pss_one (ps_expr (pe_updN (pv 2) (pe_meth (pe_make T.m_Run G2 (hr.mono (by first | decide | omega)) rfl T.g_Run b2 .nil pass0 (pa_cons (pv 0) (pa_cons (pv 4) (pa_cons (pv 1) pa_nil)))) T.c_Run T.me_Run_done G1 (hr.mono (by first | decide | omega)) b1 .nil pass0 (pa_cons (pv 5) pa_nil)))))))))
      (pss_one (ps_ret (pv 2))))), ?_⟩
  obtain ⟨_, _, rfl, p, pr, l, out, rfl, rfl, hP, g, hl, kk⟩ := h
  refine fun D hD => ?_
  have s1 : Same H (upd H D (dN P w D [])) := Same.new hD
  obtain ⟨dx, ls, lp, le, vs, ws, hp⟩ := id hP
  refine ⟨_, rfl, p, dx, _, rfl, s1 _ _ hp.ins, n_Program_how_many_assignments, _, rfl, p, pr.sets, rfl, hP.setsAt.same s1, fun s hs => by have := g.vals s hs; omega, fun H1 e1 => ?_⟩
  have ht := g.tot
  refine ⟨_, rfl, by rw [tot_total]; omega, by rw [tot_total]; omega, ?_⟩
  refine for_range (fun i σ H' => ∃ a b c ks, σ = [some (.ref p), some (.ref l), some (.ref D), a, b, c] ∧ Same H H' ∧ H' D = some (dN P w D ks) ∧ NS pr.parts.length (fun k => ∃ e ∈ pr.starts, ∃ a, a < i ∧ k ∈ (Vakepa.run pr out e (Vakepa.valuesOf pr a)).entered) ks)
    ⟨none, none, none, [], rfl, Same.trans s1 e1, e1 _ _ upd_same, NS.nil.congr fun k => ⟨False.elim, fun ⟨_, _, a, ha, _⟩ => absurd ha (Nat.not_lt_zero a)⟩⟩ ?_ ?_
  · rintro i σ H2 hi ⟨a, b, c, ks, rfl, e2, hd2, hks⟩
    refine ⟨_, rfl, p, dx, _, rfl, e2 _ _ hp.ins, n_Program_assignment, _, rfl, _, _, rfl, p, pr.sets, i, rfl, ?_, hP.setsAt.same e2, by have := g.nsets; omega, fun s hs => by have := g.vals s hs; omega, fun q H3 hq e3 h3q => ?_⟩
    · show V.int (0 + (i : Int)) = _
      rw [Int.zero_add]
    have n1 : q ≠ D := fun z => by rw [z, hd2] at hq; cases hq
    refine ⟨_, rfl, p, _, dx, _, _, rfl, e3 _ _ (e2 _ _ hp.ins), T.c_Program, T.na_Program_entries, l_Program_entries, le, rfl, ⟨_, SqL.of (e3 _ _ (e2 _ _ hp.el))⟩, ?_⟩
    refine for_list (K := K) (a := le) (xs := natL pr.starts) (fun m σ H' => ∃ c ks, σ = [some (.ref p), some (.ref l), some (.ref D), some (.int (0 + (i : Nat))), some (.ref q), c] ∧ Keep D H3 H' ∧ H' D = some (dN P w D ks) ∧
      NS pr.parts.length (fun k => (∃ e ∈ pr.starts, ∃ a, a < i ∧ k ∈ (Vakepa.run pr out e (Vakepa.valuesOf pr a)).entered) ∨ ∃ e ∈ pr.starts.take m, k ∈ (Vakepa.run pr out e (Vakepa.valuesOf pr i)).entered) ks)
      ⟨c, ks, rfl, fun _ _ h _ => h, e3 _ _ hd2, hks.congr fun k => ⟨.inl, fun z => z.elim id fun ⟨e, he, _⟩ => by rw [List.take_zero] at he; cases he⟩⟩ (fun m σ H' _ ⟨_, _, _, e, _⟩ => (SqL.of (e _ _ (e3 _ _ (e2 _ _ hp.el)) (fun z => by rw [← z, hp.el] at hD; cases hD)))) ?_ ?_
    · rintro m x σ H4 hx ⟨c, ks, rfl, e4, hd4, hks⟩
      have hm : m < pr.starts.length := by have := (List.getElem?_eq_some_iff.mp hx).1; rwa [natL_len] at this
      rw [natL_at (List.getElem?_eq_getElem hm)] at hx
      have ex := Option.some.inj hx
      subst ex
      have hkl : pr.starts[m] < pr.parts.length := g.starts.2 _ (List.getElem_mem hm)
      have k4 : Same H H4 := fun b o hb => e4 b o (e3 _ _ (e2 _ _ hb)) (ne_of_none hb hD)
      refine ⟨_, rfl, ⟨D, ks, rfl, hd4⟩, ?_⟩
      refine ⟨_, rfl, _, rfl, _, rfl, fun r dr hr hdr hne => ?_⟩
      have sm : Same H4 (upd (upd H4 dr (.own r)) r (.ins (cRun K) dr [])) := Same.trans (Same.new hdr) (Same.new (by rw [upd_ne hne.symm]; exact hr))
      refine ⟨_, _, _, _, rfl, r, dr, rfl, upd_same, fun lo de H5 hlo hde hld kp hr5 hlo5 hde5 => ⟨rfl, ?_⟩⟩
      have h5 : RunAt P w K H4 H5 r ⟨pr, Vakepa.valuesOf pr i, out, p, q, l, lo, de, dr⟩ ⟨[], [], true⟩ [] :=
        ⟨fun b o hb => kp b o (sm _ _ hb) (ne_of_none hb hr), hr5, hr, gone sm hlo, gone sm hde, hP.same k4, e4 _ _ h3q n1, k4 _ _ hl, hlo5, .nil, List.nodup_nil, (fun z => nomatch z), hde5, g, g.vok i⟩
      refine ⟨r, dr, _, rfl, hr5, n_Run_done, _, rfl, _, _, rfl, H4, r, _, pr.starts[m], rfl, rfl, h5, hkl, fun H6 as6 h6 => ?_⟩
      have t6 : TOk pr 101 (doneM pr out (Vakepa.valuesOf pr i) pr.starts[m]) := TOk.done g hkl
      have hen : ∀ k, k ∈ (doneM pr out (Vakepa.valuesOf pr i) pr.starts[m]).ent ↔ k ∈ (Vakepa.run pr out pr.starts[m] (Vakepa.valuesOf pr i)).entered := fun k => by rw [run_entered]
      have gde : H4 de = none := gone sm hde
      refine ⟨D, de, ks, _, rfl, rfl, ne_of_none hd4 gde, h6.same _ _ hd4, h6.ent, ?_, ?_⟩
      · have h1 := hks.len
        have h2 := t6.ent
        have h3 := g.nparts
        refine sz ?_
        rw [entK_len]
        show _ + (doneM pr out (Vakepa.valuesOf pr i) pr.starts[m]).ent.length ≤ _
        omega
      · refine ⟨_, _, rfl, Keep.upd (Keep.trans e4 (Keep.of h6.same)), upd_same, (hks.uni (NS.ent t6.nd t6.lt)).congr fun k => ?_⟩
        rw [hen k, take_more (List.getElem?_eq_getElem hm)]
        constructor
        · rintro ((z | ⟨e, he, hk⟩) | z)
          · exact .inl z
          · exact .inr ⟨e, List.mem_append_left _ he, hk⟩
          · exact .inr ⟨_, List.mem_append_right _ (List.mem_singleton.mpr rfl), z⟩
        · rintro (z | ⟨e, he, hk⟩)
          · exact .inl (.inl z)
          · rcases List.mem_append.mp he with z | z
            · exact .inl (.inr ⟨e, z, hk⟩)
            · rw [List.mem_singleton.mp z] at hk
              exact .inr hk
    · rintro σ H4 ⟨c, ks, rfl, e4, hd4, hks⟩
      refine ⟨_, _, _, ks, rfl, fun b o hb => e4 b o (e3 _ _ (e2 _ _ hb)) (ne_of_none hb hD), hd4, hks.congr fun k => ?_⟩
      rw [natL_len, List.take_length]
      constructor
      · rintro (⟨e, he, a, ha, hk⟩ | ⟨e, he, hk⟩)
        · exact ⟨e, he, a, Nat.lt_succ_of_lt ha, hk⟩
        · exact ⟨e, he, i, Nat.lt_succ_self i, hk⟩
      · rintro ⟨e, he, a, ha, hk⟩
        rcases Nat.lt_succ_iff_lt_or_eq.mp ha with z | z
        · exact .inl ⟨e, he, a, z, hk⟩
        · rw [z] at hk
          exact .inr ⟨e, he, hk⟩
  · rintro σ H2 ⟨a, b, c, ks, rfl, e2, hd2, hks⟩
    exact ⟨_, rfl, kk D H2 ks hD e2 hd2 (hks.congr fun k => Iff.rfl)⟩
end
end Wk
set_option maxHeartbeats 2000000
/-! Comprehensions that make new objects. -/
namespace Wk
open PySem PySem.Spec PyProof.Rows L2
def FKeep {β : Type} (F : Addr → Hp → V → β → Prop) : Prop := ∀ D H H' v x, F D H v x → Keep D H H' → F D H' v x
def TurnR (g : TG) (tt : TT) (te : TE) (vs : List Nat) (σ : L2.St) (x : V) (H : Hp) (R : V → Hp → Prop) : Prop := ∀ (Kt : V → Hp → Prop) (Kf : Hp → Prop), (∀ z H4, R z H4 → Same H H4 → Kt z H4) →
  g x (wipe σ vs) H fun σ2 H2 => wipe σ2 vs = wipe σ vs ∧ tt σ2 H2 fun b H3 => if b = true then te σ2 H3 Kt else Kf H3
section
variable {K : PySem.W.Frag} {a : Addr} {xs : List V} {g : TG} {tt : TT} {te : TE} {vs : List Nat} {σ : L2.St} {H1 : Hp} {D : Addr} {Qd : Hp → Prop} {β : Type} {F : Addr → Hp → V → β → Prop} {m : List β}
def PvR (F : Addr → Hp → V → β → Prop) (m : List β) (H1 : Hp) (D : Addr) (i : Nat) (H : Hp) : Prop := Same H1 H ∧ ∃ acc, H D = some (.lst acc) ∧ Paired (F D H) acc (m.take i)
theorem PvR.nil (hD : H1 D = none) : PvR F m H1 D 0 (upd H1 D (.lst [])) := ⟨Same.new hD, [], upd_same, .nil⟩
theorem PvR.more (hF : FKeep F) (hD : H1 D = none) {H H4 : Hp} {i : Nat} {y : β} {z : V} (h : PvR F m H1 D i H) (hy : m[i]? = some y) (hz : i < sizeLine) (f : F D H4 z y) (e : Same H H4) : ∃ acc, H4 D = some (.lst acc) ∧ acc.length < sizeLine ∧ PvR F m H1 D (i + 1) (upd H4 D (.lst (acc ++ [z]))) := by
  obtain ⟨s1, acc, hd, hp⟩ := h
  have hl := Paired.length hp
  rw [List.length_take] at hl
  refine ⟨acc, e _ _ hd, by omega, L2.Same.mut (Same.trans s1 e) hD, _, upd_same, ?_⟩
  have k : Keep D H (upd H4 D (.lst (acc ++ [z]))) := Keep.upd (Keep.of e)
  rw [take_more hy]
  exact Paired.snoc (Paired.mapP hp fun _ _ q => hF _ _ _ _ _ q k) (hF _ _ _ _ _ f (Keep.upd fun _ _ h _ => h))
theorem PvR.stop {H : Hp} {n : Nat} (hn : n = m.length) (h : PvR F m H1 D n H) : Same H1 H ∧ ∃ acc, H D = some (.lst acc) ∧ Paired (F D H) acc m := by
  obtain ⟨s1, acc, hd, hp⟩ := h
  rw [hn, List.take_length] at hp
  exact ⟨s1, acc, hd, hp⟩
theorem lc_rel (hF : FKeep F) (hlen : xs.length = m.length) (hq : SqL K H1 a xs) (hD : H1 D = none) (hz : xs.length < sizeLine)
    (hs : ∀ (i : Nat) (x : V) (y : β) (H : Hp), xs[i]? = some x → m[i]? = some y → Same H1 H → (∃ acc, H D = some (.lst acc)) → TurnR g tt te vs σ x H fun z H4 => F D H4 z y)
    (hd : ∀ H acc, Same H1 H → H D = some (.lst acc) → Paired (F D H) acc m → Qd H) :
    ∃ W : Nat → Nat → Hp → Prop, (∃ m, W 0 m (upd H1 D (.lst []))) ∧ ∀ i m H, W i m H →
      ((Itl K a).stop i H ∧ Qd H) ∨ ((Itl K a).go i H ∧ ∃ Nx : Hp → Prop, (∀ H', Nx H' → ∃ m', m' < m ∧ W (i + 1) m' H') ∧ ∀ x H', (Itl K a).yld i H x H' → g x (wipe σ vs) H' fun σ2 H2 => wipe σ2 vs = wipe σ vs ∧ tt σ2 H2 fun b H3 =>
        if b = true then te σ2 H3 fun y H4 => ∃ acc, H4 D = some (.lst acc) ∧ acc.length < sizeLine ∧ Nx (upd H4 D (.lst (acc ++ [y]))) else Nx H3) :=
  lc_list (K := K) (a := a) (xs := xs) (PvR F m H1 D) (PvR.nil hD) (fun i H _ e => e.1.seq hq) (fun i x H hx e => by
    have hi := (List.getElem?_eq_some_iff.mp hx).1
    obtain ⟨y, hy⟩ : ∃ y, m[i]? = some y := ⟨_, List.getElem?_eq_getElem (by omega)⟩
    exact hs i x y H hx hy e.1 ⟨e.2.choose, e.2.choose_spec.1⟩ _ _ fun z H4 f e4 => PvR.more hF hD e hy (by omega) f e4)
    fun H e => let ⟨h1, acc, h2, h3⟩ := PvR.stop hlen e; hd H acc h1 h2 h3
theorem lc_relR {lo : Int} {n : Nat} (hF : FKeep F) (hlen : n = m.length) (hD : H1 D = none) (hz : n < sizeLine)
    (hs : ∀ (i : Nat) (y : β) (H : Hp), m[i]? = some y → Same H1 H → (∃ acc, H D = some (.lst acc)) → TurnR g tt te vs σ (.int (lo + i)) H fun z H4 => F D H4 z y)
    (hd : ∀ H acc, Same H1 H → H D = some (.lst acc) → Paired (F D H) acc m → Qd H) :
    ∃ W : Nat → Nat → Hp → Prop, (∃ m, W 0 m (upd H1 D (.lst []))) ∧ ∀ i m H, W i m H →
      ((Itr lo n).stop i H ∧ Qd H) ∨ ((Itr lo n).go i H ∧ ∃ Nx : Hp → Prop, (∀ H', Nx H' → ∃ m', m' < m ∧ W (i + 1) m' H') ∧ ∀ x H', (Itr lo n).yld i H x H' → g x (wipe σ vs) H' fun σ2 H2 => wipe σ2 vs = wipe σ vs ∧ tt σ2 H2 fun b H3 =>
        if b = true then te σ2 H3 fun y H4 => ∃ acc, H4 D = some (.lst acc) ∧ acc.length < sizeLine ∧ Nx (upd H4 D (.lst (acc ++ [y]))) else Nx H3) :=
  lc_range (lo := lo) (n := n) (PvR F m H1 D) (PvR.nil hD) (fun i H hx e => by
    obtain ⟨y, hy⟩ : ∃ y, m[i]? = some y := ⟨_, List.getElem?_eq_getElem (by omega)⟩
    exact hs i y H hy e.1 ⟨e.2.choose, e.2.choose_spec.1⟩ _ _ fun z H4 f e4 => PvR.more hF hD e hy (by omega) f e4)
    fun H e => let ⟨h1, acc, h2, h3⟩ := PvR.stop hlen e; hd H acc h1 h2 h3
end
/-! ### rows, tables -/
def RowD (D : Addr) (H : Hp) (v : V) (l : List Nat) : Prop := ∃ a, v = .ref a ∧ a ≠ D ∧ H a = some (.lst (natL l))
theorem RowD.keep : FKeep RowD := fun D H H' v x ⟨a, e, n, h⟩ k => ⟨a, e, n, k _ _ h n⟩
def RowL (H : Hp) (v : V) (l : List Nat) : Prop := ∃ a, v = .ref a ∧ H a = some (.lst (natL l))
theorem RowL.same {H H' : Hp} (e : Same H H') {v : V} {l : List Nat} (h : RowL H v l) : RowL H' v l := let ⟨a, x, y⟩ := h; ⟨a, x, e _ _ y⟩
def RowsAt (H : Hp) (t : Addr) (tb : List (List Nat)) : Prop := ∃ vs, H t = some (.lst vs) ∧ Paired (RowL H) vs tb
theorem RowsAt.same {H H' : Hp} (e : Same H H') {t : Addr} {tb : List (List Nat)} (h : RowsAt H t tb) : RowsAt H' t tb := let ⟨vs, x, y⟩ := h; ⟨vs, e _ _ x, Paired.mapP y fun _ _ q => q.same e⟩
theorem RowsAt.of {H : Hp} {t : Addr} {acc : List V} {tb : List (List Nat)} (h : H t = some (.lst acc)) (p : Paired (RowD t H) acc tb) : RowsAt H t tb := ⟨acc, h, Paired.mapP p fun _ _ ⟨a, x, _, y⟩ => ⟨a, x, y⟩⟩
/-- tables in a list -/
def TabD (D : Addr) (H : Hp) (v : V) (tb : List (List Nat)) : Prop := ∃ t vs, v = .ref t ∧ t ≠ D ∧ H t = some (.lst vs) ∧ Paired (RowD D H) vs tb
theorem TabD.keep : FKeep TabD := fun D H H' v x ⟨t, vs, e, n, h, p⟩ k => ⟨t, vs, e, n, k _ _ h n, Paired.mapP p fun _ _ q => RowD.keep _ _ _ _ _ q k⟩
def TabL (H : Hp) (v : V) (tb : List (List Nat)) : Prop := ∃ t, v = .ref t ∧ RowsAt H t tb
theorem TabL.same {H H' : Hp} (e : Same H H') {v : V} {tb : List (List Nat)} (h : TabL H v tb) : TabL H' v tb := let ⟨t, x, y⟩ := h; ⟨t, x, y.same e⟩
def TabsAt (H : Hp) (t : Addr) (tbs : List (List (List Nat))) : Prop := ∃ vs, H t = some (.lst vs) ∧ Paired (TabL H) vs tbs
theorem TabsAt.same {H H' : Hp} (e : Same H H') {t : Addr} {tbs : List (List (List Nat))} (h : TabsAt H t tbs) : TabsAt H' t tbs := let ⟨vs, x, y⟩ := h; ⟨vs, e _ _ x, Paired.mapP y fun _ _ q => q.same e⟩
theorem TabsAt.of {H : Hp} {t : Addr} {acc : List V} {tbs : List (List (List Nat))} (h : H t = some (.lst acc)) (p : Paired (TabD t H) acc tbs) : TabsAt H t tbs :=
  ⟨acc, h, Paired.mapP p fun _ _ ⟨a, vs, x, _, y, q⟩ => ⟨a, x, vs, y, Paired.mapP q fun _ _ ⟨a, x, _, y⟩ => ⟨a, x, y⟩⟩⟩
/-- a row that is not where H has nothing -/
theorem RowL.off {H H' : Hp} {D : Addr} {xs : List V} (e : H D = some (.lst xs)) {a : Addr} {l : List Nat} (ha : H a = none) (h : H' a = some (.lst (natL l))) : RowD D H' (.ref a) l := ⟨a, rfl, (ne_of_none e ha).symm, h⟩
end Wk
set_option maxHeartbeats 2000000
/-! Texts and tokens: plain. -/
namespace Wk
open PySem PySem.Spec PyProof.Rows L2
open VakepBase (isLetter isDigit isBlank decimal numberOf token PTok Toks)
abbrev BTok := VakepBase.Tok
theorem all8 {p : UInt8 → Bool} (h : (List.range 256).all (fun n => p (UInt8.ofNat n)) = true) (c : UInt8) : p c = true := by
  have := List.all_eq_true.mp h c.toNat (List.mem_range.mpr (UInt8.toNat_lt c))
  simpa using this
def isSign (c : UInt8) : Bool := VakepBase.SIGNS.contains c
def isTok (c : UInt8) : Bool := isLetter c || isDigit c || isSign c
/-- a byte's sign -/
def sgn (c : UInt8) : UInt8 := if isTok c = true then c else 63
def LETTERS : Str := "abcdefghijklmnopqrstuvwxyzABCDEFGHIJKLMNOPQRSTUVWXYZ"
def DIGITS : Str := "0123456789"
def SIGNS_ : Str := "+,:;{}"
theorem S1 (c : UInt8) : S [c] = ⟨#[c.toNat]⟩ := rfl
theorem S1_len (c : UInt8) : (S [c]).length = 1 := rfl
theorem let_mem (c : UInt8) : decide ((sgn c).toNat ∈ LETTERS.cps.toList) = isLetter c := by
  have := all8 (p := fun c => decide ((sgn c).toNat ∈ LETTERS.cps.toList) == isLetter c) (by decide +kernel) c
  exact eq_of_beq this
theorem dig_mem (c : UInt8) : decide ((sgn c).toNat ∈ DIGITS.cps.toList) = isDigit c := by
  have := all8 (p := fun c => decide ((sgn c).toNat ∈ DIGITS.cps.toList) == isDigit c) (by decide +kernel) c
  exact eq_of_beq this
theorem sig_mem (c : UInt8) : decide ((sgn c).toNat ∈ SIGNS_.cps.toList) = isSign c := by
  have := all8 (p := fun c => decide ((sgn c).toNat ∈ SIGNS_.cps.toList) == isSign c) (by decide +kernel) c
  exact eq_of_beq this
theorem ld_mem (c : UInt8) : decide ((sgn c).toNat ∈ (LETTERS ++ DIGITS).cps.toList) = (isLetter c || isDigit c) := by
  have := all8 (p := fun c => decide ((sgn c).toNat ∈ (LETTERS ++ DIGITS).cps.toList) == (isLetter c || isDigit c)) (by decide +kernel) c
  exact eq_of_beq this
theorem all_mem (c : UInt8) : decide (c.toNat ∈ (LETTERS ++ DIGITS ++ SIGNS_).cps.toList) = isTok c := by
  have := all8 (p := fun c => decide (c.toNat ∈ (LETTERS ++ DIGITS ++ SIGNS_).cps.toList) == isTok c) (by decide +kernel) c
  exact eq_of_beq this
theorem sgn_self {c : UInt8} (h : isTok c = true) : sgn c = c := if_pos h
theorem tok_letter {c : UInt8} (h : isLetter c = true) : isTok c = true := by unfold isTok; rw [h]; rfl
theorem tok_digit {c : UInt8} (h : isDigit c = true) : isTok c = true := by unfold isTok; rw [h]; simp
theorem tok_sign {c : UInt8} (h : isSign c = true) : isTok c = true := by unfold isTok; rw [h]; simp
def signsL (b : Bytes) : List V := b.map fun c => V.str (S [sgn c])
def byteL (b : Bytes) : List V := b.map fun c => V.int ((c.toNat : Nat) : Int)
theorem signsL_len (b : Bytes) : (signsL b).length = b.length := List.length_map _
theorem byteL_len (b : Bytes) : (byteL b).length = b.length := List.length_map _
theorem signsL_at {b : Bytes} {i : Nat} {c : UInt8} (h : b[i]? = some c) : (signsL b)[i]? = some (.str (S [sgn c])) := by
  unfold signsL
  rw [List.getElem?_map, h]
  rfl
theorem byteL_at {b : Bytes} {i : Nat} {c : UInt8} (h : b[i]? = some c) : (byteL b)[i]? = some (.int ((c.toNat : Nat) : Int)) := by
  unfold byteL
  rw [List.getElem?_map, h]
  rfl
theorem drop_at {b : Bytes} {i : Nat} {c : UInt8} (h : b[i]? = some c) : b.drop i = c :: b.drop (i + 1) := by
  have hi : i < b.length := (List.getElem?_eq_some_iff.mp h).1
  rw [List.drop_eq_getElem_cons hi]
  rw [List.getElem?_eq_getElem hi] at h
  rw [Option.some.inj h]
theorem takeWhile_len_le {α : Type} (p : α → Bool) : ∀ l : List α, (l.takeWhile p).length ≤ l.length
  | [] => Nat.le_refl _
  | a :: r => by
    rw [List.takeWhile_cons]
    split
    · exact Nat.succ_le_succ (takeWhile_len_le p r)
    · exact Nat.zero_le _
theorem takeWhile_take {α : Type} (p : α → Bool) : ∀ l : List α, l.take (l.takeWhile p).length = l.takeWhile p
  | [] => rfl
  | a :: r => by
    rw [List.takeWhile_cons]
    split
    · rw [List.length_cons, List.take_succ_cons, takeWhile_take p r]
    · rfl
theorem takeWhile_drop {α : Type} (p : α → Bool) : ∀ l : List α, l.drop (l.takeWhile p).length = l.dropWhile p
  | [] => rfl
  | a :: r => by
    rw [List.takeWhile_cons, List.dropWhile_cons]
    split
    · rw [List.length_cons, List.drop_succ_cons, takeWhile_drop p r]
    · rfl
theorem takeWhile_all {α : Type} (p : α → Bool) : ∀ l : List α, ∀ x ∈ l.takeWhile p, p x = true
  | [], x, h => by cases h
  | a :: r, x, h => by
    rw [List.takeWhile_cons] at h
    split at h
    · rename_i c
      rcases List.mem_cons.mp h with e | h
      · rw [e]; exact c
      · exact takeWhile_all p r x h
    · cases h
/-- a piece of the signs -/
theorem cut_signs {b : Bytes} {p : UInt8 → Bool} {i : Nat} (hi : i ≤ b.length) (hp : ∀ c, p c = true → isTok c = true) :
    cutV (signsL b) (some (i : Int)) (some ((i + ((b.drop i).takeWhile p).length : Nat) : Int)) = ((b.drop i).takeWhile p).map fun c => V.str (S [c]) := by
  unfold cutV
  have hl := takeWhile_len_le p (b.drop i)
  rw [List.length_drop] at hl
  rw [HT.sIx_nat, HT.sIx_nat, signsL_len, Nat.min_eq_left hi, Nat.min_eq_left (by omega), Nat.add_sub_cancel_left]
  have e : (signsL b).drop i = signsL (b.drop i) := by unfold signsL; rw [List.map_drop]
  have e2 : (signsL (b.drop i)).take ((b.drop i).takeWhile p).length = signsL ((b.drop i).take ((b.drop i).takeWhile p).length) := by unfold signsL; rw [List.map_take]
  rw [e, e2, takeWhile_take]
  unfold signsL
  exact List.map_congr_left fun c hc => by rw [sgn_self (hp c (takeWhile_all p _ c hc))]
/-! ### numbers -/
def MOST : Nat := 1000000001
def decAt (n : Nat) (l : Bytes) : Nat := l.foldl (fun n b => 10 * n + (b.toNat - 48)) n
theorem decAt_ge : ∀ (l : Bytes) (n : Nat), n ≤ decAt n l
  | [], n => Nat.le_refl _
  | c :: r, n => Nat.le_trans (by omega) (decAt_ge r (10 * n + (c.toNat - 48)))
def minAt (n : Nat) (l : Bytes) : Nat := l.foldl (fun n b => min (10 * n + (b.toNat - 48)) MOST) n
theorem minAt_eq : ∀ (l : Bytes) (n : Nat), minAt (min n MOST) l = min (decAt n l) MOST
  | [], n => rfl
  | c :: r, n => by
    show minAt (min (10 * min n MOST + (c.toNat - 48)) MOST) r = min (decAt (10 * n + (c.toNat - 48)) r) MOST
    rw [← minAt_eq r (10 * n + (c.toNat - 48))]
    congr 1
    omega
theorem decAt_pow : ∀ (l : Bytes) (n : Nat), n * 10 ^ l.length ≤ decAt n l
  | [], n => by simp [decAt]
  | c :: r, n => by
    have := decAt_pow r (10 * n + (c.toNat - 48))
    show n * 10 ^ (r.length + 1) ≤ decAt (10 * n + (c.toNat - 48)) r
    refine Nat.le_trans ?_ this
    rw [Nat.pow_succ, Nat.mul_comm (10 ^ r.length) 10, ← Nat.mul_assoc, Nat.mul_comm n 10]
    exact Nat.mul_le_mul_right _ (Nat.le_add_right _ _)
theorem digit_toNat {c : UInt8} (h : isDigit c = true) : 48 ≤ c.toNat ∧ c.toNat ≤ 57 := by
  unfold isDigit at h
  exact of_decide_eq_true h
/-- when digits are no number -/
theorem number_none {c : UInt8} {r : Bytes} (hc : isDigit c = true) : (numberOf (c :: r) = none ∧ (MOST ≤ min (decimal (c :: r)) MOST ∨ (c.toNat = 48 ∧ 0 < r.length))) ∨
    (numberOf (c :: r) = some (decimal (c :: r)) ∧ min (decimal (c :: r)) MOST = decimal (c :: r) ∧ decimal (c :: r) < MOST ∧ ¬ (c.toNat = 48 ∧ 0 < r.length)) := by
  obtain ⟨h1, h2⟩ := digit_toNat hc
  have he : (c :: r).head? = some (48 : UInt8) ↔ c.toNat = 48 := by
    show some c = some (48 : UInt8) ↔ _
    constructor
    · intro e
      rw [Option.some.inj e]
      rfl
    · intro e
      have : c = 48 := UInt8.toNat_inj.mp e
      rw [this]
  unfold numberOf
  have hN : VakepBase.NUMBER = 1000000000 := rfl
  have hM : MOST = 1000000001 := rfl
  by_cases h0 : c.toNat = 48 ∧ 0 < r.length
  · refine .inl ⟨if_pos (.inr (.inr (.inl ⟨by rw [List.length_cons]; omega, he.mpr h0.1⟩))), .inr h0⟩
  · by_cases hd : MOST ≤ decimal (c :: r)
    · exact .inl ⟨if_pos (.inr (.inr (.inr (by omega)))), .inl (by omega)⟩
    · refine .inr ⟨if_neg ?_, by omega, by omega, h0⟩
      rintro (e | e | e | e)
      · cases e
      · have hp := decAt_pow r (c.toNat - 48)
        have hq : decimal (c :: r) = decAt (c.toNat - 48) r := by
          show decAt (10 * 0 + (c.toNat - 48)) r = _
          rw [Nat.mul_zero, Nat.zero_add]
        rw [List.length_cons] at e
        have hc1 : 1 ≤ c.toNat - 48 := by
          rcases Nat.lt_or_ge 48 c.toNat with z | z
          · omega
          · exact absurd ⟨by omega, by omega⟩ h0
        have h10 : 10 ^ 10 ≤ 10 ^ r.length := Nat.pow_le_pow_right (by decide) (by omega)
        have : 10 ^ 10 ≤ (c.toNat - 48) * 10 ^ r.length := Nat.le_trans h10 (Nat.le_mul_of_pos_left _ hc1)
        omega
      · exact h0 ⟨he.mp e.2, by rw [List.length_cons] at e; omega⟩
      · omega
/-! ### tokens in the heap -/
def tokS : BTok → Str × V
  | .name b => (if VakepBase.RESERVED.contains b = true then "word" else "name", .str (S b))
  | .num n => ("number", .int (n : Int))
  | .sign c => ("sign", .str ⟨#[c]⟩)
  | .last => ("end", .str "")
def TokV (H : Hp) (v : V) (t : PTok) : Prop := ∃ a, v = .ref a ∧ H a = some (.tup [.int ((t.place : Nat) : Int), .str (tokS t.tok).1, (tokS t.tok).2])
theorem TokV.tups {H H' : Hp} (k : ∀ b xs, H b = some (.tup xs) → H' b = some (.tup xs)) {v : V} {t : PTok} (h : TokV H v t) : TokV H' v t := let ⟨a, x, y⟩ := h; ⟨a, x, k _ _ y⟩
/-- tokens as the program cuts them -/
def NiceTok : BTok → Prop
  | .name b => b.length ≤ 16 ∧ b ≠ []
  | .num n => n ≤ 1000000000
  | .sign c => c < 128
  | .last => True
theorem token_letter {c : UInt8} {r : Bytes} (h : isLetter c = true) : token (c :: r) = if 16 < ((c :: r).takeWhile fun c => isLetter c || isDigit c).length then none else some (.name ((c :: r).takeWhile fun c => isLetter c || isDigit c), ((c :: r).takeWhile fun c => isLetter c || isDigit c).length) := if_pos h
theorem token_digit {c : UInt8} {r : Bytes} (h : ¬ isLetter c = true) (hd : isDigit c = true) : token (c :: r) = (numberOf (c :: r.takeWhile isDigit)).map fun n => (.num n, (c :: r.takeWhile isDigit).length) := by
  have e : ((c :: r).takeWhile isDigit) = c :: r.takeWhile isDigit := by rw [List.takeWhile_cons, hd]; rfl
  rw [← e]
  exact (if_neg h).trans (if_pos hd)
theorem token_sign {c : UInt8} {r : Bytes} (h : ¬ isLetter c = true) (hd : ¬ isDigit c = true) (hs : isSign c = true) : token (c :: r) = some (.sign c.toNat, 1) := (if_neg h).trans ((if_neg hd).trans (if_pos hs))
theorem token_bad {c : UInt8} {r : Bytes} (h : ¬ isLetter c = true) (hd : ¬ isDigit c = true) (hs : ¬ isSign c = true) : token (c :: r) = none := (if_neg h).trans ((if_neg hd).trans (if_neg hs))
theorem word_cons {c : UInt8} {r : Bytes} (h : isLetter c = true) : ((c :: r).takeWhile fun c => isLetter c || isDigit c) = c :: r.takeWhile fun c => isLetter c || isDigit c := by
  rw [List.takeWhile_cons, h]
  rfl
theorem token_size {b : Bytes} {x : BTok × Nat} (h : token b = some x) : 1 ≤ x.2 ∧ x.2 ≤ b.length ∧ NiceTok x.1 := by
  cases b with
  | nil => cases h
  | cons c r =>
    by_cases hc : isLetter c = true
    · rw [token_letter hc] at h
      by_cases h16 : 16 < ((c :: r).takeWhile fun c => isLetter c || isDigit c).length
      · rw [if_pos h16] at h; cases h
      · rw [if_neg h16] at h
        have hx := Option.some.inj h
        subst hx
        refine ⟨?_, takeWhile_len_le _ _, Nat.le_of_not_lt h16, ?_⟩
        · show 1 ≤ ((c :: r).takeWhile fun c => isLetter c || isDigit c).length
          rw [word_cons hc, List.length_cons]
          omega
        · rw [word_cons hc]
          exact List.cons_ne_nil _ _
    · by_cases hd : isDigit c = true
      · rw [token_digit hc hd] at h
        rcases number_none (r := r.takeWhile isDigit) hd with ⟨q, _⟩ | ⟨q, _, q2, _⟩
        · rw [q] at h; cases h
        · rw [q] at h
          have hx := Option.some.inj h
          subst hx
          refine ⟨by show 1 ≤ (c :: r.takeWhile isDigit).length; rw [List.length_cons]; exact Nat.succ_le_succ (Nat.zero_le _), Nat.succ_le_succ (takeWhile_len_le _ _), ?_⟩
          have hM : MOST = 1000000001 := rfl
          show decimal _ ≤ 1000000000
          omega
      · by_cases hs : isSign c = true
        · rw [token_sign hc hd hs] at h
          have hx := Option.some.inj h
          subst hx
          refine ⟨Nat.le_refl _, Nat.succ_le_succ (Nat.zero_le _), ?_⟩
          have := all8 (p := fun c => !isSign c || decide (c.toNat < 128)) (by decide +kernel) c
          rw [hs] at this
          show c.toNat < 128
          simpa using this
        · rw [token_bad hc hd hs] at h
          cases h
theorem token_nil : token [] = none := rfl
/-- what the tokens of a text are, from the place where the program stands -/
def LexAt (b : Bytes) (R : Except VakepBase.Fault Toks) (j : Nat) (acc : Toks) : Prop := ∃ n, b.length - j < n ∧ R = (VakepBase.lex n j (b.drop j)).map fun l => acc ++ l
theorem LexAt.start (b : Bytes) : LexAt b (VakepBase.lex (b.length + 1) 0 b) 0 [] := ⟨b.length + 1, by omega, by
  rw [List.drop_zero]
  cases VakepBase.lex (b.length + 1) 0 b <;> rfl⟩
section
variable {b : Bytes} {R : Except VakepBase.Fault Toks} {j : Nat} {acc : Toks}
theorem LexAt.stop (h : LexAt b R j acc) (hj : j = b.length) : R = .ok (acc ++ [⟨b.length, .last⟩]) := by
  obtain ⟨n, hn, e⟩ := h
  subst hj
  rw [List.drop_length] at e
  cases n with
  | zero => exact e
  | succ n => exact e
theorem LexAt.blank (h : LexAt b R j acc) {c : UInt8} (hc : b[j]? = some c) (hb : isBlank c = true) : LexAt b R (j + 1) acc := by
  obtain ⟨n, hn, e⟩ := h
  obtain ⟨m, rfl⟩ : ∃ m, n = m + 1 := ⟨n - 1, by omega⟩
  have hj : j < b.length := (List.getElem?_eq_some_iff.mp hc).1
  rw [drop_at hc] at e
  refine ⟨m, by omega, ?_⟩
  rw [e]
  show Except.map _ (if isBlank c = true then _ else _) = _
  rw [if_pos hb]
theorem LexAt.remark (h : LexAt b R j acc) {c : UInt8} (hc : b[j]? = some c) (hb : ¬ isBlank c = true) (hr : c = 35) : LexAt b R (j + ((b.drop j).takeWhile (· != 10)).length) acc := by
  obtain ⟨n, hn, e⟩ := h
  obtain ⟨m, rfl⟩ : ∃ m, n = m + 1 := ⟨n - 1, by omega⟩
  have hj : j < b.length := (List.getElem?_eq_some_iff.mp hc).1
  rw [drop_at hc] at e ⊢
  have e1 : ((c :: b.drop (j + 1)).takeWhile (· != 10)).length = 1 + ((b.drop (j + 1)).takeWhile (· != 10)).length := by
    rw [List.takeWhile_cons, hr]
    show ((35 : UInt8) :: (b.drop (j + 1)).takeWhile (· != 10)).length = _
    rw [List.length_cons, Nat.add_comm]
  refine ⟨m, by rw [e1]; omega, ?_⟩
  rw [e]
  show Except.map _ (if isBlank c = true then _ else if (c == 35) = true then _ else _) = _
  rw [if_neg hb, if_pos (by rw [hr]; rfl), e1]
  have e2 : b.drop (j + (1 + ((b.drop (j + 1)).takeWhile (· != 10)).length)) = (b.drop (j + 1)).dropWhile (· != 10) := by
    rw [← takeWhile_drop, List.drop_drop]
    congr 1
    omega
  rw [e2]
  have e3 : j + 1 + ((b.drop (j + 1)).takeWhile (· != 10)).length = j + (1 + ((b.drop (j + 1)).takeWhile (· != 10)).length) := by omega
  rw [e3]
theorem LexAt.bad (h : LexAt b R j acc) {c : UInt8} (hc : b[j]? = some c) (hb : ¬ isBlank c = true) (hr : c ≠ 35) (ht : token (b.drop j) = none) : R = .error ⟨2, j⟩ := by
  obtain ⟨n, hn, e⟩ := h
  obtain ⟨m, rfl⟩ : ∃ m, n = m + 1 := ⟨n - 1, by omega⟩
  rw [drop_at hc] at e ht
  rw [e]
  show Except.map _ (if isBlank c = true then _ else if (c == 35) = true then _ else _) = _
  rw [if_neg hb, if_neg (by simpa using hr), ht]
  rfl
theorem LexAt.tok (h : LexAt b R j acc) {c : UInt8} (hc : b[j]? = some c) (hb : ¬ isBlank c = true) (hr : c ≠ 35) {x : BTok × Nat} (ht : token (b.drop j) = some x) : LexAt b R (j + x.2) (acc ++ [⟨j, x.1⟩]) := by
  obtain ⟨n, hn, e⟩ := h
  obtain ⟨m, rfl⟩ : ∃ m, n = m + 1 := ⟨n - 1, by omega⟩
  have hs := token_size ht
  have hd : b.drop (j + x.2) = (b.drop j).drop x.2 := by rw [List.drop_drop]
  rw [List.length_drop] at hs
  refine ⟨m, by omega, ?_⟩
  rw [hd, e]
  rw [drop_at hc] at ht ⊢
  show Except.map _ (if isBlank c = true then _ else if (c == 35) = true then _ else _) = _
  rw [if_neg hb, if_neg (by simpa using hr), ht]
  show Except.map _ (Except.map _ (VakepBase.lex m (j + x.2) ((c :: b.drop (j + 1)).drop x.2))) = _
  cases VakepBase.lex m (j + x.2) ((c :: b.drop (j + 1)).drop x.2) with
  | error f => rfl
  | ok l =>
    show Except.ok (acc ++ ⟨j, x.1⟩ :: l) = Except.ok ((acc ++ [⟨j, x.1⟩]) ++ l)
    simp
end
end Wk
set_option maxHeartbeats 2000000
namespace Wk
open PySem PySem.Spec PyProof.Rows L2
open VakepBase (isLetter isDigit isBlank decimal numberOf token PTok Toks)
theorem for_str {x : Str} {g : TG} {tb : TS} {D : Ends} {σ : L2.St} {H : Hp} (Pv : Nat → L2.St → Hp → Prop) (h0 : Pv 0 σ H)
    (hs : ∀ (i c : Nat) (σ : L2.St) (H : Hp), x.cps[i]? = some c → Pv i σ H → g (.str ⟨#[c]⟩) σ H fun σ2 H2 => tb { D with nx := Pv (i + 1), ct := Pv (i + 1), bk := D.nx } σ2 H2) (hd : ∀ σ H, Pv x.cps.size σ H → D.nx σ H) :
    ∃ W : Nat → Nat → L2.St → Hp → Prop, (∃ m, W 0 m σ H) ∧ ∀ i m σ H, W i m σ H →
      ((Its x).stop i H ∧ D.nx σ H) ∨ ((Its x).go i H ∧ ∃ N : L2.St → Hp → Prop, (∀ σ' H', N σ' H' → ∃ m', m' < m ∧ W (i + 1) m' σ' H') ∧ ∀ v H', (Its x).yld i H v H' → g v σ H' fun σ2 H2 => tb { D with nx := N, ct := N, bk := D.nx } σ2 H2) := by
  refine ⟨fun i m σ H => m = x.cps.size - i ∧ i ≤ x.cps.size ∧ Pv i σ H, ⟨x.cps.size, by simp, Nat.zero_le _, h0⟩, ?_⟩
  rintro i m σ H ⟨rfl, hi, p⟩
  by_cases hlt : i < x.cps.size
  · refine .inr ⟨hlt, Pv (i + 1), fun σ' H' p' => ⟨x.cps.size - (i + 1), by omega, rfl, hlt, p'⟩, fun v H' y => ?_⟩
    obtain ⟨rfl, c, hc, rfl⟩ := y
    exact hs i c σ _ hc p
  · have e : i = x.cps.size := by omega
    subst e
    exact .inl ⟨Nat.le_refl _, hd σ H p⟩
theorem ne_dec8 (c : UInt8) : (!decide (V.int ((c.toNat : Nat) : Int) = V.int 10)) = (c != 10) := by
  by_cases h : c = 10
  · subst h
    rfl
  · rw [decide_eq_false fun z => h (UInt8.toNat_inj.mp (by have := V.int.inj z; show c.toNat = 10; omega))]
    exact (bne_iff_ne.mpr h).symm
section
variable {P : Program} {w : World} {K : PySem.W.Frag} {mg : Str → Option Value} {base : Heap}
/-- a fault is raised; what H has is kept -/
def FaultE (K : PySem.W.Frag) (E : XK) (H : Hp) (f : VakepBase.Fault) : Prop := ∀ (d : Addr) (H' : Hp) (fs : List (Str × V)), Same H H' → H' d = some (.xd fs) → List.lookup ("code" : Str) fs = some (V.int ((f.code : Nat) : Int)) → List.lookup ("place" : Str) fs = some (V.int ((f.place : Nat) : Int)) → E (.ref (cFault K)) (some d) H'
theorem FaultE.mono {E : XK} {H H1 : Hp} {f : VakepBase.Fault} (h : FaultE K E H f) (e : Same H H1) : FaultE K E H1 f := fun d H' fs e2 => h d H' fs (Same.trans e e2)
def spFaultInit (K : PySem.W.Frag) : Sp := Sp3 fun s x y H Q _ => ∃ a, s = .ref a ∧ OexC K (cFault K) ∧ H a = some (exo a (cFault K) none) ∧
  ∀ dx, H dx = none → dx ≠ a → Q .non (upd (upd (upd H dx (exd dx [("code", x)])) a (exo a (cFault K) (some dx))) dx (exd dx [("place", y), ("code", x)]))
theorem sc_Fault___init__ : FnScope ["self", "code", "place"] ["self", "code", "place"] (defScope s_Fault___init__) := ⟨rfl, rfl, rfl, by decide +kernel, rfl, by decide +kernel, by decide +kernel⟩
theorem ok_Fault___init__ (T : Tx K mg) : FK P w K mg base CX0 (1) (He.ma K (He.ga K "Fault") "__init__") ["self", "code", "place"] (spFaultInit K) := by
  obtain ⟨fd, F⟩ := T.f_Fault___init__
  refine ⟨fd, F.ok sc_Fault___init__ (fun vs H Q E h => Sp3.len h) (fun cdv A outer s H vs Q E hr h => ?body), F.bindsN (fun _ _ _ _ _ _ us hl => match us, hl with | [_, _, _], _ => rfl), F.kp⟩
  refine ⟨_, PSs.nox (pss_cons (ps_expr (pe_veinit rfl T.n_ValueError T.vei (pa_cons (pv 0) (pa_cons pe_str pa_nil))))
      (pss_cons (ps_ost (pv 0) (pv 1))
      (pss_one (ps_ost (pv 0) (pv 2))))), ?_⟩
  obtain ⟨_, x, y, rfl, a, rfl, hC, ha, kk⟩ := h
  refine ⟨_, rfl, a, cFault K, _, rfl, by decide, hC, ha, ?_⟩
  refine ⟨_, rfl, _, rfl, a, cFault K, rfl, hC, T.na_Fault_code, .inl ⟨ha, fun dx hdx nd => ?_⟩⟩
  exact ⟨_, rfl, _, rfl, a, cFault K, rfl, hC, T.na_Fault_place, .inr ⟨dx, _, upd_same, (upd_ne nd).trans upd_same, by show 1 ≤ 900; decide, kk dx hdx nd⟩⟩
theorem fault_made (T : Tx K mg) {E : XK} {H : Hp} {f : VakepBase.Fault} (h : FaultE K E H f) : ([.int ((f.code : Nat) : Int), .int ((f.place : Nat) : Int)] : List V).length ≤ 1000 ∧ ∀ a, H a = none → spFaultInit K (.ref a :: ([.int ((f.code : Nat) : Int), .int ((f.place : Nat) : Int)] ++ [])) (upd H a (exo a (cFault K) none))
    (fun v H2 => v = .non ∧ ∃ (d : Addr) (fs : List (Str × V)), H2 a = some (exo a (cFault K) (some d)) ∧ H2 d = some (exd d fs) ∧ H d = none ∧ E (.ref (cFault K)) (some d) (upd (del H2 a) d (.xd fs))) (fun _ _ _ => False) := by
  refine ⟨by show 2 ≤ 1000; decide, fun a ha => ⟨_, _, _, rfl, a, rfl, T.e_Fault.oc, upd_same, fun dx hdx nd => ⟨rfl, dx, _, (upd_ne nd.symm).trans upd_same, upd_same, ?_, h dx _ _ ?_ upd_same ?_ ?_⟩⟩⟩
  · rwa [upd_ne nd] at hdx
  · intro b o hb
    have n1 : b ≠ a := ne_of_none hb ha
    have n2 : b ≠ dx := ne_of_none hb (by rwa [upd_ne nd] at hdx)
    rw [upd_ne n2, del_ne n1, upd_ne n2, upd_ne n1, upd_ne n2, upd_ne n1]
    exact hb
  · exact (lk_past (by decide +kernel)).trans lk_here
  · exact lk_here
def spSignOf : Sp := Sp1 fun x H Q _ => ∃ c : UInt8, x = .int ((c.toNat : Nat) : Int) ∧ Q (.str (S [sgn c])) H
theorem sc_sign_of : FnScope ["byte", "sign"] ["byte"] (defScope s_sign_of) := ⟨rfl, rfl, rfl, by decide +kernel, rfl, by decide +kernel, by decide +kernel⟩
theorem ok_sign_of (T : Tx K mg) : FK P w K mg base CX0 (1) (He.ga K "sign_of") ["byte"] (spSignOf) := by
  obtain ⟨fd, F⟩ := T.f_sign_of
  refine ⟨fd, F.ok sc_sign_of (fun vs H Q E h => Sp1.len h) (fun cdv A outer s H vs Q E hr h => ?body), F.bindsN (fun _ _ _ _ _ _ us hl => match us, hl with | [_], _ => rfl), F.kp⟩
  refine ⟨_, PSs.nox (pss_cons (ps_for PassesOwn.never rfl (pi_str (pe_op op_add_str (pe_op op_add_str (C8.pe_gc rfl T.k_LETTERS) (C8.pe_gc rfl T.k_DIGITS)) (C8.pe_gc rfl T.k_SIGNS))) (pg_name (i := 1) sc_sign_of.nd rfl (.inl rfl) (.inr rfl)) (pss_one (ps_if (pt_cmpR op_eq (pe_callB call_ord rfl T.n_ord (by decide +kernel) (pa_cons (pv 1) pa_nil)) (pv 0) (nomark _)) (pss_one (ps_ret (pv 1))) pss_nil)))
      (pss_one (ps_ret (C8.pe_gc rfl T.k_UNKNOWN)))), ?_⟩
  obtain ⟨_, rfl, c, rfl, kk⟩ := h
  refine ⟨_, _, rfl, rfl, by show 52 + 10 ≤ sizeLine; decide, _, _, rfl, rfl, by show 62 + 6 ≤ sizeLine; decide, LETTERS ++ DIGITS ++ SIGNS_, rfl, ?_⟩
  refine for_str (fun i σ H' => ∃ a, σ = [some (.int ((c.toNat : Nat) : Int)), a] ∧ H' = H ∧ c.toNat ∉ (LETTERS ++ DIGITS ++ SIGNS_).cps.toList.take i) ⟨none, rfl, rfl, by simp⟩ ?_ ?_
  · rintro i n σ H' hn ⟨a, rfl, rfl, hi⟩
    refine ⟨_, rfl, _, rfl, rfl, _, rfl, rfl, _, rfl, ?_⟩
    show if decide (V.int ((n : Nat) : Int) = V.int ((c.toNat : Nat) : Int)) = true then _ else _
    have hl : (LETTERS ++ DIGITS ++ SIGNS_).cps.toList[i]? = some n := by rw [Array.getElem?_toList]; exact hn
    by_cases e : n = c.toNat
    · rw [if_pos (by rw [e]; exact decide_eq_true rfl)]
      refine ⟨_, rfl, ?_⟩
      have hm : c.toNat ∈ (LETTERS ++ DIGITS ++ SIGNS_).cps.toList := by rw [← e]; exact List.mem_of_getElem? hl
      have ht : isTok c = true := by rw [← all_mem]; exact decide_eq_true hm
      rw [sgn_self ht] at kk
      rw [e]
      exact kk
    · rw [if_neg fun z => e (by have := V.int.inj (of_decide_eq_true z); omega)]
      refine ⟨_, rfl, rfl, fun z => ?_⟩
      rw [take_more hl] at z
      rcases List.mem_append.mp z with z | z
      · exact hi z
      · exact e (List.mem_singleton.mp z).symm
  · rintro σ H' ⟨a, rfl, rfl, hi⟩
    have hz : (LETTERS ++ DIGITS ++ SIGNS_).cps.size = (LETTERS ++ DIGITS ++ SIGNS_).cps.toList.length := rfl
    rw [hz, List.take_length] at hi
    have ht : ¬ isTok c = true := fun z => hi (by rw [← all_mem] at z; exact of_decide_eq_true z)
    have e : sgn c = 63 := if_neg ht
    rw [e] at kk
    exact kk
/-- how far the signs of a sort go -/
def spRunEnd (K : PySem.W.Frag) : Sp := Sp3 fun x y z H Q _ => ∃ l b j some_ p, x = .ref l ∧ y = .int ((j : Nat) : Int) ∧ z = .str some_ ∧ H l = some (.lst (signsL b)) ∧ j ≤ b.length ∧ (∀ c, decide ((sgn c).toNat ∈ some_.cps.toList) = p c) ∧
  Q (.int ((j + ((b.drop j).takeWhile p).length : Nat) : Int)) H
theorem sc_run_end : FnScope ["signs", "at", "some"] ["signs", "at", "some"] (defScope s_run_end) := ⟨rfl, rfl, rfl, by decide +kernel, rfl, by decide +kernel, by decide +kernel⟩
theorem ok_run_end (T : Tx K mg) : FK P w K mg base CX0 (1) (He.ga K "run_end") ["signs", "at", "some"] (spRunEnd K) := by
  obtain ⟨fd, F⟩ := T.f_run_end
  refine ⟨fd, F.ok sc_run_end (fun vs H Q E h => Sp3.len h) (fun cdv A outer s H vs Q E hr h => ?body), F.bindsN (fun _ _ _ _ _ _ us hl => match us, hl with | [_, _, _], _ => rfl), F.kp⟩
  refine ⟨_, PSs.nox (pss_cons (ps_while PassesOwn.never (PW.pt (pw_and (pt_cmpR op_lt (pv 1) (pe_callB call_lenK rfl T.n_len boot_len (pa_cons (pv 0) pa_nil)) (nomark _)) (pw_and1 (pt_cmpR op_in_sign (pe_ix ix_list (pv 0) (pv 1) (fun _ _ => rfl)) (pv 2) rfl)))) (pss_one (ps_set (i := 1) sc_run_end.nd rfl (.inl rfl) (pe_op op_add (pv 1) pe_int) (hf := (.inr rfl)))))
      (pss_one (ps_ret (pv 1)))), ?_⟩
  obtain ⟨_, _, _, rfl, l, b, j, some_, p, rfl, rfl, rfl, hl, hj, hp, kk⟩ := h
  refine ⟨fun m σ H' => ∃ i, σ = [some (.ref l), some (.int ((i : Nat) : Int)), some (.str some_)] ∧ H' = H ∧ i ≤ b.length ∧ i + ((b.drop i).takeWhile p).length = j + ((b.drop j).takeWhile p).length ∧ m = b.length - i, ⟨_, j, rfl, rfl, hj, rfl, rfl⟩, ?_⟩
  rintro m σ H0 ⟨i, rfl, rfl, hi, he, rfl⟩
  refine ⟨_, rfl, _, rfl, l, _, rfl, .inl (SqL.of hl), _, _, rfl, rfl, _, rfl, ?_⟩
  show if decide ((i : Int) < ((signsL b).length : Int)) = true then _ else _
  rw [signsL_len]
  by_cases hlt : i < b.length
  · rw [if_pos (decide_eq_true (by omega))]
    have hc := List.getElem?_eq_getElem hlt
    generalize b[i] = c at hc
    refine ⟨_, rfl, _, rfl, l, _, _, _, rfl, rfl, SqL.of hl, atI_n (signsL_at hc), _, rfl, _, _, rfl, rfl, _, rfl, ?_⟩
    show if decide ((sgn c).toNat ∈ some_.cps.toList) = true then _ else _
    rw [hp]
    rw [drop_at hc, List.takeWhile_cons] at he
    cases hpc : p c with
    | true =>
      rw [hpc, if_pos rfl, List.length_cons] at he
      refine ⟨fun σ' H' => H' = H0 ∧ σ' = [some (.ref l), some (.int ((i + 1 : Nat) : Int)), some (.str some_)], ?_, ?_⟩
      · rintro σ' H' ⟨rfl, rfl⟩
        exact ⟨_, by omega, i + 1, rfl, rfl, by omega, by omega, rfl⟩
      · exact ⟨_, rfl, _, _, rfl, rfl, rfl, rfl⟩
    | false =>
      rw [hpc, if_neg Bool.false_ne_true] at he
      refine ⟨_, rfl, ?_⟩
      rw [← he] at kk
      exact kk
  · rw [if_neg fun z => hlt (by have := of_decide_eq_true z; omega)]
    refine ⟨_, rfl, ?_⟩
    have e : i = b.length := by omega
    rw [← he, e, List.drop_length] at kk
    rw [e]
    exact kk
def spRemarkEnd (K : PySem.W.Frag) : Sp := Sp2 fun x y H Q _ => ∃ l b j, x = .ref l ∧ y = .int ((j : Nat) : Int) ∧ H l = some (.lst (byteL b)) ∧ j ≤ b.length ∧ Q (.int ((j + ((b.drop j).takeWhile (· != 10)).length : Nat) : Int)) H
theorem sc_remark_end : FnScope ["text", "at"] ["text", "at"] (defScope s_remark_end) := ⟨rfl, rfl, rfl, by decide +kernel, rfl, by decide +kernel, by decide +kernel⟩
theorem ok_remark_end (T : Tx K mg) : FK P w K mg base CX0 (1) (He.ga K "remark_end") ["text", "at"] (spRemarkEnd K) := by
  obtain ⟨fd, F⟩ := T.f_remark_end
  refine ⟨fd, F.ok sc_remark_end (fun vs H Q E h => Sp2.len h) (fun cdv A outer s H vs Q E hr h => ?body), F.bindsN (fun _ _ _ _ _ _ us hl => match us, hl with | [_, _], _ => rfl), F.kp⟩
  refine ⟨_, PSs.nox (pss_cons (ps_while PassesOwn.never (PW.pt (pw_and (pt_cmpR op_lt (pv 1) (pe_callB call_lenK rfl T.n_len boot_len (pa_cons (pv 0) pa_nil)) (nomark _)) (pw_and1 (pt_cmpR op_ne (pe_ix ix_list (pv 0) (pv 1) (fun _ _ => rfl)) (C8.pe_gc rfl T.k_LINE_END) (nomark _))))) (pss_one (ps_set (i := 1) sc_remark_end.nd rfl (.inl rfl) (pe_op op_add (pv 1) pe_int) (hf := (.inr rfl)))))
      (pss_one (ps_ret (pv 1)))), ?_⟩
  obtain ⟨_, _, rfl, l, b, j, rfl, rfl, hl, hj, kk⟩ := h
  refine ⟨fun m σ H' => ∃ i, σ = [some (.ref l), some (.int ((i : Nat) : Int))] ∧ H' = H ∧ i ≤ b.length ∧ i + ((b.drop i).takeWhile (· != 10)).length = j + ((b.drop j).takeWhile (· != 10)).length ∧ m = b.length - i, ⟨_, j, rfl, rfl, hj, rfl, rfl⟩, ?_⟩
  rintro m σ H0 ⟨i, rfl, rfl, hi, he, rfl⟩
  refine ⟨_, rfl, _, rfl, l, _, rfl, .inl (SqL.of hl), _, _, rfl, rfl, _, rfl, ?_⟩
  show if decide ((i : Int) < ((byteL b).length : Int)) = true then _ else _
  rw [byteL_len]
  by_cases hlt : i < b.length
  · rw [if_pos (decide_eq_true (by omega))]
    have hc := List.getElem?_eq_getElem hlt
    generalize b[i] = c at hc
    refine ⟨_, rfl, _, rfl, l, _, _, _, rfl, rfl, SqL.of hl, atI_n (byteL_at hc), rfl, _, rfl, ?_⟩
    show if (!decide (V.int ((c.toNat : Nat) : Int) = V.int 10)) = true then _ else _
    have hp : (!decide (V.int ((c.toNat : Nat) : Int) = V.int 10)) = (c != 10) := by
      have := ne_dec8 c
      exact this
    rw [hp]
    rw [drop_at hc, List.takeWhile_cons] at he
    cases hpc : (c != 10) with
    | true =>
      rw [hpc, if_pos rfl, List.length_cons] at he
      refine ⟨fun σ' H' => H' = H0 ∧ σ' = [some (.ref l), some (.int ((i + 1 : Nat) : Int))], ?_, ?_⟩
      · rintro σ' H' ⟨rfl, rfl⟩
        exact ⟨_, by omega, i + 1, rfl, rfl, by omega, by omega, rfl⟩
      · exact ⟨_, rfl, _, _, rfl, rfl, rfl, rfl⟩
    | false =>
      rw [hpc, if_neg Bool.false_ne_true] at he
      refine ⟨_, rfl, ?_⟩
      rw [← he] at kk
      exact kk
  · rw [if_neg fun z => hlt (by have := of_decide_eq_true z; omega)]
    refine ⟨_, rfl, ?_⟩
    have e : i = b.length := by omega
    rw [← he, e, List.drop_length] at kk
    rw [e]
    exact kk
theorem occ_digit (c : UInt8) (h : isDigit c = true) : ∃ rest, Builtin.Str.occurrences DIGITS ⟨#[c.toNat]⟩ 0 DIGITS.length 1 = (c.toNat - 48) :: rest := by
  have := all8 (p := fun c => !isDigit c || (Builtin.Str.occurrences DIGITS ⟨#[c.toNat]⟩ 0 DIGITS.length 1 == [c.toNat - 48])) (by decide +kernel) c
  rw [h] at this
  exact ⟨[], eq_of_beq (by simpa using this)⟩
def spWorth (K : PySem.W.Frag) : Sp := Sp1 fun x H Q _ => ∃ l b, x = .ref l ∧ H l = some (.lst (b.map fun c => V.str (S [c]))) ∧ (∀ c ∈ b, isDigit c = true) ∧ Q (.int ((min (decimal b) MOST : Nat) : Int)) H
theorem sc_worth_of : FnScope ["figures", "found", "figure"] ["figures"] (defScope s_worth_of) := ⟨rfl, rfl, rfl, by decide +kernel, rfl, by decide +kernel, by decide +kernel⟩
theorem ok_worth_of (T : Tx K mg) : FK P w K mg base CX0 (1) (He.ga K "worth_of") ["figures"] (spWorth K) := by
  obtain ⟨fd, F⟩ := T.f_worth_of
  refine ⟨fd, F.ok sc_worth_of (fun vs H Q E h => Sp1.len h) (fun cdv A outer s H vs Q E hr h => ?body), F.bindsN (fun _ _ _ _ _ _ us hl => match us, hl with | [_], _ => rfl), F.kp⟩
  refine ⟨_, PSs.nox (pss_cons (ps_set (i := 1) sc_worth_of.nd rfl (.inl rfl) pe_int (hf := (.inr rfl)))
      (pss_cons (ps_for PassesOwn.never rfl (pi_list (pv 0)) (pg_name (i := 2) sc_worth_of.nd rfl (.inl rfl) (.inr rfl)) (pss_one (ps_set (i := 1) sc_worth_of.nd rfl (.inl rfl) (pe_callB (call_min2 rfl) rfl T.n_min (by decide +kernel) (pa_cons (pe_op op_add (pe_op op_mul pe_int (pv 1)) (pe_bm PySem.F.plainAttrs_str PySem.F.slot_str_index PySem.F.type_str_index mt_sindex (C8.pe_gc rfl T.k_DIGITS) (pa_cons (pv 2) pa_nil))) (pa_cons (pe_op op_add (C8.pe_gc rfl T.k_MOST_NUMBER) pe_int) pa_nil))) (hf := (.inr rfl)))))
      (pss_one (ps_ret (pv 1))))), ?_⟩
  obtain ⟨_, rfl, l, b, rfl, hl, hd, kk⟩ := h
  refine ⟨_, rfl, l, rfl, ⟨_, SqL.of hl⟩, ?_⟩
  refine for_list (K := K) (a := l) (xs := b.map fun c => V.str (S [c])) (fun i σ H' => ∃ n a, σ = [some (.ref l), some (.int ((n : Nat) : Int)), a] ∧ H' = H ∧ n = minAt 0 (b.take i)) ⟨0, none, rfl, rfl, rfl⟩ (fun i σ H' _ ⟨_, _, _, e, _⟩ => by rw [e]; exact SqL.of hl) ?_ ?_
  · rintro i x σ H' hx ⟨n, a, rfl, rfl, hn⟩
    have hi : i < b.length := by have := (List.getElem?_eq_some_iff.mp hx).1; rwa [List.length_map] at this
    have hc := List.getElem?_eq_getElem hi
    rw [List.getElem?_map, hc] at hx
    have ex := Option.some.inj hx
    subst ex
    have hdc := hd _ (List.getElem_mem hi)
    generalize b[i] = c at hc hdc
    obtain ⟨rest, ho⟩ := occ_digit c hdc
    have hnM : n ≤ MOST := by
      rw [hn]
      have := minAt_eq (b.take i) 0
      rw [show min 0 MOST = 0 from rfl] at this
      rw [this]
      exact Nat.min_le_right _ _
    have hM : MOST = 1000000001 := rfl
    refine ⟨_, rfl, _, _, rfl, rfl, .inr ⟨by omega, by omega⟩, ?_⟩
    refine ⟨rfl, ?_⟩
    refine ⟨_, rfl, DIGITS, _, _, rest, rfl, rfl, ho, ?_⟩
    refine ⟨_, _, rfl, rfl, _, _, rfl, rfl, _, _, rfl, ?_⟩
    refine ⟨min (10 * n + (c.toNat - 48)) MOST, some (.str (S [c])), ?_, rfl, ?_⟩
    · have e : (if (1000000000 + 1 : Int) < 10 * (n : Int) + ((c.toNat - 48 : Nat) : Int) then (1000000000 + 1 : Int) else 10 * (n : Int) + ((c.toNat - 48 : Nat) : Int)) = ((min (10 * n + (c.toNat - 48)) MOST : Nat) : Int) := by
        split <;> omega
      rw [← e]
      rfl
    · rw [take_more hc]
      unfold minAt
      rw [List.foldl_append, hn]
      rfl
  · rintro σ H' ⟨n, a, rfl, rfl, hn⟩
    refine ⟨_, rfl, ?_⟩
    rw [List.length_map, List.take_length] at hn
    have := minAt_eq b 0
    rw [show min 0 MOST = 0 from rfl] at this
    rw [hn, this]
    exact kk
/-- a token and the place behind it -/
def spTokAt (K : PySem.W.Frag) : Sp := Sp2 fun x y H Q E => ∃ l b j c, x = .ref l ∧ y = .int ((j : Nat) : Int) ∧ H l = some (.lst (signsL b)) ∧ b[j]? = some c ∧ b.length ≤ 100000 ∧
  (token (b.drop j) = none → FaultE K E H ⟨2, j⟩) ∧ ∀ t, token (b.drop j) = some t → ∀ q H' v, Same H H' → H' q = some (.tup [v, .int ((j + t.2 : Nat) : Int)]) → TokV H' v ⟨j, t.1⟩ → Q (.ref q) H'
def spNumAt (K : PySem.W.Frag) : Sp := Sp2 fun x y H Q E => ∃ l b j c, x = .ref l ∧ y = .int ((j : Nat) : Int) ∧ H l = some (.lst (signsL b)) ∧ b[j]? = some c ∧ isDigit c = true ∧ ¬ isLetter c = true ∧ b.length ≤ 100000 ∧
  (token (b.drop j) = none → FaultE K E H ⟨2, j⟩) ∧ ∀ t, token (b.drop j) = some t → ∀ q H' v, Same H H' → H' q = some (.tup [v, .int ((j + t.2 : Nat) : Int)]) → TokV H' v ⟨j, t.1⟩ → Q (.ref q) H'
theorem sgn_zero {c : UInt8} (h : isDigit c = true) : decide (V.str (S [sgn c]) = V.str "0") = decide (c.toNat = 48) := by
  have := all8 (p := fun c => !isDigit c || (decide (V.str (S [sgn c]) = V.str "0") == decide (c.toNat = 48))) (by decide +kernel) c
  rw [h] at this
  exact eq_of_beq (by simpa using this)
theorem sc_number_at : FnScope ["signs", "at", "end", "number"] ["signs", "at"] (defScope s_number_at) := ⟨rfl, rfl, rfl, by decide +kernel, rfl, by decide +kernel, by decide +kernel⟩
theorem ok_number_at (T : Tx K mg) : FK P w K mg base (L2.CX P w) (3) (He.ga K "number_at") ["signs", "at"] (spNumAt K) := by
  obtain ⟨fd, F⟩ := T.f_number_at
  obtain ⟨fd0, G0, b0, k0⟩ := ok_Fault___init__ (P := P) (w := w) (base := base) T
  obtain ⟨fd1, G1, b1, k1⟩ := ok_worth_of (P := P) (w := w) (base := base) T
  obtain ⟨fd2, G2, b2, k2⟩ := ok_run_end (P := P) (w := w) (base := base) T
  refine ⟨fd, F.ok sc_number_at (fun vs H Q E h => Sp2.len h) (fun cdv A outer s H vs Q E hr h => ?body), F.bindsN (fun _ _ _ _ _ _ us hl => match us, hl with | [_, _], _ => rfl), F.kp⟩
  refine ⟨_, (pss_cons (ps_set (i := 2) sc_number_at.nd rfl (.inl rfl) (pe_call G2 (hr.mono (by first | decide | omega)) rfl T.g_run_end k2 b2 .nil pass0 (pa_cons (pv 0) (pa_cons (pv 1) (pa_cons (C8.pe_gc rfl T.k_DIGITS) pa_nil)))) (hf := (.inr rfl)))
      (pss_cons (ps_set (i := 3) sc_number_at.nd rfl (.inl rfl) (pe_call G1 (hr.mono (by first | decide | omega)) rfl T.g_worth_of k1 b1 .nil pass0 (pa_cons (pe_slice sl_list (pv 0) (po_some (pv 1)) (po_some (pv 2))) pa_nil)) (hf := (.inr rfl)))
      (pss_cons (ps_if (PW.pt (pw_or (pt_cmpR op_gt (pv 3) (C8.pe_gc rfl T.k_MOST_NUMBER) (nomark _)) (pw_or1 (PW.pt (pw_and (pt_cmpR op_eq (pe_ix ix_list (pv 0) (pv 1) (fun _ _ => rfl)) pe_str (nomark _)) (pw_and1 (pt_cmpR op_gt (pe_op op_sub (pv 2) (pv 1)) pe_int (nomark _)))))))) (pss_one (ps_raise rfl (takes_of rfl rfl rfl rfl) (pmk_oex T.e_Fault.oc T.e_Fault.ini T.e_Fault.tin G0 (hr.mono (by first | decide | omega)) b0 .nil pass0 rfl T.g_Fault (pa_cons (C8.pe_gc rfl T.k_NO_TOKEN) (pa_cons (pv 1) pa_nil))))) pss_nil)
      (pss_one (ps_ret (pe_tup (pa_cons (pe_tup (pa_cons (pv 1) (pa_cons (C8.pe_gc rfl T.k_NUMBER) (pa_cons (pv 3) pa_nil)))) (pa_cons (pv 2) pa_nil)))))))), ?_⟩
  obtain ⟨_, _, rfl, l, b, j, c, rfl, rfl, hl, hc, hd, hnl, hbz, kf, kk⟩ := h
  have hj : j < b.length := (List.getElem?_eq_some_iff.mp hc).1
  rw [drop_at hc, token_digit hnl hd] at kf kk
  have ew : (b.drop j).takeWhile isDigit = c :: (b.drop (j + 1)).takeWhile isDigit := by rw [drop_at hc, List.takeWhile_cons, hd]; rfl
  have hwl := takeWhile_len_le isDigit (b.drop j)
  refine ⟨_, rfl, _, rfl, _, _, _, rfl, l, b, j, DIGITS, isDigit, rfl, rfl, rfl, hl, by omega, dig_mem, ?_⟩
  refine ⟨_, rfl, _, rfl, _, rfl, _, rfl, _, rfl, l, _, rfl, SqL.of hl, fun q hq => ?_⟩
  have e1 : Same H (upd H q (.lst (cutV (signsL b) (some (j : Int)) (some ((j + ((b.drop j).takeWhile isDigit).length : Nat) : Int))))) := Same.new hq
  refine ⟨_, rfl, q, (b.drop j).takeWhile isDigit, rfl, ?_, takeWhile_all isDigit _, ?_⟩
  · rw [cut_signs (by omega) (fun c h => tok_digit h)]
    exact upd_same
  rw [ew] at *
  generalize (b.drop (j + 1)).takeWhile isDigit = r at *
  generalize upd H q (.lst (cutV (signsL b) (some (j : Int)) (some ((j + (c :: r).length : Nat) : Int)))) = H1 at e1
  have hM : MOST = 1000000001 := rfl
  have hwl2 := hwl
  rw [List.length_drop] at hwl2
  have hl1 := e1 _ _ hl
  have second : ∀ R : Bool → Hp → Prop, R (decide (c.toNat = 48 ∧ 0 < r.length)) H1 → tAnd (tTest (tOp rEq (tOp (rIxL K) (tVar 0) (tVar 1)) (tC (V.str "0")))) (tTest (tOp (rI0 fun i j => V.bl (decide (j < i))) (tOp (rI0 fun i j => V.int (i - j)) (tVar 2) (tVar 1)) (tC (V.int 1))))
      [some (.ref l), some (.int (j : Int)), some (.int ((j + (c :: r).length : Nat) : Int)), some (.int ((min (decimal (c :: r)) MOST : Nat) : Int))] H1 R := by
    intro R hR
    refine ⟨_, rfl, _, rfl, l, _, _, _, rfl, rfl, SqL.of hl1, atI_n (signsL_at hc), rfl, _, rfl, ?_⟩
    show if decide (V.str (S [sgn c]) = V.str "0") = true then _ else _
    rw [sgn_zero hd]
    by_cases h48 : c.toNat = 48
    · rw [if_pos (decide_eq_true h48)]
      refine ⟨_, rfl, _, rfl, _, _, rfl, rfl, _, _, rfl, rfl, _, rfl, ?_⟩
      have e : decide ((1 : Int) < ((j + (c :: r).length : Nat) : Int) - (j : Int)) = decide (c.toNat = 48 ∧ 0 < r.length) := by
        rw [decide_eq_decide, List.length_cons]
        omega
      rw [e]
      exact hR
    · rw [if_neg fun z => h48 (of_decide_eq_true z)]
      rw [decide_eq_false fun z => h48 z.1] at hR
      exact hR
  refine ⟨_, rfl, _, _, rfl, rfl, _, rfl, ?_⟩
  show if decide ((1000000000 : Int) < ((min (decimal (c :: r)) MOST : Nat) : Int)) = true then _ else _
  rcases number_none (r := r) hd with ⟨hn, hh⟩ | ⟨hn, hmin, hlt, hno⟩
  · have fm := fault_made T ((kf (by rw [hn]; rfl)).mono e1)
    by_cases hm : MOST ≤ min (decimal (c :: r)) MOST
    · rw [if_pos (decide_eq_true (by omega))]
      exact ⟨_, rfl, fm⟩
    · rw [if_neg fun z => hm (by have := of_decide_eq_true z; omega)]
      refine second _ ?_
      rw [decide_eq_true (hh.resolve_left hm)]
      exact ⟨_, rfl, fm⟩
  · rw [if_neg fun z => by have := of_decide_eq_true z; omega]
    refine second _ ?_
    rw [decide_eq_false hno]
    rw [hn] at kk
    refine ⟨_, rfl, _, rfl, by show 3 ≤ sizeLine; decide, fun q2 hq2 => ?_⟩
    refine ⟨_, rfl, by show 2 ≤ sizeLine; decide, fun q3 hq3 => ?_⟩
    refine kk _ rfl q3 _ (.ref q2) (Same.trans e1 (Same.trans (Same.new hq2) (Same.new hq3))) upd_same ⟨q2, rfl, ?_⟩
    exact ((Same.new hq3) _ _ upd_same).trans (by rw [hmin]; rfl)
theorem str_in_words (b : Bytes) : inV (.str (S b)) [.str "set", .str "part", .str "size", .str "start", .str "say", .str "call", .str "make", .str "when", .str "is"] = VakepBase.RESERVED.contains b := by
  have e : ([.str "set", .str "part", .str "size", .str "start", .str "say", .str "call", .str "make", .str "when", .str "is"] : List V) = strL VakepBase.RESERVED := by decide +kernel
  rw [e, inV_S]
theorem sc_token_at : FnScope ["signs", "at", "end", "word"] ["signs", "at"] (defScope s_token_at) := ⟨rfl, rfl, rfl, by decide +kernel, rfl, by decide +kernel, by decide +kernel⟩
theorem ok_token_at (T : Tx K mg) : FK P w K mg base (L2.CX P w) (4) (He.ga K "token_at") ["signs", "at"] (spTokAt K) := by
  obtain ⟨fd, F⟩ := T.f_token_at
  obtain ⟨fd0, G0, b0, k0⟩ := ok_Fault___init__ (P := P) (w := w) (base := base) T
  obtain ⟨fd1, G1, b1, k1⟩ := ok_number_at (P := P) (w := w) (base := base) T
  obtain ⟨fd2, G2, b2, k2⟩ := ok_run_end (P := P) (w := w) (base := base) T
  refine ⟨fd, F.ok sc_token_at (fun vs H Q E h => Sp2.len h) (fun cdv A outer s H vs Q E hr h => ?body), F.bindsN (fun _ _ _ _ _ _ us hl => match us, hl with | [_, _], _ => rfl), F.kp⟩
  refine ⟨_, (pss_cons (ps_if (pt_cmpR op_in_sign (pe_ix ix_list (pv 0) (pv 1) (fun _ _ => rfl)) (C8.pe_gc rfl T.k_LETTERS) rfl) (pss_cons (ps_set (i := 2) sc_token_at.nd rfl (.inl rfl) (pe_call G2 (hr.mono (by first | decide | omega)) rfl T.g_run_end k2 b2 .nil pass0 (pa_cons (pv 0) (pa_cons (pv 1) (pa_cons (pe_op op_add_str (C8.pe_gc rfl T.k_LETTERS) (C8.pe_gc rfl T.k_DIGITS)) pa_nil)))) (hf := (.inr rfl)))
      (pss_cons (ps_if (pt_cmpR op_gt (pe_op op_sub (pv 2) (pv 1)) (C8.pe_gc rfl T.k_LONGEST_NAME) (nomark _)) (pss_one (ps_raise rfl (takes_of rfl rfl rfl rfl) (pmk_oex T.e_Fault.oc T.e_Fault.ini T.e_Fault.tin G0 (hr.mono (by first | decide | omega)) b0 .nil pass0 rfl T.g_Fault (pa_cons (C8.pe_gc rfl T.k_NO_TOKEN) (pa_cons (pv 1) pa_nil))))) pss_nil)
      (pss_cons (ps_set (i := 3) sc_token_at.nd rfl (.inl rfl) (pe_join pe_str (pe_slice sl_list (pv 0) (po_some (pv 1)) (po_some (pv 2)))) (hf := (.inr rfl)))
      (pss_one (ps_ret (pe_tup (pa_cons (pe_tup (pa_cons (pv 1) (pa_cons (pe_ifExp (pt_cmpR op_in_seq (pv 3) (C8.pe_gc rfl T.k_WORDS) rfl) (C8.pe_gc rfl T.k_WORD) (C8.pe_gc rfl T.k_NAME)) (pa_cons (pv 3) pa_nil)))) (pa_cons (pv 2) pa_nil)))))))) pss_nil)
      (pss_cons (ps_if (pt_cmpR op_in_sign (pe_ix ix_list (pv 0) (pv 1) (fun _ _ => rfl)) (C8.pe_gc rfl T.k_DIGITS) rfl) (pss_one (ps_ret (pe_call G1 (hr.mono (by first | decide | omega)) rfl T.g_number_at k1 b1 .nil passR (pa_cons (pv 0) (pa_cons (pv 1) pa_nil))))) pss_nil)
      (pss_cons (ps_if (pt_cmpR op_notIn_sign (pe_ix ix_list (pv 0) (pv 1) (fun _ _ => rfl)) (C8.pe_gc rfl T.k_SIGNS) rfl) (pss_one (ps_raise rfl (takes_of rfl rfl rfl rfl) (pmk_oex T.e_Fault.oc T.e_Fault.ini T.e_Fault.tin G0 (hr.mono (by first | decide | omega)) b0 .nil pass0 rfl T.g_Fault (pa_cons (C8.pe_gc rfl T.k_NO_TOKEN) (pa_cons (pv 1) pa_nil))))) pss_nil)
      (pss_one (ps_ret (pe_tup (pa_cons (pe_tup (pa_cons (pv 1) (pa_cons (C8.pe_gc rfl T.k_SIGN) (pa_cons (pe_ix ix_list (pv 0) (pv 1) (fun _ _ => rfl)) pa_nil)))) (pa_cons (pe_op op_add (pv 1) pe_int) pa_nil)))))))), ?_⟩
  obtain ⟨_, _, rfl, l, b, j, c, rfl, rfl, hl, hc, hbz, kf, kk⟩ := h
  have hj : j < b.length := (List.getElem?_eq_some_iff.mp hc).1
  refine ⟨_, rfl, _, rfl, l, _, _, _, rfl, rfl, SqL.of hl, atI_n (signsL_at hc), _, _, rfl, rfl, _, rfl, ?_⟩
  show if decide ((sgn c).toNat ∈ LETTERS.cps.toList) = true then _ else _
  rw [let_mem]
  by_cases hL : isLetter c = true
  · rw [if_pos hL]
    rw [drop_at hc, token_letter hL, ← drop_at hc] at kf kk
    have hwl := takeWhile_len_le (fun c => isLetter c || isDigit c) (b.drop j)
    rw [List.length_drop] at hwl
    refine ⟨_, rfl, _, rfl, _, _, rfl, rfl, by show 52 + 10 ≤ sizeLine; decide, _, _, _, rfl, l, b, j, LETTERS ++ DIGITS, (fun c => isLetter c || isDigit c), rfl, rfl, rfl, hl, by omega, ld_mem, ?_⟩
    have hall := takeWhile_all (fun c => isLetter c || isDigit c) (b.drop j)
    have hcut := cut_signs (b := b) (p := fun c => isLetter c || isDigit c) (i := j) (by omega) (fun c h => by unfold isTok; rw [h]; rfl)
    generalize hw : (b.drop j).takeWhile (fun c => isLetter c || isDigit c) = w at *
    refine ⟨_, rfl, _, rfl, _, _, rfl, rfl, _, _, rfl, rfl, _, rfl, ?_⟩
    show if decide ((16 : Int) < ((j + w.length : Nat) : Int) - (j : Int)) = true then _ else _
    by_cases h16 : 16 < w.length
    · rw [if_pos (decide_eq_true (by omega))]
      rw [if_pos h16] at kf
      exact ⟨_, rfl, fault_made T (kf rfl)⟩
    · rw [if_neg fun z => h16 (by have := of_decide_eq_true z; omega)]
      rw [if_neg h16] at kk
      refine ⟨⟨_, rfl⟩, _, rfl, _, rfl, _, rfl, _, rfl, _, rfl, l, _, rfl, SqL.of hl, fun q hq => ?_⟩
      rw [hcut]
      have e1 : Same H (upd H q (.lst (w.map fun c => V.str (S [c])))) := Same.new hq
      refine ⟨_, q, w.map fun c => S [c], rfl, rfl, .inl (SqL.of (by rw [List.map_map]; exact upd_same)), ?_, ?_⟩
      · rw [List.map_map]
        have : ∀ l : Bytes, (l.map (Str.length ∘ fun c => S [c])).sum = l.length := by
          intro l
          induction l with
          | nil => rfl
          | cons a r ih => rw [List.map_cons, List.sum_cons, ih, List.length_cons]; show 1 + r.length = _; omega
        rw [this]
        show _ + _ * 0 ≤ _
        omega
      · have ej : Txt.join "" (w.map fun c => S [c]) = S w := by
          rw [TL.join_eq, ← S_nil]
          have : (w.map fun c => S [c]) = (w.map fun c => [c]).map S := by rw [List.map_map]; rfl
          rw [this, S_join, joined_nil]
          congr 1
          clear this hall hcut hw hwl kf kk h16 e1
          induction w with
          | nil => rfl
          | cons a r ih => rw [List.map_cons, List.flatten_cons, ih]; rfl
        rw [ej]
        refine ⟨_, rfl, _, rfl, _, _, rfl, .inr (T.t_WORDS _), rfl, by decide +kernel, _, rfl, ?_⟩
        show if inV (.str (S w)) [.str "set", .str "part", .str "size", .str "start", .str "say", .str "call", .str "make", .str "when", .str "is"] = true then _ else _
        rw [str_in_words]
        have fin : ∀ str, (if VakepBase.RESERVED.contains w = true then ("word" : Str) else "name") = str → ∀ H1, Same H H1 → (tCons (tVar 3) tNil : TA) [some (.ref l), some (.int (j : Int)), some (.int ((j + w.length : Nat) : Int)), some (.str (S w))] H1 (fun xs H2 => ((.int (j : Int) :: .str str :: xs) : List V).length ≤ sizeLine ∧ ∀ p, H2 p = none →
            (tCons (tVar 2) tNil : TA) [some (.ref l), some (.int (j : Int)), some (.int ((j + w.length : Nat) : Int)), some (.str (S w))] (upd H2 p (.tup (.int (j : Int) :: .str str :: xs))) fun ys H3 => ((.ref p :: ys) : List V).length ≤ sizeLine ∧ ∀ q, H3 q = none → Q (.ref q) (upd H3 q (.tup (.ref p :: ys)))) := by
          intro str hstr H1 e1
          refine ⟨_, rfl, by show 3 ≤ sizeLine; decide, fun q2 hq2 => ?_⟩
          refine ⟨_, rfl, by show 2 ≤ sizeLine; decide, fun q3 hq3 => ?_⟩
          refine kk _ rfl q3 _ (.ref q2) (Same.trans e1 (Same.trans (Same.new hq2) (Same.new hq3))) upd_same ⟨q2, rfl, ?_⟩
          exact ((Same.new hq3) _ _ upd_same).trans (by rw [← hstr]; rfl)
        by_cases hr : VakepBase.RESERVED.contains w = true
        · rw [if_pos hr]
          rw [if_pos hr] at fin
          exact fin _ rfl _ e1
        · rw [if_neg hr]
          rw [if_neg hr] at fin
          exact fin _ rfl _ e1
  · rw [if_neg hL]
    refine ⟨_, rfl, _, rfl, l, _, _, _, rfl, rfl, SqL.of hl, atI_n (signsL_at hc), _, _, rfl, rfl, _, rfl, ?_⟩
    show if decide ((sgn c).toNat ∈ DIGITS.cps.toList) = true then _ else _
    rw [dig_mem]
    by_cases hD : isDigit c = true
    · rw [if_pos hD]
      exact ⟨_, rfl, _, rfl, _, _, rfl, l, b, j, c, rfl, rfl, hl, hc, hD, hL, hbz, kf, kk⟩
    · rw [if_neg hD]
      refine ⟨_, rfl, _, rfl, l, _, _, _, rfl, rfl, SqL.of hl, atI_n (signsL_at hc), _, _, rfl, rfl, _, rfl, ?_⟩
      show if (!decide ((sgn c).toNat ∈ SIGNS_.cps.toList)) = true then _ else _
      rw [sig_mem]
      by_cases hS : isSign c = true
      · rw [hS]
        rw [drop_at hc, token_sign hL hD hS] at kk
        refine ⟨_, rfl, _, rfl, _, rfl, l, _, _, _, rfl, rfl, SqL.of hl, atI_n (signsL_at hc), by show 3 ≤ sizeLine; decide, fun q2 hq2 => ?_⟩
        refine ⟨_, rfl, _, _, rfl, rfl, by show 2 ≤ sizeLine; decide, fun q3 hq3 => ?_⟩
        refine kk _ rfl q3 _ (.ref q2) (Same.trans (Same.new hq2) (Same.new hq3)) upd_same ⟨q2, rfl, ?_⟩
        exact ((Same.new hq3) _ _ upd_same).trans (by rw [sgn_self (tok_sign hS)]; rfl)
      · have hS' : isSign c = false := by simpa using hS
        rw [hS']
        rw [drop_at hc, token_bad hL hD hS] at kf
        exact ⟨_, rfl, fault_made T (kf rfl)⟩
/-- the tokens in a list -/
def TokL (H : Hp) (q : Addr) (ts : Toks) : Prop := ∃ vs, H q = some (.lst vs) ∧ Paired (TokV H) vs ts
def spTokens (K : PySem.W.Frag) : Sp := Sp1 fun x H Q E => ∃ l b, x = .ref l ∧ H l = some (.lst (byteL b)) ∧ b.length ≤ 4096 ∧
  (∀ f, VakepBase.lex (b.length + 1) 0 b = .error f → FaultE K E H f) ∧ ∀ ts, VakepBase.lex (b.length + 1) 0 b = .ok ts → ∀ q H', Same H H' → H q = none → TokL H' q ts → Q (.ref q) H'
theorem blank_in (c : UInt8) : inV (.int ((c.toNat : Nat) : Int)) [.int 32, .int 9, .int 10] = isBlank c := by
  have := all8 (p := fun c => inV (.int ((c.toNat : Nat) : Int)) [.int 32, .int 9, .int 10] == isBlank c) (by decide +kernel) c
  exact eq_of_beq this
theorem toks_len {vs : List V} {H : Hp} {ts : Toks} (h : Paired (TokV H) vs ts) : vs.length = ts.length := Paired.length h
theorem sc_tokens_of : FnScope ["text", "signs", "found", "at", "token", "byte"] ["text"] (defScope s_tokens_of) := ⟨rfl, rfl, rfl, by decide +kernel, rfl, by decide +kernel, by decide +kernel⟩
theorem ok_tokens_of (T : Tx K mg) : FK P w K mg base (L2.CX P w) (5) (He.ga K "tokens_of") ["text"] (spTokens K) := by
  obtain ⟨fd, F⟩ := T.f_tokens_of
  obtain ⟨fd0, G0, b0, k0⟩ := ok_remark_end (P := P) (w := w) (base := base) T
  obtain ⟨fd1, G1, b1, k1⟩ := ok_token_at (P := P) (w := w) (base := base) T
  obtain ⟨fd2, G2, b2, k2⟩ := ok_sign_of (P := P) (w := w) (base := base) T
  refine ⟨fd, F.ok sc_tokens_of (fun vs H Q E h => Sp1.len h) (fun cdv A outer s H vs Q E hr h => ?body), F.bindsN (fun _ _ _ _ _ _ us hl => match us, hl with | [_], _ => rfl), F.kp⟩
  refine ⟨_, (pss_cons (ps_setLc (i := 1) (own := [("byte", 5)]) rfl sc_tokens_of.nd rfl rfl (sw_true rfl rfl rfl (by decide +kernel)) (pi_list (pv 0)) (blkOk_by (own := [("byte", 5)]) (N := ["text", "signs", "found", "at", "token", "byte"]) (sc := defScope s_tokens_of) (by decide +kernel)) (fun _ _ _ _ _ => (pg_name (i := 5) sc_tokens_of.nd rfl (.inl rfl) (.inr rfl))) (fun _ _ _ _ _ => pts_nil) (fun _ _ _ _ _ => (pe_call G2 (hr.mono (by first | decide | omega)) rfl T.g_sign_of k2 b2 .nil pass0 (pa_cons (pv 5) pa_nil))))
      (pss_cons (ps_set (i := 2) sc_tokens_of.nd rfl (.inl rfl) (pe_lst pa_nil) (hf := (.inr rfl)))
      (pss_cons (ps_set (i := 3) sc_tokens_of.nd rfl (.inl rfl) pe_int (hf := (.inr rfl)))
      (pss_cons (ps_while (passes_of rfl) (pt_cmpR op_lt (pv 3) (pe_callB call_lenK rfl T.n_len boot_len (pa_cons (pv 0) pa_nil)) (nomark _)) (pss_one (ps_if (pt_cmpR op_in_seq (pe_ix ix_list (pv 0) (pv 3) (fun _ _ => rfl)) (C8.pe_gc rfl T.k_BLANKS) rfl) (pss_one (ps_set (i := 3) sc_tokens_of.nd rfl (.inl rfl) (pe_op op_add (pv 3) pe_int) (hf := (.inr rfl)))) (pss_one (ps_if (pt_cmpR op_eq (pe_ix ix_list (pv 0) (pv 3) (fun _ _ => rfl)) (C8.pe_gc rfl T.k_REMARK) (nomark _)) (pss_one (ps_set (i := 3) sc_tokens_of.nd rfl (.inl rfl) (pe_call G0 (hr.mono (by first | decide | omega)) rfl T.g_remark_end k0 b0 .nil pass0 (pa_cons (pv 0) (pa_cons (pv 3) pa_nil))) (hf := (.inr rfl)))) (pss_cons (ps_asg (pe_call G1 (hr.mono (by first | decide | omega)) rfl T.g_token_at k1 b1 .nil passR (pa_cons (pv 1) (pa_cons (pv 3) pa_nil))) (pg_tup (n := 2) rfl (pgs_cons (pg_name (i := 4) sc_tokens_of.nd rfl (.inl rfl) (.inr rfl)) (pgs_cons (pg_name (i := 3) sc_tokens_of.nd rfl (.inl rfl) (.inr rfl)) pgs_nil))))
      (pss_one (ps_expr (pe_bm PySem.F.plainAttrs_list PySem.F.slot_list_append PySem.F.type_list_append mt_append (pv 2) (pa_cons (pv 4) pa_nil))))))))))
      (pss_one (ps_ret (pe_op op_cat (pv 2) (pe_lst (pa_cons (pe_tup (pa_cons (pe_callB call_lenK rfl T.n_len boot_len (pa_cons (pv 0) pa_nil)) (pa_cons (C8.pe_gc rfl T.k_END) (pa_cons pe_str pa_nil)))) pa_nil))))))))), ?_⟩
  obtain ⟨_, rfl, l, b, rfl, hl, hb, kf, kk⟩ := h
  refine ⟨_, rfl, l, rfl, ⟨_, SqL.of hl⟩, fun D0 hD0 => ?_⟩
  refine lc_pure (K := K) (xs := byteL b) (fun i => (b[i]?).map fun c => V.str (S [sgn c])) (SqL.of hl) hD0 (szl (by rw [byteL_len]; omega)) (fun i x H1 hx e Kt Kf kt kf' => ?_) fun H1 e1 hd1 => ?_
  · have hi : i < b.length := by have := (List.getElem?_eq_some_iff.mp hx).1; rwa [byteL_len] at this
    have hc := List.getElem?_eq_getElem hi
    rw [byteL_at hc] at hx
    have ex := Option.some.inj hx
    subst ex
    exact ⟨rfl, _, rfl, _, rfl, b[i], rfl, kt _ _ (by rw [hc]; rfl) (Same.refl _)⟩
  rw [picks_at (byteL_len _)] at hd1
  have hs1 : H1 D0 = some (.lst (signsL b)) := hd1
  refine ⟨by show 0 ≤ sizeLine; decide, fun D hD => ?_⟩
  have sD : Same H1 (upd H1 D (.lst [])) := Same.new hD
  have lx := LexAt.start b
  generalize VakepBase.lex (b.length + 1) 0 b = R at lx kf kk
  refine ⟨fun m σ H' => ∃ j vs acc a y, σ = [some (.ref l), some (.ref D0), some (.ref D), some (.int ((j : Nat) : Int)), a, y] ∧ Same H1 H' ∧ H' D = some (.lst vs) ∧ Paired (TokV H') vs acc ∧ acc.length ≤ j ∧ j ≤ b.length ∧ LexAt b R j acc ∧ m = b.length - j,
    ⟨_, 0, [], [], none, none, rfl, sD, upd_same, .nil, Nat.le_refl _, Nat.zero_le _, lx, rfl⟩, ?_⟩
  rintro m σ H2 ⟨j, vs, acc, a, y, rfl, e2, hd2, hp, haj, hj, lx, rfl⟩
  have hl2 := e2 _ _ (e1 _ _ hl)
  refine ⟨_, rfl, _, rfl, l, _, rfl, .inl (SqL.of hl2), _, _, rfl, rfl, _, rfl, ?_⟩
  show if decide ((j : Int) < ((byteL b).length : Int)) = true then _ else _
  rw [byteL_len]
  by_cases hlt : j < b.length
  · rw [if_pos (decide_eq_true (by omega))]
    have hc := List.getElem?_eq_getElem hlt
    generalize b[j] = c at hc
    refine ⟨fun σ' H' => ∃ j' vs acc a, σ' = [some (.ref l), some (.ref D0), some (.ref D), some (.int ((j' : Nat) : Int)), a, y] ∧ Same H1 H' ∧ H' D = some (.lst vs) ∧ Paired (TokV H') vs acc ∧ acc.length ≤ j' ∧ j' ≤ b.length ∧ LexAt b R j' acc ∧ j < j', ?_, ?_⟩
    · rintro σ' H' ⟨j', vs, acc, a, rfl, h1, h2, h3, h4, h5, h6, h7⟩
      exact ⟨_, by omega, j', vs, acc, a, y, rfl, h1, h2, h3, h4, h5, h6, rfl⟩
    · refine ⟨_, rfl, _, rfl, l, _, _, _, rfl, rfl, SqL.of hl2, atI_n (byteL_at hc), _, _, rfl, .inr (T.t_BLANKS _), rfl, by decide +kernel, _, rfl, ?_⟩
      show if inV (.int ((c.toNat : Nat) : Int)) [.int 32, .int 9, .int 10] = true then _ else _
      rw [blank_in]
      by_cases hB : isBlank c = true
      · rw [if_pos hB]
        exact ⟨_, rfl, _, _, rfl, rfl, j + 1, vs, acc, _, rfl, e2, hd2, hp, by omega, by omega, lx.blank hc hB, by omega⟩
      · rw [if_neg hB]
        refine ⟨_, rfl, _, rfl, l, _, _, _, rfl, rfl, SqL.of hl2, atI_n (byteL_at hc), rfl, _, rfl, ?_⟩
        show if decide (V.int ((c.toNat : Nat) : Int) = V.int 35) = true then _ else _
        by_cases hR : c = 35
        · rw [if_pos (decide_eq_true (by rw [hR]; rfl))]
          refine ⟨_, rfl, _, rfl, _, _, rfl, l, b, j, rfl, rfl, hl2, hj, ?_⟩
          have hwl := takeWhile_len_le (· != 10) (b.drop j)
          rw [List.length_drop] at hwl
          have hpos : 0 < ((b.drop j).takeWhile (· != 10)).length := by
            rw [drop_at hc, List.takeWhile_cons, hR]
            exact Nat.succ_pos _
          exact ⟨j + ((b.drop j).takeWhile (· != 10)).length, vs, acc, _, rfl, e2, hd2, hp, by omega, by omega, lx.remark hc hB hR, by omega⟩
        · rw [if_neg fun z => hR (UInt8.toNat_inj.mp (by have := V.int.inj (of_decide_eq_true z); show c.toNat = 35; omega))]
          refine ⟨_, rfl, _, rfl, _, _, rfl, D0, b, j, c, rfl, rfl, e2 _ _ hs1, hc, by omega, fun ht => ?_, fun t ht q H3 v e3 hq hv => ?_⟩
          · exact (kf _ (lx.bad hc hB hR ht)).mono (Same.trans e1 e2)
          · have hts := token_size ht
            rw [List.length_drop] at hts
            refine ⟨q, _, rfl, SqT.of hq, rfl, _, _, rfl, _, _, rfl, rfl, ?_⟩
            have hd3 := e3 _ _ hd2
            have hvl := Paired.length hp
            refine ⟨_, rfl, .inl ⟨rfl, _, SqL.of hd3⟩, _, rfl, D, vs, _, rfl, rfl, hd3, szl (by omega), ?_⟩
            have kt : ∀ b xs, H3 b = some (.tup xs) → upd H3 D (.lst (vs ++ [v])) b = some (.tup xs) := fun b xs hb => by
              rw [upd_ne (ne_of hb hd3 (fun z => nomatch z))]
              exact hb
            refine ⟨j + t.2, vs ++ [v], acc ++ [⟨j, t.1⟩], _, rfl, L2.Same.mut (Same.trans e2 e3) hD, upd_same, ?_, ?_, by omega, lx.tok hc hB hR ht, by omega⟩
            · exact Paired.snoc (Paired.mapP hp fun _ _ q => (q.tups fun b xs hb => kt _ _ (e3 _ _ hb))) (hv.tups kt)
            · rw [List.length_append]
              show acc.length + 1 ≤ _
              omega
  · rw [if_neg fun z => hlt (by have := of_decide_eq_true z; omega)]
    have ej : j = b.length := by omega
    have hvl := Paired.length hp
    refine ⟨_, rfl, _, rfl, l, _, rfl, .inl (SqL.of hl2), by show 3 ≤ sizeLine; decide, fun q hq => ?_⟩
    refine ⟨by show 1 ≤ sizeLine; decide, fun q2 hq2 => ?_⟩
    have e3 : Same H2 (upd (upd H2 q (.tup [.int ((byteL b).length : Int), .str "end", .str ""])) q2 (.lst [.ref q])) := Same.trans (Same.new hq) (Same.new hq2)
    refine ⟨D, q2, vs, [.ref q], rfl, rfl, e3 _ _ hd2, upd_same, sz (by show vs.length + 1 ≤ _; omega), fun q3 hq3 => ?_⟩
    have e4 := Same.trans e3 (Same.new (o := HO.lst (vs ++ [.ref q])) hq3)
    refine kk _ (lx.stop ej) q3 _ (Same.trans e1 (Same.trans e2 e4)) (gone e1 (gone e2 (gone e3 hq3))) ⟨_, upd_same, ?_⟩
    refine Paired.snoc (Paired.mapP hp fun _ _ q => (q.tups fun b xs hb => e4 _ _ hb)) ⟨q, rfl, ?_⟩
    exact ((Same.new hq3) _ _ ((Same.new hq2) _ _ upd_same)).trans (by rw [byteL_len]; rfl)
end
end Wk
set_option maxHeartbeats 2000000
/-! A reader as it stands in the heap. -/
namespace Wk
open PySem PySem.Spec PyProof.Rows L2
open VakepBase (PTok Toks PName tokEq)
open Vakepa (Raw RawPart Piece)
abbrev ASet := Vakepa.Setting
structure RdC where
  r : Addr
  dx : Addr
  tl : Addr
  p : Addr
  dp : Addr
  ls : Addr
  lp : Addr
  le : Addr
  cl : Addr
  ts : Toks
  f : Addr
  fl : List V
def RdC.mu (c : RdC) : List Addr := [c.r, c.ls, c.lp, c.le, c.cl]
/-- tokens with their end -/
def TsOk : Toks → Prop
  | [] => False
  | [t] => t.tok = .last
  | t :: u :: r => t.tok ≠ .last ∧ NiceTok t.tok ∧ TsOk (u :: r)
theorem TsOk.next : ∀ {ts : Toks} {j : Nat} {t : PTok}, TsOk ts → ts[j]? = some t → t.tok ≠ .last → NiceTok t.tok ∧ ∃ u, ts[j + 1]? = some u
  | [], _, _, h, _, _ => h.elim
  | [t], 0, u, h, e, n => by
    have : t = u := by simpa using e
    subst this
    exact absurd h n
  | [t], j + 1, u, h, e, n => by simp at e
  | t :: u :: r, 0, x, h, e, n => by
    have : t = x := by simpa using e
    subst this
    exact ⟨h.2.1, u, rfl⟩
  | t :: u :: r, j + 1, x, h, e, n => by
    have := TsOk.next (ts := u :: r) (j := j) (t := x) h.2.2 (by simpa using e) n
    exact ⟨this.1, this.2.choose, by simpa using this.2.choose_spec⟩
theorem TsOk.cons {t : PTok} {ts : Toks} (h : TsOk ts) (n : t.tok ≠ .last) (q : NiceTok t.tok) : TsOk (t :: ts) := by
  cases ts with
  | nil => exact h.elim
  | cons u r => exact ⟨n, q, h⟩
theorem token_ne {b : Bytes} {x : BTok × Nat} (h : VakepBase.token b = some x) : x.1 ≠ .last := by
  cases b with
  | nil => cases h
  | cons c r =>
    by_cases hc : VakepBase.isLetter c = true
    · rw [token_letter hc] at h
      split at h
      · cases h
      · have hx := Option.some.inj h
        subst hx
        exact fun z => nomatch z
    · by_cases hd : VakepBase.isDigit c = true
      · rw [token_digit hc hd] at h
        cases q : VakepBase.numberOf (c :: r.takeWhile VakepBase.isDigit) with
        | none => rw [q] at h; cases h
        | some n =>
          rw [q] at h
          have hx := Option.some.inj h
          subst hx
          exact fun z => nomatch z
      · by_cases hs : isSign c = true
        · rw [token_sign hc hd hs] at h
          have hx := Option.some.inj h
          subst hx
          exact fun z => nomatch z
        · rw [token_bad hc hd hs] at h
          cases h
theorem lex_ok : ∀ (n j : Nat) (b : Bytes) (ts : Toks), VakepBase.lex n j b = .ok ts → TsOk ts
  | 0, j, b, ts, h => by
    have : [⟨j, .last⟩] = ts := Except.ok.inj h
    subst this
    rfl
  | n + 1, j, [], ts, h => by
    have : [⟨j, .last⟩] = ts := Except.ok.inj h
    subst this
    rfl
  | n + 1, j, c :: r, ts, h => by
    unfold VakepBase.lex at h
    split at h
    · exact lex_ok n _ _ ts h
    · split at h
      · exact lex_ok n _ _ ts h
      · split at h
        · cases h
        · rename_i x hx
          cases q : VakepBase.lex n (j + x.2) ((c :: r).drop x.2) with
          | error f => rw [q] at h; cases h
          | ok l =>
            rw [q] at h
            have e : ⟨j, x.1⟩ :: l = ts := Except.ok.inj h
            subst e
            exact (lex_ok n _ _ l q).cons (token_ne hx) (token_size hx).2.2
/-- statements as they are read -/
def showP (ss : List ASet) : Piece → Bytes
  | .set k => ((ss[k]?).map fun s => s.name).getD []
  | .word b => b
def RawV (ss : List ASet) (M : Hp) : Raw → List V → Prop
  | .done, xs => xs = []
  | .say k r, xs => ∃ t ys, xs = .ref t :: ys ∧ M t = some (.tup [.str "say", .int (k : Nat)]) ∧ RawV ss M r ys
  | .call p r, xs => ∃ t ys, xs = .ref t :: ys ∧ M t = some (.tup [.str "call", .str (S p.name)]) ∧ RawV ss M r ys
  | .make ps r, xs => ∃ t ys, xs = .ref t :: ys ∧ (∃ l, M t = some (.tup [.str "make", .ref l]) ∧ M l = some (.lst (strL (ps.map (showP ss))))) ∧ RawV ss M r ys
  | .when_ x v b r, xs => ∃ t ys, xs = .ref t :: ys ∧ (∃ l zs, M t = some (.tup [.str "when", .int (x : Nat), .int (v : Nat), .ref l]) ∧ M l = some (.lst zs) ∧ RawV ss M b zs) ∧ RawV ss M r ys
theorem RawV.same {ss : List ASet} {M M' : Hp} (e : Same M M') : ∀ {s : Raw} {xs : List V}, RawV ss M s xs → RawV ss M' s xs
  | .done, _, h => h
  | .say _ _, _, ⟨t, ys, a, b, c⟩ => ⟨t, ys, a, e _ _ b, c.same e⟩
  | .call _ _, _, ⟨t, ys, a, b, c⟩ => ⟨t, ys, a, e _ _ b, c.same e⟩
  | .make _ _, _, ⟨t, ys, a, ⟨l, b, b2⟩, c⟩ => ⟨t, ys, a, ⟨l, e _ _ b, e _ _ b2⟩, c.same e⟩
  | .when_ _ _ _ _, _, ⟨t, ys, a, ⟨l, zs, b, b2, b3⟩, c⟩ => ⟨t, ys, a, ⟨l, zs, e _ _ b, e _ _ b2, b3.same e⟩, c.same e⟩
def appR : Raw → Raw → Raw
  | .done, u => u
  | .say k r, u => .say k (appR r u)
  | .call p r, u => .call p (appR r u)
  | .make ps r, u => .make ps (appR r u)
  | .when_ x v b r, u => .when_ x v b (appR r u)
theorem appR_assoc : ∀ s t u, appR (appR s t) u = appR s (appR t u)
  | .done, _, _ => rfl
  | .say k r, t, u => by show Raw.say k (appR (appR r t) u) = Raw.say k (appR r (appR t u)); rw [appR_assoc r]
  | .call p r, t, u => by show Raw.call p (appR (appR r t) u) = Raw.call p (appR r (appR t u)); rw [appR_assoc r]
  | .make ps r, t, u => by show Raw.make ps (appR (appR r t) u) = Raw.make ps (appR r (appR t u)); rw [appR_assoc r]
  | .when_ x v b r, t, u => by show Raw.when_ x v b (appR (appR r t) u) = Raw.when_ x v b (appR r (appR t u)); rw [appR_assoc r]
theorem appR_done : ∀ s, appR s .done = s
  | .done => rfl
  | .say k r => by show Raw.say k (appR r .done) = _; rw [appR_done r]
  | .call p r => by show Raw.call p (appR r .done) = _; rw [appR_done r]
  | .make ps r => by show Raw.make ps (appR r .done) = _; rw [appR_done r]
  | .when_ x v b r => by show Raw.when_ x v b (appR r .done) = _; rw [appR_done r]
theorem RawV.app {ss : List ASet} {M : Hp} : ∀ {s t : Raw} {xs ys : List V}, RawV ss M s xs → RawV ss M t ys → RawV ss M (appR s t) (xs ++ ys)
  | .done, _, _, _, h, k => by rw [show _ = [] from h]; exact k
  | .say _ _, _, _, _, ⟨t, ys, a, b, c⟩, k => ⟨t, _, by rw [a]; rfl, b, RawV.app c k⟩
  | .call _ _, _, _, _, ⟨t, ys, a, b, c⟩, k => ⟨t, _, by rw [a]; rfl, b, RawV.app c k⟩
  | .make _ _, _, _, _, ⟨t, ys, a, b, c⟩, k => ⟨t, _, by rw [a]; rfl, b, RawV.app c k⟩
  | .when_ _ _ _ _, _, _, _, ⟨t, ys, a, b, c⟩, k => ⟨t, _, by rw [a]; rfl, b, RawV.app c k⟩
/-- the calls, in order -/
def callsR : Raw → List PName
  | .done => []
  | .say _ r => callsR r
  | .call p r => p :: callsR r
  | .make _ r => callsR r
  | .when_ _ _ b r => callsR b ++ callsR r
theorem callsR_app : ∀ s t, callsR (appR s t) = callsR s ++ callsR t
  | .done, _ => rfl
  | .say _ r, t => callsR_app r t
  | .call p r, t => by show p :: callsR (appR r t) = p :: callsR r ++ callsR t; rw [callsR_app r]; rfl
  | .make _ r, t => callsR_app r t
  | .when_ _ _ b r, t => by show callsR b ++ callsR (appR r t) = (callsR b ++ callsR r) ++ callsR t; rw [callsR_app r, List.append_assoc]
def RPartV (K : PySem.W.Frag) (ss : List ASet) (M : Hp) (v : V) (x : RawPart) : Prop := ∃ a dx l xs, v = .ref a ∧ M a = some (.ins (cPart K) dx (F_Part (.str (S x.name)) (.int (x.size : Nat)) (.ref l))) ∧ M l = some (.lst xs) ∧ RawV ss M x.body xs
theorem RPartV.same {K : PySem.W.Frag} {ss : List ASet} {M M' : Hp} (e : Same M M') {v : V} {x : RawPart} (h : RPartV K ss M v x) : RPartV K ss M' v x :=
  let ⟨a, dx, l, xs, h1, h2, h3, h4⟩ := h
  ⟨a, dx, l, xs, h1, e _ _ h2, e _ _ h3, h4.same e⟩
def CallV (M : Hp) (v : V) (x : PName) : Prop := ∃ a, v = .ref a ∧ M a = some (.tup [.int ((x.place : Nat) : Int), .str (S x.name)])
theorem CallV.same {M M' : Hp} (e : Same M M') {v : V} {x : PName} (h : CallV M v x) : CallV M' v x := let ⟨a, x, y⟩ := h; ⟨a, x, e _ _ y⟩
/-- **the reader**: M what does not change any more, H all of it; at token j, d whens deep; settings, parts, entries, calls so far -/
structure RdAt (K : PySem.W.Frag) (c : RdC) (M H : Hp) (j d : Nat) (ss : List ASet) (rs : List RawPart) (es : List Nat) (cs : List PName) : Prop where
  sub : Same M H
  ins : H c.r = some (.ins (cReader K) c.dx (F_Reader (.ref c.tl) (.int (j : Int)) (.ref c.p) (.ref c.cl) (.int (d : Int))))
  mu : ∀ b ∈ c.mu, M b = none
  tk : TsOk c.ts
  tl : ∃ tvs, M c.tl = some (.lst tvs) ∧ Paired (TokV M) tvs c.ts
  pg : M c.p = some (.ins (cProgram K) c.dp (F_Program (.ref c.ls) (.ref c.lp) (.ref c.le)))
  sl : ∃ vs, H c.ls = some (.lst vs) ∧ Paired (SetV M) vs ss
  pl : ∃ ws, H c.lp = some (.lst ws) ∧ Paired (RPartV K ss M) ws rs
  el : H c.le = some (.lst (natL es))
  cl : ∃ cv, H c.cl = some (.lst cv) ∧ Paired (CallV M) cv cs
  ne : c.ls ≠ c.lp ∧ c.ls ≠ c.le ∧ c.ls ≠ c.cl ∧ c.lp ≠ c.le ∧ c.lp ≠ c.cl ∧ c.le ≠ c.cl
  ff : H c.f = some (.lst c.fl)
  fm : c.f ∉ c.mu
/-- a fault is raised; what M has, and one list more, are kept -/
def FaultR (K : PySem.W.Frag) (c : RdC) (E : XK) (M : Hp) (f : VakepBase.Fault) : Prop := FaultE K E (upd M c.f (.lst c.fl)) f
theorem FaultR.mono {K : PySem.W.Frag} {c : RdC} {E : XK} {M M' : Hp} {f : VakepBase.Fault} (h : FaultR K c E M f) (e : Same M M') : FaultR K c E M' f := FaultE.mono h fun b o hb => by
  by_cases q : b = c.f
  · subst q
    rw [upd_same] at hb ⊢
    exact hb
  · rw [upd_ne q] at hb ⊢
    exact e b o hb
theorem FaultR.toE {K : PySem.W.Frag} {c : RdC} {E : XK} {M H : Hp} {f : VakepBase.Fault} (h : FaultR K c E M f) (e : Same M H) (hf : H c.f = some (.lst c.fl)) : FaultE K E H f := FaultE.mono h fun b o hb => by
  by_cases q : b = c.f
  · subst q
    rw [upd_same] at hb
    rw [hf, hb]
  · rw [upd_ne q] at hb
    exact e b o hb
/-- from M, H to M', H' -/
structure Nx (c : RdC) (M H M' H' : Hp) : Prop where
  grow : Same M M'
  new : ∀ b o, M' b = some o → M b = some o ∨ H b = none
  frame : ∀ b o, H b = some o → b ∉ c.mu → H' b = some o
  live : ∀ b, H' b = none → H b = none
section
variable {K : PySem.W.Frag} {c : RdC} {M H M' H' M2 H2 : Hp} {j d : Nat} {ss : List ASet} {rs : List RawPart} {es : List Nat} {cs : List PName}
theorem Nx.refl : Nx c M H M H := ⟨Same.refl _, fun _ _ h => .inl h, fun _ _ h _ => h, fun _ h => h⟩
theorem Nx.trans (a : Nx c M H M' H') (b : Nx c M' H' M2 H2) : Nx c M H M2 H2 :=
  ⟨Same.trans a.grow b.grow, fun x o h => (b.new x o h).elim (a.new x o) fun z => .inr (a.live x z), fun x o h n => b.frame x o (a.frame x o h n) n, fun x h => a.live x (b.live x h)⟩
theorem Nx.of (e : Same H H') : Nx c M H M H' := ⟨Same.refl _, fun _ _ h => .inl h, fun x o h _ => e x o h, fun _ h => gone e h⟩
/-- a list that M does not know stays so -/
theorem Nx.off (a : Nx c M H M' H') {D : Addr} {o : HO} (hD : H D = some o) (hM : M D = none) : M' D = none := by
  cases q : M' D with
  | none => rfl
  | some u => rcases a.new D u q with z | z
              · rw [hM] at z; cases z
              · rw [hD] at z; cases z
theorem RdAt.same' (h : RdAt K c M H j d ss rs es cs) (e : Same H H') : RdAt K c M H' j d ss rs es cs :=
  ⟨Same.trans h.sub e, e _ _ h.ins, h.mu, h.tk, h.tl, h.pg, let ⟨v, a, b⟩ := h.sl; ⟨v, e _ _ a, b⟩, let ⟨v, a, b⟩ := h.pl; ⟨v, e _ _ a, b⟩, e _ _ h.el, let ⟨v, a, b⟩ := h.cl; ⟨v, e _ _ a, b⟩, h.ne, e _ _ h.ff, h.fm⟩
theorem RdAt.growM (h : RdAt K c M H j d ss rs es cs) (e : Same M M') (s : Same M' H) (m : ∀ b ∈ c.mu, M' b = none) : RdAt K c M' H j d ss rs es cs :=
  ⟨s, h.ins, m, h.tk, let ⟨v, a, b⟩ := h.tl; ⟨v, e _ _ a, Paired.mapP b fun _ _ q => q.tups fun x xs hx => e _ _ hx⟩, e _ _ h.pg, let ⟨v, a, b⟩ := h.sl; ⟨v, a, Paired.mapP b fun _ _ q => q.same e⟩,
    let ⟨v, a, b⟩ := h.pl; ⟨v, a, Paired.mapP b fun _ _ q => q.same e⟩, h.el, let ⟨v, a, b⟩ := h.cl; ⟨v, a, Paired.mapP b fun _ _ q => q.same e⟩, h.ne, h.ff, h.fm⟩
theorem mu_r : c.r ∈ c.mu := List.mem_cons_self
theorem mu_ls : c.ls ∈ c.mu := List.mem_cons_of_mem _ List.mem_cons_self
theorem mu_lp : c.lp ∈ c.mu := List.mem_cons_of_mem _ (List.mem_cons_of_mem _ List.mem_cons_self)
theorem mu_le : c.le ∈ c.mu := List.mem_cons_of_mem _ (List.mem_cons_of_mem _ (List.mem_cons_of_mem _ List.mem_cons_self))
theorem mu_cl : c.cl ∈ c.mu := List.mem_cons_of_mem _ (List.mem_cons_of_mem _ (List.mem_cons_of_mem _ (List.mem_cons_of_mem _ List.mem_cons_self)))
/-- the mutable ones are there -/
theorem RdAt.has (h : RdAt K c M H j d ss rs es cs) {b : Addr} (hb : b ∈ c.mu) : ∃ o, H b = some o := by
  have hb : b = c.r ∨ b = c.ls ∨ b = c.lp ∨ b = c.le ∨ b = c.cl := by simpa [RdC.mu] using hb
  rcases hb with e | e | e | e | e
  · rw [e]; exact ⟨_, h.ins⟩
  · rw [e]; exact ⟨_, h.sl.choose_spec.1⟩
  · rw [e]; exact ⟨_, h.pl.choose_spec.1⟩
  · rw [e]; exact ⟨_, h.el⟩
  · rw [e]; exact ⟨_, h.cl.choose_spec.1⟩
/-- something new is fixed -/
theorem RdAt.fix (h : RdAt K c M H j d ss rs es cs) {t : Addr} {o : HO} (ht : H t = some o) (hm : M t = none) (hn : t ∉ c.mu) : RdAt K c (upd M t o) H j d ss rs es cs ∧ Same M (upd M t o) := by
  have s1 : Same M (upd M t o) := Same.new hm
  refine ⟨h.growM s1 (fun b u hb => ?_) fun b hb => ?_, s1⟩
  · by_cases e : b = t
    · subst e
      rw [upd_same] at hb
      rw [ht, ← hb]
    · rw [upd_ne e] at hb
      exact h.sub _ _ hb
  · rw [upd_ne (fun e => hn (by rw [← e]; exact hb))]
    exact h.mu b hb
theorem Nx.fix (a : Nx c M H M' H') {t : Addr} {o : HO} (ht : H t = none) (hm : M' t = none) : Nx c M H (upd M' t o) H' :=
  ⟨Same.trans a.grow (Same.new hm), fun b u hb => by
    by_cases e : b = t
    · subst e
      exact .inr ht
    · rw [upd_ne e] at hb
      exact a.new b u hb, a.frame, a.live⟩
/-- a mutable one changes -/
theorem Nx.mut (a : Nx c M H M' H') {b : Addr} {o : HO} (hb : b ∈ c.mu) : Nx c M H M' (upd H' b o) :=
  ⟨a.grow, a.new, fun x u hx n => by rw [upd_ne (fun e => n (by rw [e]; exact hb))]; exact a.frame x u hx n, fun x hx => by
    by_cases e : x = b
    · subst e
      rw [upd_same] at hx
      cases hx
    · rw [upd_ne e] at hx
      exact a.live x hx⟩
theorem sub_mut (s : Same M H) {b : Addr} {o : HO} (hb : M b = none) : Same M (upd H b o) := L2.Same.mut s hb
/-- the place, the depth change -/
theorem RdAt.setIns (h : RdAt K c M H j d ss rs es cs) (j' d' : Nat) : RdAt K c M (upd H c.r (.ins (cReader K) c.dx (F_Reader (.ref c.tl) (.int (j' : Int)) (.ref c.p) (.ref c.cl) (.int (d' : Int))))) j' d' ss rs es cs := by
  have n : ∀ {b : Addr} {xs : List V}, H b = some (.lst xs) → b ≠ c.r := fun hb => ne_of hb h.ins fun z => nomatch z
  exact ⟨sub_mut h.sub (h.mu _ mu_r), upd_same, h.mu, h.tk, h.tl, h.pg, let ⟨v, a, b⟩ := h.sl; ⟨v, by rw [upd_ne (n a)]; exact a, b⟩, let ⟨v, a, b⟩ := h.pl; ⟨v, by rw [upd_ne (n a)]; exact a, b⟩, by rw [upd_ne (n h.el)]; exact h.el,
    let ⟨v, a, b⟩ := h.cl; ⟨v, by rw [upd_ne (n a)]; exact a, b⟩, h.ne, by rw [upd_ne (n h.ff)]; exact h.ff, h.fm⟩
/-- a list of no account changes -/
theorem RdAt.mutD (h : RdAt K c M H j d ss rs es cs) {D : Addr} {xs ys : List V} (hD : H D = some (.lst xs)) (hM : M D = none) (hn : D ∉ c.mu) (hf : D ≠ c.f) : RdAt K c M (upd H D (.lst ys)) j d ss rs es cs := by
  have n : ∀ {b : Addr}, b ∈ c.mu → b ≠ D := fun hb e => hn (by rw [← e]; exact hb)
  exact ⟨sub_mut h.sub hM, by rw [upd_ne (n mu_r)]; exact h.ins, h.mu, h.tk, h.tl, h.pg, let ⟨v, a, b⟩ := h.sl; ⟨v, by rw [upd_ne (n mu_ls)]; exact a, b⟩, let ⟨v, a, b⟩ := h.pl; ⟨v, by rw [upd_ne (n mu_lp)]; exact a, b⟩, by rw [upd_ne (n mu_le)]; exact h.el,
    let ⟨v, a, b⟩ := h.cl; ⟨v, by rw [upd_ne (n mu_cl)]; exact a, b⟩, h.ne, by rw [upd_ne hf.symm]; exact h.ff, h.fm⟩
theorem RdAt.addSet (h : RdAt K c M H j d ss [] es cs) {vs : List V} (hv : H c.ls = some (.lst vs)) {v : V} {s : ASet} (hs : SetV M v s) : RdAt K c M (upd H c.ls (.lst (vs ++ [v]))) j d (ss ++ [s]) [] es cs := by
  obtain ⟨n1, n2, n3, n4, n5, n6⟩ := h.ne
  have nr : c.r ≠ c.ls := (ne_of hv h.ins fun z => nomatch z).symm
  obtain ⟨vs', a, b⟩ := h.sl
  have e : vs' = vs := by rw [hv] at a; injection (Option.some.inj a) with e; exact e.symm
  subst e
  exact ⟨sub_mut h.sub (h.mu _ mu_ls), by rw [upd_ne nr]; exact h.ins, h.mu, h.tk, h.tl, h.pg, ⟨_, upd_same, Paired.snoc b hs⟩, let ⟨w, a, b⟩ := h.pl; ⟨w, by rw [upd_ne n1.symm]; exact a, by cases b; exact .nil⟩, by rw [upd_ne n2.symm]; exact h.el,
    let ⟨v, a, b⟩ := h.cl; ⟨v, by rw [upd_ne n3.symm]; exact a, b⟩, h.ne, by rw [upd_ne (fun z => h.fm (by rw [z]; exact mu_ls))]; exact h.ff, h.fm⟩
theorem RdAt.addPart (h : RdAt K c M H j d ss rs es cs) {ws : List V} (hv : H c.lp = some (.lst ws)) {v : V} {x : RawPart} (hs : RPartV K ss M v x) : RdAt K c M (upd H c.lp (.lst (ws ++ [v]))) j d ss (rs ++ [x]) es cs := by
  obtain ⟨n1, n2, n3, n4, n5, n6⟩ := h.ne
  have nr : c.r ≠ c.lp := (ne_of hv h.ins fun z => nomatch z).symm
  obtain ⟨vs', a, b⟩ := h.pl
  have e : vs' = ws := by rw [hv] at a; injection (Option.some.inj a) with e; exact e.symm
  subst e
  exact ⟨sub_mut h.sub (h.mu _ mu_lp), by rw [upd_ne nr]; exact h.ins, h.mu, h.tk, h.tl, h.pg, let ⟨w, a, b⟩ := h.sl; ⟨w, by rw [upd_ne n1]; exact a, b⟩, ⟨_, upd_same, Paired.snoc b hs⟩, by rw [upd_ne n4.symm]; exact h.el,
    let ⟨v, a, b⟩ := h.cl; ⟨v, by rw [upd_ne n5.symm]; exact a, b⟩, h.ne, by rw [upd_ne (fun z => h.fm (by rw [z]; exact mu_lp))]; exact h.ff, h.fm⟩
theorem RdAt.addEntry (h : RdAt K c M H j d ss rs es cs) (k : Nat) : RdAt K c M (upd H c.le (.lst (natL es ++ [.int (k : Int)]))) j d ss rs (es ++ [k]) cs := by
  obtain ⟨n1, n2, n3, n4, n5, n6⟩ := h.ne
  have nr : c.r ≠ c.le := (ne_of h.el h.ins fun z => nomatch z).symm
  exact ⟨sub_mut h.sub (h.mu _ mu_le), by rw [upd_ne nr]; exact h.ins, h.mu, h.tk, h.tl, h.pg, let ⟨w, a, b⟩ := h.sl; ⟨w, by rw [upd_ne n2]; exact a, b⟩, let ⟨w, a, b⟩ := h.pl; ⟨w, by rw [upd_ne n4]; exact a, b⟩, by rw [upd_same]; unfold natL; rw [List.map_append]; rfl,
    let ⟨v, a, b⟩ := h.cl; ⟨v, by rw [upd_ne n6.symm]; exact a, b⟩, h.ne, by rw [upd_ne (fun z => h.fm (by rw [z]; exact mu_le))]; exact h.ff, h.fm⟩
theorem RdAt.addCall (h : RdAt K c M H j d ss rs es cs) {cv : List V} (hv : H c.cl = some (.lst cv)) {v : V} {x : PName} (hs : CallV M v x) : RdAt K c M (upd H c.cl (.lst (cv ++ [v]))) j d ss rs es (cs ++ [x]) := by
  obtain ⟨n1, n2, n3, n4, n5, n6⟩ := h.ne
  have nr : c.r ≠ c.cl := (ne_of hv h.ins fun z => nomatch z).symm
  obtain ⟨vs', a, b⟩ := h.cl
  have e : vs' = cv := by rw [hv] at a; injection (Option.some.inj a) with e; exact e.symm
  subst e
  exact ⟨sub_mut h.sub (h.mu _ mu_cl), by rw [upd_ne nr]; exact h.ins, h.mu, h.tk, h.tl, h.pg, let ⟨w, a, b⟩ := h.sl; ⟨w, by rw [upd_ne n3]; exact a, b⟩, let ⟨w, a, b⟩ := h.pl; ⟨w, by rw [upd_ne n5]; exact a, b⟩, by rw [upd_ne n6]; exact h.el,
    ⟨_, upd_same, Paired.snoc b hs⟩, h.ne, by rw [upd_ne (fun z => h.fm (by rw [z]; exact mu_cl))]; exact h.ff, h.fm⟩
/-- the token at the place -/
theorem RdAt.tok (h : RdAt K c M H j d ss rs es cs) {i : Nat} {t : PTok} (ht : c.ts[i]? = some t) : ∃ tvs a, H c.tl = some (.lst tvs) ∧ tvs[i]? = some (.ref a) ∧ H a = some (.tup [.int ((t.place : Nat) : Int), .str (tokS t.tok).1, (tokS t.tok).2]) := by
  obtain ⟨tvs, h1, h2⟩ := h.tl
  obtain ⟨v, hv, a, rfl, ha⟩ := Paired.at2 h2 ht
  exact ⟨tvs, a, h.sub _ _ h1, hv, h.sub _ _ ha⟩
theorem RdAt.names (h : RdAt K c M H j d ss rs es cs) : NamesAt K H c.p (rs.map (·.name)) := by
  obtain ⟨ws, h1, h2⟩ := h.pl
  refine ⟨c.dp, _, c.lp, _, ws, h.sub _ _ h.pg, h1, ?_⟩
  have : ∀ {ws : List V} {xs : List RawPart}, Paired (RPartV K ss M) ws xs → Paired (NameV K H) ws (xs.map (·.name)) := by
    intro ws xs q
    induction q with
    | nil => exact .nil
    | cons r t ih =>
      obtain ⟨a, dx, l, xs, e1, e2, _⟩ := r
      exact .cons ⟨a, dx, _, _, e1, h.sub _ _ e2⟩ ih
  exact this h2
theorem RdAt.sets (h : RdAt K c M H j d ss rs es cs) : SetsAt K H c.p ss := by
  obtain ⟨vs, h1, h2⟩ := h.sl
  exact ⟨c.dp, c.ls, _, _, vs, h.sub _ _ h.pg, h1, Paired.mapP h2 fun _ _ q => q.same h.sub⟩
theorem drop_tok {ts : Toks} {t : PTok} (h : ts[j]? = some t) : ts.drop j = t :: ts.drop (j + 1) := by
  have hj : j < ts.length := (List.getElem?_eq_some_iff.mp h).1
  rw [List.drop_eq_getElem_cons hj]
  rw [List.getElem?_eq_getElem hj] at h
  rw [Option.some.inj h]
end
end Wk
set_option maxHeartbeats 2000000
namespace Wk
open PySem PySem.Spec PyProof.Rows L2
open VakepBase (PTok Toks PName tokEq here wrong next nextWord taken takeWord takeSign takeName)
open Vakepa (Raw RawPart Piece)
def dOf : V → PyData
  | .str x => .str x
  | .int i => .int i
  | _ => .none
def comesB (t : BTok) (so wh : Str) : Bool := (tokS t).1 == so && PyData.eqv (dOf (tokS t).2) (.str wh)
theorem comes_sign (t : BTok) (n : Nat) : comesB t "sign" ⟨#[n]⟩ = tokEq t (.sign n) := by
  cases t with
  | name b =>
    show ((if VakepBase.RESERVED.contains b = true then ("word" : Str) else "name") == "sign" && _) = false
    by_cases h : VakepBase.RESERVED.contains b = true
    · rw [if_pos h]; rfl
    · rw [if_neg h]; rfl
  | num k => rfl
  | last => rfl
  | sign m =>
    show (("sign" : Str) == "sign" && ((⟨#[m]⟩ : Str) == ⟨#[n]⟩)) = (m == n)
    rw [beq_self_eq_true, Bool.true_and]
    by_cases h : m = n
    · subst h; simp
    · rw [beq_eq_false_iff_ne.mpr h]
      exact beq_eq_false_iff_ne.mpr fun z => h (by injection z with z; simpa using z)
theorem comes_word (t : BTok) {w : Bytes} (hw : VakepBase.RESERVED.contains w = true) : comesB t "word" (S w) = tokEq t (.name w) := by
  cases t with
  | name b =>
    show ((if VakepBase.RESERVED.contains b = true then ("word" : Str) else "name") == "word" && (S b == S w)) = (b == w)
    by_cases e : b = w
    · subst e
      rw [if_pos hw]
      simp
    · rw [beq_eq_false_iff_ne.mpr e, show (S b == S w) = false from beq_eq_false_iff_ne.mpr fun z => e (S_inj z), Bool.and_false]
  | num k => rfl
  | last => rfl
  | sign m => rfl
theorem comes_end (t : BTok) : comesB t "end" "" = tokEq t .last := by
  cases t with
  | name b =>
    show ((if VakepBase.RESERVED.contains b = true then ("word" : Str) else "name") == "end" && _) = false
    by_cases h : VakepBase.RESERVED.contains b = true
    · rw [if_pos h]; rfl
    · rw [if_neg h]; rfl
  | num k => rfl
  | last => rfl
  | sign m => rfl
theorem str_sig (n : Nat) (h : n < 128) : (⟨#[n]⟩ : Str) = S [UInt8.ofNat n] := by
  show (⟨#[n]⟩ : Str) = ⟨#[(UInt8.ofNat n).toNat]⟩
  have : (UInt8.ofNat n).toNat = n := by
    rw [UInt8.toNat_ofNat']
    omega
  rw [this]
/-- a name that may be taken -/
def isName : BTok → Bool
  | .name b => !VakepBase.RESERVED.contains b
  | _ => false
theorem is_name (t : BTok) : decide (V.str (tokS t).1 = V.str "name") = isName t := by
  cases t with
  | name b =>
    show decide (V.str (if VakepBase.RESERVED.contains b = true then ("word" : Str) else "name") = V.str "name") = !VakepBase.RESERVED.contains b
    cases h : VakepBase.RESERVED.contains b with
    | true => rfl
    | false => rfl
  | num k => rfl
  | last => rfl
  | sign m => rfl
theorem takeName_at {t : PTok} {l : Toks} : takeName (t :: l) = if isName t.tok = true then .ok (⟨t.place, match t.tok with | .name b => b | _ => []⟩, l) else .error ⟨3, t.place⟩ := by
  obtain ⟨pl, tk⟩ := t
  cases tk with
  | name b =>
    show (if VakepBase.RESERVED.contains b = true then wrong _ else .ok _) = if (!VakepBase.RESERVED.contains b) = true then _ else _
    cases h : VakepBase.RESERVED.contains b with
    | true => rfl
    | false => rfl
  | num k => rfl
  | last => rfl
  | sign m => rfl
theorem name_of {t : BTok} (h : isName t = true) : ∃ b, t = .name b ∧ (tokS t).2 = .str (S b) := by
  cases t with
  | name b => exact ⟨b, rfl, rfl⟩
  | num k => cases h
  | last => cases h
  | sign m => cases h
theorem takeName_ok {t : PTok} {l : Toks} {b : Bytes} (h : isName t.tok = true) (e : t.tok = .name b) : takeName (t :: l) = .ok (⟨t.place, b⟩, l) := by
  rw [takeName_at, if_pos h, e]
theorem takeName_bad {t : PTok} {l : Toks} (h : isName t.tok = false) : takeName (t :: l) = .error ⟨3, t.place⟩ := by
  rw [takeName_at, h]
  rfl
section
variable {P : Program} {w : World} {K : PySem.W.Frag} {mg : Str → Option Value} {base : Heap}
def spWhere (K : PySem.W.Frag) : Sp := Sp1 fun s H Q _ => ∃ c M j d ss rs es cs t, s = .ref c.r ∧ RdAt K c M H j d ss rs es cs ∧ c.ts[j]? = some t ∧ Q (.int ((t.place : Nat) : Int)) H
theorem sc_Reader_where : FnScope ["self"] ["self"] (defScope s_Reader_where) := ⟨rfl, rfl, rfl, by decide +kernel, rfl, by decide +kernel, by decide +kernel⟩
theorem ok_Reader_where (T : Tx K mg) : FK P w K mg base CX0 (1) (He.ma K (He.ga K "Reader") "where") ["self"] (spWhere K) := by
  obtain ⟨fd, F⟩ := T.f_Reader_where
  refine ⟨fd, F.ok sc_Reader_where (fun vs H Q E h => Sp1.len h) (fun cdv A outer s H vs Q E hr h => ?body), F.bindsN (fun _ _ _ _ _ _ us hl => match us, hl with | [_], _ => rfl), F.kp⟩
  refine ⟨_, PSs.nox (pss_one (ps_ret (pe_ix ix_tup (pe_ix ix_list (pe_fld (pv 0) rfl) (pe_fld (pv 0) rfl) (fun _ _ => rfl)) pe_int (fun _ _ => rfl)))), ?_⟩
  obtain ⟨_, rfl, c, M, j, d, ss, rs, es, cs, t, rfl, h, ht, kk⟩ := h
  obtain ⟨tvs, a, h1, h2, h3⟩ := h.tok ht
  refine ⟨_, rfl, c.r, _, c.dx, _, _, rfl, h.ins, T.c_Reader, T.na_Reader_tokens, l_Reader_tokens, ?_⟩
  refine ⟨_, rfl, c.r, _, c.dx, _, _, rfl, h.ins, T.c_Reader, T.na_Reader_at, l_Reader_at, c.tl, tvs, _, _, rfl, rfl, SqL.of h1, atI_n h2, ?_⟩
  exact ⟨a, _, _, _, rfl, rfl, SqT.of h3, atI_n (j := 0) rfl, kk⟩
def spComes (K : PySem.W.Frag) : Sp := Sp3 fun s x y H Q _ => ∃ c M j d ss rs es cs t so wh, s = .ref c.r ∧ x = .str so ∧ y = .str wh ∧ RdAt K c M H j d ss rs es cs ∧ c.ts[j]? = some t ∧ PyData.strOk so = true ∧ PyData.strOk wh = true ∧ ∀ H', Same H H' → Q (.bl (comesB t.tok so wh)) H'
theorem dp_tok {H : Hp} (t : BTok) : Dp K H (tokS t).2 (dOf (tokS t).2) := by
  cases t with
  | name b => exact .str _
  | num k => exact .int _
  | last => exact .str _
  | sign m => exact .str _
theorem strOk_S (b : Bytes) : PyData.strOk (S b) = true := by
  unfold PyData.strOk
  rw [← Array.all_toList, S_list, List.all_map]
  refine List.all_eq_true.mpr fun c _ => ?_
  have := UInt8.toNat_lt c
  show decide (c.toNat < 0x110000) = true
  exact decide_eq_true (by omega)
theorem strOk_sort (t : BTok) : PyData.strOk (tokS t).1 = true := by
  cases t with
  | name b =>
    show PyData.strOk (if VakepBase.RESERVED.contains b = true then ("word" : Str) else "name") = true
    split <;> decide +kernel
  | num k => show PyData.strOk "number" = true; decide +kernel
  | last => decide +kernel
  | sign m => show PyData.strOk "sign" = true; decide +kernel
theorem shaped_two {a b : Str} (ha : PyData.strOk a = true) (hb : PyData.strOk b = true) : SeqAt.shaped (.tuple [.str a, .str b]) = true := by
  have e1 : PyData.canLay0 (.tuple [.str a, .str b]) = true := by
    show (PyData.strOk a && (PyData.strOk b && true)) = true
    rw [ha, hb]
    rfl
  unfold SeqAt.shaped
  rw [e1]
  rfl
theorem shaped_tok {c : RdC} {j : Nat} {t : PTok} (h : TsOk c.ts) (ht : c.ts[j]? = some t) : SeqAt.shaped (.tuple [.str (tokS t.tok).1, dOf (tokS t.tok).2]) = true := by
  have h1 := strOk_sort t.tok
  cases e : t.tok with
  | name b => rw [e] at h1; exact shaped_two h1 (strOk_S b)
  | num k =>
    rw [e] at h1
    have e1 : PyData.canLay0 (.tuple [.str (tokS (.num k)).1, .int (k : Int)]) = true := by
      show (PyData.strOk (tokS (.num k)).1 && (true && true)) = true
      rw [h1]
      rfl
    show SeqAt.shaped (.tuple [.str (tokS (.num k)).1, .int (k : Int)]) = true
    unfold SeqAt.shaped
    rw [e1]
    rfl
  | last => rw [e] at h1; exact shaped_two h1 (by decide +kernel)
  | sign m =>
    rw [e] at h1
    have := (h.next ht (by rw [e]; exact fun z => nomatch z)).1
    rw [e] at this
    refine shaped_two h1 ?_
    rw [str_sig m this]
    exact strOk_S _
theorem sc_Reader_comes : FnScope ["self", "sort", "what"] ["self", "sort", "what"] (defScope s_Reader_comes) := ⟨rfl, rfl, rfl, by decide +kernel, rfl, by decide +kernel, by decide +kernel⟩
theorem ok_Reader_comes (T : Tx K mg) : FK P w K mg base CX0 (1) (He.ma K (He.ga K "Reader") "comes") ["self", "sort", "what"] (spComes K) := by
  obtain ⟨fd, F⟩ := T.f_Reader_comes
  refine ⟨fd, F.ok sc_Reader_comes (fun vs H Q E h => Sp3.len h) (fun cdv A outer s H vs Q E hr h => ?body), F.bindsN (fun _ _ _ _ _ _ us hl => match us, hl with | [_, _, _], _ => rfl), F.kp⟩
  have hu64 := hr.units
  refine ⟨_, PSs.nox (pss_one (ps_ret (pe_cmpR (op_eqD hu64) (pe_slice sl_tup (pe_ix ix_list (pe_fld (pv 0) rfl) (pe_fld (pv 0) rfl) (fun _ _ => rfl)) (po_some pe_int) po_none) (pe_tup (pa_cons (pv 1) (pa_cons (pv 2) pa_nil))) (nomark _)))), ?_⟩
  obtain ⟨_, _, _, rfl, c, M, j, d, ss, rs, es, cs, t, so, wh, rfl, rfl, rfl, h, ht, o1, o2, kk⟩ := h
  obtain ⟨tvs, a, h1, h2, h3⟩ := h.tok ht
  refine ⟨_, rfl, c.r, _, c.dx, _, _, rfl, h.ins, T.c_Reader, T.na_Reader_tokens, l_Reader_tokens, ?_⟩
  refine ⟨_, rfl, c.r, _, c.dx, _, _, rfl, h.ins, T.c_Reader, T.na_Reader_at, l_Reader_at, c.tl, tvs, _, _, rfl, rfl, SqL.of h1, atI_n h2, ?_⟩
  refine ⟨_, rfl, a, _, rfl, SqT.of h3, (fun z => absurd z.1 (by show ¬ (min 1 3 = 0); decide)), fun p hp => ?_⟩
  have ec : cutV [V.int ((t.place : Nat) : Int), .str (tokS t.tok).1, (tokS t.tok).2] (some 1) none = [.str (tokS t.tok).1, (tokS t.tok).2] := rfl
  rw [ec]
  refine ⟨_, rfl, _, rfl, by show 2 ≤ sizeLine; decide, fun q hq => ?_⟩
  have e2 := Same.trans (Same.new (o := HO.tup [.str (tokS t.tok).1, (tokS t.tok).2]) hp) (Same.new (o := HO.tup [.str so, .str wh]) hq)
  refine ⟨.tuple [.str (tokS t.tok).1, dOf (tokS t.tok).2], .tuple [.str so, .str wh], .tup (SqT.of ((Same.new hq) _ _ upd_same)) (.cons (.str _) (.cons (dp_tok _) .nil)), .tup (SqT.of upd_same) (.cons (.str _) (.cons (.str _) .nil)), shaped_tok h.tk ht, shaped_two o1 o2, ?_⟩
  have := kk _ e2
  have ee : PyData.eqv (.tuple [.str (tokS t.tok).1, dOf (tokS t.tok).2]) (.tuple [.str so, .str wh]) = comesB t.tok so wh := by
    show ((tokS t.tok).1 == so && (PyData.eqv (dOf (tokS t.tok).2) (.str wh) && true)) = _
    rw [Bool.and_true]
    rfl
  rw [ee]
  exact this
def spRdWant (K : PySem.W.Frag) : Sp := Sp3 fun s x y H Q E => ∃ c M j d ss rs es cs t b code, s = .ref c.r ∧ x = .bl b ∧ y = .int ((code : Nat) : Int) ∧ RdAt K c M H j d ss rs es cs ∧ c.ts[j]? = some t ∧ (b = false → FaultR K c E M ⟨code, t.place⟩) ∧ (b = true → Q .non H)
theorem sc_Reader_want : FnScope ["self", "truth", "code"] ["self", "truth", "code"] (defScope s_Reader_want) := ⟨rfl, rfl, rfl, by decide +kernel, rfl, by decide +kernel, by decide +kernel⟩
theorem ok_Reader_want (T : Tx K mg) : FK P w K mg base (L2.CX P w) (3) (He.ma K (He.ga K "Reader") "want") ["self", "truth", "code"] (spRdWant K) := by
  obtain ⟨fd, F⟩ := T.f_Reader_want
  obtain ⟨fd0, G0, b0, k0⟩ := ok_Fault___init__ (P := P) (w := w) (base := base) T
  obtain ⟨fd1, G1, b1, k1⟩ := ok_Reader_where (P := P) (w := w) (base := base) T
  refine ⟨fd, F.ok sc_Reader_want (fun vs H Q E h => Sp3.len h) (fun cdv A outer s H vs Q E hr h => ?body), F.bindsN (fun _ _ _ _ _ _ us hl => match us, hl with | [_, _, _], _ => rfl), F.kp⟩
  refine ⟨_, (pss_one (ps_if (pt_not (pt_val (pv 1))) (pss_one (ps_raise rfl (takes_of rfl rfl rfl rfl) (pmk_oex T.e_Fault.oc T.e_Fault.ini T.e_Fault.tin G0 (hr.mono (by first | decide | omega)) b0 .nil pass0 rfl T.g_Fault (pa_cons (pv 2) (pa_cons (pe_meth0 (pv 0) T.c_Reader T.me_Reader_where G1 (hr.mono (by first | decide | omega)) b1 .nil pass0) pa_nil))))) pss_nil)), ?_⟩
  obtain ⟨_, _, _, rfl, c, M, j, d, ss, rs, es, cs, t, b, code, rfl, rfl, rfl, h, ht, kf, kk⟩ := h
  refine ⟨_, rfl, b, rfl, ?_⟩
  cases b with
  | true => exact kk rfl
  | false =>
    refine ⟨_, rfl, ?_⟩
    refine ⟨_, rfl, c.r, c.dx, _, rfl, h.ins, n_Reader_where, _, rfl, c, M, j, d, ss, rs, es, cs, t, rfl, h, ht, ?_⟩
    exact fault_made T (f := ⟨code, t.place⟩) ((kf rfl).toE h.sub h.ff)
def spTake (K : PySem.W.Frag) : Sp := Sp1 fun s H Q _ => ∃ c M j d ss rs es cs t, s = .ref c.r ∧ RdAt K c M H j d ss rs es cs ∧ c.ts[j]? = some t ∧ ∀ H', RdAt K c M H' (j + 1) d ss rs es cs → Nx c M H M H' → Q (tokS t.tok).2 H'
theorem sc_Reader_take : FnScope ["self"] ["self"] (defScope s_Reader_take) := ⟨rfl, rfl, rfl, by decide +kernel, rfl, by decide +kernel, by decide +kernel⟩
theorem ok_Reader_take (T : Tx K mg) : FK P w K mg base CX0 (1) (He.ma K (He.ga K "Reader") "take") ["self"] (spTake K) := by
  obtain ⟨fd, F⟩ := T.f_Reader_take
  refine ⟨fd, F.ok sc_Reader_take (fun vs H Q E h => Sp1.len h) (fun cdv A outer s H vs Q E hr h => ?body), F.bindsN (fun _ _ _ _ _ _ us hl => match us, hl with | [_], _ => rfl), F.kp⟩
  refine ⟨_, PSs.nox (pss_cons (ps_fld (pv 0) (pe_op op_add (pe_fld (pv 0) rfl) pe_int) rfl)
      (pss_one (ps_ret (pe_ix ix_tup (pe_ix ix_list (pe_fld (pv 0) rfl) (pe_op op_sub (pe_fld (pv 0) rfl) pe_int) (fun _ _ => rfl)) pe_int (fun _ _ => rfl))))), ?_⟩
  obtain ⟨_, rfl, c, M, j, d, ss, rs, es, cs, t, rfl, h, ht, kk⟩ := h
  refine ⟨_, rfl, c.r, _, c.dx, _, _, rfl, h.ins, T.c_Reader, T.na_Reader_at, l_Reader_at, _, _, rfl, rfl, ?_⟩
  refine ⟨_, rfl, c.r, _, c.dx, _, rfl, h.ins, T.c_Reader, T.na_Reader_at, by show 5 < 1000; decide, ?_⟩
  rw [p_Reader_at]
  have h1 := h.setIns (j + 1) d
  have nx : Nx c M H M (upd H c.r (.ins (cReader K) c.dx (F_Reader (.ref c.tl) (.int ((j + 1 : Nat) : Int)) (.ref c.p) (.ref c.cl) (.int (d : Int))))) := Nx.refl.mut mu_r
  obtain ⟨tvs, a, h2, h3, h4⟩ := h1.tok ht
  refine ⟨_, rfl, c.r, _, c.dx, _, _, rfl, h1.ins, T.c_Reader, T.na_Reader_tokens, l_Reader_tokens, ?_⟩
  refine ⟨_, rfl, c.r, _, c.dx, _, _, rfl, h1.ins, T.c_Reader, T.na_Reader_at, l_Reader_at, _, _, rfl, rfl, c.tl, tvs, _, V.ref a, rfl, rfl, SqL.of h2, ?_, ?_⟩
  · have e2 : ((j + 1 : Nat) : Int) - 1 = (j : Int) := by omega
    rw [e2]
    exact atI_n h3
  · exact ⟨a, _, _, _, rfl, rfl, SqT.of h4, atI_n (j := 2) rfl, kk _ h1 nx⟩
def spRead (K : PySem.W.Frag) : Sp := Sp3 fun s x y H Q E => ∃ c M j d ss rs es cs t so wh, s = .ref c.r ∧ x = .str so ∧ y = .str wh ∧ RdAt K c M H j d ss rs es cs ∧ c.ts[j]? = some t ∧ PyData.strOk so = true ∧ PyData.strOk wh = true ∧ (comesB t.tok so wh = false → FaultR K c E M ⟨3, t.place⟩) ∧
  (comesB t.tok so wh = true → ∀ H', RdAt K c M H' (j + 1) d ss rs es cs → Nx c M H M H' → Q .non H')
theorem sc_Reader_read : FnScope ["self", "sort", "what"] ["self", "sort", "what"] (defScope s_Reader_read) := ⟨rfl, rfl, rfl, by decide +kernel, rfl, by decide +kernel, by decide +kernel⟩
theorem ok_Reader_read (T : Tx K mg) : FK P w K mg base (L2.CX P w) (4) (He.ma K (He.ga K "Reader") "read") ["self", "sort", "what"] (spRead K) := by
  obtain ⟨fd, F⟩ := T.f_Reader_read
  obtain ⟨fd0, G0, b0, k0⟩ := ok_Reader_take (P := P) (w := w) (base := base) T
  obtain ⟨fd1, G1, b1, k1⟩ := ok_Reader_want (P := P) (w := w) (base := base) T
  obtain ⟨fd2, G2, b2, k2⟩ := ok_Reader_comes (P := P) (w := w) (base := base) T
  refine ⟨fd, F.ok sc_Reader_read (fun vs H Q E h => Sp3.len h) (fun cdv A outer s H vs Q E hr h => ?body), F.bindsN (fun _ _ _ _ _ _ us hl => match us, hl with | [_, _, _], _ => rfl), F.kp⟩
  refine ⟨_, (pss_cons (ps_expr (pe_meth (pv 0) T.c_Reader T.me_Reader_want G1 (hr.mono (by first | decide | omega)) b1 .nil passR (pa_cons (pe_meth (pv 0) T.c_Reader T.me_Reader_comes G2 (hr.mono (by first | decide | omega)) b2 .nil pass0 (pa_cons (pv 1) (pa_cons (pv 2) pa_nil))) (pa_cons (C8.pe_gc rfl T.k_MISPLACED) pa_nil))))
      (pss_one (ps_expr (pe_meth0 (pv 0) T.c_Reader T.me_Reader_take G0 (hr.mono (by first | decide | omega)) b0 .nil pass0)))), ?_⟩
  obtain ⟨_, _, _, rfl, c, M, j, d, ss, rs, es, cs, t, so, wh, rfl, rfl, rfl, h, ht, o1, o2, kf, kk⟩ := h
  refine ⟨_, rfl, c.r, c.dx, _, rfl, h.ins, n_Reader_want, ?_⟩
  refine ⟨_, rfl, c.r, c.dx, _, rfl, h.ins, n_Reader_comes, _, rfl, _, rfl, _, _, _, rfl, c, M, j, d, ss, rs, es, cs, t, so, wh, rfl, rfl, rfl, h, ht, o1, o2, fun H1 e1 => ?_⟩
  have h1 := h.same' e1
  refine ⟨_, _, _, rfl, c, M, j, d, ss, rs, es, cs, t, _, 3, rfl, rfl, rfl, h1, ht, kf, fun hb => ?_⟩
  exact ⟨_, rfl, c.r, c.dx, _, rfl, h1.ins, n_Reader_take, _, rfl, c, M, j, d, ss, rs, es, cs, t, rfl, h1, ht, fun H2 h2 n2 => kk hb H2 h2 ((Nx.of e1).trans n2)⟩
/-- the name that comes next -/
def spNextName (K : PySem.W.Frag) : Sp := Sp1 fun s H Q E => ∃ c M j d ss rs es cs t, s = .ref c.r ∧ RdAt K c M H j d ss rs es cs ∧ c.ts[j]? = some t ∧ (isName t.tok = false → FaultR K c E M ⟨3, t.place⟩) ∧
  (isName t.tok = true → Q (tokS t.tok).2 H)
theorem sc_Reader_next_name : FnScope ["self"] ["self"] (defScope s_Reader_next_name) := ⟨rfl, rfl, rfl, by decide +kernel, rfl, by decide +kernel, by decide +kernel⟩
theorem ok_Reader_next_name (T : Tx K mg) : FK P w K mg base (L2.CX P w) (4) (He.ma K (He.ga K "Reader") "next_name") ["self"] (spNextName K) := by
  obtain ⟨fd, F⟩ := T.f_Reader_next_name
  obtain ⟨fd0, G0, b0, k0⟩ := ok_Reader_want (P := P) (w := w) (base := base) T
  refine ⟨fd, F.ok sc_Reader_next_name (fun vs H Q E h => Sp1.len h) (fun cdv A outer s H vs Q E hr h => ?body), F.bindsN (fun _ _ _ _ _ _ us hl => match us, hl with | [_], _ => rfl), F.kp⟩
  refine ⟨_, (pss_cons (ps_expr (pe_meth (pv 0) T.c_Reader T.me_Reader_want G0 (hr.mono (by first | decide | omega)) b0 .nil passR (pa_cons (pe_cmpR op_eq (pe_ix ix_tup (pe_ix ix_list (pe_fld (pv 0) rfl) (pe_fld (pv 0) rfl) (fun _ _ => rfl)) pe_int (fun _ _ => rfl)) (C8.pe_gc rfl T.k_NAME) (nomark _)) (pa_cons (C8.pe_gc rfl T.k_MISPLACED) pa_nil))))
      (pss_one (ps_ret (pe_ix ix_tup (pe_ix ix_list (pe_fld (pv 0) rfl) (pe_fld (pv 0) rfl) (fun _ _ => rfl)) pe_int (fun _ _ => rfl))))), ?_⟩
  obtain ⟨_, rfl, c, M, j, d, ss, rs, es, cs, t, rfl, h, ht, kf, kk⟩ := h
  obtain ⟨tvs, a, h1, h2, h3⟩ := h.tok ht
  refine ⟨_, rfl, c.r, c.dx, _, rfl, h.ins, n_Reader_want, ?_⟩
  refine ⟨_, rfl, c.r, _, c.dx, _, _, rfl, h.ins, T.c_Reader, T.na_Reader_tokens, l_Reader_tokens, ?_⟩
  refine ⟨_, rfl, c.r, _, c.dx, _, _, rfl, h.ins, T.c_Reader, T.na_Reader_at, l_Reader_at, c.tl, tvs, _, _, rfl, rfl, SqL.of h1, atI_n h2, ?_⟩
  refine ⟨a, _, _, _, rfl, rfl, SqT.of h3, atI_n (j := 1) rfl, rfl, ?_⟩
  show _
  have en := is_name t.tok
  refine ⟨_, _, _, rfl, c, M, j, d, ss, rs, es, cs, t, _, 3, rfl, rfl, rfl, h, ht, fun hb => kf (by rw [← en]; exact hb), fun hb => ?_⟩
  refine ⟨_, rfl, c.r, _, c.dx, _, _, rfl, h.ins, T.c_Reader, T.na_Reader_tokens, l_Reader_tokens, ?_⟩
  refine ⟨_, rfl, c.r, _, c.dx, _, _, rfl, h.ins, T.c_Reader, T.na_Reader_at, l_Reader_at, c.tl, tvs, _, _, rfl, rfl, SqL.of h1, atI_n h2, ?_⟩
  exact ⟨a, _, _, _, rfl, rfl, SqT.of h3, atI_n (j := 2) rfl, kk (by rw [← en]; exact hb)⟩
/-- a name is read -/
def spReadName (K : PySem.W.Frag) : Sp := Sp1 fun s H Q E => ∃ c M j d ss rs es cs t, s = .ref c.r ∧ RdAt K c M H j d ss rs es cs ∧ c.ts[j]? = some t ∧ (isName t.tok = false → FaultR K c E M ⟨3, t.place⟩) ∧
  (isName t.tok = true → ∀ H', RdAt K c M H' (j + 1) d ss rs es cs → Nx c M H M H' → Q (tokS t.tok).2 H')
theorem sc_Reader_read_name : FnScope ["self"] ["self"] (defScope s_Reader_read_name) := ⟨rfl, rfl, rfl, by decide +kernel, rfl, by decide +kernel, by decide +kernel⟩
theorem ok_Reader_read_name (T : Tx K mg) : FK P w K mg base (L2.CX P w) (5) (He.ma K (He.ga K "Reader") "read_name") ["self"] (spReadName K) := by
  obtain ⟨fd, F⟩ := T.f_Reader_read_name
  obtain ⟨fd0, G0, b0, k0⟩ := ok_Reader_take (P := P) (w := w) (base := base) T
  obtain ⟨fd1, G1, b1, k1⟩ := ok_Reader_next_name (P := P) (w := w) (base := base) T
  refine ⟨fd, F.ok sc_Reader_read_name (fun vs H Q E h => Sp1.len h) (fun cdv A outer s H vs Q E hr h => ?body), F.bindsN (fun _ _ _ _ _ _ us hl => match us, hl with | [_], _ => rfl), F.kp⟩
  refine ⟨_, (pss_cons (ps_expr (pe_meth0 (pv 0) T.c_Reader T.me_Reader_next_name G1 (hr.mono (by first | decide | omega)) b1 .nil passR))
      (pss_one (ps_ret (pe_meth0 (pv 0) T.c_Reader T.me_Reader_take G0 (hr.mono (by first | decide | omega)) b0 .nil pass0)))), ?_⟩
  obtain ⟨_, rfl, c, M, j, d, ss, rs, es, cs, t, rfl, h, ht, kf, kk⟩ := h
  refine ⟨_, rfl, c.r, c.dx, _, rfl, h.ins, n_Reader_next_name, _, rfl, c, M, j, d, ss, rs, es, cs, t, rfl, h, ht, kf, fun hb => ?_⟩
  exact ⟨_, rfl, c.r, c.dx, _, rfl, h.ins, n_Reader_take, _, rfl, c, M, j, d, ss, rs, es, cs, t, rfl, h, ht, fun H2 h2 n2 => kk hb H2 h2 n2⟩
/-- .. that is none of some -/
def spNewName (K : PySem.W.Frag) : Sp := Sp2 fun s x H Q E => ∃ c M j d ss rs es cs t q olds, s = .ref c.r ∧ x = .ref q ∧ H q = some (.lst (strL olds)) ∧ RdAt K c M H j d ss rs es cs ∧ c.ts[j]? = some t ∧ (isName t.tok = false → FaultR K c E M ⟨3, t.place⟩) ∧
  (∀ b, isName t.tok = true → t.tok = .name b → olds.contains b = true → FaultR K c E M ⟨5, t.place⟩) ∧ (∀ b, isName t.tok = true → t.tok = .name b → olds.contains b = false → ∀ H', RdAt K c M H' (j + 1) d ss rs es cs → Nx c M H M H' → Q (.str (S b)) H')
theorem sc_Reader_read_new_name : FnScope ["self", "olds"] ["self", "olds"] (defScope s_Reader_read_new_name) := ⟨rfl, rfl, rfl, by decide +kernel, rfl, by decide +kernel, by decide +kernel⟩
theorem ok_Reader_read_new_name (T : Tx K mg) : FK P w K mg base (L2.CX P w) (5) (He.ma K (He.ga K "Reader") "read_new_name") ["self", "olds"] (spNewName K) := by
  obtain ⟨fd, F⟩ := T.f_Reader_read_new_name
  obtain ⟨fd0, G0, b0, k0⟩ := ok_Reader_take (P := P) (w := w) (base := base) T
  obtain ⟨fd1, G1, b1, k1⟩ := ok_Reader_want (P := P) (w := w) (base := base) T
  obtain ⟨fd2, G2, b2, k2⟩ := ok_Reader_next_name (P := P) (w := w) (base := base) T
  refine ⟨fd, F.ok sc_Reader_read_new_name (fun vs H Q E h => Sp2.len h) (fun cdv A outer s H vs Q E hr h => ?body), F.bindsN (fun _ _ _ _ _ _ us hl => match us, hl with | [_, _], _ => rfl), F.kp⟩
  refine ⟨_, (pss_cons (ps_expr (pe_meth (pv 0) T.c_Reader T.me_Reader_want G1 (hr.mono (by first | decide | omega)) b1 .nil passR (pa_cons (pe_cmpR op_notIn_seq (pe_meth0 (pv 0) T.c_Reader T.me_Reader_next_name G2 (hr.mono (by first | decide | omega)) b2 .nil passR) (pv 1) rfl) (pa_cons (C8.pe_gc rfl T.k_TAKEN) pa_nil))))
      (pss_one (ps_ret (pe_meth0 (pv 0) T.c_Reader T.me_Reader_take G0 (hr.mono (by first | decide | omega)) b0 .nil pass0)))), ?_⟩
  obtain ⟨_, _, rfl, c, M, j, d, ss, rs, es, cs, t, q, olds, rfl, rfl, hq, h, ht, kf, k5, kk⟩ := h
  refine ⟨_, rfl, c.r, c.dx, _, rfl, h.ins, n_Reader_want, ?_⟩
  refine ⟨_, rfl, c.r, c.dx, _, rfl, h.ins, n_Reader_next_name, _, rfl, c, M, j, d, ss, rs, es, cs, t, rfl, h, ht, kf, fun hb => ?_⟩
  obtain ⟨b, eb, ev⟩ := name_of hb
  rw [ev]
  refine ⟨_, rfl, q, _, rfl, .inl (SqL.of hq), rfl, strL_flat _, ?_⟩
  have ei := inV_S b olds
  refine ⟨_, _, _, rfl, c, M, j, d, ss, rs, es, cs, t, !inV (.str (S b)) (strL olds), 5, rfl, rfl, rfl, h, ht, fun z => k5 b hb eb (by rw [ei] at z; simpa using z), fun z => ?_⟩
  refine ⟨_, rfl, c.r, c.dx, _, rfl, h.ins, n_Reader_take, _, rfl, c, M, j, d, ss, rs, es, cs, t, rfl, h, ht, fun H2 h2 n2 => ?_⟩
  rw [ev]
  exact kk b hb eb (by rw [ei] at z; simpa using z) H2 h2 n2
/-- a number from 1 to 99 -/
def spReadSize (K : PySem.W.Frag) : Sp := Sp1 fun s H Q E => ∃ c M j d ss rs es cs t, s = .ref c.r ∧ RdAt K c M H j d ss rs es cs ∧ c.ts[j]? = some t ∧
  (∀ f, Vakepa.takeNat 99 (c.ts.drop j) = .error f → FaultR K c E M f) ∧ (∀ n, Vakepa.takeNat 99 (c.ts.drop j) = .ok (n, c.ts.drop (j + 1)) → t.tok = .num n → 1 ≤ n → n ≤ 99 → ∀ H', RdAt K c M H' (j + 1) d ss rs es cs → Nx c M H M H' → Q (.int ((n : Nat) : Int)) H')
theorem sc_Reader_read_size : FnScope ["self"] ["self"] (defScope s_Reader_read_size) := ⟨rfl, rfl, rfl, by decide +kernel, rfl, by decide +kernel, by decide +kernel⟩
theorem ok_Reader_read_size (T : Tx K mg) : FK P w K mg base (L2.CX P w) (4) (He.ma K (He.ga K "Reader") "read_size") ["self"] (spReadSize K) := by
  obtain ⟨fd, F⟩ := T.f_Reader_read_size
  obtain ⟨fd0, G0, b0, k0⟩ := ok_Reader_take (P := P) (w := w) (base := base) T
  obtain ⟨fd1, G1, b1, k1⟩ := ok_Reader_want (P := P) (w := w) (base := base) T
  refine ⟨fd, F.ok sc_Reader_read_size (fun vs H Q E h => Sp1.len h) (fun cdv A outer s H vs Q E hr h => ?body), F.bindsN (fun _ _ _ _ _ _ us hl => match us, hl with | [_], _ => rfl), F.kp⟩
  refine ⟨_, (pss_cons (ps_expr (pe_meth (pv 0) T.c_Reader T.me_Reader_want G1 (hr.mono (by first | decide | omega)) b1 .nil passR (pa_cons (pe_cmpR op_eq (pe_ix ix_tup (pe_ix ix_list (pe_fld (pv 0) rfl) (pe_fld (pv 0) rfl) (fun _ _ => rfl)) pe_int (fun _ _ => rfl)) (C8.pe_gc rfl T.k_NUMBER) (nomark _)) (pa_cons (C8.pe_gc rfl T.k_MISPLACED) pa_nil))))
      (pss_cons (ps_expr (pe_meth (pv 0) T.c_Reader T.me_Reader_want G1 (hr.mono (by first | decide | omega)) b1 .nil passR (pa_cons (pe_chain op_le op_le pe_int (pe_ix ix_tup (pe_ix ix_list (pe_fld (pv 0) rfl) (pe_fld (pv 0) rfl) (fun _ _ => rfl)) pe_int (fun _ _ => rfl)) (C8.pe_gc rfl T.k_GREATEST_SIZE)) (pa_cons (C8.pe_gc rfl T.k_NO_SIZE) pa_nil))))
      (pss_one (ps_ret (pe_meth0 (pv 0) T.c_Reader T.me_Reader_take G0 (hr.mono (by first | decide | omega)) b0 .nil pass0))))), ?_⟩
  obtain ⟨_, rfl, c, M, j, d, ss, rs, es, cs, t, rfl, h, ht, kf, kk⟩ := h
  obtain ⟨tvs, a, h1, h2, h3⟩ := h.tok ht
  rw [drop_tok ht] at kf kk
  refine ⟨_, rfl, c.r, c.dx, _, rfl, h.ins, n_Reader_want, ?_⟩
  refine ⟨_, rfl, c.r, _, c.dx, _, _, rfl, h.ins, T.c_Reader, T.na_Reader_tokens, l_Reader_tokens, ?_⟩
  refine ⟨_, rfl, c.r, _, c.dx, _, _, rfl, h.ins, T.c_Reader, T.na_Reader_at, l_Reader_at, c.tl, tvs, _, _, rfl, rfl, SqL.of h1, atI_n h2, ?_⟩
  refine ⟨a, _, _, _, rfl, rfl, SqT.of h3, atI_n (j := 1) rfl, rfl, ?_⟩
  by_cases hn : ∃ n, t.tok = .num n
  · obtain ⟨n, en⟩ := hn
    have et : t = ⟨t.place, .num n⟩ := by rw [← en]
    have es2 : (tokS t.tok).2 = .int (n : Int) := by rw [en]; rfl
    refine ⟨_, _, _, rfl, c, M, j, d, ss, rs, es, cs, t, _, 3, rfl, rfl, rfl, h, ht, fun z => by rw [en] at z; exact absurd z (by show ¬ (decide (V.str "number" = V.str "number") = false); decide +kernel), fun _ => ?_⟩
    refine ⟨_, rfl, c.r, c.dx, _, rfl, h.ins, n_Reader_want, ?_⟩
    refine ⟨_, rfl, c.r, _, c.dx, _, _, rfl, h.ins, T.c_Reader, T.na_Reader_tokens, l_Reader_tokens, ?_⟩
    refine ⟨_, rfl, c.r, _, c.dx, _, _, rfl, h.ins, T.c_Reader, T.na_Reader_at, l_Reader_at, c.tl, tvs, _, _, rfl, rfl, SqL.of h1, atI_n h2, ?_⟩
    refine ⟨a, _, _, _, rfl, rfl, SqT.of h3, atI_n (j := 2) rfl, ?_⟩
    rw [es2]
    refine ⟨_, _, rfl, rfl, _, rfl, ?_⟩
    have tn : Vakepa.takeNat 99 (t :: c.ts.drop (j + 1)) = if n < 1 ∨ 99 < n then .error ⟨7, t.place⟩ else .ok (n, c.ts.drop (j + 1)) := by rw [et]; rfl
    rw [tn] at kf kk
    show if decide ((1 : Int) ≤ (n : Int)) = true then _ else _
    have wantK : ∀ b : Bool, (b = decide (1 ≤ n ∧ n ≤ 99)) → spRdWant K [.ref c.r, .bl b, .int 7] H (fun _ H' => (tRet (tMeth (He.ga K "Reader") "take" (spTake K) [] E0 (tVar 0) tNil)) ⟨fun x H' => Q .non H', Q, fun x H' => Q .non H', fun x H' => Q .non H'⟩ [some (.ref c.r)] H') E := by
      intro b hb
      refine ⟨_, _, _, rfl, c, M, j, d, ss, rs, es, cs, t, b, 7, rfl, rfl, rfl, h, ht, fun z => kf _ ?_, fun z => ?_⟩
      · rw [z] at hb
        have := of_decide_eq_false hb.symm
        rw [if_pos (by omega)]
      · rw [z] at hb
        have := of_decide_eq_true hb.symm
        refine ⟨_, rfl, c.r, c.dx, _, rfl, h.ins, n_Reader_take, _, rfl, c, M, j, d, ss, rs, es, cs, t, rfl, h, ht, fun H2 h2 n2 => ?_⟩
        rw [es2]
        exact kk n (by rw [if_neg (by omega)]) en this.1 this.2 H2 h2 n2
    by_cases h1n : 1 ≤ n
    · rw [if_pos (decide_eq_true (by omega))]
      refine ⟨_, _, rfl, rfl, wantK (decide ((n : Int) ≤ 99)) ?_⟩
      rw [decide_eq_decide]
      omega
    · rw [if_neg fun z => h1n (by have := of_decide_eq_true z; omega)]
      exact wantK false (decide_eq_false fun z => h1n z.1).symm
  · have hs : decide (V.str (tokS t.tok).1 = V.str "number") = false := by
      cases e : t.tok with
      | name b =>
        show decide (V.str (if VakepBase.RESERVED.contains b = true then ("word" : Str) else "name") = V.str "number") = false
        split <;> decide +kernel
      | num k => exact absurd ⟨k, e⟩ hn
      | last => rfl
      | sign m => rfl
    have tn : Vakepa.takeNat 99 (t :: c.ts.drop (j + 1)) = .error ⟨3, t.place⟩ := by
      obtain ⟨pl, tk⟩ := t
      cases tk with
      | num k => exact absurd ⟨k, rfl⟩ hn
      | name b => rfl
      | last => rfl
      | sign m => rfl
    exact ⟨_, _, _, rfl, c, M, j, d, ss, rs, es, cs, t, _, 3, rfl, rfl, rfl, h, ht, fun _ => kf _ tn, fun z => by rw [hs] at z; cases z⟩
/-- the word that begins one more -/
def spBegin (K : PySem.W.Frag) : Sp := Sp3 fun s x y H Q E => ∃ c M j d ss rs es cs t q xs most, s = .ref c.r ∧ x = .ref q ∧ y = .int ((most : Nat) : Int) ∧ H q = some (.lst xs) ∧ RdAt K c M H j d ss rs es cs ∧ c.ts[j]? = some t ∧ (most ≤ xs.length → FaultR K c E M ⟨4, t.place⟩) ∧
  (xs.length < most → ∀ H', RdAt K c M H' (j + 1) d ss rs es cs → Nx c M H M H' → Q .non H')
theorem sc_Reader_begin : FnScope ["self", "some", "most"] ["self", "some", "most"] (defScope s_Reader_begin) := ⟨rfl, rfl, rfl, by decide +kernel, rfl, by decide +kernel, by decide +kernel⟩
theorem ok_Reader_begin (T : Tx K mg) : FK P w K mg base (L2.CX P w) (4) (He.ma K (He.ga K "Reader") "begin") ["self", "some", "most"] (spBegin K) := by
  obtain ⟨fd, F⟩ := T.f_Reader_begin
  obtain ⟨fd0, G0, b0, k0⟩ := ok_Reader_take (P := P) (w := w) (base := base) T
  obtain ⟨fd1, G1, b1, k1⟩ := ok_Reader_want (P := P) (w := w) (base := base) T
  refine ⟨fd, F.ok sc_Reader_begin (fun vs H Q E h => Sp3.len h) (fun cdv A outer s H vs Q E hr h => ?body), F.bindsN (fun _ _ _ _ _ _ us hl => match us, hl with | [_, _, _], _ => rfl), F.kp⟩
  refine ⟨_, (pss_cons (ps_expr (pe_meth (pv 0) T.c_Reader T.me_Reader_want G1 (hr.mono (by first | decide | omega)) b1 .nil passR (pa_cons (pe_cmpR op_lt (pe_callB call_lenK rfl T.n_len boot_len (pa_cons (pv 1) pa_nil)) (pv 2) (nomark _)) (pa_cons (C8.pe_gc rfl T.k_TOO_MANY) pa_nil))))
      (pss_one (ps_expr (pe_meth0 (pv 0) T.c_Reader T.me_Reader_take G0 (hr.mono (by first | decide | omega)) b0 .nil pass0)))), ?_⟩
  obtain ⟨_, _, _, rfl, c, M, j, d, ss, rs, es, cs, t, q, xs, most, rfl, rfl, rfl, hq, h, ht, kf, kk⟩ := h
  refine ⟨_, rfl, c.r, c.dx, _, rfl, h.ins, n_Reader_want, ?_⟩
  refine ⟨_, rfl, q, xs, rfl, .inl (SqL.of hq), _, rfl, _, _, rfl, rfl, ?_⟩
  refine ⟨_, _, _, rfl, c, M, j, d, ss, rs, es, cs, t, decide ((xs.length : Int) < (most : Int)), 4, rfl, rfl, rfl, h, ht, fun z => kf ?_, fun z => ?_⟩
  · have := of_decide_eq_false z
    omega
  · have := of_decide_eq_true z
    exact ⟨_, rfl, c.r, c.dx, _, rfl, h.ins, n_Reader_take, _, rfl, c, M, j, d, ss, rs, es, cs, t, rfl, h, ht, fun H2 h2 n2 => kk (by omega) H2 h2 n2⟩
/-- whether a list goes on -/
def spGoesOn (K : PySem.W.Frag) : Sp := Sp2 fun s x H Q E => ∃ c M j d ss rs es cs t n, s = .ref c.r ∧ x = .str ⟨#[n]⟩ ∧ n < 128 ∧ RdAt K c M H j d ss rs es cs ∧ c.ts[j]? = some t ∧ (tokEq t.tok (.sign n) = true → ∀ H', RdAt K c M H' (j + 1) d ss rs es cs → Nx c M H M H' → Q (.bl true) H') ∧
  (tokEq t.tok (.sign n) = false → tokEq t.tok (.sign 59) = false → FaultR K c E M ⟨3, t.place⟩) ∧ (tokEq t.tok (.sign n) = false → tokEq t.tok (.sign 59) = true → ∀ H', RdAt K c M H' (j + 1) d ss rs es cs → Nx c M H M H' → Q (.bl false) H')
theorem sc_Reader_goes_on : FnScope ["self", "sign"] ["self", "sign"] (defScope s_Reader_goes_on) := ⟨rfl, rfl, rfl, by decide +kernel, rfl, by decide +kernel, by decide +kernel⟩
theorem ok_Reader_goes_on (T : Tx K mg) : FK P w K mg base (L2.CX P w) (5) (He.ma K (He.ga K "Reader") "goes_on") ["self", "sign"] (spGoesOn K) := by
  obtain ⟨fd, F⟩ := T.f_Reader_goes_on
  obtain ⟨fd0, G0, b0, k0⟩ := ok_Reader_read (P := P) (w := w) (base := base) T
  obtain ⟨fd1, G1, b1, k1⟩ := ok_Reader_comes (P := P) (w := w) (base := base) T
  obtain ⟨fd2, G2, b2, k2⟩ := ok_Reader_take (P := P) (w := w) (base := base) T
  refine ⟨fd, F.ok sc_Reader_goes_on (fun vs H Q E h => Sp2.len h) (fun cdv A outer s H vs Q E hr h => ?body), F.bindsN (fun _ _ _ _ _ _ us hl => match us, hl with | [_, _], _ => rfl), F.kp⟩
  refine ⟨_, (pss_cons (ps_if (pt_val (pe_meth (pv 0) T.c_Reader T.me_Reader_comes G1 (hr.mono (by first | decide | omega)) b1 .nil pass0 (pa_cons (C8.pe_gc rfl T.k_SIGN) (pa_cons (pv 1) pa_nil)))) (pss_cons (ps_expr (pe_meth0 (pv 0) T.c_Reader T.me_Reader_take G2 (hr.mono (by first | decide | omega)) b2 .nil pass0))
      (pss_one (ps_ret pe_bl))) pss_nil)
      (pss_cons (ps_expr (pe_meth (pv 0) T.c_Reader T.me_Reader_read G0 (hr.mono (by first | decide | omega)) b0 .nil passR (pa_cons (C8.pe_gc rfl T.k_SIGN) (pa_cons pe_str pa_nil))))
      (pss_one (ps_ret pe_bl)))), ?_⟩
  obtain ⟨_, _, rfl, c, M, j, d, ss, rs, es, cs, t, n, rfl, rfl, hn, h, ht, kt, kf, kk⟩ := h
  have o2 : PyData.strOk (⟨#[n]⟩ : Str) = true := by rw [str_sig n hn]; exact strOk_S _
  refine ⟨_, rfl, c.r, c.dx, _, rfl, h.ins, n_Reader_comes, _, rfl, _, _, _, rfl, c, M, j, d, ss, rs, es, cs, t, _, _, rfl, rfl, rfl, h, ht, by decide +kernel, o2, fun H1 e1 => ?_⟩
  have h1 := h.same' e1
  rw [comes_sign]
  refine ⟨_, rfl, ?_⟩
  cases hb : tokEq t.tok (.sign n) with
  | true => exact ⟨_, rfl, c.r, c.dx, _, rfl, h1.ins, n_Reader_take, _, rfl, c, M, j, d, ss, rs, es, cs, t, rfl, h1, ht, fun H2 h2 n2 => kt hb H2 h2 ((Nx.of e1).trans n2)⟩
  | false =>
    have e59 : comesB t.tok "sign" ";" = tokEq t.tok (.sign 59) := comes_sign t.tok 59
    exact ⟨_, rfl, c.r, c.dx, _, rfl, h1.ins, n_Reader_read, _, _, _, rfl, c, M, j, d, ss, rs, es, cs, t, "sign", ";", rfl, rfl, rfl, h1, ht, by decide +kernel, by decide +kernel, fun z => kf hb (by rw [← e59]; exact z), fun z H2 h2 n2 => kk hb (by rw [← e59]; exact z) H2 h2 ((Nx.of e1).trans n2)⟩
/-- a setting's word beside those ahead -/
def spNewWord (K : PySem.W.Frag) : Sp := Sp2 fun s x H Q E => ∃ c M j d ss rs es cs t q olds, s = .ref c.r ∧ x = .ref q ∧ H q = some (.lst (strL olds)) ∧ RdAt K c M H j d ss rs es cs ∧ c.ts[j]? = some t ∧ (isName t.tok = false → FaultR K c E M ⟨3, t.place⟩) ∧
  (isName t.tok = true → 4 ≤ olds.length → FaultR K c E M ⟨4, t.place⟩) ∧ (∀ b, isName t.tok = true → t.tok = .name b → olds.length < 4 → olds.contains b = true → FaultR K c E M ⟨5, t.place⟩) ∧
  (∀ b, isName t.tok = true → t.tok = .name b → olds.length < 4 → olds.contains b = false → ∀ H', RdAt K c M H' (j + 1) d ss rs es cs → Nx c M H M H' → Q (.str (S b)) H')
theorem strL_len (l : List Bytes) : (strL l).length = l.length := List.length_map _
theorem sc_Reader_new_word : FnScope ["self", "words", "name"] ["self", "words"] (defScope s_Reader_new_word) := ⟨rfl, rfl, rfl, by decide +kernel, rfl, by decide +kernel, by decide +kernel⟩
theorem ok_Reader_new_word (T : Tx K mg) : FK P w K mg base (L2.CX P w) (5) (He.ma K (He.ga K "Reader") "new_word") ["self", "words"] (spNewWord K) := by
  obtain ⟨fd, F⟩ := T.f_Reader_new_word
  obtain ⟨fd0, G0, b0, k0⟩ := ok_Reader_take (P := P) (w := w) (base := base) T
  obtain ⟨fd1, G1, b1, k1⟩ := ok_Reader_want (P := P) (w := w) (base := base) T
  obtain ⟨fd2, G2, b2, k2⟩ := ok_Reader_next_name (P := P) (w := w) (base := base) T
  refine ⟨fd, F.ok sc_Reader_new_word (fun vs H Q E h => Sp2.len h) (fun cdv A outer s H vs Q E hr h => ?body), F.bindsN (fun _ _ _ _ _ _ us hl => match us, hl with | [_, _], _ => rfl), F.kp⟩
  refine ⟨_, (pss_cons (ps_set (i := 2) sc_Reader_new_word.nd rfl (.inl rfl) (pe_meth0 (pv 0) T.c_Reader T.me_Reader_next_name G2 (hr.mono (by first | decide | omega)) b2 .nil passR) (hf := (.inr rfl)))
      (pss_cons (ps_expr (pe_meth (pv 0) T.c_Reader T.me_Reader_want G1 (hr.mono (by first | decide | omega)) b1 .nil passR (pa_cons (pe_cmpR op_lt (pe_callB call_lenK rfl T.n_len boot_len (pa_cons (pv 1) pa_nil)) (C8.pe_gc rfl T.k_MOST_WORDS) (nomark _)) (pa_cons (C8.pe_gc rfl T.k_TOO_MANY) pa_nil))))
      (pss_cons (ps_expr (pe_meth (pv 0) T.c_Reader T.me_Reader_want G1 (hr.mono (by first | decide | omega)) b1 .nil passR (pa_cons (pe_cmpR op_notIn_seq (pv 2) (pv 1) rfl) (pa_cons (C8.pe_gc rfl T.k_TAKEN) pa_nil))))
      (pss_one (ps_ret (pe_meth0 (pv 0) T.c_Reader T.me_Reader_take G0 (hr.mono (by first | decide | omega)) b0 .nil pass0)))))), ?_⟩
  obtain ⟨_, _, rfl, c, M, j, d, ss, rs, es, cs, t, q, olds, rfl, rfl, hq, h, ht, kf, k4, k5, kk⟩ := h
  refine ⟨_, rfl, c.r, c.dx, _, rfl, h.ins, n_Reader_next_name, _, rfl, c, M, j, d, ss, rs, es, cs, t, rfl, h, ht, kf, fun hb => ?_⟩
  obtain ⟨b, eb, ev⟩ := name_of hb
  rw [ev]
  refine ⟨_, rfl, c.r, c.dx, _, rfl, h.ins, n_Reader_want, ?_⟩
  refine ⟨_, rfl, q, _, rfl, .inl (SqL.of hq), _, _, rfl, rfl, ?_⟩
  refine ⟨_, _, _, rfl, c, M, j, d, ss, rs, es, cs, t, decide (((strL olds).length : Int) < 4), 4, rfl, rfl, rfl, h, ht, fun z => k4 hb ?_, fun z => ?_⟩
  · have := of_decide_eq_false z
    rw [strL_len] at this
    omega
  have h4 : olds.length < 4 := by
    have := of_decide_eq_true z
    rw [strL_len] at this
    omega
  refine ⟨_, rfl, c.r, c.dx, _, rfl, h.ins, n_Reader_want, ?_⟩
  refine ⟨_, rfl, _, rfl, q, _, rfl, .inl (SqL.of hq), rfl, strL_flat _, ?_⟩
  have ei := inV_S b olds
  refine ⟨_, _, _, rfl, c, M, j, d, ss, rs, es, cs, t, !inV (.str (S b)) (strL olds), 5, rfl, rfl, rfl, h, ht, fun z => k5 b hb eb h4 (by rw [ei] at z; simpa using z), fun z => ?_⟩
  refine ⟨_, rfl, c.r, c.dx, _, rfl, h.ins, n_Reader_take, _, rfl, c, M, j, d, ss, rs, es, cs, t, rfl, h, ht, fun H2 h2 n2 => ?_⟩
  rw [ev]
  exact kk b hb eb h4 (by rw [ei] at z; simpa using z) H2 h2 n2
/-- a piece beside those ahead -/
def spPiece (K : PySem.W.Frag) : Sp := Sp2 fun s x H Q E => ∃ c M j d ss rs es cs t q olds, s = .ref c.r ∧ x = .ref q ∧ H q = some (.lst (strL olds)) ∧ RdAt K c M H j d ss rs es cs ∧ c.ts[j]? = some t ∧ (isName t.tok = false → FaultR K c E M ⟨3, t.place⟩) ∧
  (isName t.tok = true → 3 ≤ olds.length → FaultR K c E M ⟨4, t.place⟩) ∧
  (∀ b, isName t.tok = true → t.tok = .name b → olds.length < 3 → ∀ H', RdAt K c M H' (j + 1) d ss rs es cs → Nx c M H M H' → Q (.str (S b)) H')
theorem sc_Reader_piece : FnScope ["self", "pieces"] ["self", "pieces"] (defScope s_Reader_piece) := ⟨rfl, rfl, rfl, by decide +kernel, rfl, by decide +kernel, by decide +kernel⟩
theorem ok_Reader_piece (T : Tx K mg) : FK P w K mg base (L2.CX P w) (5) (He.ma K (He.ga K "Reader") "piece") ["self", "pieces"] (spPiece K) := by
  obtain ⟨fd, F⟩ := T.f_Reader_piece
  obtain ⟨fd0, G0, b0, k0⟩ := ok_Reader_take (P := P) (w := w) (base := base) T
  obtain ⟨fd1, G1, b1, k1⟩ := ok_Reader_want (P := P) (w := w) (base := base) T
  obtain ⟨fd2, G2, b2, k2⟩ := ok_Reader_next_name (P := P) (w := w) (base := base) T
  refine ⟨fd, F.ok sc_Reader_piece (fun vs H Q E h => Sp2.len h) (fun cdv A outer s H vs Q E hr h => ?body), F.bindsN (fun _ _ _ _ _ _ us hl => match us, hl with | [_, _], _ => rfl), F.kp⟩
  refine ⟨_, (pss_cons (ps_expr (pe_meth0 (pv 0) T.c_Reader T.me_Reader_next_name G2 (hr.mono (by first | decide | omega)) b2 .nil passR))
      (pss_cons (ps_expr (pe_meth (pv 0) T.c_Reader T.me_Reader_want G1 (hr.mono (by first | decide | omega)) b1 .nil passR (pa_cons (pe_cmpR op_lt (pe_callB call_lenK rfl T.n_len boot_len (pa_cons (pv 1) pa_nil)) (C8.pe_gc rfl T.k_MOST_PIECES) (nomark _)) (pa_cons (C8.pe_gc rfl T.k_TOO_MANY) pa_nil))))
      (pss_one (ps_ret (pe_meth0 (pv 0) T.c_Reader T.me_Reader_take G0 (hr.mono (by first | decide | omega)) b0 .nil pass0))))), ?_⟩
  obtain ⟨_, _, rfl, c, M, j, d, ss, rs, es, cs, t, q, olds, rfl, rfl, hq, h, ht, kf, k4, kk⟩ := h
  refine ⟨_, rfl, c.r, c.dx, _, rfl, h.ins, n_Reader_next_name, _, rfl, c, M, j, d, ss, rs, es, cs, t, rfl, h, ht, kf, fun hb => ?_⟩
  obtain ⟨b, eb, ev⟩ := name_of hb
  refine ⟨_, rfl, c.r, c.dx, _, rfl, h.ins, n_Reader_want, ?_⟩
  refine ⟨_, rfl, q, _, rfl, .inl (SqL.of hq), _, _, rfl, rfl, ?_⟩
  refine ⟨_, _, _, rfl, c, M, j, d, ss, rs, es, cs, t, decide (((strL olds).length : Int) < 3), 4, rfl, rfl, rfl, h, ht, fun z => k4 hb ?_, fun z => ?_⟩
  · have := of_decide_eq_false z
    rw [strL_len] at this
    omega
  have h4 : olds.length < 3 := by
    have := of_decide_eq_true z
    rw [strL_len] at this
    omega
  refine ⟨_, rfl, c.r, c.dx, _, rfl, h.ins, n_Reader_take, _, rfl, c, M, j, d, ss, rs, es, cs, t, rfl, h, ht, fun H2 h2 n2 => ?_⟩
  rw [ev]
  exact kk b hb eb h4 H2 h2 n2
end
end Wk
set_option maxHeartbeats 2000000
namespace Wk
open PySem PySem.Spec PyProof.Rows L2
open VakepBase (PTok Toks PName tokEq here wrong next nextWord taken takeWord takeSign takeName)
open Vakepa (Raw RawPart Piece takeValues takePieces takeNat)
theorem Nx.mutNew {c : RdC} {M H M' H' : Hp} (a : Nx c M H M' H') {D : Addr} {o : HO} (hD : H D = none) : Nx c M H M' (upd H' D o) :=
  ⟨a.grow, a.new, fun x u hx n => by rw [upd_ne (ne_of_none hx hD)]; exact a.frame x u hx n, fun x hx => by
    by_cases e : x = D
    · subst e
      exact hD
    · rw [upd_ne e] at hx
      exact a.live x hx⟩
theorem mu_not {K : PySem.W.Frag} {c : RdC} {M H : Hp} {j d : Nat} {ss : List ASet} {rs : List RawPart} {es : List Nat} {cs : List PName} (h : RdAt K c M H j d ss rs es cs) {D : Addr} (hD : H D = none) : D ∉ c.mu := fun z => by
  obtain ⟨o, e⟩ := h.has z
  rw [hD] at e
  cases e
theorem taken_at {T : BTok} {t : PTok} {l : Toks} : taken T (t :: l) = if tokEq t.tok T = true then .ok l else .error ⟨3, t.place⟩ := rfl
theorem tokEq_last {t : BTok} {n : Nat} (h : tokEq t (.sign n) = true) : t ≠ .last := fun z => by rw [z] at h; cases h
theorem isName_last {t : BTok} (h : isName t = true) : t ≠ .last := fun z => by rw [z] at h; cases h
/-! ### settings -/
def settingR (ss : List ASet) (l : Toks) : Except VakepBase.Fault (ASet × Toks) := if 3 ≤ ss.length then .error ⟨4, here l⟩ else (takeName (l.drop 1)).bind fun x => if ss.any (fun s => s.name == x.1.name) = true then .error ⟨5, x.1.place⟩ else (takeSign 58 x.2).bind fun r => (takeValues (r.length + 1) [] r).map fun v => (⟨x.1.name, v.1⟩, v.2)
theorem takeSets_step (n : Nat) (ss : List ASet) (l : Toks) : Vakepa.takeSets (n + 1) ss l = if nextWord "set" l = true then (settingR ss l).bind fun s => Vakepa.takeSets n (ss ++ [s.1]) s.2 else .ok (ss, l) := by
  rw [Vakepa.takeSets]
  unfold settingR
  split
  · have e3 : Vakepa.SETS = 3 := rfl
    rw [e3]
    split
    · rfl
    · cases takeName (l.drop 1) with
      | error f => rfl
      | ok x =>
        show (if ss.any (fun s => s.name == x.1.name) = true then _ else _) = Except.bind (if ss.any (fun s => s.name == x.1.name) = true then _ else _) _
        split
        · rfl
        · cases takeSign 58 x.2 with
          | error f => rfl
          | ok r =>
            show Except.bind (takeValues (r.length + 1) [] r) _ = Except.bind (Except.map _ (takeValues (r.length + 1) [] r)) _
            cases takeValues (r.length + 1) [] r with
            | error f => rfl
            | ok v => rfl
  · rfl
/-- what is left of a setting's words, the last of them just read -/
def VI (ts : Toks) (R : Except VakepBase.Fault (List Bytes × Toks)) (vs : List Bytes) (i : Nat) : Prop := ∃ n, (ts.drop i).length ≤ n ∧ R = if next (.sign 44) (ts.drop i) = true then takeValues n vs ((ts.drop i).drop 1) else (takeSign 59 (ts.drop i)).map fun m => (vs, m)
theorem takeValues_at {n : Nat} {vs : List Bytes} {t : PTok} {l : Toks} : takeValues (n + 1) vs (t :: l) = (takeName (t :: l)).bind fun x => if 4 ≤ vs.length then .error ⟨4, x.1.place⟩ else if vs.contains x.1.name = true then .error ⟨5, x.1.place⟩ else if next (.sign 44) x.2 = true then takeValues n (vs ++ [x.1.name]) (x.2.drop 1) else (takeSign 59 x.2).map fun m => (vs ++ [x.1.name], m) := rfl
/-- a word is read: what takeValues says -/
theorem values_word {ts : Toks} {R : Except VakepBase.Fault (List Bytes × Toks)} {n j : Nat} {vs : List Bytes} {t : PTok} (ht : ts[j]? = some t) (hn : (ts.drop j).length < n) (hR : R = takeValues n vs (ts.drop j)) :
    (isName t.tok = false → R = .error ⟨3, t.place⟩) ∧ (isName t.tok = true → 4 ≤ vs.length → R = .error ⟨4, t.place⟩) ∧ (∀ b, isName t.tok = true → t.tok = .name b → vs.length < 4 → vs.contains b = true → R = .error ⟨5, t.place⟩) ∧
    (∀ b, isName t.tok = true → t.tok = .name b → vs.length < 4 → vs.contains b = false → VI ts R (vs ++ [b]) (j + 1)) := by
  obtain ⟨m, rfl⟩ : ∃ m, n = m + 1 := ⟨n - 1, by omega⟩
  rw [drop_tok ht, List.length_cons] at hn
  rw [drop_tok ht, takeValues_at] at hR
  refine ⟨fun h => ?_, fun h h4 => ?_, fun b h e h4 hc => ?_, fun b h e h4 hc => ⟨m, by omega, ?_⟩⟩
  · rw [hR, takeName_bad h]; rfl
  · obtain ⟨b, e, _⟩ := name_of h
    rw [hR, takeName_ok h e]
    show (if 4 ≤ vs.length then _ else _) = _
    rw [if_pos h4]
  · rw [hR, takeName_ok h e]
    show (if 4 ≤ vs.length then _ else if vs.contains b = true then _ else _) = _
    rw [if_neg (by omega), if_pos hc]
  · rw [hR, takeName_ok h e]
    show (if 4 ≤ vs.length then _ else if vs.contains b = true then _ else _) = _
    rw [if_neg (by omega), hc]
    rfl
theorem VI.more {ts : Toks} {R : Except VakepBase.Fault (List Bytes × Toks)} {vs : List Bytes} {i : Nat} {t : PTok} (h : VI ts R vs i) (ht : ts[i]? = some t) : (tokEq t.tok (.sign 44) = true → ∃ n, (ts.drop (i + 1)).length < n ∧ R = takeValues n vs (ts.drop (i + 1))) ∧
    (tokEq t.tok (.sign 44) = false → tokEq t.tok (.sign 59) = false → R = .error ⟨3, t.place⟩) ∧ (tokEq t.tok (.sign 44) = false → tokEq t.tok (.sign 59) = true → R = .ok (vs, ts.drop (i + 1))) := by
  obtain ⟨n, hn, hR⟩ := h
  rw [drop_tok ht] at hn hR
  rw [List.length_cons] at hn
  have e1 : next (.sign 44) (t :: ts.drop (i + 1)) = tokEq t.tok (.sign 44) := rfl
  have e2 : takeSign 59 (t :: ts.drop (i + 1)) = if tokEq t.tok (.sign 59) = true then .ok (ts.drop (i + 1)) else .error ⟨3, t.place⟩ := rfl
  rw [e1, e2] at hR
  refine ⟨fun h => ⟨n, by omega, ?_⟩, fun h h2 => ?_, fun h h2 => ?_⟩
  · rw [hR, if_pos h]; rfl
  · rw [hR, h, h2]; rfl
  · rw [hR, h, h2]; rfl
theorem any_names (ss : List ASet) (b : Bytes) : (ss.map (·.name)).contains b = ss.any fun s => s.name == b := by
  induction ss with
  | nil => rfl
  | cons a r ih =>
    rw [List.map_cons, List.contains_cons, ih, List.any_cons]
    congr 1
    exact beq_swap _ _
/-! ### pieces, calls, says -/
def PI_ (ss : List ASet) (ts : Toks) (R : Except VakepBase.Fault (List Piece × Toks)) (bs : List Bytes) (i : Nat) : Prop := ∃ n, (ts.drop i).length ≤ n ∧ R = if next (.sign 43) (ts.drop i) = true then takePieces ss n (bs.map (Vakepa.pieceOf ss)) ((ts.drop i).drop 1) else (takeSign 59 (ts.drop i)).map fun m => (bs.map (Vakepa.pieceOf ss), m)
theorem takePieces_at {ss : List ASet} {n : Nat} {ps : List Piece} {t : PTok} {l : Toks} : takePieces ss (n + 1) ps (t :: l) = (takeName (t :: l)).bind fun x => if 3 ≤ ps.length then .error ⟨4, x.1.place⟩ else if next (.sign 43) x.2 = true then takePieces ss n (ps ++ [Vakepa.pieceOf ss x.1.name]) (x.2.drop 1) else (takeSign 59 x.2).map fun m => (ps ++ [Vakepa.pieceOf ss x.1.name], m) := rfl
theorem pieces_word' {ss : List ASet} {ts : Toks} {R : Except VakepBase.Fault (List Piece × Toks)} {n j : Nat} {bs : List Bytes} {t : PTok} (ht : ts[j]? = some t) (hn : (ts.drop j).length < n) (hR : R = takePieces ss n (bs.map (Vakepa.pieceOf ss)) (ts.drop j)) :
    (isName t.tok = false → R = .error ⟨3, t.place⟩) ∧ (isName t.tok = true → 3 ≤ bs.length → R = .error ⟨4, t.place⟩) ∧ (∀ b, isName t.tok = true → t.tok = .name b → bs.length < 3 → PI_ ss ts R (bs ++ [b]) (j + 1)) := by
  obtain ⟨m, rfl⟩ : ∃ m, n = m + 1 := ⟨n - 1, by omega⟩
  rw [drop_tok ht, List.length_cons] at hn
  rw [drop_tok ht, takePieces_at, List.length_map] at hR
  refine ⟨fun h => ?_, fun h h4 => ?_, fun b h e h4 => ⟨m, by omega, ?_⟩⟩
  · rw [hR, takeName_bad h]; rfl
  · obtain ⟨b, e, _⟩ := name_of h
    rw [hR, takeName_ok h e]
    show (if 3 ≤ bs.length then _ else _) = _
    rw [if_pos h4]
  · rw [hR, takeName_ok h e, List.map_append]
    show (if 3 ≤ bs.length then _ else _) = _
    rw [if_neg (by omega)]
    rfl
theorem PI_.more {ss : List ASet} {ts : Toks} {R : Except VakepBase.Fault (List Piece × Toks)} {bs : List Bytes} {i : Nat} {t : PTok} (h : PI_ ss ts R bs i) (ht : ts[i]? = some t) : (tokEq t.tok (.sign 43) = true → ∃ n, (ts.drop (i + 1)).length < n ∧ R = takePieces ss n (bs.map (Vakepa.pieceOf ss)) (ts.drop (i + 1))) ∧
    (tokEq t.tok (.sign 43) = false → tokEq t.tok (.sign 59) = false → R = .error ⟨3, t.place⟩) ∧ (tokEq t.tok (.sign 43) = false → tokEq t.tok (.sign 59) = true → R = .ok (bs.map (Vakepa.pieceOf ss), ts.drop (i + 1))) := by
  obtain ⟨n, hn, hR⟩ := h
  rw [drop_tok ht] at hn hR
  rw [List.length_cons] at hn
  have e1 : next (.sign 43) (t :: ts.drop (i + 1)) = tokEq t.tok (.sign 43) := rfl
  have e2 : takeSign 59 (t :: ts.drop (i + 1)) = if tokEq t.tok (.sign 59) = true then .ok (ts.drop (i + 1)) else .error ⟨3, t.place⟩ := rfl
  rw [e1, e2] at hR
  refine ⟨fun h => ⟨n, by omega, ?_⟩, fun h h2 => ?_, fun h h2 => ?_⟩
  · rw [hR, if_pos h]; rfl
  · rw [hR, h, h2]; rfl
  · rw [hR, h, h2]; rfl
theorem showP_of (ss : List ASet) (b : Bytes) : showP ss (Vakepa.pieceOf ss b) = b := by
  unfold Vakepa.pieceOf
  cases h : ss.findIdx? (fun s => s.name == b) with
  | none => rfl
  | some k =>
    obtain ⟨hk, h1, _⟩ := List.findIdx?_eq_some_iff_getElem.mp h
    show ((ss[k]?).map fun s => s.name).getD [] = b
    rw [List.getElem?_eq_getElem hk]
    exact eq_of_beq h1
theorem showP_all (ss : List ASet) (bs : List Bytes) : (bs.map (Vakepa.pieceOf ss)).map (showP ss) = bs := by
  rw [List.map_map]
  have : (showP ss ∘ Vakepa.pieceOf ss) = id := funext (showP_of ss)
  rw [this, List.map_id]
def callR (l : Toks) : Except VakepBase.Fault (PName × Toks) := (takeName l).bind fun p => (takeSign 59 p.2).map fun r => (p.1, r)
def sayR (l : Toks) : Except VakepBase.Fault (Nat × Toks) := (takeNat 99 l).bind fun k => (takeSign 59 k.2).map fun r => (k.1, r)
section
variable {P : Program} {w : World} {K : PySem.W.Frag} {mg : Str → Option Value} {base : Heap}
def spSetting (K : PySem.W.Frag) : Sp := Sp1 fun s H Q E => ∃ c M j d ss es cs t, s = .ref c.r ∧ RdAt K c M H j d ss [] es cs ∧ c.ts[j]? = some t ∧ t.tok ≠ .last ∧ (∀ f, settingR ss (c.ts.drop j) = .error f → FaultR K c E M f) ∧
  (∀ s j' u, settingR ss (c.ts.drop j) = .ok (s, c.ts.drop j') → c.ts[j']? = some u → j < j' → ss.length < 3 → ∀ M' H', RdAt K c M' H' j' d (ss ++ [s]) [] es cs → Nx c M H M' H' → Q .non H')
theorem sc_Reader_setting : FnScope ["self", "name", "words"] ["self"] (defScope s_Reader_setting) := ⟨rfl, rfl, rfl, by decide +kernel, rfl, by decide +kernel, by decide +kernel⟩
theorem ok_Reader_setting (T : Tx K mg) : FK P w K mg base (L2.CX P w) (6) (He.ma K (He.ga K "Reader") "setting") ["self"] (spSetting K) := by
  obtain ⟨fd, F⟩ := T.f_Reader_setting
  obtain ⟨fd0, G0, b0, k0⟩ := ok_Reader_goes_on (P := P) (w := w) (base := base) T
  obtain ⟨fd1, G1, b1, k1⟩ := ok_Reader_new_word (P := P) (w := w) (base := base) T
  obtain ⟨fd2, G2, b2, k2⟩ := ok_Reader_read (P := P) (w := w) (base := base) T
  obtain ⟨fd3, G3, b3, k3⟩ := ok_Reader_read_new_name (P := P) (w := w) (base := base) T
  obtain ⟨fd4, G4, b4, k4⟩ := ok_Program_setting_names (P := P) (w := w) (base := base) T
  obtain ⟨fd5, G5, b5, k5⟩ := ok_Reader_begin (P := P) (w := w) (base := base) T
  refine ⟨fd, F.ok sc_Reader_setting (fun vs H Q E h => Sp1.len h) (fun cdv A outer s H vs Q E hr h => ?body), F.bindsN (fun _ _ _ _ _ _ us hl => match us, hl with | [_], _ => rfl), F.kp⟩
  refine ⟨_, (pss_cons (ps_expr (pe_meth (pv 0) T.c_Reader T.me_Reader_begin G5 (hr.mono (by first | decide | omega)) b5 .nil passR (pa_cons (pe_fld (pe_fld (pv 0) rfl) rfl) (pa_cons (C8.pe_gc rfl T.k_MOST_SETTINGS) pa_nil))))
      (pss_cons (ps_set (i := 1) sc_Reader_setting.nd rfl (.inl rfl) (pe_meth (pv 0) T.c_Reader T.me_Reader_read_new_name G3 (hr.mono (by first | decide | omega)) b3 .nil passR (pa_cons (pe_meth0 (pe_fld (pv 0) rfl) T.c_Program T.me_Program_setting_names G4 (hr.mono (by first | decide | omega)) b4 .nil pass0) pa_nil)) (hf := (.inr rfl)))
      (pss_cons (ps_expr (pe_meth (pv 0) T.c_Reader T.me_Reader_read G2 (hr.mono (by first | decide | omega)) b2 .nil passR (pa_cons (C8.pe_gc rfl T.k_SIGN) (pa_cons pe_str pa_nil))))
      (pss_cons (ps_set (i := 2) sc_Reader_setting.nd rfl (.inl rfl) (pe_lst (pa_cons (pe_meth (pv 0) T.c_Reader T.me_Reader_new_word G1 (hr.mono (by first | decide | omega)) b1 .nil passR (pa_cons (pe_lst pa_nil) pa_nil)) pa_nil)) (hf := (.inr rfl)))
      (pss_cons (ps_while (passes_of rfl) (pt_val (pe_meth (pv 0) T.c_Reader T.me_Reader_goes_on G0 (hr.mono (by first | decide | omega)) b0 .nil passR (pa_cons pe_str pa_nil))) (pss_one (ps_expr (pe_bm PySem.F.plainAttrs_list PySem.F.slot_list_append PySem.F.type_list_append mt_append (pv 2) (pa_cons (pe_meth (pv 0) T.c_Reader T.me_Reader_new_word G1 (hr.mono (by first | decide | omega)) b1 .nil passR (pa_cons (pv 2) pa_nil)) pa_nil)))))
      (pss_one (ps_expr (pe_bm PySem.F.plainAttrs_list PySem.F.slot_list_append PySem.F.type_list_append mt_append (pe_fld (pe_fld (pv 0) rfl) rfl) (pa_cons (pe_tup (pa_cons (pv 1) (pa_cons (pv 2) pa_nil))) pa_nil))))))))), ?_⟩
  obtain ⟨_, rfl, c, M, j, d, ss, es, cs, t, rfl, h, ht, hnl, kf, kk⟩ := h
  obtain ⟨_, u, hu⟩ := h.tk.next ht hnl
  have e0 : settingR ss (c.ts.drop j) = if 3 ≤ ss.length then .error ⟨4, t.place⟩ else (takeName (u :: c.ts.drop (j + 2))).bind fun x => if ss.any (fun s => s.name == x.1.name) = true then .error ⟨5, x.1.place⟩ else (takeSign 58 x.2).bind fun r => (takeValues (r.length + 1) [] r).map fun v => (⟨x.1.name, v.1⟩, v.2) := by
    rw [drop_tok ht]
    unfold settingR
    rw [List.drop_succ_cons, List.drop_zero, drop_tok hu]
    rfl
  rw [e0] at kf kk
  obtain ⟨vs, hvs, hps⟩ := h.sl
  have hvl : vs.length = ss.length := Paired.length hps
  refine ⟨_, rfl, c.r, c.dx, _, rfl, h.ins, n_Reader_begin, ?_⟩
  refine ⟨_, rfl, c.r, _, c.dx, _, _, rfl, h.ins, T.c_Reader, T.na_Reader_program, l_Reader_program, c.p, _, c.dp, _, _, rfl, h.sub _ _ h.pg, T.c_Program, T.na_Program_settings, l_Program_settings, ?_⟩
  refine ⟨_, _, _, rfl, c, M, j, d, ss, [], es, cs, t, c.ls, vs, 3, rfl, rfl, rfl, hvs, h, ht, fun h3 => kf _ (by rw [if_pos (by omega)]), fun h3 H1 h1 n1 => ?_⟩
  have h3' : ¬ 3 ≤ ss.length := by omega
  rw [if_neg h3'] at kf kk
  -- the name
  refine ⟨_, rfl, c.r, c.dx, _, rfl, h1.ins, n_Reader_read_new_name, ?_⟩
  refine ⟨_, rfl, c.r, _, c.dx, _, _, rfl, h1.ins, T.c_Reader, T.na_Reader_program, l_Reader_program, c.p, c.dp, _, rfl, h1.sub _ _ h1.pg, n_Program_setting_names, _, rfl, c.p, ss, rfl, h1.sets, by omega, fun q H2 hq e2 hq2 => ?_⟩
  have h2 := h1.same' e2
  have n2 := n1.trans (Nx.of e2)
  refine ⟨_, _, rfl, c, M, j + 1, d, ss, [], es, cs, u, q, ss.map (·.name), rfl, rfl, hq2, h2, hu, fun hb => kf _ (by rw [takeName_bad hb]; rfl), fun b hb eb hc => kf _ (by
      rw [takeName_ok hb eb]
      show (if ss.any (fun s => s.name == b) = true then _ else _) = _
      rw [← any_names, if_pos hc]), fun b hb eb hc H3 h3 n3 => ?_⟩
  have n3 := n2.trans n3
  rw [takeName_ok hb eb] at kf kk
  obtain ⟨_, u2, hu2⟩ := h.tk.next hu (isName_last hb)
  have e1 : (Except.bind (ε := VakepBase.Fault) (Except.ok ((⟨u.place, b⟩ : PName), c.ts.drop (j + 2))) fun (x : PName × Toks) => if ss.any (fun s => s.name == x.1.name) = true then Except.error ⟨5, x.1.place⟩ else (takeSign 58 x.2).bind fun r => (takeValues (r.length + 1) [] r).map fun v => ((⟨x.1.name, v.1⟩, v.2) : ASet × Toks)) =
      (if tokEq u2.tok (.sign 58) = true then (takeValues ((c.ts.drop (j + 3)).length + 1) [] (c.ts.drop (j + 3))).map fun v => ((⟨b, v.1⟩, v.2) : ASet × Toks) else .error ⟨3, u2.place⟩) := by
    show (if ss.any (fun s => s.name == b) = true then _ else _) = _
    rw [← any_names, hc, if_neg Bool.false_ne_true, drop_tok hu2]
    show Except.bind (if tokEq u2.tok (.sign 58) = true then _ else _) _ = _
    split <;> rfl
  rw [e1] at kf kk
  -- the colon
  have e58 : comesB u2.tok "sign" ":" = tokEq u2.tok (.sign 58) := comes_sign u2.tok 58
  refine ⟨_, rfl, c.r, c.dx, _, rfl, h3.ins, n_Reader_read, _, _, _, rfl, c, M, j + 2, d, ss, [], es, cs, u2, "sign", ":", rfl, rfl, rfl, h3, hu2, by decide +kernel, by decide +kernel, fun z => kf _ (by rw [← e58, z]; rfl), fun z H4 h4 n4 => ?_⟩
  rw [e58] at z
  rw [if_pos z] at kf kk
  have n4 := n3.trans n4
  obtain ⟨_, u3, hu3⟩ := h.tk.next hu2 (tokEq_last z)
  generalize hR : takeValues ((c.ts.drop (j + 3)).length + 1) [] (c.ts.drop (j + 3)) = R at kf kk
  obtain ⟨v3, v4, v5, vk⟩ := values_word (R := R) hu3 (Nat.lt_succ_self _) hR.symm
  -- the first word
  refine ⟨_, rfl, c.r, c.dx, _, rfl, h4.ins, n_Reader_new_word, ?_⟩
  refine ⟨by show 0 ≤ sizeLine; decide, fun q0 hq0 => ?_⟩
  have e5 : Same H4 (upd H4 q0 (.lst [])) := Same.new hq0
  refine ⟨_, _, rfl, c, M, j + 3, d, ss, [], es, cs, u3, q0, [], rfl, rfl, upd_same, h4.same' e5, hu3, fun hb => kf _ (by rw [v3 hb]; rfl), fun hb h4 => absurd h4 (by decide), fun b' hb' eb' _ hc' => absurd hc' Bool.false_ne_true, fun b' hb' eb' _ hc' H6 h6 n6 => ?_⟩
  have n6 := (n4.trans (Nx.of e5)).trans n6
  have vi := vk b' hb' eb' (by decide) rfl
  obtain ⟨_, u4, hu4⟩ := h.tk.next hu3 (isName_last hb')
  refine ⟨by show 1 ≤ sizeLine; decide, fun D hD => ?_⟩
  have h7 := h6.same' (Same.new (o := HO.lst [.str (S b')]) hD)
  have n7 := n6.trans (Nx.of (Same.new (o := HO.lst [.str (S b')]) hD))
  have hDM : M D = none := gone h6.sub hD
  have hDmu : D ∉ c.mu := mu_not h6 hD
  have hDH : H D = none := n6.live D hD
  have hMM : M D = none := hDM
  refine ⟨fun m σ H' => ∃ i ws u', σ = [some (.ref c.r), some (.str (S b)), some (.ref D)] ∧ c.ts[i]? = some u' ∧ j < i ∧ RdAt K c M H' i d ss [] es cs ∧ Nx c M H M H' ∧ H' D = some (.lst (strL ws)) ∧ ws.length ≤ 4 ∧ VI c.ts R ws i ∧ m = c.ts.length - i,
    ⟨_, j + 4, [b'], u4, rfl, hu4, by omega, h7, n7, upd_same, by show 1 ≤ 4; decide, vi, rfl⟩, ?_⟩
  rintro m σ H8 ⟨i, ws, u', rfl, hu', hji, h8, n8, hD8, hw4, vi, rfl⟩
  have hil : i < c.ts.length := (List.getElem?_eq_some_iff.mp hu').1
  obtain ⟨w1, w2, w3⟩ := vi.more hu'
  refine ⟨_, rfl, c.r, c.dx, _, rfl, h8.ins, n_Reader_goes_on, _, _, rfl, c, M, i, d, ss, [], es, cs, u', 44, rfl, rfl, by decide, h8, hu', fun hb H9 h9 n9 => ?_, fun hb hb2 => kf _ (by rw [w2 hb hb2]; rfl), fun hb hb2 H9 h9 n9 => ?_⟩
  · obtain ⟨n, hn, hR⟩ := w1 hb
    obtain ⟨_, u5, hu5⟩ := h.tk.next hu' (tokEq_last hb)
    obtain ⟨v3, v4, v5, vk⟩ := values_word (R := R) hu5 hn hR
    have hD9 : H9 D = some (.lst (strL ws)) := n9.frame D _ hD8 hDmu
    have n9' := n8.trans n9
    refine ⟨_, rfl, fun σ' H' => ∃ i' ws u', σ' = [some (.ref c.r), some (.str (S b)), some (.ref D)] ∧ c.ts[i']? = some u' ∧ i < i' ∧ RdAt K c M H' i' d ss [] es cs ∧ Nx c M H M H' ∧ H' D = some (.lst (strL ws)) ∧ ws.length ≤ 4 ∧ VI c.ts R ws i', ?_, ?_⟩
    · rintro σ' H' ⟨i', ws, u', h1, h2, h3, h4, h5, h6, h7, h8⟩
      exact ⟨_, by omega, i', ws, u', h1, h2, by omega, h4, h5, h6, h7, h8, rfl⟩
    · refine ⟨_, rfl, .inl ⟨rfl, _, SqL.of hD9⟩, ?_⟩
      refine ⟨_, rfl, c.r, c.dx, _, rfl, h9.ins, n_Reader_new_word, _, rfl, _, _, rfl, c, M, i + 1, d, ss, [], es, cs, u5, D, ws, rfl, rfl, hD9, h9, hu5, fun hb => kf _ (by rw [v3 hb]; rfl), fun hb h4 => kf _ (by rw [v4 hb h4]; rfl), fun b' hb' eb' h4 hc' => kf _ (by rw [v5 b' hb' eb' h4 hc']; rfl), fun b' hb' eb' h4 hc' H10 h10 n10 => ?_⟩
      have hD10 : H10 D = some (.lst (strL ws)) := n10.frame D _ hD9 hDmu
      have n10' := n9'.trans n10
      obtain ⟨_, u6, hu6⟩ := h.tk.next hu5 (isName_last hb')
      refine ⟨D, strL ws, _, rfl, rfl, hD10, szl (by rw [strL_len]; omega), ?_⟩
      have es2 : strL ws ++ [V.str (S b')] = strL (ws ++ [b']) := by unfold strL; rw [List.map_append]; rfl
      rw [es2]
      exact ⟨i + 2, ws ++ [b'], u6, rfl, hu6, by omega, h10.mutD hD10 hDM hDmu (ne_of_none h.ff hDH).symm, n10'.mutNew hDH, upd_same, by rw [List.length_append]; show ws.length + 1 ≤ 4; omega, vk b' hb' eb' h4 hc'⟩
  · have hD9 : H9 D = some (.lst (strL ws)) := n9.frame D _ hD8 hDmu
    have n9' := n8.trans n9
    obtain ⟨_, u5, hu5⟩ := h.tk.next hu' (tokEq_last hb2)
    have hok := w3 hb hb2
    rw [hok] at kk
    obtain ⟨vs9, hvs9, hps9⟩ := h9.sl
    have hvl9 : vs9.length = ss.length := Paired.length hps9
    refine ⟨_, rfl, ?_⟩
    refine ⟨_, rfl, c.r, _, c.dx, _, _, rfl, h9.ins, T.c_Reader, T.na_Reader_program, l_Reader_program, c.p, _, c.dp, _, _, rfl, h9.sub _ _ h9.pg, T.c_Program, T.na_Program_settings, l_Program_settings, .inl ⟨rfl, _, SqL.of hvs9⟩, ?_⟩
    refine ⟨_, rfl, _, rfl, by show 2 ≤ sizeLine; decide, fun tt htt => ?_⟩
    have e10 : Same H9 (upd H9 tt (.tup [.str (S b), .ref D])) := Same.new htt
    have h10 := h9.same' e10
    have n10 := n9'.trans (Nx.of e10)
    have httM : M tt = none := gone h9.sub htt
    have httmu := mu_not h9 htt
    have httH : H tt = none := n9'.live tt htt
    have hDt : D ≠ tt := ne_of_none hD9 htt
    obtain ⟨h11, g11⟩ := h10.fix (e10 _ _ hD9) hDM hDmu
    have n11 := n10.fix hDH hDM (o := HO.lst (strL ws))
    obtain ⟨h12, g12⟩ := h11.fix (t := tt) upd_same (by rw [upd_ne hDt.symm]; exact httM) httmu
    have n12 := n11.fix (o := HO.tup [.str (S b), .ref D]) httH (by rw [upd_ne hDt.symm]; exact httM)
    refine ⟨c.ls, vs9, .ref tt, rfl, rfl, e10 _ _ hvs9, szl (by omega), ?_⟩
    have h13 := h12.addSet (e10 _ _ hvs9) (v := .ref tt) (s := ⟨b, ws⟩) ⟨tt, D, rfl, upd_same, by rw [upd_ne hDt, upd_same]⟩
    exact kk ⟨b, ws⟩ (i + 1) u5 rfl hu5 (by omega) (by omega) _ _ h13 (n12.mut mu_ls)
def spRdMake (K : PySem.W.Frag) : Sp := Sp1 fun s H Q E => ∃ c M j d ss rs es cs t n, s = .ref c.r ∧ RdAt K c M H j d ss rs es cs ∧ c.ts[j]? = some t ∧ (c.ts.drop j).length < n ∧ (∀ f, takePieces ss n [] (c.ts.drop j) = .error f → FaultR K c E M f) ∧
  (∀ ps j' u, takePieces ss n [] (c.ts.drop j) = .ok (ps, c.ts.drop j') → c.ts[j']? = some u → j < j' → ∀ M' H' q, RdAt K c M' H' j' d ss rs es cs → Nx c M H M' H' → (∃ l, M' q = some (.tup [.str "make", .ref l]) ∧ M' l = some (.lst (strL (ps.map (showP ss))))) → Q (.ref q) H')
theorem sc_Reader_make : FnScope ["self", "pieces"] ["self"] (defScope s_Reader_make) := ⟨rfl, rfl, rfl, by decide +kernel, rfl, by decide +kernel, by decide +kernel⟩
theorem ok_Reader_make (T : Tx K mg) : FK P w K mg base (L2.CX P w) (6) (He.ma K (He.ga K "Reader") "make") ["self"] (spRdMake K) := by
  obtain ⟨fd, F⟩ := T.f_Reader_make
  obtain ⟨fd0, G0, b0, k0⟩ := ok_Reader_goes_on (P := P) (w := w) (base := base) T
  obtain ⟨fd1, G1, b1, k1⟩ := ok_Reader_piece (P := P) (w := w) (base := base) T
  refine ⟨fd, F.ok sc_Reader_make (fun vs H Q E h => Sp1.len h) (fun cdv A outer s H vs Q E hr h => ?body), F.bindsN (fun _ _ _ _ _ _ us hl => match us, hl with | [_], _ => rfl), F.kp⟩
  refine ⟨_, (pss_cons (ps_set (i := 1) sc_Reader_make.nd rfl (.inl rfl) (pe_lst (pa_cons (pe_meth (pv 0) T.c_Reader T.me_Reader_piece G1 (hr.mono (by first | decide | omega)) b1 .nil passR (pa_cons (pe_lst pa_nil) pa_nil)) pa_nil)) (hf := (.inr rfl)))
      (pss_cons (ps_while (passes_of rfl) (pt_val (pe_meth (pv 0) T.c_Reader T.me_Reader_goes_on G0 (hr.mono (by first | decide | omega)) b0 .nil passR (pa_cons pe_str pa_nil))) (pss_one (ps_expr (pe_bm PySem.F.plainAttrs_list PySem.F.slot_list_append PySem.F.type_list_append mt_append (pv 1) (pa_cons (pe_meth (pv 0) T.c_Reader T.me_Reader_piece G1 (hr.mono (by first | decide | omega)) b1 .nil passR (pa_cons (pv 1) pa_nil)) pa_nil)))))
      (pss_one (ps_ret (pe_tup (pa_cons (C8.pe_gc rfl T.k_MAKE) (pa_cons (pv 1) pa_nil))))))), ?_⟩
  obtain ⟨_, rfl, c, M, j, d, ss, rs, es, cs, t, n0, rfl, h, ht, hn0, kf, kk⟩ := h
  generalize hR : takePieces ss n0 [] (c.ts.drop j) = R at kf kk
  obtain ⟨v3, v4, vk⟩ := pieces_word' (ss := ss) (R := R) (bs := []) ht hn0 hR.symm
  refine ⟨_, rfl, c.r, c.dx, _, rfl, h.ins, n_Reader_piece, ?_⟩
  refine ⟨by show 0 ≤ sizeLine; decide, fun q0 hq0 => ?_⟩
  have e5 : Same H (upd H q0 (.lst [])) := Same.new hq0
  refine ⟨_, _, rfl, c, M, j, d, ss, rs, es, cs, t, q0, [], rfl, rfl, upd_same, h.same' e5, ht, fun hb => kf _ (v3 hb), fun hb h4 => absurd h4 (by decide), fun b' hb' eb' _ H6 h6 n6 => ?_⟩
  have n6 := (Nx.of (c := c) (M := M) e5).trans n6
  have vi := vk b' hb' eb' (by decide)
  obtain ⟨_, u4, hu4⟩ := h.tk.next ht (isName_last hb')
  refine ⟨by show 1 ≤ sizeLine; decide, fun D hD => ?_⟩
  have h7 := h6.same' (Same.new (o := HO.lst [.str (S b')]) hD)
  have n7 := n6.trans (Nx.of (Same.new (o := HO.lst [.str (S b')]) hD))
  have hDM : M D = none := gone h6.sub hD
  have hDmu : D ∉ c.mu := mu_not h6 hD
  have hDH : H D = none := n6.live D hD
  refine ⟨fun m σ H' => ∃ i ws u', σ = [some (.ref c.r), some (.ref D)] ∧ c.ts[i]? = some u' ∧ j < i ∧ RdAt K c M H' i d ss rs es cs ∧ Nx c M H M H' ∧ H' D = some (.lst (strL ws)) ∧ ws.length ≤ 3 ∧ PI_ ss c.ts R ws i ∧ m = c.ts.length - i,
    ⟨_, j + 1, [b'], u4, rfl, hu4, by omega, h7, n7, upd_same, by show 1 ≤ 3; decide, vi, rfl⟩, ?_⟩
  rintro m σ H8 ⟨i, ws, u', rfl, hu', hji, h8, n8, hD8, hw4, vi, rfl⟩
  have hil : i < c.ts.length := (List.getElem?_eq_some_iff.mp hu').1
  obtain ⟨w1, w2, w3⟩ := vi.more hu'
  refine ⟨_, rfl, c.r, c.dx, _, rfl, h8.ins, n_Reader_goes_on, _, _, rfl, c, M, i, d, ss, rs, es, cs, u', 43, rfl, rfl, by decide, h8, hu', fun hb H9 h9 n9 => ?_, fun hb hb2 => kf _ (w2 hb hb2), fun hb hb2 H9 h9 n9 => ?_⟩
  · obtain ⟨n, hn, hR⟩ := w1 hb
    obtain ⟨_, u5, hu5⟩ := h.tk.next hu' (tokEq_last hb)
    obtain ⟨v3, v4, vk⟩ := pieces_word' (ss := ss) (R := R) hu5 hn hR
    have hD9 : H9 D = some (.lst (strL ws)) := n9.frame D _ hD8 hDmu
    have n9' := n8.trans n9
    refine ⟨_, rfl, fun σ' H' => ∃ i' ws u', σ' = [some (.ref c.r), some (.ref D)] ∧ c.ts[i']? = some u' ∧ i < i' ∧ RdAt K c M H' i' d ss rs es cs ∧ Nx c M H M H' ∧ H' D = some (.lst (strL ws)) ∧ ws.length ≤ 3 ∧ PI_ ss c.ts R ws i', ?_, ?_⟩
    · rintro σ' H' ⟨i', ws, u', h1, h2, h3, h4, h5, h6, h7, h8⟩
      exact ⟨_, by omega, i', ws, u', h1, h2, by omega, h4, h5, h6, h7, h8, rfl⟩
    · refine ⟨_, rfl, .inl ⟨rfl, _, SqL.of hD9⟩, ?_⟩
      refine ⟨_, rfl, c.r, c.dx, _, rfl, h9.ins, n_Reader_piece, _, rfl, _, _, rfl, c, M, i + 1, d, ss, rs, es, cs, u5, D, ws, rfl, rfl, hD9, h9, hu5, fun hb => kf _ (v3 hb), fun hb h4 => kf _ (v4 hb h4), fun b' hb' eb' h4 H10 h10 n10 => ?_⟩
      have hD10 : H10 D = some (.lst (strL ws)) := n10.frame D _ hD9 hDmu
      have n10' := n9'.trans n10
      obtain ⟨_, u6, hu6⟩ := h.tk.next hu5 (isName_last hb')
      refine ⟨D, strL ws, _, rfl, rfl, hD10, szl (by rw [strL_len]; omega), ?_⟩
      have es2 : strL ws ++ [V.str (S b')] = strL (ws ++ [b']) := by unfold strL; rw [List.map_append]; rfl
      rw [es2]
      exact ⟨i + 2, ws ++ [b'], u6, rfl, hu6, by omega, h10.mutD hD10 hDM hDmu (ne_of_none h.ff hDH).symm, n10'.mutNew hDH, upd_same, by rw [List.length_append]; show ws.length + 1 ≤ 3; omega, vk b' hb' eb' h4⟩
  · have hD9 : H9 D = some (.lst (strL ws)) := n9.frame D _ hD8 hDmu
    have n9' := n8.trans n9
    obtain ⟨_, u5, hu5⟩ := h.tk.next hu' (tokEq_last hb2)
    have hok := w3 hb hb2
    refine ⟨_, rfl, ?_⟩
    refine ⟨_, rfl, by show 2 ≤ sizeLine; decide, fun tt htt => ?_⟩
    have e10 : Same H9 (upd H9 tt (.tup [.str "make", .ref D])) := Same.new htt
    have h10 := h9.same' e10
    have n10 := n9'.trans (Nx.of e10)
    have httM : M tt = none := gone h9.sub htt
    have httmu := mu_not h9 htt
    have httH : H tt = none := n9'.live tt htt
    have hDt : D ≠ tt := ne_of_none hD9 htt
    obtain ⟨h11, g11⟩ := h10.fix (e10 _ _ hD9) hDM hDmu
    have n11 := n10.fix hDH hDM (o := HO.lst (strL ws))
    obtain ⟨h12, g12⟩ := h11.fix (t := tt) upd_same (by rw [upd_ne hDt.symm]; exact httM) httmu
    have n12 := n11.fix (o := HO.tup [.str "make", .ref D]) httH (by rw [upd_ne hDt.symm]; exact httM)
    exact kk (ws.map (Vakepa.pieceOf ss)) (i + 1) u5 hok hu5 (by omega) _ _ tt h12 n12 ⟨D, upd_same, by rw [upd_ne hDt, upd_same, showP_all]⟩
def spRdCall (K : PySem.W.Frag) : Sp := Sp1 fun s H Q E => ∃ c M j d ss rs es cs t, s = .ref c.r ∧ RdAt K c M H j d ss rs es cs ∧ c.ts[j]? = some t ∧ cs.length ≤ 10000 ∧ (∀ f, callR (c.ts.drop j) = .error f → FaultR K c E M f) ∧
  (∀ p j' u, callR (c.ts.drop j) = .ok (p, c.ts.drop j') → c.ts[j']? = some u → j < j' → ∀ M' H' q, RdAt K c M' H' j' d ss rs es (cs ++ [p]) → Nx c M H M' H' → M' q = some (.tup [.str "call", .str (S p.name)]) → Q (.ref q) H')
theorem sc_Reader_call : FnScope ["self", "place", "name"] ["self"] (defScope s_Reader_call) := ⟨rfl, rfl, rfl, by decide +kernel, rfl, by decide +kernel, by decide +kernel⟩
theorem ok_Reader_call (T : Tx K mg) : FK P w K mg base (L2.CX P w) (6) (He.ma K (He.ga K "Reader") "call") ["self"] (spRdCall K) := by
  obtain ⟨fd, F⟩ := T.f_Reader_call
  obtain ⟨fd0, G0, b0, k0⟩ := ok_Reader_read (P := P) (w := w) (base := base) T
  obtain ⟨fd1, G1, b1, k1⟩ := ok_Reader_read_name (P := P) (w := w) (base := base) T
  obtain ⟨fd2, G2, b2, k2⟩ := ok_Reader_where (P := P) (w := w) (base := base) T
  refine ⟨fd, F.ok sc_Reader_call (fun vs H Q E h => Sp1.len h) (fun cdv A outer s H vs Q E hr h => ?body), F.bindsN (fun _ _ _ _ _ _ us hl => match us, hl with | [_], _ => rfl), F.kp⟩
  refine ⟨_, (pss_cons (ps_set (i := 1) sc_Reader_call.nd rfl (.inl rfl) (pe_meth0 (pv 0) T.c_Reader T.me_Reader_where G2 (hr.mono (by first | decide | omega)) b2 .nil pass0) (hf := (.inr rfl)))
      (pss_cons (ps_set (i := 2) sc_Reader_call.nd rfl (.inl rfl) (pe_meth0 (pv 0) T.c_Reader T.me_Reader_read_name G1 (hr.mono (by first | decide | omega)) b1 .nil passR) (hf := (.inr rfl)))
      (pss_cons (ps_expr (pe_bm PySem.F.plainAttrs_list PySem.F.slot_list_append PySem.F.type_list_append mt_append (pe_fld (pv 0) rfl) (pa_cons (pe_tup (pa_cons (pv 1) (pa_cons (pv 2) pa_nil))) pa_nil)))
      (pss_cons (ps_expr (pe_meth (pv 0) T.c_Reader T.me_Reader_read G0 (hr.mono (by first | decide | omega)) b0 .nil passR (pa_cons (C8.pe_gc rfl T.k_SIGN) (pa_cons pe_str pa_nil))))
      (pss_one (ps_ret (pe_tup (pa_cons (C8.pe_gc rfl T.k_CALL) (pa_cons (pv 2) pa_nil))))))))), ?_⟩
  obtain ⟨_, rfl, c, M, j, d, ss, rs, es, cs, t, rfl, h, ht, hcz, kf, kk⟩ := h
  rw [drop_tok ht] at kf kk
  refine ⟨_, rfl, c.r, c.dx, _, rfl, h.ins, n_Reader_where, _, rfl, c, M, j, d, ss, rs, es, cs, t, rfl, h, ht, ?_⟩
  refine ⟨_, rfl, c.r, c.dx, _, rfl, h.ins, n_Reader_read_name, _, rfl, c, M, j, d, ss, rs, es, cs, t, rfl, h, ht, fun hb => kf _ (by unfold callR; rw [takeName_bad hb]; rfl), fun hb H1 h1 n1 => ?_⟩
  obtain ⟨b, eb, ev⟩ := name_of hb
  rw [ev]
  obtain ⟨_, u, hu⟩ := h.tk.next ht (isName_last hb)
  have e0 : callR (t :: c.ts.drop (j + 1)) = if tokEq u.tok (.sign 59) = true then .ok (⟨t.place, b⟩, c.ts.drop (j + 2)) else .error ⟨3, u.place⟩ := by
    unfold callR
    rw [takeName_ok hb eb, drop_tok hu]
    show Except.map _ (if tokEq u.tok (.sign 59) = true then _ else _) = _
    split <;> rfl
  rw [e0] at kf kk
  obtain ⟨cv, hcv, hcp⟩ := h1.cl
  have hcl : cv.length = cs.length := Paired.length hcp
  refine ⟨_, rfl, c.r, _, c.dx, _, _, rfl, h1.ins, T.c_Reader, T.na_Reader_called, l_Reader_called, .inl ⟨rfl, _, SqL.of hcv⟩, ?_⟩
  refine ⟨_, rfl, _, rfl, by show 2 ≤ sizeLine; decide, fun tt htt => ?_⟩
  have e2 : Same H1 (upd H1 tt (.tup [.int ((t.place : Nat) : Int), .str (S b)])) := Same.new htt
  obtain ⟨h2, g2⟩ := (h1.same' e2).fix (t := tt) upd_same (gone h1.sub htt) (mu_not h1 htt)
  have n2 := (n1.trans (Nx.of e2)).fix (o := HO.tup [.int ((t.place : Nat) : Int), .str (S b)]) (n1.live tt htt) (gone h1.sub htt)
  have h3 := h2.addCall (e2 _ _ hcv) (v := .ref tt) (x := ⟨t.place, b⟩) ⟨tt, rfl, upd_same⟩
  refine ⟨c.cl, cv, .ref tt, rfl, rfl, e2 _ _ hcv, szl (by omega), ?_⟩
  have n3 := n2.mut (o := HO.lst (cv ++ [.ref tt])) mu_cl
  have e59 : comesB u.tok "sign" ";" = tokEq u.tok (.sign 59) := comes_sign u.tok 59
  refine ⟨_, rfl, c.r, c.dx, _, rfl, h3.ins, n_Reader_read, _, _, _, rfl, c, _, j + 1, d, ss, rs, es, _, u, "sign", ";", rfl, rfl, rfl, h3, hu, by decide +kernel, by decide +kernel, fun z => (kf _ (by rw [← e59, z]; rfl)).mono n3.grow, fun z H4 h4 n4 => ?_⟩
  rw [e59] at z
  rw [if_pos z] at kk
  obtain ⟨_, u2, hu2⟩ := h.tk.next hu (tokEq_last z)
  have n4 := n3.trans n4
  refine ⟨_, rfl, by show 2 ≤ sizeLine; decide, fun q hq => ?_⟩
  have e5 : Same H4 (upd H4 q (.tup [.str "call", .str (S b)])) := Same.new hq
  obtain ⟨h5, g5⟩ := (h4.same' e5).fix (t := q) upd_same (gone h4.sub hq) (mu_not h4 hq)
  have n5 := (n4.trans (Nx.of e5)).fix (o := HO.tup [.str "call", .str (S b)]) (n4.live q hq) (gone h4.sub hq)
  exact kk ⟨t.place, b⟩ (j + 2) u2 rfl hu2 (by omega) _ _ q h5 n5 upd_same
def spRdSay (K : PySem.W.Frag) : Sp := Sp1 fun s H Q E => ∃ c M j d ss rs es cs t, s = .ref c.r ∧ RdAt K c M H j d ss rs es cs ∧ c.ts[j]? = some t ∧ (∀ f, sayR (c.ts.drop j) = .error f → FaultR K c E M f) ∧
  (∀ k j' u, sayR (c.ts.drop j) = .ok (k, c.ts.drop j') → c.ts[j']? = some u → j < j' → ∀ M' H' q, RdAt K c M' H' j' d ss rs es cs → Nx c M H M' H' → M' q = some (.tup [.str "say", .int ((k : Nat) : Int)]) → Q (.ref q) H')
theorem sc_Reader_say : FnScope ["self", "size"] ["self"] (defScope s_Reader_say) := ⟨rfl, rfl, rfl, by decide +kernel, rfl, by decide +kernel, by decide +kernel⟩
theorem ok_Reader_say (T : Tx K mg) : FK P w K mg base (L2.CX P w) (6) (He.ma K (He.ga K "Reader") "say") ["self"] (spRdSay K) := by
  obtain ⟨fd, F⟩ := T.f_Reader_say
  obtain ⟨fd0, G0, b0, k0⟩ := ok_Reader_read (P := P) (w := w) (base := base) T
  obtain ⟨fd1, G1, b1, k1⟩ := ok_Reader_read_size (P := P) (w := w) (base := base) T
  refine ⟨fd, F.ok sc_Reader_say (fun vs H Q E h => Sp1.len h) (fun cdv A outer s H vs Q E hr h => ?body), F.bindsN (fun _ _ _ _ _ _ us hl => match us, hl with | [_], _ => rfl), F.kp⟩
  refine ⟨_, (pss_cons (ps_set (i := 1) sc_Reader_say.nd rfl (.inl rfl) (pe_meth0 (pv 0) T.c_Reader T.me_Reader_read_size G1 (hr.mono (by first | decide | omega)) b1 .nil passR) (hf := (.inr rfl)))
      (pss_cons (ps_expr (pe_meth (pv 0) T.c_Reader T.me_Reader_read G0 (hr.mono (by first | decide | omega)) b0 .nil passR (pa_cons (C8.pe_gc rfl T.k_SIGN) (pa_cons pe_str pa_nil))))
      (pss_one (ps_ret (pe_tup (pa_cons (C8.pe_gc rfl T.k_SAY) (pa_cons (pv 1) pa_nil))))))), ?_⟩
  obtain ⟨_, rfl, c, M, j, d, ss, rs, es, cs, t, rfl, h, ht, kf, kk⟩ := h
  refine ⟨_, rfl, c.r, c.dx, _, rfl, h.ins, n_Reader_read_size, _, rfl, c, M, j, d, ss, rs, es, cs, t, rfl, h, ht, fun f hf => kf _ (by unfold sayR; rw [hf]; rfl), fun n hn en n1 n99 H1 h1 nx1 => ?_⟩
  obtain ⟨_, u, hu⟩ := h.tk.next ht (by rw [en]; exact fun z => nomatch z)
  have e0 : sayR (c.ts.drop j) = if tokEq u.tok (.sign 59) = true then .ok (n, c.ts.drop (j + 2)) else .error ⟨3, u.place⟩ := by
    unfold sayR
    rw [hn, drop_tok hu]
    show Except.map _ (if tokEq u.tok (.sign 59) = true then _ else _) = _
    split <;> rfl
  rw [e0] at kf kk
  have e59 : comesB u.tok "sign" ";" = tokEq u.tok (.sign 59) := comes_sign u.tok 59
  refine ⟨_, rfl, c.r, c.dx, _, rfl, h1.ins, n_Reader_read, _, _, _, rfl, c, M, j + 1, d, ss, rs, es, cs, u, "sign", ";", rfl, rfl, rfl, h1, hu, by decide +kernel, by decide +kernel, fun z => kf _ (by rw [← e59, z]; rfl), fun z H4 h4 n4 => ?_⟩
  rw [e59] at z
  rw [if_pos z] at kk
  obtain ⟨_, u2, hu2⟩ := h.tk.next hu (tokEq_last z)
  have n4 := nx1.trans n4
  refine ⟨_, rfl, by show 2 ≤ sizeLine; decide, fun q hq => ?_⟩
  have e5 : Same H4 (upd H4 q (.tup [.str "say", .int ((n : Nat) : Int)])) := Same.new hq
  obtain ⟨h5, g5⟩ := (h4.same' e5).fix (t := q) upd_same (gone h4.sub hq) (mu_not h4 hq)
  have n5 := (n4.trans (Nx.of e5)).fix (o := HO.tup [.str "say", .int ((n : Nat) : Int)]) (n4.live q hq) (gone h4.sub hq)
  exact kk n (j + 2) u2 rfl hu2 (by omega) _ _ q h5 n5 upd_same
end
end Wk
set_option maxHeartbeats 2000000
namespace Wk
open PySem PySem.Spec PyProof.Rows L2
open VakepBase (PTok Toks PName tokEq here wrong next nextWord taken takeWord takeSign takeName word)
open Vakepa (Raw RawPart Piece takeValues takePieces takeNat takeStmts)
def when3 (ss : List ASet) (n d k : Nat) (l : Toks) : Except VakepBase.Fault (Raw × Toks) := (takeWord "is" l).bind fun r => (takeName r).bind fun v => match ((ss[k]?).map fun s => s.values).bind fun vs => vs.findIdx? fun y => y == v.1.name with
  | none => .error ⟨8, v.1.place⟩
  | some j => ((takeSign 123 v.2).bind fun r => takeStmts ss n (d + 1) r).map fun b => (.when_ k j b.1 .done, b.2)
def when2 (ss : List ASet) (n d : Nat) (l : Toks) : Except VakepBase.Fault (Raw × Toks) := (takeName l).bind fun x => match ss.findIdx? fun s => s.name == x.1.name with
  | none => .error ⟨8, x.1.place⟩
  | some k => when3 ss n d k x.2
def whenR (ss : List ASet) (n d : Nat) (l : Toks) : Except VakepBase.Fault (Raw × Toks) := (takeWord "when" l).bind fun r => if 3 ≤ d then .error ⟨4, here l⟩ else when2 ss n d r
def stmt1 (ss : List ASet) (n d : Nat) (l : Toks) : Except VakepBase.Fault (Raw × Toks) :=
  if nextWord "say" l = true then (sayR (l.drop 1)).map fun x => (.say x.1 .done, x.2)
  else if nextWord "call" l = true then (callR (l.drop 1)).map fun x => (.call x.1 .done, x.2)
  else if nextWord "make" l = true then (takePieces ss (l.length + 1) [] (l.drop 1)).map fun x => (.make x.1 .done, x.2)
  else whenR ss n d l
theorem takeStmts_step (ss : List ASet) (n d : Nat) (l : Toks) : takeStmts ss (n + 1) d l = if next (.sign 125) l = true then .ok (.done, l.drop 1) else (stmt1 ss n d l).bind fun s => (takeStmts ss n d s.2).map fun x => (appR s.1 x.1, x.2) := by
  rw [takeStmts]
  unfold stmt1
  split
  · rfl
  · split
    · unfold sayR
      have e : Vakepa.SIZE = 99 := rfl
      rw [e]
      cases takeNat 99 (l.drop 1) with
      | error f => rfl
      | ok k =>
        show (takeSign 59 k.2).bind _ = Except.bind (Except.map _ (Except.map _ (takeSign 59 k.2))) _
        cases takeSign 59 k.2 with
        | error f => rfl
        | ok r => rfl
    · split
      · unfold callR
        cases takeName (l.drop 1) with
        | error f => rfl
        | ok k =>
          show (takeSign 59 k.2).bind _ = Except.bind (Except.map _ (Except.map _ (takeSign 59 k.2))) _
          cases takeSign 59 k.2 with
          | error f => rfl
          | ok r => rfl
      · split
        · cases takePieces ss (l.length + 1) [] (l.drop 1) with
          | error f => rfl
          | ok k => rfl
        · unfold whenR when2 when3
          have e : Vakepa.DEEP = 3 := rfl
          rw [e]
          cases takeWord "when" l with
          | error f => rfl
          | ok r =>
            show (if 3 ≤ d then _ else _) = Except.bind (if 3 ≤ d then _ else _) _
            split
            · rfl
            · cases takeName r with
              | error f => rfl
              | ok x =>
                show (match ss.findIdx? fun s => s.name == x.1.name with | none => _ | some k => _) = Except.bind (match ss.findIdx? fun s => s.name == x.1.name with | none => _ | some k => _) _
                cases ss.findIdx? fun s => s.name == x.1.name with
                | none => rfl
                | some k =>
                  show (takeWord "is" x.2).bind _ = Except.bind ((takeWord "is" x.2).bind _) _
                  cases takeWord "is" x.2 with
                  | error f => rfl
                  | ok r =>
                    show (takeName r).bind _ = Except.bind ((takeName r).bind _) _
                    cases takeName r with
                    | error f => rfl
                    | ok v =>
                      show (match ((ss[k]?).map fun s => s.values).bind fun vs => vs.findIdx? fun y => y == v.1.name with | none => _ | some j => _) = Except.bind (match ((ss[k]?).map fun s => s.values).bind fun vs => vs.findIdx? fun y => y == v.1.name with | none => _ | some j => _) _
                      cases ((ss[k]?).map fun s => s.values).bind fun vs => vs.findIdx? fun y => y == v.1.name with
                      | none => rfl
                      | some j =>
                        show (takeSign 123 v.2).bind _ = Except.bind (Except.map _ ((takeSign 123 v.2).bind _)) _
                        cases takeSign 123 v.2 with
                        | error f => rfl
                        | ok r =>
                          show (takeStmts ss n (d + 1) r).bind _ = Except.bind (Except.map _ (takeStmts ss n (d + 1) r)) _
                          cases takeStmts ss n (d + 1) r with
                          | error f => rfl
                          | ok b => rfl
theorem tokEq_name {t : BTok} {b : Bytes} (h : tokEq t (.name b) = true) : t = .name b := by
  cases t with
  | name a => rw [eq_of_beq (show (a == b) = true from h)]
  | num k => cases h
  | last => cases h
  | sign m => cases h
theorem tokEq_name_last {t : BTok} {b : Bytes} (h : tokEq t (.name b) = true) : t ≠ .last := fun z => by rw [z] at h; cases h
/-- statements read so far -/
def SB (ss : List ASet) (ts : Toks) (R : Except VakepBase.Fault (Raw × Toks)) (d i : Nat) (acc : Raw) : Prop := ∃ m, (ts.drop i).length < m ∧ R = (takeStmts ss m d (ts.drop i)).map fun x => (appR acc x.1, x.2)
theorem SB.start {ss : List ASet} {ts : Toks} {d i n : Nat} (hn : (ts.drop i).length < n) : SB ss ts (takeStmts ss n d (ts.drop i)) d i .done := ⟨n, hn, by
  cases takeStmts ss n d (ts.drop i) <;> rfl⟩
theorem SB.at_ {ss : List ASet} {ts : Toks} {R : Except VakepBase.Fault (Raw × Toks)} {d i : Nat} {acc : Raw} {t : PTok} (h : SB ss ts R d i acc) (ht : ts[i]? = some t) : (tokEq t.tok (.sign 125) = true → R = .ok (acc, ts.drop (i + 1))) ∧
    (tokEq t.tok (.sign 125) = false → ∃ m, (ts.drop i).length ≤ m ∧ (∀ f, stmt1 ss m d (ts.drop i) = .error f → R = .error f) ∧ ∀ x i', stmt1 ss m d (ts.drop i) = .ok (x, ts.drop i') → i < i' → i' ≤ ts.length → SB ss ts R d i' (appR acc x)) := by
  obtain ⟨m, hm, hR⟩ := h
  obtain ⟨m, rfl⟩ : ∃ k, m = k + 1 := ⟨m - 1, by omega⟩
  have hi : i < ts.length := (List.getElem?_eq_some_iff.mp ht).1
  rw [takeStmts_step] at hR
  have e1 : next (.sign 125) (ts.drop i) = tokEq t.tok (.sign 125) := by rw [drop_tok ht]; rfl
  rw [e1] at hR
  refine ⟨fun h => ?_, fun h => ⟨m, by omega, fun f hf => ?_, fun x i' hx hi' hl => ⟨m, ?_, ?_⟩⟩⟩
  · rw [hR, if_pos h]
    show Except.ok (appR acc .done, (ts.drop i).drop 1) = _
    rw [appR_done, drop_tok ht]
    rfl
  · rw [hR, h, if_neg Bool.false_ne_true, hf]
    rfl
  · rw [List.length_drop] at hm ⊢
    omega
  · rw [hR, h, if_neg Bool.false_ne_true, hx]
    show Except.map _ (Except.map _ (takeStmts ss m d (ts.drop i'))) = _
    cases takeStmts ss m d (ts.drop i') with
    | error f => rfl
    | ok y =>
      show Except.ok (appR acc (appR x y.1), y.2) = Except.ok (appR (appR acc x) y.1, y.2)
      rw [appR_assoc]
theorem word_S (s : String) : S (word s) = S (word s) := rfl
section
variable {P : Program} {w : World} {K : PySem.W.Frag} {mg : Str → Option Value} {base : Heap}
/-- what a statement's promise says -/
def spRdWhen (K : PySem.W.Frag) (e : Nat) : Sp := Sp1 fun s H Q E => ∃ c M j d ss rs es cs t n, s = .ref c.r ∧ RdAt K c M H j d ss rs es cs ∧ c.ts[j]? = some t ∧ tokEq t.tok (.name (word "when")) = true ∧ d ≤ 3 ∧ 3 < d + e ∧ (c.ts.drop j).length ≤ n ∧ cs.length + (c.ts.length - j) ≤ 10000 ∧ ss.length < 1000 ∧
  (∀ f, whenR ss n d (c.ts.drop j) = .error f → FaultR K c E M f) ∧
  (∀ x j' u, whenR ss n d (c.ts.drop j) = .ok (x, c.ts.drop j') → c.ts[j']? = some u → j < j' → (callsR x).length + j ≤ j' → ∀ M' H' q, RdAt K c M' H' j' d ss rs es (cs ++ callsR x) → Nx c M H M' H' → RawV ss M' x [.ref q] → Q (.ref q) H')
def spStmt (K : PySem.W.Frag) (e : Nat) : Sp := Sp1 fun s H Q E => ∃ c M j d ss rs es cs t n, s = .ref c.r ∧ RdAt K c M H j d ss rs es cs ∧ c.ts[j]? = some t ∧ d ≤ 3 ∧ 3 < d + e ∧ (c.ts.drop j).length ≤ n ∧ cs.length + (c.ts.length - j) ≤ 10000 ∧ ss.length < 1000 ∧
  (∀ f, stmt1 ss n d (c.ts.drop j) = .error f → FaultR K c E M f) ∧
  (∀ x j' u, stmt1 ss n d (c.ts.drop j) = .ok (x, c.ts.drop j') → c.ts[j']? = some u → j < j' → (callsR x).length + j ≤ j' → ∀ M' H' q, RdAt K c M' H' j' d ss rs es (cs ++ callsR x) → Nx c M H M' H' → RawV ss M' x [.ref q] → Q (.ref q) H')
def spBlock (K : PySem.W.Frag) (e : Nat) : Sp := Sp1 fun s H Q E => ∃ c M j d ss rs es cs t n, s = .ref c.r ∧ RdAt K c M H j d ss rs es cs ∧ c.ts[j]? = some t ∧ d ≤ 3 ∧ 3 < d + e ∧ (c.ts.drop j).length ≤ n ∧ cs.length + (c.ts.length - j) ≤ 10000 ∧ ss.length < 1000 ∧
  (∀ f, ((takeSign 123 (c.ts.drop j)).bind fun r => takeStmts ss n d r) = .error f → FaultR K c E M f) ∧
  (∀ x j' u, ((takeSign 123 (c.ts.drop j)).bind fun r => takeStmts ss n d r) = .ok (x, c.ts.drop j') → c.ts[j']? = some u → j < j' → (callsR x).length + j ≤ j' → ∀ M' H' q xs, RdAt K c M' H' j' d ss rs es (cs ++ callsR x) → Nx c M H M' H' → M' q = some (.lst xs) → RawV ss M' x xs → Q (.ref q) H')
theorem sc_Reader_block : FnScope ["self", "found"] ["self"] (defScope s_Reader_block) := ⟨rfl, rfl, rfl, by decide +kernel, rfl, by decide +kernel, by decide +kernel⟩
theorem ok_block_of (T : Tx K mg) (e : Nat) (hs : FK P w K mg base (L2.CX P w) (3 * e + 9) (He.ma K (He.ga K "Reader") "statement") ["self"] (spStmt K (e + 1))) : FK P w K mg base (L2.CX P w) (3 * e + 10) (He.ma K (He.ga K "Reader") "block") ["self"] (spBlock K (e + 1)) := by
  obtain ⟨fd, F⟩ := T.f_Reader_block
  obtain ⟨fd0, G0, b0, k0⟩ := ok_Reader_take (P := P) (w := w) (base := base) T
  obtain ⟨fd1, G1, b1, k1⟩ := ok_Reader_comes (P := P) (w := w) (base := base) T
  obtain ⟨fd2, G2, b2, k2⟩ := hs
  obtain ⟨fd3, G3, b3, k3⟩ := ok_Reader_read (P := P) (w := w) (base := base) T
  refine ⟨fd, F.ok sc_Reader_block (fun vs H Q E h => Sp1.len h) (fun cdv A outer s H vs Q E hr h => ?body), F.bindsN (fun _ _ _ _ _ _ us hl => match us, hl with | [_], _ => rfl), F.kp⟩
  refine ⟨_, (pss_cons (ps_expr (pe_meth (pv 0) T.c_Reader T.me_Reader_read G3 (hr.mono (by first | decide | omega)) b3 .nil passR (pa_cons (C8.pe_gc rfl T.k_SIGN) (pa_cons pe_str pa_nil))))
      (pss_cons (ps_set (i := 1) sc_Reader_block.nd rfl (.inl rfl) (pe_lst pa_nil) (hf := (.inr rfl)))
      (pss_cons (ps_while (passes_of rfl) (pt_not (pt_val (pe_meth (pv 0) T.c_Reader T.me_Reader_comes G1 (hr.mono (by first | decide | omega)) b1 .nil pass0 (pa_cons (C8.pe_gc rfl T.k_SIGN) (pa_cons pe_str pa_nil))))) (pss_one (ps_expr (pe_bm PySem.F.plainAttrs_list PySem.F.slot_list_append PySem.F.type_list_append mt_append (pv 1) (pa_cons (pe_meth0 (pv 0) T.c_Reader T.me_Reader_statement G2 (hr.mono (by first | decide | omega)) b2 .nil passR) pa_nil)))))
      (pss_cons (ps_expr (pe_meth0 (pv 0) T.c_Reader T.me_Reader_take G0 (hr.mono (by first | decide | omega)) b0 .nil pass0))
      (pss_one (ps_ret (pv 1))))))), ?_⟩
  obtain ⟨_, rfl, c, M, j, d, ss, rs, es, cs, t, n, rfl, h, ht, hd, hde, hn, hcz, hsz, kf, kk⟩ := h
  have e123 : comesB t.tok "sign" "{" = tokEq t.tok (.sign 123) := comes_sign t.tok 123
  have es0 : takeSign 123 (c.ts.drop j) = if tokEq t.tok (.sign 123) = true then .ok (c.ts.drop (j + 1)) else .error ⟨3, t.place⟩ := by rw [drop_tok ht]; rfl
  rw [es0] at kf kk
  have hjl : j < c.ts.length := (List.getElem?_eq_some_iff.mp ht).1
  refine ⟨_, rfl, c.r, c.dx, _, rfl, h.ins, n_Reader_read, _, _, _, rfl, c, M, j, d, ss, rs, es, cs, t, "sign", "{", rfl, rfl, rfl, h, ht, by decide +kernel, by decide +kernel, fun z => kf _ (by rw [← e123, z]; rfl), fun z H1 h1 n1 => ?_⟩
  rw [e123] at z
  rw [if_pos z] at kf kk
  have eb : (Except.bind (Except.ok (ε := VakepBase.Fault) (c.ts.drop (j + 1))) fun r => takeStmts ss n d r) = takeStmts ss n d (c.ts.drop (j + 1)) := rfl
  rw [eb] at kf kk
  obtain ⟨_, u, hu⟩ := h.tk.next ht (tokEq_last z)
  have sb := SB.start (ss := ss) (ts := c.ts) (d := d) (i := j + 1) (n := n) (by rw [drop_tok ht, List.length_cons] at hn; omega)
  generalize takeStmts ss n d (c.ts.drop (j + 1)) = R at kf kk sb
  refine ⟨by show 0 ≤ sizeLine; decide, fun D hD => ?_⟩
  have e2 : Same H1 (upd H1 D (.lst [])) := Same.new hD
  have hDH : H D = none := n1.live D hD
  refine ⟨fun m σ H' => ∃ i M' u' acc xs, σ = [some (.ref c.r), some (.ref D)] ∧ c.ts[i]? = some u' ∧ j < i ∧ RdAt K c M' H' i d ss rs es (cs ++ callsR acc) ∧ Nx c M H M' H' ∧ H' D = some (.lst xs) ∧ M' D = none ∧ D ∉ c.mu ∧ RawV ss M' acc xs ∧ xs.length + j ≤ i ∧ (callsR acc).length + j ≤ i ∧ SB ss c.ts R d i acc ∧ m = c.ts.length - i,
    ⟨_, j + 1, M, u, .done, [], rfl, hu, by omega, by rw [show callsR .done = [] from rfl, List.append_nil]; exact h1.same' e2, n1.trans (Nx.of e2), upd_same, gone h1.sub hD, mu_not h1 hD, rfl, by show 0 + j ≤ _; omega, by show 0 + j ≤ _; omega, sb, rfl⟩, ?_⟩
  rintro m σ H8 ⟨i, M8, u', acc, xs, rfl, hu', hji, h8, n8, hD8, hDM, hDmu, hraw, hxl, hcl, sb, rfl⟩
  have hil : i < c.ts.length := (List.getElem?_eq_some_iff.mp hu').1
  obtain ⟨s1, s2⟩ := sb.at_ hu'
  have e125 : comesB u'.tok "sign" "}" = tokEq u'.tok (.sign 125) := comes_sign u'.tok 125
  refine ⟨_, rfl, c.r, c.dx, _, rfl, h8.ins, n_Reader_comes, _, _, _, rfl, c, M8, i, d, ss, rs, es, _, u', "sign", "}", rfl, rfl, rfl, h8, hu', by decide +kernel, by decide +kernel, fun H9 e9 => ?_⟩
  rw [e125]
  have h9 := h8.same' e9
  have n9 := n8.trans (Nx.of e9)
  have hD9 := e9 _ _ hD8
  refine ⟨_, rfl, ?_⟩
  cases hb : tokEq u'.tok (.sign 125) with
  | true =>
    obtain ⟨_, u5, hu5⟩ := h.tk.next hu' (tokEq_last hb)
    refine ⟨_, rfl, c.r, c.dx, _, rfl, h9.ins, n_Reader_take, _, rfl, c, M8, i, d, ss, rs, es, _, u', rfl, h9, hu', fun H10 h10 n10 => ?_⟩
    have n10' := n9.trans n10
    have hD10 : H10 D = some (.lst xs) := n10.frame D _ hD9 hDmu
    obtain ⟨h11, g11⟩ := h10.fix hD10 hDM hDmu
    have n11 := n10'.fix (o := HO.lst xs) hDH hDM
    exact ⟨_, rfl, kk acc (i + 1) u5 (s1 hb) hu5 (by omega) (by omega) _ _ D xs h11 n11 upd_same (hraw.same g11)⟩
  | false =>
    obtain ⟨m, hm, sf, sk⟩ := s2 hb
    refine ⟨fun σ' H' => ∃ i' M' u' acc xs, σ' = [some (.ref c.r), some (.ref D)] ∧ c.ts[i']? = some u' ∧ i < i' ∧ RdAt K c M' H' i' d ss rs es (cs ++ callsR acc) ∧ Nx c M H M' H' ∧ H' D = some (.lst xs) ∧ M' D = none ∧ D ∉ c.mu ∧ RawV ss M' acc xs ∧ xs.length + j ≤ i' ∧ (callsR acc).length + j ≤ i' ∧ SB ss c.ts R d i' acc, ?_, ?_⟩
    · rintro σ' H' ⟨i', M', u', acc, xs, h1, h2, h3, h4, h5, h6, h7, h8, h9, h10, h11, h12⟩
      exact ⟨_, by omega, i', M', u', acc, xs, h1, h2, by omega, h4, h5, h6, h7, h8, h9, h10, h11, h12, rfl⟩
    · refine ⟨_, rfl, .inl ⟨rfl, _, SqL.of hD9⟩, ?_⟩
      refine ⟨_, rfl, c.r, c.dx, _, rfl, h9.ins, n_Reader_statement, _, rfl, c, M8, i, d, ss, rs, es, _, u', m, rfl, h9, hu', hd, hde, hm, by rw [List.length_append]; omega, hsz, fun f hf => (kf _ (sf f hf)).mono n9.grow, fun x i' u5 hx hu5 hi' hcx M10 H10 q h10 n10 hq => ?_⟩
      have hD10 : H10 D = some (.lst xs) := n10.frame D _ hD9 hDmu
      have hDM10 : M10 D = none := n10.off hD9 hDM
      have n10' := n9.trans n10
      refine ⟨D, xs, _, rfl, rfl, hD10, szl (by omega), ?_⟩
      rw [List.append_assoc, ← callsR_app] at h10
      have hil' : i' < c.ts.length := (List.getElem?_eq_some_iff.mp hu5).1
      exact ⟨i', M10, u5, appR acc x, xs ++ [.ref q], rfl, hu5, hi', h10.mutD hD10 hDM10 hDmu (ne_of_none h.ff hDH).symm, n10'.mutNew hDH, upd_same, hDM10, hDmu, (hraw.same n10.grow).app hq, by rw [List.length_append]; show xs.length + 1 + j ≤ i'; omega, by rw [callsR_app, List.length_append]; omega, sk x i' hx hi' (Nat.le_of_lt hil')⟩
theorem str_when : V.str "when" = V.str (S (word "when")) := by decide +kernel
theorem str_say : V.str "say" = V.str (S (word "say")) := by decide +kernel
theorem str_call : V.str "call" = V.str (S (word "call")) := by decide +kernel
theorem str_make : V.str "make" = V.str (S (word "make")) := by decide +kernel
theorem str_is : V.str "is" = V.str (S (word "is")) := by decide +kernel
theorem find_none_any {α : Type} (l : List α) (p : α → Bool) : l.any p = (l.findIdx? p).isSome := by
  induction l with
  | nil => rfl
  | cons a r ih =>
    rw [List.any_cons, List.findIdx?_cons, ih]
    cases p a with
    | true => rfl
    | false => rw [Bool.false_or, if_neg Bool.false_ne_true, Option.isSome_map]
theorem sc_Reader_when : FnScope ["self", "name", "setting", "words", "word", "statements"] ["self"] (defScope s_Reader_when) := ⟨rfl, rfl, rfl, by decide +kernel, rfl, by decide +kernel, by decide +kernel⟩
theorem ok_when_of (T : Tx K mg) (e : Nat) (hbk : FK P w K mg base (L2.CX P w) (3 * e + 7) (He.ma K (He.ga K "Reader") "block") ["self"] (spBlock K e)) : FK P w K mg base (L2.CX P w) (3 * e + 8) (He.ma K (He.ga K "Reader") "when") ["self"] (spRdWhen K (e + 1)) := by
  obtain ⟨fd, F⟩ := T.f_Reader_when
  obtain ⟨fd0, G0, b0, k0⟩ := hbk
  obtain ⟨fd1, G1, b1, k1⟩ := ok_Reader_take (P := P) (w := w) (base := base) T
  obtain ⟨fd2, G2, b2, k2⟩ := ok_Reader_want (P := P) (w := w) (base := base) T
  obtain ⟨fd3, G3, b3, k3⟩ := ok_Reader_next_name (P := P) (w := w) (base := base) T
  obtain ⟨fd4, G4, b4, k4⟩ := ok_Reader_read (P := P) (w := w) (base := base) T
  obtain ⟨fd5, G5, b5, k5⟩ := ok_Program_setting_names (P := P) (w := w) (base := base) T
  refine ⟨fd, F.ok sc_Reader_when (fun vs H Q E h => Sp1.len h) (fun cdv A outer s H vs Q E hr h => ?body), F.bindsN (fun _ _ _ _ _ _ us hl => match us, hl with | [_], _ => rfl), F.kp⟩
  refine ⟨_, (pss_cons (ps_expr (pe_meth (pv 0) T.c_Reader T.me_Reader_want G2 (hr.mono (by first | decide | omega)) b2 .nil passR (pa_cons (pe_cmpR op_lt (pe_fld (pv 0) rfl) (C8.pe_gc rfl T.k_MOST_WHENS) (nomark _)) (pa_cons (C8.pe_gc rfl T.k_TOO_MANY) pa_nil))))
      (pss_cons (ps_expr (pe_meth0 (pv 0) T.c_Reader T.me_Reader_take G1 (hr.mono (by first | decide | omega)) b1 .nil pass0))
      (pss_cons (ps_set (i := 1) sc_Reader_when.nd rfl (.inl rfl) (pe_meth0 (pv 0) T.c_Reader T.me_Reader_next_name G3 (hr.mono (by first | decide | omega)) b3 .nil passR) (hf := (.inr rfl)))
      (pss_cons (ps_expr (pe_meth (pv 0) T.c_Reader T.me_Reader_want G2 (hr.mono (by first | decide | omega)) b2 .nil passR (pa_cons (pe_cmpR op_in_seq (pv 1) (pe_meth0 (pe_fld (pv 0) rfl) T.c_Program T.me_Program_setting_names G5 (hr.mono (by first | decide | omega)) b5 .nil pass0) rfl) (pa_cons (C8.pe_gc rfl T.k_NO_SUCH) pa_nil))))
      (pss_cons (ps_set (i := 2) sc_Reader_when.nd rfl (.inl rfl) (pe_bm PySem.F.plainAttrs_list PySem.F.slot_list_index PySem.F.type_list_index mt_index (pe_meth0 (pe_fld (pv 0) rfl) T.c_Program T.me_Program_setting_names G5 (hr.mono (by first | decide | omega)) b5 .nil pass0) (pa_cons (pe_meth0 (pv 0) T.c_Reader T.me_Reader_take G1 (hr.mono (by first | decide | omega)) b1 .nil pass0) pa_nil)) (hf := (.inr rfl)))
      (pss_cons (ps_expr (pe_meth (pv 0) T.c_Reader T.me_Reader_read G4 (hr.mono (by first | decide | omega)) b4 .nil passR (pa_cons (C8.pe_gc rfl T.k_WORD) (pa_cons pe_str pa_nil))))
      (pss_cons (ps_set (i := 3) sc_Reader_when.nd rfl (.inl rfl) (pe_ix ix_tup (pe_ix ix_list (pe_fld (pe_fld (pv 0) rfl) rfl) (pv 2) (fun _ _ => rfl)) pe_int (fun _ _ => rfl)) (hf := (.inr rfl)))
      (pss_cons (ps_expr (pe_meth (pv 0) T.c_Reader T.me_Reader_want G2 (hr.mono (by first | decide | omega)) b2 .nil passR (pa_cons (pe_cmpR op_in_seq (pe_meth0 (pv 0) T.c_Reader T.me_Reader_next_name G3 (hr.mono (by first | decide | omega)) b3 .nil passR) (pv 3) rfl) (pa_cons (C8.pe_gc rfl T.k_NO_SUCH) pa_nil))))
      (pss_cons (ps_set (i := 4) sc_Reader_when.nd rfl (.inl rfl) (pe_bm PySem.F.plainAttrs_list PySem.F.slot_list_index PySem.F.type_list_index mt_index (pv 3) (pa_cons (pe_meth0 (pv 0) T.c_Reader T.me_Reader_take G1 (hr.mono (by first | decide | omega)) b1 .nil pass0) pa_nil)) (hf := (.inr rfl)))
      (pss_cons (ps_fld (pv 0) (pe_op op_add (pe_fld (pv 0) rfl) pe_int) rfl)
      (pss_cons (ps_set (i := 5) sc_Reader_when.nd rfl (.inl rfl) (pe_meth0 (pv 0) T.c_Reader T.me_Reader_block G0 (hr.mono (by first | decide | omega)) b0 .nil passR) (hf := (.inr rfl)))
      (pss_cons (ps_fld (pv 0) (pe_op op_sub (pe_fld (pv 0) rfl) pe_int) rfl)
      (pss_one (ps_ret (pe_tup (pa_cons (C8.pe_gc rfl T.k_WHEN) (pa_cons (pv 2) (pa_cons (pv 4) (pa_cons (pv 5) pa_nil))))))))))))))))))), ?_⟩
  obtain ⟨_, rfl, c, M, j, d, ss, rs, es, cs, t, n, rfl, h, ht, hw, hd, hde, hn, hcz, hsz, kf, kk⟩ := h
  obtain ⟨_, u1, hu1⟩ := h.tk.next ht (tokEq_name_last hw)
  have hjl : j < c.ts.length := (List.getElem?_eq_some_iff.mp ht).1
  have e0 : whenR ss n d (c.ts.drop j) = if 3 ≤ d then .error ⟨4, t.place⟩ else when2 ss n d (c.ts.drop (j + 1)) := by
    rw [drop_tok ht]
    show Except.bind (if tokEq t.tok (.name (word "when")) = true then _ else _) _ = _
    rw [if_pos hw]
    rfl
  rw [e0] at kf kk
  refine ⟨_, rfl, c.r, c.dx, _, rfl, h.ins, n_Reader_want, ?_⟩
  refine ⟨_, rfl, c.r, _, c.dx, _, _, rfl, h.ins, T.c_Reader, T.na_Reader_deep, l_Reader_deep, _, _, rfl, rfl, ?_⟩
  refine ⟨_, _, _, rfl, c, M, j, d, ss, rs, es, cs, t, decide ((d : Int) < 3), 4, rfl, rfl, rfl, h, ht, fun z => kf _ (if_pos (by have := of_decide_eq_false z; omega)), fun z => ?_⟩
  have hd3 : ¬ 3 ≤ d := by have := of_decide_eq_true z; omega
  rw [if_neg hd3] at kf kk
  refine ⟨_, rfl, c.r, c.dx, _, rfl, h.ins, n_Reader_take, _, rfl, c, M, j, d, ss, rs, es, cs, t, rfl, h, ht, fun H1 h1 n1 => ?_⟩
  -- the setting's name
  refine ⟨_, rfl, c.r, c.dx, _, rfl, h1.ins, n_Reader_next_name, _, rfl, c, M, j + 1, d, ss, rs, es, cs, u1, rfl, h1, hu1, fun hb => kf _ (by unfold when2; rw [drop_tok hu1, takeName_bad hb]; rfl), fun hb1 => ?_⟩
  obtain ⟨b1, eb1, ev1⟩ := name_of hb1
  rw [ev1]
  obtain ⟨_, u2, hu2⟩ := h.tk.next hu1 (isName_last hb1)
  have e1 : when2 ss n d (c.ts.drop (j + 1)) = match ss.findIdx? fun s => s.name == b1 with
      | none => .error ⟨8, u1.place⟩
      | some k => when3 ss n d k (c.ts.drop (j + 2)) := by
    unfold when2
    rw [drop_tok hu1, takeName_ok hb1 eb1]
    rfl
  rw [e1] at kf kk
  refine ⟨_, rfl, c.r, c.dx, _, rfl, h1.ins, n_Reader_want, ?_⟩
  refine ⟨_, rfl, _, rfl, c.r, _, c.dx, _, _, rfl, h1.ins, T.c_Reader, T.na_Reader_program, l_Reader_program, c.p, c.dp, _, rfl, h1.sub _ _ h1.pg, n_Program_setting_names, _, rfl, c.p, ss, rfl, h1.sets, by omega, fun q H2 hq e2 hq2 => ?_⟩
  have h2 := h1.same' e2
  have n2 := n1.trans (Nx.of e2)
  refine ⟨q, _, rfl, .inl (SqL.of hq2), rfl, strL_flat _, ?_⟩
  have ein : inV (.str (S b1)) (strL (ss.map (·.name))) = (ss.findIdx? fun s => s.name == b1).isSome := by rw [inV_S, any_names, find_none_any]
  refine ⟨_, _, _, rfl, c, M, j + 1, d, ss, rs, es, cs, u1, inV (.str (S b1)) (strL (ss.map (·.name))), 8, rfl, rfl, rfl, h2, hu1, fun z => kf _ ?_, fun z => ?_⟩
  · rw [ein] at z
    cases hf : ss.findIdx? (fun s => s.name == b1) with
    | none => rfl
    | some k => rw [hf] at z; cases z
  rw [ein] at z
  obtain ⟨k, hf⟩ := Option.isSome_iff_exists.mp z
  rw [hf] at kf kk
  have kf : ∀ f, when3 ss n d k (c.ts.drop (j + 2)) = .error f → FaultR K c E M f := kf
  have kk : ∀ x j' u, when3 ss n d k (c.ts.drop (j + 2)) = .ok (x, c.ts.drop j') → c.ts[j']? = some u → j < j' → (callsR x).length + j ≤ j' → ∀ M' H' q, RdAt K c M' H' j' d ss rs es (cs ++ callsR x) → Nx c M H M' H' → RawV ss M' x [.ref q] → Q (.ref q) H' := kk
  -- its number
  refine ⟨_, rfl, c.r, _, c.dx, _, _, rfl, h2.ins, T.c_Reader, T.na_Reader_program, l_Reader_program, c.p, c.dp, _, rfl, h2.sub _ _ h2.pg, n_Program_setting_names, _, rfl, c.p, ss, rfl, h2.sets, by omega, fun q3 H3 hq3 e3 hq3' => ?_⟩
  have h3 := h2.same' e3
  have n3 := n2.trans (Nx.of e3)
  have hq3mu := mu_not h2 hq3
  refine ⟨.inl ⟨rfl, _, SqL.of hq3'⟩, ?_⟩
  refine ⟨_, rfl, c.r, c.dx, _, rfl, h3.ins, n_Reader_take, _, rfl, c, M, j + 1, d, ss, rs, es, cs, u1, rfl, h3, hu1, fun H4 h4 n4 => ?_⟩
  rw [ev1]
  have n4' := n3.trans n4
  have hm := find_map (·.name) (· == b1) ss
  rw [hf] at hm
  obtain ⟨i1, i2⟩ := index_S hm
  refine ⟨q3, _, _, k, _, rfl, rfl, SqL.of (n4.frame q3 _ hq3' hq3mu), rfl, strL_flat _, i1, by rw [eqV_S]; exact beq_self_eq_true b1, i2, ?_⟩
  -- is
  have eis : comesB u2.tok "word" (S (word "is")) = tokEq u2.tok (.name (word "is")) := comes_word u2.tok (by decide +kernel)
  have e2' : when3 ss n d k (c.ts.drop (j + 2)) = if tokEq u2.tok (.name (word "is")) = true then ((takeName (c.ts.drop (j + 3))).bind fun v => match ((ss[k]?).map fun s => s.values).bind fun vs => vs.findIdx? fun y => y == v.1.name with
      | none => .error ⟨8, v.1.place⟩
      | some j => ((takeSign 123 v.2).bind fun r => takeStmts ss n (d + 1) r).map fun b => (.when_ k j b.1 .done, b.2)) else .error ⟨3, u2.place⟩ := by
    unfold when3
    rw [drop_tok hu2]
    show Except.bind (if tokEq u2.tok (.name (word "is")) = true then _ else _) _ = _
    split <;> rfl
  rw [e2'] at kf kk
  refine ⟨_, rfl, c.r, c.dx, _, rfl, h4.ins, n_Reader_read, _, _, _, rfl, c, M, j + 2, d, ss, rs, es, cs, u2, "word", S (word "is"), rfl, rfl, str_is, h4, hu2, by decide +kernel, strOk_S _, fun z => kf _ (by rw [← eis, z]; rfl), fun z H5 h5 n5 => ?_⟩
  rw [eis] at z
  rw [if_pos z] at kf kk
  have n5' := n4'.trans n5
  obtain ⟨_, u3, hu3⟩ := h.tk.next hu2 (tokEq_name_last z)
  -- its words
  obtain ⟨hk, _⟩ := List.findIdx?_eq_some_iff_getElem.mp hf
  have hsk := List.getElem?_eq_getElem hk
  generalize ss[k] = sk at hsk
  obtain ⟨vs, hvs, hps⟩ := h5.sl
  obtain ⟨v, hv, tp, lw, rfl, htp, hlw⟩ := Paired.at2 hps hsk
  have htp' := h5.sub _ _ htp
  have hlw' := h5.sub _ _ hlw
  refine ⟨_, rfl, c.r, _, c.dx, _, _, rfl, h5.ins, T.c_Reader, T.na_Reader_program, l_Reader_program, c.p, _, c.dp, _, _, rfl, h5.sub _ _ h5.pg, T.c_Program, T.na_Program_settings, l_Program_settings, ?_⟩
  refine ⟨_, rfl, c.ls, vs, _, _, rfl, rfl, SqL.of hvs, atI_n hv, tp, _, _, _, rfl, rfl, SqT.of htp', atI_n (j := 1) rfl, ?_⟩
  rw [hsk] at kf kk
  -- the value's name
  refine ⟨_, rfl, c.r, c.dx, _, rfl, h5.ins, n_Reader_want, ?_⟩
  refine ⟨_, rfl, c.r, c.dx, _, rfl, h5.ins, n_Reader_next_name, _, rfl, c, M, j + 3, d, ss, rs, es, cs, u3, rfl, h5, hu3, fun hb => kf _ (by rw [drop_tok hu3, takeName_bad hb]; rfl), fun hb3 => ?_⟩
  obtain ⟨b3, eb3, ev3⟩ := name_of hb3
  rw [ev3]
  obtain ⟨_, u4, hu4⟩ := h.tk.next hu3 (isName_last hb3)
  have e3' : ((takeName (c.ts.drop (j + 3))).bind fun v => match ((some sk).map fun s => s.values).bind fun vs => vs.findIdx? fun y => y == v.1.name with
      | none => .error ⟨8, v.1.place⟩
      | some j => ((takeSign 123 v.2).bind fun r => takeStmts ss n (d + 1) r).map fun b => (Raw.when_ k j b.1 .done, b.2)) = match sk.values.findIdx? fun y => y == b3 with
      | none => .error ⟨8, u3.place⟩
      | some j' => ((takeSign 123 (c.ts.drop (j + 4))).bind fun r => takeStmts ss n (d + 1) r).map fun b => (Raw.when_ k j' b.1 .done, b.2) := by
    rw [drop_tok hu3, takeName_ok hb3 eb3]
    rfl
  rw [e3'] at kf kk
  refine ⟨_, rfl, lw, _, rfl, .inl (SqL.of hlw'), rfl, strL_flat _, ?_⟩
  have ein3 : inV (.str (S b3)) (strL sk.values) = (sk.values.findIdx? fun y => y == b3).isSome := by rw [inV_S, find_of_contains]
  refine ⟨_, _, _, rfl, c, M, j + 3, d, ss, rs, es, cs, u3, inV (.str (S b3)) (strL sk.values), 8, rfl, rfl, rfl, h5, hu3, fun z => kf _ ?_, fun z => ?_⟩
  · rw [ein3] at z
    cases hf : sk.values.findIdx? (fun y => y == b3) with
    | none => rfl
    | some k => rw [hf] at z; cases z
  rw [ein3] at z
  obtain ⟨kv, hfv⟩ := Option.isSome_iff_exists.mp z
  rw [hfv] at kf kk
  have kf : ∀ f, (((takeSign 123 (c.ts.drop (j + 4))).bind fun r => takeStmts ss n (d + 1) r).map fun b => (Raw.when_ k kv b.1 .done, b.2)) = .error f → FaultR K c E M f := kf
  have kk : ∀ x j' u, (((takeSign 123 (c.ts.drop (j + 4))).bind fun r => takeStmts ss n (d + 1) r).map fun b => (Raw.when_ k kv b.1 .done, b.2)) = .ok (x, c.ts.drop j') → c.ts[j']? = some u → j < j' → (callsR x).length + j ≤ j' → ∀ M' H' q, RdAt K c M' H' j' d ss rs es (cs ++ callsR x) → Nx c M H M' H' → RawV ss M' x [.ref q] → Q (.ref q) H' := kk
  refine ⟨_, rfl, .inl ⟨rfl, _, SqL.of hlw'⟩, ?_⟩
  refine ⟨_, rfl, c.r, c.dx, _, rfl, h5.ins, n_Reader_take, _, rfl, c, M, j + 3, d, ss, rs, es, cs, u3, rfl, h5, hu3, fun H6 h6 n6 => ?_⟩
  rw [ev3]
  have n6' := n5'.trans n6
  obtain ⟨i1, i2⟩ := index_S hfv
  refine ⟨lw, _, _, kv, _, rfl, rfl, SqL.of (h6.sub _ _ hlw), rfl, strL_flat _, i1, by rw [eqV_S]; exact beq_self_eq_true b3, i2, ?_⟩
  -- deeper
  refine ⟨_, rfl, c.r, _, c.dx, _, _, rfl, h6.ins, T.c_Reader, T.na_Reader_deep, l_Reader_deep, _, _, rfl, rfl, ?_⟩
  refine ⟨_, rfl, c.r, _, c.dx, _, rfl, h6.ins, T.c_Reader, T.na_Reader_deep, by show 5 < 1000; decide, ?_⟩
  rw [p_Reader_deep]
  have h7 := h6.setIns (j + 4) (d + 1)
  have n7 := n6'.mut (o := .ins (cReader K) c.dx (F_Reader (.ref c.tl) (.int ((j + 4 : Nat) : Int)) (.ref c.p) (.ref c.cl) (.int ((d + 1 : Nat) : Int)))) mu_r
  have hl4 : (c.ts.drop (j + 4)).length ≤ n := by
    rw [List.length_drop] at hn ⊢
    omega
  refine ⟨_, rfl, c.r, c.dx, _, rfl, h7.ins, n_Reader_block, _, rfl, c, M, j + 4, d + 1, ss, rs, es, cs, u4, n, rfl, h7, hu4, by omega, by omega, hl4, by omega, hsz, fun f hf => kf _ (by rw [hf]; rfl), fun x j' u hx hu hj' hcx M8 H8 q xs h8 n8 hq hxs => ?_⟩
  have n8' := n7.trans n8
  refine ⟨_, rfl, c.r, _, c.dx, _, _, rfl, h8.ins, T.c_Reader, T.na_Reader_deep, l_Reader_deep, _, _, rfl, rfl, ?_⟩
  refine ⟨_, rfl, c.r, _, c.dx, _, rfl, h8.ins, T.c_Reader, T.na_Reader_deep, by show 5 < 1000; decide, ?_⟩
  rw [p_Reader_deep]
  have ed : (fun (i j : Int) => V.int (i - j)) ((d + 1 : Nat) : Int) 1 = V.int (d : Int) := by
    show V.int (((d + 1 : Nat) : Int) - 1) = _
    congr 1
    omega
  rw [ed]
  have h9 := h8.setIns j' d
  have n9 := n8'.mut (o := .ins (cReader K) c.dx (F_Reader (.ref c.tl) (.int ((j' : Nat) : Int)) (.ref c.p) (.ref c.cl) (.int ((d : Nat) : Int)))) mu_r
  refine ⟨_, rfl, _, rfl, _, rfl, by show 4 ≤ sizeLine; decide, fun tt htt => ?_⟩
  have e10 : Same _ (upd (upd H8 c.r (.ins (cReader K) c.dx (F_Reader (.ref c.tl) (.int ((j' : Nat) : Int)) (.ref c.p) (.ref c.cl) (.int ((d : Nat) : Int))))) tt (.tup [.str "when", .int (k : Int), .int (kv : Int), .ref q])) := Same.new htt
  obtain ⟨h10, g10⟩ := (h9.same' e10).fix (t := tt) upd_same (gone h9.sub htt) (mu_not h9 htt)
  have n10 := (n9.trans (Nx.of e10)).fix (o := HO.tup [.str "when", .int (k : Int), .int (kv : Int), .ref q]) (n9.live tt htt) (gone h9.sub htt)
  have hcl : callsR (.when_ k kv x .done) = callsR x := by show callsR x ++ [] = _; rw [List.append_nil]
  refine kk (.when_ k kv x .done) j' u (by rw [hx]; rfl) hu (by omega) (by rw [hcl]; omega) _ _ tt (by rw [hcl]; exact h10) n10 ⟨tt, [], rfl, ⟨q, xs, upd_same, g10 _ _ hq, hxs.same g10⟩, rfl⟩
theorem three_at {i : Nat} {x : V} (h : [V.str "say", V.str "call", V.str "make"][i]? = some x) : ∃ b, [word "say", word "call", word "make"][i]? = some b ∧ x = .str (S b) ∧ VakepBase.RESERVED.contains b = true := by
  match i, h with
  | 0, h => exact ⟨word "say", rfl, by rw [← str_say]; exact (Option.some.inj h).symm, by decide +kernel⟩
  | 1, h => exact ⟨word "call", rfl, by rw [← str_call]; exact (Option.some.inj h).symm, by decide +kernel⟩
  | 2, h => exact ⟨word "make", rfl, by rw [← str_make]; exact (Option.some.inj h).symm, by decide +kernel⟩
  | i + 3, h => simp at h
theorem sc_Reader_statement : FnScope ["self", "word"] ["self"] (defScope s_Reader_statement) := ⟨rfl, rfl, rfl, by decide +kernel, rfl, by decide +kernel, by decide +kernel⟩
theorem ok_stmt_of (T : Tx K mg) (e : Nat) (hw : FK P w K mg base (L2.CX P w) (3 * e + 8) (He.ma K (He.ga K "Reader") "when") ["self"] (spRdWhen K (e + 1))) : FK P w K mg base (L2.CX P w) (3 * e + 9) (He.ma K (He.ga K "Reader") "statement") ["self"] (spStmt K (e + 1)) := by
  obtain ⟨fd, F⟩ := T.f_Reader_statement
  obtain ⟨fd0, G0, b0, k0⟩ := ok_Reader_call (P := P) (w := w) (base := base) T
  obtain ⟨fd1, G1, b1, k1⟩ := ok_Reader_make (P := P) (w := w) (base := base) T
  obtain ⟨fd2, G2, b2, k2⟩ := ok_Reader_say (P := P) (w := w) (base := base) T
  obtain ⟨fd3, G3, b3, k3⟩ := ok_Reader_take (P := P) (w := w) (base := base) T
  obtain ⟨fd4, G4, b4, k4⟩ := ok_Reader_want (P := P) (w := w) (base := base) T
  obtain ⟨fd5, G5, b5, k5⟩ := ok_Reader_comes (P := P) (w := w) (base := base) T
  obtain ⟨fd6, G6, b6, k6⟩ := hw
  refine ⟨fd, F.ok sc_Reader_statement (fun vs H Q E h => Sp1.len h) (fun cdv A outer s H vs Q E hr h => ?body), F.bindsN (fun _ _ _ _ _ _ us hl => match us, hl with | [_], _ => rfl), F.kp⟩
  refine ⟨_, (pss_cons (ps_if (pt_val (pe_meth (pv 0) T.c_Reader T.me_Reader_comes G5 (hr.mono (by first | decide | omega)) b5 .nil pass0 (pa_cons (C8.pe_gc rfl T.k_WORD) (pa_cons pe_str pa_nil)))) (pss_one (ps_ret (pe_meth0 (pv 0) T.c_Reader T.me_Reader_when G6 (hr.mono (by first | decide | omega)) b6 .nil passR))) pss_nil)
      (pss_cons (ps_expr (pe_meth (pv 0) T.c_Reader T.me_Reader_want G4 (hr.mono (by first | decide | omega)) b4 .nil passR (pa_cons (pe_callB (cr_any rfl) rfl T.n_any (by decide +kernel) (pa_cons (pe_lc (own := [("word", 1)]) rfl sc_Reader_statement.nd (pi_tup (pe_tup (pa_cons pe_str (pa_cons pe_str (pa_cons pe_str pa_nil))))) (blkOk_by (own := [("word", 1)]) (N := ["self", "word"]) (sc := defScope s_Reader_statement) (by decide +kernel)) (fun _ _ _ _ _ => (pg_name (i := 1) sc_Reader_statement.nd rfl (.inl rfl) (.inr rfl))) (fun _ _ _ _ _ => pts_nil) (fun _ _ _ _ _ => (pe_meth (pv 0) T.c_Reader T.me_Reader_comes G5 (hr.mono (by first | decide | omega)) b5 .nil pass0 (pa_cons (C8.pe_gc rfl T.k_WORD) (pa_cons (pv 1) pa_nil))))) pa_nil)) (pa_cons (C8.pe_gc rfl T.k_MISPLACED) pa_nil))))
      (pss_cons (ps_set (i := 1) sc_Reader_statement.nd rfl (.inl rfl) (pe_meth0 (pv 0) T.c_Reader T.me_Reader_take G3 (hr.mono (by first | decide | omega)) b3 .nil pass0) (hf := (.inr rfl)))
      (pss_cons (ps_if (pt_cmpR op_eq (pv 1) pe_str (nomark _)) (pss_one (ps_ret (pe_meth0 (pv 0) T.c_Reader T.me_Reader_say G2 (hr.mono (by first | decide | omega)) b2 .nil passR))) pss_nil)
      (pss_one (ps_ret (pe_ifExp (pt_cmpR op_eq (pv 1) pe_str (nomark _)) (pe_meth0 (pv 0) T.c_Reader T.me_Reader_call G0 (hr.mono (by first | decide | omega)) b0 .nil passR) (pe_meth0 (pv 0) T.c_Reader T.me_Reader_make G1 (hr.mono (by first | decide | omega)) b1 .nil passR)))))))), ?_⟩
  obtain ⟨_, rfl, c, M, j, d, ss, rs, es, cs, t, n, rfl, h, ht, hd, hde, hn, hcz, hsz, kf, kk⟩ := h
  have hjl : j < c.ts.length := (List.getElem?_eq_some_iff.mp ht).1
  have ew : comesB t.tok "word" (S (word "when")) = tokEq t.tok (.name (word "when")) := comes_word t.tok (by decide +kernel)
  have nw : ∀ b : String, nextWord b (c.ts.drop j) = tokEq t.tok (.name (word b)) := fun b => by rw [drop_tok ht]; rfl
  have edrop : (c.ts.drop j).drop 1 = c.ts.drop (j + 1) := by rw [drop_tok ht]; rfl
  have e1 : stmt1 ss n d (c.ts.drop j) = if tokEq t.tok (.name (word "say")) = true then (sayR (c.ts.drop (j + 1))).map fun x => (.say x.1 .done, x.2)
      else if tokEq t.tok (.name (word "call")) = true then (callR (c.ts.drop (j + 1))).map fun x => (.call x.1 .done, x.2)
      else if tokEq t.tok (.name (word "make")) = true then (takePieces ss ((c.ts.drop j).length + 1) [] (c.ts.drop (j + 1))).map fun x => (.make x.1 .done, x.2)
      else whenR ss n d (c.ts.drop j) := by
    unfold stmt1
    rw [nw, nw, nw, edrop]
  rw [e1] at kf kk
  refine ⟨_, rfl, c.r, c.dx, _, rfl, h.ins, n_Reader_comes, _, _, _, rfl, c, M, j, d, ss, rs, es, cs, t, "word", S (word "when"), rfl, rfl, str_when, h, ht, by decide +kernel, strOk_S _, fun H1 e1 => ?_⟩
  have h1 := h.same' e1
  have n1 : Nx c M H M H1 := Nx.of e1
  rw [ew]
  refine ⟨_, rfl, ?_⟩
  cases hwb : tokEq t.tok (.name (word "when")) with
  | true =>
    have et := tokEq_name hwb
    have f1 : tokEq t.tok (.name (word "say")) = false := by rw [et]; decide +kernel
    have f2 : tokEq t.tok (.name (word "call")) = false := by rw [et]; decide +kernel
    have f3 : tokEq t.tok (.name (word "make")) = false := by rw [et]; decide +kernel
    rw [f1, f2, f3] at kf kk
    exact ⟨_, rfl, c.r, c.dx, _, rfl, h1.ins, n_Reader_when, _, rfl, c, M, j, d, ss, rs, es, cs, t, n, rfl, h1, ht, hwb, hd, hde, hn, hcz, hsz, kf, fun x j' u hx hu hj' hcx M' H' q h' n' hq => kk x j' u hx hu hj' hcx M' H' q h' (n1.trans n') hq⟩
  | false =>
    refine ⟨_, rfl, c.r, c.dx, _, rfl, h1.ins, n_Reader_want, ?_⟩
    refine ⟨by show 3 ≤ sizeLine; decide, fun tq htq => ?_⟩
    have e2 : Same H1 (upd H1 tq (.tup [.str "say", .str "call", .str "make"])) := Same.new htq
    have h2 := h1.same' e2
    have n2 := n1.trans (Nx.of e2)
    have htq2 : (upd H1 tq (.tup [.str "say", .str "call", .str "make"])) tq = some (.tup [.str "say", .str "call", .str "make"]) := upd_same
    generalize upd H1 tq (.tup [.str "say", .str "call", .str "make"]) = H2 at e2 h2 n2 htq2
    refine ⟨tq, rfl, ⟨_, SqT.of htq2⟩, fun D hD => ?_⟩
    refine lc_pureT (K := K) (xs := [.str "say", .str "call", .str "make"]) (fun i => ([word "say", word "call", word "make"][i]?).map fun b => V.bl (tokEq t.tok (.name b))) (fun H e => SqT.of (e _ _ htq2)) hD (by show 3 < sizeLine; decide) (fun i x H3 hx e3 Kt Kf kt kf' => ?_) fun H3 e3 hd3 => ?_
    · obtain ⟨b, hb, rfl, hr⟩ := three_at hx
      refine ⟨rfl, _, rfl, c.r, c.dx, _, rfl, (h2.same' e3).ins, n_Reader_comes, _, rfl, _, _, _, rfl, c, M, j, d, ss, rs, es, cs, t, "word", S b, rfl, rfl, rfl, h2.same' e3, ht, by decide +kernel, strOk_S _, fun H4 e4 => ?_⟩
      rw [comes_word t.tok hr]
      exact kt _ _ (by rw [hb]; rfl) e4
    have h3 := h2.same' e3
    have n3 := n2.trans (Nx.of e3)
    rw [picks_at (f := fun b => V.bl (tokEq t.tok (.name b))) (l := [word "say", word "call", word "make"]) (n := [V.str "say", V.str "call", V.str "make"].length) rfl] at hd3
    refine ⟨D, [tokEq t.tok (.name (word "say")), tokEq t.tok (.name (word "call")), tokEq t.tok (.name (word "make"))], rfl, SqL.of hd3, ?_⟩
    refine ⟨_, _, _, rfl, c, M, j, d, ss, rs, es, cs, t, [tokEq t.tok (.name (word "say")), tokEq t.tok (.name (word "call")), tokEq t.tok (.name (word "make"))].any id, 3, rfl, rfl, rfl, h3, ht, fun z => ?_, fun z => ?_⟩
    · have z : (tokEq t.tok (.name (word "say")) || (tokEq t.tok (.name (word "call")) || (tokEq t.tok (.name (word "make")) || false))) = false := z
      have f1 : tokEq t.tok (.name (word "say")) = false := by cases q : tokEq t.tok (.name (word "say")) with | true => rw [q] at z; cases z | false => rfl
      rw [f1, Bool.false_or] at z
      have f2 : tokEq t.tok (.name (word "call")) = false := by cases q : tokEq t.tok (.name (word "call")) with | true => rw [q] at z; cases z | false => rfl
      rw [f2, Bool.false_or] at z
      have f3 : tokEq t.tok (.name (word "make")) = false := by cases q : tokEq t.tok (.name (word "make")) with | true => rw [q] at z; cases z | false => rfl
      rw [f1, f2, f3] at kf
      refine kf _ ?_
      show whenR ss n d (c.ts.drop j) = _
      unfold whenR
      rw [drop_tok ht]
      show Except.bind (if tokEq t.tok (.name (word "when")) = true then _ else _) _ = _
      rw [hwb]
      rfl
    · refine ⟨_, rfl, c.r, c.dx, _, rfl, h3.ins, n_Reader_take, _, rfl, c, M, j, d, ss, rs, es, cs, t, rfl, h3, ht, fun H4 h4 n4 => ?_⟩
      have n4 := n3.trans n4
      have hl1 : (c.ts.drop (j + 1)).length < (c.ts.drop j).length + 1 := by rw [List.length_drop, List.length_drop]; omega
      cases q1 : tokEq t.tok (.name (word "say")) with
      | true =>
        have et := tokEq_name q1
        obtain ⟨_, u, hu⟩ := h.tk.next ht (by rw [et]; exact fun z => nomatch z)
        rw [q1, if_pos rfl] at kf kk
        rw [show (tokS t.tok).2 = V.str "say" by rw [et, str_say]; rfl]
        refine ⟨_, rfl, rfl, _, rfl, ?_⟩
        refine ⟨_, rfl, c.r, c.dx, _, rfl, h4.ins, n_Reader_say, _, rfl, c, M, j + 1, d, ss, rs, es, cs, u, rfl, h4, hu, fun f hf => kf _ (by rw [hf]; rfl), fun k j' u' hk hu' hj' M' H' q h' n' hq => ?_⟩
        refine kk (.say k .done) j' u' (by rw [hk]; rfl) hu' (by omega) (by show 0 + j ≤ j'; omega) M' H' q ?_ (n4.trans n') ⟨q, [], rfl, hq, rfl⟩
        rw [show callsR (.say k .done) = [] from rfl, List.append_nil]
        exact h'
      | false =>
        rw [q1, if_neg Bool.false_ne_true] at kf kk
        cases q2 : tokEq t.tok (.name (word "call")) with
        | true =>
          have et := tokEq_name q2
          obtain ⟨_, u, hu⟩ := h.tk.next ht (by rw [et]; exact fun z => nomatch z)
          rw [q2, if_pos rfl] at kf kk
          rw [show (tokS t.tok).2 = V.str "call" by rw [et, str_call]; rfl]
          refine ⟨_, rfl, rfl, _, rfl, ?_⟩
          refine ⟨_, rfl, rfl, _, rfl, ?_⟩
          refine ⟨_, rfl, c.r, c.dx, _, rfl, h4.ins, n_Reader_call, _, rfl, c, M, j + 1, d, ss, rs, es, cs, u, rfl, h4, hu, by omega, fun f hf => kf _ (by rw [hf]; rfl), fun k j' u' hk hu' hj' M' H' q h' n' hq => ?_⟩
          exact kk (.call k .done) j' u' (by rw [hk]; rfl) hu' (by omega) (by show 1 + j ≤ j'; omega) M' H' q h' (n4.trans n') ⟨q, [], rfl, hq, rfl⟩
        | false =>
          rw [q2, if_neg Bool.false_ne_true] at kf kk
          have q3 : tokEq t.tok (.name (word "make")) = true := by
            have z : (tokEq t.tok (.name (word "say")) || (tokEq t.tok (.name (word "call")) || (tokEq t.tok (.name (word "make")) || false))) = true := z
            rw [q1, q2, Bool.false_or, Bool.false_or, Bool.or_false] at z
            exact z
          have et := tokEq_name q3
          obtain ⟨_, u, hu⟩ := h.tk.next ht (by rw [et]; exact fun z => nomatch z)
          rw [q3, if_pos rfl] at kf kk
          rw [show (tokS t.tok).2 = V.str "make" by rw [et, str_make]; rfl]
          refine ⟨_, rfl, rfl, _, rfl, ?_⟩
          refine ⟨_, rfl, rfl, _, rfl, ?_⟩
          refine ⟨_, rfl, c.r, c.dx, _, rfl, h4.ins, n_Reader_make, _, rfl, c, M, j + 1, d, ss, rs, es, cs, u, (c.ts.drop j).length + 1, rfl, h4, hu, hl1, fun f hf => kf _ (by rw [hf]; rfl), fun k j' u' hk hu' hj' M' H' q h' n' hq => ?_⟩
          refine kk (.make k .done) j' u' (by rw [hk]; rfl) hu' (by omega) (by show 0 + j ≤ j'; omega) M' H' q ?_ (n4.trans n') ⟨q, [], rfl, hq, rfl⟩
          rw [show callsR (.make k .done) = [] from rfl, List.append_nil]
          exact h'
theorem ok_Reader_block (T : Tx K mg) : ∀ e, FK P w K mg base (L2.CX P w) (3 * e + 7) (He.ma K (He.ga K "Reader") "block") ["self"] (spBlock K e) := by
  intro e
  induction e with
  | zero =>
    obtain ⟨fd, F⟩ := T.f_Reader_block
    refine ⟨fd, F.ok sc_Reader_block (fun vs H Q E h => Sp1.len h) (fun cdv A outer s H vs Q E hr h => ?_), F.bindsN (fun _ _ _ _ _ _ us hl => match us, hl with | [_], _ => rfl), F.kp⟩
    obtain ⟨_, _, c, M, j, d, ss, rs, es, cs, t, n, _, _, _, hd, hde, _⟩ := h
    omega
  | succ e ih => exact ok_block_of T e (ok_stmt_of T e (ok_when_of T e ih))
end
end Wk
set_option maxHeartbeats 2000000
namespace Wk
open PySem PySem.Spec PyProof.Rows L2
open VakepBase (PTok Toks PName tokEq here wrong next nextWord taken takeWord takeSign takeName word)
open Vakepa (Raw RawPart Piece takeValues takePieces takeNat takeStmts takeParts takeStarts takeSets solve solveParts Prog)
def partR (ss : List ASet) (rs : List RawPart) (l : Toks) : Except VakepBase.Fault (RawPart × Toks) := if 10 ≤ rs.length then .error ⟨4, here l⟩ else (takeName (l.drop 1)).bind fun x => if rs.any (fun p => p.name == x.1.name) = true ∨ ss.any (fun s => s.name == x.1.name) = true then .error ⟨5, x.1.place⟩ else (takeWord "size" x.2).bind fun r => (takeNat 99 r).bind fun k =>
  ((takeSign 123 k.2).bind fun r => takeStmts ss (r.length + 1) 0 r).map fun b => (⟨x.1.name, k.1, b.1⟩, b.2)
theorem takeParts_step (ss : List ASet) (n : Nat) (rs : List RawPart) (l : Toks) : takeParts ss (n + 1) rs l = if nextWord "part" l = true then (partR ss rs l).bind fun p => takeParts ss n (rs ++ [p.1]) p.2 else if rs.isEmpty = true then wrong l else .ok (rs, l) := by
  rw [takeParts]
  unfold partR
  have e10 : Vakepa.PARTS = 10 := rfl
  have e99 : Vakepa.SIZE = 99 := rfl
  rw [e10, e99]
  split
  · split
    · rfl
    · cases takeName (l.drop 1) with
      | error f => rfl
      | ok x =>
        show (if rs.any (fun p => p.name == x.1.name) = true ∨ ss.any (fun s => s.name == x.1.name) = true then _ else _) = Except.bind (if rs.any (fun p => p.name == x.1.name) = true ∨ ss.any (fun s => s.name == x.1.name) = true then _ else _) _
        split
        · rfl
        · cases takeWord "size" x.2 with
          | error f => rfl
          | ok r =>
            show (takeNat 99 r).bind _ = Except.bind ((takeNat 99 r).bind _) _
            cases takeNat 99 r with
            | error f => rfl
            | ok k =>
              show (takeSign 123 k.2).bind _ = Except.bind (Except.map _ ((takeSign 123 k.2).bind _)) _
              cases takeSign 123 k.2 with
              | error f => rfl
              | ok r =>
                show (takeStmts ss (r.length + 1) 0 r).bind _ = Except.bind (Except.map _ (takeStmts ss (r.length + 1) 0 r)) _
                cases takeStmts ss (r.length + 1) 0 r with
                | error f => rfl
                | ok b => rfl
  · rfl
theorem body_fuel (ss : List ASet) (t : PTok) (l : Toks) : ((takeSign 123 (t :: l)).bind fun r => takeStmts ss (r.length + 1) 0 r) = ((takeSign 123 (t :: l)).bind fun r => takeStmts ss (l.length + 1) 0 r) := by
  show Except.bind (if tokEq t.tok (.sign 123) = true then _ else _) _ = Except.bind (if tokEq t.tok (.sign 123) = true then _ else _) _
  split <;> rfl
def entryR (names : List Bytes) (es : List Nat) (l : Toks) : Except VakepBase.Fault (Nat × Toks) := (takeName l).bind fun x => if 4 ≤ es.length then .error ⟨4, x.1.place⟩ else match names.findIdx? fun y => y == x.1.name with
  | none => .error ⟨8, x.1.place⟩
  | some k => if es.contains k = true then .error ⟨6, x.1.place⟩ else .ok (k, x.2)
theorem takeStarts_step (names : List Bytes) (n : Nat) (es : List Nat) (l : Toks) : takeStarts names (n + 1) es l = (entryR names es l).bind fun k => if next (.sign 44) k.2 = true then takeStarts names n (es ++ [k.1]) (k.2.drop 1) else (takeSign 59 k.2).bind fun m => if next .last m = true then .ok (es ++ [k.1]) else wrong m := by
  rw [takeStarts]
  unfold entryR
  have e4 : Vakepa.STARTS = 4 := rfl
  rw [e4]
  cases takeName l with
  | error f => rfl
  | ok x =>
    show (if 4 ≤ es.length then _ else _) = Except.bind (if 4 ≤ es.length then _ else _) _
    split
    · rfl
    · show (match names.findIdx? fun y => y == x.1.name with | none => _ | some k => _) = Except.bind (match names.findIdx? fun y => y == x.1.name with | none => _ | some k => _) _
      cases names.findIdx? fun y => y == x.1.name with
      | none => rfl
      | some k =>
        show (if es.contains k = true then _ else _) = Except.bind (if es.contains k = true then _ else _) _
        split <;> rfl
/-- what is left of the entries, the last of them just read -/
def EI (names : List Bytes) (ts : Toks) (R : Except VakepBase.Fault (List Nat)) (es : List Nat) (i : Nat) : Prop := ∃ n, (ts.drop i).length ≤ n ∧ R = if next (.sign 44) (ts.drop i) = true then takeStarts names n es ((ts.drop i).drop 1) else (takeSign 59 (ts.drop i)).bind fun m => if next .last m = true then .ok es else wrong m
theorem starts_word {names : List Bytes} {ts : Toks} {R : Except VakepBase.Fault (List Nat)} {n j : Nat} {es : List Nat} (hj : j < ts.length) (hn : (ts.drop j).length < n) (hR : R = takeStarts names n es (ts.drop j)) :
    (∀ f, entryR names es (ts.drop j) = .error f → R = .error f) ∧ (∀ k, entryR names es (ts.drop j) = .ok (k, ts.drop (j + 1)) → EI names ts R (es ++ [k]) (j + 1)) := by
  obtain ⟨m, rfl⟩ : ∃ m, n = m + 1 := ⟨n - 1, by omega⟩
  rw [takeStarts_step] at hR
  refine ⟨fun f h => ?_, fun k h => ⟨m, ?_, ?_⟩⟩
  · rw [hR, h]; rfl
  · rw [List.length_drop] at hn ⊢
    omega
  · rw [hR, h]; rfl
theorem EI.more {names : List Bytes} {ts : Toks} {R : Except VakepBase.Fault (List Nat)} {es : List Nat} {i : Nat} {t : PTok} (h : EI names ts R es i) (ht : ts[i]? = some t) : (tokEq t.tok (.sign 44) = true → ∃ n, (ts.drop (i + 1)).length < n ∧ R = takeStarts names n es (ts.drop (i + 1))) ∧
    (tokEq t.tok (.sign 44) = false → tokEq t.tok (.sign 59) = false → R = .error ⟨3, t.place⟩) ∧ (tokEq t.tok (.sign 44) = false → tokEq t.tok (.sign 59) = true → R = if next .last (ts.drop (i + 1)) = true then .ok es else wrong (ts.drop (i + 1))) := by
  obtain ⟨n, hn, hR⟩ := h
  rw [drop_tok ht] at hn hR
  rw [List.length_cons] at hn
  have e1 : next (.sign 44) (t :: ts.drop (i + 1)) = tokEq t.tok (.sign 44) := rfl
  have e2 : takeSign 59 (t :: ts.drop (i + 1)) = if tokEq t.tok (.sign 59) = true then .ok (ts.drop (i + 1)) else .error ⟨3, t.place⟩ := rfl
  rw [e1, e2] at hR
  refine ⟨fun h => ⟨n, by omega, ?_⟩, fun h h2 => ?_, fun h h2 => ?_⟩
  · rw [hR, if_pos h]; rfl
  · rw [hR, h, h2]; rfl
  · rw [hR, h, h2]; rfl
/-! ### calls by number -/
def solved (names : List Bytes) : Raw → Stm
  | .done => .done
  | .say k r => .say k (solved names r)
  | .call p r => .call ((names.findIdx? fun y => y == p.name).getD 0) (solved names r)
  | .make ps r => .make ps (solved names r)
  | .when_ x v b r => .when_ x v (solved names b) (solved names r)
/-- a call of no part -/
def bad (names : List Bytes) (p : PName) : Bool := !names.contains p.name
theorem solve_eq (names : List Bytes) : ∀ r, solve names r = match (callsR r).find? (bad names) with
    | some p => .error ⟨9, p.place⟩
    | none => .ok (solved names r)
  | .done => rfl
  | .say k r => by
    show Except.map _ (solve names r) = match (callsR r).find? (bad names) with | some p => _ | none => _
    rw [solve_eq names r]
    cases (callsR r).find? (bad names) <;> rfl
  | .make ps r => by
    show Except.map _ (solve names r) = match (callsR r).find? (bad names) with | some p => _ | none => _
    rw [solve_eq names r]
    cases (callsR r).find? (bad names) <;> rfl
  | .call p r => by
    show (match names.findIdx? fun y => y == p.name with | none => _ | some k => Except.map _ (solve names r)) = match (p :: callsR r).find? (bad names) with | some p => _ | none => _
    rw [List.find?_cons]
    have hb : bad names p = !(names.findIdx? fun y => y == p.name).isSome := by unfold bad; rw [find_of_contains]
    rw [hb]
    show _ = match (match !(names.findIdx? fun y => y == p.name).isSome with | true => some p | false => (callsR r).find? (bad names)) with | some p => _ | none => Except.ok (Vakepa.Stmt.call ((names.findIdx? fun y => y == p.name).getD 0) (solved names r))
    cases names.findIdx? fun y => y == p.name with
    | none => rfl
    | some k =>
      show Except.map _ (solve names r) = match (callsR r).find? (bad names) with | some p => _ | none => _
      rw [solve_eq names r]
      cases (callsR r).find? (bad names) <;> rfl
  | .when_ x v b r => by
    show Except.bind (solve names b) _ = match (callsR b ++ callsR r).find? (bad names) with | some p => _ | none => _
    rw [List.find?_append, solve_eq names b]
    cases (callsR b).find? (bad names) with
    | some p => rfl
    | none =>
      show Except.map _ (solve names r) = match (callsR r).find? (bad names) with | some p => _ | none => _
      rw [solve_eq names r]
      cases (callsR r).find? (bad names) <;> rfl
def callsP (rs : List RawPart) : List PName := rs.flatMap fun r => callsR r.body
theorem solveParts_eq (names : List Bytes) : ∀ rs, solveParts names rs = match (callsP rs).find? (bad names) with
    | some p => .error ⟨9, p.place⟩
    | none => .ok (rs.map fun r => ⟨r.name, r.size, solved names r.body⟩)
  | [] => rfl
  | r :: rs => by
    show Except.bind (solve names r.body) _ = match (callsR r.body ++ callsP rs).find? (bad names) with | some p => _ | none => _
    rw [List.find?_append, solve_eq]
    cases (callsR r.body).find? (bad names) with
    | some p => rfl
    | none =>
      show Except.map _ (solveParts names rs) = match (callsP rs).find? (bad names) with | some p => _ | none => _
      rw [solveParts_eq names rs]
      cases (callsP rs).find? (bad names) <;> rfl
/-- statements, once calls are numbers -/
theorem RawV.solved {pr : Prog} {names : List Bytes} {M : Hp} (hn : ∀ (k : Nat) (b : Bytes), names[k]? = some b → Vakepa.nameOf pr k = b) : ∀ {r : Raw} {xs : List V}, RawV pr.sets M r xs → (callsR r).find? (bad names) = none → StV pr M (Wk.solved names r) xs
  | .done, _, h, _ => h
  | .say _ r, _, ⟨t, ys, a, b, c⟩, q => ⟨t, ys, a, b, RawV.solved hn (r := r) c q⟩
  | .make _ r, _, ⟨t, ys, a, b, c⟩, q => ⟨t, ys, a, b, RawV.solved hn (r := r) c q⟩
  | .call p r, _, ⟨t, ys, a, b, c⟩, q => by
    have q : (p :: callsR r).find? (bad names) = none := q
    rw [List.find?_cons] at q
    cases hb : bad names p with
    | true => rw [hb] at q; cases q
    | false =>
      rw [hb] at q
      have hc : names.contains p.name = true := by unfold bad at hb; simpa using hb
      rw [find_of_contains] at hc
      obtain ⟨k, hk⟩ := Option.isSome_iff_exists.mp hc
      obtain ⟨hkl, h1, _⟩ := List.findIdx?_eq_some_iff_getElem.mp hk
      have e : Vakepa.nameOf pr k = p.name := by
        rw [hn k _ (List.getElem?_eq_getElem hkl)]
        exact eq_of_beq h1
      refine ⟨t, ys, a, ?_, RawV.solved hn (r := r) c q⟩
      have e2 : (names.findIdx? fun y => y == p.name).getD 0 = k := by rw [hk]; rfl
      rw [e2, e]
      exact b
  | .when_ x v b r, _, ⟨t, ys, a, ⟨l, zs, b1, b2, b3⟩, c⟩, q => by
    have q : (callsR b ++ callsR r).find? (bad names) = none := q
    rw [List.find?_append] at q
    have q1 : (callsR b).find? (bad names) = none := by
      cases h : (callsR b).find? (bad names) with
      | none => rfl
      | some p => rw [h] at q; cases q
    rw [q1, Option.none_or] at q
    exact ⟨t, ys, a, ⟨l, zs, b1, b2, RawV.solved hn (r := b) b3 q1⟩, RawV.solved hn (r := r) c q⟩
/-- reading tokens -/
def readT (l : Toks) : Except VakepBase.Fault Prog := (takeSets (l.length + 1) [] l).bind fun s => (takeParts s.1 (s.2.length + 1) [] s.2).bind fun p =>
  let names := p.1.map fun x => x.name
  (takeWord "start" p.2).bind fun r => (takeStarts names (r.length + 1) [] r).bind fun e => (solveParts names p.1).map fun ps => ⟨s.1, ps, e⟩
theorem read_eq (b : Bytes) : Vakepa.read b = (VakepBase.tokens b).bind readT := rfl
end Wk
set_option maxHeartbeats 2000000
namespace Wk
open PySem PySem.Spec PyProof.Rows L2
open VakepBase (PTok Toks PName tokEq here wrong next nextWord taken takeWord takeSign takeName word)
open Vakepa (Raw RawPart Piece takeValues takePieces takeNat takeStmts takeParts takeStarts takeSets solve solveParts Prog)
section
variable {P : Program} {w : World} {K : PySem.W.Frag} {mg : Str → Option Value} {base : Heap}
theorem str_size : V.str "size" = V.str (S (word "size")) := by decide +kernel
theorem str_set : V.str "set" = V.str (S (word "set")) := by decide +kernel
theorem str_part : V.str "part" = V.str (S (word "part")) := by decide +kernel
theorem str_start : V.str "start" = V.str (S (word "start")) := by decide +kernel
theorem callsP_app (rs : List RawPart) (x : RawPart) : callsP (rs ++ [x]) = callsP rs ++ callsR x.body := by
  unfold callsP
  rw [List.flatMap_append]
  simp
theorem any_names' (rs : List RawPart) (b : Bytes) : (rs.map (·.name)).contains b = rs.any fun s => s.name == b := by
  induction rs with
  | nil => rfl
  | cons a r ih =>
    rw [List.map_cons, List.contains_cons, ih, List.any_cons]
    congr 1
    exact beq_swap _ _
theorem contains_app (a b : List Bytes) (x : Bytes) : (a ++ b).contains x = (a.contains x || b.contains x) := by
  induction a with
  | nil => rfl
  | cons y r ih => rw [List.cons_append, List.contains_cons, List.contains_cons, ih, Bool.or_assoc]
def spRdPart (K : PySem.W.Frag) : Sp := Sp1 fun s H Q E => ∃ c M j ss rs es cs t, s = .ref c.r ∧ RdAt K c M H j 0 ss rs es cs ∧ c.ts[j]? = some t ∧ t.tok ≠ .last ∧ cs.length + (c.ts.length - j) ≤ 10000 ∧ ss.length < 1000 ∧ (∀ f, partR ss rs (c.ts.drop j) = .error f → FaultR K c E M f) ∧
  (∀ p j' u, partR ss rs (c.ts.drop j) = .ok (p, c.ts.drop j') → c.ts[j']? = some u → j < j' → rs.length < 10 → (callsR p.body).length + j ≤ j' → ∀ M' H', RdAt K c M' H' j' 0 ss (rs ++ [p]) es (cs ++ callsR p.body) → Nx c M H M' H' → Q .non H')
theorem sc_Reader_part : FnScope ["self", "name", "size"] ["self"] (defScope s_Reader_part) := ⟨rfl, rfl, rfl, by decide +kernel, rfl, by decide +kernel, by decide +kernel⟩
theorem ok_Reader_part (T : Tx K mg) : FK P w K mg base (L2.CX P w) (20) (He.ma K (He.ga K "Reader") "part") ["self"] (spRdPart K) := by
  obtain ⟨fd, F⟩ := T.f_Reader_part
  obtain ⟨fd0, G0, b0, k0⟩ := ok_Part___init__ (P := P) (w := w) (base := base) T
  obtain ⟨fd1, G1, b1, k1⟩ := ok_Reader_block (P := P) (w := w) (base := base) T 4
  obtain ⟨fd2, G2, b2, k2⟩ := ok_Reader_read_size (P := P) (w := w) (base := base) T
  obtain ⟨fd3, G3, b3, k3⟩ := ok_Reader_read (P := P) (w := w) (base := base) T
  obtain ⟨fd4, G4, b4, k4⟩ := ok_Reader_read_new_name (P := P) (w := w) (base := base) T
  obtain ⟨fd5, G5, b5, k5⟩ := ok_Program_setting_names (P := P) (w := w) (base := base) T
  obtain ⟨fd6, G6, b6, k6⟩ := ok_Program_part_names (P := P) (w := w) (base := base) T
  obtain ⟨fd7, G7, b7, k7⟩ := ok_Reader_begin (P := P) (w := w) (base := base) T
  refine ⟨fd, F.ok sc_Reader_part (fun vs H Q E h => Sp1.len h) (fun cdv A outer s H vs Q E hr h => ?body), F.bindsN (fun _ _ _ _ _ _ us hl => match us, hl with | [_], _ => rfl), F.kp⟩
  refine ⟨_, (pss_cons (ps_expr (pe_meth (pv 0) T.c_Reader T.me_Reader_begin G7 (hr.mono (by first | decide | omega)) b7 .nil passR (pa_cons (pe_fld (pe_fld (pv 0) rfl) rfl) (pa_cons (C8.pe_gc rfl T.k_MOST_PARTS) pa_nil))))
      (pss_cons (ps_set (i := 1) sc_Reader_part.nd rfl (.inl rfl) (pe_meth (pv 0) T.c_Reader T.me_Reader_read_new_name G4 (hr.mono (by first | decide | omega)) b4 .nil passR (pa_cons (pe_op op_cat (pe_meth0 (pe_fld (pv 0) rfl) T.c_Program T.me_Program_setting_names G5 (hr.mono (by first | decide | omega)) b5 .nil pass0) (pe_meth0 (pe_fld (pv 0) rfl) T.c_Program T.me_Program_part_names G6 (hr.mono (by first | decide | omega)) b6 .nil pass0)) pa_nil)) (hf := (.inr rfl)))
      (pss_cons (ps_expr (pe_meth (pv 0) T.c_Reader T.me_Reader_read G3 (hr.mono (by first | decide | omega)) b3 .nil passR (pa_cons (C8.pe_gc rfl T.k_WORD) (pa_cons pe_str pa_nil))))
      (pss_cons (ps_set (i := 2) sc_Reader_part.nd rfl (.inl rfl) (pe_meth0 (pv 0) T.c_Reader T.me_Reader_read_size G2 (hr.mono (by first | decide | omega)) b2 .nil passR) (hf := (.inr rfl)))
      (pss_one (ps_expr (pe_bm PySem.F.plainAttrs_list PySem.F.slot_list_append PySem.F.type_list_append mt_append (pe_fld (pe_fld (pv 0) rfl) rfl) (pa_cons (pe_make T.m_Part G0 (hr.mono (by first | decide | omega)) rfl T.g_Part b0 .nil pass0 (pa_cons (pv 1) (pa_cons (pv 2) (pa_cons (pe_meth0 (pv 0) T.c_Reader T.me_Reader_block G1 (hr.mono (by first | decide | omega)) b1 .nil passR) pa_nil)))) pa_nil)))))))), ?_⟩
  obtain ⟨_, rfl, c, M, j, ss, rs, es, cs, t, rfl, h, ht, hnl, hcz, hsz, kf, kk⟩ := h
  obtain ⟨_, u, hu⟩ := h.tk.next ht hnl
  have hjl : j < c.ts.length := (List.getElem?_eq_some_iff.mp ht).1
  have e0 : partR ss rs (c.ts.drop j) = if 10 ≤ rs.length then .error ⟨4, t.place⟩ else (takeName (c.ts.drop (j + 1))).bind fun x => if rs.any (fun p => p.name == x.1.name) = true ∨ ss.any (fun s => s.name == x.1.name) = true then .error ⟨5, x.1.place⟩ else (takeWord "size" x.2).bind fun r => (takeNat 99 r).bind fun k =>
      ((takeSign 123 k.2).bind fun r => takeStmts ss (r.length + 1) 0 r).map fun b => (⟨x.1.name, k.1, b.1⟩, b.2) := by
    rw [drop_tok ht]
    rfl
  rw [e0] at kf kk
  obtain ⟨ws, hws, hps⟩ := h.pl
  have hwl : ws.length = rs.length := Paired.length hps
  refine ⟨_, rfl, c.r, c.dx, _, rfl, h.ins, n_Reader_begin, ?_⟩
  refine ⟨_, rfl, c.r, _, c.dx, _, _, rfl, h.ins, T.c_Reader, T.na_Reader_program, l_Reader_program, c.p, _, c.dp, _, _, rfl, h.sub _ _ h.pg, T.c_Program, T.na_Program_parts, l_Program_parts, ?_⟩
  refine ⟨_, _, _, rfl, c, M, j, 0, ss, rs, es, cs, t, c.lp, ws, 10, rfl, rfl, rfl, hws, h, ht, fun h3 => kf _ (by rw [if_pos (by omega)]), fun h3 H1 h1 n1 => ?_⟩
  have h3' : ¬ 10 ≤ rs.length := by omega
  rw [if_neg h3'] at kf kk
  -- the name
  refine ⟨_, rfl, c.r, c.dx, _, rfl, h1.ins, n_Reader_read_new_name, ?_⟩
  refine ⟨_, rfl, c.r, _, c.dx, _, _, rfl, h1.ins, T.c_Reader, T.na_Reader_program, l_Reader_program, c.p, c.dp, _, rfl, h1.sub _ _ h1.pg, n_Program_setting_names, _, rfl, c.p, ss, rfl, h1.sets, by omega, fun q H2 hq e2 hq2 => ?_⟩
  have h2 := h1.same' e2
  refine ⟨_, rfl, c.r, _, c.dx, _, _, rfl, h2.ins, T.c_Reader, T.na_Reader_program, l_Reader_program, c.p, c.dp, _, rfl, h2.sub _ _ h2.pg, n_Program_part_names, _, rfl, c.p, _, rfl, h2.names, by rw [List.length_map]; omega, fun q3 H3 hq3 e3 hq3' => ?_⟩
  have h3 := h2.same' e3
  refine ⟨q, q3, _, _, rfl, rfl, e3 _ _ hq2, hq3', ?_, fun q4 hq4 => ?_⟩
  · rw [strL_len, strL_len, List.length_map, List.length_map]
    exact sz (by omega)
  have e4 : Same H3 (upd H3 q4 (.lst (strL (ss.map (·.name)) ++ strL (rs.map (·.name))))) := Same.new hq4
  have h4 := h3.same' e4
  have n4 := ((n1.trans (Nx.of e2)).trans (Nx.of e3)).trans (Nx.of e4)
  have eL : strL (ss.map (·.name)) ++ strL (rs.map (·.name)) = strL (ss.map (·.name) ++ rs.map (·.name)) := by unfold strL; rw [List.map_append]
  have hc5 : ∀ b, (ss.map (·.name) ++ rs.map (·.name)).contains b = true ↔ (rs.any (fun p => p.name == b) = true ∨ ss.any (fun s => s.name == b) = true) := fun b => by
    rw [contains_app, any_names, any_names', Bool.or_eq_true]
    exact Or.comm
  refine ⟨_, _, rfl, c, M, j + 1, 0, ss, rs, es, cs, u, q4, ss.map (·.name) ++ rs.map (·.name), rfl, rfl, by rw [← eL]; exact upd_same, h4, hu, fun hb => kf _ (by rw [drop_tok hu, takeName_bad hb]; rfl), fun b hb eb hc => kf _ (by
      rw [drop_tok hu, takeName_ok hb eb]
      show (if rs.any (fun p => p.name == b) = true ∨ ss.any (fun s => s.name == b) = true then _ else _) = _
      rw [if_pos ((hc5 b).mp hc)]), fun b hb eb hc H5 h5 n5 => ?_⟩
  have n5 := n4.trans n5
  have hc' : ¬ (rs.any (fun p => p.name == b) = true ∨ ss.any (fun s => s.name == b) = true) := fun z => by rw [(hc5 b).mpr z] at hc; cases hc
  obtain ⟨_, u2, hu2⟩ := h.tk.next hu (isName_last hb)
  have e1 : ((takeName (c.ts.drop (j + 1))).bind fun x => if rs.any (fun p => p.name == x.1.name) = true ∨ ss.any (fun s => s.name == x.1.name) = true then .error ⟨5, x.1.place⟩ else (takeWord "size" x.2).bind fun r => (takeNat 99 r).bind fun k =>
      ((takeSign 123 k.2).bind fun r => takeStmts ss (r.length + 1) 0 r).map fun b => ((⟨x.1.name, k.1, b.1⟩, b.2) : RawPart × Toks)) = if tokEq u2.tok (.name (word "size")) = true then ((takeNat 99 (c.ts.drop (j + 3))).bind fun k =>
      ((takeSign 123 k.2).bind fun r => takeStmts ss (r.length + 1) 0 r).map fun x => ((⟨b, k.1, x.1⟩, x.2) : RawPart × Toks)) else .error ⟨3, u2.place⟩ := by
    rw [drop_tok hu, takeName_ok hb eb]
    show (if rs.any (fun p => p.name == b) = true ∨ ss.any (fun s => s.name == b) = true then _ else _) = _
    rw [if_neg hc', drop_tok hu2]
    show Except.bind (if tokEq u2.tok (.name (word "size")) = true then _ else _) _ = _
    split <;> rfl
  rw [e1] at kf kk
  -- size
  have esz : comesB u2.tok "word" (S (word "size")) = tokEq u2.tok (.name (word "size")) := comes_word u2.tok (by decide +kernel)
  refine ⟨_, rfl, c.r, c.dx, _, rfl, h5.ins, n_Reader_read, _, _, _, rfl, c, M, j + 2, 0, ss, rs, es, cs, u2, "word", S (word "size"), rfl, rfl, str_size, h5, hu2, by decide +kernel, strOk_S _, fun z => kf _ (by rw [← esz, z]; rfl), fun z H6 h6 n6 => ?_⟩
  rw [esz] at z
  rw [if_pos z] at kf kk
  have n6 := n5.trans n6
  obtain ⟨_, u3, hu3⟩ := h.tk.next hu2 (tokEq_name_last z)
  refine ⟨_, rfl, c.r, c.dx, _, rfl, h6.ins, n_Reader_read_size, _, rfl, c, M, j + 3, 0, ss, rs, es, cs, u3, rfl, h6, hu3, fun f hf => kf _ (by rw [hf]; rfl), fun n hn en n1 n99 H7 h7 nx7 => ?_⟩
  have n7 := n6.trans nx7
  obtain ⟨_, u4, hu4⟩ := h.tk.next hu3 (by rw [en]; exact fun z => nomatch z)
  rw [hn] at kf kk
  have e2' : (Except.bind (Except.ok (ε := VakepBase.Fault) (n, c.ts.drop (j + 4))) fun k => ((takeSign 123 k.2).bind fun r => takeStmts ss (r.length + 1) 0 r).map fun x => ((⟨b, k.1, x.1⟩, x.2) : RawPart × Toks)) = ((takeSign 123 (c.ts.drop (j + 4))).bind fun r => takeStmts ss (c.ts.drop (j + 4)).length 0 r).map fun x => (⟨b, n, x.1⟩, x.2) := by
    show Except.map _ ((takeSign 123 (c.ts.drop (j + 4))).bind fun r => takeStmts ss (r.length + 1) 0 r) = _
    rw [drop_tok hu4, body_fuel, List.length_cons]
  rw [e2'] at kf kk
  obtain ⟨ws7, hws7, hps7⟩ := h7.pl
  have hwl7 : ws7.length = rs.length := Paired.length hps7
  refine ⟨_, rfl, c.r, _, c.dx, _, _, rfl, h7.ins, T.c_Reader, T.na_Reader_program, l_Reader_program, c.p, _, c.dp, _, _, rfl, h7.sub _ _ h7.pg, T.c_Program, T.na_Program_parts, l_Program_parts, .inl ⟨rfl, _, SqL.of hws7⟩, ?_⟩
  refine ⟨_, rfl, _, rfl, ?_⟩
  refine ⟨_, rfl, c.r, c.dx, _, rfl, h7.ins, n_Reader_block, _, rfl, c, M, j + 4, 0, ss, rs, es, cs, u4, (c.ts.drop (j + 4)).length, rfl, h7, hu4, by decide, by decide, Nat.le_refl _, by omega, hsz, fun f hf => kf _ (by rw [hf]; rfl), fun x j' u' hx hu' hj' hcx M8 H8 q8 xs h8 n8 hq8 hxs => ?_⟩
  have n8 := n7.trans n8
  refine fun a da ha hda hne => ?_
  have e9 : Same H8 (upd (upd H8 da (.own a)) a (.ins (cPart K) da [])) := Same.trans (Same.new hda) (Same.new (by rw [upd_ne hne.symm]; exact ha))
  refine ⟨_, _, _, _, rfl, a, da, rfl, upd_same, ?_⟩
  refine ⟨rfl, ?_⟩
  rw [upd_upd]
  have e10 : Same H8 (upd (upd H8 da (.own a)) a (.ins (cPart K) da (F_Part (.str (S b)) (.int (n : Int)) (.ref q8)))) := Same.trans (Same.new hda) (Same.new (by rw [upd_ne hne.symm]; exact ha))
  have h10 := h8.same' e10
  obtain ⟨h11, g11⟩ := h10.fix (t := a) upd_same (gone h8.sub ha) (mu_not h8 ha)
  have n11 := (n8.trans (Nx.of e10)).fix (o := HO.ins (cPart K) da (F_Part (.str (S b)) (.int (n : Int)) (.ref q8))) (n8.live a ha) (gone h8.sub ha)
  obtain ⟨ws8, hws8, hps8⟩ := h8.pl
  have hwl8 : ws8.length = rs.length := Paired.length hps8
  refine ⟨c.lp, ws8, .ref a, rfl, rfl, e10 _ _ hws8, szl (by omega), ?_⟩
  have h12 := h11.addPart (e10 _ _ hws8) (v := .ref a) (x := ⟨b, n, x⟩) ⟨a, da, q8, xs, rfl, upd_same, g11 _ _ hq8, hxs.same g11⟩
  exact kk ⟨b, n, x⟩ j' u' (by rw [hx]; rfl) hu' (by omega) (by omega) (by show (callsR x).length + j ≤ j'; omega) _ _ h12 (n11.mut mu_lp)
def spRdEntry (K : PySem.W.Frag) : Sp := Sp1 fun s H Q E => ∃ c M j d ss rs es cs t, s = .ref c.r ∧ RdAt K c M H j d ss rs es cs ∧ c.ts[j]? = some t ∧ rs.length < 1000 ∧ (∀ f, entryR (rs.map (·.name)) es (c.ts.drop j) = .error f → FaultR K c E M f) ∧
  (∀ k u, entryR (rs.map (·.name)) es (c.ts.drop j) = .ok (k, c.ts.drop (j + 1)) → c.ts[j + 1]? = some u → es.length < 4 → ∀ H', RdAt K c M H' (j + 1) d ss rs (es ++ [k]) cs → Nx c M H M H' → Q .non H')
theorem sc_Reader_entry : FnScope ["self", "name", "number"] ["self"] (defScope s_Reader_entry) := ⟨rfl, rfl, rfl, by decide +kernel, rfl, by decide +kernel, by decide +kernel⟩
theorem ok_Reader_entry (T : Tx K mg) : FK P w K mg base (L2.CX P w) (5) (He.ma K (He.ga K "Reader") "entry") ["self"] (spRdEntry K) := by
  obtain ⟨fd, F⟩ := T.f_Reader_entry
  obtain ⟨fd0, G0, b0, k0⟩ := ok_Reader_take (P := P) (w := w) (base := base) T
  obtain ⟨fd1, G1, b1, k1⟩ := ok_Reader_want (P := P) (w := w) (base := base) T
  obtain ⟨fd2, G2, b2, k2⟩ := ok_Program_number_of (P := P) (w := w) (base := base) T
  obtain ⟨fd3, G3, b3, k3⟩ := ok_Reader_next_name (P := P) (w := w) (base := base) T
  refine ⟨fd, F.ok sc_Reader_entry (fun vs H Q E h => Sp1.len h) (fun cdv A outer s H vs Q E hr h => ?body), F.bindsN (fun _ _ _ _ _ _ us hl => match us, hl with | [_], _ => rfl), F.kp⟩
  refine ⟨_, (pss_cons (ps_set (i := 1) sc_Reader_entry.nd rfl (.inl rfl) (pe_meth0 (pv 0) T.c_Reader T.me_Reader_next_name G3 (hr.mono (by first | decide | omega)) b3 .nil passR) (hf := (.inr rfl)))
      (pss_cons (ps_set (i := 2) sc_Reader_entry.nd rfl (.inl rfl) (pe_meth (pe_fld (pv 0) rfl) T.c_Program T.me_Program_number_of G2 (hr.mono (by first | decide | omega)) b2 .nil pass0 (pa_cons (pv 1) pa_nil)) (hf := (.inr rfl)))
      (pss_cons (ps_expr (pe_meth (pv 0) T.c_Reader T.me_Reader_want G1 (hr.mono (by first | decide | omega)) b1 .nil passR (pa_cons (pe_cmpR op_lt (pe_callB call_lenK rfl T.n_len boot_len (pa_cons (pe_fld (pe_fld (pv 0) rfl) rfl) pa_nil)) (C8.pe_gc rfl T.k_MOST_ENTRIES) (nomark _)) (pa_cons (C8.pe_gc rfl T.k_TOO_MANY) pa_nil))))
      (pss_cons (ps_expr (pe_meth (pv 0) T.c_Reader T.me_Reader_want G1 (hr.mono (by first | decide | omega)) b1 .nil passR (pa_cons (pe_or (pe_cmpR op_isN (pv 2) pe_non (nomark _)) (pe_one (pe_cmpR op_notIn_seq (pv 2) (pe_fld (pe_fld (pv 0) rfl) rfl) rfl))) (pa_cons (C8.pe_gc rfl T.k_TWICE) pa_nil))))
      (pss_cons (ps_expr (pe_meth (pv 0) T.c_Reader T.me_Reader_want G1 (hr.mono (by first | decide | omega)) b1 .nil passR (pa_cons (pe_cmpR op_notN (pv 2) pe_non (nomark _)) (pa_cons (C8.pe_gc rfl T.k_NO_SUCH) pa_nil))))
      (pss_cons (ps_expr (pe_meth0 (pv 0) T.c_Reader T.me_Reader_take G0 (hr.mono (by first | decide | omega)) b0 .nil pass0))
      (pss_one (ps_expr (pe_bm PySem.F.plainAttrs_list PySem.F.slot_list_append PySem.F.type_list_append mt_append (pe_fld (pe_fld (pv 0) rfl) rfl) (pa_cons (pv 2) pa_nil)))))))))), ?_⟩
  obtain ⟨_, rfl, c, M, j, d, ss, rs, es, cs, t, rfl, h, ht, hrz, kf, kk⟩ := h
  refine ⟨_, rfl, c.r, c.dx, _, rfl, h.ins, n_Reader_next_name, _, rfl, c, M, j, d, ss, rs, es, cs, t, rfl, h, ht, fun hb => kf _ (by unfold entryR; rw [drop_tok ht, takeName_bad hb]; rfl), fun hb => ?_⟩
  obtain ⟨b, eb, ev⟩ := name_of hb
  rw [ev]
  obtain ⟨_, u, hu⟩ := h.tk.next ht (isName_last hb)
  have e0 : entryR (rs.map (·.name)) es (c.ts.drop j) = if 4 ≤ es.length then .error ⟨4, t.place⟩ else match (rs.map (·.name)).findIdx? (· == b) with
      | none => .error ⟨8, t.place⟩
      | some k => if es.contains k = true then .error ⟨6, t.place⟩ else .ok (k, c.ts.drop (j + 1)) := by
    unfold entryR
    rw [drop_tok ht, takeName_ok hb eb]
    rfl
  rw [e0] at kf kk
  refine ⟨_, rfl, c.r, _, c.dx, _, _, rfl, h.ins, T.c_Reader, T.na_Reader_program, l_Reader_program, c.p, c.dp, _, rfl, h.sub _ _ h.pg, n_Program_number_of, ?_⟩
  refine ⟨_, rfl, _, _, rfl, c.p, _, b, rfl, rfl, h.names, by rw [List.length_map]; omega, fun H1 e1 => ?_⟩
  have h1 := h.same' e1
  have n1 : Nx c M H M H1 := Nx.of e1
  refine ⟨_, rfl, c.r, c.dx, _, rfl, h1.ins, n_Reader_want, ?_⟩
  refine ⟨_, rfl, c.r, _, c.dx, _, _, rfl, h1.ins, T.c_Reader, T.na_Reader_program, l_Reader_program, c.p, _, c.dp, _, _, rfl, h1.sub _ _ h1.pg, T.c_Program, T.na_Program_entries, l_Program_entries, c.le, _, rfl, .inl (SqL.of h1.el), _, _, rfl, rfl, ?_⟩
  refine ⟨_, _, _, rfl, c, M, j, d, ss, rs, es, cs, t, decide (((natL es).length : Int) < 4), 4, rfl, rfl, rfl, h1, ht, fun z => kf _ (if_pos ?_), fun z => ?_⟩
  · have := of_decide_eq_false z
    rw [natL_len] at this
    omega
  have h4 : ¬ 4 ≤ es.length := by
    have := of_decide_eq_true z
    rw [natL_len] at this
    omega
  rw [if_neg h4] at kf kk
  refine ⟨_, rfl, c.r, c.dx, _, rfl, h1.ins, n_Reader_want, ?_⟩
  refine ⟨_, rfl, rfl, _, rfl, ?_⟩
  cases hf : (rs.map (·.name)).findIdx? (· == b) with
  | none =>
    rw [hf] at kf
    refine ⟨_, _, _, rfl, c, M, j, d, ss, rs, es, cs, t, true, 6, rfl, rfl, rfl, h1, ht, (fun z => nomatch z), fun _ => ?_⟩
    refine ⟨_, rfl, c.r, c.dx, _, rfl, h1.ins, n_Reader_want, ?_⟩
    refine ⟨_, rfl, rfl, ?_⟩
    exact ⟨_, _, _, rfl, c, M, j, d, ss, rs, es, cs, t, false, 8, rfl, rfl, rfl, h1, ht, fun _ => kf _ rfl, (fun z => nomatch z)⟩
  | some k =>
    rw [hf] at kf kk
    refine ⟨_, rfl, _, rfl, c.r, _, c.dx, _, _, rfl, h1.ins, T.c_Reader, T.na_Reader_program, l_Reader_program, c.p, _, c.dp, _, _, rfl, h1.sub _ _ h1.pg, T.c_Program, T.na_Program_entries, l_Program_entries, c.le, _, rfl, .inl (SqL.of h1.el), rfl, natL_flat _, ?_⟩
    have ei := inV_N k es
    refine ⟨_, _, _, rfl, c, M, j, d, ss, rs, es, cs, t, !inV (.int (k : Int)) (natL es), 6, rfl, rfl, rfl, h1, ht, fun z => kf _ ?_, fun z => ?_⟩
    · rw [ei] at z
      show (if es.contains k = true then _ else _) = _
      rw [if_pos (by simpa using z)]
    have hck : es.contains k = false := by rw [ei] at z; simpa using z
    refine ⟨_, rfl, c.r, c.dx, _, rfl, h1.ins, n_Reader_want, ?_⟩
    refine ⟨_, rfl, rfl, ?_⟩
    refine ⟨_, _, _, rfl, c, M, j, d, ss, rs, es, cs, t, true, 8, rfl, rfl, rfl, h1, ht, (fun z => nomatch z), fun _ => ?_⟩
    refine ⟨_, rfl, c.r, c.dx, _, rfl, h1.ins, n_Reader_take, _, rfl, c, M, j, d, ss, rs, es, cs, t, rfl, h1, ht, fun H2 h2 n2 => ?_⟩
    have n2 := n1.trans n2
    refine ⟨_, rfl, c.r, _, c.dx, _, _, rfl, h2.ins, T.c_Reader, T.na_Reader_program, l_Reader_program, c.p, _, c.dp, _, _, rfl, h2.sub _ _ h2.pg, T.c_Program, T.na_Program_entries, l_Program_entries, .inl ⟨rfl, _, SqL.of h2.el⟩, ?_⟩
    refine ⟨_, rfl, c.le, natL es, _, rfl, rfl, h2.el, szl (by rw [natL_len]; omega), ?_⟩
    exact kk k u (by show (if es.contains k = true then _ else _) = _; rw [hck]; rfl) hu (by omega) _ (h2.addEntry k) (n2.mut mu_le)
def spStart (K : PySem.W.Frag) : Sp := Sp1 fun s H Q E => ∃ c M j d ss rs cs t n, s = .ref c.r ∧ RdAt K c M H j d ss rs [] cs ∧ c.ts[j]? = some t ∧ rs.length < 1000 ∧ (c.ts.drop j).length ≤ n ∧
  (∀ f, ((takeWord "start" (c.ts.drop j)).bind fun r => takeStarts (rs.map (·.name)) n [] r) = .error f → FaultR K c E M f) ∧
  (∀ es j' u, ((takeWord "start" (c.ts.drop j)).bind fun r => takeStarts (rs.map (·.name)) n [] r) = (if next .last (c.ts.drop j') = true then .ok es else wrong (c.ts.drop j')) → c.ts[j']? = some u → j < j' → es.length ≤ 4 → ∀ H', RdAt K c M H' j' d ss rs es cs → Nx c M H M H' → Q .non H')
theorem sc_Reader_start : FnScope ["self"] ["self"] (defScope s_Reader_start) := ⟨rfl, rfl, rfl, by decide +kernel, rfl, by decide +kernel, by decide +kernel⟩
theorem ok_Reader_start (T : Tx K mg) : FK P w K mg base (L2.CX P w) (6) (He.ma K (He.ga K "Reader") "start") ["self"] (spStart K) := by
  obtain ⟨fd, F⟩ := T.f_Reader_start
  obtain ⟨fd0, G0, b0, k0⟩ := ok_Reader_goes_on (P := P) (w := w) (base := base) T
  obtain ⟨fd1, G1, b1, k1⟩ := ok_Reader_entry (P := P) (w := w) (base := base) T
  obtain ⟨fd2, G2, b2, k2⟩ := ok_Reader_read (P := P) (w := w) (base := base) T
  refine ⟨fd, F.ok sc_Reader_start (fun vs H Q E h => Sp1.len h) (fun cdv A outer s H vs Q E hr h => ?body), F.bindsN (fun _ _ _ _ _ _ us hl => match us, hl with | [_], _ => rfl), F.kp⟩
  refine ⟨_, (pss_cons (ps_expr (pe_meth (pv 0) T.c_Reader T.me_Reader_read G2 (hr.mono (by first | decide | omega)) b2 .nil passR (pa_cons (C8.pe_gc rfl T.k_WORD) (pa_cons pe_str pa_nil))))
      (pss_cons (ps_expr (pe_meth0 (pv 0) T.c_Reader T.me_Reader_entry G1 (hr.mono (by first | decide | omega)) b1 .nil passR))
      (pss_one (ps_while (passes_of rfl) (pt_val (pe_meth (pv 0) T.c_Reader T.me_Reader_goes_on G0 (hr.mono (by first | decide | omega)) b0 .nil passR (pa_cons pe_str pa_nil))) (pss_one (ps_expr (pe_meth0 (pv 0) T.c_Reader T.me_Reader_entry G1 (hr.mono (by first | decide | omega)) b1 .nil passR))))))), ?_⟩
  obtain ⟨_, rfl, c, M, j, d, ss, rs, cs, t, n, rfl, h, ht, hrz, hn, kf, kk⟩ := h
  have hjl : j < c.ts.length := (List.getElem?_eq_some_iff.mp ht).1
  have e0 : ((takeWord "start" (c.ts.drop j)).bind fun r => takeStarts (rs.map (·.name)) n [] r) = if tokEq t.tok (.name (word "start")) = true then takeStarts (rs.map (·.name)) n [] (c.ts.drop (j + 1)) else .error ⟨3, t.place⟩ := by
    rw [drop_tok ht]
    show Except.bind (if tokEq t.tok (.name (word "start")) = true then _ else _) _ = _
    split <;> rfl
  rw [e0] at kf kk
  have est : comesB t.tok "word" (S (word "start")) = tokEq t.tok (.name (word "start")) := comes_word t.tok (by decide +kernel)
  refine ⟨_, rfl, c.r, c.dx, _, rfl, h.ins, n_Reader_read, _, _, _, rfl, c, M, j, d, ss, rs, [], cs, t, "word", S (word "start"), rfl, rfl, str_start, h, ht, by decide +kernel, strOk_S _, fun z => kf _ (by rw [← est, z]; rfl), fun z H1 h1 n1 => ?_⟩
  rw [est] at z
  rw [if_pos z] at kf kk
  obtain ⟨_, u, hu⟩ := h.tk.next ht (tokEq_name_last z)
  have hul : j + 1 < c.ts.length := (List.getElem?_eq_some_iff.mp hu).1
  generalize hR : takeStarts (rs.map (·.name)) n [] (c.ts.drop (j + 1)) = R at kf kk
  obtain ⟨s1, s2⟩ := starts_word (R := R) hul (by rw [List.length_drop] at hn ⊢; omega) hR.symm
  refine ⟨_, rfl, c.r, c.dx, _, rfl, h1.ins, n_Reader_entry, _, rfl, c, M, j + 1, d, ss, rs, [], cs, u, rfl, h1, hu, hrz, fun f hf => kf _ (s1 f hf), fun k u2 hk hu2 h4 H2 h2 n2 => ?_⟩
  have n2 := n1.trans n2
  refine ⟨fun m σ H' => ∃ i es u', σ = [some (.ref c.r)] ∧ c.ts[i]? = some u' ∧ j < i ∧ RdAt K c M H' i d ss rs es cs ∧ Nx c M H M H' ∧ es.length ≤ 4 ∧ EI (rs.map (·.name)) c.ts R es i ∧ m = c.ts.length - i,
    ⟨_, j + 2, [k], u2, rfl, hu2, by omega, h2, n2, by show 1 ≤ 4; decide, s2 k hk, rfl⟩, ?_⟩
  rintro m σ H8 ⟨i, es, u', rfl, hu', hji, h8, n8, hes, ei, rfl⟩
  have hil : i < c.ts.length := (List.getElem?_eq_some_iff.mp hu').1
  obtain ⟨w1, w2, w3⟩ := ei.more hu'
  refine ⟨_, rfl, c.r, c.dx, _, rfl, h8.ins, n_Reader_goes_on, _, _, rfl, c, M, i, d, ss, rs, es, cs, u', 44, rfl, rfl, by decide, h8, hu', fun hb H9 h9 n9 => ?_, fun hb hb2 => kf _ (w2 hb hb2), fun hb hb2 H9 h9 n9 => ?_⟩
  · obtain ⟨n, hn, hR⟩ := w1 hb
    obtain ⟨_, u5, hu5⟩ := h.tk.next hu' (tokEq_last hb)
    have hl5 : i + 1 < c.ts.length := (List.getElem?_eq_some_iff.mp hu5).1
    obtain ⟨s1, s2⟩ := starts_word (R := R) hl5 hn hR
    have n9 := n8.trans n9
    refine ⟨_, rfl, fun σ' H' => ∃ i' es u', σ' = [some (.ref c.r)] ∧ c.ts[i']? = some u' ∧ i < i' ∧ RdAt K c M H' i' d ss rs es cs ∧ Nx c M H M H' ∧ es.length ≤ 4 ∧ EI (rs.map (·.name)) c.ts R es i', ?_, ?_⟩
    · rintro σ' H' ⟨i', es, u', h1, h2, h3, h4, h5, h6, h7⟩
      exact ⟨_, by omega, i', es, u', h1, h2, by omega, h4, h5, h6, h7, rfl⟩
    · exact ⟨_, rfl, c.r, c.dx, _, rfl, h9.ins, n_Reader_entry, _, rfl, c, M, i + 1, d, ss, rs, es, cs, u5, rfl, h9, hu5, hrz, fun f hf => kf _ (s1 f hf), fun k u6 hk hu6 h4 H10 h10 n10 => ⟨i + 2, es ++ [k], u6, rfl, hu6, by omega, h10, n9.trans n10, by rw [List.length_append]; show es.length + 1 ≤ 4; omega, s2 k hk⟩⟩
  · obtain ⟨_, u5, hu5⟩ := h.tk.next hu' (tokEq_last hb2)
    exact ⟨_, rfl, kk es (i + 1) u5 (w3 hb hb2) hu5 (by omega) hes H9 h9 (n8.trans n9)⟩
/-- the whole program -/
def spWhole (K : PySem.W.Frag) : Sp := Sp1 fun s H Q E => ∃ c M t, s = .ref c.r ∧ RdAt K c M H 0 0 [] [] [] [] ∧ c.ts[0]? = some t ∧ c.ts.length ≤ 10000 ∧ M c.f = none ∧ (∀ f, readT c.ts = .error f → FaultR K c E M f) ∧
  (∀ pr, readT c.ts = .ok pr → ∀ H', Pg K pr (del H' c.f) c.p → Same M H' → H' c.f = some (.lst c.fl) → Q (.ref c.p) H')
/-- the loop over settings, over parts -/
def SI (ts : Toks) (R : Except VakepBase.Fault Prog) (ss : List ASet) (i : Nat) : Prop := ∃ n, (ts.drop i).length < n ∧ R = (takeSets n ss (ts.drop i)).bind fun s => (takeParts s.1 (s.2.length + 1) [] s.2).bind fun p =>
  let names := p.1.map fun x => x.name
  (takeWord "start" p.2).bind fun r => (takeStarts names (r.length + 1) [] r).bind fun e => (solveParts names p.1).map fun ps => ⟨s.1, ps, e⟩
def PtI (ts : Toks) (R : Except VakepBase.Fault Prog) (ss : List ASet) (rs : List RawPart) (i : Nat) : Prop := ∃ n, (ts.drop i).length < n ∧ R = (takeParts ss n rs (ts.drop i)).bind fun p =>
  let names := p.1.map fun x => x.name
  (takeWord "start" p.2).bind fun r => (takeStarts names (r.length + 1) [] r).bind fun e => (solveParts names p.1).map fun ps => ⟨ss, ps, e⟩
theorem next_word {ts : Toks} {i : Nat} {t : PTok} (ht : ts[i]? = some t) (b : String) : nextWord b (ts.drop i) = tokEq t.tok (.name (word b)) := by rw [drop_tok ht]; rfl
theorem SI.at_ {ts : Toks} {R : Except VakepBase.Fault Prog} {ss : List ASet} {i : Nat} {t : PTok} (h : SI ts R ss i) (ht : ts[i]? = some t) : (tokEq t.tok (.name (word "set")) = false → PtI ts R ss [] i) ∧
    (tokEq t.tok (.name (word "set")) = true → (∀ f, settingR ss (ts.drop i) = .error f → R = .error f) ∧ ∀ s i', settingR ss (ts.drop i) = .ok (s, ts.drop i') → i < i' → i' ≤ ts.length → SI ts R (ss ++ [s]) i') := by
  obtain ⟨n, hn, hR⟩ := h
  obtain ⟨m, rfl⟩ : ∃ m, n = m + 1 := ⟨n - 1, by omega⟩
  have hi : i < ts.length := (List.getElem?_eq_some_iff.mp ht).1
  rw [takeSets_step, next_word ht] at hR
  refine ⟨fun h => ?_, fun h => ⟨fun f hf => ?_, fun s i' hs h1 h2 => ⟨m, ?_, ?_⟩⟩⟩
  · rw [h, if_neg Bool.false_ne_true] at hR
    exact ⟨_, Nat.lt_succ_self _, hR⟩
  · rw [hR, if_pos h, hf]; rfl
  · rw [List.length_drop] at hn ⊢
    omega
  · rw [hR, if_pos h, hs]; rfl
theorem PtI.at_ {ts : Toks} {R : Except VakepBase.Fault Prog} {ss : List ASet} {rs : List RawPart} {i : Nat} {t : PTok} (h : PtI ts R ss rs i) (ht : ts[i]? = some t) : (tokEq t.tok (.name (word "part")) = false → rs = [] → R = .error ⟨3, t.place⟩) ∧
    (tokEq t.tok (.name (word "part")) = false → rs ≠ [] → R = ((takeWord "start" (ts.drop i)).bind fun r => takeStarts (rs.map (·.name)) ((ts.drop i).length) [] r).bind fun e => (solveParts (rs.map (·.name)) rs).map fun ps => ⟨ss, ps, e⟩) ∧
    (tokEq t.tok (.name (word "part")) = true → (∀ f, partR ss rs (ts.drop i) = .error f → R = .error f) ∧ ∀ s i', partR ss rs (ts.drop i) = .ok (s, ts.drop i') → i < i' → i' ≤ ts.length → PtI ts R ss (rs ++ [s]) i') := by
  obtain ⟨n, hn, hR⟩ := h
  obtain ⟨m, rfl⟩ : ∃ m, n = m + 1 := ⟨n - 1, by omega⟩
  have hi : i < ts.length := (List.getElem?_eq_some_iff.mp ht).1
  rw [takeParts_step, next_word ht] at hR
  refine ⟨fun h e => ?_, fun h e => ?_, fun h => ⟨fun f hf => ?_, fun s i' hs h1 h2 => ⟨m, ?_, ?_⟩⟩⟩
  · rw [hR, h, e, drop_tok ht]; rfl
  · have er : rs.isEmpty = false := by cases rs with | nil => exact absurd rfl e | cons => rfl
    rw [hR, h, er, if_neg Bool.false_ne_true, if_neg Bool.false_ne_true]
    show ((takeWord "start" (ts.drop i)).bind fun r => (takeStarts (rs.map fun x => x.name) (r.length + 1) [] r).bind fun e => _) = _
    rw [drop_tok ht]
    show Except.bind (if tokEq t.tok (.name (word "start")) = true then .ok (ts.drop (i + 1)) else _) _ = Except.bind (Except.bind (if tokEq t.tok (.name (word "start")) = true then .ok (ts.drop (i + 1)) else _) _) _
    split
    · rfl
    · rfl
  · rw [hR, if_pos h, hf]; rfl
  · rw [List.length_drop] at hn ⊢
    omega
  · rw [hR, if_pos h, hs]; rfl
end
end Wk
set_option maxHeartbeats 2000000
namespace Wk
open PySem PySem.Spec PyProof.Rows L2
open VakepBase (PTok Toks PName tokEq here wrong next nextWord taken takeWord takeSign takeName word)
open Vakepa (Raw RawPart Piece takeValues takePieces takeNat takeStmts takeParts takeStarts takeSets solve solveParts Prog)
section
variable {P : Program} {w : World} {K : PySem.W.Frag} {mg : Str → Option Value} {base : Heap}
theorem find_part {rs : List RawPart} {names : List Bytes} (h : (callsP rs).find? (bad names) = none) {x : RawPart} (hx : x ∈ rs) : (callsR x.body).find? (bad names) = none :=
  List.find?_eq_none.mpr fun p hp => List.find?_eq_none.mp h p (List.mem_flatMap.mpr ⟨x, hx, hp⟩)
/-- the reader's program is the specification's -/
theorem RdAt.prog {c : RdC} {M H : Hp} {j d : Nat} {ss : List ASet} {rs : List RawPart} {es : List Nat} {cs : List PName} (h : RdAt K c M H j d ss rs es cs) (hb : (callsP rs).find? (bad (rs.map (·.name))) = none) {pr : Prog} {X : Hp} (sX : Same M X) (hX : ∀ b ∈ c.mu, ∀ o, H b = some o → X b = some o)
    (hpr : pr = ⟨ss, rs.map fun r => ⟨r.name, r.size, solved (rs.map (·.name)) r.body⟩, es⟩) : Pg K pr X c.p := by
  subst hpr
  obtain ⟨vs, hvs, hps⟩ := h.sl
  obtain ⟨ws, hws, hpp⟩ := h.pl
  refine ⟨c.dp, c.ls, c.lp, c.le, vs, ws, sX _ _ h.pg, hX _ mu_ls _ hvs, Paired.mapP hps fun _ _ q => q.same sX, hX _ mu_lp _ hws, ?_, hX _ mu_le _ h.el⟩
  have hn : ∀ (k : Nat) (b : Bytes), (rs.map (·.name))[k]? = some b → Vakepa.nameOf (⟨ss, rs.map fun r => ⟨r.name, r.size, solved (rs.map (·.name)) r.body⟩, es⟩ : Prog) k = b := by
    intro k b hk
    unfold Vakepa.nameOf
    rw [List.getElem?_map] at hk
    rw [List.getElem?_map]
    cases q : rs[k]? with
    | none => rw [q] at hk; cases hk
    | some r => rw [q] at hk; exact Option.some.inj hk
  have go : ∀ {ws : List V} {qs : List RawPart}, (∀ x ∈ qs, x ∈ rs) → Paired (RPartV K ss M) ws qs → Paired (PartV K ⟨ss, rs.map fun r => ⟨r.name, r.size, solved (rs.map (·.name)) r.body⟩, es⟩ X) ws (qs.map fun r => ⟨r.name, r.size, solved (rs.map (·.name)) r.body⟩) := by
    intro ws qs hm hp
    induction hp with
    | nil => exact .nil
    | cons r t ih =>
      obtain ⟨a, dx, l, xs, e1, e2, e3, e4⟩ := r
      refine .cons ⟨a, dx, l, xs, e1, sX _ _ e2, sX _ _ e3, ?_⟩ (ih fun x hx => hm x (List.mem_cons_of_mem _ hx))
      exact (RawV.solved (pr := ⟨ss, rs.map fun r => ⟨r.name, r.size, solved (rs.map (·.name)) r.body⟩, es⟩) hn e4 (find_part hb (hm _ List.mem_cons_self))).same sX
  exact go (fun x hx => hx) hpp
theorem next_last {ts : Toks} {i : Nat} {t : PTok} (ht : ts[i]? = some t) : next .last (ts.drop i) = tokEq t.tok .last := by rw [drop_tok ht]; rfl
theorem sc_Reader_whole : FnScope ["self", "place", "name"] ["self"] (defScope s_Reader_whole) := ⟨rfl, rfl, rfl, by decide +kernel, rfl, by decide +kernel, by decide +kernel⟩
theorem ok_Reader_whole (T : Tx K mg) : FK P w K mg base (L2.CX P w) (21) (He.ma K (He.ga K "Reader") "whole") ["self"] (spWhole K) := by
  obtain ⟨fd, F⟩ := T.f_Reader_whole
  obtain ⟨fd0, G0, b0, k0⟩ := ok_Program_part_names (P := P) (w := w) (base := base) T
  obtain ⟨fd1, G1, b1, k1⟩ := ok_Fault___init__ (P := P) (w := w) (base := base) T
  obtain ⟨fd2, G2, b2, k2⟩ := ok_Reader_read (P := P) (w := w) (base := base) T
  obtain ⟨fd3, G3, b3, k3⟩ := ok_Reader_start (P := P) (w := w) (base := base) T
  obtain ⟨fd4, G4, b4, k4⟩ := ok_Reader_comes (P := P) (w := w) (base := base) T
  obtain ⟨fd5, G5, b5, k5⟩ := ok_Reader_part (P := P) (w := w) (base := base) T
  obtain ⟨fd6, G6, b6, k6⟩ := ok_Reader_want (P := P) (w := w) (base := base) T
  obtain ⟨fd7, G7, b7, k7⟩ := ok_Reader_setting (P := P) (w := w) (base := base) T
  refine ⟨fd, F.ok sc_Reader_whole (fun vs H Q E h => Sp1.len h) (fun cdv A outer s H vs Q E hr h => ?body), F.bindsN (fun _ _ _ _ _ _ us hl => match us, hl with | [_], _ => rfl), F.kp⟩
  refine ⟨_, (pss_cons (ps_while (passes_of rfl) (pt_val (pe_meth (pv 0) T.c_Reader T.me_Reader_comes G4 (hr.mono (by first | decide | omega)) b4 .nil pass0 (pa_cons (C8.pe_gc rfl T.k_WORD) (pa_cons pe_str pa_nil)))) (pss_one (ps_expr (pe_meth0 (pv 0) T.c_Reader T.me_Reader_setting G7 (hr.mono (by first | decide | omega)) b7 .nil passR))))
      (pss_cons (ps_expr (pe_meth (pv 0) T.c_Reader T.me_Reader_want G6 (hr.mono (by first | decide | omega)) b6 .nil passR (pa_cons (pe_meth (pv 0) T.c_Reader T.me_Reader_comes G4 (hr.mono (by first | decide | omega)) b4 .nil pass0 (pa_cons (C8.pe_gc rfl T.k_WORD) (pa_cons pe_str pa_nil))) (pa_cons (C8.pe_gc rfl T.k_MISPLACED) pa_nil))))
      (pss_cons (ps_while (passes_of rfl) (pt_val (pe_meth (pv 0) T.c_Reader T.me_Reader_comes G4 (hr.mono (by first | decide | omega)) b4 .nil pass0 (pa_cons (C8.pe_gc rfl T.k_WORD) (pa_cons pe_str pa_nil)))) (pss_one (ps_expr (pe_meth0 (pv 0) T.c_Reader T.me_Reader_part G5 (hr.mono (by first | decide | omega)) b5 .nil passR))))
      (pss_cons (ps_expr (pe_meth0 (pv 0) T.c_Reader T.me_Reader_start G3 (hr.mono (by first | decide | omega)) b3 .nil passR))
      (pss_cons (ps_expr (pe_meth (pv 0) T.c_Reader T.me_Reader_read G2 (hr.mono (by first | decide | omega)) b2 .nil passR (pa_cons (C8.pe_gc rfl T.k_END) (pa_cons pe_str pa_nil))))
      (pss_cons (ps_for (passes_of rfl) rfl (pi_list (pe_fld (pv 0) rfl)) (pg_tup (n := 2) rfl (pgs_cons (pg_name (i := 1) sc_Reader_whole.nd rfl (.inl rfl) (.inr rfl)) (pgs_cons (pg_name (i := 2) sc_Reader_whole.nd rfl (.inl rfl) (.inr rfl)) pgs_nil))) (pss_one (ps_if (pt_cmpR op_notIn_seq (pv 2) (pe_meth0 (pe_fld (pv 0) rfl) T.c_Program T.me_Program_part_names G0 (hr.mono (by first | decide | omega)) b0 .nil pass0) rfl) (pss_one (ps_raise rfl (takes_of rfl rfl rfl rfl) (pmk_oex T.e_Fault.oc T.e_Fault.ini T.e_Fault.tin G1 (hr.mono (by first | decide | omega)) b1 .nil pass0 rfl T.g_Fault (pa_cons (C8.pe_gc rfl T.k_NO_PART_reading) (pa_cons (pv 1) pa_nil))))) pss_nil)))
      (pss_one (ps_ret (pe_fld (pv 0) rfl))))))))), ?_⟩
  obtain ⟨_, rfl, c, M, t, rfl, h, ht, htz, hMF, kf, kk⟩ := h
  have si : SI c.ts (readT c.ts) [] 0 := ⟨c.ts.length + 1, by rw [List.drop_zero]; omega, by rw [List.drop_zero]; rfl⟩
  generalize readT c.ts = R at si kf kk
  refine ⟨fun m σ H' => ∃ i ss u M', σ = [some (.ref c.r), none, none] ∧ c.ts[i]? = some u ∧ RdAt K c M' H' i 0 ss [] [] [] ∧ Nx c M H M' H' ∧ ss.length ≤ 3 ∧ SI c.ts R ss i ∧ m = c.ts.length - i, ⟨_, 0, [], t, M, rfl, ht, h, Nx.refl, Nat.zero_le _, si, rfl⟩, ?_⟩
  rintro m σ H1 ⟨i, ss, u, M1, rfl, hu, h1, n1, hs3, si, rfl⟩
  have hil : i < c.ts.length := (List.getElem?_eq_some_iff.mp hu).1
  obtain ⟨s1, s2⟩ := si.at_ hu
  have eset : comesB u.tok "word" (S (word "set")) = tokEq u.tok (.name (word "set")) := comes_word u.tok (by decide +kernel)
  refine ⟨_, rfl, c.r, c.dx, _, rfl, h1.ins, n_Reader_comes, _, _, _, rfl, c, M1, i, 0, ss, [], [], [], u, "word", S (word "set"), rfl, rfl, str_set, h1, hu, by decide +kernel, strOk_S _, fun H2 e2 => ?_⟩
  have h2 := h1.same' e2
  have n2 := n1.trans (Nx.of e2)
  rw [eset]
  refine ⟨_, rfl, ?_⟩
  cases hb : tokEq u.tok (.name (word "set")) with
  | true =>
    obtain ⟨f1, f2⟩ := s2 hb
    refine ⟨fun σ' H' => ∃ i' ss u M', σ' = [some (.ref c.r), none, none] ∧ c.ts[i']? = some u ∧ i < i' ∧ RdAt K c M' H' i' 0 ss [] [] [] ∧ Nx c M H M' H' ∧ ss.length ≤ 3 ∧ SI c.ts R ss i', ?_, ?_⟩
    · rintro σ' H' ⟨i', ss, u, M', h1, h2, h3, h4, h5, h6, h7⟩
      exact ⟨_, by omega, i', ss, u, M', h1, h2, h4, h5, h6, h7, rfl⟩
    · refine ⟨_, rfl, c.r, c.dx, _, rfl, h2.ins, n_Reader_setting, _, rfl, c, M1, i, 0, ss, [], [], u, rfl, h2, hu, tokEq_name_last hb, fun f hf => (kf _ (f1 f hf)).mono n2.grow, fun s j' u' hs hu' hj' h3 M3 H3 h3' n3 => ?_⟩
      have hjl : j' < c.ts.length := (List.getElem?_eq_some_iff.mp hu').1
      exact ⟨j', ss ++ [s], u', M3, rfl, hu', hj', h3', n2.trans n3, by rw [List.length_append]; show ss.length + 1 ≤ 3; omega, f2 s j' hs hj' (Nat.le_of_lt hjl)⟩
  | false =>
    have pi := s1 hb
    -- the first part
    have epart : ∀ u : PTok, comesB u.tok "word" (S (word "part")) = tokEq u.tok (.name (word "part")) := fun u => comes_word u.tok (by decide +kernel)
    refine ⟨_, rfl, c.r, c.dx, _, rfl, h2.ins, n_Reader_want, ?_⟩
    refine ⟨_, rfl, c.r, c.dx, _, rfl, h2.ins, n_Reader_comes, _, _, _, rfl, c, M1, i, 0, ss, [], [], [], u, "word", S (word "part"), rfl, rfl, str_part, h2, hu, by decide +kernel, strOk_S _, fun H3 e3 => ?_⟩
    have h3 := h2.same' e3
    have n3 := n2.trans (Nx.of e3)
    rw [epart]
    refine ⟨_, _, _, rfl, c, M1, i, 0, ss, [], [], [], u, _, 3, rfl, rfl, rfl, h3, hu, fun z => (kf _ ((pi.at_ hu).1 z rfl)).mono n3.grow, fun hpt => ?_⟩
    refine ⟨fun m σ H' => ∃ i rs u M', σ = [some (.ref c.r), none, none] ∧ c.ts[i]? = some u ∧ RdAt K c M' H' i 0 ss rs [] (callsP rs) ∧ Nx c M H M' H' ∧ rs.length ≤ 10 ∧ (callsP rs).length ≤ i ∧ (rs = [] → tokEq u.tok (.name (word "part")) = true) ∧ PtI c.ts R ss rs i ∧ m = c.ts.length - i,
      ⟨_, i, [], u, M1, rfl, hu, h3, n3, Nat.zero_le _, Nat.zero_le _, fun _ => hpt, pi, rfl⟩, ?_⟩
    clear hu h1 n1 si hil s1 s2 eset h2 n2 hb pi h3 n3 hpt e2 e3
    rintro m σ H3 ⟨i, rs, u, M1, rfl, hu, h1, n1, hr10, hci, hre, pi, rfl⟩
    have hil : i < c.ts.length := (List.getElem?_eq_some_iff.mp hu).1
    obtain ⟨p1, p2, p3⟩ := pi.at_ hu
    refine ⟨_, rfl, c.r, c.dx, _, rfl, h1.ins, n_Reader_comes, _, _, _, rfl, c, M1, i, 0, ss, rs, [], callsP rs, u, "word", S (word "part"), rfl, rfl, str_part, h1, hu, by decide +kernel, strOk_S _, fun H4 e4 => ?_⟩
    have h4 := h1.same' e4
    have n4 := n1.trans (Nx.of e4)
    rw [epart]
    refine ⟨_, rfl, ?_⟩
    cases hb : tokEq u.tok (.name (word "part")) with
    | true =>
      obtain ⟨f1, f2⟩ := p3 hb
      refine ⟨fun σ' H' => ∃ i' rs u M', σ' = [some (.ref c.r), none, none] ∧ c.ts[i']? = some u ∧ i < i' ∧ RdAt K c M' H' i' 0 ss rs [] (callsP rs) ∧ Nx c M H M' H' ∧ rs.length ≤ 10 ∧ (callsP rs).length ≤ i' ∧ (rs = [] → tokEq u.tok (.name (word "part")) = true) ∧ PtI c.ts R ss rs i', ?_, ?_⟩
      · rintro σ' H' ⟨i', rs, u, M', h1, h2, h3, h4, h5, h6, h7, h8, h9⟩
        exact ⟨_, by omega, i', rs, u, M', h1, h2, h4, h5, h6, h7, h8, h9, rfl⟩
      · refine ⟨_, rfl, c.r, c.dx, _, rfl, h4.ins, n_Reader_part, _, rfl, c, M1, i, ss, rs, [], callsP rs, u, rfl, h4, hu, tokEq_name_last hb, by omega, by omega, fun f hf => (kf _ (f1 f hf)).mono n4.grow, fun p j' u' hp hu' hj' h10 hcx M5 H5 h5 n5 => ?_⟩
        have hjl : j' < c.ts.length := (List.getElem?_eq_some_iff.mp hu').1
        refine ⟨j', rs ++ [p], u', M5, rfl, hu', hj', by rw [callsP_app]; exact h5, n4.trans n5, by rw [List.length_append]; show rs.length + 1 ≤ 10; omega, by rw [callsP_app, List.length_append]; omega, fun z => by simp at z, f2 p j' hp hj' (Nat.le_of_lt hjl)⟩
    | false =>
      have hrne : rs ≠ [] := fun z => by have := hre z; rw [hb] at this; cases this
      have eR := p2 hb hrne
      refine ⟨_, rfl, c.r, c.dx, _, rfl, h4.ins, n_Reader_start, _, rfl, c, M1, i, 0, ss, rs, callsP rs, u, (c.ts.drop i).length, rfl, h4, hu, by omega, Nat.le_refl _, fun f hf => (kf _ (by rw [eR, hf]; rfl)).mono n4.grow, fun es j' u5 hst hu5 hj' hes H5 h5 n5 => ?_⟩
      have n5 := n4.trans n5
      rw [hst, next_last hu5] at eR
      refine ⟨_, rfl, c.r, c.dx, _, rfl, h5.ins, n_Reader_read, _, _, _, rfl, c, M1, j', 0, ss, rs, es, callsP rs, u5, "end", "", rfl, rfl, rfl, h5, hu5, by decide +kernel, by decide +kernel, fun z => (kf _ ?_).mono n5.grow, fun z H6 h6 n6 => ?_⟩
      · rw [comes_end] at z
        rw [eR, z, drop_tok hu5]
        rfl
      have n6 := n5.trans n6
      rw [comes_end] at z
      rw [z, if_pos rfl] at eR
      have eR : R = (solveParts (rs.map (·.name)) rs).map fun ps => ⟨ss, ps, es⟩ := eR
      rw [solveParts_eq] at eR
      obtain ⟨cv, hcv, hcp⟩ := h6.cl
      have hcl : cv.length = (callsP rs).length := Paired.length hcp
      refine ⟨_, rfl, c.r, _, c.dx, _, _, rfl, h6.ins, T.c_Reader, T.na_Reader_called, l_Reader_called, c.cl, rfl, ⟨_, SqL.of hcv⟩, ?_⟩
      refine for_list (K := K) (a := c.cl) (xs := cv) (fun i σ H' => ∃ a b, σ = [some (.ref c.r), a, b] ∧ Same H6 H' ∧ ((callsP rs).take i).find? (bad (rs.map (·.name))) = none) ⟨none, none, rfl, Same.refl _, rfl⟩ (fun i σ H' _ ⟨_, _, _, e, _⟩ => SqL.of (e _ _ hcv)) ?_ ?_
      · rintro k x σ H7 hx ⟨a, b, rfl, e7, hfn⟩
        obtain ⟨pn, hpn, tt, rfl, htt⟩ := Paired.at_ hcp hx
        have h7 := h6.same' e7
        have n7 := n6.trans (Nx.of e7)
        refine ⟨tt, _, rfl, SqT.of (h7.sub _ _ htt), rfl, _, _, rfl, _, _, rfl, rfl, ?_⟩
        refine ⟨_, rfl, _, rfl, c.r, _, c.dx, _, _, rfl, h7.ins, T.c_Reader, T.na_Reader_program, l_Reader_program, c.p, c.dp, _, rfl, h7.sub _ _ h7.pg, n_Program_part_names, _, rfl, c.p, _, rfl, h7.names, by rw [List.length_map]; omega, fun q H8 hq e8 hq8 => ?_⟩
        refine ⟨q, _, rfl, .inl (SqL.of hq8), rfl, strL_flat _, _, rfl, ?_⟩
        show if (!inV (.str (S pn.name)) (strL (rs.map (·.name)))) = true then _ else _
        rw [inV_S]
        have ebad : (!(rs.map (·.name)).contains pn.name) = bad (rs.map (·.name)) pn := rfl
        rw [ebad]
        cases hbd : bad (rs.map (·.name)) pn with
        | true =>
          have ef : (callsP rs).find? (bad (rs.map (·.name))) = some pn := by
            have e2 : ((callsP rs).take (k + 1)).find? (bad (rs.map (·.name))) = some pn := by
              rw [take_more hpn, List.find?_append, hfn, Option.none_or, List.find?_cons, hbd]
            calc (callsP rs).find? (bad (rs.map (·.name))) = ((callsP rs).take (k + 1) ++ (callsP rs).drop (k + 1)).find? (bad (rs.map (·.name))) := by rw [List.take_append_drop]
              _ = some pn := by rw [List.find?_append, e2]; rfl
          rw [ef] at eR
          exact ⟨_, rfl, fault_made T (f := ⟨9, pn.place⟩) (((kf _ eR).mono n7.grow).toE (Same.trans h7.sub e8) (e8 _ _ h7.ff))⟩
        | false =>
          refine ⟨_, _, rfl, Same.trans e7 e8, ?_⟩
          rw [take_more hpn, List.find?_append, hfn, Option.none_or, List.find?_cons, hbd]
          rfl
      · rintro σ H7 ⟨a, b, rfl, e7, hfn⟩
        rw [hcl, List.take_length] at hfn
        rw [hfn] at eR
        have h7 := h6.same' e7
        have n7 := n6.trans (Nx.of e7)
        exact ⟨_, rfl, c.r, _, c.dx, _, _, rfl, h7.ins, T.c_Reader, T.na_Reader_program, l_Reader_program, kk _ eR H7 (h7.prog hfn (fun b o hb => by rw [del_ne (fun z => by rw [z, n7.off h.ff hMF] at hb; cases hb)]; exact h7.sub _ _ hb) (fun b hb o ho => by rw [del_ne (fun z => h7.fm (by rw [← z]; exact hb))]; exact ho) rfl) (Same.trans n7.grow h7.sub) h7.ff⟩
def spRdInit (K : PySem.W.Frag) : Sp := Sp2 fun s x H Q _ => ∃ M r tl dx ts f fl, s = .ref r ∧ x = .ref tl ∧ H f = some (.lst fl) ∧ M f = none ∧ Same M H ∧ M r = none ∧ H r = some (.ins (cReader K) dx []) ∧ TokL M tl ts ∧ TsOk ts ∧
  ∀ c M' H', c.r = r → c.ts = ts → c.f = f → c.fl = fl → M' f = none → RdAt K c M' H' 0 0 [] [] [] [] → Same M M' → (∀ b o, H b = some o → b ≠ r → H' b = some o) → (∀ b ∈ c.mu, b ≠ r → H b = none) → Q .non H'
theorem sc_Reader___init__ : FnScope ["self", "tokens"] ["self", "tokens"] (defScope s_Reader___init__) := ⟨rfl, rfl, rfl, by decide +kernel, rfl, by decide +kernel, by decide +kernel⟩
theorem ok_Reader___init__ (T : Tx K mg) : FK P w K mg base CX0 (3) (He.ma K (He.ga K "Reader") "__init__") ["self", "tokens"] (spRdInit K) := by
  obtain ⟨fd, F⟩ := T.f_Reader___init__
  obtain ⟨fd0, G0, b0, k0⟩ := ok_Program___init__ (P := P) (w := w) (base := base) T
  refine ⟨fd, F.ok sc_Reader___init__ (fun vs H Q E h => Sp2.len h) (fun cdv A outer s H vs Q E hr h => ?body), F.bindsN (fun _ _ _ _ _ _ us hl => match us, hl with | [_, _], _ => rfl), F.kp⟩
  refine ⟨_, PSs.nox (pss_cons (ps_fld (pv 0) (pv 1) rfl)
      (pss_cons (ps_fld (pv 0) pe_int rfl)
      (pss_cons (ps_fld (pv 0) (pe_make T.m_Program G0 (hr.mono (by first | decide | omega)) rfl T.g_Program b0 .nil pass0 (pa_cons (pe_lst pa_nil) (pa_cons (pe_lst pa_nil) (pa_cons (pe_lst pa_nil) pa_nil)))) rfl)
      (pss_cons (ps_fld (pv 0) (pe_lst pa_nil) rfl)
      (pss_one (ps_fld (pv 0) pe_int rfl)))))), ?_⟩
  obtain ⟨_, _, rfl, M, r, tl, dx, ts, f, fl, rfl, rfl, hff, hMf, sm, mr, hr, ⟨tvs, ht1, ht2⟩, hts, kk⟩ := h
  refine ⟨_, rfl, _, rfl, r, _, dx, _, rfl, hr, T.c_Reader, T.na_Reader_tokens, by decide, ?_⟩
  refine ⟨_, rfl, r, _, dx, _, rfl, upd_same, T.c_Reader, T.na_Reader_at, by show 1 < 1000; decide, ?_⟩
  rw [upd_upd]
  have hh1 : upd H r (.ins (cReader K) dx (putF "at" (.int 0) (putF "tokens" (.ref tl) []))) r = some (.ins (cReader K) dx (putF "at" (.int 0) (putF "tokens" (.ref tl) []))) := upd_same
  have s1 : Same M (upd H r (.ins (cReader K) dx (putF "at" (.int 0) (putF "tokens" (.ref tl) [])))) := L2.Same.mut sm mr
  have k1 : Keep r H (upd H r (.ins (cReader K) dx (putF "at" (.int 0) (putF "tokens" (.ref tl) [])))) := Keep.upd fun _ _ h _ => h
  have b1 : ∀ b, upd H r (.ins (cReader K) dx (putF "at" (.int 0) (putF "tokens" (.ref tl) []))) b = none → H b = none := fun b hb => by
    by_cases e : b = r
    · subst e; rw [upd_same] at hb; cases hb
    · rwa [upd_ne e] at hb
  generalize upd H r (.ins (cReader K) dx (putF "at" (.int 0) (putF "tokens" (.ref tl) []))) = H1 at hh1 s1 k1 b1
  refine ⟨by show 0 ≤ sizeLine; decide, fun l1 hl1 => ?_⟩
  refine ⟨by show 0 ≤ sizeLine; decide, fun l2 hl2 => ?_⟩
  refine ⟨by show 0 ≤ sizeLine; decide, fun l3 hl3 => ?_⟩
  have n12 : l1 ≠ l2 := fun z => by rw [← z, upd_same] at hl2; cases hl2
  have n13 : l1 ≠ l3 := fun z => by rw [← z, upd_ne n12, upd_same] at hl3; cases hl3
  have n23 : l2 ≠ l3 := fun z => by rw [← z, upd_same] at hl3; cases hl3
  have hl2' : H1 l2 = none := by rwa [upd_ne n12.symm] at hl2
  have hl3' : H1 l3 = none := by rwa [upd_ne n23.symm, upd_ne n13.symm] at hl3
  refine fun p dp hp hdp hne => ?_
  have n1p : p ≠ l1 := fun z => by rw [z, upd_ne n13, upd_ne n12, upd_same] at hp; cases hp
  have n2p : p ≠ l2 := fun z => by rw [z, upd_ne n23, upd_same] at hp; cases hp
  have n3p : p ≠ l3 := fun z => by rw [z, upd_same] at hp; cases hp
  have d1 : dp ≠ l1 := fun z => by rw [z, upd_ne n13, upd_ne n12, upd_same] at hdp; cases hdp
  have d2 : dp ≠ l2 := fun z => by rw [z, upd_ne n23, upd_same] at hdp; cases hdp
  have d3 : dp ≠ l3 := fun z => by rw [z, upd_same] at hdp; cases hdp
  have hp' : H1 p = none := by rwa [upd_ne n3p, upd_ne n2p, upd_ne n1p] at hp
  have hdp' : H1 dp = none := by rwa [upd_ne d3, upd_ne d2, upd_ne d1] at hdp
  refine ⟨_, _, _, _, rfl, p, dp, rfl, upd_same, ?_⟩
  refine ⟨rfl, ?_⟩
  rw [upd_upd]
  have nr : ∀ {b : Addr}, H1 b = none → r ≠ b := fun hb => ne_of_none hh1 hb
  have keyH : ∀ b o, H1 b = some o → upd (upd (upd (upd (upd H1 l1 (.lst [])) l2 (.lst [])) l3 (.lst [])) dp (.own p)) p (.ins (cProgram K) dp (F_Program (.ref l1) (.ref l2) (.ref l3))) b = some o := fun b o hb => by
    rw [upd_ne (ne_of_none hb hp'), upd_ne (ne_of_none hb hdp'), upd_ne (ne_of_none hb hl3'), upd_ne (ne_of_none hb hl2'), upd_ne (ne_of_none hb hl1)]
    exact hb
  have q1 : upd (upd (upd (upd (upd H1 l1 (.lst [])) l2 (.lst [])) l3 (.lst [])) dp (.own p)) p (.ins (cProgram K) dp (F_Program (.ref l1) (.ref l2) (.ref l3))) l1 = some (.lst []) := by
    rw [upd_ne n1p.symm, upd_ne d1.symm, upd_ne n13, upd_ne n12, upd_same]
  have q2 : upd (upd (upd (upd (upd H1 l1 (.lst [])) l2 (.lst [])) l3 (.lst [])) dp (.own p)) p (.ins (cProgram K) dp (F_Program (.ref l1) (.ref l2) (.ref l3))) l2 = some (.lst []) := by
    rw [upd_ne n2p.symm, upd_ne d2.symm, upd_ne n23, upd_same]
  have q3 : upd (upd (upd (upd (upd H1 l1 (.lst [])) l2 (.lst [])) l3 (.lst [])) dp (.own p)) p (.ins (cProgram K) dp (F_Program (.ref l1) (.ref l2) (.ref l3))) l3 = some (.lst []) := by
    rw [upd_ne n3p.symm, upd_ne d3.symm, upd_same]
  have q4 : upd (upd (upd (upd (upd H1 l1 (.lst [])) l2 (.lst [])) l3 (.lst [])) dp (.own p)) p (.ins (cProgram K) dp (F_Program (.ref l1) (.ref l2) (.ref l3))) p = some (.ins (cProgram K) dp (F_Program (.ref l1) (.ref l2) (.ref l3))) := upd_same
  generalize upd (upd (upd (upd (upd H1 l1 (.lst [])) l2 (.lst [])) l3 (.lst [])) dp (.own p)) p (.ins (cProgram K) dp (F_Program (.ref l1) (.ref l2) (.ref l3))) = H2 at keyH q1 q2 q3 q4
  have none2 : ∀ b, H2 b = none → H1 b = none := fun b hb => by
    cases q : H1 b with
    | none => rfl
    | some o => rw [keyH b o q] at hb; cases hb
  refine ⟨_, rfl, r, _, dx, putF "at" (.int 0) (putF "tokens" (.ref tl) []), rfl, keyH _ _ hh1, T.c_Reader, T.na_Reader_program, by show 2 < 1000; decide, ?_⟩
  refine ⟨by show 0 ≤ sizeLine; decide, fun l4 hl4 => ?_⟩
  have n4r : l4 ≠ r := fun z => by rw [z, upd_same] at hl4; cases hl4
  have hl4' : H2 l4 = none := by rwa [upd_ne n4r] at hl4
  refine ⟨_, rfl, r, _, dx, _, rfl, (upd_ne n4r.symm).trans upd_same, T.c_Reader, T.na_Reader_called, by show 3 < 1000; decide, ?_⟩
  refine ⟨_, rfl, r, _, dx, _, rfl, upd_same, T.c_Reader, T.na_Reader_deep, by show 4 < 1000; decide, ?_⟩
  have ef : putF "deep" (V.int 0) (putF "called" (.ref l4) (putF "program" (.ref p) (putF "at" (.int 0) (putF "tokens" (.ref tl) [])))) = F_Reader (.ref tl) (.int 0) (.ref p) (.ref l4) (.int 0) := i_Reader
  rw [ef]
  have r1 : r ≠ l1 := nr hl1
  have r2 : r ≠ l2 := nr hl2'
  have r3 : r ≠ l3 := nr hl3'
  have rp : r ≠ p := nr hp'
  have m1 : M l1 = none := gone s1 hl1
  have m2 : M l2 = none := gone s1 hl2'
  have m3 : M l3 = none := gone s1 hl3'
  have m4 : M l4 = none := gone s1 (none2 _ hl4')
  have mp : M p = none := gone s1 hp'
  have l14 : l1 ≠ l4 := ne_of_none q1 hl4'
  have l24 : l2 ≠ l4 := ne_of_none q2 hl4'
  have l34 : l3 ≠ l4 := ne_of_none q3 hl4'
  have lp4 : p ≠ l4 := ne_of_none q4 hl4'
  have big : ∀ b o, H2 b = some o → b ≠ r → upd (upd (upd (upd H2 r (.ins (cReader K) dx (putF "program" (.ref p) (putF "at" (.int 0) (putF "tokens" (.ref tl) []))))) l4 (.lst [])) r (.ins (cReader K) dx (putF "called" (.ref l4) (putF "program" (.ref p) (putF "at" (.int 0) (putF "tokens" (.ref tl) [])))))) r (.ins (cReader K) dx (F_Reader (.ref tl) (.int 0) (.ref p) (.ref l4) (.int 0))) b = some o := fun b o hb nb => by
    rw [upd_ne nb, upd_ne nb, upd_ne (ne_of_none hb hl4'), upd_ne nb]
    exact hb
  have sM : Same M (upd M p (.ins (cProgram K) dp (F_Program (.ref l1) (.ref l2) (.ref l3)))) := Same.new mp
  have nfr : f ≠ r := ne_of hff hr (fun z => nomatch z)
  have nf : ∀ {b : Addr}, H1 b = none → f ≠ b := fun hb => ne_of_none hff (b1 _ hb)
  refine kk ⟨r, dx, tl, p, dp, l1, l2, l3, l4, ts, f, fl⟩ (upd M p (.ins (cProgram K) dp (F_Program (.ref l1) (.ref l2) (.ref l3)))) _ rfl rfl rfl rfl (by rw [upd_ne (nf hp')]; exact hMf) ?_ sM (fun b o hb nb => big b o (keyH b o (k1 b o hb nb)) nb) fun b hb nb => ?_
  · refine ⟨fun b o hb => ?_, upd_same, fun b hb => ?_, hts, ⟨tvs, sM _ _ ht1, Paired.mapP ht2 fun _ _ q => q.tups fun x xs hx => sM _ _ hx⟩, upd_same, ⟨[], big _ _ q1 r1.symm, .nil⟩, ⟨[], big _ _ q2 r2.symm, .nil⟩, big _ _ q3 r3.symm, ⟨[], ?_, .nil⟩, ⟨n12, n13, l14, n23, l24, l34⟩, big _ _ (keyH _ _ (k1 _ _ hff nfr)) nfr, fun hb => ?_⟩
    · by_cases e : b = p
      · subst e
        rw [upd_same] at hb
        rw [← hb]
        exact big _ _ q4 rp.symm
      · rw [upd_ne e] at hb
        exact big _ _ (keyH _ _ (s1 _ _ hb)) (ne_of_none hb mr)
    · have hb : b = r ∨ b = l1 ∨ b = l2 ∨ b = l3 ∨ b = l4 := by simpa [RdC.mu] using hb
      rcases hb with e | e | e | e | e
      · rw [e, upd_ne rp]; exact mr
      · rw [e, upd_ne n1p.symm]; exact m1
      · rw [e, upd_ne n2p.symm]; exact m2
      · rw [e, upd_ne n3p.symm]; exact m3
      · rw [e, upd_ne lp4.symm]; exact m4
    · rw [upd_ne n4r, upd_ne n4r, upd_same]
    · have hb : f = r ∨ f = l1 ∨ f = l2 ∨ f = l3 ∨ f = l4 := by simpa [RdC.mu] using hb
      rcases hb with e | e | e | e | e
      · exact nfr e
      · exact nf hl1 e
      · exact nf hl2' e
      · exact nf hl3' e
      · exact nf (none2 _ hl4') e
  · have hb : b = r ∨ b = l1 ∨ b = l2 ∨ b = l3 ∨ b = l4 := by simpa [RdC.mu] using hb
    rcases hb with e | e | e | e | e
    · exact absurd e nb
    · rw [e]; exact b1 _ hl1
    · rw [e]; exact b1 _ hl2'
    · rw [e]; exact b1 _ hl3'
    · rw [e]; exact b1 _ (none2 _ hl4')
theorem lex_len : ∀ (n j : Nat) (b : Bytes) (ts : Toks), VakepBase.lex n j b = .ok ts → ts.length ≤ n + 1
  | 0, j, b, ts, h => by
    have : [⟨j, .last⟩] = ts := Except.ok.inj h
    subst this
    exact Nat.le_refl _
  | n + 1, j, [], ts, h => by
    have : [⟨j, .last⟩] = ts := Except.ok.inj h
    subst this
    exact Nat.succ_le_succ (Nat.zero_le _)
  | n + 1, j, c :: r, ts, h => by
    unfold VakepBase.lex at h
    split at h
    · exact Nat.le_succ_of_le (lex_len n _ _ ts h)
    · split at h
      · exact Nat.le_succ_of_le (lex_len n _ _ ts h)
      · split at h
        · cases h
        · rename_i x hx
          cases q : VakepBase.lex n (j + x.2) ((c :: r).drop x.2) with
          | error f => rw [q] at h; cases h
          | ok l =>
            rw [q] at h
            have e : ⟨j, x.1⟩ :: l = ts := Except.ok.inj h
            subst e
            exact Nat.succ_le_succ (lex_len n _ _ l q)
def spReadProgram (K : PySem.W.Frag) : Sp := Sp1 fun x H Q E => ∃ l b F fl, x = .ref l ∧ H l = some (.lst (byteL b)) ∧ H F = some (.lst fl) ∧ b.length ≤ 100000 ∧ (∀ f, Vakepa.read b = .error f → FaultE K E H f) ∧ (∀ pr, Vakepa.read b = .ok pr → ∀ H' p, Pg K pr (del H' F) p → Same H H' → Q (.ref p) H')
theorem sc_read_program : FnScope ["text"] ["text"] (defScope s_read_program) := ⟨rfl, rfl, rfl, by decide +kernel, rfl, by decide +kernel, by decide +kernel⟩
theorem ok_read_program (T : Tx K mg) : FK P w K mg base (L2.CX P w) (23) (He.ga K "read_program") ["text"] (spReadProgram K) := by
  obtain ⟨fd, F⟩ := T.f_read_program
  obtain ⟨fd0, G0, b0, k0⟩ := ok_Reader_whole (P := P) (w := w) (base := base) T
  obtain ⟨fd1, G1, b1, k1⟩ := ok_Reader___init__ (P := P) (w := w) (base := base) T
  obtain ⟨fd2, G2, b2, k2⟩ := ok_tokens_of (P := P) (w := w) (base := base) T
  obtain ⟨fd3, G3, b3, k3⟩ := ok_Fault___init__ (P := P) (w := w) (base := base) T
  refine ⟨fd, F.ok sc_read_program (fun vs H Q E h => Sp1.len h) (fun cdv A outer s H vs Q E hr h => ?body), F.bindsN (fun _ _ _ _ _ _ us hl => match us, hl with | [_], _ => rfl), F.kp⟩
  refine ⟨_, (pss_cons (ps_if (pt_cmpR op_gt (pe_callB call_lenK rfl T.n_len boot_len (pa_cons (pv 0) pa_nil)) (C8.pe_gc rfl T.k_MOST_BYTES) (nomark _)) (pss_one (ps_raise rfl (takes_of rfl rfl rfl rfl) (pmk_oex T.e_Fault.oc T.e_Fault.ini T.e_Fault.tin G3 (hr.mono (by first | decide | omega)) b3 .nil pass0 rfl T.g_Fault (pa_cons (C8.pe_gc rfl T.k_LONG_TEXT) (pa_cons (C8.pe_gc rfl T.k_MOST_BYTES) pa_nil))))) pss_nil)
      (pss_one (ps_ret (pe_meth0 (pe_make T.m_Reader G1 (hr.mono (by first | decide | omega)) rfl T.g_Reader b1 .nil pass0 (pa_cons (pe_call G2 (hr.mono (by first | decide | omega)) rfl T.g_tokens_of k2 b2 .nil passR (pa_cons (pv 0) pa_nil)) pa_nil)) T.c_Reader T.me_Reader_whole G0 (hr.mono (by first | decide | omega)) b0 .nil passR)))), ?_⟩
  obtain ⟨_, rfl, l, b, F, fl, rfl, hl, hF, hbz, kf, kk⟩ := h
  refine ⟨_, rfl, l, _, rfl, .inl (SqL.of hl), _, _, rfl, rfl, _, rfl, ?_⟩
  show if decide ((4096 : Int) < ((byteL b).length : Int)) = true then _ else _
  rw [byteL_len]
  have et : VakepBase.tokens b = if 4096 < b.length then .error ⟨1, 4096⟩ else VakepBase.lex (b.length + 1) 0 b := rfl
  rw [read_eq, et] at kf kk
  by_cases hz : 4096 < b.length
  · rw [if_pos (decide_eq_true (by omega))]
    rw [if_pos hz] at kf
    exact fault_made T (f := ⟨1, 4096⟩) (kf _ rfl)
  · rw [if_neg fun z => hz (by have := of_decide_eq_true z; omega)]
    rw [if_neg hz] at kf kk
    refine ⟨_, rfl, _, rfl, l, b, rfl, hl, by omega, fun f hf => kf _ (by rw [hf]; rfl), fun ts hts q H1 e1 hqn hq => ?_⟩
    rw [hts] at kf kk
    have kf : ∀ f, readT ts = .error f → FaultE K E H f := kf
    have kk : ∀ pr, readT ts = .ok pr → ∀ H' p, Pg K pr (del H' F) p → Same H H' → Q (.ref p) H' := kk
    have htk := lex_ok _ _ _ _ hts
    have hlen := lex_len _ _ _ _ hts
    refine fun r dr hr hdr hne => ?_
    have em : Same H1 (upd (upd H1 dr (.own r)) r (.ins (cReader K) dr [])) := Same.trans (Same.new hdr) (Same.new (by rw [upd_ne hne.symm]; exact hr))
    have hF1 := e1 _ _ hF
    have sdel : Same (del H1 F) H1 := fun b o hb => by
      by_cases z : b = F
      · rw [z, del_same] at hb; cases hb
      · rwa [del_ne z] at hb
    have nqF : q ≠ F := (ne_of_none hF hqn).symm
    obtain ⟨tvs, hq1, hq2⟩ := hq
    have hqd : TokL (del H1 F) q ts := ⟨tvs, by rw [del_ne nqF]; exact hq1, Paired.mapP hq2 fun _ _ k => k.tups fun b xs hb => by rw [del_ne (ne_of hb hF1 (fun z => nomatch z))]; exact hb⟩
    have hrd : del H1 F r = none := by
      by_cases z : r = F
      · rw [z, del_same]
      · rw [del_ne z]; exact hr
    refine ⟨_, _, rfl, del H1 F, r, q, dr, ts, F, fl, rfl, rfl, em _ _ hF1, del_same, Same.trans sdel em, hrd, upd_same, hqd, htk, fun c M' H2 hcr hct hcf hcl hMF h2 sM hkeep hmu => ⟨rfl, ?_⟩⟩
    subst hcr hct hcf hcl
    refine ⟨c.r, c.dx, _, rfl, h2.ins, n_Reader_whole, _, rfl, c, M', ?_⟩
    have hne0 : c.ts ≠ [] := fun z => by rw [z] at htk; exact htk
    obtain ⟨t, ht⟩ : ∃ t, c.ts[0]? = some t := by
      cases q : c.ts with
      | nil => exact absurd q hne0
      | cons a l => exact ⟨a, rfl⟩
    have hHM : Same H (upd M' c.f (.lst c.fl)) := fun b o hb => by
      by_cases z : b = c.f
      · subst z
        rw [hF] at hb
        rw [upd_same, hb]
      · rw [upd_ne z]
        exact sM _ _ (by rw [del_ne z]; exact e1 _ _ hb)
    refine ⟨t, rfl, h2, ht, by omega, hMF, fun f hf => FaultE.mono (kf f hf) hHM, fun pr hpr H3 hpg e3 hf3 => kk pr hpr H3 c.p hpg fun b o hb => ?_⟩
    by_cases z : b = c.f
    · subst z
      rw [hF] at hb
      rw [hf3, hb]
    · exact e3 _ _ (sM _ _ (by rw [del_ne z]; exact e1 _ _ hb))
end
end Wk
set_option maxHeartbeats 2000000
/-! What leads where: plain. -/
namespace Wk
open PySem PySem.Spec PyProof.Rows L2
open Vakepa (Prog Piece)
def appS : Stm → Stm → Stm
  | .done, u => u
  | .say k r, u => .say k (appS r u)
  | .call k r, u => .call k (appS r u)
  | .make ps r, u => .make ps (appS r u)
  | .when_ x v b r, u => .when_ x v b (appS r u)
def flatS : Stm → Stm
  | .done => .done
  | .say k r => .say k (flatS r)
  | .call k r => .call k (flatS r)
  | .make ps r => .make ps (flatS r)
  | .when_ _ _ b r => appS (flatS b) (flatS r)
theorem appS_done : ∀ s, appS s .done = s
  | .done => rfl
  | .say k r => by show Vakepa.Stmt.say k (appS r .done) = _; rw [appS_done r]
  | .call k r => by show Vakepa.Stmt.call k (appS r .done) = _; rw [appS_done r]
  | .make ps r => by show Vakepa.Stmt.make ps (appS r .done) = _; rw [appS_done r]
  | .when_ x v b r => by show Vakepa.Stmt.when_ x v b (appS r .done) = _; rw [appS_done r]
theorem appS_assoc : ∀ s t u, appS (appS s t) u = appS s (appS t u)
  | .done, _, _ => rfl
  | .say k r, t, u => by show Vakepa.Stmt.say k (appS (appS r t) u) = Vakepa.Stmt.say k (appS r (appS t u)); rw [appS_assoc r]
  | .call k r, t, u => by show Vakepa.Stmt.call k (appS (appS r t) u) = Vakepa.Stmt.call k (appS r (appS t u)); rw [appS_assoc r]
  | .make ps r, t, u => by show Vakepa.Stmt.make ps (appS (appS r t) u) = Vakepa.Stmt.make ps (appS r (appS t u)); rw [appS_assoc r]
  | .when_ x v b r, t, u => by show Vakepa.Stmt.when_ x v b (appS (appS r t) u) = Vakepa.Stmt.when_ x v b (appS r (appS t u)); rw [appS_assoc r]
theorem StV.app {pr : Prog} {G : Hp} : ∀ {s t : Stm} {xs ys : List V}, StV pr G s xs → StV pr G t ys → StV pr G (appS s t) (xs ++ ys)
  | .done, _, _, _, h, k => by rw [show _ = [] from h]; exact k
  | .say _ _, _, _, _, ⟨t, ys, a, b, c⟩, k => ⟨t, _, by rw [a]; rfl, b, StV.app c k⟩
  | .call _ _, _, _, _, ⟨t, ys, a, b, c⟩, k => ⟨t, _, by rw [a]; rfl, b, StV.app c k⟩
  | .make _ _, _, _, _, ⟨t, ys, a, b, c⟩, k => ⟨t, _, by rw [a]; rfl, b, StV.app c k⟩
  | .when_ _ _ _ _, _, _, _, ⟨t, ys, a, b, c⟩, k => ⟨t, _, by rw [a]; rfl, b, StV.app c k⟩
section
variable {pr : Prog}
theorem OkS.app : ∀ {s t : Stm}, OkS pr s → OkS pr t → OkS pr (appS s t)
  | .done, _, _, k => k
  | .say _ _, _, h, k => ⟨h.1, h.2.1, OkS.app h.2.2 k⟩
  | .call _ _, _, h, k => ⟨h.1, OkS.app h.2 k⟩
  | .make _ _, _, h, k => ⟨h.1, h.2.1, OkS.app h.2.2 k⟩
  | .when_ _ _ _ _, _, h, k => ⟨h.1, h.2.1, OkS.app h.2.2 k⟩
theorem OkS.flat : ∀ {s : Stm}, OkS pr s → OkS pr (flatS s)
  | .done, h => h
  | .say _ _, h => ⟨h.1, h.2.1, OkS.flat h.2.2⟩
  | .call _ _, h => ⟨h.1, OkS.flat h.2⟩
  | .make _ _, h => ⟨h.1, h.2.1, OkS.flat h.2.2⟩
  | .when_ _ _ _ _, h => OkS.app (OkS.flat h.2.1) (OkS.flat h.2.2)
theorem deepS_app : ∀ {s t : Stm}, deepS s = 0 → deepS t = 0 → deepS (appS s t) = 0
  | .done, _, _, k => k
  | .say _ r, _, h, k => deepS_app (s := r) h k
  | .call _ r, _, h, k => deepS_app (s := r) h k
  | .make _ r, _, h, k => deepS_app (s := r) h k
  | .when_ _ _ b r, _, h, k => by have h : max (deepS b + 1) (deepS r) = 0 := h; omega
theorem deepS_flat : ∀ (s : Stm), deepS (flatS s) = 0
  | .done => rfl
  | .say _ r => deepS_flat r
  | .call _ r => deepS_flat r
  | .make _ r => deepS_flat r
  | .when_ _ _ b r => deepS_app (deepS_flat b) (deepS_flat r)
theorem cntS_app : ∀ (s t : Stm), cntS (appS s t) = cntS s + cntS t
  | .done, t => (Nat.zero_add _).symm
  | .say _ r, t => by show cntS (appS r t) + 1 = cntS r + 1 + cntS t; rw [cntS_app r]; omega
  | .call _ r, t => by show cntS (appS r t) + 1 = cntS r + 1 + cntS t; rw [cntS_app r]; omega
  | .make _ r, t => by show cntS (appS r t) + 1 = cntS r + 1 + cntS t; rw [cntS_app r]; omega
  | .when_ _ _ b r, t => by show cntS b + cntS (appS r t) + 1 = cntS b + cntS r + 1 + cntS t; rw [cntS_app r]; omega
theorem cntS_flat : ∀ (s : Stm), cntS (flatS s) ≤ cntS s
  | .done => Nat.le_refl _
  | .say _ r => Nat.succ_le_succ (cntS_flat r)
  | .call _ r => Nat.succ_le_succ (cntS_flat r)
  | .make _ r => Nat.succ_le_succ (cntS_flat r)
  | .when_ _ _ b r => by
    have h1 := cntS_flat b
    have h2 := cntS_flat r
    show cntS (appS (flatS b) (flatS r)) ≤ cntS b + cntS r + 1
    rw [cntS_app]
    omega
theorem lenS_app : ∀ (s t : Stm), lenS (appS s t) = lenS s + lenS t
  | .done, t => (Nat.zero_add _).symm
  | .say _ r, t => by show lenS (appS r t) + 1 = lenS r + 1 + lenS t; rw [lenS_app r]; omega
  | .call _ r, t => by show lenS (appS r t) + 1 = lenS r + 1 + lenS t; rw [lenS_app r]; omega
  | .make _ r, t => by show lenS (appS r t) + 1 = lenS r + 1 + lenS t; rw [lenS_app r]; omega
  | .when_ _ _ b r, t => by show lenS (appS r t) + 1 = lenS r + 1 + lenS t; rw [lenS_app r]; omega
theorem deepS_tail : ∀ (s : Stm), deepS (tailS s) ≤ deepS s
  | .done => Nat.le_refl _
  | .say _ r => Nat.le_refl _
  | .call _ r => Nat.le_refl _
  | .make _ r => Nat.le_refl _
  | .when_ _ _ b r => Nat.le_max_right _ _
theorem deepS_drop : ∀ (i : Nat) (s : Stm), deepS (dropS i s) ≤ deepS s
  | 0, _ => Nat.le_refl _
  | i + 1, s => Nat.le_trans (deepS_tail _) (deepS_drop i s)
theorem cntS_tail : ∀ (s : Stm), cntS (tailS s) ≤ cntS s
  | .done => Nat.le_refl _
  | .say _ r => Nat.le_succ _
  | .call _ r => Nat.le_succ _
  | .make _ r => Nat.le_succ _
  | .when_ _ _ b r => by show cntS r ≤ cntS b + cntS r + 1; omega
theorem cntS_drop : ∀ (i : Nat) (s : Stm), cntS (dropS i s) ≤ cntS s
  | 0, _ => Nat.le_refl _
  | i + 1, s => Nat.le_trans (cntS_tail _) (cntS_drop i s)
theorem OkS.tl : ∀ {s : Stm}, OkS pr s → OkS pr (tailS s)
  | .done, h => h
  | .say _ _, h => h.2.2
  | .call _ _, h => h.2
  | .make _ _, h => h.2.2
  | .when_ _ _ _ _, h => h.2.2
theorem OkS.drop : ∀ (i : Nat) {s : Stm}, OkS pr s → OkS pr (dropS i s)
  | 0, _, h => h
  | i + 1, _, h => (OkS.drop i h).tl
theorem callsBy_app {v : List Nat} : ∀ (s t : Stm) (k : Nat), k ∈ Vakepa.callsBy pr v (appS s t) ↔ k ∈ Vakepa.callsBy pr v s ∨ k ∈ Vakepa.callsBy pr v t
  | .done, t, k => by simp [appS, Vakepa.callsBy]
  | .say _ r, t, k => callsBy_app r t k
  | .call _ r, t, k => by
    simp only [appS, Vakepa.callsBy, List.mem_cons, callsBy_app r t k, or_assoc]
  | .make _ r, t, k => by
    simp only [appS, Vakepa.callsBy, List.mem_append, callsBy_app r t k, or_assoc]
  | .when_ _ _ b r, t, k => by
    simp only [appS, Vakepa.callsBy, List.mem_append, callsBy_app r t k, or_assoc]
/-- by all branches: by some assignment, in any when -/
theorem callsAny_flat (ht : 0 < Vakepa.total pr) : ∀ (s : Stm) (k : Nat), k ∈ Vakepa.callsAny pr s ↔ ∃ a, a < Vakepa.total pr ∧ k ∈ Vakepa.callsBy pr (Vakepa.valuesOf pr a) (flatS s)
  | .done, k => by simp [Vakepa.callsAny, flatS, Vakepa.callsBy]
  | .say _ r, k => callsAny_flat ht r k
  | .call j r, k => by
    simp only [Vakepa.callsAny, flatS, Vakepa.callsBy, List.mem_cons, callsAny_flat ht r k]
    constructor
    · rintro (e | ⟨a, h1, h2⟩)
      · exact ⟨0, ht, .inl e⟩
      · exact ⟨a, h1, .inr h2⟩
    · rintro ⟨a, h1, e | h2⟩
      · exact .inl e
      · exact .inr ⟨a, h1, h2⟩
  | .make ps r, k => by
    simp only [Vakepa.callsAny, flatS, Vakepa.callsBy, List.mem_append, callsAny_flat ht r k, Vakepa.madeAny, List.mem_filterMap, Vakepa.assignments, List.mem_range, Option.mem_toList]
    constructor
    · rintro (⟨a, h1, h2⟩ | ⟨a, h1, h2⟩)
      · exact ⟨a, h1, .inl h2⟩
      · exact ⟨a, h1, .inr h2⟩
    · rintro ⟨a, h1, h2 | h2⟩
      · exact .inl ⟨a, h1, h2⟩
      · exact .inr ⟨a, h1, h2⟩
  | .when_ _ _ b r, k => by
    simp only [Vakepa.callsAny, flatS, List.mem_append, callsAny_flat ht b k, callsAny_flat ht r k, callsBy_app]
    constructor
    · rintro (⟨a, h1, h2⟩ | ⟨a, h1, h2⟩)
      · exact ⟨a, h1, .inl h2⟩
      · exact ⟨a, h1, .inr h2⟩
    · rintro ⟨a, h1, h2 | h2⟩
      · exact .inl ⟨a, h1, h2⟩
      · exact .inr ⟨a, h1, h2⟩
theorem callsBy_lt {v : List Nat} : ∀ {s : Stm}, OkS pr s → ∀ k ∈ Vakepa.callsBy pr v s, k < pr.parts.length
  | .done, _, k, h => by cases h
  | .say _ r, g, k, h => callsBy_lt (s := r) g.2.2 k h
  | .call j r, g, k, h => by
    rcases List.mem_cons.mp h with e | h
    · rw [e]; exact g.1
    · exact callsBy_lt (s := r) g.2 k h
  | .make ps r, g, k, h => by
    rcases List.mem_append.mp h with e | h
    · exact partNamed_lt (Option.mem_toList.mp e)
    · exact callsBy_lt (s := r) g.2.2 k h
  | .when_ x w b r, g, k, h => by
    rcases List.mem_append.mp h with e | h
    · split at e
      · exact callsBy_lt (s := b) g.2.1 k e
      · cases e
    · exact callsBy_lt (s := r) g.2.2 k h
end
/-! ### sorted lists -/
theorem sorted_eq : ∀ {a b : List Int}, a.Perm b → a.Pairwise (· ≤ ·) → b.Pairwise (· ≤ ·) → a = b := by
  intro a b h p q
  exact List.Perm.eq_of_pairwise (fun x y _ _ h1 h2 => Int.le_antisymm h1 h2) p q h
theorem inOrder_sorted (pr : Prog) (l : List Nat) : ((Vakepa.inOrder pr l).map fun (k : Nat) => (k : Int)).Pairwise (· ≤ ·) := by
  unfold Vakepa.inOrder
  refine List.pairwise_map.mpr ((List.Pairwise.filter _ (List.pairwise_lt_range (n := pr.parts.length))).imp fun h => by omega)
theorem inOrder_nodup (pr : Prog) (l : List Nat) : (Vakepa.inOrder pr l).Nodup := List.Pairwise.filter _ List.nodup_range
theorem castNat_nodup : ∀ {l : List Nat}, l.Nodup → (l.map fun (k : Nat) => (k : Int)).Nodup
  | [], _ => List.nodup_nil
  | a :: r, h => by
    obtain ⟨h1, h2⟩ := List.nodup_cons.mp h
    rw [List.map_cons]
    refine List.nodup_cons.mpr ⟨fun z => ?_, castNat_nodup h2⟩
    obtain ⟨b, hb, e⟩ := List.mem_map.mp z
    have : b = a := by omega
    exact h1 (this ▸ hb)
/-- the ints among the keys -/
def intsOf (ks : List (Option Int)) : List Int := ks.filterMap id
theorem intsOf_mem (ks : List (Option Int)) (i : Int) : i ∈ intsOf ks ↔ some i ∈ ks := by
  unfold intsOf
  rw [List.mem_filterMap]
  exact ⟨fun ⟨a, h, e⟩ => by rw [show a = some i from e] at h; exact h, fun h => ⟨_, h, rfl⟩⟩
theorem intsOf_nodup : ∀ {ks : List (Option Int)}, ks.Nodup → (intsOf ks).Nodup
  | [], _ => List.nodup_nil
  | none :: r, h => by
    show (intsOf r).Nodup
    exact intsOf_nodup (List.nodup_cons.mp h).2
  | some i :: r, h => by
    show (i :: intsOf r).Nodup
    exact List.nodup_cons.mpr ⟨fun z => (List.nodup_cons.mp h).1 ((intsOf_mem r i).mp z), intsOf_nodup (List.nodup_cons.mp h).2⟩
theorem rising_eq {pr : Prog} {L : List Nat} {ks : List (Option Int)} (h : NS pr.parts.length (· ∈ L) ks) {ns : List Int} (hp : ns.Perm (intsOf ks)) (hs : ns.Pairwise (· ≤ ·)) : ns.map V.int = natL (Vakepa.inOrder pr L) := by
  have e : ns = (Vakepa.inOrder pr L).map fun (k : Nat) => (k : Int) := by
    refine sorted_eq (hp.trans ?_) hs (inOrder_sorted pr L)
    refine (List.perm_ext_iff_of_nodup (intsOf_nodup h.nd) (castNat_nodup (inOrder_nodup pr L))).mpr fun i => ?_
    rw [intsOf_mem, List.mem_map]
    constructor
    · intro z
      rcases h.mem _ z with q | ⟨k, e, hk⟩
      · cases q
      · exact ⟨k, (inOrder_mem _ _ _).mpr ⟨h.lt k hk, hk⟩, (Option.some.inj e).symm⟩
    · rintro ⟨k, hk, rfl⟩
      exact h.all k ((inOrder_mem _ _ _).mp hk).2
  rw [e]
  unfold natL
  rw [List.map_map]
  rfl
end Wk
set_option maxHeartbeats 2000000
namespace Wk
open PySem PySem.Spec PyProof.Rows L2
open Vakepa (Piece)
section
variable {P : Program} {w : World} {K : PySem.W.Frag} {mg : Str → Option Value} {base : Heap}
theorem StV.seq {pr : Vakepa.Prog} {H : Hp} {s : Stm} {xs : List V} {i : Nat} {x : V} (h : StV pr H s xs) (e : xs[i]? = some x) : ∃ t, x = .ref t ∧ ItV pr H (dropS i s) t ∧ dropS i s ≠ .done := h.at_ e
/-- the name of a made part, as it is told -/
theorem meant_eq {pr : Vakepa.Prog} {v : List Nat} (g : Good pr) {ps : List Piece} (h : ∀ q ∈ ps, OkP pr q) : (pr.parts.map (·.name)).findIdx? (· == ((ps.map (Vakepa.showPiece pr)).map (wordOf pr.sets v)).flatten) = Vakepa.partNamed pr (Vakepa.madeName pr v ps) := by
  rw [made_eq g h, partNamed_eq]
def spLeads (P : Program) (w : World) (K : PySem.W.Frag) (d : Nat) : Sp := Sp3 fun a x y H Q _ => ∃ p pr l xs s c v, a = .ref p ∧ x = .ref l ∧ y = .ref c ∧ Pg K pr H p ∧ Good pr ∧ H l = some (.lst xs) ∧ StV pr H s xs ∧ OkS pr s ∧ deepS s < d ∧ H c = some (.lst (natL v)) ∧ Vok pr.sets v ∧
  ∀ q H' ks, H q = none → Same H H' → H' q = some (dN P w q ks) → NS pr.parts.length (· ∈ Vakepa.callsBy pr v s) ks → Q (.ref q) H'
theorem sc_leads_in : FnScope ["program", "statements", "chosen", "found", "statement"] ["program", "statements", "chosen"] (defScope s_leads_in) := ⟨rfl, rfl, rfl, by decide +kernel, rfl, by decide +kernel, by decide +kernel⟩
theorem ok_leads_in (T : Tx K mg) : ∀ d, FK P w K mg base CX0 (d + 4) (He.ga K "leads_in") ["program", "statements", "chosen"] (spLeads P w K d) := by
  intro d
  induction d with
  | zero =>
    obtain ⟨fd, F⟩ := T.f_leads_in
    refine ⟨fd, F.ok sc_leads_in (fun vs H Q E h => Sp3.len h) (fun cdv A outer s H vs Q E hr h => ?_), F.bindsN (fun _ _ _ _ _ _ us hl => match us, hl with | [_, _, _], _ => rfl), F.kp⟩
    obtain ⟨_, _, _, _, _, _, _, _, _, _, _, _, _, _, _, _, _, _, _, h, _⟩ := h
    exact absurd h (Nat.not_lt_zero _)
  | succ d ih =>
  obtain ⟨fd, F⟩ := T.f_leads_in
  obtain ⟨fd0, G0, b0, k0⟩ := ok_Program_number_of (P := P) (w := w) (base := base) T
  obtain ⟨fd1, G1, b1, k1⟩ := ok_Program_meant (P := P) (w := w) (base := base) T
  obtain ⟨fd2, G2, b2, k2⟩ := ih
  refine ⟨fd, F.ok sc_leads_in (fun vs H Q E h => Sp3.len h) (fun cdv A outer s H vs Q E hr h => ?body), F.bindsN (fun _ _ _ _ _ _ us hl => match us, hl with | [_, _, _], _ => rfl), F.kp⟩
  refine ⟨_, PSs.nox (pss_cons (ps_set (i := 3) sc_leads_in.nd rfl (.inl rfl) pe_newN (hf := (.inr rfl)))
      (pss_cons (ps_for PassesOwn.never rfl (pi_list (pv 1)) (pg_name (i := 4) sc_leads_in.nd rfl (.inl rfl) (.inr rfl)) (pss_one (ps_if (pt_cmpR op_eq (pe_ix ix_tup (pv 4) pe_int (fun _ _ => rfl)) (C8.pe_gc rfl T.k_CALL) (nomark _)) (pss_one (ps_putN (pv 3) (pe_meth (pv 0) T.c_Program T.me_Program_number_of G0 (hr.mono (by first | decide | omega)) b0 .nil pass0 (pa_cons (pe_ix ix_tup (pv 4) pe_int (fun _ _ => rfl)) pa_nil)) pe_bl)) (pss_one (ps_if (pt_cmpR op_eq (pe_ix ix_tup (pv 4) pe_int (fun _ _ => rfl)) (C8.pe_gc rfl T.k_MAKE) (nomark _)) (pss_one (ps_putN (pv 3) (pe_meth (pv 0) T.c_Program T.me_Program_meant G1 (hr.mono (by first | decide | omega)) b1 .nil pass0 (pa_cons (pe_ix ix_tup (pv 4) pe_int (fun _ _ => rfl)) (pa_cons (pv 2) pa_nil))) pe_bl)) (pss_one (ps_if (PW.pt (pw_and (pt_cmpR op_eq (pe_ix ix_tup (pv 4) pe_int (fun _ _ => rfl)) (C8.pe_gc rfl T.k_WHEN) (nomark _)) (pw_and1 (pt_cmpR op_eq (pe_ix ix_list (pv 2) (pe_ix ix_tup (pv 4) pe_int (fun _ _ => rfl)) (fun _ _ => rfl)) (pe_ix ix_tup (pv 4) pe_int (fun _ _ => rfl)) (nomark _))))) (pss_one (ps_expr (pe_updN (pv 3) (pe_call G2 (hr.mono (by first | decide | omega)) rfl T.g_leads_in k2 b2 .nil pass0 (pa_cons (pv 0) (pa_cons (pe_ix ix_tup (pv 4) pe_int (fun _ _ => rfl)) (pa_cons (pv 2) pa_nil))))))) pss_nil)))))))
      (pss_one (ps_ret (pv 3))))), ?_⟩
  obtain ⟨_, _, _, rfl, p, pr, l, xs, s, c, v, rfl, rfl, rfl, hP, g, hl, hst, hok, hd, hc, hv, kk⟩ := h
  refine fun D hD => ?_
  have s1 : Same H (upd H D (dN P w D [])) := Same.new hD
  obtain ⟨dx, ls, lp, le, vs, ws, hp⟩ := id hP
  refine ⟨_, rfl, l, rfl, ⟨xs, SqL.of (s1 _ _ hl)⟩, ?_⟩
  refine for_list (K := K) (a := l) (xs := xs) (fun i σ H' => ∃ a ks S_, σ = [some (.ref p), some (.ref l), some (.ref c), some (.ref D), a] ∧ Same H H' ∧ H' D = some (dN P w D ks) ∧ NS pr.parts.length S_ ks ∧ ∀ k, k ∈ Vakepa.callsBy pr v s ↔ S_ k ∨ k ∈ Vakepa.callsBy pr v (dropS i s))
    ⟨none, [], _, rfl, s1, upd_same, NS.nil, fun k => ⟨.inr, fun z => z.elim False.elim id⟩⟩ (fun i σ H' _ ⟨_, _, _, _, e, _⟩ => SqL.of (e _ _ hl)) ?_ ?_
  · rintro i x σ H2 hx ⟨a, ks, S_, rfl, e2, hd2, hks, hS⟩
    obtain ⟨t, rfl, ht, hne⟩ := hst.at_ hx
    have hok2 := OkS.drop i hok
    have hd3 := deepS_drop i s
    have hlen := hks.len
    have hn10 := g.nparts
    have hS' : ∀ k, k ∈ Vakepa.callsBy pr v s ↔ S_ k ∨ k ∈ Vakepa.callsBy pr v (dropS i s) := hS
    have hdr : dropS (i + 1) s = tailS (dropS i s) := rfl
    rw [hdr]
    generalize dropS i s = u at ht hne hok2 hd3 hS ⊢
    cases u with
    | done => exact absurd rfl hne
    | say k r =>
      have ht' : H t = some (.tup [.str "say", .int (k : Nat)]) := ht
      refine ⟨_, rfl, t, _, _, _, rfl, rfl, SqT.of (e2 _ _ ht'), rfl, rfl, _, rfl, ?_⟩
      refine ⟨_, rfl, t, _, _, _, rfl, rfl, SqT.of (e2 _ _ ht'), rfl, rfl, _, rfl, ?_⟩
      refine ⟨_, rfl, t, _, _, _, rfl, rfl, SqT.of (e2 _ _ ht'), rfl, rfl, _, rfl, ?_⟩
      exact ⟨_, ks, S_, rfl, e2, hd2, hks, hS⟩
    | call k r =>
      have ht' : H t = some (.tup [.str "call", .str (S (Vakepa.nameOf pr k))]) := ht
      refine ⟨_, rfl, t, _, _, _, rfl, rfl, SqT.of (e2 _ _ ht'), rfl, rfl, _, rfl, ?_⟩
      refine ⟨_, rfl, ?_⟩
      refine ⟨_, rfl, p, dx, _, rfl, e2 _ _ hp.ins, n_Program_number_of, ?_⟩
      refine ⟨_, rfl, t, _, _, _, rfl, rfl, SqT.of (e2 _ _ ht'), (atI_n (j := 1) rfl), _, _, rfl, p, _, _, rfl, rfl, hP.namesAt.same e2, by rw [List.length_map]; omega, fun H3 e3 => ?_⟩
      rw [partNamed_of g hok2.1]
      refine ⟨D, ks, some (k : Int), rfl, rfl, rfl, e3 _ _ hd2, szl (by omega), ?_⟩
      refine ⟨_, _, _, rfl, L2.Same.mut (Same.trans e2 e3) hD, upd_same, hks.put hok2.1, fun j => ?_⟩
      rw [hS j]
      show S_ j ∨ j ∈ k :: Vakepa.callsBy pr v r ↔ _
      rw [List.mem_cons, or_assoc]
      rfl
    | make ps r =>
      obtain ⟨l2, ht', hl2⟩ : ∃ l, H t = some (.tup [.str "make", .ref l]) ∧ H l = some (.lst (strL (ps.map (Vakepa.showPiece pr)))) := ht
      refine ⟨_, rfl, t, _, _, _, rfl, rfl, SqT.of (e2 _ _ ht'), rfl, rfl, _, rfl, ?_⟩
      refine ⟨_, rfl, t, _, _, _, rfl, rfl, SqT.of (e2 _ _ ht'), rfl, rfl, _, rfl, ?_⟩
      refine ⟨_, rfl, ?_⟩
      refine ⟨_, rfl, p, dx, _, rfl, e2 _ _ hp.ins, n_Program_meant, ?_⟩
      refine ⟨_, rfl, t, _, _, _, rfl, rfl, SqT.of (e2 _ _ ht'), (atI_n (j := 1) rfl), _, rfl, _, _, _, rfl, p, pr.sets, pr.parts.map (·.name), ps.map (Vakepa.showPiece pr), l2, c, v, rfl, rfl, rfl, hP.setsAt.same e2, hP.namesAt.same e2, by have := g.nsets; omega, by rw [List.length_map]; omega, e2 _ _ hl2, by have := hok2.1; rw [List.length_map]; omega, e2 _ _ hc, hv, ?_, fun H3 e3 => ?_⟩
      · have := pieces_size (v := v) g hok2.2.1
        have := hok2.1
        omega
      · rw [meant_eq g hok2.2.1]
        refine ⟨D, ks, (Vakepa.partNamed pr (Vakepa.madeName pr v ps)).map fun (k : Nat) => (k : Int), rfl, rfl, ?_, e3 _ _ hd2, szl (by omega), ?_⟩
        · cases Vakepa.partNamed pr (Vakepa.madeName pr v ps) <;> rfl
        · cases hn : Vakepa.partNamed pr (Vakepa.madeName pr v ps) with
          | none =>
            refine ⟨_, _, _, rfl, L2.Same.mut (Same.trans e2 e3) hD, upd_same, hks.putNone, fun j => ?_⟩
            rw [hS j]
            show S_ j ∨ j ∈ (Vakepa.partNamed pr (Vakepa.madeName pr v ps)).toList ++ Vakepa.callsBy pr v r ↔ _
            rw [hn]
            exact Iff.rfl
          | some k =>
            refine ⟨_, _, _, rfl, L2.Same.mut (Same.trans e2 e3) hD, upd_same, hks.put (partNamed_lt hn), fun j => ?_⟩
            rw [hS j]
            show S_ j ∨ j ∈ (Vakepa.partNamed pr (Vakepa.madeName pr v ps)).toList ++ Vakepa.callsBy pr v r ↔ _
            rw [hn]
            show S_ j ∨ j ∈ k :: Vakepa.callsBy pr v r ↔ _
            rw [List.mem_cons, or_assoc]
            rfl
    | when_ x w2 b r =>
      obtain ⟨l2, zs, ht', hl2, hst2⟩ : ∃ l zs, H t = some (.tup [.str "when", .int (x : Nat), .int (w2 : Nat), .ref l]) ∧ H l = some (.lst zs) ∧ StV pr H b zs := ht
      obtain ⟨⟨s0, hs, hv0⟩, hb, hr2⟩ := hok2
      have hxl : x < v.length := by rw [hv.1]; exact (List.getElem?_eq_some_iff.mp hs).1
      refine ⟨_, rfl, t, _, _, _, rfl, rfl, SqT.of (e2 _ _ ht'), rfl, rfl, _, rfl, ?_⟩
      refine ⟨_, rfl, t, _, _, _, rfl, rfl, SqT.of (e2 _ _ ht'), rfl, rfl, _, rfl, ?_⟩
      refine ⟨_, rfl, t, _, _, _, rfl, rfl, SqT.of (e2 _ _ ht'), rfl, rfl, _, rfl, ?_⟩
      refine ⟨_, rfl, _, rfl, t, _, _, _, rfl, rfl, SqT.of (e2 _ _ ht'), (atI_n (j := 1) rfl), c, _, _, _, rfl, rfl, SqL.of (e2 _ _ hc), atI_n (natL_at (List.getElem?_eq_getElem hxl)), ?_⟩
      refine ⟨_, rfl, t, _, _, _, rfl, rfl, SqT.of (e2 _ _ ht'), (atI_n (j := 2) rfl), rfl, _, rfl, ?_⟩
      show if decide (V.int ((v[x] : Nat) : Int) = V.int (w2 : Int)) = true then _ else _
      have ew : (V.int ((v[x] : Nat) : Int) = V.int (w2 : Int)) ↔ v.getD x 0 = w2 := by
        rw [List.getD_eq_getElem?_getD, List.getElem?_eq_getElem hxl]
        exact ⟨fun z => by have := V.int.inj z; show v[x] = w2; omega, fun z => by have z : v[x] = w2 := z; rw [z]⟩
      have hcb : Vakepa.callsBy pr v (.when_ x w2 b r) = (if v.getD x 0 = w2 then Vakepa.callsBy pr v b else []) ++ Vakepa.callsBy pr v r := rfl
      rw [hcb] at hS
      by_cases hc2 : v.getD x 0 = w2
      · rw [if_pos (decide_eq_true (ew.mpr hc2))]
        rw [if_pos hc2] at hS
        refine ⟨_, rfl, ⟨D, ks, rfl, hd2⟩, ?_⟩
        refine ⟨_, rfl, _, rfl, t, _, _, _, rfl, rfl, SqT.of (e2 _ _ ht'), (atI_n (j := 3) rfl), _, rfl, _, _, _, rfl, p, pr, l2, zs, b, c, v, rfl, rfl, rfl, hP.same e2, g, e2 _ _ hl2, hst2.same e2, hb, ?_, e2 _ _ hc, hv, fun q H3 ms hq e3 hq3 hms => ?_⟩
        · have : max (deepS b + 1) (deepS r) ≤ deepS s := hd3
          omega
        · have hm := hms.len
          refine ⟨D, q, ks, ms, rfl, rfl, ne_of_none hd2 hq, e3 _ _ hd2, hq3, sz (by omega), ?_⟩
          refine ⟨_, _, _, rfl, L2.Same.mut (Same.trans e2 e3) hD, upd_same, hks.uni hms, fun j => ?_⟩
          rw [hS j, List.mem_append, or_assoc]
          rfl
      · rw [if_neg fun z => hc2 (ew.mp (of_decide_eq_true z))]
        rw [if_neg hc2] at hS
        exact ⟨_, ks, S_, rfl, e2, hd2, hks, hS⟩
  · rintro σ H2 ⟨a, ks, S_, rfl, e2, hd2, hks, hS⟩
    refine ⟨_, rfl, kk D H2 ks hD e2 hd2 (hks.congr fun k => ?_)⟩
    rw [hS k, drop_end (by rw [hst.length]; exact Nat.le_refl _)]
    simp [Vakepa.callsBy]
def spFlat (d : Nat) : Sp := Sp1 fun x H Q _ => ∃ pr G l xs s, x = .ref l ∧ Same G H ∧ G l = some (.lst xs) ∧ StV pr G s xs ∧ deepS s < d ∧ cntS s ≤ 10000 ∧
  ∀ q H' ys, H q = none → Same H H' → H' q = some (.lst ys) → StV pr G (flatS s) ys → Q (.ref q) H'
theorem sc_flat : FnScope ["statements", "found", "statement"] ["statements"] (defScope s_flat) := ⟨rfl, rfl, rfl, by decide +kernel, rfl, by decide +kernel, by decide +kernel⟩
theorem ok_flat (T : Tx K mg) : ∀ d, FK P w K mg base CX0 (d + 1) (He.ga K "flat") ["statements"] (spFlat d) := by
  intro d
  induction d with
  | zero =>
    obtain ⟨fd, F⟩ := T.f_flat
    refine ⟨fd, F.ok sc_flat (fun vs H Q E h => Sp1.len h) (fun cdv A outer s H vs Q E hr h => ?_), F.bindsN (fun _ _ _ _ _ _ us hl => match us, hl with | [_], _ => rfl), F.kp⟩
    obtain ⟨_, _, _, _, _, _, _, _, _, _, _, h, _⟩ := h
    exact absurd h (Nat.not_lt_zero _)
  | succ d ih =>
  obtain ⟨fd, F⟩ := T.f_flat
  obtain ⟨fd0, G0, b0, k0⟩ := ih
  refine ⟨fd, F.ok sc_flat (fun vs H Q E h => Sp1.len h) (fun cdv A outer s H vs Q E hr h => ?body), F.bindsN (fun _ _ _ _ _ _ us hl => match us, hl with | [_], _ => rfl), F.kp⟩
  refine ⟨_, PSs.nox (pss_cons (ps_set (i := 1) sc_flat.nd rfl (.inl rfl) (pe_lst pa_nil) (hf := (.inr rfl)))
      (pss_cons (ps_for PassesOwn.never rfl (pi_list (pv 0)) (pg_name (i := 2) sc_flat.nd rfl (.inl rfl) (.inr rfl)) (pss_one (ps_if (pt_cmpR op_eq (pe_ix ix_tup (pv 2) pe_int (fun _ _ => rfl)) (C8.pe_gc rfl T.k_WHEN) (nomark _)) (pss_one (ps_expr (pe_bm PySem.F.plainAttrs_list PySem.F.slot_list_extend PySem.F.type_list_extend mt_extend (pv 1) (pa_cons (pe_call G0 (hr.mono (by first | decide | omega)) rfl T.g_flat k0 b0 .nil pass0 (pa_cons (pe_ix ix_tup (pv 2) pe_int (fun _ _ => rfl)) pa_nil)) pa_nil)))) (pss_one (ps_expr (pe_bm PySem.F.plainAttrs_list PySem.F.slot_list_append PySem.F.type_list_append mt_append (pv 1) (pa_cons (pv 2) pa_nil)))))))
      (pss_one (ps_ret (pv 1))))), ?_⟩
  obtain ⟨_, rfl, pr, G, l, xs, s, rfl, sm, hl, hst, hd, hcn, kk⟩ := h
  refine ⟨by show 0 ≤ sizeLine; decide, fun D hD => ?_⟩
  have s1 : Same H (upd H D (.lst [])) := Same.new hD
  have gD : G D = none := gone sm hD
  refine ⟨_, rfl, l, rfl, ⟨xs, SqL.of (s1 _ _ (sm _ _ hl))⟩, ?_⟩
  refine for_list (K := K) (a := l) (xs := xs) (fun i σ H' => ∃ a acc U, σ = [some (.ref l), some (.ref D), a] ∧ Same H H' ∧ H' D = some (.lst acc) ∧ StV pr G U acc ∧ flatS s = appS U (flatS (dropS i s)))
    ⟨none, [], .done, rfl, s1, upd_same, rfl, rfl⟩ (fun i σ H' _ ⟨_, _, _, _, e, _⟩ => SqL.of (e _ _ (sm _ _ hl))) ?_ ?_
  · rintro i x σ H2 hx ⟨a, acc, U, rfl, e2, hd2, hU, hS⟩
    obtain ⟨t, rfl, ht, hne⟩ := hst.at_ hx
    have hd3 := deepS_drop i s
    have hc3 := cntS_drop i s
    have hacc : acc.length ≤ 10000 := by
      have h1 := hU.length
      have h2 := congrArg lenS hS
      rw [lenS_app] at h2
      have h3 := lenS_le_cntS (flatS s)
      have h4 := cntS_flat s
      omega
    have hdr : dropS (i + 1) s = tailS (dropS i s) := rfl
    have eG := Same.trans sm e2
    rw [hdr]
    generalize dropS i s = u at ht hne hd3 hS hc3 ⊢
    cases u with
    | done => exact absurd rfl hne
    | say k r =>
      have ht' : G t = some (.tup [.str "say", .int (k : Nat)]) := ht
      refine ⟨_, rfl, t, _, _, _, rfl, rfl, SqT.of (eG _ _ ht'), rfl, rfl, _, rfl, ?_⟩
      refine ⟨_, rfl, .inl ⟨rfl, _, SqL.of hd2⟩, _, rfl, D, acc, _, rfl, rfl, hd2, szl (by omega), ?_⟩
      exact ⟨_, _, appS U (.say k .done), rfl, L2.Same.mut e2 hD, upd_same, hU.app (t := .say k .done) ⟨t, [], rfl, ht', rfl⟩, by rw [hS, appS_assoc]; rfl⟩
    | call k r =>
      have ht' : G t = some (.tup [.str "call", .str (S (Vakepa.nameOf pr k))]) := ht
      refine ⟨_, rfl, t, _, _, _, rfl, rfl, SqT.of (eG _ _ ht'), rfl, rfl, _, rfl, ?_⟩
      refine ⟨_, rfl, .inl ⟨rfl, _, SqL.of hd2⟩, _, rfl, D, acc, _, rfl, rfl, hd2, szl (by omega), ?_⟩
      exact ⟨_, _, appS U (.call k .done), rfl, L2.Same.mut e2 hD, upd_same, hU.app (t := .call k .done) ⟨t, [], rfl, ht', rfl⟩, by rw [hS, appS_assoc]; rfl⟩
    | make ps r =>
      obtain ⟨l2, ht', hl2⟩ : ∃ l, G t = some (.tup [.str "make", .ref l]) ∧ G l = some (.lst (strL (ps.map (Vakepa.showPiece pr)))) := ht
      refine ⟨_, rfl, t, _, _, _, rfl, rfl, SqT.of (eG _ _ ht'), rfl, rfl, _, rfl, ?_⟩
      refine ⟨_, rfl, .inl ⟨rfl, _, SqL.of hd2⟩, _, rfl, D, acc, _, rfl, rfl, hd2, szl (by omega), ?_⟩
      exact ⟨_, _, appS U (.make ps .done), rfl, L2.Same.mut e2 hD, upd_same, hU.app (t := .make ps .done) ⟨t, [], rfl, ⟨l2, ht', hl2⟩, rfl⟩, by rw [hS, appS_assoc]; rfl⟩
    | when_ x w2 b r =>
      obtain ⟨l2, zs, ht', hl2, hst2⟩ : ∃ l zs, G t = some (.tup [.str "when", .int (x : Nat), .int (w2 : Nat), .ref l]) ∧ G l = some (.lst zs) ∧ StV pr G b zs := ht
      refine ⟨_, rfl, t, _, _, _, rfl, rfl, SqT.of (eG _ _ ht'), rfl, rfl, _, rfl, ?_⟩
      refine ⟨_, rfl, .inl ⟨rfl, _, SqL.of hd2⟩, ?_⟩
      refine ⟨_, rfl, t, _, _, _, rfl, rfl, SqT.of (eG _ _ ht'), (atI_n (j := 3) rfl), _, rfl, pr, G, l2, zs, b, rfl, eG, hl2, hst2, ?_, ?_, fun q H3 ys hq e3 hq3 hys => ?_⟩
      · have : max (deepS b + 1) (deepS r) ≤ deepS s := hd3
        omega
      · have : cntS b + cntS r + 1 ≤ cntS s := hc3
        omega
      · have hys2 : ys.length ≤ 10000 := by
          have h1 := hys.length
          have h3 := lenS_le_cntS (flatS b)
          have h4 := cntS_flat b
          have : cntS b + cntS r + 1 ≤ cntS s := hc3
          omega
        refine ⟨D, q, acc, ys, rfl, rfl, e3 _ _ hd2, hq3, sz (by omega), ?_⟩
        exact ⟨_, _, appS U (flatS b), rfl, L2.Same.mut (Same.trans e2 e3) hD, upd_same, hU.app hys, by rw [hS, appS_assoc]; rfl⟩
  · rintro σ H2 ⟨a, acc, U, rfl, e2, hd2, hU, hS⟩
    refine ⟨_, rfl, kk D H2 acc hD e2 hd2 ?_⟩
    rw [hS, drop_end (by rw [hst.length]; exact Nat.le_refl _)]
    show StV pr G (appS U .done) acc
    rw [appS_done]
    exact hU
def spRising (P : Program) (w : World) : Sp := Sp1 fun x H Q _ => ∃ d ks pr L, x = .ref d ∧ H d = some (dN P w d ks) ∧ NS pr.parts.length (· ∈ L) ks ∧ pr.parts.length ≤ 10 ∧ ∀ q H', H q = none → Same H H' → H' q = some (.lst (natL (Vakepa.inOrder pr L))) → Q (.ref q) H'
theorem sc_rising : FnScope ["found", "number"] ["found"] (defScope s_rising) := ⟨rfl, rfl, rfl, by decide +kernel, rfl, by decide +kernel, by decide +kernel⟩
theorem ok_rising (T : Tx K mg) : FK P w K mg base CX0 (1) (He.ga K "rising") ["found"] (spRising P w) := by
  obtain ⟨fd, F⟩ := T.f_rising
  refine ⟨fd, F.ok sc_rising (fun vs H Q E h => Sp1.len h) (fun cdv A outer s H vs Q E hr h => ?body), F.bindsN (fun _ _ _ _ _ _ us hl => match us, hl with | [_], _ => rfl), F.kp⟩
  refine ⟨_, PSs.nox (pss_one (ps_ret (pe_lock (pe_callB cr_sortedI rfl T.n_sorted (by decide +kernel) (pa_cons (pe_lc (own := [("number", 1)]) rfl sc_rising.nd (pi_keysN (pv 0)) (blkOk_by (own := [("number", 1)]) (N := ["found", "number"]) (sc := defScope s_rising) (by decide +kernel)) (fun _ _ _ _ _ => (pg_name (i := 1) sc_rising.nd rfl (.inl rfl) (.inr rfl))) (fun _ _ _ _ _ => (pts_one (pt_cmpR op_notN (pv 1) pe_non (nomark _)))) (fun _ _ _ _ _ => (pv 1))) pa_nil))))), ?_⟩
  obtain ⟨_, rfl, d, ks, pr, L, rfl, hd, hks, hn, kk⟩ := h
  have hlen := hks.len
  refine ⟨d, _, hd, trivial, fun od => ?_⟩
  refine ⟨_, rfl, d, od, ks, rfl, upd_same, fun D hD => ?_⟩
  have nD : D ≠ d := fun z => by rw [z, upd_same] at hD; cases hD
  have hD0 : H D = none := by rw [upd_ne nD] at hD; exact hD
  refine lc_n (fun i H' => H' d = some (.frz od (dN P w d ks)) ∧ Same (upd H d (.frz od (dN P w d ks))) H' ∧ H' D = some (.lst ((intsOf (ks.take i)).map V.int))) ⟨?_, Same.new hD, upd_same⟩ (fun i H' _ h => h.1) ?_ ?_
  · rw [upd_ne nD.symm, upd_same]
  · rintro i k H2 hk ⟨h1, h2, h3⟩
    have ht : intsOf (ks.take (i + 1)) = intsOf (ks.take i) ++ intsOf [k] := by
      unfold intsOf
      rw [take_more hk, List.filterMap_append]
    refine ⟨rfl, _, rfl, rfl, _, rfl, ?_⟩
    cases k with
    | none =>
      refine ⟨h1, h2, ?_⟩
      rw [h3, ht]
      show _ = some (HO.lst ((intsOf (ks.take i) ++ []).map V.int))
      rw [List.append_nil]
    | some k =>
      refine ⟨_, rfl, _, h3, ?_, ?_, L2.Same.mut h2 hD, ?_⟩
      · rw [List.length_map]
        have : (intsOf (ks.take i)).length ≤ (ks.take i).length := List.length_filterMap_le _ _
        rw [List.length_take] at this
        exact szl (by omega)
      · rw [upd_ne nD.symm]; exact h1
      · rw [upd_same, ht, List.map_append]
        rfl
  · rintro H2 ⟨h1, h2, h3⟩
    rw [List.take_length] at h3
    refine ⟨D, intsOf ks, rfl, SqL.of h3, fun ns q hp hs hq => ?_⟩
    rw [rising_eq hks hp hs]
    have nq : q ≠ d := fun z => by rw [z, h1] at hq; cases hq
    refine ⟨by rw [upd_ne nq.symm]; exact h1, ?_⟩
    refine kk q _ ?_ ?_ ?_
    · cases e : H q with
      | none => rfl
      | some o =>
        have := h2 q o (by rw [upd_ne nq]; exact e)
        rw [hq] at this
        cases this
    · intro b o hb
      by_cases c : b = d
      · subst c
        rw [upd_same, ← hd, hb]
      · rw [upd_ne c]
        have nb : b ≠ q := ne_of_none (h2 b o (by rw [upd_ne c]; exact hb)) hq
        rw [upd_ne nb]
        exact h2 b o (by rw [upd_ne c]; exact hb)
    · rw [upd_ne nq, upd_same]
end
end Wk
set_option maxHeartbeats 2000000
namespace Wk
open PySem PySem.Spec PyProof.Rows L2
open Vakepa (Piece)
section
variable {P : Program} {w : World} {K : PySem.W.Frag} {mg : Str → Option Value} {base : Heap}
theorem Good.deep {pr : Vakepa.Prog} (g : Good pr) {k : Nat} (hk : k < pr.parts.length) : deepS (Vakepa.bodyOf pr k) ≤ 3 ∧ cntS (Vakepa.bodyOf pr k) ≤ 5000 := by
  unfold Vakepa.bodyOf
  rw [List.getElem?_eq_getElem hk]
  exact ⟨(g.parts _ (List.getElem_mem hk)).2.2.2.2.2, (g.parts _ (List.getElem_mem hk)).2.2.2.2.1⟩
theorem Pg.partsL {pr : Vakepa.Prog} {H : Hp} {p : Addr} (h : Pg K pr H p) : ∃ dx ls lp le ws, H p = some (.ins (cProgram K) dx (F_Program ls (.ref lp) le)) ∧ H lp = some (.lst ws) ∧ ws.length = pr.parts.length ∧ ∀ i x, ws[i]? = some x → i < pr.parts.length ∧ ∃ a da nm z l xs, x = .ref a ∧
    H a = some (.ins (cPart K) da (F_Part nm z (.ref l))) ∧ H l = some (.lst xs) ∧ StV pr H (Vakepa.bodyOf pr i) xs := by
  obtain ⟨dx, ls, lp, le, vs, ws, hp⟩ := id h
  have hl := Paired.length hp.parts
  refine ⟨dx, _, lp, _, ws, hp.ins, hp.pl, hl, fun i x hx => ?_⟩
  have hi : i < pr.parts.length := by rw [← hl]; exact (List.getElem?_eq_some_iff.mp hx).1
  obtain ⟨dx', ls', lp', le', ws', a, da, nm, z, l, xs, h1, h2, h3, h4, h5, h6, h7, h8⟩ := h.body hi
  have e1 : (HO.ins (cProgram K) dx (F_Program (.ref ls) (.ref lp) (.ref le))) = HO.ins (cProgram K) dx' (F_Program ls' (.ref lp') le') := Option.some.inj (hp.ins.symm.trans h1)
  have e2 : lp = lp' := by
    injection e1 with _ _ e3
    have := congrArg (List.lookup ("parts" : Str)) e3
    rw [l_Program_parts, l_Program_parts] at this
    injection (Option.some.inj this)
  subst e2
  have e4 : ws = ws' := by
    have := hp.pl.symm.trans h2
    injection (Option.some.inj this)
  subst e4
  have e5 : x = .ref a := Option.some.inj (hx.symm.trans h3)
  exact ⟨hi, a, da, nm, z, l, xs, e5, h4, h6, h7⟩
def rowsBy (pr : Vakepa.Prog) (v : List Nat) : List (List Nat) := (List.range pr.parts.length).map fun k => Vakepa.inOrder pr (Vakepa.callsBy pr v (Vakepa.bodyOf pr k))
def spTableIn (P : Program) (w : World) (K : PySem.W.Frag) : Sp := Sp2 fun a y H Q _ => ∃ p pr c v, a = .ref p ∧ y = .ref c ∧ Pg K pr H p ∧ Good pr ∧ H c = some (.lst (natL v)) ∧ Vok pr.sets v ∧
  ∀ q H' vs, H q = none → Same H H' → H' q = some (.lst vs) → Paired (RowD q H') vs (rowsBy pr v) → (∀ x ∈ vs, ∃ a, x = .ref a ∧ H a = none) → Q (.ref q) H'
theorem sc_table_in : FnScope ["program", "chosen", "part"] ["program", "chosen"] (defScope s_table_in) := ⟨rfl, rfl, rfl, by decide +kernel, rfl, by decide +kernel, by decide +kernel⟩
theorem ok_table_in (T : Tx K mg) : FK P w K mg base CX0 (9) (He.ga K "table_in") ["program", "chosen"] (spTableIn P w K) := by
  obtain ⟨fd, F⟩ := T.f_table_in
  obtain ⟨fd0, G0, b0, k0⟩ := ok_rising (P := P) (w := w) (base := base) T
  obtain ⟨fd1, G1, b1, k1⟩ := ok_leads_in (P := P) (w := w) (base := base) T 4
  refine ⟨fd, F.ok sc_table_in (fun vs H Q E h => Sp2.len h) (fun cdv A outer s H vs Q E hr h => ?body), F.bindsN (fun _ _ _ _ _ _ us hl => match us, hl with | [_, _], _ => rfl), F.kp⟩
  refine ⟨_, PSs.nox (pss_one (ps_ret (pe_lc (own := [("part", 2)]) rfl sc_table_in.nd (pi_list (pe_fld (pv 0) rfl)) (blkOk_by (own := [("part", 2)]) (N := ["program", "chosen", "part"]) (sc := defScope s_table_in) (by decide +kernel)) (fun _ _ _ _ _ => (pg_name (i := 2) sc_table_in.nd rfl (.inl rfl) (.inr rfl))) (fun _ _ _ _ _ => pts_nil) (fun _ _ _ _ _ => (pe_call G0 (hr.mono (by first | decide | omega)) rfl T.g_rising k0 b0 .nil pass0 (pa_cons (pe_call G1 (hr.mono (by first | decide | omega)) rfl T.g_leads_in k1 b1 .nil pass0 (pa_cons (pv 0) (pa_cons (show PE _ _ (tFld K _ _) from by exact (pe_fld (pv 2) rfl)) (pa_cons (pv 1) pa_nil)))) pa_nil)))))), ?_⟩
  obtain ⟨_, _, rfl, p, pr, c, v, rfl, rfl, hP, g, hc, hv, kk⟩ := h
  obtain ⟨dx, ls, lp, le, ws, hp, hlp, hlen, hws⟩ := hP.partsL
  have hn := g.nparts
  refine ⟨_, rfl, p, _, dx, _, _, rfl, hp, T.c_Program, T.na_Program_parts, l_Program_parts, lp, rfl, ⟨ws, SqL.of hlp⟩, fun D hD => ?_⟩
  refine lc_rel (K := K) (xs := ws) (m := rowsBy pr v) (F := fun D H' x l => RowD D H' x l ∧ ∃ a, x = .ref a ∧ H a = none) (fun D H H' x l ⟨f, u⟩ k => ⟨RowD.keep _ _ _ _ _ f k, u⟩) (by unfold rowsBy; simp [hlen]) (SqL.of hlp) hD (szl (by omega)) (fun i x y H1 hx hy e ⟨acc, hacc⟩ Kt Kf kt => ?_) fun H1 acc e hacc hp => ?_
  · obtain ⟨hi, a, da, nm, z, l, xs, rfl, ha, hl, hst⟩ := hws i x hx
    have hd := g.deep hi
    have ey : y = Vakepa.inOrder pr (Vakepa.callsBy pr v (Vakepa.bodyOf pr i)) := by
      unfold rowsBy at hy
      rw [List.getElem?_map, List.getElem?_range hi] at hy
      exact (Option.some.inj hy).symm
    subst ey
    refine ⟨rfl, ?_⟩
    refine ⟨_, rfl, _, rfl, a, _, da, _, _, rfl, e _ _ ha, T.c_Part, T.na_Part_statements, l_Part_statements, _, rfl, _, _, _, rfl, p, pr, l, xs, _, c, v, rfl, rfl, rfl, hP.same e, g, e _ _ hl, hst.same e, g.okBody hi, by omega, e _ _ hc, hv, fun q H2 ks hq e2 hq2 hks => ?_⟩
    refine ⟨_, rfl, q, ks, pr, _, rfl, hq2, hks, hn, fun q3 H3 hq3 e3 h3 => ?_⟩
    have n3 : H1 q3 = none := gone e2 hq3
    exact kt _ _ ⟨RowL.off hacc n3 h3, q3, rfl, gone e n3⟩ (Same.trans e2 e3)
  · refine kk D H1 acc hD e hacc (Paired.mapP hp fun _ _ q => q.1) fun x hx => ?_
    obtain ⟨i, hi, ex⟩ := List.getElem_of_mem hx
    obtain ⟨y, _, _, h⟩ := Paired.at_ hp (List.getElem?_eq_getElem hi)
    rw [ex] at h
    exact h
theorem nextAny_len (pr : Vakepa.Prog) : (Vakepb.nextAny pr).length = pr.parts.length := by unfold Vakepb.nextAny; simp
theorem nextAny_at {pr : Vakepa.Prog} {i : Nat} (hi : i < pr.parts.length) : (Vakepb.nextAny pr)[i]? = some (Vakepa.inOrder pr (Vakepa.callsAny pr (Vakepa.bodyOf pr i))) := by
  unfold Vakepb.nextAny Vakepb.tidy
  rw [List.getElem?_map, List.getElem?_range hi]
  rfl
def valsAll (pr : Vakepa.Prog) : List (List Nat) := (List.range (Vakepa.total pr)).map (Vakepa.valuesOf pr)
def spTableAll (P : Program) (w : World) (K : PySem.W.Frag) : Sp := Sp1 fun a H Q _ => ∃ p pr, a = .ref p ∧ Pg K pr H p ∧ Good pr ∧
  ∀ q H' vs, H q = none → Same H H' → H' q = some (.lst vs) → Paired (RowD q H') vs (Vakepb.nextAny pr) → (∀ x ∈ vs, ∃ a, x = .ref a ∧ H a = none) → Q (.ref q) H'
theorem sc_table_of_all : FnScope ["program", "every", "found", "part", "statements", "some", "chosen", "number"] ["program"] (defScope s_table_of_all) := ⟨rfl, rfl, rfl, by decide +kernel, rfl, by decide +kernel, by decide +kernel⟩
theorem ok_table_of_all (T : Tx K mg) : FK P w K mg base CX0 (9) (He.ga K "table_of_all") ["program"] (spTableAll P w K) := by
  obtain ⟨fd, F⟩ := T.f_table_of_all
  obtain ⟨fd0, G0, b0, k0⟩ := ok_rising (P := P) (w := w) (base := base) T
  obtain ⟨fd1, G1, b1, k1⟩ := ok_leads_in (P := P) (w := w) (base := base) T 4
  obtain ⟨fd2, G2, b2, k2⟩ := ok_flat (P := P) (w := w) (base := base) T 4
  obtain ⟨fd3, G3, b3, k3⟩ := ok_Program_how_many_assignments (P := P) (w := w) (base := base) T
  obtain ⟨fd4, G4, b4, k4⟩ := ok_Program_assignment (P := P) (w := w) (base := base) T
  refine ⟨fd, F.ok sc_table_of_all (fun vs H Q E h => Sp1.len h) (fun cdv A outer s H vs Q E hr h => ?body), F.bindsN (fun _ _ _ _ _ _ us hl => match us, hl with | [_], _ => rfl), F.kp⟩
  refine ⟨_, PSs.nox (pss_cons (ps_setLc (i := 1) (own := [("number", 7)]) rfl sc_table_of_all.nd rfl rfl (sw_true rfl rfl rfl (by decide +kernel)) (pi_range1 rfl T.n_range (pa_cons (pe_meth0 (pv 0) T.c_Program T.me_Program_how_many_assignments G3 (hr.mono (by first | decide | omega)) b3 .nil pass0) pa_nil)) (blkOk_by (own := [("number", 7)]) (N := ["program", "every", "found", "part", "statements", "some", "chosen", "number"]) (sc := defScope s_table_of_all) (by decide +kernel)) (fun _ _ _ _ _ => (pg_name (i := 7) sc_table_of_all.nd rfl (.inl rfl) (.inr rfl))) (fun _ _ _ _ _ => pts_nil) (fun _ _ _ _ _ => (pe_meth (pv 0) T.c_Program T.me_Program_assignment G4 (hr.mono (by first | decide | omega)) b4 .nil pass0 (pa_cons (pv 7) pa_nil))))
      (pss_cons (ps_set (i := 2) sc_table_of_all.nd rfl (.inl rfl) (pe_lst pa_nil) (hf := (.inr rfl)))
      (pss_cons (ps_for PassesOwn.never rfl (pi_list (pe_fld (pv 0) rfl)) (pg_name (i := 3) sc_table_of_all.nd rfl (.inl rfl) (.inr rfl)) (pss_cons (ps_set (i := 4) sc_table_of_all.nd rfl (.inl rfl) (pe_call G2 (hr.mono (by first | decide | omega)) rfl T.g_flat k2 b2 .nil pass0 (pa_cons (pe_fld (pv 3) rfl) pa_nil)) (hf := (.inr rfl)))
      (pss_cons (ps_set (i := 5) sc_table_of_all.nd rfl (.inl rfl) pe_newN (hf := (.inr rfl)))
      (pss_cons (ps_for PassesOwn.never rfl (pi_list (pv 1)) (pg_name (i := 6) sc_table_of_all.nd rfl (.inl rfl) (.inr rfl)) (pss_one (ps_expr (pe_updN (pv 5) (pe_call G1 (hr.mono (by first | decide | omega)) rfl T.g_leads_in k1 b1 .nil pass0 (pa_cons (pv 0) (pa_cons (pv 4) (pa_cons (pv 6) pa_nil))))))))
      (pss_one (ps_expr (pe_bm PySem.F.plainAttrs_list PySem.F.slot_list_append PySem.F.type_list_append mt_append (pv 2) (pa_cons (pe_call G0 (hr.mono (by first | decide | omega)) rfl T.g_rising k0 b0 .nil pass0 (pa_cons (pv 5) pa_nil)) pa_nil))))))))
      (pss_one (ps_ret (pv 2)))))), ?_⟩
  obtain ⟨_, rfl, p, pr, rfl, hP, g, kk⟩ := h
  obtain ⟨dx, ls, lp, le, ws, hp, hlp, hlen, hws⟩ := hP.partsL
  have hn := g.nparts
  have ht := g.tot
  refine ⟨_, rfl, p, dx, _, rfl, hp, n_Program_how_many_assignments, _, rfl, p, pr.sets, rfl, hP.setsAt, fun s hs => by have := g.vals s hs; omega, fun H1 e1 => ?_⟩
  refine ⟨_, rfl, by rw [tot_total]; omega, by rw [tot_total]; omega, fun D1 hD1 => ?_⟩
  refine lc_relR (m := valsAll pr) (F := RowD) RowD.keep (by unfold valsAll; rw [tot_total]; simp) hD1 (szl (by rw [tot_total]; omega)) (fun i y H2 hy e ⟨acc, hacc⟩ Kt Kf kt => ?_) fun H2 vsE e2 hE hpE => ?_
  · have hi : i < Vakepa.total pr := by
      have := (List.getElem?_eq_some_iff.mp hy).1
      unfold valsAll at this
      simpa using this
    have ey : y = Vakepa.valuesOf pr i := by
      unfold valsAll at hy
      rw [List.getElem?_map, List.getElem?_range hi] at hy
      exact (Option.some.inj hy).symm
    subst ey
    refine ⟨rfl, ?_⟩
    refine ⟨_, rfl, p, dx, _, rfl, e _ _ (e1 _ _ hp), n_Program_assignment, _, rfl, _, _, rfl, p, pr.sets, i, rfl, ?_, (hP.setsAt.same e1).same e, by have := g.nsets; omega, fun s hs => by have := g.vals s hs; omega, fun q H3 hq e3 h3q => ?_⟩
    · show V.int (0 + (i : Int)) = _
      rw [Int.zero_add]
    · exact kt _ _ (RowL.off hacc hq h3q) e3
  have eH2 := Same.trans e1 e2
  refine ⟨by show 0 ≤ sizeLine; decide, fun D hD => ?_⟩
  have sD : Same H2 (upd H2 D (.lst [])) := Same.new hD
  refine ⟨_, rfl, p, _, dx, _, _, rfl, sD _ _ (eH2 _ _ hp), T.c_Program, T.na_Program_parts, l_Program_parts, lp, rfl, ⟨ws, SqL.of (sD _ _ (eH2 _ _ hlp))⟩, ?_⟩
  refine for_list (K := K) (a := lp) (xs := ws) (fun i σ H' => ∃ a b c d e acc, σ = [some (.ref p), some (.ref D1), some (.ref D), a, b, c, d, e] ∧ Same H2 H' ∧ H' D = some (.lst acc) ∧ Paired (RowD D H') acc ((Vakepb.nextAny pr).take i) ∧ ∀ x ∈ acc, ∃ a, x = .ref a ∧ H a = none)
    ⟨none, none, none, none, none, [], rfl, sD, upd_same, .nil, (fun _ h => nomatch h)⟩ (fun i σ H' _ ⟨_, _, _, _, _, _, _, e, _⟩ => SqL.of (e _ _ (eH2 _ _ hlp))) ?_ ?_
  · rintro i x σ H3 hx ⟨a, b, c, d, e, acc, rfl, e3, hd3, hacc, hnw⟩
    obtain ⟨hi, a', da, nm, z, l, xs, rfl, ha, hl, hst⟩ := hws i x hx
    have hd := g.deep hi
    have eH3 := Same.trans eH2 e3
    refine ⟨_, rfl, a', _, da, _, _, rfl, eH3 _ _ ha, T.c_Part, T.na_Part_statements, l_Part_statements, _, rfl, pr, H, l, xs, _, rfl, eH3, hl, hst, by omega, by omega, fun q H4 ys hq e4 h4 hys => ?_⟩
    have eH4 := Same.trans eH3 e4
    refine fun M hM => ?_
    have sM : Same H4 (upd H4 M (dN P w M [])) := Same.new hM
    have hE4 : H4 D1 = some (.lst vsE) := e4 _ _ (e3 _ _ hE)
    refine ⟨_, rfl, D1, rfl, ⟨vsE, SqL.of (sM _ _ hE4)⟩, ?_⟩
    refine for_list (K := K) (a := D1) (xs := vsE) (fun j σ H' => ∃ d ks, σ = [some (.ref p), some (.ref D1), some (.ref D), some (.ref a'), some (.ref q), some (.ref M), d, e] ∧ Same H4 H' ∧ H' M = some (dN P w M ks) ∧
      NS pr.parts.length (fun k => ∃ a, a < j ∧ k ∈ Vakepa.callsBy pr (Vakepa.valuesOf pr a) (flatS (Vakepa.bodyOf pr i))) ks) ⟨_, [], rfl, sM, upd_same, NS.nil.congr fun k => ⟨False.elim, fun ⟨a, h, _⟩ => absurd h (Nat.not_lt_zero a)⟩⟩ (fun j σ H' _ ⟨_, _, _, e, _⟩ => SqL.of (e _ _ hE4)) ?_ ?_
    · rintro j x σ H5 hx ⟨d, ks, rfl, e5, hd5, hks⟩
      obtain ⟨y, hy, cq, rfl, ncq, hcq⟩ := Paired.at_ hpE hx
      have hj : j < Vakepa.total pr := by
        have := (List.getElem?_eq_some_iff.mp hy).1
        unfold valsAll at this
        simpa using this
      have ey : y = Vakepa.valuesOf pr j := by
        unfold valsAll at hy
        rw [List.getElem?_map, List.getElem?_range hj] at hy
        exact (Option.some.inj hy).symm
      subst ey
      have eH5 := Same.trans eH4 e5
      refine ⟨_, rfl, ⟨M, ks, rfl, hd5⟩, ?_⟩
      refine ⟨_, rfl, _, rfl, _, rfl, _, _, _, rfl, p, pr, q, ys, flatS (Vakepa.bodyOf pr i), cq, _, rfl, rfl, rfl, hP.same eH5, g, e5 _ _ h4, hys.same eH5, (g.okBody hi).flat, by rw [deepS_flat]; decide, e5 _ _ (e4 _ _ (e3 _ _ hcq)), g.vok j, fun q6 H6 ms hq6 e6 h6 hms => ?_⟩
      have h1 := hks.len
      have h2 := hms.len
      refine ⟨M, q6, ks, ms, rfl, rfl, ne_of_none hd5 hq6, e6 _ _ hd5, h6, sz (by omega), ?_⟩
      refine ⟨_, _, rfl, L2.Same.mut (Same.trans e5 e6) hM, upd_same, (hks.uni hms).congr fun k => ?_⟩
      constructor
      · rintro (⟨a, ha, hk⟩ | hk)
        · exact ⟨a, Nat.lt_succ_of_lt ha, hk⟩
        · exact ⟨j, Nat.lt_succ_self j, hk⟩
      · rintro ⟨a, ha, hk⟩
        rcases Nat.lt_succ_iff_lt_or_eq.mp ha with z | z
        · exact .inl ⟨a, z, hk⟩
        · rw [z] at hk
          exact .inr hk
    · rintro σ H5 ⟨d, ks, rfl, e5, hd5, hks⟩
      have hlE : vsE.length = Vakepa.total pr := by rw [Paired.length hpE]; unfold valsAll; simp
      have hks2 : NS pr.parts.length (· ∈ Vakepa.callsAny pr (Vakepa.bodyOf pr i)) ks := hks.congr fun k => by
        rw [hlE]
        exact (callsAny_flat ht.2 _ k).symm
      refine ⟨_, rfl, .inl ⟨rfl, _, SqL.of (e5 _ _ (e4 _ _ hd3))⟩, ?_⟩
      refine ⟨_, rfl, _, rfl, M, ks, pr, _, rfl, hd5, hks2, hn, fun q6 H6 hq6 e6 h6 => ?_⟩
      have hla := Paired.length hacc
      rw [List.length_take] at hla
      have hD6 := e6 _ _ (e5 _ _ (e4 _ _ hd3))
      refine ⟨D, acc, _, rfl, rfl, hD6, szl (by omega), ?_⟩
      refine ⟨_, _, _, _, _, _, rfl, L2.Same.mut (Same.trans e3 (Same.trans e4 (Same.trans e5 e6))) hD, upd_same, ?_, fun x hx => ?_⟩
      rotate_left
      · rcases List.mem_append.mp hx with z | z
        · exact hnw x z
        · exact ⟨q6, List.mem_singleton.mp z, gone eH4 (gone e5 hq6)⟩
      rw [take_more (nextAny_at hi)]
      have k : Keep D H3 (upd H6 D (.lst (acc ++ [.ref q6]))) := Keep.upd (Keep.of (Same.trans e4 (Same.trans e5 e6)))
      refine Paired.snoc (Paired.mapP hacc fun _ _ q => RowD.keep _ _ _ _ _ q k) ⟨q6, rfl, (ne_of_none (e5 _ _ (e4 _ _ hd3)) hq6).symm, ?_⟩
      rw [upd_ne (ne_of_none (e5 _ _ (e4 _ _ hd3)) hq6).symm]
      exact h6
  · rintro σ H3 ⟨a, b, c, d, e, acc, rfl, e3, hd3, hacc, hnw⟩
    refine ⟨_, rfl, kk D H3 acc (gone eH2 hD) (Same.trans eH2 e3) hd3 ?_ hnw⟩
    rw [hlen, ← nextAny_len, List.take_length] at hacc
    exact hacc
end
end Wk
set_option maxHeartbeats 2000000
/-! What's come to: plain. -/
namespace Wk
open PySem PySem.Spec PyProof.Rows L2
open Vakepa (Prog Piece)
inductive Rch (t : List (List Nat)) (gn st : List Nat) : Nat → Prop
  | base {k : Nat} : k ∈ st → k ∉ gn → Rch t gn st k
  | step {j k : Nat} : Rch t gn st j → k ∈ t.getD j [] → k ∉ gn → Rch t gn st k
section
variable {t : List (List Nat)} {gn st : List Nat} {n : Nat}
def nx (t : List (List Nat)) (gn l : List Nat) : List Nat := (l.flatMap fun k => t.getD k []).foldl (fun l k => if gn.contains k = true then l else Vakepa.mark k l) l
theorem goOn_succ (f : Nat) (l : List Nat) : Vakepb.goOn t gn (f + 1) l = Vakepb.goOn t gn f (nx t gn l) := rfl
theorem fold_mem (gn : List Nat) : ∀ (xs l : List Nat) (k : Nat), k ∈ xs.foldl (fun l k => if gn.contains k = true then l else Vakepa.mark k l) l ↔ k ∈ l ∨ (k ∈ xs ∧ k ∉ gn)
  | [], l, k => by simp
  | a :: r, l, k => by
    rw [List.foldl_cons, fold_mem gn r]
    by_cases c : gn.contains a = true
    · rw [if_pos c]
      have ca : a ∈ gn := List.contains_iff_mem.mp c
      constructor
      · rintro (h | ⟨h1, h2⟩)
        · exact .inl h
        · exact .inr ⟨List.mem_cons_of_mem _ h1, h2⟩
      · rintro (h | ⟨h1, h2⟩)
        · exact .inl h
        · rcases List.mem_cons.mp h1 with e | h1
          · rw [e] at h2; exact absurd ca h2
          · exact .inr ⟨h1, h2⟩
    · rw [if_neg c, mark_mem]
      have ca : a ∉ gn := fun z => c (List.contains_iff_mem.mpr z)
      constructor
      · rintro ((h | h) | ⟨h1, h2⟩)
        · exact .inl h
        · rw [h]; exact .inr ⟨List.mem_cons_self, ca⟩
        · exact .inr ⟨List.mem_cons_of_mem _ h1, h2⟩
      · rintro (h | ⟨h1, h2⟩)
        · exact .inl (.inl h)
        · rcases List.mem_cons.mp h1 with e | h1
          · exact .inl (.inr e)
          · exact .inr ⟨h1, h2⟩
theorem fold_nodup (gn : List Nat) : ∀ (xs l : List Nat), l.Nodup → (xs.foldl (fun l k => if gn.contains k = true then l else Vakepa.mark k l) l).Nodup
  | [], l, h => h
  | a :: r, l, h => by
    rw [List.foldl_cons]
    refine fold_nodup gn r _ ?_
    split
    · exact h
    · exact mark_nodup h
theorem nx_mem (l : List Nat) (k : Nat) : k ∈ nx t gn l ↔ k ∈ l ∨ ((∃ j ∈ l, k ∈ t.getD j []) ∧ k ∉ gn) := by
  unfold nx
  rw [fold_mem, List.mem_flatMap]
def Clo (t : List (List Nat)) (gn l : List Nat) : Prop := ∀ j ∈ l, ∀ k ∈ t.getD j [], k ∉ gn → k ∈ l
theorem nx_same {l : List Nat} (h : Clo t gn l) (k : Nat) : k ∈ nx t gn l ↔ k ∈ l := by
  rw [nx_mem]
  exact ⟨fun z => z.elim id fun ⟨⟨j, hj, hk⟩, g⟩ => h j hj k hk g, .inl⟩
theorem goOn_closed : ∀ (f : Nat) (l : List Nat), Clo t gn l → ∀ k, k ∈ Vakepb.goOn t gn f l ↔ k ∈ l
  | 0, l, _, k => Iff.rfl
  | f + 1, l, h, k => by
    have e := nx_same h
    rw [goOn_succ, goOn_closed f (nx t gn l) fun j hj k hk g => (e k).mpr (h j ((e j).mp hj) k hk g), e]
theorem goOn_mono : ∀ (f : Nat) (l : List Nat) (k : Nat), k ∈ l → k ∈ Vakepb.goOn t gn f l
  | 0, l, _, h => h
  | f + 1, l, k, h => by
    rw [goOn_succ]
    exact goOn_mono f _ k ((nx_mem l k).mpr (.inl h))
theorem goOn_sound : ∀ (f : Nat) (l : List Nat), (∀ k ∈ l, Rch t gn st k) → ∀ k ∈ Vakepb.goOn t gn f l, Rch t gn st k
  | 0, l, h, k, hk => h k hk
  | f + 1, l, h, k, hk => by
    rw [goOn_succ] at hk
    refine goOn_sound f _ (fun j hj => ?_) k hk
    rcases (nx_mem l j).mp hj with z | ⟨⟨i, hi, hk⟩, g⟩
    · exact h j z
    · exact .step (h i hi) hk g
theorem goOn_grow : ∀ (f : Nat) (l : List Nat), l.Nodup → Clo t gn (Vakepb.goOn t gn f l) ∨ (l.length + f ≤ (Vakepb.goOn t gn f l).length ∧ (Vakepb.goOn t gn f l).Nodup)
  | 0, l, h => .inr ⟨Nat.le_refl _, h⟩
  | f + 1, l, h => by
    rw [goOn_succ]
    have hn : (nx t gn l).Nodup := fold_nodup gn _ l h
    rcases goOn_grow f (nx t gn l) hn with z | ⟨z1, z2⟩
    · exact .inl z
    · by_cases c : Clo t gn l
      · refine .inl ?_
        have e := nx_same c
        have c2 : Clo t gn (nx t gn l) := fun j hj k hk g => (e k).mpr (c j ((e j).mp hj) k hk g)
        have e2 := goOn_closed f _ c2
        exact fun j hj k hk g => (e2 k).mpr (c2 j ((e2 j).mp hj) k hk g)
      · refine .inr ⟨?_, z2⟩
        have : ∃ k, k ∈ nx t gn l ∧ k ∉ l := by
          refine Classical.byContradiction fun q => c fun j hj k hk g => Classical.byContradiction fun r => q ⟨k, (nx_mem l k).mpr (.inr ⟨⟨j, hj, hk⟩, g⟩), r⟩
        obtain ⟨k, h1, h2⟩ := this
        have := nodup_len (l := k :: l) (m := nx t gn l) (List.nodup_cons.mpr ⟨h2, h⟩) fun x hx => by
          rcases List.mem_cons.mp hx with e | hx
          · rw [e]; exact h1
          · exact (nx_mem l x).mpr (.inl hx)
        rw [List.length_cons] at this
        omega
theorem Rch.lt (ht : ∀ j, ∀ k ∈ t.getD j [], k < n) (hs : ∀ k ∈ st, k < n) {k : Nat} (h : Rch t gn st k) : k < n := by
  cases h with
  | base a _ => exact hs k a
  | step _ b _ => exact ht _ k b
theorem Rch.ne {k : Nat} (h : Rch t gn st k) : k ∉ gn := by
  cases h with
  | base _ b => exact b
  | step _ _ b => exact b
theorem goOn_rch (ht : ∀ j, ∀ k ∈ t.getD j [], k < n) (hs : ∀ k ∈ st, k < n) (hn : st.Nodup) (k : Nat) : k ∈ Vakepb.goOn t gn n (st.filter fun k => !gn.contains k) ↔ Rch t gn st k := by
  have h0 : ∀ k, k ∈ (st.filter fun k => !gn.contains k) ↔ k ∈ st ∧ k ∉ gn := fun k => by
    rw [List.mem_filter]
    simp
  have sound := goOn_sound (t := t) (gn := gn) (st := st) n (st.filter fun k => !gn.contains k) fun k hk => .base ((h0 k).mp hk).1 ((h0 k).mp hk).2
  have nd : (st.filter fun k => !gn.contains k).Nodup := List.Pairwise.filter _ hn
  have clo : Clo t gn (Vakepb.goOn t gn n (st.filter fun k => !gn.contains k)) := by
    rcases goOn_grow n _ nd with z | ⟨z1, z2⟩
    · exact z
    · have hl := nodup_len (m := List.range n) z2 fun x hx => List.mem_range.mpr ((sound x hx).lt ht hs)
      rw [List.length_range] at hl
      have e : (st.filter fun k => !gn.contains k) = [] := List.length_eq_zero_iff.mp (by omega)
      have c0 : Clo t gn (st.filter fun k => !gn.contains k) := by rw [e]; intro j hj; cases hj
      have e2 := goOn_closed n _ c0
      exact fun j hj k hk g => (e2 k).mpr (c0 j ((e2 j).mp hj) k hk g)
  refine ⟨sound k, fun h => ?_⟩
  induction h with
  | base a b => exact goOn_mono n _ _ ((h0 _).mpr ⟨a, b⟩)
  | step _ b c ih => exact clo _ ih _ b c
end
theorem comes_mem {p : Prog} {t : Vakepb.Next} {gn : List Nat} (ht : ∀ j, ∀ k ∈ t.getD j [], k < p.parts.length) (hs : ∀ k ∈ p.starts, k < p.parts.length) (hn : p.starts.Nodup) (k : Nat) : k ∈ Vakepb.comes p t gn ↔ Rch t gn p.starts k := by
  unfold Vakepb.comes Vakepb.tidy
  rw [inOrder_mem, goOn_rch ht hs hn]
  exact ⟨fun h => h.2, fun h => ⟨h.lt ht hs, h⟩⟩
end Wk
set_option maxHeartbeats 2000000
namespace Wk
open PySem PySem.Spec PyProof.Rows L2
open Vakepa (Piece)
section
variable {P : Program} {w : World} {K : PySem.W.Frag} {mg : Str → Option Value} {base : Heap}
theorem RowsAt.at_ {H : Hp} {t : Addr} {tb : List (List Nat)} (h : RowsAt H t tb) {j : Nat} (hj : j < tb.length) : ∃ vs a, H t = some (.lst vs) ∧ vs[j]? = some (.ref a) ∧ H a = some (.lst (natL (tb.getD j []))) := by
  obtain ⟨vs, h1, h2⟩ := h
  obtain ⟨v, hv, a, rfl, ha⟩ := Paired.at2 h2 (List.getElem?_eq_getElem hj)
  refine ⟨vs, a, h1, hv, ?_⟩
  rw [List.getD_eq_getElem?_getD, List.getElem?_eq_getElem hj]
  exact ha
/-- a part and True -/
def PairD (D : Addr) (H : Hp) (v : V) (n : Nat) : Prop := ∃ a, v = .ref a ∧ a ≠ D ∧ H a = some (.tup [.int (n : Int), .bl true])
theorem PairD.keep : FKeep PairD := fun D H H' v x ⟨a, e, n, h⟩ k => ⟨a, e, n, k _ _ h n⟩
theorem pairs_refs {D : Addr} {H : Hp} {acc : List V} {l : List Nat} (h : Paired (PairD D H) acc l) : ∃ ps : List Addr, acc = ps.map V.ref ∧ Paired (fun p n => SqT K H p [.int n, .bl true]) ps (l.map fun (k : Nat) => (k : Int)) := by
  induction h with
  | nil => exact ⟨[], rfl, .nil⟩
  | cons h t ih =>
    obtain ⟨a, rfl, _, ha⟩ := h
    obtain ⟨ps, rfl, q⟩ := ih
    exact ⟨a :: ps, rfl, .cons (SqT.of ha) q⟩
theorem filt_map (gn : List Nat) : ∀ l : List Nat, (l.filterMap fun k => if gn.contains k = true then none else some (V.int (k : Int))) = natL (l.filter fun k => !gn.contains k)
  | [] => rfl
  | a :: r => by
    rw [List.filterMap_cons, List.filter_cons]
    by_cases c : gn.contains a = true
    · rw [if_pos c, c]
      exact filt_map gn r
    · have c' : gn.contains a = false := by simpa using c
      rw [if_neg c, c']
      show V.int (a : Int) :: _ = V.int (a : Int) :: _
      rw [filt_map gn r]
      rfl
def spComeTo (P : Program) (w : World) (K : PySem.W.Frag) : Sp := Sp3 fun x y z H Q _ => ∃ t e l tb st gn n, x = .ref t ∧ y = .ref e ∧ z = .ref l ∧ RowsAt H t tb ∧ H e = some (.lst (natL st)) ∧ H l = some (.tup (natL gn)) ∧ tb.length = n ∧ n ≤ 10 ∧ (∀ j, ∀ k ∈ tb.getD j [], k < n) ∧ (∀ k ∈ st, k < n) ∧ st.Nodup ∧
  ∀ q H' ks, H q = none → Same H H' → H' q = some (dN P w q ks) → NS n (Rch tb gn st) ks → Q (.ref q) H'
theorem sc_come_to : FnScope ["table", "entries", "left", "waiting", "found", "number", "entry"] ["table", "entries", "left"] (defScope s_come_to) := ⟨rfl, rfl, rfl, by decide +kernel, rfl, by decide +kernel, by decide +kernel⟩
theorem ok_come_to (T : Tx K mg) : FK P w K mg base CX0 (1) (He.ga K "come_to") ["table", "entries", "left"] (spComeTo P w K) := by
  obtain ⟨fd, F⟩ := T.f_come_to
  refine ⟨fd, F.ok sc_come_to (fun vs H Q E h => Sp3.len h) (fun cdv A outer s H vs Q E hr h => ?body), F.bindsN (fun _ _ _ _ _ _ us hl => match us, hl with | [_, _, _], _ => rfl), F.kp⟩
  have hu1 := hu1_of hr
  refine ⟨_, PSs.nox (pss_cons (ps_setLc (i := 3) (own := [("entry", 6)]) rfl sc_come_to.nd rfl rfl (sw_true rfl rfl rfl (by decide +kernel)) (pi_list (pv 1)) (blkOk_by (own := [("entry", 6)]) (N := ["table", "entries", "left", "waiting", "found", "number", "entry"]) (sc := defScope s_come_to) (by decide +kernel)) (fun _ _ _ _ _ => (pg_name (i := 6) sc_come_to.nd rfl (.inl rfl) (.inr rfl))) (fun _ _ _ _ _ => (pts_one (show PT _ _ (tTest (tOp (rIn K true) _ _)) from by exact (pt_cmpR op_notIn_seq (pv 6) (pv 2) rfl)))) (fun _ _ _ _ _ => (pv 6)))
      (pss_cons (ps_set (i := 4) sc_come_to.nd rfl (.inl rfl) (pe_callTy (call_dictN rfl) rfl T.n_dict (by decide +kernel) (pa_cons (pe_lc (own := [("entry", 6)]) rfl sc_come_to.nd (pi_list (pv 3)) (blkOk_by (own := [("entry", 6)]) (N := ["table", "entries", "left", "waiting", "found", "number", "entry"]) (sc := defScope s_come_to) (by decide +kernel)) (fun _ _ _ _ _ => (pg_name (i := 6) sc_come_to.nd rfl (.inl rfl) (.inr rfl))) (fun _ _ _ _ _ => pts_nil) (fun _ _ _ _ _ => (pe_tup (pa_cons (pv 6) (pa_cons pe_bl pa_nil))))) pa_nil)) (hf := (.inr rfl)))
      (pss_cons (ps_while PassesOwn.never (pt_cmpR (op_neNil hu1) (pv 3) (pe_lst pa_nil) (nomark _)) (pss_one (ps_for PassesOwn.never rfl (pi_list (pe_ix ix_list (pv 0) (pe_bm0 PySem.F.plainAttrs_list PySem.F.slot_list_pop PySem.F.type_list_pop mt_pop (pv 3)) (fun _ _ => rfl))) (pg_name (i := 5) sc_come_to.nd rfl (.inl rfl) (.inr rfl)) (pss_one (ps_if (PW.pt (pw_and (pt_cmp (pc_notInN (pv 5) (pv 4))) (pw_and1 (pt_cmpR op_notIn_seq (pv 5) (pv 2) rfl)))) (pss_cons (ps_putN (pv 4) (pv 5) pe_bl)
      (pss_one (ps_expr (pe_bm PySem.F.plainAttrs_list PySem.F.slot_list_append PySem.F.type_list_append mt_append (pv 3) (pa_cons (pv 5) pa_nil))))) pss_nil)))))
      (pss_one (ps_ret (pv 4)))))), ?_⟩
  obtain ⟨_, _, _, rfl, t, e, l, tb, st, gn, n, rfl, rfl, rfl, hT, he, hl, htn, hn, htb, hst, hnd, kk⟩ := h
  have hst4 : st.length ≤ 10 := by
    have := nodup_len (m := List.range n) hnd fun x hx => List.mem_range.mpr (hst x hx)
    rw [List.length_range] at this
    omega
  refine ⟨_, rfl, e, rfl, ⟨_, SqL.of he⟩, fun D1 hD1 => ?_⟩
  refine lc_pure (K := K) (xs := natL st) (fun i => (st[i]?).bind fun k => if gn.contains k = true then none else some (V.int (k : Int))) (SqL.of he) hD1 (szl (by rw [natL_len]; omega)) (fun i x H1 hx e1 Kt Kf kt kf => ?_) fun H1 e1 hd1 => ?_
  · have hi : i < st.length := by have := (List.getElem?_eq_some_iff.mp hx).1; rwa [natL_len] at this
    rw [natL_at (List.getElem?_eq_getElem hi)] at hx
    have ex := Option.some.inj hx
    subst ex
    refine ⟨rfl, _, rfl, _, rfl, l, _, rfl, .inr (SqT.of (e1 _ _ hl)), rfl, natL_flat _, _, rfl, ?_⟩
    show if (!inV (.int ((st[i] : Nat) : Int)) (natL gn)) = true then _ else _
    rw [inV_N]
    by_cases c : gn.contains st[i] = true
    · rw [c]
      exact kf _ (by rw [List.getElem?_eq_getElem hi, Option.bind_some, if_pos c]) (Same.refl _)
    · have c' : gn.contains st[i] = false := by simpa using c
      rw [c']
      exact ⟨_, rfl, kt _ _ (by rw [List.getElem?_eq_getElem hi, Option.bind_some, if_neg c]) (Same.refl _)⟩
  rw [natL_len, picks_bind rfl, filt_map] at hd1
  have nd0 : (st.filter fun k => !gn.contains k).Nodup := List.Pairwise.filter _ hnd
  have hm0 : ∀ k, k ∈ (st.filter fun k => !gn.contains k) ↔ k ∈ st ∧ k ∉ gn := fun k => by
    rw [List.mem_filter]
    simp
  have hl0 : (st.filter fun k => !gn.contains k).length ≤ 10 := Nat.le_trans (List.length_filter_le _ _) hst4
  generalize hw0 : (st.filter fun k => !gn.contains k) = w0 at hd1 nd0 hm0 hl0
  refine ⟨_, rfl, D1, rfl, ⟨_, SqL.of hd1⟩, fun D2 hD2 => ?_⟩
  refine lc_rel (K := K) (xs := natL w0) (m := w0) (F := PairD) PairD.keep (natL_len _) (SqL.of hd1) hD2 (szl (by rw [natL_len]; omega)) (fun i x y H2 hx hy e2 ⟨acc, hacc⟩ Kt Kf kt => ?_) fun H2 acc e2 hacc hp => ?_
  · rw [natL_at hy] at hx
    have ex := Option.some.inj hx
    subst ex
    exact ⟨rfl, _, rfl, by show 2 ≤ sizeLine; decide, fun q hq => kt _ _ ⟨q, rfl, (ne_of_none hacc hq).symm, upd_same⟩ (Same.new hq)⟩
  obtain ⟨ps, rfl, hps⟩ := pairs_refs (K := K) hp
  refine ⟨D2, ps, _, rfl, SqL.of hacc, hps, castNat_nodup nd0, fun M hM => ?_⟩
  have eK : (w0.map fun (k : Nat) => (k : Int)).map some = entK w0 := by
    rw [List.map_map]
    rfl
  rw [eK]
  have hlt0 : ∀ k ∈ w0, k < n := fun k hk => hst k ((hm0 k).mp hk).1
  have hM1 : H1 M = none := gone e2 hM
  have n1 : D1 ≠ M := ne_of_none (e2 _ _ hd1) hM
  refine ⟨fun m σ H' => ∃ wl S_ ks a b, σ = [some (.ref t), some (.ref e), some (.ref l), some (.ref D1), some (.ref M), a, b] ∧ Same H H' ∧ H' D1 = some (.lst (natL wl)) ∧ H' M = some (dN P w M ks) ∧ NS n S_ ks ∧ m = wl.length + (n + 1 - ks.length) ∧ m ≤ 100 ∧
    (∀ k, S_ k → Rch tb gn st k) ∧ (∀ k ∈ w0, S_ k) ∧ (∀ j, S_ j → j ∈ wl ∨ ∀ k ∈ tb.getD j [], k ∉ gn → S_ k) ∧ (∀ j ∈ wl, S_ j), ⟨_, w0, (· ∈ w0), _, none, none, rfl, L2.Same.mut (Same.trans e1 e2) (gone e1 hM1), ?_, upd_same, NS.ent nd0 hlt0, rfl, by omega, fun k hk => .base ((hm0 k).mp hk).1 ((hm0 k).mp hk).2, fun k hk => hk, fun j hj => .inl hj, fun j hj => hj⟩, ?_⟩
  · rw [upd_ne n1]; exact e2 _ _ hd1
  rintro m σ H3 ⟨wl, S_, ks, a, b, rfl, e3, hd3, hm3, hks, rfl, hm100, i1, i2, i3, i4⟩
  refine ⟨_, rfl, by show 0 ≤ sizeLine; decide, fun q hq => ?_⟩
  have e4 : Same H3 (upd H3 q (.lst [])) := Same.new hq
  refine ⟨D1, q, natL wl, rfl, rfl, SqL.of (e4 _ _ hd3), SqL.of upd_same, _, rfl, ?_⟩
  have hH4 := e4
  generalize upd H3 q (.lst []) = H4 at e4
  clear hH4
  have e34 := Same.trans e3 e4
  cases hwl : wl.reverse with
  | nil =>
    have ew : wl = [] := by simpa using hwl
    subst ew
    refine ⟨_, rfl, kk M H4 ks (gone e1 hM1) e34 (e4 _ _ hm3) (hks.congr fun k => ⟨i1 k, fun h => ?_⟩)⟩
    induction h with
    | base a b => exact i2 _ ((hm0 _).mpr ⟨a, b⟩)
    | step _ b c ih =>
      rcases i3 _ ih with z | z
      · cases z
      · exact z _ b c
  | cons j wr =>
    have ew : wl = wr.reverse ++ [j] := by
      have := congrArg List.reverse hwl
      rw [List.reverse_reverse, List.reverse_cons] at this
      exact this
    generalize wr.reverse = w2 at ew
    subst ew
    have hj : S_ j := i4 j (by simp)
    have hjn : j < n := hks.lt j hj
    obtain ⟨vs, ra, ht1, hv1, hr1⟩ := hT.at_ (j := j) (by omega)
    have e1' : (!(natL (w2 ++ [j])).isEmpty) = true := by cases w2 <;> rfl
    rw [e1']
    have hlen2 : (natL (w2 ++ [j]))[(natL (w2 ++ [j])).length - 1]? = some (V.int (j : Int)) := by
      rw [natL_len]
      refine natL_at ?_
      rw [List.length_append]
      show (w2 ++ [j])[w2.length + 1 - 1]? = _
      rw [Nat.add_sub_cancel, List.getElem?_append_right (Nat.le_refl _), Nat.sub_self]
      rfl
    have hdl : (natL (w2 ++ [j])).dropLast = natL w2 := by
      unfold natL
      rw [List.map_append]
      exact List.dropLast_concat
    have hml : ∀ k ∈ tb.getD j [], k < n := htb j
    have hw2 : w2.length + 1 + (n + 1 - ks.length) ≤ 100 := by simpa using hm100
    refine ⟨fun σ' H' => ∃ wl S2 ks2 a b, σ' = [some (.ref t), some (.ref e), some (.ref l), some (.ref D1), some (.ref M), a, b] ∧ Same H H' ∧ H' D1 = some (.lst (natL wl)) ∧ H' M = some (dN P w M ks2) ∧ NS n S2 ks2 ∧ wl.length + (n + 1 - ks2.length) = w2.length + (n + 1 - ks.length) ∧
      (∀ k, S2 k → Rch tb gn st k) ∧ (∀ k, S_ k → S2 k) ∧ (∀ k ∈ tb.getD j [], k ∉ gn → S2 k) ∧ (∀ k, S2 k → S_ k ∨ k ∈ wl) ∧ (∀ k ∈ w2, k ∈ wl) ∧ (∀ k ∈ wl, S2 k), ?_, ?_⟩
    · rintro σ' H' ⟨wl, S2, ks2, a, b, rfl, f1, f2, f3, f4, f5, g1, g2, g3, g4, g5, g6⟩
      refine ⟨_, ?_, wl, S2, ks2, a, b, rfl, f1, f2, f3, f4, rfl, by omega, g1, fun k hk => g2 k (i2 k hk), fun k hk => ?_, g6⟩
      · rw [f5, List.length_append]
        show _ < w2.length + 1 + _
        omega
      · rcases g4 k hk with z | z
        · rcases i3 k z with y | y
          · rcases List.mem_append.mp y with x | x
            · exact .inl (g5 k x)
            · rw [List.mem_singleton.mp x]
              exact .inr fun k' h1 h2 => g3 k' h1 h2
          · exact .inr fun k' h1 h2 => g2 k' (y k' h1 h2)
        · exact .inl z
    · refine ⟨_, rfl, _, rfl, .inl ⟨rfl, _, SqL.of (e4 _ _ hd3)⟩, D1, _, _, rfl, rfl, e4 _ _ hd3, hlen2, ?_⟩
      rw [hdl]
      have hD1H : H D1 = none := hD1
      have s5 : Same H (upd H4 D1 (.lst (natL w2))) := L2.Same.mut e34 hD1H
      refine ⟨t, vs, _, _, rfl, rfl, SqL.of (s5 _ _ ht1), atI_n hv1, ra, rfl, ⟨_, SqL.of (s5 _ _ hr1)⟩, ?_⟩
      refine for_list (K := K) (a := ra) (xs := natL (tb.getD j [])) (fun i σ' H' => ∃ wl S2 ks2 a b, σ' = [some (.ref t), some (.ref e), some (.ref l), some (.ref D1), some (.ref M), a, b] ∧ Same H H' ∧ H' D1 = some (.lst (natL wl)) ∧ H' M = some (dN P w M ks2) ∧ NS n S2 ks2 ∧ wl.length + (n + 1 - ks2.length) = w2.length + (n + 1 - ks.length) ∧
        (∀ k, S2 k → Rch tb gn st k) ∧ (∀ k, S_ k → S2 k) ∧ (∀ k ∈ (tb.getD j []).take i, k ∉ gn → S2 k) ∧ (∀ k, S2 k → S_ k ∨ k ∈ wl) ∧ (∀ k ∈ w2, k ∈ wl) ∧ (∀ k ∈ wl, S2 k))
        ⟨w2, S_, ks, a, b, rfl, s5, upd_same, by rw [upd_ne n1.symm]; exact e4 _ _ hm3, hks, rfl, i1, fun k h => h, (fun k hk => by rw [List.take_zero] at hk; cases hk), fun k h => .inl h, fun k h => h, fun k hk => i4 k (List.mem_append_left _ hk)⟩ (fun i σ' H' _ ⟨_, _, _, _, _, _, e, _⟩ => SqL.of (e _ _ hr1)) ?_ ?_
      · rintro i x σ' H5 hx ⟨wl, S2, ks2, a, b, rfl, f1, f2, f3, f4, f5, g1, g2, g3, g4, g5, g6⟩
        have hi : i < (tb.getD j []).length := by have := (List.getElem?_eq_some_iff.mp hx).1; rwa [natL_len] at this
        have hki := List.getElem?_eq_getElem hi
        rw [natL_at hki] at hx
        have ex := Option.some.inj hx
        subst ex
        generalize hkk : (tb.getD j [])[i] = k at hki
        have hkm : k ∈ tb.getD j [] := List.mem_of_getElem? hki
        have hkn := hml k hkm
        refine ⟨_, rfl, _, rfl, M, ks2, some (k : Int), rfl, f3, rfl, _, rfl, ?_⟩
        have hlen := f4.len
        by_cases c1 : S2 k
        · rw [show decide (some (k : Int) ∈ ks2) = true from decide_eq_true ((f4.has k).mpr c1)]
          refine ⟨wl, S2, ks2, _, _, rfl, f1, f2, f3, f4, f5, g1, g2, fun k' h1 h2 => ?_, g4, g5, g6⟩
          rw [take_more hki] at h1
          rcases List.mem_append.mp h1 with z | z
          · exact g3 k' z h2
          · rw [List.mem_singleton.mp z]; exact c1
        · rw [show decide (some (k : Int) ∈ ks2) = false from decide_eq_false fun z => c1 ((f4.has k).mp z)]
          refine ⟨_, rfl, _, rfl, l, _, rfl, .inr (SqT.of (f1 _ _ hl)), rfl, natL_flat _, _, rfl, ?_⟩
          show if (!inV (.int ((k : Nat) : Int)) (natL gn)) = true then _ else _
          rw [inV_N]
          by_cases c : gn.contains k = true
          · rw [c]
            refine ⟨wl, S2, ks2, _, _, rfl, f1, f2, f3, f4, f5, g1, g2, fun k' h1 h2 => ?_, g4, g5, g6⟩
            rw [take_more hki] at h1
            rcases List.mem_append.mp h1 with z | z
            · exact g3 k' z h2
            · rw [List.mem_singleton.mp z] at h2
              exact absurd (List.contains_iff_mem.mp c) h2
          · have c' : gn.contains k = false := by simpa using c
            have cm : k ∉ gn := fun z => c (List.contains_iff_mem.mpr z)
            rw [c']
            have hp : (putN ks2 (some (k : Int))).length = ks2.length + 1 := by
              unfold putN
              rw [if_neg fun z => c1 ((f4.has k).mp z)]
              simp
            have f4' := f4.put hkn
            have hlen' := f4'.len
            have hMH : H M = none := gone e1 hM1
            refine ⟨_, rfl, _, rfl, M, ks2, some (k : Int), rfl, rfl, rfl, f3, szl (by omega), ?_⟩
            have s6 : Same H (upd H5 M (dN P w M (putN ks2 (some (k : Int))))) := L2.Same.mut f1 hMH
            refine ⟨_, rfl, .inl ⟨rfl, _, SqL.of (by rw [upd_ne n1]; exact f2)⟩, _, rfl, D1, natL wl, _, rfl, rfl, by rw [upd_ne n1]; exact f2, szl (by rw [natL_len]; omega), ?_⟩
            refine ⟨wl ++ [k], _, _, _, _, rfl, L2.Same.mut s6 hD1H, ?_, ?_, f4', ?_, fun k' h => ?_, fun k' h => .inl (g2 k' h), fun k' h1 h2 => ?_, fun k' h => ?_, fun k' h => List.mem_append_left _ (g5 k' h), fun k' h => ?_⟩
            · rw [upd_same]
              unfold natL
              rw [List.map_append]
              rfl
            · exact (upd_ne n1.symm).trans upd_same
            · rw [hp, List.length_append]
              show wl.length + 1 + _ = _
              omega
            · rcases h with z | z
              · exact g1 k' z
              · rw [z]; exact .step (i1 j hj) hkm cm
            · rw [take_more hki] at h1
              rcases List.mem_append.mp h1 with z | z
              · exact .inl (g3 k' z h2)
              · exact .inr (List.mem_singleton.mp z)
            · rcases h with z | z
              · exact (g4 k' z).imp id fun y => List.mem_append_left _ y
              · rw [z]; exact .inr (by simp)
            · rcases List.mem_append.mp h with z | z
              · exact .inl (g6 k' z)
              · exact .inr (List.mem_singleton.mp z)
      · rintro σ' H5 ⟨wl, S2, ks2, a, b, rfl, f1, f2, f3, f4, f5, g1, g2, g3, g4, g5, g6⟩
        rw [natL_len, List.take_length] at g3
        exact ⟨wl, S2, ks2, a, b, rfl, f1, f2, f3, f4, f5, g1, g2, g3, g4, g5, g6⟩
end
end Wk
set_option maxHeartbeats 2000000
/-! Shortest chains: plain. -/
namespace Wk
open PySem PySem.Spec PyProof.Rows L2
open Vakepa (Prog Piece)
def pushC (c : List Nat) (y : List Nat × List (List Nat)) (k : Nat) : List Nat × List (List Nat) := if y.1.contains k = true then y else (y.1 ++ [k], y.2 ++ [c ++ [k]])
def stepC (t : List (List Nat)) (x : List Nat × List (List Nat)) (c : List Nat) : List Nat × List (List Nat) := (t.getD (c.getLastD 0) []).foldl (pushC c) x
theorem grow_eq (t : List (List Nat)) (seen : List Nat) (cs : List (List Nat)) : Vakepb.grow t seen cs = cs.foldl (stepC t) (seen, []) := rfl
theorem push_app (c : List Nat) (s : List Nat) (a b : List (List Nat)) (k : Nat) : pushC c (s, a ++ b) k = ((pushC c (s, b) k).1, a ++ (pushC c (s, b) k).2) := by
  unfold pushC
  by_cases h : s.contains k = true
  · rw [if_pos h, if_pos h]
  · rw [if_neg h, if_neg h, List.append_assoc]
theorem pushs_app (c : List Nat) : ∀ (xs : List Nat) (s : List Nat) (a b : List (List Nat)), xs.foldl (pushC c) (s, a ++ b) = ((xs.foldl (pushC c) (s, b)).1, a ++ (xs.foldl (pushC c) (s, b)).2)
  | [], _, _, _ => rfl
  | k :: r, s, a, b => by
    rw [List.foldl_cons, List.foldl_cons, push_app]
    exact pushs_app c r _ _ _
theorem step_app (t : List (List Nat)) (c s : List Nat) (a : List (List Nat)) : stepC t (s, a) c = ((stepC t (s, []) c).1, a ++ (stepC t (s, []) c).2) := by
  have := pushs_app c (t.getD (c.getLastD 0) []) s a []
  rw [List.append_nil] at this
  exact this
theorem push_len (c : List Nat) (y : List Nat × List (List Nat)) (k : Nat) : (pushC c y k).1.length + y.2.length = (pushC c y k).2.length + y.1.length := by
  unfold pushC
  split
  · exact Nat.add_comm _ _
  · simp only [List.length_append, List.length_singleton]
    omega
theorem pushs_len (c : List Nat) : ∀ (xs : List Nat) (y : List Nat × List (List Nat)), (xs.foldl (pushC c) y).1.length + y.2.length = (xs.foldl (pushC c) y).2.length + y.1.length
  | [], _ => Nat.add_comm _ _
  | k :: r, y => by
    have h1 := push_len c y k
    have h2 := pushs_len c r (pushC c y k)
    rw [List.foldl_cons]
    omega
theorem steps_len (t : List (List Nat)) : ∀ (cs : List (List Nat)) (y : List Nat × List (List Nat)), (cs.foldl (stepC t) y).1.length + y.2.length = (cs.foldl (stepC t) y).2.length + y.1.length
  | [], _ => Nat.add_comm _ _
  | c :: r, y => by
    have h1 := pushs_len c (t.getD (c.getLastD 0) []) y
    have h2 := steps_len t r (stepC t y c)
    rw [List.foldl_cons]
    unfold stepC at h2 ⊢
    omega
theorem chainBy_nil (t : List (List Nat)) (goal : Nat) : ∀ (f : Nat) (s : List Nat), Vakepb.chainBy t goal f s [] = none
  | 0, _ => rfl
  | f + 1, s => chainBy_nil t goal f s
theorem chainBy_miss {t : List (List Nat)} {goal f : Nat} {s : List Nat} {cs : List (List Nat)} (h : ∀ c ∈ cs, (c.getLast? == some goal) = false) : Vakepb.chainBy t goal (f + 1) s cs = Vakepb.chainBy t goal f (cs.foldl (stepC t) (s, [])).1 (cs.foldl (stepC t) (s, [])).2 := by
  have e : cs.find? (fun c => c.getLast? == some goal) = none := List.find?_eq_none.mpr fun c hc => by rw [h c hc]; simp
  show (match cs.find? (fun c => c.getLast? == some goal) with
    | some c => some c
    | none => let x := Vakepb.grow t s cs; Vakepb.chainBy t goal f x.1 x.2) = _
  rw [e]
  rfl
def BI (t : List (List Nat)) (goal n : Nat) (R : Option (List Nat)) (qu : List (List Nat)) (j : Nat) (seen : List Nat) : Prop :=
  ∃ pre dn td nw s0 f, qu = pre ++ dn ++ td ++ nw ∧ j = (pre ++ dn).length ∧ dn.foldl (stepC t) (s0, []) = (seen, nw) ∧ Vakepb.chainBy t goal (f + 1) s0 (dn ++ td) = R ∧ (∀ c ∈ dn, (c.getLast? == some goal) = false) ∧ n ≤ s0.length + f ∧ (td = [] → nw = [])
section
variable {t : List (List Nat)} {goal n : Nat} {R : Option (List Nat)} {qu : List (List Nat)} {j : Nat} {seen : List Nat}
theorem BI.start (st : List Nat) : BI t goal n (Vakepb.chainBy t goal (n + 1) st (st.map fun e => [e])) (st.map fun e => [e]) 0 st :=
  ⟨[], [], st.map fun e => [e], [], st, n, by simp, rfl, rfl, rfl, (fun _ h => nomatch h), Nat.le_add_left _ _, fun _ => rfl⟩
theorem BI.stop (h : BI t goal n R qu j seen) (hj : qu.length ≤ j) : R = none := by
  obtain ⟨pre, dn, td, nw, s0, f, e1, e2, e3, e4, e5, e6, e7⟩ := h
  have hl := congrArg List.length e1
  rw [List.length_append, List.length_append] at hl
  have e8 : td = [] := List.length_eq_zero_iff.mp (by omega)
  subst e8
  rw [e7 rfl] at e3
  rw [List.append_nil, chainBy_miss e5, e3] at e4
  rw [← e4]
  exact chainBy_nil t goal f seen
theorem BI.at_ (h : BI t goal n R qu j seen) {c : List Nat} (hc : qu[j]? = some c) : ∃ pre dn td nw s0 f, qu = pre ++ dn ++ (c :: td) ++ nw ∧ j = (pre ++ dn).length ∧ dn.foldl (stepC t) (s0, []) = (seen, nw) ∧ Vakepb.chainBy t goal (f + 1) s0 (dn ++ c :: td) = R ∧ (∀ c ∈ dn, (c.getLast? == some goal) = false) ∧ n ≤ s0.length + f := by
  obtain ⟨pre, dn, td, nw, s0, f, e1, e2, e3, e4, e5, e6, e7⟩ := h
  cases td with
  | nil =>
    rw [e7 rfl, List.append_nil, List.append_nil] at e1
    rw [e1, e2, List.getElem?_eq_none (Nat.le_refl _)] at hc
    cases hc
  | cons x td =>
    have e : x = c := by
      rw [e1, e2, List.append_assoc, List.getElem?_append_right (Nat.le_refl _), Nat.sub_self] at hc
      exact Option.some.inj hc
    subst e
    exact ⟨pre, dn, td, nw, s0, f, e1, e2, e3, e4, e5, e6⟩
theorem BI.hit (h : BI t goal n R qu j seen) {c : List Nat} (hc : qu[j]? = some c) (hg : c.getLast? = some goal) : R = some c := by
  obtain ⟨pre, dn, td, nw, s0, f, e1, e2, e3, e4, e5, e6⟩ := h.at_ hc
  have e : (dn ++ c :: td).find? (fun c => c.getLast? == some goal) = some c := by
    rw [List.find?_append, List.find?_eq_none.mpr fun c hc => by rw [e5 c hc]; simp, Option.none_or, List.find?_cons, hg]
    simp
  rw [← e4]
  show (match (dn ++ c :: td).find? (fun c => c.getLast? == some goal) with
    | some c => some c
    | none => let x := Vakepb.grow t s0 (dn ++ c :: td); Vakepb.chainBy t goal f x.1 x.2) = _
  rw [e]
theorem BI.next (h : BI t goal n R qu j seen) {c : List Nat} (hc : qu[j]? = some c) (hg : c.getLast? ≠ some goal) (hn : (stepC t (seen, []) c).1.length ≤ n) : BI t goal n R (qu ++ (stepC t (seen, []) c).2) (j + 1) (stepC t (seen, []) c).1 := by
  obtain ⟨pre, dn, td, nw, s0, f, e1, e2, e3, e4, e5, e6⟩ := h.at_ hc
  have hg' : (c.getLast? == some goal) = false := beq_eq_false_iff_ne.mpr hg
  have e3' : (dn ++ [c]).foldl (stepC t) (s0, []) = ((stepC t (seen, []) c).1, nw ++ (stepC t (seen, []) c).2) := by
    rw [List.foldl_append, e3]
    exact step_app t c seen nw
  have e5' : ∀ x ∈ dn ++ [c], (x.getLast? == some goal) = false := fun x hx => by
    rcases List.mem_append.mp hx with z | z
    · exact e5 x z
    · rw [List.mem_singleton.mp z]; exact hg'
  have hlen := steps_len t (dn ++ [c]) (s0, [])
  rw [e3'] at hlen
  simp only [List.length_nil, Nat.add_zero] at hlen
  generalize (stepC t (seen, []) c).1 = seen' at *
  generalize (stepC t (seen, []) c).2 = add at *
  have q1 : qu ++ add = pre ++ (dn ++ [c]) ++ td ++ (nw ++ add) := by rw [e1]; simp
  have q2 : j + 1 = (pre ++ (dn ++ [c])).length := by rw [e2]; simp; omega
  have q3 : Vakepb.chainBy t goal (f + 1) s0 ((dn ++ [c]) ++ td) = R := by rw [← e4]; simp
  cases td with
  | cons x td => exact ⟨pre, dn ++ [c], x :: td, nw ++ add, s0, f, q1, q2, e3', q3, e5', e6, fun z => nomatch z⟩
  | nil =>
    rw [List.append_nil] at q3
    rw [chainBy_miss e5', e3'] at q3
    by_cases hnw : nw ++ add = []
    · rw [hnw] at q1 q3 e3'
      exact ⟨pre, dn ++ [c], [], [], s0, f, q1, q2, e3', by rw [List.append_nil, chainBy_miss e5', e3']; exact q3, e5', e6, fun _ => rfl⟩
    · have hp : 0 < (nw ++ add).length := Nat.pos_of_ne_zero fun z => hnw (List.length_eq_zero_iff.mp z)
      obtain ⟨f', rfl⟩ : ∃ f', f = f' + 1 := ⟨f - 1, by omega⟩
      exact ⟨pre ++ (dn ++ [c]), [], nw ++ add, [], seen', f', by rw [q1]; simp, by rw [q2]; simp, rfl, q3, (fun _ h => nomatch h), by omega, fun _ => rfl⟩
end
/-- the chains, the parts come to -/
structure QI (n : Nat) (qu : List (List Nat)) (seen : List Nat) : Prop where
  nd : seen.Nodup
  lt : ∀ k ∈ seen, k < n
  len : qu.length = seen.length
  ch : ∀ c ∈ qu, (∃ c0 x, c = c0 ++ [x] ∧ x < n) ∧ c.length ≤ qu.length
theorem QI.few {n : Nat} {qu : List (List Nat)} {seen : List Nat} (h : QI n qu seen) : seen.length ≤ n := by
  have := nodup_len (m := List.range n) h.nd fun x hx => List.mem_range.mpr (h.lt x hx)
  rwa [List.length_range] at this
theorem QI.start {n : Nat} {st : List Nat} (h : st.Nodup) (hl : ∀ k ∈ st, k < n) : QI n (st.map fun e => [e]) st :=
  ⟨h, hl, List.length_map _, fun c hc => by
    obtain ⟨e, he, rfl⟩ := List.mem_map.mp hc
    refine ⟨⟨[], e, rfl, hl e he⟩, ?_⟩
    rw [List.length_map]
    exact List.length_pos_of_mem he⟩
theorem QI.push {n : Nat} {qu : List (List Nat)} {seen : List Nat} (h : QI n qu seen) {c : List Nat} (hc : c.length ≤ qu.length) {k : Nat} (hk : k < n) (hs : k ∉ seen) : QI n (qu ++ [c ++ [k]]) (seen ++ [k]) := by
  refine ⟨?_, fun x hx => ?_, by rw [List.length_append, List.length_append, h.len]; rfl, fun x hx => ?_⟩
  · exact List.nodup_append.mpr ⟨h.nd, by simp, fun a ha b hb => by
      have e : b = k := by simpa using hb
      subst e
      exact fun z => hs (z ▸ ha)⟩
  · rcases List.mem_append.mp hx with z | z
    · exact h.lt x z
    · rw [List.mem_singleton.mp z]; exact hk
  · rw [List.length_append]
    rcases List.mem_append.mp hx with z | z
    · obtain ⟨a, b⟩ := h.ch x z
      exact ⟨a, by omega⟩
    · rw [List.mem_singleton.mp z]
      refine ⟨⟨c, k, rfl, hk⟩, ?_⟩
      rw [List.length_append]
      show c.length + 1 ≤ qu.length + 1
      omega
end Wk
set_option maxHeartbeats 2000000
namespace Wk
open PySem PySem.Spec PyProof.Rows L2
open Vakepa (Piece)
section
variable {P : Program} {w : World} {K : PySem.W.Frag} {mg : Str → Option Value} {base : Heap}
/-- a chain, or None -/
def ChV (H : Hp) (v : V) : Option (List Nat) → Prop
  | none => v = .non
  | some c => ∃ a, v = .ref a ∧ H a = some (.lst (natL c))
theorem RowD.lists {D : Addr} {H H' : Hp} (k : ∀ b xs, H b = some (.lst xs) → b ≠ D → H' b = some (.lst xs)) {v : V} {x : List Nat} (h : RowD D H v x) : RowD D H' v x := let ⟨a, e, n, h⟩ := h; ⟨a, e, n, k _ _ h n⟩
theorem last_of {c0 : List Nat} {x : Nat} : (c0 ++ [x]).getLast? = some x ∧ (c0 ++ [x]).getLastD 0 = x ∧ atI (natL (c0 ++ [x])) (-1) = some (.int (x : Int)) := by
  refine ⟨by simp, by simp, ?_⟩
  unfold natL
  rw [List.map_append]
  exact atI_last _ _
def spShort (P : Program) (w : World) (K : PySem.W.Frag) : Sp := Sp3 fun x y z H Q _ => ∃ t e tb st goal n, x = .ref t ∧ y = .ref e ∧ z = .int (goal : Nat) ∧ RowsAt H t tb ∧ H e = some (.lst (natL st)) ∧ tb.length = n ∧ n ≤ 10 ∧ (∀ j, ∀ k ∈ tb.getD j [], k < n) ∧ (∀ k ∈ st, k < n) ∧ st.Nodup ∧
  ∀ v H', Same H H' → ChV H' v (Vakepb.chainBy tb goal (n + 1) st (st.map fun e => [e])) → Q v H'
theorem sc_shortest_chain : FnScope ["table", "entries", "goal", "chains", "known", "at", "chain", "number", "entry"] ["table", "entries", "goal"] (defScope s_shortest_chain) := ⟨rfl, rfl, rfl, by decide +kernel, rfl, by decide +kernel, by decide +kernel⟩
theorem ok_shortest_chain (T : Tx K mg) : FK P w K mg base CX0 (1) (He.ga K "shortest_chain") ["table", "entries", "goal"] (spShort P w K) := by
  obtain ⟨fd, F⟩ := T.f_shortest_chain
  refine ⟨fd, F.ok sc_shortest_chain (fun vs H Q E h => Sp3.len h) (fun cdv A outer s H vs Q E hr h => ?body), F.bindsN (fun _ _ _ _ _ _ us hl => match us, hl with | [_, _, _], _ => rfl), F.kp⟩
  refine ⟨_, PSs.nox (pss_cons (ps_setLc (i := 3) (own := [("entry", 8)]) rfl sc_shortest_chain.nd rfl rfl (sw_true rfl rfl rfl (by decide +kernel)) (pi_list (pv 1)) (blkOk_by (own := [("entry", 8)]) (N := ["table", "entries", "goal", "chains", "known", "at", "chain", "number", "entry"]) (sc := defScope s_shortest_chain) (by decide +kernel)) (fun _ _ _ _ _ => (pg_name (i := 8) sc_shortest_chain.nd rfl (.inl rfl) (.inr rfl))) (fun _ _ _ _ _ => pts_nil) (fun _ _ _ _ _ => (pe_lst (pa_cons (pv 8) pa_nil))))
      (pss_cons (ps_set (i := 4) sc_shortest_chain.nd rfl (.inl rfl) (pe_callTy (call_dictN rfl) rfl T.n_dict (by decide +kernel) (pa_cons (pe_lc (own := [("entry", 8)]) rfl sc_shortest_chain.nd (pi_list (pv 1)) (blkOk_by (own := [("entry", 8)]) (N := ["table", "entries", "goal", "chains", "known", "at", "chain", "number", "entry"]) (sc := defScope s_shortest_chain) (by decide +kernel)) (fun _ _ _ _ _ => (pg_name (i := 8) sc_shortest_chain.nd rfl (.inl rfl) (.inr rfl))) (fun _ _ _ _ _ => pts_nil) (fun _ _ _ _ _ => (pe_tup (pa_cons (pv 8) (pa_cons pe_bl pa_nil))))) pa_nil)) (hf := (.inr rfl)))
      (pss_cons (ps_set (i := 5) sc_shortest_chain.nd rfl (.inl rfl) pe_int (hf := (.inr rfl)))
      (pss_cons (ps_while PassesOwn.never (pt_cmpR op_lt (pv 5) (pe_callB call_lenK rfl T.n_len boot_len (pa_cons (pv 3) pa_nil)) (nomark _)) (pss_cons (ps_set (i := 6) sc_shortest_chain.nd rfl (.inl rfl) (pe_ix ix_list (pv 3) (pv 5) (fun _ _ => rfl)) (hf := (.inr rfl)))
      (pss_cons (ps_if (pt_cmpR op_eq (pe_ix ix_list (pv 6) (pe_un un_neg pe_int) (fun _ _ => rfl)) (pv 2) (nomark _)) (pss_one (ps_ret (pv 6))) pss_nil)
      (pss_cons (ps_for PassesOwn.never rfl (pi_list (pe_ix ix_list (pv 0) (pe_ix ix_list (pv 6) (pe_un un_neg pe_int) (fun _ _ => rfl)) (fun _ _ => rfl))) (pg_name (i := 7) sc_shortest_chain.nd rfl (.inl rfl) (.inr rfl)) (pss_one (ps_if (pt_cmp (pc_notInN (pv 7) (pv 4))) (pss_cons (ps_putN (pv 4) (pv 7) pe_bl)
      (pss_one (ps_expr (pe_bm PySem.F.plainAttrs_list PySem.F.slot_list_append PySem.F.type_list_append mt_append (pv 3) (pa_cons (pe_op op_cat (pv 6) (pe_lst (pa_cons (pv 7) pa_nil))) pa_nil))))) pss_nil)))
      (pss_one (ps_set (i := 5) sc_shortest_chain.nd rfl (.inl rfl) (pe_op op_add (pv 5) pe_int) (hf := (.inr rfl))))))))
      (pss_one (ps_ret pe_non)))))), ?_⟩
  obtain ⟨_, _, _, rfl, t, e, tb, st, goal, n, rfl, rfl, rfl, hT, he, htn, hn, htb, hst, hnd, kk⟩ := h
  have hst4 : st.length ≤ 10 := by
    have := nodup_len (m := List.range n) hnd fun x hx => List.mem_range.mpr (hst x hx)
    rw [List.length_range] at this
    omega
  have bi := BI.start (t := tb) (goal := goal) (n := n) st
  generalize Vakepb.chainBy tb goal (n + 1) st (st.map fun e => [e]) = R at kk bi
  refine ⟨_, rfl, e, rfl, ⟨_, SqL.of he⟩, fun D1 hD1 => ?_⟩
  refine lc_rel (K := K) (xs := natL st) (m := st.map fun e => [e]) (F := RowD) RowD.keep (by rw [natL_len, List.length_map]) (SqL.of he) hD1 (szl (by rw [natL_len]; omega)) (fun i x y H1 hx hy e1 ⟨acc, hacc⟩ Kt Kf kt => ?_) fun H1 vs0 e1 hd1 hp1 => ?_
  · have hi : i < st.length := by have := (List.getElem?_eq_some_iff.mp hx).1; rwa [natL_len] at this
    rw [natL_at (List.getElem?_eq_getElem hi)] at hx
    have ex := Option.some.inj hx
    subst ex
    rw [List.getElem?_map, List.getElem?_eq_getElem hi] at hy
    have ey := Option.some.inj hy
    subst ey
    exact ⟨rfl, _, rfl, by show 1 ≤ sizeLine; decide, fun q hq => kt _ _ (RowL.off hacc hq upd_same) (Same.new hq)⟩
  refine ⟨_, rfl, e, rfl, ⟨_, SqL.of (e1 _ _ he)⟩, fun D2 hD2 => ?_⟩
  refine lc_rel (K := K) (xs := natL st) (m := st) (F := PairD) PairD.keep (natL_len _) (SqL.of (e1 _ _ he)) hD2 (szl (by rw [natL_len]; omega)) (fun i x y H2 hx hy e2 ⟨acc, hacc⟩ Kt Kf kt => ?_) fun H2 acc e2 hacc hp => ?_
  · rw [natL_at hy] at hx
    have ex := Option.some.inj hx
    subst ex
    exact ⟨rfl, _, rfl, by show 2 ≤ sizeLine; decide, fun q hq => kt _ _ ⟨q, rfl, (ne_of_none hacc hq).symm, upd_same⟩ (Same.new hq)⟩
  obtain ⟨ps, rfl, hps⟩ := pairs_refs (K := K) hp
  refine ⟨D2, ps, _, rfl, SqL.of hacc, hps, castNat_nodup hnd, fun M hM => ?_⟩
  have eK : (st.map fun (k : Nat) => (k : Int)).map some = entK st := by
    rw [List.map_map]
    rfl
  rw [eK]
  have hM1 : H1 M = none := gone e2 hM
  have hMH : H M = none := gone e1 hM1
  have n1 : D1 ≠ M := ne_of_none (e2 _ _ hd1) hM
  refine ⟨fun m σ H' => ∃ j qu vs seen ks a b c, σ = [some (.ref t), some (.ref e), some (.int (goal : Nat)), some (.ref D1), some (.ref M), some (.int (j : Nat)), a, b, c] ∧ Same H H' ∧ H' D1 = some (.lst vs) ∧ Paired (RowD D1 H') vs qu ∧ H' M = some (dN P w M ks) ∧ NS n (· ∈ seen) ks ∧ QI n qu seen ∧ BI tb goal n R qu j seen ∧ m = n - j,
    ⟨_, 0, _, vs0, st, _, none, none, none, rfl, L2.Same.mut (Same.trans e1 e2) hMH, by rw [upd_ne n1]; exact e2 _ _ hd1, Paired.mapP hp1 fun _ _ q => RowD.lists (fun b xs hb _ => by rw [upd_ne (ne_of_none (e2 _ _ hb) hM)]; exact e2 _ _ hb) q, upd_same, NS.ent hnd hst, QI.start hnd hst, bi, rfl⟩, ?_⟩
  rintro m σ H3 ⟨j, qu, vs, seen, ks, a, b, c, rfl, e3, hd3, hp3, hm3, hks, hqi, hbi, rfl⟩
  have hvl : vs.length = qu.length := Paired.length hp3
  refine ⟨_, rfl, _, rfl, D1, vs, rfl, .inl (SqL.of hd3), _, _, rfl, rfl, _, rfl, ?_⟩
  show if decide ((j : Int) < (vs.length : Int)) = true then _ else _
  by_cases hj : j < qu.length
  · rw [if_pos (decide_eq_true (by omega))]
    have hcj := List.getElem?_eq_getElem hj
    generalize qu[j] = c at hcj
    obtain ⟨v, hv, ra, rfl, nra, hra⟩ := Paired.at2 hp3 hcj
    obtain ⟨⟨c0, x, rfl, hx⟩, hcl⟩ := hqi.ch c (List.mem_of_getElem? hcj)
    obtain ⟨l1, l2, l3⟩ := last_of (c0 := c0) (x := x)
    have hfew := hqi.few
    have hql := hqi.len
    refine ⟨fun σ' H' => ∃ qu vs seen ks a b c, σ' = [some (.ref t), some (.ref e), some (.int (goal : Nat)), some (.ref D1), some (.ref M), some (.int ((j + 1 : Nat) : Int)), a, b, c] ∧ Same H H' ∧ H' D1 = some (.lst vs) ∧ Paired (RowD D1 H') vs qu ∧ H' M = some (dN P w M ks) ∧ NS n (· ∈ seen) ks ∧ QI n qu seen ∧ BI tb goal n R qu (j + 1) seen, ?_, ?_⟩
    · rintro σ' H' ⟨qu, vs, seen, ks, a, b, c, h1, h2, h3, h4, h5, h6, h7, h8⟩
      exact ⟨_, by omega, j + 1, qu, vs, seen, ks, a, b, c, h1, h2, h3, h4, h5, h6, h7, h8, rfl⟩
    · refine ⟨_, rfl, _, rfl, D1, vs, _, _, rfl, rfl, SqL.of hd3, atI_n hv, ?_⟩
      refine ⟨_, rfl, _, rfl, ra, _, _, _, rfl, rfl, SqL.of hra, l3, _, rfl, rfl, _, rfl, ?_⟩
      show if decide (V.int (x : Int) = V.int (goal : Int)) = true then _ else _
      by_cases hg : x = goal
      · rw [if_pos (by rw [hg]; exact decide_eq_true rfl)]
        refine ⟨_, rfl, kk _ H3 e3 ?_⟩
        rw [hbi.hit hcj (by rw [l1, hg])]
        exact ⟨ra, rfl, hra⟩
      · rw [if_neg fun z => hg (by have := V.int.inj (of_decide_eq_true z); omega)]
        obtain ⟨tvs, rr, ht1, hv1, hr1⟩ := hT.at_ (j := x) (by omega)
        have hml : ∀ k ∈ tb.getD x [], k < n := htb x
        refine ⟨_, rfl, _, rfl, _, rfl, ra, _, _, _, rfl, rfl, SqL.of hra, l3, t, tvs, _, _, rfl, rfl, SqL.of (e3 _ _ ht1), atI_n hv1, rr, rfl, ⟨_, SqL.of (e3 _ _ hr1)⟩, ?_⟩
        refine for_list (K := K) (a := rr) (xs := natL (tb.getD x [])) (fun i σ' H' => ∃ vs ks b c, σ' = [some (.ref t), some (.ref e), some (.int (goal : Nat)), some (.ref D1), some (.ref M), some (.int (j : Nat)), some (.ref ra), b, c] ∧ Same H H' ∧ H' D1 = some (.lst vs) ∧ H' ra = some (.lst (natL (c0 ++ [x]))) ∧
          Paired (RowD D1 H') vs (qu ++ (((tb.getD x []).take i).foldl (pushC (c0 ++ [x])) (seen, [])).2) ∧ H' M = some (dN P w M ks) ∧ NS n (· ∈ (((tb.getD x []).take i).foldl (pushC (c0 ++ [x])) (seen, [])).1) ks ∧ QI n (qu ++ (((tb.getD x []).take i).foldl (pushC (c0 ++ [x])) (seen, [])).2) (((tb.getD x []).take i).foldl (pushC (c0 ++ [x])) (seen, [])).1)
          ⟨vs, ks, b, _, rfl, e3, hd3, hra, by rw [List.take_zero]; show Paired _ _ (qu ++ []); rw [List.append_nil]; exact hp3, hm3, by rw [List.take_zero]; exact hks, by rw [List.take_zero]; show QI n (qu ++ []) seen; rw [List.append_nil]; exact hqi⟩ (fun i σ' H' _ ⟨_, _, _, _, _, e, _⟩ => SqL.of (e _ _ hr1)) ?_ ?_
        · rintro i xv σ' H5 hxv ⟨vs, ks, b, c, rfl, f1, f2, f3, f4, f5, f6, f7⟩
          have hi : i < (tb.getD x []).length := by have := (List.getElem?_eq_some_iff.mp hxv).1; rwa [natL_len] at this
          have hki := List.getElem?_eq_getElem hi
          rw [natL_at hki] at hxv
          have ex := Option.some.inj hxv
          subst ex
          generalize (tb.getD x [])[i] = k at hki
          have hkn := hml k (List.mem_of_getElem? hki)
          rw [take_more hki, List.foldl_append]
          generalize ((tb.getD x []).take i).foldl (pushC (c0 ++ [x])) (seen, []) = y at f4 f6 f7 ⊢
          show gName 7 _ _ _ _
          have hfew5 := f7.few
          have hql5 := f7.len
          have hlen := f6.len
          refine ⟨_, rfl, _, rfl, M, ks, some (k : Int), rfl, f5, rfl, _, rfl, ?_⟩
          by_cases c1 : k ∈ y.1
          · rw [show decide (some (k : Int) ∈ ks) = true from decide_eq_true ((f6.has k).mpr c1)]
            have ey : [k].foldl (pushC (c0 ++ [x])) y = y := by
              show pushC (c0 ++ [x]) y k = y
              unfold pushC
              rw [if_pos (List.contains_iff_mem.mpr c1)]
            rw [ey]
            exact ⟨vs, ks, _, _, rfl, f1, f2, f3, f4, f5, f6, f7⟩
          · rw [show decide (some (k : Int) ∈ ks) = false from decide_eq_false fun z => c1 ((f6.has k).mp z)]
            have ey : [k].foldl (pushC (c0 ++ [x])) y = (y.1 ++ [k], y.2 ++ [(c0 ++ [x]) ++ [k]]) := by
              show pushC (c0 ++ [x]) y k = _
              unfold pushC
              rw [if_neg fun z => c1 (List.contains_iff_mem.mp z)]
            rw [ey]
            have hcl5 : (c0 ++ [x]).length ≤ (qu ++ y.2).length := Nat.le_trans hcl (by rw [List.length_append]; exact Nat.le_add_right _ _)
            have n2 : ra ≠ M := ne_of f3 f5 dN_ne
            refine ⟨_, rfl, _, rfl, M, ks, some (k : Int), rfl, rfl, rfl, f5, szl (by omega), ?_⟩
            refine ⟨_, rfl, .inl ⟨rfl, _, SqL.of (by rw [upd_ne n1]; exact f2)⟩, ?_⟩
            refine ⟨_, rfl, _, rfl, by show 1 ≤ sizeLine; decide, fun q hq => ?_⟩
            have hq5 : H5 q = none := by
              have nq : q ≠ M := fun z => by rw [z, upd_same] at hq; cases hq
              rwa [upd_ne nq] at hq
            refine ⟨ra, q, natL (c0 ++ [x]), _, rfl, rfl, ?_, upd_same, ?_, fun p hp => ?_⟩
            · rw [upd_ne (ne_of_none f3 hq5), upd_ne n2]; exact f3
            · rw [natL_len]
              exact sz (by show (c0 ++ [x]).length + 1 ≤ _; omega)
            have nqM : q ≠ M := fun z => by rw [z, upd_same] at hq; cases hq
            have npq : p ≠ q := fun z => by rw [z, upd_same] at hp; cases hp
            have npM : p ≠ M := fun z => by rw [z, upd_ne nqM.symm, upd_same] at hp; cases hp
            have hp5 : H5 p = none := by rwa [upd_ne npq, upd_ne npM] at hp
            have nD1p : D1 ≠ p := ne_of_none f2 hp5
            have nD1q : D1 ≠ q := ne_of_none f2 hq5
            have hvl5 := Paired.length f4
            refine ⟨D1, vs, _, rfl, rfl, by rw [upd_ne nD1p, upd_ne nD1q, upd_ne n1]; exact f2, szl (by omega), ?_⟩
            have kl : ∀ b o, H5 b = some o → b ≠ D1 → b ≠ M → upd (upd (upd (upd H5 M (dN P w M (putN ks (some (k : Int))))) q (.lst [.int (k : Int)])) p (.lst (natL (c0 ++ [x]) ++ [.int (k : Int)]))) D1 (.lst (vs ++ [.ref p])) b = some o := fun b o hb h1 h2 => by
              rw [upd_ne h1, upd_ne (ne_of_none hb hp5), upd_ne (ne_of_none hb hq5), upd_ne h2]
              exact hb
            have ky : ∀ b xs, H5 b = some (.lst xs) → b ≠ D1 → upd (upd (upd (upd H5 M (dN P w M (putN ks (some (k : Int))))) q (.lst [.int (k : Int)])) p (.lst (natL (c0 ++ [x]) ++ [.int (k : Int)]))) D1 (.lst (vs ++ [.ref p])) b = some (.lst xs) := fun b xs hb h1 => kl b _ hb h1 (ne_of hb f5 dN_ne)
            refine ⟨vs ++ [.ref p], _, _, _, rfl, ?_, upd_same, ky _ _ f3 nra, ?_, ?_, (f6.put hkn).congr fun k' => ?_, ?_⟩
            · intro b o hb
              exact kl b o (f1 _ _ hb) (ne_of_none hb hD1) (ne_of_none hb hMH)
            · show Paired _ _ (qu ++ (y.2 ++ [(c0 ++ [x]) ++ [k]]))
              rw [← List.append_assoc]
              refine Paired.snoc (Paired.mapP f4 fun _ _ q => RowD.lists ky q) ⟨p, rfl, nD1p.symm, ?_⟩
              rw [upd_ne nD1p.symm, upd_same]
              unfold natL
              rw [List.map_append, List.map_append, List.map_append]
              rfl
            · exact ((upd_ne n1.symm).trans (upd_ne npM.symm)).trans ((upd_ne nqM.symm).trans upd_same)
            · show _ ↔ k' ∈ y.1 ++ [k]
              rw [List.mem_append, List.mem_singleton]
            · show QI n (qu ++ (y.2 ++ [(c0 ++ [x]) ++ [k]])) (y.1 ++ [k])
              rw [← List.append_assoc]
              exact f7.push hcl5 hkn c1
        · rintro σ' H5 ⟨vs, ks, b, c, rfl, f1, f2, f3, f4, f5, f6, f7⟩
          rw [natL_len, List.take_length] at f4 f6 f7
          have es : stepC tb (seen, []) (c0 ++ [x]) = (tb.getD x []).foldl (pushC (c0 ++ [x])) (seen, []) := by
            unfold stepC
            rw [l2]
          rw [← es] at f4 f6 f7
          refine ⟨_, rfl, _, _, rfl, rfl, ?_⟩
          exact ⟨_, vs, _, ks, _, _, _, rfl, f1, f2, f4, f5, f6, f7, hbi.next hcj (by rw [l1]; exact fun z => hg (Option.some.inj z)) f7.few⟩
  · rw [if_neg fun z => hj (by have := of_decide_eq_true z; omega)]
    refine kk _ H3 e3 ?_
    rw [hbi.stop (by omega)]
    rfl
end
end Wk
set_option maxHeartbeats 2000000
/-! What's reached, lost, closest: plain. -/
namespace Wk
open PySem PySem.Spec PyProof.Rows L2
open Vakepa (Prog Piece)
/-! ### only which parts are left out counts -/
section
variable {p : Prog} {o1 o2 : List Nat}
theorem step1_congr (h : ∀ k, o1.contains k = o2.contains k) (v : List Nat) (r : Vakepa.Run) : Vakepa.step1 p o1 v r = Vakepa.step1 p o2 v r := by
  unfold Vakepa.step1
  split
  · rfl
  · rfl
  · split
    · rfl
    · simp only [h]
theorem goBy_congr (h : ∀ k, o1.contains k = o2.contains k) (v : List Nat) : ∀ (f : Nat) (r : Vakepa.Run), Vakepa.goBy p o1 v f r = Vakepa.goBy p o2 v f r
  | 0, _ => rfl
  | f + 1, r => by
    show (if Vakepa.over r = true then r else Vakepa.goBy p o1 v f (Vakepa.step1 p o1 v r)) = (if Vakepa.over r = true then r else Vakepa.goBy p o2 v f (Vakepa.step1 p o2 v r))
    rw [step1_congr h, goBy_congr h v f]
theorem run_congr (h : ∀ k, o1.contains k = o2.contains k) (e : Nat) (v : List Nat) : Vakepa.run p o1 e v = Vakepa.run p o2 e v := by
  unfold Vakepa.run Vakepa.begin_
  rw [goBy_congr h v, h e]
theorem Rch.congr {t : List (List Nat)} {st : List Nat} (h : ∀ k, k ∈ o1 ↔ k ∈ o2) {k : Nat} (r : Rch t o1 st k) : Rch t o2 st k := by
  induction r with
  | base a b => exact .base a fun z => b ((h _).mpr z)
  | step _ b c ih => exact .step ih b fun z => c ((h _).mpr z)
theorem EntBy.congr (h : ∀ k, k ∈ o1 ↔ k ∈ o2) {k : Nat} (r : EntBy p o1 k) : EntBy p o2 k := by
  obtain ⟨e, he, a, ha, hk⟩ := r
  refine ⟨e, he, a, ha, ?_⟩
  rw [← run_congr (o1 := o1) fun k => ?_]
  · exact hk
  · by_cases c : k ∈ o1
    · rw [List.contains_iff_mem.mpr c, List.contains_iff_mem.mpr ((h k).mp c)]
    · have c2 : k ∉ o2 := fun z => c ((h k).mpr z)
      have e1 : o1.contains k = false := by simpa using c
      have e2 : o2.contains k = false := by simpa using c2
      rw [e1, e2]
end
/-- what's reached by a mode -/
def RBy (pr : Prog) (m : Nat) (gn : List Nat) (k : Nat) : Prop := if m = 2 then EntBy pr gn k else if m = 0 then ∃ a, a < Vakepa.total pr ∧ Rch (Vakepb.nextBy pr a) gn pr.starts k else Rch (Vakepb.nextAny pr) gn pr.starts k
section
variable {pr : Prog}
theorem next_lt_of {f : Nat → List Nat} : ∀ j, ∀ k ∈ ((List.range pr.parts.length).map fun k => Vakepb.tidy pr (f k)).getD j [], k < pr.parts.length := by
  intro j k hk
  rw [List.getD_eq_getElem?_getD, List.getElem?_map] at hk
  by_cases hj : j < pr.parts.length
  · rw [List.getElem?_range hj] at hk
    exact ((inOrder_mem _ _ _).mp hk).1
  · rw [List.getElem?_eq_none (by rw [List.length_range]; omega)] at hk
    cases hk
theorem nextBy_lt (a : Nat) : ∀ j, ∀ k ∈ (Vakepb.nextBy pr a).getD j [], k < pr.parts.length := next_lt_of
theorem nextAny_lt : ∀ j, ∀ k ∈ (Vakepb.nextAny pr).getD j [], k < pr.parts.length := next_lt_of
theorem nextBy_len (a : Nat) : (Vakepb.nextBy pr a).length = pr.parts.length := by unfold Vakepb.nextBy; simp
theorem nextAny_length : (Vakepb.nextAny pr).length = pr.parts.length := by unfold Vakepb.nextAny; simp
theorem EntBy.lt (g : Good pr) {gn : List Nat} {k : Nat} (h : EntBy pr gn k) : k < pr.parts.length := by
  obtain ⟨e, he, a, ha, hk⟩ := h
  rw [run_entered] at hk
  exact (TOk.done g (g.starts.2 e he)).lt k hk
theorem RBy.lt (g : Good pr) {m : Nat} {gn : List Nat} {k : Nat} (h : RBy pr m gn k) : k < pr.parts.length := by
  unfold RBy at h
  split at h
  · exact h.lt g
  · split at h
    · obtain ⟨a, _, h⟩ := h
      exact h.lt (nextBy_lt a) g.starts.2
    · exact h.lt nextAny_lt g.starts.2
theorem reachedBy_mem (g : Good pr) {m : Nat} {gn : List Nat} (hm : m ≤ 2) (k : Nat) : k ∈ Vakepb.reachedBy pr m gn ↔ RBy pr m gn k := by
  have key : k < pr.parts.length ∧ RBy pr m gn k ↔ RBy pr m gn k := ⟨fun h => h.2, fun h => ⟨h.lt g, h⟩⟩
  rw [← key]
  unfold Vakepb.reachedBy RBy
  split
  · exact enters_mem pr gn k
  · unfold Vakepb.comesAll Vakepb.tables Vakepb.tidy
    rw [inOrder_mem]
    refine and_congr_right fun hk => ?_
    split
    · rw [List.mem_flatMap]
      constructor
      · rintro ⟨t, ht, h⟩
        obtain ⟨a, ha, rfl⟩ := List.mem_map.mp ht
        exact ⟨a, List.mem_range.mp ha, (comes_mem (nextBy_lt a) g.starts.2 g.starts.1 k).mp h⟩
      · rintro ⟨a, ha, h⟩
        exact ⟨_, List.mem_map.mpr ⟨a, List.mem_range.mpr ha, rfl⟩, (comes_mem (nextBy_lt a) g.starts.2 g.starts.1 k).mpr h⟩
    · rw [List.flatMap_singleton]
      exact comes_mem nextAny_lt g.starts.2 g.starts.1 k
theorem reachedBy_inOrder (m : Nat) (gn : List Nat) : ∃ L, Vakepb.reachedBy pr m gn = Vakepa.inOrder pr L := by
  unfold Vakepb.reachedBy
  split
  · exact ⟨_, rfl⟩
  · exact ⟨_, rfl⟩
theorem inOrder_self (L : List Nat) : Vakepa.inOrder pr (Vakepa.inOrder pr L) = Vakepa.inOrder pr L := inOrder_congr fun k hk => by
  rw [inOrder_mem]
  exact ⟨fun h => h.2, fun h => ⟨hk, h⟩⟩
theorem reachedBy_self (m : Nat) (gn : List Nat) : Vakepa.inOrder pr (Vakepb.reachedBy pr m gn) = Vakepb.reachedBy pr m gn := by
  obtain ⟨L, e⟩ := reachedBy_inOrder (pr := pr) m gn
  rw [e, inOrder_self]
theorem reachedBy_lt (m : Nat) (gn : List Nat) : ∀ k ∈ Vakepb.reachedBy pr m gn, k < pr.parts.length := by
  obtain ⟨L, e⟩ := reachedBy_inOrder (pr := pr) m gn
  rw [e]
  exact fun k hk => ((inOrder_mem _ _ _).mp hk).1
theorem reachedBy_nodup (m : Nat) (gn : List Nat) : (Vakepb.reachedBy pr m gn).Nodup := by
  obtain ⟨L, e⟩ := reachedBy_inOrder (pr := pr) m gn
  rw [e]
  exact inOrder_nodup pr L
theorem reachedBy_few (m : Nat) (gn : List Nat) : (Vakepb.reachedBy pr m gn).length ≤ pr.parts.length := by
  have := nodup_len (m := List.range pr.parts.length) (reachedBy_nodup (pr := pr) m gn) fun x hx => List.mem_range.mpr (reachedBy_lt m gn x hx)
  rwa [List.length_range] at this
theorem reachedBy_congr (g : Good pr) {m : Nat} (hm : m ≤ 2) {o1 o2 : List Nat} (h : ∀ k, k ∈ o1 ↔ k ∈ o2) : Vakepb.reachedBy pr m o1 = Vakepb.reachedBy pr m o2 := by
  rw [← reachedBy_self m o1, ← reachedBy_self m o2]
  refine inOrder_congr fun k _ => ?_
  rw [reachedBy_mem g hm, reachedBy_mem g hm]
  have : ∀ {o1 o2 : List Nat}, (∀ k, k ∈ o1 ↔ k ∈ o2) → RBy pr m o1 k → RBy pr m o2 k := by
    intro o1 o2 h r
    unfold RBy at r ⊢
    split
    · rename_i c; rw [if_pos c] at r; exact r.congr h
    · rename_i c
      rw [if_neg c] at r
      split
      · rename_i d; rw [if_pos d] at r; obtain ⟨a, ha, r⟩ := r; exact ⟨a, ha, r.congr h⟩
      · rename_i d; rw [if_neg d] at r; exact r.congr h
  exact ⟨this h, this fun k => (h k).symm⟩
theorem lost_lt (m : Nat) (gn : List Nat) : ∀ k ∈ Vakepb.lost pr m gn, k < pr.parts.length := fun k hk => reachedBy_lt m [] k (List.mem_filter.mp hk).1
theorem lost_few (m : Nat) (gn : List Nat) : (Vakepb.lost pr m gn).length ≤ pr.parts.length := Nat.le_trans (List.length_filter_le _ _) (reachedBy_few m [])
theorem lost_congr (g : Good pr) {m : Nat} (hm : m ≤ 2) {o1 o2 : List Nat} (h : ∀ k, k ∈ o1 ↔ k ∈ o2) : Vakepb.lost pr m o1 = Vakepb.lost pr m o2 := by
  unfold Vakepb.lost
  rw [reachedBy_congr g hm h]
/-! ### what hangs on what -/
def hangs (pr : Prog) (k : Nat) : List Nat := (Vakepb.above pr k).filter fun x => x != k
theorem Rch.without {t : List (List Nat)} {st : List Nat} {x : Nat} (hx : ¬ Rch t [] st x) {k : Nat} (h : Rch t [] st k) : Rch t [x] st k := by
  induction h with
  | base a b => exact .base a fun z => hx (by rw [List.mem_singleton] at z; rw [← z]; exact .base a b)
  | step a b c ih => exact .step ih b fun z => hx (by rw [List.mem_singleton] at z; rw [← z]; exact .step a b c)
theorem above_mem {k x : Nat} : x ∈ Vakepb.above pr k ↔ x < pr.parts.length ∧ k ∈ Vakepb.lost pr 1 [x] := by
  unfold Vakepb.above
  rw [List.mem_filter, List.mem_range, List.contains_iff_mem]
theorem lost_mem1 (g : Good pr) {k x : Nat} : k ∈ Vakepb.lost pr 1 [x] ↔ Rch (Vakepb.nextAny pr) [] pr.starts k ∧ ¬ Rch (Vakepb.nextAny pr) [x] pr.starts k := by
  have e : ∀ gn, RBy pr 1 gn k ↔ Rch (Vakepb.nextAny pr) gn pr.starts k := fun gn => by
    unfold RBy
    rw [if_neg (by decide), if_neg (by decide)]
  unfold Vakepb.lost
  rw [List.mem_filter, reachedBy_mem g (by decide), e]
  refine and_congr_right fun _ => ?_
  rw [← e [x], ← reachedBy_mem g (by decide) k]
  simp
theorem self_above (g : Good pr) {k x : Nat} (h : x ∈ Vakepb.above pr k) : x ∈ Vakepb.above pr x := by
  obtain ⟨h1, h2⟩ := above_mem.mp h
  obtain ⟨h3, h4⟩ := (lost_mem1 g).mp h2
  refine above_mem.mpr ⟨h1, (lost_mem1 g).mpr ⟨Classical.byContradiction fun z => h4 (h3.without z), fun z => z.ne (by simp)⟩⟩
theorem closest_eq (g : Good pr) (k : Nat) : Vakepb.closest pr k = (hangs pr k).find? fun x => (hangs pr k).all fun y => (y == x || (hangs pr x).contains y) := by
  unfold Vakepb.closest
  show (hangs pr k).find? (fun x => (hangs pr k).all fun y => (Vakepb.above pr x).contains y) = _
  have : ∀ (l : List Nat) (p q : Nat → Bool), (∀ x ∈ l, p x = q x) → l.find? p = l.find? q := by
    intro l p q h
    induction l with
    | nil => rfl
    | cons a r ih =>
      rw [List.find?_cons, List.find?_cons, h a List.mem_cons_self, ih fun x hx => h x (List.mem_cons_of_mem _ hx)]
  refine this _ _ _ fun x hx => ?_
  have hx2 : x ∈ Vakepb.above pr k := (List.mem_filter.mp hx).1
  have key : ∀ y, (Vakepb.above pr x).contains y = (y == x || (hangs pr x).contains y) := by
    intro y
    by_cases e : y = x
    · subst e
      rw [List.contains_iff_mem.mpr (self_above g hx2)]
      simp
    · rw [beq_eq_false_iff_ne.mpr e, Bool.false_or]
      by_cases c : y ∈ Vakepb.above pr x
      · rw [List.contains_iff_mem.mpr c, List.contains_iff_mem.mpr]
        exact List.mem_filter.mpr ⟨c, by simpa using e⟩
      · have e1 : (Vakepb.above pr x).contains y = false := by simpa using c
        have e2 : (hangs pr x).contains y = false := by
          have : y ∉ hangs pr x := fun z => c (List.mem_filter.mp z).1
          simpa using this
        rw [e1, e2]
  congr 1
  funext y
  exact key y
theorem hangs_eq (k : Nat) : hangs pr k = (((List.range pr.parts.length).filter fun x => x != k).filter fun x => (Vakepb.lost pr 1 [x]).contains k) := by
  unfold hangs Vakepb.above
  rw [List.filter_filter, List.filter_filter]
  refine List.filter_congr fun x _ => Bool.and_comm _ _
end
/-- the keys under which it's kept what's come to -/
def keysAll : List (Int × List Int) := (List.range 3).flatMap fun (m : Nat) => ([] :: (((List.range 10).map fun (k : Nat) => [(k : Int)]) ++ (List.range 10).flatMap fun (j : Nat) => (List.range 10).map fun (k : Nat) => [(j : Int), (k : Int)])).map fun l => ((m : Int), l)
def OkG (n m : Nat) (gn : List Nat) : Prop := m ≤ 2 ∧ gn.length ≤ 2 ∧ ∀ k ∈ gn, k < n
theorem keysAll_len : keysAll.length = 333 := by decide +kernel
theorem keysAll_mem {n m : Nat} {gn : List Nat} (hn : n ≤ 10) (h : OkG n m gn) : ((m : Int), gn.map fun (k : Nat) => (k : Int)) ∈ keysAll := by
  obtain ⟨h1, h2, h3⟩ := h
  refine List.mem_flatMap.mpr ⟨m, List.mem_range.mpr (by omega), List.mem_map.mpr ⟨_, ?_, rfl⟩⟩
  match gn, h2, h3 with
  | [], _, _ => exact List.mem_cons_self
  | [a], _, h => exact List.mem_cons_of_mem _ (List.mem_append_left _ (List.mem_map.mpr ⟨a, List.mem_range.mpr (by have := h a (by simp); omega), rfl⟩))
  | [a, b], _, h => exact List.mem_cons_of_mem _ (List.mem_append_right _ (List.mem_flatMap.mpr ⟨a, List.mem_range.mpr (by have := h a (by simp); omega), List.mem_map.mpr ⟨b, List.mem_range.mpr (by have := h b (by simp); omega), rfl⟩⟩))
  | _ :: _ :: _ :: _, h, _ => simp at h
theorem mapCast_inj : ∀ {a b : List Nat}, (a.map fun (k : Nat) => (k : Int)) = b.map (fun (k : Nat) => (k : Int)) → a = b
  | [], [], _ => rfl
  | [], _ :: _, h => by simp at h
  | _ :: _, [], h => by simp at h
  | x :: a, y :: b, h => by
    rw [List.map_cons, List.map_cons] at h
    injection h with h1 h2
    rw [mapCast_inj h2, show x = y by omega]
end Wk
set_option maxHeartbeats 2000000
namespace Wk
open PySem PySem.Spec PyProof.Rows L2
open Vakepa (Piece)
def tabsBy (pr : Vakepa.Prog) : List (List (List Nat)) := (List.range (Vakepa.total pr)).map (Vakepb.nextBy pr)
/-- what does not change of Reached: r itself, its program, its tables -/
structure RcG (K : PySem.W.Frag) (pr : Vakepa.Prog) (G : Hp) (r p kn : Addr) : Prop where
  ins : ∃ dx ts br, G r = some (.ins (cReached K) dx (F_Reached (.ref p) (.ref ts) (.ref br) (.ref kn))) ∧ TabsAt G ts (tabsBy pr) ∧ RowsAt G br (Vakepb.nextAny pr)
  pg : Pg K pr G p
  good : Good pr
  gk : G kn = none
/-- Reached, with what it knows -/
structure RcAt (P : Program) (w : World) (K : PySem.W.Frag) (pr : Vakepa.Prog) (G H : Hp) (r p kn : Addr) (es : List Ent) : Prop where
  fix : RcG K pr G r p kn
  same : Same G H
  known : H kn = some (dH P w kn es)
  keys : Keys H es
  nd : (es.map fun e => (e.m, e.left)).Nodup
  vals : ∀ e ∈ es, ∃ (m : Nat) (gn : List Nat), e.m = (m : Int) ∧ e.left = gn.map (fun (k : Nat) => (k : Int)) ∧ OkG pr.parts.length m gn ∧ H e.l = some (.lst (natL (Vakepb.reachedBy pr m gn)))
/-- entries that were not there are new in H -/
def NewE (H : Hp) (es es' : List Ent) : Prop := ∀ e ∈ es', e ∈ es ∨ H e.l = none
section
variable {P : Program} {w : World} {K : PySem.W.Frag} {pr : Vakepa.Prog} {G H H' : Hp} {r p kn : Addr} {es es' : List Ent}
theorem dH_ne {a : Addr} {es : List Ent} {xs : List V} : HO.lst xs ≠ dH P w a es := fun z => nomatch (show HO.lst xs = HO.ext _ from z)
theorem dH_nt {a : Addr} {es : List Ent} {xs : List V} : HO.tup xs ≠ dH P w a es := fun z => nomatch (show HO.tup xs = HO.ext _ from z)
theorem RcAt.same' (h : RcAt P w K pr G H r p kn es) (e : Same H H') : RcAt P w K pr G H' r p kn es :=
  ⟨h.fix, Same.trans h.same e, e _ _ h.known, fun x hx => (h.keys x hx).same fun b xs hb => e _ _ hb, h.nd, fun x hx => let ⟨m, gn, a, b, c, d⟩ := h.vals x hx; ⟨m, gn, a, b, c, e _ _ d⟩⟩
theorem RcAt.few (h : RcAt P w K pr G H r p kn es) : es.length ≤ 333 := by
  have := nodup_len (m := keysAll) h.nd fun x hx => by
    obtain ⟨e, he, rfl⟩ := List.mem_map.mp hx
    obtain ⟨m, gn, a, b, c, _⟩ := h.vals e he
    rw [a, b]
    exact keysAll_mem h.fix.good.nparts c
  rwa [List.length_map, keysAll_len] at this
/-- another list changes -/
theorem RcAt.mut (h : RcAt P w K pr G H r p kn es) {D : Addr} {xs ys : List V} (hD : H D = some (.lst xs)) (gD : G D = none) (nD : ∀ e ∈ es, e.l ≠ D) : RcAt P w K pr G (upd H D (.lst ys)) r p kn es := by
  have n1 : kn ≠ D := (ne_of hD h.known dH_ne).symm
  refine ⟨h.fix, L2.Same.mut h.same gD, by rw [upd_ne n1]; exact h.known, fun x hx => (h.keys x hx).same fun b zs hb => ?_, h.nd, fun x hx => let ⟨m, gn, a, b, c, d⟩ := h.vals x hx; ⟨m, gn, a, b, c, by rw [upd_ne (nD x hx)]; exact d⟩⟩
  rw [upd_ne (ne_of hb hD (fun z => nomatch z))]
  exact hb
theorem NewE.refl : NewE H es es := fun _ h => .inl h
theorem NewE.trans {es2 : List Ent} (k : Keep kn H H') (hk : ∃ o, H' kn = some o) (a : NewE H es es') (b : NewE H' es' es2) : NewE H es es2 := fun e he => (b e he).elim (a e) fun z => .inr (by
  cases q : H e.l with
  | none => rfl
  | some o =>
    have n : e.l ≠ kn := fun y => by rw [y] at z; obtain ⟨o, ho⟩ := hk; rw [ho] at z; cases z
    rw [k _ _ q n] at z
    cases z)
theorem NewE.off (a : NewE H es es') {D : Addr} {o : HO} (hD : H D = some o) (h : ∀ e ∈ es, e.l ≠ D) : ∀ e ∈ es', e.l ≠ D := fun e he => (a e he).elim (h e) fun z y => by rw [y, hD] at z; cases z
end
section
variable {P : Program} {w : World} {K : PySem.W.Frag} {mg : Str → Option Value} {base : Heap}
def spWorked (P : Program) (w : World) (K : PySem.W.Frag) : Sp := Sp3 fun s x y H Q _ => ∃ pr G r p kn es m l gn, s = .ref r ∧ x = .int (m : Nat) ∧ y = .ref l ∧ RcAt P w K pr G H r p kn es ∧ m ≤ 2 ∧ H l = some (.tup (natL gn)) ∧
  ∀ q H' ks, H q = none → Same H H' → H' q = some (dN P w q ks) → NS pr.parts.length (· ∈ Vakepb.reachedBy pr m gn) ks → Q (.ref q) H'
theorem sc_Reached_worked_out : FnScope ["self", "mode", "left", "found", "table"] ["self", "mode", "left"] (defScope s_Reached_worked_out) := ⟨rfl, rfl, rfl, by decide +kernel, rfl, by decide +kernel, by decide +kernel⟩
theorem ok_Reached_worked_out (T : Tx K mg) : FK P w K mg base CX0 (8) (He.ma K (He.ga K "Reached") "worked_out") ["self", "mode", "left"] (spWorked P w K) := by
  obtain ⟨fd, F⟩ := T.f_Reached_worked_out
  obtain ⟨fd0, G0, b0, k0⟩ := ok_come_to (P := P) (w := w) (base := base) T
  obtain ⟨fd1, G1, b1, k1⟩ := ok_entered_exactly (P := P) (w := w) (base := base) T
  refine ⟨fd, F.ok sc_Reached_worked_out (fun vs H Q E h => Sp3.len h) (fun cdv A outer s H vs Q E hr h => ?body), F.bindsN (fun _ _ _ _ _ _ us hl => match us, hl with | [_, _, _], _ => rfl), F.kp⟩
  refine ⟨_, PSs.nox (pss_cons (ps_if (pt_cmpR op_eq (pv 1) (C8.pe_gc rfl T.k_BY_BRANCHES) (nomark _)) (pss_one (ps_ret (pe_call G0 (hr.mono (by first | decide | omega)) rfl T.g_come_to_leading k0 b0 .nil pass0 (pa_cons (pe_fld (pv 0) rfl) (pa_cons (pe_fld (pe_fld (pv 0) rfl) rfl) (pa_cons (pv 2) pa_nil)))))) pss_nil)
      (pss_cons (ps_if (pt_cmpR op_ne (pv 1) (C8.pe_gc rfl T.k_BY_CONDITIONS) (nomark _)) (pss_one (ps_ret (pe_call G1 (hr.mono (by first | decide | omega)) rfl T.g_entered_exactly k1 b1 .nil pass0 (pa_cons (pe_fld (pv 0) rfl) (pa_cons (pv 2) pa_nil))))) pss_nil)
      (pss_cons (ps_set (i := 3) sc_Reached_worked_out.nd rfl (.inl rfl) pe_newN (hf := (.inr rfl)))
      (pss_cons (ps_for PassesOwn.never rfl (pi_list (pe_fld (pv 0) rfl)) (pg_name (i := 4) sc_Reached_worked_out.nd rfl (.inl rfl) (.inr rfl)) (pss_one (ps_expr (pe_updN (pv 3) (pe_call G0 (hr.mono (by first | decide | omega)) rfl T.g_come_to_leading k0 b0 .nil pass0 (pa_cons (pv 4) (pa_cons (pe_fld (pe_fld (pv 0) rfl) rfl) (pa_cons (pv 2) pa_nil))))))))
      (pss_one (ps_ret (pv 3))))))), ?_⟩
  obtain ⟨_, _, _, rfl, pr, G, r, p, kn, es, m, l, gn, rfl, rfl, rfl, h, hm, hl, kk⟩ := h
  obtain ⟨⟨dx, ts, br, hr1, hts, hbr⟩, hP, g, gk⟩ := h.fix
  have sm := h.same
  obtain ⟨dx2, ls, lp, le, vs, ws, hp⟩ := id hP
  have hn := g.nparts
  have hmem := fun k => reachedBy_mem g (gn := gn) hm k
  refine ⟨_, rfl, rfl, _, rfl, ?_⟩
  show if decide (V.int (m : Int) = V.int 1) = true then _ else _
  by_cases m1 : m = 1
  · subst m1
    refine ⟨_, rfl, r, _, dx, _, _, rfl, sm _ _ hr1, T.c_Reached, T.na_Reached_branches, l_Reached_branches, ?_⟩
    refine ⟨_, rfl, r, _, dx, _, _, rfl, sm _ _ hr1, T.c_Reached, T.na_Reached_program, l_Reached_program, p, _, dx2, _, _, rfl, sm _ _ hp.ins, T.c_Program, T.na_Program_entries, l_Program_entries, ?_⟩
    refine ⟨_, rfl, _, _, _, rfl, br, le, l, _, pr.starts, gn, pr.parts.length, rfl, rfl, rfl, hbr.same sm, sm _ _ hp.el, hl, nextAny_length, hn, nextAny_lt, g.starts.2, g.starts.1, fun q H' ks hq e hq2 hks => kk q H' ks hq e hq2 (hks.congr fun k => ?_)⟩
    rw [hmem k]
    exact Iff.rfl
  · rw [if_neg fun z => m1 (by have := V.int.inj (of_decide_eq_true z); omega)]
    refine ⟨_, rfl, rfl, _, rfl, ?_⟩
    show if (!decide (V.int (m : Int) = V.int 0)) = true then _ else _
    by_cases m0 : m = 0
    · subst m0
      refine fun D hD => ?_
      have s1 : Same H (upd H D (dN P w D [])) := Same.new hD
      have smD := Same.trans sm s1
      obtain ⟨tvs, ht1, htp⟩ := hts
      refine ⟨_, rfl, r, _, dx, _, _, rfl, smD _ _ hr1, T.c_Reached, T.na_Reached_tables, l_Reached_tables, ts, rfl, ⟨_, SqL.of (smD _ _ ht1)⟩, ?_⟩
      refine for_list (K := K) (a := ts) (xs := tvs) (fun i σ H' => ∃ a ks, σ = [some (.ref r), some (.int ((0 : Nat) : Int)), some (.ref l), some (.ref D), a] ∧ Same H H' ∧ H' D = some (dN P w D ks) ∧ NS pr.parts.length (fun k => ∃ a, a < i ∧ Rch (Vakepb.nextBy pr a) gn pr.starts k) ks)
        ⟨none, [], rfl, s1, upd_same, NS.nil.congr fun k => ⟨False.elim, fun ⟨a, h, _⟩ => absurd h (Nat.not_lt_zero a)⟩⟩ (fun i σ H' _ ⟨_, _, _, e, _⟩ => SqL.of (e _ _ (sm _ _ ht1))) ?_ ?_
      · rintro i x σ H2 hx ⟨a, ks, rfl, e2, hd2, hks⟩
        obtain ⟨tb, htb, t, rfl, hrow⟩ := Paired.at_ htp hx
        have hi : i < Vakepa.total pr := by
          have := (List.getElem?_eq_some_iff.mp htb).1
          unfold tabsBy at this
          simpa using this
        have ey : tb = Vakepb.nextBy pr i := by
          unfold tabsBy at htb
          rw [List.getElem?_map, List.getElem?_range hi] at htb
          exact (Option.some.inj htb).symm
        subst ey
        have e2G := Same.trans sm e2
        refine ⟨_, rfl, ⟨D, ks, rfl, hd2⟩, ?_⟩
        refine ⟨_, rfl, _, rfl, r, _, dx, _, _, rfl, e2G _ _ hr1, T.c_Reached, T.na_Reached_program, l_Reached_program, p, _, dx2, _, _, rfl, e2G _ _ hp.ins, T.c_Program, T.na_Program_entries, l_Program_entries, ?_⟩
        refine ⟨_, rfl, _, _, _, rfl, t, le, l, _, pr.starts, gn, pr.parts.length, rfl, rfl, rfl, hrow.same e2G, e2G _ _ hp.el, e2 _ _ hl, nextBy_len i, hn, nextBy_lt i, g.starts.2, g.starts.1, fun q H3 ms hq e3 hq3 hms => ?_⟩
        have h1 := hks.len
        have h2 := hms.len
        refine ⟨D, q, ks, ms, rfl, rfl, ne_of_none hd2 hq, e3 _ _ hd2, hq3, sz (by omega), ?_⟩
        refine ⟨_, _, rfl, L2.Same.mut (Same.trans e2 e3) hD, upd_same, (hks.uni hms).congr fun k => ?_⟩
        constructor
        · rintro (⟨a, ha, hk⟩ | hk)
          · exact ⟨a, Nat.lt_succ_of_lt ha, hk⟩
          · exact ⟨i, Nat.lt_succ_self i, hk⟩
        · rintro ⟨a, ha, hk⟩
          rcases Nat.lt_succ_iff_lt_or_eq.mp ha with z | z
          · exact .inl ⟨a, z, hk⟩
          · rw [z] at hk
            exact .inr hk
      · rintro σ H2 ⟨a, ks, rfl, e2, hd2, hks⟩
        refine ⟨_, rfl, kk D H2 ks hD e2 hd2 (hks.congr fun k => ?_)⟩
        have hl2 : tvs.length = Vakepa.total pr := by rw [Paired.length htp]; unfold tabsBy; simp
        rw [hmem k, hl2]
        exact Iff.rfl
    · have m2 : m = 2 := by omega
      subst m2
      refine ⟨_, rfl, r, _, dx, _, _, rfl, sm _ _ hr1, T.c_Reached, T.na_Reached_program, l_Reached_program, ?_⟩
      refine ⟨_, rfl, _, _, rfl, p, pr, l, gn, rfl, rfl, hP.same sm, g, hl, fun q H' ks hq e hq2 hks => kk q H' ks hq e hq2 (hks.congr fun k => ?_)⟩
      rw [hmem k]
      exact Iff.rfl
def spRcCome (P : Program) (w : World) (K : PySem.W.Frag) : Sp := Sp3 fun s x y H Q _ => ∃ pr G r p kn es m l gn, s = .ref r ∧ x = .int (m : Nat) ∧ y = .ref l ∧ RcAt P w K pr G H r p kn es ∧ OkG pr.parts.length m gn ∧ H l = some (.tup (natL gn)) ∧
  ∀ q H' es', RcAt P w K pr G H' r p kn es' → NewE H es es' → Keep kn H H' → H' q = some (.lst (natL (Vakepb.reachedBy pr m gn))) → Q (.ref q) H'
theorem sc_Reached_come_to : FnScope ["self", "mode", "left"] ["self", "mode", "left"] (defScope s_Reached_come_to) := ⟨rfl, rfl, rfl, by decide +kernel, rfl, by decide +kernel, by decide +kernel⟩
theorem ok_Reached_come_to (T : Tx K mg) : FK P w K mg base CX0 (9) (He.ma K (He.ga K "Reached") "come_to") ["self", "mode", "left"] (spRcCome P w K) := by
  obtain ⟨fd, F⟩ := T.f_Reached_come_to
  obtain ⟨fd0, G0, b0, k0⟩ := ok_rising (P := P) (w := w) (base := base) T
  obtain ⟨fd1, G1, b1, k1⟩ := ok_Reached_worked_out (P := P) (w := w) (base := base) T
  refine ⟨fd, F.ok sc_Reached_come_to (fun vs H Q E h => Sp3.len h) (fun cdv A outer s H vs Q E hr h => ?body), F.bindsN (fun _ _ _ _ _ _ us hl => match us, hl with | [_, _, _], _ => rfl), F.kp⟩
  have hu64 := hr.units
  refine ⟨_, PSs.nox (pss_cons (ps_if (pt_cmp (pc_notInH hu64 (pe_tup (pa_cons (pv 1) (pa_cons (pv 2) pa_nil))) (pe_fld (pv 0) rfl))) (pss_one (ps_putH hu64 (pe_fld (pv 0) rfl) (pe_tup (pa_cons (pv 1) (pa_cons (pv 2) pa_nil))) (pe_call G0 (hr.mono (by first | decide | omega)) rfl T.g_rising k0 b0 .nil pass0 (pa_cons (pe_meth (pv 0) T.c_Reached T.me_Reached_worked_out G1 (hr.mono (by first | decide | omega)) b1 .nil pass0 (pa_cons (pv 1) (pa_cons (pv 2) pa_nil))) pa_nil)))) pss_nil)
      (pss_one (ps_ret (pe_getH hu64 (pe_fld (pv 0) rfl) (pe_tup (pa_cons (pv 1) (pa_cons (pv 2) pa_nil))) (fun _ _ => rfl))))), ?_⟩
  obtain ⟨_, _, _, rfl, pr, G, r, p, kn, es, m, l, gn, rfl, rfl, rfl, h, hok, hl, kk⟩ := h
  have fx := h.fix
  obtain ⟨⟨dx, ts, br, hr1, hts, hbr⟩, hP, g, gk⟩ := h.fix
  have sm := h.same
  have hn := g.nparts
  have hlI : natL gn = (gn.map fun (k : Nat) => (k : Int)).map V.int := by unfold natL; rw [List.map_map]; rfl
  have hfew := h.few
  refine ⟨_, rfl, _, rfl, by show 2 ≤ sizeLine; decide, fun q hq => ?_⟩
  have e1 : Same H (upd H q (.tup [.int (m : Int), .ref l])) := Same.new hq
  have h1 := h.same' e1
  have hk1 : KeyAt (upd H q (.tup [.int (m : Int), .ref l])) q (m : Int) (gn.map fun (k : Nat) => (k : Int)) := ⟨l, upd_same, by rw [← hlI]; exact e1 _ _ hl⟩
  generalize upd H q (.tup [.int (m : Int), .ref l]) = H1 at e1 h1 hk1
  have fin : ∀ H5 es5, RcAt P w K pr G H5 r p kn es5 → NewE H es es5 → Keep kn H H5 → hasH es5 (m : Int) (gn.map fun (k : Nat) => (k : Int)) = true → ∀ σ : L2.St, σ = [some (.ref r), some (.int (m : Int)), some (.ref l)] → 
      (tRet (tGetH P w (tFld K (tVar 0) "known") (tTup (tCons (tVar 1) (tCons (tVar 2) tNil)))) : TS) ⟨fun x H' => Q .non H', Q, fun x H' => Q .non H', fun x H' => Q .non H'⟩ σ H5 := by
    rintro H5 es5 h5 n5 k5 hh σ rfl
    refine ⟨_, rfl, r, _, dx, _, _, rfl, h5.same _ _ hr1, T.c_Reached, T.na_Reached_known, l_Reached_known, ?_⟩
    refine ⟨_, rfl, _, rfl, by show 2 ≤ sizeLine; decide, fun q2 hq2 => ?_⟩
    have e6 : Same H5 (upd H5 q2 (.tup [.int (m : Int), .ref l])) := Same.new hq2
    have h6 := h5.same' e6
    have nl : l ≠ kn := fun z => by rw [z, h.known] at hl; exact dH_nt (Option.some.inj hl).symm
    have hk6 : KeyAt (upd H5 q2 (.tup [.int (m : Int), .ref l])) q2 (m : Int) (gn.map fun (k : Nat) => (k : Int)) := ⟨l, upd_same, by rw [← hlI]; exact e6 _ _ (k5 _ _ hl nl)⟩
    unfold hasH at hh
    obtain ⟨e, he, hh⟩ := List.any_eq_true.mp hh
    have hh2 : e.m = (m : Int) ∧ e.left = gn.map fun (k : Nat) => (k : Int) := by simpa using hh
    obtain ⟨m', gn', a, b, c, d⟩ := h6.vals e he
    have em : m' = m := by have := a.symm.trans hh2.1; omega
    have eg : gn' = gn := mapCast_inj (b.symm.trans hh2.2)
    subst em eg
    refine ⟨kn, q2, es5, e, rfl, h6.known, h6.keys, rfl, he, by rw [hh2.1, hh2.2]; exact hk6, ?_⟩
    exact kk e.l _ es5 h6 n5 (Keep.trans k5 (Keep.of e6)) d
  refine ⟨_, rfl, r, _, dx, _, _, rfl, h1.same _ _ hr1, T.c_Reached, T.na_Reached_known, l_Reached_known, kn, q, es, (m : Int), _, rfl, h1.known, h1.keys, rfl, hk1, _, rfl, ?_⟩
  show if (!hasH es (m : Int) (gn.map fun (k : Nat) => (k : Int))) = true then _ else _
  cases hh : hasH es (m : Int) (gn.map fun (k : Nat) => (k : Int)) with
  | true => exact fin H1 es h1 NewE.refl (Keep.of e1) hh _ rfl
  | false =>
    refine ⟨_, rfl, r, dx, _, rfl, h1.same _ _ hr1, n_Reached_worked_out, _, rfl, _, rfl, _, _, _, rfl, pr, G, r, p, kn, es, m, l, gn, rfl, rfl, rfl, h1, hok.1, e1 _ _ hl, fun q2 H2 ks hq2 e2 h2 hks => ?_⟩
    refine ⟨_, rfl, q2, ks, pr, _, rfl, h2, hks, hn, fun q3 H3 hq3 e3 h3 => ?_⟩
    have e13 := Same.trans e2 e3
    have eH3 := Same.trans e1 e13
    have h4 := h1.same' e13
    refine ⟨_, rfl, r, _, dx, _, _, rfl, h4.same _ _ hr1, T.c_Reached, T.na_Reached_known, l_Reached_known, ?_⟩
    refine ⟨_, rfl, _, rfl, by show 2 ≤ sizeLine; decide, fun q5 hq5 => ?_⟩
    have e5 : Same H3 (upd H3 q5 (.tup [.int (m : Int), .ref l])) := Same.new hq5
    have h5 := h4.same' e5
    have hk5 : KeyAt (upd H3 q5 (.tup [.int (m : Int), .ref l])) q5 (m : Int) (gn.map fun (k : Nat) => (k : Int)) := ⟨l, upd_same, by rw [← hlI]; exact e5 _ _ (eH3 _ _ hl)⟩
    have h35 := e5 _ _ h3
    generalize upd H3 q5 (.tup [.int (m : Int), .ref l]) = H5 at e5 h5 hk5 h35
    refine ⟨kn, q5, q3, es, (m : Int), _, rfl, rfl, h5.known, h5.keys, rfl, hk5, hh, szl (by omega), ?_⟩
    have n3 : q3 ≠ kn := ne_of h35 h5.known dH_ne
    have kp : ∀ b xs, H5 b = some (.tup xs) → upd H5 kn (dH P w kn (es ++ [⟨(m : Int), gn.map fun (k : Nat) => (k : Int), q5, q3⟩])) b = some (.tup xs) := fun b xs hb => by
      rw [upd_ne (ne_of hb h5.known dH_nt)]
      exact hb
    have h6 : RcAt P w K pr G (upd H5 kn (dH P w kn (es ++ [⟨(m : Int), gn.map fun (k : Nat) => (k : Int), q5, q3⟩]))) r p kn (es ++ [⟨(m : Int), gn.map fun (k : Nat) => (k : Int), q5, q3⟩]) := by
      refine ⟨fx, L2.Same.mut h5.same gk, upd_same, fun x hx => ?_, ?_, fun x hx => ?_⟩
      · rcases List.mem_append.mp hx with z | z
        · exact (h5.keys x z).same kp
        · rw [List.mem_singleton.mp z]
          exact hk5.same kp
      · rw [List.map_append]
        refine List.nodup_append.mpr ⟨h5.nd, by simp, fun a ha b hb => ?_⟩
        have eb : b = ((m : Int), gn.map fun (k : Nat) => (k : Int)) := by simpa using hb
        subst eb
        rintro rfl
        obtain ⟨e, he, ee⟩ := List.mem_map.mp ha
        have : hasH es (m : Int) (gn.map fun (k : Nat) => (k : Int)) = true := List.any_eq_true.mpr ⟨e, he, by injection ee with e1 e2; simp [e1, e2]⟩
        rw [hh] at this
        cases this
      · rcases List.mem_append.mp hx with z | z
        · obtain ⟨m', gn', a, b, c, d⟩ := h5.vals x z
          exact ⟨m', gn', a, b, c, by rw [upd_ne (ne_of d h5.known dH_ne)]; exact d⟩
        · rw [List.mem_singleton.mp z]
          refine ⟨m, gn, rfl, rfl, hok, ?_⟩
          rw [upd_ne n3, h35, reachedBy_self]
    refine fin _ _ h6 (fun e he => ?_) ?_ ?_ _ rfl
    · rcases List.mem_append.mp he with z | z
      · exact .inl z
      · rw [List.mem_singleton.mp z]
        exact .inr (gone e1 (gone e2 hq3))
    · exact Keep.upd (Keep.of (Same.trans eH3 e5))
    · unfold hasH
      rw [List.any_append]
      simp
end
end Wk
set_option maxHeartbeats 2000000
namespace Wk
open PySem PySem.Spec PyProof.Rows L2
open Vakepa (Piece)
/-! ### comprehensions whose turns ask Reached -/
def TurnS (P : Program) (w : World) (K : PySem.W.Frag) (pr : Vakepa.Prog) (G : Hp) (r p kn : Addr) (g : TG) (tt : TT) (te : TE) (vs : List Nat) (σ : L2.St) (x : V) (H : Hp) (es : List Ent) (R : V → Hp → Prop) (N : Prop) : Prop := ∀ (Kt : V → Hp → Prop) (Kf : Hp → Prop),
  (∀ z H4 es4, R z H4 → RcAt P w K pr G H4 r p kn es4 → NewE H es es4 → Keep kn H H4 → Kt z H4) → (∀ H3 es3, N → RcAt P w K pr G H3 r p kn es3 → NewE H es es3 → Keep kn H H3 → Kf H3) →
  g x (wipe σ vs) H fun σ2 H2 => wipe σ2 vs = wipe σ vs ∧ tt σ2 H2 fun b H3 => if b = true then te σ2 H3 Kt else Kf H3
section
variable {P : Program} {w : World} {K : PySem.W.Frag} {pr : Vakepa.Prog} {G : Hp} {r p kn : Addr}
/-- the state in a comprehension at D -/
structure CS (P : Program) (w : World) (K : PySem.W.Frag) (pr : Vakepa.Prog) (G : Hp) (r p kn : Addr) (H1 : Hp) (es0 : List Ent) (D : Addr) (acc : List V) (H : Hp) (es : List Ent) : Prop where
  at_ : RcAt P w K pr G H r p kn es
  keep : Keep kn H1 H
  new : NewE H1 es0 es
  off : ∀ e ∈ es, e.l ≠ D
  lst : H D = some (.lst acc)
theorem CS.start {H1 : Hp} {es0 : List Ent} {D : Addr} (h : RcAt P w K pr G H1 r p kn es0) (hD : H1 D = none) : CS P w K pr G r p kn H1 es0 D [] (upd H1 D (.lst [])) es0 :=
  ⟨h.same' (Same.new hD), Keep.of (Same.new hD), NewE.refl, (fun e he z => by obtain ⟨m, gn, _, _, _, d⟩ := h.vals e he; rw [z, hD] at d; cases d), upd_same⟩
theorem CS.go {H1 H H4 : Hp} {es0 es es4 : List Ent} {D : Addr} {acc : List V} (c : CS P w K pr G r p kn H1 es0 D acc H es) (h : RcAt P w K pr G H4 r p kn es4) (n : NewE H es es4) (k : Keep kn H H4) : CS P w K pr G r p kn H1 es0 D acc H4 es4 :=
  ⟨h, Keep.trans c.keep k, NewE.trans c.keep ⟨_, c.at_.known⟩ c.new n, n.off c.lst c.off, k _ _ c.lst (ne_of c.lst c.at_.known dH_ne)⟩
theorem CS.push {H1 H : Hp} {es0 es : List Ent} {D : Addr} {acc ys : List V} (hD : H1 D = none) (h1 : RcAt P w K pr G H1 r p kn es0) (c : CS P w K pr G r p kn H1 es0 D acc H es) : CS P w K pr G r p kn H1 es0 D ys (upd H D (.lst ys)) es :=
  ⟨c.at_.mut c.lst (gone h1.same hD) c.off, fun b o hb n => by rw [upd_ne (ne_of_none hb hD)]; exact c.keep b o hb n, c.new, c.off, upd_same⟩
variable {a : Addr} {xs : List V} {g : TG} {tt : TT} {te : TE} {vs : List Nat} {σ : L2.St} {H1 : Hp} {es0 : List Ent} {D : Addr} {Qd : Hp → Prop}
def PvS (P : Program) (w : World) (K : PySem.W.Frag) (pr : Vakepa.Prog) (G : Hp) (r p kn : Addr) (H1 : Hp) (es0 : List Ent) (D : Addr) (ys : Nat → Option V) (i : Nat) (H : Hp) : Prop := ∃ es, CS P w K pr G r p kn H1 es0 D (picks i ys) H es
theorem st_step {ys : Nat → Option V} {i n : Nat} {x : V} {H : Hp} {es : List Ent} (h1 : RcAt P w K pr G H1 r p kn es0) (hD : H1 D = none) (hi : i < n) (hz : n < sizeLine) (c : CS P w K pr G r p kn H1 es0 D (picks i ys) H es)
    (t : TurnS P w K pr G r p kn g tt te vs σ x H es (fun z _ => ys i = some z) (ys i = none)) :
    g x (wipe σ vs) H fun σ2 H2 => wipe σ2 vs = wipe σ vs ∧ tt σ2 H2 fun b H3 => if b = true then te σ2 H3 fun y H4 => ∃ acc, H4 D = some (.lst acc) ∧ acc.length < sizeLine ∧ PvS P w K pr G r p kn H1 es0 D ys (i + 1) (upd H4 D (.lst (acc ++ [y]))) else PvS P w K pr G r p kn H1 es0 D ys (i + 1) H3 := by
  refine t _ _ (fun z H4 es4 ez h4 n4 k4 => ?_) fun H3 es3 ez h3 n3 k3 => ?_
  · have c4 := c.go h4 n4 k4
    refine ⟨_, c4.lst, by have := picks_le i ys; omega, es4, ?_⟩
    have e : picks (i + 1) ys = picks i ys ++ [z] := by rw [picks_more, ez]; rfl
    rw [e]
    exact c4.push hD h1
  · have c3 := c.go h3 n3 k3
    have e : picks (i + 1) ys = picks i ys := by rw [picks_more, ez]; simp
    refine ⟨es3, ?_⟩
    rw [e]
    exact c3
theorem lc_st (ys : Nat → Option V) (h1 : RcAt P w K pr G H1 r p kn es0) (hq : H1 a = some (.lst xs)) (hD : H1 D = none) (hz : xs.length < sizeLine)
    (hs : ∀ (i : Nat) (x : V) (H : Hp) (es : List Ent), xs[i]? = some x → RcAt P w K pr G H r p kn es → Keep kn H1 H → TurnS P w K pr G r p kn g tt te vs σ x H es (fun z _ => ys i = some z) (ys i = none))
    (hd : ∀ H es, RcAt P w K pr G H r p kn es → NewE H1 es0 es → (∀ e ∈ es, e.l ≠ D) → Keep kn H1 H → H D = some (.lst (picks xs.length ys)) → Qd H) :
    ∃ W : Nat → Nat → Hp → Prop, (∃ m, W 0 m (upd H1 D (.lst []))) ∧ ∀ i m H, W i m H →
      ((Itl K a).stop i H ∧ Qd H) ∨ ((Itl K a).go i H ∧ ∃ Nx : Hp → Prop, (∀ H', Nx H' → ∃ m', m' < m ∧ W (i + 1) m' H') ∧ ∀ x H', (Itl K a).yld i H x H' → g x (wipe σ vs) H' fun σ2 H2 => wipe σ2 vs = wipe σ vs ∧ tt σ2 H2 fun b H3 =>
        if b = true then te σ2 H3 fun y H4 => ∃ acc, H4 D = some (.lst acc) ∧ acc.length < sizeLine ∧ Nx (upd H4 D (.lst (acc ++ [y]))) else Nx H3) :=
  lc_list (K := K) (a := a) (xs := xs) (PvS P w K pr G r p kn H1 es0 D ys) ⟨es0, CS.start h1 hD⟩ (fun i H _ ⟨es, c⟩ => SqL.of (c.keep _ _ hq (ne_of hq h1.known dH_ne)))
    (fun i x H hx ⟨es, c⟩ => st_step h1 hD (List.getElem?_eq_some_iff.mp hx).1 hz c (hs i x H es hx c.at_ c.keep)) fun H ⟨es, c⟩ => hd H es c.at_ c.new c.off c.keep c.lst
theorem lc_stR {lo : Int} {n : Nat} (ys : Nat → Option V) (h1 : RcAt P w K pr G H1 r p kn es0) (hD : H1 D = none) (hz : n < sizeLine)
    (hs : ∀ (i : Nat) (H : Hp) (es : List Ent), i < n → RcAt P w K pr G H r p kn es → Keep kn H1 H → TurnS P w K pr G r p kn g tt te vs σ (.int (lo + i)) H es (fun z _ => ys i = some z) (ys i = none))
    (hd : ∀ H es, RcAt P w K pr G H r p kn es → NewE H1 es0 es → (∀ e ∈ es, e.l ≠ D) → Keep kn H1 H → H D = some (.lst (picks n ys)) → Qd H) :
    ∃ W : Nat → Nat → Hp → Prop, (∃ m, W 0 m (upd H1 D (.lst []))) ∧ ∀ i m H, W i m H →
      ((Itr lo n).stop i H ∧ Qd H) ∨ ((Itr lo n).go i H ∧ ∃ Nx : Hp → Prop, (∀ H', Nx H' → ∃ m', m' < m ∧ W (i + 1) m' H') ∧ ∀ x H', (Itr lo n).yld i H x H' → g x (wipe σ vs) H' fun σ2 H2 => wipe σ2 vs = wipe σ vs ∧ tt σ2 H2 fun b H3 =>
        if b = true then te σ2 H3 fun y H4 => ∃ acc, H4 D = some (.lst acc) ∧ acc.length < sizeLine ∧ Nx (upd H4 D (.lst (acc ++ [y]))) else Nx H3) :=
  lc_range (lo := lo) (n := n) (PvS P w K pr G r p kn H1 es0 D ys) ⟨es0, CS.start h1 hD⟩
    (fun i H hi ⟨es, c⟩ => st_step h1 hD hi hz c (hs i H es hi c.at_ c.keep)) fun H ⟨es, c⟩ => hd H es c.at_ c.new c.off c.keep c.lst
/-- .. over a tuple -/
theorem lc_stT (ys : Nat → Option V) (h1 : RcAt P w K pr G H1 r p kn es0) (hq : H1 a = some (.tup xs)) (hD : H1 D = none) (hz : xs.length < sizeLine)
    (hs : ∀ (i : Nat) (x : V) (H : Hp) (es : List Ent), xs[i]? = some x → RcAt P w K pr G H r p kn es → Keep kn H1 H → TurnS P w K pr G r p kn g tt te vs σ x H es (fun z _ => ys i = some z) (ys i = none))
    (hd : ∀ H es, RcAt P w K pr G H r p kn es → NewE H1 es0 es → (∀ e ∈ es, e.l ≠ D) → Keep kn H1 H → H D = some (.lst (picks xs.length ys)) → Qd H) :
    ∃ W : Nat → Nat → Hp → Prop, (∃ m, W 0 m (upd H1 D (.lst []))) ∧ ∀ i m H, W i m H →
      ((Itt K a).stop i H ∧ Qd H) ∨ ((Itt K a).go i H ∧ ∃ Nx : Hp → Prop, (∀ H', Nx H' → ∃ m', m' < m ∧ W (i + 1) m' H') ∧ ∀ x H', (Itt K a).yld i H x H' → g x (wipe σ vs) H' fun σ2 H2 => wipe σ2 vs = wipe σ vs ∧ tt σ2 H2 fun b H3 =>
        if b = true then te σ2 H3 fun y H4 => ∃ acc, H4 D = some (.lst acc) ∧ acc.length < sizeLine ∧ Nx (upd H4 D (.lst (acc ++ [y]))) else Nx H3) :=
  lc_tup (K := K) (a := a) (xs := xs) (PvS P w K pr G r p kn H1 es0 D ys) ⟨es0, CS.start h1 hD⟩ (fun i H _ ⟨es, c⟩ => SqT.of (c.keep _ _ hq (ne_of hq h1.known dH_nt)))
    (fun i x H hx ⟨es, c⟩ => st_step h1 hD (List.getElem?_eq_some_iff.mp hx).1 hz c (hs i x H es hx c.at_ c.keep)) fun H ⟨es, c⟩ => hd H es c.at_ c.new c.off c.keep c.lst
end
theorem natL_filter (f : Nat → Bool) (l : List Nat) : (l.filterMap fun k => if f k = true then some (V.int (k : Int)) else none) = natL (l.filter f) := by
  induction l with
  | nil => rfl
  | cons a r ih =>
    rw [List.filterMap_cons, List.filter_cons]
    cases f a with
    | true =>
      rw [if_pos rfl, if_pos rfl]
      show V.int (a : Int) :: _ = V.int (a : Int) :: _
      rw [ih]
      rfl
    | false =>
      rw [if_neg Bool.false_ne_true, if_neg Bool.false_ne_true]
      exact ih
theorem keep_lst {P : Program} {w : World} {kn b : Addr} {H H' : Hp} {es : List Ent} {xs : List V} (k : Keep kn H H') (hk : H kn = some (dH P w kn es)) (h : H b = some (.lst xs)) : H' b = some (.lst xs) := k _ _ h (ne_of h hk dH_ne)
theorem keep_tup {P : Program} {w : World} {kn b : Addr} {H H' : Hp} {es : List Ent} {xs : List V} (k : Keep kn H H') (hk : H kn = some (dH P w kn es)) (h : H b = some (.tup xs)) : H' b = some (.tup xs) := k _ _ h (ne_of h hk dH_nt)
section
variable {P : Program} {w : World} {K : PySem.W.Frag} {mg : Str → Option Value} {base : Heap}
def spRcLost (P : Program) (w : World) (K : PySem.W.Frag) : Sp := Sp3 fun s x y H Q _ => ∃ pr G r p kn es m l gn, s = .ref r ∧ x = .int (m : Nat) ∧ y = .ref l ∧ RcAt P w K pr G H r p kn es ∧ OkG pr.parts.length m gn ∧ H l = some (.tup (natL gn)) ∧
  ∀ q H' es', RcAt P w K pr G H' r p kn es' → NewE H es es' → Keep kn H H' → H' q = some (.lst (natL (Vakepb.lost pr m gn))) → Q (.ref q) H'
theorem sc_Reached_lost : FnScope ["self", "mode", "left", "rest", "number"] ["self", "mode", "left"] (defScope s_Reached_lost) := ⟨rfl, rfl, rfl, by decide +kernel, rfl, by decide +kernel, by decide +kernel⟩
theorem ok_Reached_lost (T : Tx K mg) : FK P w K mg base CX0 (10) (He.ma K (He.ga K "Reached") "lost") ["self", "mode", "left"] (spRcLost P w K) := by
  obtain ⟨fd, F⟩ := T.f_Reached_lost
  obtain ⟨fd0, G0, b0, k0⟩ := ok_Reached_come_to (P := P) (w := w) (base := base) T
  refine ⟨fd, F.ok sc_Reached_lost (fun vs H Q E h => Sp3.len h) (fun cdv A outer s H vs Q E hr h => ?body), F.bindsN (fun _ _ _ _ _ _ us hl => match us, hl with | [_, _, _], _ => rfl), F.kp⟩
  refine ⟨_, PSs.nox (pss_cons (ps_set (i := 3) sc_Reached_lost.nd rfl (.inr rfl) (pe_meth (pv 0) T.c_Reached T.me_Reached_come_to G0 (hr.mono (by first | decide | omega)) b0 .nil pass0 (pa_cons (pv 1) (pa_cons (pv 2) pa_nil))) (hf := (.inl rfl)))
      (pss_one (ps_ret (pe_lc (own := [("number", 4)]) rfl sc_Reached_lost.nd (pi_list (pe_meth (pv 0) T.c_Reached T.me_Reached_come_to G0 (hr.mono (by first | decide | omega)) b0 .nil pass0 (pa_cons (pv 1) (pa_cons (pe_tup pa_nil) pa_nil)))) (blkOk_by (own := [("number", 4)]) (N := ["self", "mode", "left", "rest", "number"]) (sc := defScope s_Reached_lost) (by decide +kernel)) (fun _ _ _ _ _ => (pg_name (i := 4) sc_Reached_lost.nd rfl (.inl rfl) (.inr rfl))) (fun _ _ _ _ _ => (pts_one (show PT _ _ (tTest (tOp (rIn K true) _ _)) from by exact (pt_cmpR op_notIn_seq (pv 4) (pv 3) rfl)))) (fun _ _ _ _ _ => (pv 4)))))), ?_⟩
  obtain ⟨_, _, _, rfl, pr, G, r, p, kn, es, m, l, gn, rfl, rfl, rfl, h, hok, hl, kk⟩ := h
  obtain ⟨dx, ts, br, hr1, hts, hbr⟩ := h.fix.ins
  have hn := h.fix.good.nparts
  refine ⟨_, rfl, r, dx, _, rfl, h.same _ _ hr1, n_Reached_come_to, _, rfl, _, rfl, _, _, _, rfl, pr, G, r, p, kn, es, m, l, gn, rfl, rfl, rfl, h, hok, hl, fun q1 H1 es1 h1 n1 k1 hq1 => ?_⟩
  refine ⟨_, rfl, r, dx, _, rfl, h1.same _ _ hr1, n_Reached_come_to, _, rfl, by show 0 ≤ sizeLine; decide, fun q2 hq2 => ?_⟩
  have e2 : Same H1 (upd H1 q2 (.tup [])) := Same.new hq2
  have h2 := h1.same' e2
  refine ⟨_, _, _, rfl, pr, G, r, p, kn, es1, m, q2, [], rfl, rfl, rfl, h2, ⟨hok.1, by decide, (fun _ h => nomatch h)⟩, upd_same, fun q3 H3 es3 h3 n3 k3 hq3 => ?_⟩
  have hq13 : H3 q1 = some (.lst (natL (Vakepb.reachedBy pr m gn))) := keep_lst k3 h2.known (e2 _ _ hq1)
  refine ⟨q3, rfl, ⟨_, SqL.of hq3⟩, fun D hD => ?_⟩
  refine lc_pure (K := K) (xs := natL (Vakepb.reachedBy pr m [])) (fun i => ((Vakepb.reachedBy pr m [])[i]?).bind fun k => if (!(Vakepb.reachedBy pr m gn).contains k) = true then some (V.int (k : Int)) else none) (SqL.of hq3) hD (szl (by have := reachedBy_few (pr := pr) m []; rw [natL_len]; omega)) (fun i x H4 hx e4 Kt Kf kt kf => ?_) fun H4 e4 hd4 => ?_
  · have hi : i < (Vakepb.reachedBy pr m []).length := by have := (List.getElem?_eq_some_iff.mp hx).1; rwa [natL_len] at this
    rw [natL_at (List.getElem?_eq_getElem hi)] at hx
    have ex := Option.some.inj hx
    subst ex
    refine ⟨rfl, _, rfl, _, rfl, q1, _, rfl, .inl (SqL.of (e4 _ _ hq13)), rfl, natL_flat _, _, rfl, ?_⟩
    show if (!inV (.int (((Vakepb.reachedBy pr m [])[i] : Nat) : Int)) (natL (Vakepb.reachedBy pr m gn))) = true then _ else _
    rw [inV_N]
    cases c : (!(Vakepb.reachedBy pr m gn).contains (Vakepb.reachedBy pr m [])[i]) with
    | true => exact ⟨_, rfl, kt _ _ (by rw [List.getElem?_eq_getElem hi, Option.bind_some, if_pos c]) (Same.refl _)⟩
    | false => exact kf _ (by rw [List.getElem?_eq_getElem hi, Option.bind_some, if_neg (by rw [c]; exact Bool.false_ne_true)]) (Same.refl _)
  · rw [natL_len, picks_bind rfl, natL_filter] at hd4
    refine kk D H4 es3 (h3.same' e4) ?_ ?_ hd4
    · refine NewE.trans k1 ⟨_, h1.known⟩ n1 (NewE.trans (Keep.of (D := kn) e2) ⟨_, h2.known⟩ NewE.refl n3)
    · exact Keep.trans k1 (Keep.trans (Keep.of e2) (Keep.trans k3 (Keep.of e4)))
def spSizeOf (P : Program) (w : World) (K : PySem.W.Frag) : Sp := Sp2 fun s x H Q _ => ∃ pr G r p kn es l L, s = .ref r ∧ x = .ref l ∧ RcAt P w K pr G H r p kn es ∧ H l = some (.lst (natL L)) ∧ (∀ k ∈ L, k < pr.parts.length) ∧ L.length ≤ 1000 ∧
  ∀ H', Same H H' → Q (.int ((Vakepa.sizeOf_ pr L : Nat) : Int)) H'
theorem sc_Reached_size_of : FnScope ["self", "numbers", "number"] ["self", "numbers"] (defScope s_Reached_size_of) := ⟨rfl, rfl, rfl, by decide +kernel, rfl, by decide +kernel, by decide +kernel⟩
theorem ok_Reached_size_of (T : Tx K mg) : FK P w K mg base CX0 (1) (He.ma K (He.ga K "Reached") "size_of") ["self", "numbers"] (spSizeOf P w K) := by
  obtain ⟨fd, F⟩ := T.f_Reached_size_of
  refine ⟨fd, F.ok sc_Reached_size_of (fun vs H Q E h => Sp2.len h) (fun cdv A outer s H vs Q E hr h => ?body), F.bindsN (fun _ _ _ _ _ _ us hl => match us, hl with | [_, _], _ => rfl), F.kp⟩
  refine ⟨_, PSs.nox (pss_one (ps_ret (pe_callB (cr_sum rfl) rfl T.n_sum (by decide +kernel) (pa_cons (pe_lc (own := [("number", 2)]) rfl sc_Reached_size_of.nd (pi_list (pv 1)) (blkOk_by (own := [("number", 2)]) (N := ["self", "numbers", "number"]) (sc := defScope s_Reached_size_of) (by decide +kernel)) (fun _ _ _ _ _ => (pg_name (i := 2) sc_Reached_size_of.nd rfl (.inl rfl) (.inr rfl))) (fun _ _ _ _ _ => pts_nil) (fun _ _ _ _ _ => (show PE _ _ (tFld K _ _) from by exact (pe_fld (show PE _ _ (tOp (rIxL K) _ _) from by exact (pe_ix ix_list (show PE _ _ (tFld K _ _) from by exact (pe_fld (show PE _ _ (tFld K _ _) from by exact (pe_fld (pv 0) rfl)) rfl)) (pv 2) (fun _ _ => rfl))) rfl)))) pa_nil)))), ?_⟩
  obtain ⟨_, _, rfl, pr, G, r, p, kn, es, l, L, rfl, rfl, h, hl, hL, hz, kk⟩ := h
  obtain ⟨dx, ts, br, hr1, hts, hbr⟩ := h.fix.ins
  have sm := h.same
  refine ⟨_, rfl, l, rfl, ⟨_, SqL.of hl⟩, fun D hD => ?_⟩
  refine lc_pure (K := K) (xs := natL L) (fun i => (L[i]?).map fun k => V.int ((((pr.parts[k]?).map fun x => x.size).getD 0 : Nat) : Int)) (SqL.of hl) hD (szl (by rw [natL_len]; omega)) (fun i x H1 hx e Kt Kf kt kf => ?_) fun H1 e hd => ?_
  · have hi : i < L.length := by have := (List.getElem?_eq_some_iff.mp hx).1; rwa [natL_len] at this
    rw [natL_at (List.getElem?_eq_getElem hi)] at hx
    have ex := Option.some.inj hx
    subst ex
    have hk := hL _ (List.getElem_mem hi)
    obtain ⟨dx2, ls, lp, le, ws, a, da, nm, z, l2, xs, hp, hlp, hws, ha, hz2, hlx, hst, hnm⟩ := h.fix.pg.body hk
    have e1 := Same.trans sm e
    refine ⟨rfl, _, rfl, r, _, dx, _, _, rfl, e1 _ _ hr1, T.c_Reached, T.na_Reached_program, l_Reached_program, p, _, dx2, _, _, rfl, e1 _ _ hp, T.c_Program, T.na_Program_parts, l_Program_parts, ?_⟩
    refine ⟨_, rfl, lp, ws, _, _, rfl, rfl, SqL.of (e1 _ _ hlp), atI_n hws, a, _, da, _, _, rfl, e1 _ _ ha, T.c_Part, T.na_Part_size, l_Part_size, kt _ _ ?_ (Same.refl _)⟩
    rw [List.getElem?_eq_getElem hi, hz2]
    rfl
  · rw [picks_at (natL_len _)] at hd
    refine ⟨D, L.map fun k => ((((pr.parts[k]?).map fun x => x.size).getD 0 : Nat) : Int), rfl, ?_, ?_⟩
    · rw [List.map_map]
      exact SqL.of hd
    · have : (L.map fun k => ((((pr.parts[k]?).map fun x => x.size).getD 0 : Nat) : Int)).sum = ((Vakepa.sizeOf_ pr L : Nat) : Int) := by
        unfold Vakepa.sizeOf_
        clear hd kk hz hL hl
        induction L with
        | nil => rfl
        | cons a r ih =>
          rw [List.map_cons, List.sum_cons, ih, List.map_cons, List.sum_cons]
          omega
      rw [this]
      exact kk H1 e
def spLostSize (P : Program) (w : World) (K : PySem.W.Frag) : Sp := Sp3 fun s x y H Q _ => ∃ pr G r p kn es m l gn, s = .ref r ∧ x = .int (m : Nat) ∧ y = .ref l ∧ RcAt P w K pr G H r p kn es ∧ OkG pr.parts.length m gn ∧ H l = some (.tup (natL gn)) ∧
  ∀ H' es', RcAt P w K pr G H' r p kn es' → NewE H es es' → Keep kn H H' → Q (.int ((Vakepa.sizeOf_ pr (Vakepb.lost pr m gn) : Nat) : Int)) H'
theorem sc_Reached_lost_size : FnScope ["self", "mode", "left"] ["self", "mode", "left"] (defScope s_Reached_lost_size) := ⟨rfl, rfl, rfl, by decide +kernel, rfl, by decide +kernel, by decide +kernel⟩
theorem ok_Reached_lost_size (T : Tx K mg) : FK P w K mg base CX0 (11) (He.ma K (He.ga K "Reached") "lost_size") ["self", "mode", "left"] (spLostSize P w K) := by
  obtain ⟨fd, F⟩ := T.f_Reached_lost_size
  obtain ⟨fd0, G0, b0, k0⟩ := ok_Reached_size_of (P := P) (w := w) (base := base) T
  obtain ⟨fd1, G1, b1, k1⟩ := ok_Reached_lost (P := P) (w := w) (base := base) T
  refine ⟨fd, F.ok sc_Reached_lost_size (fun vs H Q E h => Sp3.len h) (fun cdv A outer s H vs Q E hr h => ?body), F.bindsN (fun _ _ _ _ _ _ us hl => match us, hl with | [_, _, _], _ => rfl), F.kp⟩
  refine ⟨_, PSs.nox (pss_one (ps_ret (pe_meth (pv 0) T.c_Reached T.me_Reached_size_of G0 (hr.mono (by first | decide | omega)) b0 .nil pass0 (pa_cons (pe_meth (pv 0) T.c_Reached T.me_Reached_lost G1 (hr.mono (by first | decide | omega)) b1 .nil pass0 (pa_cons (pv 1) (pa_cons (pv 2) pa_nil))) pa_nil)))), ?_⟩
  obtain ⟨_, _, _, rfl, pr, G, r, p, kn, es, m, l, gn, rfl, rfl, rfl, h, hok, hl, kk⟩ := h
  obtain ⟨dx, ts, br, hr1, hts, hbr⟩ := h.fix.ins
  have hn := h.fix.good.nparts
  refine ⟨_, rfl, r, dx, _, rfl, h.same _ _ hr1, n_Reached_size_of, ?_⟩
  refine ⟨_, rfl, r, dx, _, rfl, h.same _ _ hr1, n_Reached_lost, _, rfl, _, rfl, _, _, _, rfl, pr, G, r, p, kn, es, m, l, gn, rfl, rfl, rfl, h, hok, hl, fun q1 H1 es1 h1 n1 k1 hq1 => ?_⟩
  refine ⟨_, _, rfl, pr, G, r, p, kn, es1, q1, _, rfl, rfl, h1, hq1, lost_lt m gn, by have := lost_few (pr := pr) m gn; omega, fun H2 e2 => ?_⟩
  exact kk H2 es1 (h1.same' e2) n1 (Keep.trans k1 (Keep.of e2))
end
end Wk
set_option maxHeartbeats 2000000
namespace Wk
open PySem PySem.Spec PyProof.Rows L2
open Vakepa (Piece)
theorem for_enum {K : PySem.W.Frag} {a : Addr} {xs : List V} {g : TG} {tb : TS} {D : Ends} {σ : L2.St} {H : Hp} (Pv : Nat → L2.St → Hp → Prop) (h0 : Pv 0 σ H) (hl : ∀ i σ H, i ≤ xs.length → Pv i σ H → SqL K H a xs)
    (hs : ∀ (i : Nat) (x : V) (σ : L2.St) (H : Hp) (t : Addr), xs[i]? = some x → Pv i σ H → H t = none → g (.ref t) σ (upd H t (.tup [.int (i : Nat), x])) fun σ2 H2 => tb { D with nx := Pv (i + 1), ct := Pv (i + 1), bk := D.nx } σ2 H2) (hd : ∀ σ H, Pv xs.length σ H → D.nx σ H) :
    ∃ W : Nat → Nat → L2.St → Hp → Prop, (∃ m, W 0 m σ H) ∧ ∀ i m σ H, W i m σ H →
      ((Ite K a).stop i H ∧ D.nx σ H) ∨ ((Ite K a).go i H ∧ ∃ N : L2.St → Hp → Prop, (∀ σ' H', N σ' H' → ∃ m', m' < m ∧ W (i + 1) m' σ' H') ∧ ∀ x H', (Ite K a).yld i H x H' → g x σ H' fun σ2 H2 => tb { D with nx := N, ct := N, bk := D.nx } σ2 H2) := by
  refine ⟨fun i m σ H => m = xs.length - i ∧ i ≤ xs.length ∧ Pv i σ H, ⟨xs.length, by simp, Nat.zero_le _, h0⟩, ?_⟩
  rintro i m σ H ⟨rfl, hi, p⟩
  have q := hl i σ H hi p
  by_cases hlt : i < xs.length
  · refine .inr ⟨⟨xs, xs[i], q, by simp [hlt]⟩, Pv (i + 1), fun σ' H' p' => ⟨xs.length - (i + 1), by omega, rfl, hlt, p'⟩, fun x H' y => ?_⟩
    obtain ⟨t, z, rfl, ht, rfl, y⟩ := y
    exact hs i z σ _ t (y xs q) p ht
  · have e : i = xs.length := by omega
    subst e
    exact .inl ⟨⟨xs, q, Nat.le_refl _⟩, hd σ H p⟩
/-- an assignment and a chain, or None -/
def BestV (H : Hp) (v : V) : Option (Nat × List Nat) → Prop
  | none => v = .non
  | some (i, c) => ∃ t a, v = .ref t ∧ H t = some (.tup [.int (i : Nat), .ref a]) ∧ H a = some (.lst (natL c))
theorem BestV.same {H H' : Hp} (e : Same H H') {v : V} : ∀ {b : Option (Nat × List Nat)}, BestV H v b → BestV H' v b
  | none, h => h
  | some (_, _), ⟨t, a, x, y, z⟩ => ⟨t, a, x, e _ _ y, e _ _ z⟩
def bestF (pr : Vakepa.Prog) (goal : Nat) (b : Option (Nat × List Nat)) (t : Vakepb.Next × Nat) : Option (Nat × List Nat) := match Vakepb.chainIn pr t.1 goal, b with
  | none, b => b
  | some c, none => some (t.2, c)
  | some c, some x => if c.length < x.2.length then some (t.2, c) else some x
theorem chainOf_0 (pr : Vakepa.Prog) (goal : Nat) : Vakepb.chainOf pr 0 goal = ((tabsBy pr).zipIdx).foldl (bestF pr goal) none := rfl
theorem chainOf_1 (pr : Vakepa.Prog) (goal : Nat) : Vakepb.chainOf pr 1 goal = bestF pr goal none (Vakepb.nextAny pr, 0) := rfl
section
variable {P : Program} {w : World} {K : PySem.W.Frag} {mg : Str → Option Value} {base : Heap}
def spRcChain (P : Program) (w : World) (K : PySem.W.Frag) : Sp := Sp3 fun s x y H Q _ => ∃ pr G r p kn es m k, s = .ref r ∧ x = .int (m : Nat) ∧ y = .int (k : Nat) ∧ RcAt P w K pr G H r p kn es ∧ m ≤ 1 ∧
  ∀ v H', Same H H' → BestV H' v (Vakepb.chainOf pr m k) → Q v H'
theorem sc_Reached_chain : FnScope ["self", "mode", "goal", "chain", "best", "number", "table"] ["self", "mode", "goal"] (defScope s_Reached_chain) := ⟨rfl, rfl, rfl, by decide +kernel, rfl, by decide +kernel, by decide +kernel⟩
theorem ok_Reached_chain (T : Tx K mg) : FK P w K mg base CX0 (2) (He.ma K (He.ga K "Reached") "chain") ["self", "mode", "goal"] (spRcChain P w K) := by
  obtain ⟨fd, F⟩ := T.f_Reached_chain
  obtain ⟨fd0, G0, b0, k0⟩ := ok_shortest_chain (P := P) (w := w) (base := base) T
  refine ⟨fd, F.ok sc_Reached_chain (fun vs H Q E h => Sp3.len h) (fun cdv A outer s H vs Q E hr h => ?body), F.bindsN (fun _ _ _ _ _ _ us hl => match us, hl with | [_, _, _], _ => rfl), F.kp⟩
  refine ⟨_, PSs.nox (pss_cons (ps_if (pt_cmpR op_eq (pv 1) (C8.pe_gc rfl T.k_BY_BRANCHES) (nomark _)) (pss_cons (ps_set (i := 3) sc_Reached_chain.nd rfl (.inl rfl) (pe_call G0 (hr.mono (by first | decide | omega)) rfl T.g_shortest_chain k0 b0 .nil pass0 (pa_cons (pe_fld (pv 0) rfl) (pa_cons (pe_fld (pe_fld (pv 0) rfl) rfl) (pa_cons (pv 2) pa_nil)))) (hf := (.inr rfl)))
      (pss_one (ps_ret (pe_ifExp (pt_cmpR op_isN (pv 3) pe_non (nomark _)) pe_non (pe_tup (pa_cons pe_int (pa_cons (pv 3) pa_nil))))))) pss_nil)
      (pss_cons (ps_set (i := 4) sc_Reached_chain.nd rfl (.inl rfl) pe_non (hf := (.inr rfl)))
      (pss_cons (ps_for PassesOwn.never rfl (pi_enum rfl T.n_enumerate (pa_cons (pe_fld (pv 0) rfl) pa_nil)) (pg_tup (n := 2) rfl (pgs_cons (pg_name (i := 5) sc_Reached_chain.nd rfl (.inl rfl) (.inr rfl)) (pgs_cons (pg_name (i := 6) sc_Reached_chain.nd rfl (.inl rfl) (.inr rfl)) pgs_nil))) (pss_cons (ps_set (i := 3) sc_Reached_chain.nd rfl (.inl rfl) (pe_call G0 (hr.mono (by first | decide | omega)) rfl T.g_shortest_chain k0 b0 .nil pass0 (pa_cons (pv 6) (pa_cons (pe_fld (pe_fld (pv 0) rfl) rfl) (pa_cons (pv 2) pa_nil)))) (hf := (.inr rfl)))
      (pss_one (ps_if (PW.pt (pw_and (pt_cmpR op_notN (pv 3) pe_non (nomark _)) (pw_and1 (PW.pt (pw_or (pt_cmpR op_isN (pv 4) pe_non (nomark _)) (pw_or1 (pt_cmpR op_lt (pe_callB call_lenK rfl T.n_len boot_len (pa_cons (pv 3) pa_nil)) (pe_callB call_lenK rfl T.n_len boot_len (pa_cons (pe_ix ix_tup (pv 4) pe_int (fun _ _ => rfl)) pa_nil)) (nomark _)))))))) (pss_one (ps_set (i := 4) sc_Reached_chain.nd rfl (.inl rfl) (pe_tup (pa_cons (pv 5) (pa_cons (pv 3) pa_nil))) (hf := (.inr rfl)))) pss_nil))))
      (pss_one (ps_ret (pv 4)))))), ?_⟩
  obtain ⟨_, _, _, rfl, pr, G, r, p, kn, es, m, goal, rfl, rfl, rfl, h, hm, kk⟩ := h
  obtain ⟨⟨dx, ts, br, hr1, hts, hbr⟩, hP, g, gk⟩ := h.fix
  have sm := h.same
  obtain ⟨dx2, ls, lp, le, vs, ws, hp⟩ := id hP
  have hn := g.nparts
  refine ⟨_, rfl, rfl, _, rfl, ?_⟩
  show if decide (V.int (m : Int) = V.int 1) = true then _ else _
  by_cases m1 : m = 1
  · subst m1
    refine ⟨_, rfl, r, _, dx, _, _, rfl, sm _ _ hr1, T.c_Reached, T.na_Reached_branches, l_Reached_branches, ?_⟩
    refine ⟨_, rfl, r, _, dx, _, _, rfl, sm _ _ hr1, T.c_Reached, T.na_Reached_program, l_Reached_program, p, _, dx2, _, _, rfl, sm _ _ hp.ins, T.c_Program, T.na_Program_entries, l_Program_entries, ?_⟩
    refine ⟨_, rfl, _, _, _, rfl, br, le, _, pr.starts, goal, pr.parts.length, rfl, rfl, rfl, hbr.same sm, sm _ _ hp.el, nextAny_length, hn, nextAny_lt, g.starts.2, g.starts.1, fun v H1 e1 hv => ?_⟩
    rw [chainOf_1] at kk
    unfold bestF at kk
    have ec : Vakepb.chainIn pr (Vakepb.nextAny pr) goal = Vakepb.chainBy (Vakepb.nextAny pr) goal (pr.parts.length + 1) pr.starts (pr.starts.map fun e => [e]) := rfl
    rw [← ec] at hv
    refine ⟨_, rfl, rfl, _, rfl, ?_⟩
    show if decide (v = .non) = true then _ else _
    cases hc : Vakepb.chainIn pr (Vakepb.nextAny pr) goal with
    | none =>
      rw [hc] at hv
      have ev : v = .non := hv
      subst ev
      refine kk _ H1 e1 ?_
      simp only [hc]
      rfl
    | some c =>
      rw [hc] at hv
      obtain ⟨a, rfl, ha⟩ := hv
      refine ⟨_, rfl, by show 2 ≤ sizeLine; decide, fun q hq => ?_⟩
      refine kk _ _ (Same.trans e1 (Same.new hq)) ?_
      simp only [hc]
      exact ⟨q, a, rfl, upd_same, (Same.new hq) _ _ ha⟩
  · have m0 : m = 0 := by omega
    subst m0
    rw [if_neg (by decide)]
    obtain ⟨tvs, ht1, htp⟩ := hts
    rw [chainOf_0] at kk
    refine ⟨_, rfl, r, _, dx, _, _, rfl, sm _ _ hr1, T.c_Reached, T.na_Reached_tables, l_Reached_tables, ts, tvs, rfl, SqL.of (sm _ _ ht1), ?_⟩
    refine for_enum (K := K) (a := ts) (xs := tvs) (fun i σ H' => ∃ a b x y, σ = [some (.ref r), some (.int ((0 : Nat) : Int)), some (.int (goal : Nat)), a, some b, x, y] ∧ Same H H' ∧ BestV H' b (((tabsBy pr).zipIdx.take i).foldl (bestF pr goal) none))
      ⟨none, .non, none, none, rfl, Same.refl _, rfl⟩ (fun i σ H' _ ⟨_, _, _, _, _, e, _⟩ => SqL.of (e _ _ (sm _ _ ht1))) ?_ ?_
    · rintro i x σ H2 tt hx ⟨a, b, u1, u2, rfl, e2, hb⟩ htt
      obtain ⟨tb, htb, t, rfl, hrow⟩ := Paired.at_ htp hx
      have hi : i < Vakepa.total pr := by
        have := (List.getElem?_eq_some_iff.mp htb).1
        unfold tabsBy at this
        simpa using this
      have ey : tb = Vakepb.nextBy pr i := by
        unfold tabsBy at htb
        rw [List.getElem?_map, List.getElem?_range hi] at htb
        exact (Option.some.inj htb).symm
      have hz : (tabsBy pr).zipIdx[i]? = some (tb, i) := by
        rw [List.getElem?_zipIdx, htb]
        simp
      rw [take_more hz, List.foldl_append]
      generalize ((tabsBy pr).zipIdx.take i).foldl (bestF pr goal) none = bst at hb ⊢
      have e3 : Same H2 (upd H2 tt (.tup [.int (i : Nat), .ref t])) := Same.new htt
      refine ⟨tt, _, rfl, SqT.of upd_same, rfl, _, _, rfl, _, _, rfl, rfl, ?_⟩
      generalize upd H2 tt (.tup [.int (i : Nat), .ref t]) = H3 at e3
      have eH3 := Same.trans e2 e3
      have eG3 := Same.trans sm eH3
      refine ⟨_, rfl, _, rfl, r, _, dx, _, _, rfl, eG3 _ _ hr1, T.c_Reached, T.na_Reached_program, l_Reached_program, p, _, dx2, _, _, rfl, eG3 _ _ hp.ins, T.c_Program, T.na_Program_entries, l_Program_entries, ?_⟩
      subst ey
      refine ⟨_, rfl, _, _, _, rfl, t, le, _, pr.starts, goal, pr.parts.length, rfl, rfl, rfl, hrow.same eG3, eG3 _ _ hp.el, nextBy_len i, hn, nextBy_lt i, g.starts.2, g.starts.1, fun v H4 e4 hv => ?_⟩
      have ec : Vakepb.chainIn pr (Vakepb.nextBy pr i) goal = Vakepb.chainBy (Vakepb.nextBy pr i) goal (pr.parts.length + 1) pr.starts (pr.starts.map fun e => [e]) := rfl
      rw [← ec] at hv
      have eH4 := Same.trans eH3 e4
      have hb4 := (hb.same e3).same e4
      have efold : [(Vakepb.nextBy pr i, i)].foldl (bestF pr goal) bst = bestF pr goal bst (Vakepb.nextBy pr i, i) := rfl
      rw [efold]
      unfold bestF
      refine ⟨_, rfl, rfl, _, rfl, ?_⟩
      show if (!decide (v = .non)) = true then _ else _
      cases hc : Vakepb.chainIn pr (Vakepb.nextBy pr i) goal with
      | none =>
        rw [hc] at hv
        have ev : v = .non := hv
        subst ev
        simp only
        exact ⟨_, b, _, _, rfl, eH4, hb4⟩
      | some c =>
        rw [hc] at hv
        obtain ⟨a', rfl, ha⟩ := hv
        refine ⟨_, rfl, rfl, _, rfl, ?_⟩
        show if decide (b = .non) = true then _ else _
        cases bst with
        | none =>
          have eb : b = .non := hb4
          subst eb
          refine ⟨_, rfl, _, rfl, by show 2 ≤ sizeLine; decide, fun q hq => ?_⟩
          exact ⟨_, _, _, _, rfl, Same.trans eH4 (Same.new hq), q, a', rfl, upd_same, (Same.new hq) _ _ ha⟩
        | some ic =>
          obtain ⟨j, cb⟩ := ic
          obtain ⟨tq, aq, rfl, htq, haq⟩ := hb4
          rw [show decide (V.ref tq = V.non) = false from rfl]
          refine ⟨_, rfl, a', _, rfl, .inl (SqL.of ha), _, rfl, tq, _, _, _, rfl, rfl, SqT.of htq, (atI_n (j := 1) rfl), aq, _, rfl, .inl (SqL.of haq), _, _, rfl, rfl, _, rfl, ?_⟩
          show if decide (((natL c).length : Int) < ((natL cb).length : Int)) = true then _ else _
          rw [natL_len, natL_len]
          by_cases hlt : c.length < cb.length
          · rw [if_pos (decide_eq_true (by omega))]
            simp only [hlt, if_true]
            refine ⟨_, rfl, _, rfl, by show 2 ≤ sizeLine; decide, fun q hq => ?_⟩
            exact ⟨_, _, _, _, rfl, Same.trans eH4 (Same.new hq), q, a', rfl, upd_same, (Same.new hq) _ _ ha⟩
          · rw [if_neg fun z => hlt (by have := of_decide_eq_true z; omega)]
            simp only [hlt, if_false]
            exact ⟨_, _, _, _, rfl, eH4, tq, aq, rfl, htq, haq⟩
    · rintro σ H2 ⟨a, b, u1, u2, rfl, e2, hb⟩
      refine ⟨_, rfl, kk b H2 e2 ?_⟩
      have hl : tvs.length = (tabsBy pr).zipIdx.length := by rw [Paired.length htp, List.length_zipIdx]
      rw [hl, List.take_length] at hb
      exact hb
theorem ne_dec (a b : Nat) : (!decide (V.int (a : Int) = V.int (b : Int))) = (a != b) := by
  by_cases h : a = b
  · subst h
    simp
  · rw [decide_eq_false fun z => h (by have := V.int.inj z; omega)]
    exact (bne_iff_ne.mpr h).symm
def spAround (P : Program) (w : World) (K : PySem.W.Frag) : Sp := Sp3 fun s x y H Q _ => ∃ pr G r p kn es k goal, s = .ref r ∧ x = .int (k : Nat) ∧ y = .int (goal : Nat) ∧ RcAt P w K pr G H r p kn es ∧
  ∀ v H', Same H H' → ChV H' v (Vakepb.around pr k goal) → Q v H'
theorem sc_Reached_chain_around : FnScope ["self", "left", "goal", "table", "row", "number", "entry"] ["self", "left", "goal"] (defScope s_Reached_chain_around) := ⟨rfl, rfl, rfl, by decide +kernel, rfl, by decide +kernel, by decide +kernel⟩
theorem ok_Reached_chain_around (T : Tx K mg) : FK P w K mg base CX0 (2) (He.ma K (He.ga K "Reached") "chain_around") ["self", "left", "goal"] (spAround P w K) := by
  obtain ⟨fd, F⟩ := T.f_Reached_chain_around
  obtain ⟨fd0, G0, b0, k0⟩ := ok_shortest_chain (P := P) (w := w) (base := base) T
  refine ⟨fd, F.ok sc_Reached_chain_around (fun vs H Q E h => Sp3.len h) (fun cdv A outer s H vs Q E hr h => ?body), F.bindsN (fun _ _ _ _ _ _ us hl => match us, hl with | [_, _, _], _ => rfl), F.kp⟩
  refine ⟨_, PSs.nox (pss_cons (ps_setLc (i := 3) (own := [("row", 4)]) rfl sc_Reached_chain_around.nd rfl rfl (sw_true rfl rfl rfl (by decide +kernel)) (pi_list (pe_fld (pv 0) rfl)) (blkOk_by (own := [("row", 4)]) (N := ["self", "left", "goal", "table", "row", "number", "entry"]) (sc := defScope s_Reached_chain_around) (by decide +kernel)) (fun _ _ _ _ _ => (pg_name (i := 4) sc_Reached_chain_around.nd rfl (.inl rfl) (.inr rfl))) (fun _ _ _ _ _ => pts_nil) (fun _ _ _ _ _ => (show PE _ _ (tLc _ _ _ _ _) from by exact (pe_lc (own := [("number", 5)]) rfl sc_Reached_chain_around.nd (show PI _ _ _ (iList K _) from by exact (pi_list (pv 4))) (blkOk_by (own := [("number", 5)]) (N := ["self", "left", "goal", "table", "row", "number", "entry"]) (sc := ({ kind := .function, names := [(".0", .local), ("row", .local), ("left", .cell)], isGenerator := false, isCoroutine := false } : Scope)) (by decide +kernel)) (fun _ _ _ _ _ => (pg_name (i := 5) sc_Reached_chain_around.nd rfl (.inl rfl) (.inr rfl))) (fun _ _ _ _ _ => (pts_one (pt_cmpR op_ne (pv 5) (pv 1) (nomark _)))) (fun _ _ _ _ _ => (pv 5))))))
      (pss_one (ps_ret (pe_call G0 (hr.mono (by first | decide | omega)) rfl T.g_shortest_chain k0 b0 .nil pass0 (pa_cons (pv 3) (pa_cons (pe_lc (own := [("entry", 6)]) rfl sc_Reached_chain_around.nd (pi_list (pe_fld (pe_fld (pv 0) rfl) rfl)) (blkOk_by (own := [("entry", 6)]) (N := ["self", "left", "goal", "table", "row", "number", "entry"]) (sc := defScope s_Reached_chain_around) (by decide +kernel)) (fun _ _ _ _ _ => (pg_name (i := 6) sc_Reached_chain_around.nd rfl (.inl rfl) (.inr rfl))) (fun _ _ _ _ _ => (pts_one (pt_cmpR op_ne (pv 6) (pv 1) (nomark _)))) (fun _ _ _ _ _ => (pv 6))) (pa_cons (pv 2) pa_nil))))))), ?_⟩
  obtain ⟨_, _, _, rfl, pr, G, r, p, kn, es, k, goal, rfl, rfl, rfl, h, kk⟩ := h
  obtain ⟨⟨dx, ts, br, hr1, hts, hbr⟩, hP, g, gk⟩ := h.fix
  have sm := h.same
  obtain ⟨dx2, ls, lp, le, vs, ws, hp⟩ := id hP
  have hn := g.nparts
  obtain ⟨bvs, hb1, hbp⟩ := hbr
  have hbl : bvs.length = pr.parts.length := by rw [Paired.length hbp, nextAny_length]
  refine ⟨_, rfl, r, _, dx, _, _, rfl, sm _ _ hr1, T.c_Reached, T.na_Reached_branches, l_Reached_branches, br, rfl, ⟨_, SqL.of (sm _ _ hb1)⟩, fun D hD => ?_⟩
  refine lc_rel (K := K) (xs := bvs) (m := (Vakepb.nextAny pr).map fun l => l.filter fun x => x != k) (F := RowD) RowD.keep (by rw [List.length_map, nextAny_length, hbl]) (SqL.of (sm _ _ hb1)) hD (szl (by omega)) (fun i x y H1 hx hy e1 ⟨acc, hacc⟩ Kt Kf kt => ?_) fun H1 tvs e1 hd1 hp1 => ?_
  · obtain ⟨row, hrow, a, rfl, ha⟩ := Paired.at_ hbp hx
    rw [List.getElem?_map, hrow] at hy
    have ey := Option.some.inj hy
    subst ey
    have ha1 := e1 _ _ (sm _ _ ha)
    have hrl : row.length ≤ 10 := by
      have : row ∈ Vakepb.nextAny pr := List.mem_of_getElem? hrow
      unfold Vakepb.nextAny at this
      obtain ⟨j, _, rfl⟩ := List.mem_map.mp this
      have := nodup_len (m := List.range pr.parts.length) (inOrder_nodup pr (Vakepa.callsAny pr (Vakepa.bodyOf pr j))) fun x hx => List.mem_range.mpr ((inOrder_mem _ _ _).mp hx).1
      rw [List.length_range] at this
      exact Nat.le_trans this hn
    refine ⟨rfl, _, rfl, a, rfl, ⟨_, SqL.of ha1⟩, fun D2 hD2 => ?_⟩
    refine lc_pure (K := K) (xs := natL row) (fun i => (row[i]?).bind fun x => if (x != k) = true then some (V.int (x : Int)) else none) (SqL.of ha1) hD2 (szl (by rw [natL_len]; omega)) (fun i x H2 hx e2 Kt Kf kt kf => ?_) fun H2 e2 hd2 => ?_
    · have hi : i < row.length := by have := (List.getElem?_eq_some_iff.mp hx).1; rwa [natL_len] at this
      rw [natL_at (List.getElem?_eq_getElem hi)] at hx
      have ex := Option.some.inj hx
      subst ex
      refine ⟨rfl, _, rfl, _, rfl, rfl, _, rfl, ?_⟩
      show if (!decide (V.int ((row[i] : Nat) : Int) = V.int (k : Int))) = true then _ else _
      rw [ne_dec]
      cases c : (row[i] != k) with
      | true => exact ⟨_, rfl, kt _ _ (by rw [List.getElem?_eq_getElem hi, Option.bind_some, if_pos c]) (Same.refl _)⟩
      | false => exact kf _ (by rw [List.getElem?_eq_getElem hi, Option.bind_some, if_neg (by rw [c]; exact Bool.false_ne_true)]) (Same.refl _)
    · rw [natL_len, picks_bind rfl, natL_filter] at hd2
      exact kt _ _ (RowL.off hacc hD2 hd2) e2
  have eG1 := Same.trans sm e1
  refine ⟨_, rfl, ?_⟩
  refine ⟨_, rfl, r, _, dx, _, _, rfl, eG1 _ _ hr1, T.c_Reached, T.na_Reached_program, l_Reached_program, p, _, dx2, _, _, rfl, eG1 _ _ hp.ins, T.c_Program, T.na_Program_entries, l_Program_entries, le, rfl, ⟨_, SqL.of (eG1 _ _ hp.el)⟩, fun D2 hD2 => ?_⟩
  refine lc_pure (K := K) (xs := natL pr.starts) (fun i => (pr.starts[i]?).bind fun x => if (x != k) = true then some (V.int (x : Int)) else none) (SqL.of (eG1 _ _ hp.el)) hD2 (szl (by have := g.nstarts; rw [natL_len]; omega)) (fun i x H2 hx e2 Kt Kf kt kf => ?_) fun H2 e2 hd2 => ?_
  · have hi : i < pr.starts.length := by have := (List.getElem?_eq_some_iff.mp hx).1; rwa [natL_len] at this
    rw [natL_at (List.getElem?_eq_getElem hi)] at hx
    have ex := Option.some.inj hx
    subst ex
    refine ⟨rfl, _, rfl, _, rfl, rfl, _, rfl, ?_⟩
    show if (!decide (V.int ((pr.starts[i] : Nat) : Int) = V.int (k : Int))) = true then _ else _
    rw [ne_dec]
    cases c : (pr.starts[i] != k) with
    | true => exact ⟨_, rfl, kt _ _ (by rw [List.getElem?_eq_getElem hi, Option.bind_some, if_pos c]) (Same.refl _)⟩
    | false => exact kf _ (by rw [List.getElem?_eq_getElem hi, Option.bind_some, if_neg (by rw [c]; exact Bool.false_ne_true)]) (Same.refl _)
  · rw [natL_len, picks_bind rfl, natL_filter] at hd2
    refine ⟨_, rfl, _, _, _, rfl, D, D2, (Vakepb.nextAny pr).map fun l => l.filter fun x => x != k, pr.starts.filter fun e => e != k, goal, pr.parts.length, rfl, rfl, rfl, (RowsAt.of hd1 hp1).same e2, hd2, by rw [List.length_map, nextAny_length], hn, fun j x hx => ?_, fun x hx => g.starts.2 x (List.mem_filter.mp hx).1, List.Pairwise.filter _ g.starts.1, fun v H3 e3 hv => ?_⟩
    · rw [List.getD_eq_getElem?_getD, List.getElem?_map] at hx
      refine nextAny_lt j x ?_
      rw [List.getD_eq_getElem?_getD]
      cases q : (Vakepb.nextAny pr)[j]? with
      | none => rw [q] at hx; cases hx
      | some l => rw [q] at hx; exact (List.mem_filter.mp hx).1
    · exact kk v H3 (Same.trans e1 (Same.trans e2 e3)) hv
def spHangs (P : Program) (w : World) (K : PySem.W.Frag) : Sp := Sp2 fun s x H Q _ => ∃ pr G r p kn es k, s = .ref r ∧ x = .int (k : Nat) ∧ RcAt P w K pr G H r p kn es ∧
  ∀ q H' es', RcAt P w K pr G H' r p kn es' → NewE H es es' → Keep kn H H' → H' q = some (.lst (natL (hangs pr k))) → Q (.ref q) H'
theorem sc_Reached_hangs_on : FnScope ["self", "number", "others", "k"] ["self", "number"] (defScope s_Reached_hangs_on) := ⟨rfl, rfl, rfl, by decide +kernel, rfl, by decide +kernel, by decide +kernel⟩
theorem ok_Reached_hangs_on (T : Tx K mg) : FK P w K mg base CX0 (11) (He.ma K (He.ga K "Reached") "hangs_on") ["self", "number"] (spHangs P w K) := by
  obtain ⟨fd, F⟩ := T.f_Reached_hangs_on
  obtain ⟨fd0, G0, b0, k0⟩ := ok_Reached_lost (P := P) (w := w) (base := base) T
  refine ⟨fd, F.ok sc_Reached_hangs_on (fun vs H Q E h => Sp2.len h) (fun cdv A outer s H vs Q E hr h => ?body), F.bindsN (fun _ _ _ _ _ _ us hl => match us, hl with | [_, _], _ => rfl), F.kp⟩
  refine ⟨_, PSs.nox (pss_cons (ps_setLc (i := 2) (own := [("k", 3)]) rfl sc_Reached_hangs_on.nd rfl rfl (sw_true rfl rfl rfl (by decide +kernel)) (pi_range1 rfl T.n_range (pa_cons (pe_callB call_lenK rfl T.n_len boot_len (pa_cons (pe_fld (pe_fld (pv 0) rfl) rfl) pa_nil)) pa_nil)) (blkOk_by (own := [("k", 3)]) (N := ["self", "number", "others", "k"]) (sc := defScope s_Reached_hangs_on) (by decide +kernel)) (fun _ _ _ _ _ => (pg_name (i := 3) sc_Reached_hangs_on.nd rfl (.inl rfl) (.inr rfl))) (fun _ _ _ _ _ => (pts_one (pt_cmpR op_ne (pv 3) (pv 1) (nomark _)))) (fun _ _ _ _ _ => (pv 3)))
      (pss_one (ps_ret (pe_lc (own := [("k", 3)]) rfl sc_Reached_hangs_on.nd (pi_list (pv 2)) (blkOk_by (own := [("k", 3)]) (N := ["self", "number", "others", "k"]) (sc := defScope s_Reached_hangs_on) (by decide +kernel)) (fun _ _ _ _ _ => (pg_name (i := 3) sc_Reached_hangs_on.nd rfl (.inl rfl) (.inr rfl))) (fun _ _ _ _ _ => (pts_one (show PT _ _ (tTest (tOp (rIn K false) _ _)) from by exact (pt_cmpR op_in_seq (pv 1) (pe_meth (pv 0) T.c_Reached T.me_Reached_lost G0 (hr.mono (by first | decide | omega)) b0 .nil pass0 (pa_cons (C8.pe_gc rfl T.k_BY_BRANCHES) (pa_cons (pe_tup (pa_cons (pv 3) pa_nil)) pa_nil))) rfl)))) (fun _ _ _ _ _ => (pv 3)))))), ?_⟩
  obtain ⟨_, _, rfl, pr, G, r, p, kn, es, k, rfl, rfl, h, kk⟩ := h
  obtain ⟨⟨dx, ts, br, hr1, hts, hbr⟩, hP, g, gk⟩ := h.fix
  have sm := h.same
  obtain ⟨dx2, ls, lp, le, vs, ws, hp⟩ := id hP
  have hn := g.nparts
  have hwl : ws.length = pr.parts.length := Paired.length hp.parts
  refine ⟨_, rfl, r, _, dx, _, _, rfl, sm _ _ hr1, T.c_Reached, T.na_Reached_program, l_Reached_program, p, _, dx2, _, _, rfl, sm _ _ hp.ins, T.c_Program, T.na_Program_parts, l_Program_parts, lp, ws, rfl, .inl (SqL.of (sm _ _ hp.pl)), ?_⟩
  refine ⟨_, rfl, by omega, by omega, fun D hD => ?_⟩
  have hN : ((ws.length : Int)).toNat = pr.parts.length := by omega
  rw [hN]
  refine lc_pureR (fun i => if (i != k) = true then some (V.int (i : Int)) else none) hD (szl (by omega)) (fun i H1 hi e Kt Kf kt kf => ?_) fun H1 e1 hd1 => ?_
  · refine ⟨rfl, _, rfl, _, rfl, rfl, _, rfl, ?_⟩
    rw [Int.zero_add]
    show if (!decide (V.int (i : Int) = V.int (k : Int))) = true then _ else _
    rw [ne_dec]
    cases c : (i != k) with
    | true =>
      exact ⟨_, rfl, kt _ _ (if_pos c) (Same.refl _)⟩
    | false => exact kf _ (if_neg (by rw [c]; exact Bool.false_ne_true)) (Same.refl _)
  have hd1' : H1 D = some (.lst (natL ((List.range pr.parts.length).filter fun x => x != k))) := by
    rw [hd1]
    unfold picks
    rw [natL_filter]
  have hol : ((List.range pr.parts.length).filter fun x => x != k).length ≤ 10 := Nat.le_trans (List.length_filter_le _ _) (by rw [List.length_range]; exact hn)
  have holt : ∀ x ∈ ((List.range pr.parts.length).filter fun x => x != k), x < pr.parts.length := fun x hx => List.mem_range.mp (List.mem_filter.mp hx).1
  rw [hangs_eq] at kk
  generalize ((List.range pr.parts.length).filter fun x => x != k) = oth at hd1' hol holt kk
  have h1 := h.same' e1
  refine ⟨_, rfl, D, rfl, ⟨_, SqL.of hd1'⟩, fun D2 hD2 => ?_⟩
  refine lc_st (K := K) (xs := natL oth) (fun i => (oth[i]?).bind fun x => if (Vakepb.lost pr 1 [x]).contains k = true then some (V.int (x : Int)) else none) h1 hd1' hD2 (szl (by rw [natL_len]; omega)) (fun i x H2 es2 hx h2 k2 Kt Kf kt kf => ?_) fun H2 es2 h2 n2 o2 k2 hd2 => ?_
  · have hi : i < oth.length := by have := (List.getElem?_eq_some_iff.mp hx).1; rwa [natL_len] at this
    rw [natL_at (List.getElem?_eq_getElem hi)] at hx
    have ex := Option.some.inj hx
    subst ex
    have hxn := holt _ (List.getElem_mem hi)
    refine ⟨rfl, _, rfl, _, rfl, r, dx, _, rfl, h2.same _ _ hr1, n_Reached_lost, _, rfl, by show 1 ≤ sizeLine; decide, fun q hq => ?_⟩
    have e3 : Same H2 (upd H2 q (.tup [.int ((oth[i] : Nat) : Int)])) := Same.new hq
    refine ⟨_, _, _, rfl, pr, G, r, p, kn, es2, 1, q, [oth[i]], rfl, rfl, rfl, h2.same' e3, ⟨by decide, by show 1 ≤ 2; decide, fun x hx => by rw [List.mem_singleton.mp hx]; exact hxn⟩, upd_same, fun q4 H4 es4 h4 n4 k4 hq4 => ?_⟩
    have n24 : NewE H2 es2 es4 := NewE.trans (Keep.of (D := kn) e3) ⟨_, (h2.same' e3).known⟩ NewE.refl n4
    have k24 := Keep.trans (Keep.of (D := kn) e3) k4
    refine ⟨q4, _, rfl, .inl (SqL.of hq4), rfl, natL_flat _, _, rfl, ?_⟩
    show if inV (.int (k : Int)) (natL (Vakepb.lost pr 1 [oth[i]])) = true then _ else _
    rw [inV_N]
    cases c : (Vakepb.lost pr 1 [oth[i]]).contains k with
    | true => exact ⟨_, rfl, kt _ _ es4 (by rw [List.getElem?_eq_getElem hi, Option.bind_some, if_pos c]) h4 n24 k24⟩
    | false => exact kf _ es4 (by rw [List.getElem?_eq_getElem hi, Option.bind_some, if_neg (by rw [c]; exact Bool.false_ne_true)]) h4 n24 k24
  · rw [natL_len, picks_bind rfl, natL_filter (fun x => (Vakepb.lost pr 1 [x]).contains k)] at hd2
    exact kk D2 H2 es2 h2 (NewE.trans (Keep.of (D := kn) e1) ⟨_, h1.known⟩ NewE.refl n2) (Keep.trans (Keep.of e1) k2) hd2
def clV : Option Nat → V
  | none => .int (-1)
  | some k => .int (k : Int)
def spClosest (P : Program) (w : World) (K : PySem.W.Frag) : Sp := Sp2 fun s x H Q _ => ∃ pr G r p kn es k, s = .ref r ∧ x = .int (k : Nat) ∧ RcAt P w K pr G H r p kn es ∧
  ∀ H' es', RcAt P w K pr G H' r p kn es' → NewE H es es' → Keep kn H H' → Q (clV (Vakepb.closest pr k)) H'
theorem sc_Reached_closest : FnScope ["self", "number", "some", "k", "other"] ["self", "number"] (defScope s_Reached_closest) := ⟨rfl, rfl, rfl, by decide +kernel, rfl, by decide +kernel, by decide +kernel⟩
theorem ok_Reached_closest (T : Tx K mg) : FK P w K mg base CX0 (12) (He.ma K (He.ga K "Reached") "closest") ["self", "number"] (spClosest P w K) := by
  obtain ⟨fd, F⟩ := T.f_Reached_closest
  obtain ⟨fd0, G0, b0, k0⟩ := ok_Reached_hangs_on (P := P) (w := w) (base := base) T
  refine ⟨fd, F.ok sc_Reached_closest (fun vs H Q E h => Sp2.len h) (fun cdv A outer s H vs Q E hr h => ?body), F.bindsN (fun _ _ _ _ _ _ us hl => match us, hl with | [_, _], _ => rfl), F.kp⟩
  refine ⟨_, PSs.nox (pss_cons (ps_set (i := 2) sc_Reached_closest.nd rfl (.inl rfl) (pe_meth (pv 0) T.c_Reached T.me_Reached_hangs_on G0 (hr.mono (by first | decide | omega)) b0 .nil pass0 (pa_cons (pv 1) pa_nil)) (hf := (.inr rfl)))
      (pss_cons (ps_for PassesOwn.never rfl (pi_list (pv 2)) (pg_name (i := 3) sc_Reached_closest.nd rfl (.inr rfl) (.inl rfl)) (pss_one (ps_if (pt_val (pe_callB (cr_all rfl) rfl T.n_all (by decide +kernel) (pa_cons (pe_lc (own := [("other", 4)]) rfl sc_Reached_closest.nd (pi_list (pv 2)) (blkOk_by (own := [("other", 4)]) (N := ["self", "number", "some", "k", "other"]) (sc := defScope s_Reached_closest) (by decide +kernel)) (fun _ _ _ _ _ => (pg_name (i := 4) sc_Reached_closest.nd rfl (.inl rfl) (.inr rfl))) (fun _ _ _ _ _ => pts_nil) (fun _ _ _ _ _ => (pe_or (pe_cmpR op_eq (pv 4) (pv 3) (nomark _)) (pe_one (show PE _ _ (tOp (rIn K false) _ _) from by exact (pe_cmpR op_in_seq (pv 4) (pe_meth (pv 0) T.c_Reached T.me_Reached_hangs_on G0 (hr.mono (by first | decide | omega)) b0 .nil pass0 (pa_cons (pv 3) pa_nil)) rfl)))))) pa_nil))) (pss_one (ps_ret (pv 3))) pss_nil)))
      (pss_one (ps_ret (pe_un un_neg pe_int))))), ?_⟩
  obtain ⟨_, _, rfl, pr, G, r, p, kn, es, k, rfl, rfl, h, kk⟩ := h
  obtain ⟨⟨dx, ts, br, hr1, hts, hbr⟩, hP, g, gk⟩ := h.fix
  have sm := h.same
  have hn := g.nparts
  rw [closest_eq g] at kk
  refine ⟨_, rfl, r, dx, _, rfl, sm _ _ hr1, n_Reached_hangs_on, _, rfl, _, _, rfl, pr, G, r, p, kn, es, k, rfl, rfl, h, fun q H1 es1 h1 n1 k1 hq1 => ?_⟩
  have hhl : (hangs pr k).length ≤ 10 := by
    unfold hangs Vakepb.above
    refine Nat.le_trans (List.length_filter_le _ _) (Nat.le_trans (List.length_filter_le _ _) ?_)
    rw [List.length_range]
    exact hn
  generalize hl : hangs pr k = l at kk hq1 hhl
  refine ⟨_, rfl, q, rfl, ⟨_, SqL.of hq1⟩, ?_⟩
  refine for_list (K := K) (a := q) (xs := natL l) (fun i σ H' => ∃ a es', σ = [some (.ref r), some (.int (k : Nat)), some (.ref q), a, none] ∧ RcAt P w K pr G H' r p kn es' ∧ NewE H es es' ∧ Keep kn H1 H' ∧ (l.take i).find? (fun x => l.all fun y => (y == x || (hangs pr x).contains y)) = none)
    ⟨none, es1, rfl, h1, n1, fun _ _ h _ => h, rfl⟩ (fun i σ H' _ ⟨_, _, _, _, _, e, _⟩ => SqL.of (keep_lst e h1.known hq1)) ?_ ?_
  · rintro i x σ H2 hx ⟨a, es2, rfl, h2, n2, k2, hf⟩
    have hi : i < l.length := by have := (List.getElem?_eq_some_iff.mp hx).1; rwa [natL_len] at this
    have hli := List.getElem?_eq_getElem hi
    rw [natL_at hli] at hx
    have ex := Option.some.inj hx
    subst ex
    generalize l[i] = x at hli
    have hq2 := keep_lst k2 h1.known hq1
    refine ⟨_, rfl, q, rfl, ⟨_, SqL.of hq2⟩, fun D hD => ?_⟩
    refine lc_st (K := K) (xs := natL l) (fun j => (l[j]?).map fun y => V.bl (y == x || (hangs pr x).contains y)) h2 hq2 hD (szl (by rw [natL_len]; omega)) (fun j y H3 es3 hy h3 k3 Kt Kf kt kf => ?_) fun H3 es3 h3 n3 o3 k3 hd3 => ?_
    · have hj : j < l.length := by have := (List.getElem?_eq_some_iff.mp hy).1; rwa [natL_len] at this
      have hlj := List.getElem?_eq_getElem hj
      rw [natL_at hlj] at hy
      have ey := Option.some.inj hy
      subst ey
      generalize l[j] = y at hlj
      rw [hlj] at kt
      refine ⟨rfl, _, rfl, _, rfl, rfl, _, rfl, ?_⟩
      show if decide (V.int (y : Int) = V.int (x : Int)) = true then _ else _
      by_cases exy : y = x
      · subst exy
        rw [if_pos (decide_eq_true rfl)]
        refine kt _ _ es3 ?_ h3 NewE.refl fun _ _ h _ => h
        show some (V.bl _) = _
        rw [beq_self_eq_true, Bool.true_or]
      · rw [if_neg fun z => exy (by have := V.int.inj (of_decide_eq_true z); omega)]
        refine ⟨_, rfl, _, rfl, r, dx, _, rfl, h3.same _ _ hr1, n_Reached_hangs_on, _, rfl, _, _, rfl, pr, G, r, p, kn, es3, x, rfl, rfl, h3, fun q4 H4 es4 h4 n4 k4 hq4 => ?_⟩
        refine ⟨q4, _, rfl, .inl (SqL.of hq4), rfl, natL_flat _, ?_⟩
        refine kt _ _ es4 ?_ h4 n4 k4
        show some (V.bl _) = some (V.bl (inV (.int (y : Int)) (natL (hangs pr x))))
        rw [inV_N, beq_eq_false_iff_ne.mpr exy, Bool.false_or]
    · rw [natL_len, picks_at rfl] at hd3
      refine ⟨D, l.map fun y => (y == x || (hangs pr x).contains y), rfl, ?_, _, rfl, ?_⟩
      · rw [List.map_map]
        exact SqL.of hd3
      · have n23 : NewE H es es3 := NewE.trans (Keep.trans k1 k2) ⟨_, h2.known⟩ n2 n3
        have k13 := Keep.trans k2 k3
        rw [List.all_map]
        show if (l.all fun y => (y == x || (hangs pr x).contains y)) = true then _ else _
        cases hc : l.all fun y => (y == x || (hangs pr x).contains y) with
        | true =>
          refine ⟨_, rfl, ?_⟩
          have e : l.find? (fun x => l.all fun y => (y == x || (hangs pr x).contains y)) = some x := by
            have e1 : l = l.take (i + 1) ++ l.drop (i + 1) := (List.take_append_drop _ _).symm
            have e2 : (l.take (i + 1)).find? (fun x => l.all fun y => (y == x || (hangs pr x).contains y)) = some x := by
              rw [take_more hli, List.find?_append, hf, Option.none_or, List.find?_cons, hc]
            calc l.find? (fun x => l.all fun y => (y == x || (hangs pr x).contains y)) = (l.take (i + 1) ++ l.drop (i + 1)).find? (fun x => l.all fun y => (y == x || (hangs pr x).contains y)) := by rw [List.take_append_drop]
              _ = some x := by rw [List.find?_append, e2]; rfl
          rw [e] at kk
          exact kk H3 es3 h3 n23 (Keep.trans k1 k13)
        | false =>
          refine ⟨_, es3, rfl, h3, n23, k13, ?_⟩
          rw [take_more hli, List.find?_append, hf, Option.none_or, List.find?_cons, hc]
          rfl
  · rintro σ H2 ⟨a, es2, rfl, h2, n2, k2, hf⟩
    rw [natL_len, List.take_length] at hf
    rw [hf] at kk
    exact ⟨_, rfl, kk H2 es2 h2 n2 (Keep.trans k1 k2)⟩
end
end Wk
set_option maxHeartbeats 2000000
namespace Wk
open PySem PySem.Spec PyProof.Rows L2
open Vakepa (Piece)
theorem RowsAt.lists {H H' : Hp} (k : ∀ b xs, H b = some (.lst xs) → H' b = some (.lst xs)) {t : Addr} {tb : List (List Nat)} (h : RowsAt H t tb) : RowsAt H' t tb := let ⟨vs, x, y⟩ := h; ⟨vs, k _ _ x, Paired.mapP y fun _ _ ⟨a, x, y⟩ => ⟨a, x, k _ _ y⟩⟩
theorem TabsAt.lists {H H' : Hp} (k : ∀ b xs, H b = some (.lst xs) → H' b = some (.lst xs)) {t : Addr} {tbs : List (List (List Nat))} (h : TabsAt H t tbs) : TabsAt H' t tbs := let ⟨vs, x, y⟩ := h; ⟨vs, k _ _ x, Paired.mapP y fun _ _ ⟨t, x, y⟩ => ⟨t, x, y.lists k⟩⟩
/-- .. off one more list -/
def RowN (F D : Addr) (H : Hp) (v : V) (l : List Nat) : Prop := ∃ a, v = .ref a ∧ a ≠ D ∧ a ≠ F ∧ H a = some (.lst (natL l))
def TabN (F D : Addr) (H : Hp) (v : V) (tb : List (List Nat)) : Prop := ∃ t vs, v = .ref t ∧ t ≠ D ∧ t ≠ F ∧ H t = some (.lst vs) ∧ Paired (RowN F D H) vs tb
theorem TabN.keep (F : Addr) : FKeep (TabN F) := fun D H H' v x ⟨t, vs, e, n, m, h, p⟩ k => ⟨t, vs, e, n, m, k _ _ h n, Paired.mapP p fun _ _ ⟨a, e, n, m, h⟩ => ⟨a, e, n, m, k _ _ h n⟩⟩
theorem lists_del {H H' : Hp} {F : Addr} (k : ∀ b xs, H b = some (.lst xs) → H' b = some (.lst xs)) : ∀ b xs, del H F b = some (.lst xs) → del H' F b = some (.lst xs) := fun b xs hb => by
  by_cases z : b = F
  · rw [z, del_same] at hb; cases hb
  · rw [del_ne z] at hb ⊢
    exact k b xs hb
theorem TabN.at_ {F t : Addr} {H : Hp} {acc : List V} {tbs : List (List (List Nat))} (h : H t = some (.lst acc)) (n : t ≠ F) (p : Paired (TabN F t H) acc tbs) : TabsAt (del H F) t tbs :=
  ⟨acc, by rw [del_ne n]; exact h, Paired.mapP p fun _ _ ⟨a, vs, x, _, m, y, q⟩ => ⟨a, x, vs, by rw [del_ne m]; exact y, Paired.mapP q fun _ _ ⟨a, x, _, m, y⟩ => ⟨a, x, by rw [del_ne m]; exact y⟩⟩⟩
section
variable {P : Program} {w : World} {K : PySem.W.Frag} {mg : Str → Option Value} {base : Heap}
def spRcInit (P : Program) (w : World) (K : PySem.W.Frag) : Sp := Sp2 fun s x H Q _ => ∃ G0 pr p r dx F fl, s = .ref r ∧ x = .ref p ∧ H F = some (.lst fl) ∧ G0 F = none ∧ Same G0 H ∧ G0 r = none ∧ H r = some (.ins (cReached K) dx []) ∧ Pg K pr G0 p ∧ Good pr ∧
  ∀ H' G kn, Keep r H H' → RcAt P w K pr G H' r p kn [] → Same G0 G → G F = none → H kn = none → Q .non H'
theorem sc_Reached___init__ : FnScope ["self", "program", "numbers", "number"] ["self", "program"] (defScope s_Reached___init__) := ⟨rfl, rfl, rfl, by decide +kernel, rfl, by decide +kernel, by decide +kernel⟩
theorem ok_Reached___init__ (T : Tx K mg) : FK P w K mg base CX0 (10) (He.ma K (He.ga K "Reached") "__init__") ["self", "program"] (spRcInit P w K) := by
  obtain ⟨fd, F⟩ := T.f_Reached___init__
  obtain ⟨fd0, G0, b0, k0⟩ := ok_table_of_all (P := P) (w := w) (base := base) T
  obtain ⟨fd1, G1, b1, k1⟩ := ok_table_in (P := P) (w := w) (base := base) T
  obtain ⟨fd2, G2, b2, k2⟩ := ok_Program_assignment (P := P) (w := w) (base := base) T
  obtain ⟨fd3, G3, b3, k3⟩ := ok_Program_how_many_assignments (P := P) (w := w) (base := base) T
  refine ⟨fd, F.ok sc_Reached___init__ (fun vs H Q E h => Sp2.len h) (fun cdv A outer s H vs Q E hr h => ?body), F.bindsN (fun _ _ _ _ _ _ us hl => match us, hl with | [_, _], _ => rfl), F.kp⟩
  refine ⟨_, PSs.nox (pss_cons (ps_fld (pv 0) (pv 1) rfl)
      (pss_cons (ps_set (i := 2) sc_Reached___init__.nd rfl (.inl rfl) (pe_listRg rfl rfl T.n_list (prg_1 rfl T.n_range (pe_meth0 (pv 1) T.c_Program T.me_Program_how_many_assignments G3 (hr.mono (by first | decide | omega)) b3 .nil pass0))) (hf := (.inr rfl)))
      (pss_cons (ps_fld (pv 0) (pe_lc (own := [("number", 3)]) rfl sc_Reached___init__.nd (pi_list (pv 2)) (blkOk_by (own := [("number", 3)]) (N := ["self", "program", "numbers", "number"]) (sc := defScope s_Reached___init__) (by decide +kernel)) (fun _ _ _ _ _ => (pg_name (i := 3) sc_Reached___init__.nd rfl (.inl rfl) (.inr rfl))) (fun _ _ _ _ _ => pts_nil) (fun _ _ _ _ _ => (pe_call G1 (hr.mono (by first | decide | omega)) rfl T.g_table_in k1 b1 .nil pass0 (pa_cons (pv 1) (pa_cons (pe_meth (pv 1) T.c_Program T.me_Program_assignment G2 (hr.mono (by first | decide | omega)) b2 .nil pass0 (pa_cons (pv 3) pa_nil)) pa_nil))))) rfl)
      (pss_cons (ps_fld (pv 0) (pe_call G0 (hr.mono (by first | decide | omega)) rfl T.g_table_of_all k0 b0 .nil pass0 (pa_cons (pv 1) pa_nil)) rfl)
      (pss_one (ps_fld (pv 0) pe_newH rfl)))))), ?_⟩
  obtain ⟨_, _, rfl, G0, pr, p, r, dx, F, fl, rfl, rfl, hF, gF, sm, gr, hr0, hP, g, kk⟩ := h
  have nrF : F ≠ r := ne_of hF hr0 (fun z => nomatch z)
  obtain ⟨dx2, ls, lp, le, vs, ws, hp⟩ := id hP
  have hn := g.nparts
  have ht := g.tot
  refine ⟨_, rfl, _, rfl, r, _, dx, _, rfl, hr0, T.c_Reached, T.na_Reached_program, by decide, ?_⟩
  have hh1 : upd H r (.ins (cReached K) dx (putF "program" (.ref p) [])) r = some (.ins (cReached K) dx (putF "program" (.ref p) [])) := upd_same
  have s1 : Same G0 (upd H r (.ins (cReached K) dx (putF "program" (.ref p) []))) := L2.Same.mut sm gr
  have k1 : Keep r H (upd H r (.ins (cReached K) dx (putF "program" (.ref p) []))) := Keep.upd fun _ _ h _ => h
  have hF1 : upd H r (.ins (cReached K) dx (putF "program" (.ref p) [])) F = some (.lst fl) := k1 _ _ hF nrF
  generalize upd H r (.ins (cReached K) dx (putF "program" (.ref p) [])) = H1 at hh1 s1 k1 hF1
  refine ⟨_, rfl, p, dx2, _, rfl, s1 _ _ hp.ins, n_Program_how_many_assignments, _, rfl, p, pr.sets, rfl, (hP.same s1).setsAt, fun s hs => by have := g.vals s hs; omega, fun H2 e2 => ?_⟩
  refine ⟨_, rfl, RgOk.of_le (by decide) (by rw [tot_total]; omega) (by decide) (by omega), fun q hq => ?_⟩
  have e3 : Same H2 (upd H2 q (.lst (rgV 0 ((tot pr.sets : Nat) : Int)))) := Same.new hq
  have hq3 : upd H2 q (.lst (rgV 0 ((tot pr.sets : Nat) : Int))) q = some (.lst (rgV 0 ((tot pr.sets : Nat) : Int))) := upd_same
  have erg : rgV 0 ((tot pr.sets : Nat) : Int) = natL (List.range (Vakepa.total pr)) := by
    unfold rgV natL
    rw [tot_total]
    have : (((Vakepa.total pr : Nat) : Int) - 0).toNat = Vakepa.total pr := by omega
    rw [this]
    exact List.map_congr_left fun i _ => by rw [Int.zero_add]
  rw [erg] at e3 hq3 ⊢
  generalize upd H2 q (.lst (natL (List.range (Vakepa.total pr)))) = H3 at e3 hq3
  have e13 := Same.trans e2 e3
  have s3 := Same.trans s1 e13
  refine ⟨_, rfl, q, rfl, ⟨_, SqL.of hq3⟩, fun D hD => ?_⟩
  refine lc_rel (K := K) (xs := natL (List.range (Vakepa.total pr))) (m := tabsBy pr) (F := TabN F) (TabN.keep F) (by unfold tabsBy; rw [natL_len, List.length_map]) (SqL.of hq3) hD (szl (by rw [natL_len, List.length_range]; omega)) (fun i x y H4 hx hy e4 ⟨acc, hacc⟩ Kt Kf kt => ?_) fun H4 tvs e4 hd4 hp4 => ?_
  · have hi : i < Vakepa.total pr := by
      have := (List.getElem?_eq_some_iff.mp hx).1
      rwa [natL_len, List.length_range] at this
    rw [natL_at (List.getElem?_range hi)] at hx
    have ex := Option.some.inj hx
    subst ex
    have ey : y = Vakepb.nextBy pr i := by
      unfold tabsBy at hy
      rw [List.getElem?_map, List.getElem?_range hi] at hy
      exact (Option.some.inj hy).symm
    subst ey
    have s4 := Same.trans s3 e4
    refine ⟨rfl, _, rfl, ?_⟩
    refine ⟨_, rfl, p, dx2, _, rfl, s4 _ _ hp.ins, n_Program_assignment, _, rfl, _, _, rfl, p, pr.sets, i, rfl, rfl, (hP.same s4).setsAt, by have := g.nsets; omega, fun s hs => by have := g.vals s hs; omega, fun c H5 hc e5 hc5 => ?_⟩
    refine ⟨_, _, rfl, p, pr, c, Vakepa.valuesOf pr i, rfl, rfl, hP.same (Same.trans s4 e5), g, hc5, g.vok i, fun t H6 rows ht6 e6 ht6' hrows hnew => ?_⟩
    have hD5 := e5 _ _ hacc
    have hF5 := e5 _ _ (e4 _ _ (e13 _ _ hF1))
    refine kt _ _ ⟨t, rows, rfl, (ne_of_none hD5 ht6).symm, (ne_of_none hF5 ht6).symm, ht6', ?_⟩ (Same.trans e5 e6)
    have : ∀ {vs : List V} {tb : List (List Nat)}, Paired (RowD t H6) vs tb → (∀ x ∈ vs, ∃ a, x = .ref a ∧ H5 a = none) → Paired (RowN F D H6) vs tb := by
      intro vs tb hp
      induction hp with
      | nil => intro _; exact .nil
      | cons h q ih =>
        intro hx
        obtain ⟨a, rfl, _, ha⟩ := h
        obtain ⟨a', e', hn'⟩ := hx _ List.mem_cons_self
        cases e'
        exact .cons ⟨a, rfl, (ne_of_none hD5 hn').symm, (ne_of_none hF5 hn').symm, ha⟩ (ih fun x hx' => hx x (List.mem_cons_of_mem _ hx'))
    exact this hrows hnew
  have s4 := Same.trans s3 e4
  have e14 := Same.trans e13 e4
  have hF3 := e13 _ _ hF1
  have hF4 := e4 _ _ hF3
  have hT4 : TabsAt (del H4 F) D (tabsBy pr) := TabN.at_ hd4 (ne_of_none hF3 hD).symm hp4
  refine ⟨_, rfl, r, _, dx, _, rfl, e14 _ _ hh1, T.c_Reached, T.na_Reached_tables, by show 1 < 1000; decide, ?_⟩
  have hh5 : upd H4 r (.ins (cReached K) dx (putF "tables" (.ref D) (putF "program" (.ref p) []))) r = some (.ins (cReached K) dx (putF "tables" (.ref D) (putF "program" (.ref p) []))) := upd_same
  have s5 : Same G0 (upd H4 r (.ins (cReached K) dx (putF "tables" (.ref D) (putF "program" (.ref p) [])))) := L2.Same.mut s4 gr
  have k5 : Keep r H (upd H4 r (.ins (cReached K) dx (putF "tables" (.ref D) (putF "program" (.ref p) [])))) := Keep.upd (Keep.trans k1 (Keep.of e14))
  have hT5 : TabsAt (del (upd H4 r (.ins (cReached K) dx (putF "tables" (.ref D) (putF "program" (.ref p) [])))) F) D (tabsBy pr) := hT4.lists (lists_del fun b xs hb => by
    rw [upd_ne (ne_of hb (e14 _ _ hh1) (fun z => nomatch z))]
    exact hb)
  have hF5 : upd H4 r (.ins (cReached K) dx (putF "tables" (.ref D) (putF "program" (.ref p) []))) F = some (.lst fl) := by rw [upd_ne nrF]; exact hF4
  generalize upd H4 r (.ins (cReached K) dx (putF "tables" (.ref D) (putF "program" (.ref p) []))) = H5 at hh5 s5 k5 hT5 hF5
  refine ⟨_, rfl, _, rfl, p, pr, rfl, hP.same s5, g, fun br H6 bvs hbr e6 hbr6 hbp hbn => ?_⟩
  refine ⟨_, rfl, r, _, dx, _, rfl, e6 _ _ hh5, T.c_Reached, T.na_Reached_branches, by show 2 < 1000; decide, ?_⟩
  have s6 := Same.trans s5 e6
  have hF6 := e6 _ _ hF5
  have hT6 := hT5.lists (lists_del (F := F) fun b xs hb => e6 b _ hb)
  have hB6 : RowsAt (del H6 F) br (Vakepb.nextAny pr) := by
    refine ⟨bvs, by rw [del_ne (ne_of_none hF5 hbr).symm]; exact hbr6, ?_⟩
    have : ∀ {vs : List V} {tb : List (List Nat)}, Paired (RowD br H6) vs tb → (∀ x ∈ vs, ∃ a, x = .ref a ∧ H5 a = none) → Paired (RowL (del H6 F)) vs tb := by
      intro vs tb hp
      induction hp with
      | nil => intro _; exact .nil
      | cons h q ih =>
        intro hx
        obtain ⟨a, rfl, _, ha⟩ := h
        obtain ⟨a', e', hn'⟩ := hx _ List.mem_cons_self
        cases e'
        exact .cons ⟨a, rfl, by rw [del_ne (ne_of_none hF5 hn').symm]; exact ha⟩ (ih fun x hx' => hx x (List.mem_cons_of_mem _ hx'))
    exact this hbp hbn
  have hh7 : upd H6 r (.ins (cReached K) dx (putF "branches" (.ref br) (putF "tables" (.ref D) (putF "program" (.ref p) [])))) r = some (.ins (cReached K) dx (putF "branches" (.ref br) (putF "tables" (.ref D) (putF "program" (.ref p) [])))) := upd_same
  have s7 : Same G0 (upd H6 r (.ins (cReached K) dx (putF "branches" (.ref br) (putF "tables" (.ref D) (putF "program" (.ref p) []))))) := L2.Same.mut s6 gr
  have k7 : Keep r H (upd H6 r (.ins (cReached K) dx (putF "branches" (.ref br) (putF "tables" (.ref D) (putF "program" (.ref p) []))))) := Keep.upd (Keep.trans k5 (Keep.of e6))
  have kl : ∀ b xs, H6 b = some (.lst xs) → upd H6 r (.ins (cReached K) dx (putF "branches" (.ref br) (putF "tables" (.ref D) (putF "program" (.ref p) [])))) b = some (.lst xs) := fun b xs hb => by
    rw [upd_ne (ne_of hb (e6 _ _ hh5) (fun z => nomatch z))]
    exact hb
  have hT7 := hT6.lists (lists_del kl)
  have hB7 := hB6.lists (lists_del kl)
  generalize upd H6 r (.ins (cReached K) dx (putF "branches" (.ref br) (putF "tables" (.ref D) (putF "program" (.ref p) [])))) = H7 at hh7 s7 k7 hT7 hB7
  refine fun kn hkn => ?_
  have nr : r ≠ kn := ne_of_none hh7 hkn
  refine ⟨_, rfl, r, _, dx, _, rfl, (Same.new hkn) _ _ hh7, T.c_Reached, T.na_Reached_known, by show 3 < 1000; decide, ?_⟩
  have ef : putF "known" (V.ref kn) (putF "branches" (.ref br) (putF "tables" (.ref D) (putF "program" (.ref p) []))) = F_Reached (.ref p) (.ref D) (.ref br) (.ref kn) := i_Reached
  rw [ef]
  have kl2 : ∀ b xs, H7 b = some (.lst xs) → upd H7 r (.ins (cReached K) dx (F_Reached (.ref p) (.ref D) (.ref br) (.ref kn))) b = some (.lst xs) := fun b xs hb => by
    rw [upd_ne (ne_of hb hh7 (fun z => nomatch z))]
    exact hb
  have s8 : Same G0 (upd H7 r (.ins (cReached K) dx (F_Reached (.ref p) (.ref D) (.ref br) (.ref kn)))) := L2.Same.mut s7 gr
  have esw : Same (upd H7 r (.ins (cReached K) dx (F_Reached (.ref p) (.ref D) (.ref br) (.ref kn)))) (upd (upd H7 kn (dH P w kn [])) r (.ins (cReached K) dx (F_Reached (.ref p) (.ref D) (.ref br) (.ref kn)))) := by
    intro b o hb
    by_cases eb : b = r
    · subst eb
      rw [upd_same] at hb ⊢
      exact hb
    · rw [upd_ne eb] at hb ⊢
      rw [upd_ne (ne_of_none hb hkn)]
      exact hb
  have sdl : Same (del (upd H7 r (.ins (cReached K) dx (F_Reached (.ref p) (.ref D) (.ref br) (.ref kn)))) F) (upd H7 r (.ins (cReached K) dx (F_Reached (.ref p) (.ref D) (.ref br) (.ref kn)))) := fun b o hb => by
    by_cases z : b = F
    · rw [z, del_same] at hb; cases hb
    · rwa [del_ne z] at hb
  have s8d : Same G0 (del (upd H7 r (.ins (cReached K) dx (F_Reached (.ref p) (.ref D) (.ref br) (.ref kn)))) F) := fun b o hb => by
    rw [del_ne (ne_of_none hb gF)]
    exact s8 b o hb
  refine kk _ (del (upd H7 r (.ins (cReached K) dx (F_Reached (.ref p) (.ref D) (.ref br) (.ref kn)))) F) kn ?_ ⟨⟨⟨dx, D, br, by rw [del_ne nrF.symm]; exact upd_same, hT7.lists (lists_del kl2), hB7.lists (lists_del kl2)⟩, hP.same s8d, g, ?_⟩, Same.trans sdl esw, ?_, (fun _ h => nomatch h), List.nodup_nil, (fun _ h => nomatch h)⟩ s8d del_same ?_
  · exact Keep.upd (Keep.trans k7 (Keep.of (Same.new hkn)))
  · by_cases z : kn = F
    · rw [z, del_same]
    · rw [del_ne z, upd_ne nr.symm]; exact hkn
  · exact (upd_ne nr.symm).trans upd_same
  · cases q : H kn with
    | none => rfl
    | some o =>
      by_cases e : kn = r
      · exact absurd e.symm nr
      · have := k7 _ _ q e
        rw [hkn] at this
        cases this
end
end Wk
set_option maxHeartbeats 2000000
namespace Wk
open PySem PySem.Spec PyProof.Rows L2
open VakepBase (word showNat joined)
open Vakepa (Prog Piece)
/-! ### texts: plain -/
def itemsW (pr : Prog) : Stm → List Bytes
  | .done => []
  | .say k r => (word "say " ++ (showNat k ++ word " ;")) :: itemsW pr r
  | .call k r => (word "call " ++ (Vakepa.nameOf pr k ++ word " ;")) :: itemsW pr r
  | .make ps r => (word "make " ++ (joined (word " + ") (ps.map (Vakepa.showPiece pr)) ++ word " ;")) :: itemsW pr r
  | .when_ x v b r => (word "when " ++ (Vakepa.showPiece pr (.set x) ++ (word " is " ++ ((((pr.sets[x]?).bind fun s => s.values[v]?).getD []) ++ (word " " ++ (word "{ " ++ Vakepa.showStmt pr b)))))) :: itemsW pr r
theorem w_semi : word " ; " = word " ;" ++ [32] := by decide +kernel
theorem w_brace : word " { " = word " " ++ word "{ " := by decide +kernel
theorem w_sp : word " " = [32] := by decide +kernel
theorem show_items (pr : Prog) : ∀ s, Vakepa.showStmt pr s = (itemsW pr s).flatMap (fun x => x ++ [32]) ++ word "}"
  | .done => rfl
  | .say k r => by
    show word "say " ++ (showNat k ++ (word " ; " ++ Vakepa.showStmt pr r)) = ((word "say " ++ (showNat k ++ word " ;")) :: itemsW pr r).flatMap (fun x => x ++ [32]) ++ word "}"
    rw [List.flatMap_cons, show_items pr r, w_semi]
    simp only [List.append_assoc]
  | .call k r => by
    show word "call " ++ (Vakepa.nameOf pr k ++ (word " ; " ++ Vakepa.showStmt pr r)) = ((word "call " ++ (Vakepa.nameOf pr k ++ word " ;")) :: itemsW pr r).flatMap (fun x => x ++ [32]) ++ word "}"
    rw [List.flatMap_cons, show_items pr r, w_semi]
    simp only [List.append_assoc]
  | .make ps r => by
    show word "make " ++ (joined (word " + ") (ps.map (Vakepa.showPiece pr)) ++ (word " ; " ++ Vakepa.showStmt pr r)) = ((word "make " ++ (joined (word " + ") (ps.map (Vakepa.showPiece pr)) ++ word " ;")) :: itemsW pr r).flatMap (fun x => x ++ [32]) ++ word "}"
    rw [List.flatMap_cons, show_items pr r, w_semi]
    simp only [List.append_assoc]
  | .when_ x v b r => by
    show word "when " ++ (Vakepa.showPiece pr (.set x) ++ (word " is " ++ ((((pr.sets[x]?).bind fun s => s.values[v]?).getD []) ++ (word " { " ++ (Vakepa.showStmt pr b ++ (word " " ++ Vakepa.showStmt pr r)))))) =
      ((word "when " ++ (Vakepa.showPiece pr (.set x) ++ (word " is " ++ ((((pr.sets[x]?).bind fun s => s.values[v]?).getD []) ++ (word " " ++ (word "{ " ++ Vakepa.showStmt pr b)))))) :: itemsW pr r).flatMap (fun x => x ++ [32]) ++ word "}"
    rw [List.flatMap_cons, show_items pr r, w_brace, w_sp]
    simp only [List.append_assoc]
theorem joined_block (L : List Bytes) : joined [32] ([word "{"] ++ L ++ [word "}"]) = word "{ " ++ (L.flatMap (fun x => x ++ [32]) ++ word "}") := by
  have go : ∀ (L : List Bytes) (a : Bytes), joined [32] (a :: (L ++ [word "}"])) = a ++ [32] ++ (L.flatMap (fun x => x ++ [32]) ++ word "}") := by
    intro L
    induction L with
    | nil => intro a; rfl
    | cons b r ih =>
      intro a
      show a ++ [32] ++ joined [32] (b :: (r ++ [word "}"])) = _
      rw [ih b, List.flatMap_cons]
      simp only [List.append_assoc]
  have e : word "{ " = word "{" ++ [32] := by decide +kernel
  rw [e]
  exact go L (word "{")
theorem nat2 : ∀ k, k ≤ 99 → (showNat k).length ≤ 2 ∧ (toString ((k : Nat) : Int) : Str) = S (showNat k) ∧ ((k : Nat) : Int).natAbs.log2 < 1920 := by
  intro k hk
  have := List.all_eq_true.mp (show (List.range 100).all (fun k => decide ((showNat k).length ≤ 2) && (decide ((toString ((k : Nat) : Int) : Str) = S (showNat k)) && decide (((k : Nat) : Int).natAbs.log2 < 1920))) = true by decide +kernel) k (List.mem_range.mpr (by omega))
  simpa using this
theorem name16 {pr : Prog} (g : Good pr) (k : Nat) : (Vakepa.nameOf pr k).length ≤ 16 := by
  unfold Vakepa.nameOf
  cases h : pr.parts[k]? with
  | none => exact Nat.zero_le _
  | some x => exact (g.parts x (List.mem_of_getElem? h)).2.2.1
theorem piece16 {pr : Prog} (g : Good pr) {q : Piece} (h : OkP pr q) : (Vakepa.showPiece pr q).length ≤ 16 := by
  cases q with
  | word b => exact h.1
  | set k =>
    show (((pr.sets[k]?).map fun s => s.name).getD []).length ≤ 16
    cases hs : pr.sets[k]? with
    | none => exact Nat.zero_le _
    | some s => exact g.sname16 s (List.mem_of_getElem? hs)
theorem val16 {pr : Prog} (g : Good pr) (x v : Nat) : (((pr.sets[x]?).bind fun s => s.values[v]?).getD []).length ≤ 16 := by
  cases hs : pr.sets[x]? with
  | none => exact Nat.zero_le _
  | some s =>
    show (s.values[v]?.getD []).length ≤ 16
    cases hv : s.values[v]? with
    | none => exact Nat.zero_le _
    | some b => exact (g.vals s (List.mem_of_getElem? hs)).2.2 b (List.mem_of_getElem? hv)
theorem joined_len (sep : Bytes) : ∀ l : List Bytes, (∀ b ∈ l, b.length ≤ 16) → (joined sep l).length ≤ l.length * (16 + sep.length)
  | [], _ => Nat.zero_le _
  | [x], h => by
    have := h x List.mem_cons_self
    show x.length ≤ 1 * (16 + sep.length)
    omega
  | x :: y :: r, h => by
    have h1 := h x List.mem_cons_self
    have ih := joined_len sep (y :: r) fun b hb => h b (List.mem_cons_of_mem _ hb)
    show (x ++ sep ++ joined sep (y :: r)).length ≤ _
    rw [List.length_append, List.length_append, List.length_cons, Nat.add_mul]
    omega
theorem lens : (word "say ").length = 4 ∧ (word "call ").length = 5 ∧ (word "make ").length = 5 ∧ (word "when ").length = 5 ∧ (word " is ").length = 4 ∧ (word " ;").length = 2 ∧ (word " ").length = 1 ∧ (word "{ ").length = 2 ∧ (word "}").length = 1 ∧ (word " + ").length = 3 ∧ (word ", ").length = 2 ∧ (word " ; ").length = 3 ∧ (word " { ").length = 3 := by decide +kernel
theorem show_len {pr : Prog} (g : Good pr) : ∀ {s}, OkS pr s → (Vakepa.showStmt pr s).length ≤ 100 * cntS s + 1
  | .done, _ => by show (word "}").length ≤ 1; decide +kernel
  | .say k r, h => by
    have ih := show_len g h.2.2
    have h2 := (nat2 k h.2.1).1
    obtain ⟨l1, l2, l3, l4, l5, l6, l7, l8, l9, l10, l11, l12, l13⟩ := lens
    show (word "say " ++ (showNat k ++ (word " ; " ++ Vakepa.showStmt pr r))).length ≤ 100 * (cntS r + 1) + 1
    simp only [List.length_append]
    omega
  | .call k r, h => by
    have ih := show_len g h.2
    have h2 := name16 g k
    obtain ⟨l1, l2, l3, l4, l5, l6, l7, l8, l9, l10, l11, l12, l13⟩ := lens
    show (word "call " ++ (Vakepa.nameOf pr k ++ (word " ; " ++ Vakepa.showStmt pr r))).length ≤ 100 * (cntS r + 1) + 1
    simp only [List.length_append]
    omega
  | .make ps r, h => by
    have ih := show_len g h.2.2
    have h2 := joined_len (word " + ") (ps.map (Vakepa.showPiece pr)) fun b hb => by
      obtain ⟨q, hq, rfl⟩ := List.mem_map.mp hb
      exact piece16 g (h.2.1 q hq)
    obtain ⟨l1, l2, l3, l4, l5, l6, l7, l8, l9, l10, l11, l12, l13⟩ := lens
    rw [List.length_map, l10] at h2
    have h3 := h.1
    have h4 : ps.length * (16 + 3) ≤ 3 * 19 := Nat.mul_le_mul_right 19 h3
    show (word "make " ++ (joined (word " + ") (ps.map (Vakepa.showPiece pr)) ++ (word " ; " ++ Vakepa.showStmt pr r))).length ≤ 100 * (cntS r + 1) + 1
    simp only [List.length_append]
    omega
  | .when_ x v b r, h => by
    have ih1 := show_len g h.2.1
    have ih2 := show_len g h.2.2
    have h2 := val16 g x v
    have h3 : (Vakepa.showPiece pr (.set x)).length ≤ 16 := piece16 g (q := .set x) (by obtain ⟨s, hs, _⟩ := h.1; exact (List.getElem?_eq_some_iff.mp hs).1)
    obtain ⟨l1, l2, l3, l4, l5, l6, l7, l8, l9, l10, l11, l12, l13⟩ := lens
    show (word "when " ++ (Vakepa.showPiece pr (.set x) ++ (word " is " ++ ((((pr.sets[x]?).bind fun s => s.values[v]?).getD []) ++ (word " { " ++ (Vakepa.showStmt pr b ++ (word " " ++ Vakepa.showStmt pr r))))))).length ≤ 100 * (cntS b + cntS r + 1) + 1
    simp only [List.length_append]
    omega
theorem szS {a b : Bytes} (h : a.length + b.length ≤ 16000000) : (S a).length + (S b).length ≤ sizeLine := by
  rw [S_length, S_length]
  exact Nat.le_trans h (by decide)
theorem szJ {sep : Bytes} {l : List Bytes} (h : (l.map List.length).sum + l.length * sep.length ≤ 16000000) : ((l.map S).map (·.length)).sum + (l.map S).length * (S sep).length ≤ 16777216 := by
  rw [List.map_map, List.length_map, S_length]
  have e2 : ((fun x : Str => x.length) ∘ S) = List.length := funext S_length
  rw [e2]
  omega
section
variable {P : Program} {w : World} {K : PySem.W.Frag} {mg : Str → Option Value} {base : Heap}
theorem t_say : V.str "say " = V.str (S (word "say ")) := by decide +kernel
theorem t_call : V.str "call " = V.str (S (word "call ")) := by decide +kernel
theorem t_make : V.str "make " = V.str (S (word "make ")) := by decide +kernel
theorem t_when : V.str "when " = V.str (S (word "when ")) := by decide +kernel
theorem t_is : V.str " is " = V.str (S (word " is ")) := by decide +kernel
theorem t_semi : V.str " ;" = V.str (S (word " ;")) := by decide +kernel
theorem t_sp : V.str " " = V.str (S [32]) := by decide +kernel
theorem t_plus : V.str " + " = V.str (S (word " + ")) := by decide +kernel
theorem t_lb : V.str "{" = V.str (S (word "{")) := by decide +kernel
theorem t_rb : V.str "}" = V.str (S (word "}")) := by decide +kernel
theorem t_comma : V.str ", " = V.str (S (word ", ")) := by decide +kernel
def spListed (K : PySem.W.Frag) : Sp := Sp1 fun x H Q _ => ∃ q l, x = .ref q ∧ H q = some (.lst (strL l)) ∧ (l.map List.length).sum + l.length * 2 ≤ 16000000 ∧ Q (.str (S (Vakepa.commas l))) H
theorem sc_listed : FnScope ["names"] ["names"] (defScope s_listed) := ⟨rfl, rfl, rfl, by decide +kernel, rfl, by decide +kernel, by decide +kernel⟩
theorem ok_listed (T : Tx K mg) : FK P w K mg base CX0 (1) (He.ga K "listed") ["names"] (spListed K) := by
  obtain ⟨fd, F⟩ := T.f_listed
  refine ⟨fd, F.ok sc_listed (fun vs H Q E h => Sp1.len h) (fun cdv A outer s H vs Q E hr h => ?body), F.bindsN (fun _ _ _ _ _ _ us hl => match us, hl with | [_], _ => rfl), F.kp⟩
  refine ⟨_, PSs.nox (pss_one (ps_ret (pe_join pe_str (pv 0)))), ?_⟩
  obtain ⟨_, rfl, q, l, rfl, hq, hz, kk⟩ := h
  refine ⟨⟨_, rfl⟩, _, rfl, S (word ", "), q, l.map S, t_comma, rfl, .inl (SqL.of (by rw [← strL_map]; exact hq)), szJ (by rw [show (word ", ").length = 2 by decide +kernel]; exact hz), ?_⟩
  rw [TL.join_eq, S_join]
  exact kk
def spStW (K : PySem.W.Frag) (e : Nat) : Sp := Sp2 fun x y H Q _ => ∃ p pr s t, x = .ref p ∧ y = .ref t ∧ Pg K pr H p ∧ Good pr ∧ ItV pr H s t ∧ s ≠ .done ∧ OkS pr s ∧ deepS s ≤ e ∧ cntS s ≤ 5000 ∧ ∀ b, (itemsW pr s)[0]? = some b → ∀ H', Same H H' → Q (.str (S b)) H'
def spBlkW (K : PySem.W.Frag) (e : Nat) : Sp := Sp2 fun x y H Q _ => ∃ p pr s l xs, x = .ref p ∧ y = .ref l ∧ Pg K pr H p ∧ Good pr ∧ H l = some (.lst xs) ∧ StV pr H s xs ∧ OkS pr s ∧ deepS s < e ∧ cntS s ≤ 5000 ∧ ∀ H', Same H H' → Q (.str (S (word "{ " ++ Vakepa.showStmt pr s))) H'
theorem sc_statement_words : FnScope ["program", "statement", "name", "words"] ["program", "statement"] (defScope s_statement_words) := ⟨rfl, rfl, rfl, by decide +kernel, rfl, by decide +kernel, by decide +kernel⟩
theorem ok_stw_of (T : Tx K mg) (e : Nat) (hb : FK P w K mg base CX0 (2 * e + 2) (He.ga K "block_words") ["program", "statements"] (spBlkW K e)) : FK P w K mg base CX0 (2 * e + 3) (He.ga K "statement_words") ["program", "statement"] (spStW K e) := by
  obtain ⟨fd, F⟩ := T.f_statement_words
  obtain ⟨fd0, G0, b0, k0⟩ := hb
  refine ⟨fd, F.ok sc_statement_words (fun vs H Q E h => Sp2.len h) (fun cdv A outer s H vs Q E hr h => ?body), F.bindsN (fun _ _ _ _ _ _ us hl => match us, hl with | [_, _], _ => rfl), F.kp⟩
  refine ⟨_, PSs.nox (pss_cons (ps_if (pt_cmpR op_eq (pe_ix ix_tup (pv 1) pe_int (fun _ _ => rfl)) (C8.pe_gc rfl T.k_SAY) (nomark _)) (pss_one (ps_ret (pe_op op_add_str (pe_op op_add_str pe_str (pe_callTy call_str_int rfl T.n_str (by decide +kernel) (pa_cons (pe_ix ix_tup (pv 1) pe_int (fun _ _ => rfl)) pa_nil))) pe_str))) pss_nil)
      (pss_cons (ps_if (pt_cmpR op_eq (pe_ix ix_tup (pv 1) pe_int (fun _ _ => rfl)) (C8.pe_gc rfl T.k_CALL) (nomark _)) (pss_one (ps_ret (pe_op op_add_str (pe_op op_add_str pe_str (pe_ix ix_tup (pv 1) pe_int (fun _ _ => rfl))) pe_str))) pss_nil)
      (pss_cons (ps_if (pt_cmpR op_eq (pe_ix ix_tup (pv 1) pe_int (fun _ _ => rfl)) (C8.pe_gc rfl T.k_MAKE) (nomark _)) (pss_one (ps_ret (pe_op op_add_str (pe_op op_add_str pe_str (pe_join pe_str (pe_ix ix_tup (pv 1) pe_int (fun _ _ => rfl)))) pe_str))) pss_nil)
      (pss_cons (ps_asg (pe_ix ix_list (pe_fld (pv 0) rfl) (pe_ix ix_tup (pv 1) pe_int (fun _ _ => rfl)) (fun _ _ => rfl)) (pg_tup (n := 2) rfl (pgs_cons (pg_name (i := 2) sc_statement_words.nd rfl (.inl rfl) (.inr rfl)) (pgs_cons (pg_name (i := 3) sc_statement_words.nd rfl (.inl rfl) (.inr rfl)) pgs_nil))))
      (pss_one (ps_ret (pe_op op_add_str (pe_op op_add_str (pe_op op_add_str (pe_op op_add_str (pe_op op_add_str pe_str (pv 2)) pe_str) (pe_ix ix_list (pv 3) (pe_ix ix_tup (pv 1) pe_int (fun _ _ => rfl)) (fun _ _ => rfl))) pe_str) (pe_call G0 (hr.mono (by first | decide | omega)) rfl T.g_block_words k0 b0 .nil pass0 (pa_cons (pv 0) (pa_cons (pe_ix ix_tup (pv 1) pe_int (fun _ _ => rfl)) pa_nil)))))))))), ?_⟩
  obtain ⟨_, _, rfl, p, pr, s, t, rfl, rfl, hP, g, ht, hne, hok, hd, hc, kk⟩ := h
  obtain ⟨l1, l2, l3, l4, l5, l6, l7, l8, l9, l10, l11, l12, l13⟩ := lens
  cases s with
  | done => exact absurd rfl hne
  | say k r =>
    have ht' : H t = some (.tup [.str "say", .int (k : Nat)]) := ht
    obtain ⟨n1, n2, n3⟩ := nat2 k hok.2.1
    refine ⟨_, rfl, t, _, _, _, rfl, rfl, SqT.of ht', rfl, rfl, _, rfl, ?_⟩
    refine ⟨_, rfl, t, _, _, _, rfl, rfl, SqT.of ht', atI_n (j := 1) rfl, _, rfl, n3, ?_⟩
    rw [n2]
    refine ⟨S (word "say "), S (showNat k), t_say, rfl, szS (by first | omega | (simp only [List.length_append, List.length_singleton]; omega)), ?_⟩
    rw [S_append]
    refine ⟨S (word "say " ++ showNat k), S (word " ;"), rfl, t_semi, szS (by first | omega | (simp only [List.length_append, List.length_singleton]; omega)), ?_⟩
    rw [S_append]
    rw [List.append_assoc]
    exact kk _ rfl H (Same.refl _)
  | call k r =>
    have ht' : H t = some (.tup [.str "call", .str (S (Vakepa.nameOf pr k))]) := ht
    have n1 := name16 g k
    refine ⟨_, rfl, t, _, _, _, rfl, rfl, SqT.of ht', rfl, rfl, _, rfl, ?_⟩
    refine ⟨_, rfl, t, _, _, _, rfl, rfl, SqT.of ht', rfl, rfl, _, rfl, ?_⟩
    refine ⟨_, rfl, t, _, _, _, rfl, rfl, SqT.of ht', atI_n (j := 1) rfl, ?_⟩
    refine ⟨S (word "call "), S (Vakepa.nameOf pr k), t_call, rfl, szS (by first | omega | (simp only [List.length_append, List.length_singleton]; omega)), ?_⟩
    rw [S_append]
    refine ⟨S (word "call " ++ Vakepa.nameOf pr k), S (word " ;"), rfl, t_semi, szS (by first | omega | (simp only [List.length_append, List.length_singleton]; omega)), ?_⟩
    rw [S_append]
    rw [List.append_assoc]
    exact kk _ rfl H (Same.refl _)
  | make ps r =>
    obtain ⟨l, ht', hl⟩ : ∃ l, H t = some (.tup [.str "make", .ref l]) ∧ H l = some (.lst (strL (ps.map (Vakepa.showPiece pr)))) := ht
    have h16 : ∀ b ∈ ps.map (Vakepa.showPiece pr), b.length ≤ 16 := fun b hb => by
      obtain ⟨q, hq, rfl⟩ := List.mem_map.mp hb
      exact piece16 g (hok.2.1 q hq)
    have h2 := joined_len (word " + ") (ps.map (Vakepa.showPiece pr)) h16
    rw [List.length_map, l10] at h2
    have h4 : ps.length * (16 + 3) ≤ 3 * 19 := Nat.mul_le_mul_right 19 hok.1
    have hsum : ∀ l : List Bytes, (∀ b ∈ l, b.length ≤ 16) → (l.map List.length).sum ≤ 16 * l.length := by
      intro l
      induction l with
      | nil => intro _; exact Nat.le_refl _
      | cons a r ih =>
        intro h
        have h1 := h a List.mem_cons_self
        have := ih fun b hb => h b (List.mem_cons_of_mem _ hb)
        rw [List.map_cons, List.sum_cons, List.length_cons]
        omega
    have hs := hsum _ h16
    rw [List.length_map] at hs
    have hk3 := hok.1
    refine ⟨_, rfl, t, _, _, _, rfl, rfl, SqT.of ht', rfl, rfl, _, rfl, ?_⟩
    refine ⟨_, rfl, t, _, _, _, rfl, rfl, SqT.of ht', rfl, rfl, _, rfl, ?_⟩
    refine ⟨_, rfl, t, _, _, _, rfl, rfl, SqT.of ht', rfl, rfl, _, rfl, ?_⟩
    refine ⟨⟨_, rfl⟩, _, rfl, t, _, _, _, rfl, rfl, SqT.of ht', atI_n (j := 1) rfl, S (word " + "), l, (ps.map (Vakepa.showPiece pr)).map S, t_plus, rfl, .inl (SqL.of (by rw [← strL_map]; exact hl)), szJ (by rw [List.length_map, l10]; omega), ?_⟩
    rw [TL.join_eq, S_join]
    refine ⟨S (word "make "), S (joined (word " + ") (ps.map (Vakepa.showPiece pr))), t_make, rfl, szS (by first | omega | (simp only [List.length_append, List.length_singleton]; omega)), ?_⟩
    rw [S_append]
    refine ⟨S (word "make " ++ joined (word " + ") (ps.map (Vakepa.showPiece pr))), S (word " ;"), rfl, t_semi, szS (by first | omega | (simp only [List.length_append, List.length_singleton]; omega)), ?_⟩
    rw [S_append]
    rw [List.append_assoc]
    exact kk _ rfl H (Same.refl _)
  | when_ x v b r =>
    obtain ⟨l, zs, ht', hl, hst⟩ : ∃ l zs, H t = some (.tup [.str "when", .int (x : Nat), .int (v : Nat), .ref l]) ∧ H l = some (.lst zs) ∧ StV pr H b zs := ht
    obtain ⟨⟨s0, hs0, hv0⟩, hok1, hok2⟩ := hok
    obtain ⟨dx, ls, lp, le, vs, ws, hp⟩ := id hP
    obtain ⟨vv, hvv, tp, lw, rfl, htp, hlw⟩ := Paired.at2 hp.sets hs0
    have hsl := show_len g hok1
    have hc1 : cntS b + cntS r + 1 ≤ 5000 := hc
    have hd1 : max (deepS b + 1) (deepS r) ≤ e := hd
    have n1 : s0.name.length ≤ 16 := g.sname16 s0 (List.mem_of_getElem? hs0)
    have hvb := List.getElem?_eq_getElem hv0
    have n2 : (s0.values[v]).length ≤ 16 := (g.vals s0 (List.mem_of_getElem? hs0)).2.2 _ (List.getElem_mem hv0)
    refine ⟨_, rfl, t, _, _, _, rfl, rfl, SqT.of ht', rfl, rfl, _, rfl, ?_⟩
    refine ⟨_, rfl, t, _, _, _, rfl, rfl, SqT.of ht', rfl, rfl, _, rfl, ?_⟩
    refine ⟨_, rfl, t, _, _, _, rfl, rfl, SqT.of ht', rfl, rfl, _, rfl, ?_⟩
    refine ⟨_, rfl, p, _, dx, _, _, rfl, hp.ins, T.c_Program, T.na_Program_settings, l_Program_settings, ?_⟩
    refine ⟨_, rfl, t, _, _, _, rfl, rfl, SqT.of ht', atI_n (j := 1) rfl, ls, vs, _, _, rfl, rfl, SqL.of hp.sl, atI_n hvv, ?_⟩
    refine ⟨tp, _, rfl, SqT.of htp, rfl, _, _, rfl, _, _, rfl, rfl, ?_⟩
    refine ⟨_, rfl, ?_⟩
    refine ⟨S (word "when "), S (s0.name), t_when, rfl, szS (by first | omega | (simp only [List.length_append, List.length_singleton]; omega)), ?_⟩
    rw [S_append]
    refine ⟨S (word "when " ++ s0.name), S (word " is "), rfl, t_is, szS (by first | omega | (simp only [List.length_append, List.length_singleton]; omega)), ?_⟩
    rw [S_append]
    refine ⟨_, rfl, _, rfl, t, _, _, _, rfl, rfl, SqT.of ht', atI_n (j := 2) rfl, lw, _, _, _, rfl, rfl, SqL.of hlw, atI_n (strL_at hvb), ?_⟩
    refine ⟨S (word "when " ++ s0.name ++ word " is "), S (s0.values[v]), rfl, rfl, szS (by first | omega | (simp only [List.length_append, List.length_singleton]; omega)), ?_⟩
    rw [S_append]
    refine ⟨S (word "when " ++ s0.name ++ word " is " ++ s0.values[v]), S ([32]), rfl, t_sp, szS (by first | omega | (simp only [List.length_append, List.length_singleton]; omega)), ?_⟩
    rw [S_append]
    refine ⟨_, rfl, _, rfl, t, _, _, _, rfl, rfl, SqT.of ht', atI_n (j := 3) rfl, _, _, rfl, p, pr, b, l, zs, rfl, rfl, hP, g, hl, hst, hok1, by omega, by omega, fun H1 e1 => ?_⟩
    refine ⟨S (word "when " ++ s0.name ++ word " is " ++ s0.values[v] ++ [32]), S (word "{ " ++ Vakepa.showStmt pr b), rfl, rfl, szS (by first | omega | (simp only [List.length_append, List.length_singleton]; omega)), ?_⟩
    rw [S_append]
    have e2 : (itemsW pr (.when_ x v b r))[0]? = some (word "when " ++ s0.name ++ word " is " ++ s0.values[v] ++ [32] ++ (word "{ " ++ Vakepa.showStmt pr b)) := by
      show some (word "when " ++ (Vakepa.showPiece pr (.set x) ++ (word " is " ++ ((((pr.sets[x]?).bind fun s => s.values[v]?).getD []) ++ (word " " ++ (word "{ " ++ Vakepa.showStmt pr b)))))) = _
      have e3 : Vakepa.showPiece pr (.set x) = s0.name := by
        show ((pr.sets[x]?).map fun s => s.name).getD [] = _
        rw [hs0]; rfl
      have e4 : (((pr.sets[x]?).bind fun s => s.values[v]?).getD []) = s0.values[v] := by
        rw [hs0]
        show (s0.values[v]?).getD [] = _
        rw [hvb]; rfl
      rw [e3, e4, w_sp]
      simp only [List.append_assoc]
    exact kk _ e2 H1 e1
theorem itemsW_tail (pr : Prog) : ∀ s, itemsW pr (tailS s) = (itemsW pr s).drop 1
  | .done => rfl
  | .say _ _ => rfl
  | .call _ _ => rfl
  | .make _ _ => rfl
  | .when_ _ _ _ _ => rfl
theorem itemsW_drop (pr : Prog) : ∀ i s, itemsW pr (dropS i s) = (itemsW pr s).drop i
  | 0, _ => rfl
  | i + 1, s => by
    show itemsW pr (tailS (dropS i s)) = _
    rw [itemsW_tail, itemsW_drop pr i s, List.drop_drop]
theorem itemsW_len (pr : Prog) : ∀ s, (itemsW pr s).length = lenS s
  | .done => rfl
  | .say _ r => congrArg Nat.succ (itemsW_len pr r)
  | .call _ r => congrArg Nat.succ (itemsW_len pr r)
  | .make _ r => congrArg Nat.succ (itemsW_len pr r)
  | .when_ _ _ _ r => congrArg Nat.succ (itemsW_len pr r)
theorem sum_sp : ∀ L : List Bytes, (L.map List.length).sum + L.length = (L.flatMap (fun x => x ++ [32])).length
  | [] => rfl
  | a :: r => by
    have := sum_sp r
    rw [List.map_cons, List.sum_cons, List.length_cons, List.flatMap_cons, List.length_append, List.length_append, ← this]
    show _ = a.length + 1 + _
    omega
theorem sc_block_words : FnScope ["program", "statements", "statement"] ["program", "statements"] (defScope s_block_words) := ⟨rfl, rfl, rfl, by decide +kernel, rfl, by decide +kernel, by decide +kernel⟩
theorem ok_blkw_of (T : Tx K mg) (e : Nat) (hs : FK P w K mg base CX0 (2 * e + 3) (He.ga K "statement_words") ["program", "statement"] (spStW K e)) : FK P w K mg base CX0 (2 * e + 4) (He.ga K "block_words") ["program", "statements"] (spBlkW K (e + 1)) := by
  obtain ⟨fd, F⟩ := T.f_block_words
  obtain ⟨fd0, G0, b0, k0⟩ := hs
  refine ⟨fd, F.ok sc_block_words (fun vs H Q E h => Sp2.len h) (fun cdv A outer s H vs Q E hr h => ?body), F.bindsN (fun _ _ _ _ _ _ us hl => match us, hl with | [_, _], _ => rfl), F.kp⟩
  refine ⟨_, PSs.nox (pss_one (ps_ret (pe_join pe_str (pe_op op_cat (pe_op op_cat (pe_lst (pa_cons pe_str pa_nil)) (pe_lc (own := [("statement", 2)]) rfl sc_block_words.nd (pi_list (pv 1)) (blkOk_by (own := [("statement", 2)]) (N := ["program", "statements", "statement"]) (sc := defScope s_block_words) (by decide +kernel)) (fun _ _ _ _ _ => (pg_name (i := 2) sc_block_words.nd rfl (.inl rfl) (.inr rfl))) (fun _ _ _ _ _ => pts_nil) (fun _ _ _ _ _ => (pe_call G0 (hr.mono (by first | decide | omega)) rfl T.g_statement_words k0 b0 .nil pass0 (pa_cons (pv 0) (pa_cons (pv 2) pa_nil)))))) (pe_lst (pa_cons pe_str pa_nil)))))), ?_⟩
  obtain ⟨_, _, rfl, p, pr, s, l, xs, rfl, rfl, hP, g, hl, hst, hok, hd, hc, kk⟩ := h
  have hsl := show_len g hok
  have hle := lenS_le_cntS s
  have hxl := hst.length
  have hil := itemsW_len pr s
  have hsum := sum_sp (itemsW pr s)
  have hsi := congrArg List.length (show_items pr s)
  rw [List.length_append] at hsi
  refine ⟨⟨_, rfl⟩, by show 1 ≤ sizeLine; decide, fun q1 hq1 => ?_⟩
  have e1 : Same H (upd H q1 (.lst [.str "{"])) := Same.new hq1
  have hq1' : upd H q1 (.lst [.str "{"]) q1 = some (.lst [.str "{"]) := upd_same
  generalize upd H q1 (.lst [.str "{"]) = H1 at e1 hq1'
  refine ⟨_, rfl, l, rfl, ⟨_, SqL.of (e1 _ _ hl)⟩, fun D hD => ?_⟩
  refine lc_pure (K := K) (xs := xs) (fun i => ((itemsW pr s)[i]?).map fun b => V.str (S b)) (SqL.of (e1 _ _ hl)) hD (szl (by omega)) (fun i x H2 hx e2 Kt Kf kt kf => ?_) fun H2 e2 hd2 => ?_
  · obtain ⟨t, rfl, ht, hne⟩ := hst.at_ hx
    have hi : i < (itemsW pr s).length := by rw [hil, ← hxl]; exact (List.getElem?_eq_some_iff.mp hx).1
    have e12 := Same.trans e1 e2
    have hIt : ItV pr H2 (dropS i s) t := by
      obtain ⟨t', ys, h1, h2, _⟩ := ((hst.same e12).drop (i := i)).cons hne
      have : (xs.drop i)[0]? = some (.ref t) := by rw [List.getElem?_drop]; exact hx
      rw [h1] at this
      have := V.ref.inj (Option.some.inj this)
      subst this
      exact h2
    have h0 : (itemsW pr (dropS i s))[0]? = (itemsW pr s)[i]? := by rw [itemsW_drop, List.getElem?_drop]; rfl
    refine ⟨rfl, _, rfl, _, rfl, _, _, rfl, p, pr, dropS i s, t, rfl, rfl, hP.same e12, g, hIt, hne, OkS.drop i hok, by have := deepS_drop i s; omega, by have := cntS_drop i s; omega, fun b hb H3 e3 => ?_⟩
    rw [h0] at hb
    exact kt _ _ (by rw [hb]; rfl) e3
  rw [picks_at (by rw [hxl, hil])] at hd2
  refine ⟨q1, D, _, _, rfl, rfl, e2 _ _ hq1', hd2, by rw [List.length_map, hil]; exact sz (by show 1 + lenS s ≤ _; omega), fun q2 hq2 => ?_⟩
  refine ⟨by show 1 ≤ sizeLine; decide, fun q3 hq3 => ?_⟩
  have e3 : Same H2 _ := Same.trans (Same.new (o := HO.lst ([.str "{"] ++ (itemsW pr s).map fun b => V.str (S b))) hq2) (Same.new (o := HO.lst [.str "}"]) hq3)
  refine ⟨q2, q3, _, _, rfl, rfl, (Same.new hq3) _ _ upd_same, upd_same, ?_, fun q4 hq4 => ?_⟩
  · rw [List.length_append, List.length_map, hil]
    exact sz (by show 1 + lenS s + 1 ≤ _; omega)
  have e4 := Same.trans e3 (Same.new (o := HO.lst ([.str "{"] ++ ((itemsW pr s).map fun b => V.str (S b)) ++ [.str "}"])) hq4)
  have eL : [V.str "{"] ++ ((itemsW pr s).map fun b => V.str (S b)) ++ [.str "}"] = strL ([word "{"] ++ itemsW pr s ++ [word "}"]) := by
    unfold strL
    rw [List.map_append, List.map_append]
    show [V.str "{"] ++ _ ++ [V.str "}"] = [V.str (S (word "{"))] ++ _ ++ [V.str (S (word "}"))]
    rw [t_lb, t_rb]
  rw [eL]
  refine ⟨S [32], q4, ([word "{"] ++ itemsW pr s ++ [word "}"]).map S, t_sp, rfl, .inl (SqL.of (by rw [← strL_map]; exact upd_same)), szJ ?_, ?_⟩
  · rw [List.map_append, List.map_append, List.sum_append, List.sum_append, List.length_append, List.length_append]
    show (1 + 0) + _ + (1 + 0) + (1 + _ + 1) * 1 ≤ _
    omega
  · rw [TL.join_eq, S_join, joined_block, ← show_items]
    rw [eL] at e4
    exact kk _ (Same.trans e1 (Same.trans e2 e4))
theorem ok_block_words (T : Tx K mg) : ∀ e, FK P w K mg base CX0 (2 * e + 2) (He.ga K "block_words") ["program", "statements"] (spBlkW K e) := by
  intro e
  induction e with
  | zero =>
    obtain ⟨fd, F⟩ := T.f_block_words
    refine ⟨fd, F.ok sc_block_words (fun vs H Q E h => Sp2.len h) (fun cdv A outer s H vs Q E hr h => ?_), F.bindsN (fun _ _ _ _ _ _ us hl => match us, hl with | [_, _], _ => rfl), F.kp⟩
    obtain ⟨_, _, _, p, pr, s, l, xs, _, _, _, _, _, _, _, h, _⟩ := h
    exact absurd h (Nat.not_lt_zero _)
  | succ e ih => exact ok_blkw_of T e (ok_stw_of T e ih)
/-! ### the whole -/
def setLine (s : Vakepa.Setting) : Bytes := word "set " ++ s.name ++ word " : " ++ Vakepa.commas s.values ++ (word " ;" ++ [10])
def partLine (pr : Prog) (x : Vakepa.Part) : Bytes := word "part " ++ x.name ++ word " size " ++ showNat x.size ++ [32] ++ (word "{ " ++ Vakepa.showStmt pr x.body) ++ [10]
def startLine (pr : Prog) : Bytes := word "start " ++ Vakepa.commas (pr.starts.map (Vakepa.nameOf pr)) ++ (word " ;" ++ [10])
def linesOf (pr : Prog) : List Bytes := pr.sets.map setLine ++ (pr.parts.map (partLine pr) ++ [startLine pr])
theorem shown_eq (pr : Prog) : Vakepa.shown pr = (linesOf pr).flatten := by
  unfold Vakepa.shown linesOf
  rw [List.flatten_append, List.flatten_append, ← List.flatMap_def, ← List.flatMap_def]
  have e1 : (fun s : Vakepa.Setting => Vakepa.line (word "set " ++ (s.name ++ (word " : " ++ (Vakepa.commas s.values ++ word " ;"))))) = setLine := by
    funext s
    unfold setLine Vakepa.line
    simp only [List.append_assoc]
  have e2 : (fun x : Vakepa.Part => Vakepa.line (word "part " ++ (x.name ++ (word " size " ++ (showNat x.size ++ (word " { " ++ Vakepa.showStmt pr x.body)))))) = partLine pr := by
    funext x
    unfold partLine Vakepa.line
    rw [w_brace, w_sp]
    simp only [List.append_assoc]
  have e3 : Vakepa.line (word "start " ++ (Vakepa.commas (pr.starts.map (Vakepa.nameOf pr)) ++ word " ;")) = [startLine pr].flatten := by
    show _ = startLine pr ++ []
    unfold startLine Vakepa.line
    simp only [List.append_assoc, List.append_nil]
  rw [e1, e2, e3]
end
end Wk
set_option maxHeartbeats 2000000
namespace Wk
open PySem PySem.Spec PyProof.Rows L2
open VakepBase (word showNat joined)
open Vakepa (Prog Piece)
theorem t_set : V.str "set " = V.str (S (word "set ")) := by decide +kernel
theorem t_col : V.str " : " = V.str (S (word " : ")) := by decide +kernel
theorem t_end : V.str " ;\n" = V.str (S (word " ;" ++ [10])) := by decide +kernel
theorem t_part : V.str "part " = V.str (S (word "part ")) := by decide +kernel
theorem t_size : V.str " size " = V.str (S (word " size ")) := by decide +kernel
theorem t_nl : V.str "\n" = V.str (S [10]) := by decide +kernel
theorem t_start : V.str "start " = V.str (S (word "start ")) := by decide +kernel
theorem t_empty : V.str "" = V.str (S []) := by decide +kernel
theorem lens2 : (word "set ").length = 4 ∧ (word " : ").length = 3 ∧ (word "part ").length = 5 ∧ (word " size ").length = 6 ∧ (word "start ").length = 6 := by decide +kernel
theorem sum_le {α : Type} (f : α → Nat) (m : Nat) : ∀ l : List α, (∀ x ∈ l, f x ≤ m) → (l.map f).sum ≤ l.length * m
  | [], _ => Nat.zero_le _
  | a :: r, h => by
    have h1 := h a List.mem_cons_self
    have h2 := sum_le f m r fun x hx => h x (List.mem_cons_of_mem _ hx)
    rw [List.map_cons, List.sum_cons, List.length_cons, Nat.add_mul]
    omega
theorem commas_len {l : List Bytes} (h : ∀ b ∈ l, b.length ≤ 16) (hl : l.length ≤ 4) : (Vakepa.commas l).length ≤ 72 ∧ (l.map List.length).sum + l.length * 2 ≤ 72 := by
  have h1 := joined_len (word ", ") l h
  rw [show (word ", ").length = 2 by decide +kernel] at h1
  have h2 := sum_le List.length 16 l h
  have h3 : l.length * (16 + 2) ≤ 4 * 18 := Nat.mul_le_mul_right 18 hl
  exact ⟨Nat.le_trans h1 h3, by omega⟩
theorem setLine_len {pr : Prog} (g : Good pr) {s : Vakepa.Setting} (hs : s ∈ pr.sets) : (setLine s).length ≤ 200 := by
  have h1 := g.sname16 s hs
  have h2 := (commas_len (g.vals s hs).2.2 (g.vals s hs).2.1).1
  obtain ⟨m1, m2, m3, m4, m5⟩ := lens2
  obtain ⟨l1, l2, l3, l4, l5, l6, l7, l8, l9, l10, l11, l12, l13⟩ := lens
  unfold setLine
  simp only [List.length_append, List.length_singleton]
  omega
theorem partLine_len {pr : Prog} (g : Good pr) {x : Vakepa.Part} (hx : x ∈ pr.parts) : (partLine pr x).length ≤ 600000 ∧ (word "{ " ++ Vakepa.showStmt pr x.body).length ≤ 500010 := by
  obtain ⟨h1, h2, h3, h4, h5, h6⟩ := g.parts x hx
  have hs := show_len g h4
  have hn := (nat2 x.size h2).1
  obtain ⟨m1, m2, m3, m4, m5⟩ := lens2
  obtain ⟨l1, l2, l3, l4, l5, l6, l7, l8, l9, l10, l11, l12, l13⟩ := lens
  unfold partLine
  simp only [List.length_append, List.length_singleton]
  omega
theorem names_commas {pr : Prog} (g : Good pr) : (Vakepa.commas (pr.starts.map (Vakepa.nameOf pr))).length ≤ 72 ∧ ((pr.starts.map (Vakepa.nameOf pr)).map List.length).sum + (pr.starts.map (Vakepa.nameOf pr)).length * 2 ≤ 72 :=
  commas_len (fun b hb => by obtain ⟨k, _, rfl⟩ := List.mem_map.mp hb; exact name16 g k) (by rw [List.length_map]; exact g.nstarts)
theorem lines_len {pr : Prog} (g : Good pr) : ((linesOf pr).map List.length).sum ≤ 7000000 := by
  unfold linesOf
  rw [List.map_append, List.map_append, List.sum_append, List.sum_append]
  have h1 := sum_le List.length 200 (pr.sets.map setLine) fun b hb => by obtain ⟨s, hs, rfl⟩ := List.mem_map.mp hb; exact setLine_len g hs
  have h2 := sum_le List.length 600000 (pr.parts.map (partLine pr)) fun b hb => by obtain ⟨x, hx, rfl⟩ := List.mem_map.mp hb; exact (partLine_len g hx).1
  rw [List.length_map] at h1 h2
  have h3 : pr.sets.length * 200 ≤ 3 * 200 := Nat.mul_le_mul_right 200 g.nsets
  have h4 : pr.parts.length * 600000 ≤ 10 * 600000 := Nat.mul_le_mul_right 600000 g.nparts
  have h5 : ([startLine pr].map List.length).sum ≤ 200 := by
    show (startLine pr).length + 0 ≤ 200
    have hc := (names_commas g).1
    obtain ⟨m1, m2, m3, m4, m5⟩ := lens2
    obtain ⟨l1, l2, l3, l4, l5, l6, l7, l8, l9, l10, l11, l12, l13⟩ := lens
    unfold startLine
    simp only [List.length_append, List.length_singleton]
    omega
  omega
section
variable {P : Program} {w : World} {K : PySem.W.Frag} {mg : Str → Option Value} {base : Heap}
def spOneForm (K : PySem.W.Frag) : Sp := Sp1 fun x H Q _ => ∃ p pr, x = .ref p ∧ Pg K pr H p ∧ Good pr ∧ ∀ H', Same H H' → Q (.str (S (Vakepa.shown pr))) H'
theorem strL_ln (l : List Bytes) : (strL l).length = l.length := List.length_map _
theorem strL_app (a : List Bytes) (b : Bytes) : strL a ++ [V.str (S b)] = strL (a ++ [b]) := by unfold strL; rw [List.map_append]; rfl
theorem sc_one_form : FnScope ["program", "lines", "name", "words", "part", "block", "entry"] ["program"] (defScope s_one_form) := ⟨rfl, rfl, rfl, by decide +kernel, rfl, by decide +kernel, by decide +kernel⟩
theorem ok_one_form (T : Tx K mg) : FK P w K mg base CX0 (12) (He.ga K "one_form") ["program"] (spOneForm K) := by
  obtain ⟨fd, F⟩ := T.f_one_form
  obtain ⟨fd0, G0, b0, k0⟩ := ok_listed (P := P) (w := w) (base := base) T
  obtain ⟨fd1, G1, b1, k1⟩ := ok_block_words (P := P) (w := w) (base := base) T 4
  refine ⟨fd, F.ok sc_one_form (fun vs H Q E h => Sp1.len h) (fun cdv A outer s H vs Q E hr h => ?body), F.bindsN (fun _ _ _ _ _ _ us hl => match us, hl with | [_], _ => rfl), F.kp⟩
  refine ⟨_, PSs.nox (pss_cons (ps_set (i := 1) sc_one_form.nd rfl (.inl rfl) (pe_lst pa_nil) (hf := (.inr rfl)))
      (pss_cons (ps_for PassesOwn.never rfl (pi_list (pe_fld (pv 0) rfl)) (pg_tup (n := 2) rfl (pgs_cons (pg_name (i := 2) sc_one_form.nd rfl (.inl rfl) (.inr rfl)) (pgs_cons (pg_name (i := 3) sc_one_form.nd rfl (.inl rfl) (.inr rfl)) pgs_nil))) (pss_one (ps_expr (pe_bm PySem.F.plainAttrs_list PySem.F.slot_list_append PySem.F.type_list_append mt_append (pv 1) (pa_cons (pe_op op_add_str (pe_op op_add_str (pe_op op_add_str (pe_op op_add_str pe_str (pv 2)) pe_str) (pe_call G0 (hr.mono (by first | decide | omega)) rfl T.g_listed k0 b0 .nil pass0 (pa_cons (pv 3) pa_nil))) pe_str) pa_nil)))))
      (pss_cons (ps_for PassesOwn.never rfl (pi_list (pe_fld (pv 0) rfl)) (pg_name (i := 4) sc_one_form.nd rfl (.inl rfl) (.inr rfl)) (pss_cons (ps_set (i := 5) sc_one_form.nd rfl (.inl rfl) (pe_call G1 (hr.mono (by first | decide | omega)) rfl T.g_block_words k1 b1 .nil pass0 (pa_cons (pv 0) (pa_cons (pe_fld (pv 4) rfl) pa_nil))) (hf := (.inr rfl)))
      (pss_one (ps_expr (pe_bm PySem.F.plainAttrs_list PySem.F.slot_list_append PySem.F.type_list_append mt_append (pv 1) (pa_cons (pe_op op_add_str (pe_op op_add_str (pe_op op_add_str (pe_op op_add_str (pe_op op_add_str (pe_op op_add_str pe_str (pe_fld (pv 4) rfl)) pe_str) (pe_callTy call_str_int rfl T.n_str (by decide +kernel) (pa_cons (pe_fld (pv 4) rfl) pa_nil))) pe_str) (pv 5)) pe_str) pa_nil))))))
      (pss_cons (ps_expr (pe_bm PySem.F.plainAttrs_list PySem.F.slot_list_append PySem.F.type_list_append mt_append (pv 1) (pa_cons (pe_op op_add_str (pe_op op_add_str pe_str (pe_call G0 (hr.mono (by first | decide | omega)) rfl T.g_listed k0 b0 .nil pass0 (pa_cons (pe_lc (own := [("entry", 6)]) rfl sc_one_form.nd (pi_list (pe_fld (pv 0) rfl)) (blkOk_by (own := [("entry", 6)]) (N := ["program", "lines", "name", "words", "part", "block", "entry"]) (sc := defScope s_one_form) (by decide +kernel)) (fun _ _ _ _ _ => (pg_name (i := 6) sc_one_form.nd rfl (.inl rfl) (.inr rfl))) (fun _ _ _ _ _ => pts_nil) (fun _ _ _ _ _ => (show PE _ _ (tFld K _ _) from by exact (pe_fld (show PE _ _ (tOp (rIxL K) _ _) from by exact (pe_ix ix_list (show PE _ _ (tFld K _ _) from by exact (pe_fld (pv 0) rfl)) (pv 6) (fun _ _ => rfl))) rfl)))) pa_nil))) pe_str) pa_nil)))
      (pss_one (ps_ret (pe_join pe_str (pv 1)))))))), ?_⟩
  obtain ⟨_, rfl, p, pr, rfl, hP, g, kk⟩ := h
  obtain ⟨dx, ls, lp, le, vs, ws, hp⟩ := id hP
  have hns := g.nsets
  have hnp := g.nparts
  obtain ⟨m1, m2, m3, m4, m5⟩ := lens2
  obtain ⟨l1, l2, l3, l4, l5, l6, l7, l8, l9, l10, l11, l12, l13⟩ := lens
  have hvl : vs.length = pr.sets.length := Paired.length hp.sets
  have hwl : ws.length = pr.parts.length := Paired.length hp.parts
  refine ⟨by show 0 ≤ sizeLine; decide, fun D hD => ?_⟩
  have sD : Same H (upd H D (.lst [])) := Same.new hD
  refine ⟨_, rfl, p, _, dx, _, _, rfl, sD _ _ hp.ins, T.c_Program, T.na_Program_settings, l_Program_settings, ls, rfl, ⟨vs, SqL.of (sD _ _ hp.sl)⟩, ?_⟩
  refine for_list (K := K) (a := ls) (xs := vs) (fun i σ H' => ∃ a b, σ = [some (.ref p), some (.ref D), a, b, none, none, none] ∧ Same H H' ∧ H' D = some (.lst (strL ((pr.sets.map setLine).take i)))) ⟨none, none, rfl, sD, upd_same⟩ (fun i σ H' _ ⟨_, _, _, e, _⟩ => SqL.of (e _ _ hp.sl)) ?_ ?_
  · rintro i x σ H1 hx ⟨a, b, rfl, e1, hd1⟩
    obtain ⟨s, hs, t, lw, rfl, ht, hlw⟩ := Paired.at_ hp.sets hx
    have hsm := List.mem_of_getElem? hs
    have hn16 := g.sname16 s hsm
    obtain ⟨hc1, hc2⟩ := commas_len (g.vals s hsm).2.2 (g.vals s hsm).2.1
    refine ⟨t, _, rfl, SqT.of (e1 _ _ ht), rfl, _, _, rfl, _, _, rfl, rfl, ?_⟩
    refine ⟨_, rfl, .inl ⟨rfl, _, SqL.of hd1⟩, _, rfl, ?_⟩
    refine ⟨S (word "set "), S (s.name), t_set, rfl, szS (by first | omega | (simp only [List.length_append, List.length_singleton]; omega)), ?_⟩
    rw [S_append]
    refine ⟨S (word "set " ++ s.name), S (word " : "), rfl, t_col, szS (by first | omega | (simp only [List.length_append, List.length_singleton]; omega)), ?_⟩
    rw [S_append]
    refine ⟨_, rfl, _, rfl, lw, s.values, rfl, e1 _ _ hlw, by omega, ?_⟩
    refine ⟨S (word "set " ++ s.name ++ word " : "), S (Vakepa.commas s.values), rfl, rfl, szS (by first | omega | (simp only [List.length_append, List.length_singleton]; omega)), ?_⟩
    rw [S_append]
    refine ⟨S (word "set " ++ s.name ++ word " : " ++ Vakepa.commas s.values), S (word " ;" ++ [10]), rfl, t_end, szS (by first | omega | (simp only [List.length_append, List.length_singleton]; omega)), ?_⟩
    rw [S_append]
    have hi : i < pr.sets.length := (List.getElem?_eq_some_iff.mp hs).1
    refine ⟨D, _, _, rfl, rfl, hd1, szl (by rw [strL_ln, List.length_take]; omega), _, _, rfl, L2.Same.mut e1 hD, ?_⟩
    have hsl : (pr.sets.map setLine)[i]? = some (setLine s) := by rw [List.getElem?_map, hs]; rfl
    rw [upd_same, strL_app, take_more hsl]
    rfl
  rintro σ H2 ⟨a, b, rfl, e2, hd2⟩
  rw [hvl, ← List.length_map (f := setLine), List.take_length] at hd2
  refine ⟨_, rfl, p, _, dx, _, _, rfl, e2 _ _ hp.ins, T.c_Program, T.na_Program_parts, l_Program_parts, lp, rfl, ⟨ws, SqL.of (e2 _ _ hp.pl)⟩, ?_⟩
  refine for_list (K := K) (a := lp) (xs := ws) (fun i σ H' => ∃ c d, σ = [some (.ref p), some (.ref D), a, b, c, d, none] ∧ Same H H' ∧ H' D = some (.lst (strL (pr.sets.map setLine ++ (pr.parts.map (partLine pr)).take i)))) ⟨none, none, rfl, e2, by rw [List.take_zero, List.append_nil]; exact hd2⟩ (fun i σ H' _ ⟨_, _, _, e, _⟩ => SqL.of (e _ _ hp.pl)) ?_ ?_
  · rintro i x σ H3 hx ⟨c, d, rfl, e3, hd3⟩
    obtain ⟨y, hy, pa, da, l, xs, rfl, ha, hl, hst⟩ := Paired.at_ hp.parts hx
    have hym := List.mem_of_getElem? hy
    obtain ⟨g1, g2, g3, g4, g5, g6⟩ := g.parts y hym
    obtain ⟨n1, n2, n3⟩ := nat2 y.size g2
    have hbl := (partLine_len g hym).2
    have hsl0 := show_len g g4
    have hi : i < pr.parts.length := (List.getElem?_eq_some_iff.mp hy).1
    refine ⟨_, rfl, _, rfl, pa, _, da, _, _, rfl, e3 _ _ ha, T.c_Part, T.na_Part_statements, l_Part_statements, _, _, rfl, p, pr, y.body, l, xs, rfl, rfl, hP.same e3, g, e3 _ _ hl, hst.same e3, g4, by omega, g5, fun H4 e4 => ?_⟩
    have e34 := Same.trans e3 e4
    have hd4 := e4 _ _ hd3
    refine ⟨_, rfl, .inl ⟨rfl, _, SqL.of hd4⟩, ?_⟩
    refine ⟨_, rfl, pa, _, da, _, _, rfl, e34 _ _ ha, T.c_Part, T.na_Part_name, l_Part_name, ?_⟩
    refine ⟨S (word "part "), S (y.name), t_part, rfl, szS (by first | omega | (simp only [List.length_append, List.length_singleton]; omega)), ?_⟩
    rw [S_append]
    refine ⟨S (word "part " ++ y.name), S (word " size "), rfl, t_size, szS (by first | omega | (simp only [List.length_append, List.length_singleton]; omega)), ?_⟩
    rw [S_append]
    refine ⟨_, rfl, pa, _, da, _, _, rfl, e34 _ _ ha, T.c_Part, T.na_Part_size, l_Part_size, _, rfl, n3, ?_⟩
    rw [n2]
    refine ⟨S (word "part " ++ y.name ++ word " size "), S (showNat y.size), rfl, rfl, szS (by first | omega | (simp only [List.length_append, List.length_singleton]; omega)), ?_⟩
    rw [S_append]
    refine ⟨S (word "part " ++ y.name ++ word " size " ++ showNat y.size), S ([32]), rfl, t_sp, szS (by first | omega | (simp only [List.length_append, List.length_singleton]; omega)), ?_⟩
    rw [S_append]
    refine ⟨_, rfl, ?_⟩
    refine ⟨S (word "part " ++ y.name ++ word " size " ++ showNat y.size ++ [32]), S (word "{ " ++ Vakepa.showStmt pr y.body), rfl, rfl, szS (by first | omega | (simp only [List.length_append, List.length_singleton]; omega)), ?_⟩
    rw [S_append]
    refine ⟨S (word "part " ++ y.name ++ word " size " ++ showNat y.size ++ [32] ++ (word "{ " ++ Vakepa.showStmt pr y.body)), S ([10]), rfl, t_nl, szS (by first | omega | (simp only [List.length_append, List.length_singleton]; omega)), ?_⟩
    rw [S_append]
    refine ⟨D, _, _, rfl, rfl, hd4, szl (by rw [strL_ln, List.length_append, List.length_map, List.length_take, List.length_map]; omega), _, _, rfl, L2.Same.mut e34 hD, ?_⟩
    have hsl : (pr.parts.map (partLine pr))[i]? = some (partLine pr y) := by rw [List.getElem?_map, hy]; rfl
    rw [upd_same, strL_app, take_more hsl, List.append_assoc (pr.sets.map setLine)]
    rfl
  rintro σ H3 ⟨c, d, rfl, e3, hd3⟩
  rw [hwl, ← List.length_map (f := partLine pr), List.take_length] at hd3
  obtain ⟨hc1, hc2⟩ := names_commas g
  have hst4 := g.nstarts
  refine ⟨_, rfl, .inl ⟨rfl, _, SqL.of hd3⟩, ?_⟩
  refine ⟨_, rfl, p, _, dx, _, _, rfl, e3 _ _ hp.ins, T.c_Program, T.na_Program_entries, l_Program_entries, le, rfl, ⟨_, SqL.of (e3 _ _ hp.el)⟩, fun D2 hD2 => ?_⟩
  refine lc_pure (K := K) (xs := natL pr.starts) (fun i => (pr.starts[i]?).map fun k => V.str (S (Vakepa.nameOf pr k))) (SqL.of (e3 _ _ hp.el)) hD2 (szl (by rw [natL_len]; omega)) (fun i x H4 hx e4 Kt Kf kt kf => ?_) fun H4 e4 hd4 => ?_
  · have hi : i < pr.starts.length := by have := (List.getElem?_eq_some_iff.mp hx).1; rwa [natL_len] at this
    rw [natL_at (List.getElem?_eq_getElem hi)] at hx
    have ex := Option.some.inj hx
    subst ex
    obtain ⟨dx2, ls2, lp2, le2, ws2, a2, da2, nm2, z2, lx2, xs2, h1, h2, h3, h4, h5, h6, h7, h8⟩ := hP.body (g.starts.2 _ (List.getElem_mem hi))
    have e34 := Same.trans e3 e4
    refine ⟨rfl, _, rfl, p, _, dx2, _, _, rfl, e34 _ _ h1, T.c_Program, T.na_Program_parts, l_Program_parts, ?_⟩
    refine ⟨_, rfl, lp2, ws2, _, _, rfl, rfl, SqL.of (e34 _ _ h2), atI_n h3, a2, _, da2, _, _, rfl, e34 _ _ h4, T.c_Part, T.na_Part_name, l_Part_name, kt _ _ ?_ (Same.refl _)⟩
    rw [List.getElem?_eq_getElem hi, h8]
    rfl
  rw [picks_at (natL_len _)] at hd4
  have eN : pr.starts.map (fun k => V.str (S (Vakepa.nameOf pr k))) = strL (pr.starts.map (Vakepa.nameOf pr)) := by unfold strL; rw [List.map_map]; rfl
  rw [eN] at hd4
  have e34 := Same.trans e3 e4
  refine ⟨_, rfl, D2, _, rfl, hd4, by omega, ?_⟩
  refine ⟨S (word "start "), S (Vakepa.commas (pr.starts.map (Vakepa.nameOf pr))), t_start, rfl, szS (by first | omega | (simp only [List.length_append, List.length_singleton]; omega)), ?_⟩
  rw [S_append]
  refine ⟨S (word "start " ++ Vakepa.commas (pr.starts.map (Vakepa.nameOf pr))), S (word " ;" ++ [10]), rfl, t_end, szS (by first | omega | (simp only [List.length_append, List.length_singleton]; omega)), ?_⟩
  rw [S_append]
  have hd3' := e4 _ _ hd3
  refine ⟨D, _, _, rfl, rfl, hd3', szl (by rw [strL_ln, List.length_append, List.length_map, List.length_map]; omega), ?_⟩
  have eF : strL (pr.sets.map setLine ++ pr.parts.map (partLine pr)) ++ [V.str (S (word "start " ++ Vakepa.commas (pr.starts.map (Vakepa.nameOf pr)) ++ (word " ;" ++ [10])))] = strL (linesOf pr) := by
    rw [strL_app]
    unfold linesOf startLine
    rw [List.append_assoc]
  rw [eF]
  refine ⟨⟨_, rfl⟩, _, rfl, S [], D, (linesOf pr).map S, t_empty, rfl, .inl (SqL.of (by rw [← strL_map]; exact upd_same)), szJ (by have := lines_len g; show _ + _ * 0 ≤ _; omega), ?_⟩
  rw [TL.join_eq, S_join, joined_nil, ← shown_eq]
  exact kk _ (L2.Same.mut e34 hD)
end
end Wk
set_option maxHeartbeats 2000000
namespace Wk
open PySem PySem.Spec PyProof.Rows L2
open Vakepa (Prog)
/-! ### what stays when an object of another kind is taken away -/
section
variable {pr : Prog} {G G' : Hp} {K : PySem.W.Frag}
theorem SetV.tl (kt : ∀ b xs, G b = some (.tup xs) → G' b = some (.tup xs)) (kl : ∀ b xs, G b = some (.lst xs) → G' b = some (.lst xs)) {v : V} {s : Vakepa.Setting} (h : SetV G v s) : SetV G' v s := let ⟨t, l, a, b, c⟩ := h; ⟨t, l, a, kt _ _ b, kl _ _ c⟩
theorem StV.tl (kt : ∀ b xs, G b = some (.tup xs) → G' b = some (.tup xs)) (kl : ∀ b xs, G b = some (.lst xs) → G' b = some (.lst xs)) : ∀ {s : Stm} {xs : List V}, StV pr G s xs → StV pr G' s xs
  | .done, _, h => h
  | .say _ _, _, ⟨t, ys, a, b, c⟩ => ⟨t, ys, a, kt _ _ b, c.tl kt kl⟩
  | .call _ _, _, ⟨t, ys, a, b, c⟩ => ⟨t, ys, a, kt _ _ b, c.tl kt kl⟩
  | .make _ _, _, ⟨t, ys, a, ⟨l, b, b2⟩, c⟩ => ⟨t, ys, a, ⟨l, kt _ _ b, kl _ _ b2⟩, c.tl kt kl⟩
  | .when_ _ _ _ _, _, ⟨t, ys, a, ⟨l, zs, b, b2, b3⟩, c⟩ => ⟨t, ys, a, ⟨l, zs, kt _ _ b, kl _ _ b2, b3.tl kt kl⟩, c.tl kt kl⟩
theorem Pg.tl (kt : ∀ b xs, G b = some (.tup xs) → G' b = some (.tup xs)) (kl : ∀ b xs, G b = some (.lst xs) → G' b = some (.lst xs)) (ki : ∀ b C dx fs, fs.length = 3 → G b = some (.ins C dx fs) → G' b = some (.ins C dx fs)) {p : Addr} (h : Pg K pr G p) : Pg K pr G' p := by
  obtain ⟨dx, ls, lp, le, vs, ws, h⟩ := h
  refine ⟨dx, ls, lp, le, vs, ws, ki _ _ _ _ rfl h.ins, kl _ _ h.sl, Paired.mapP h.sets fun _ _ q => q.tl kt kl, kl _ _ h.pl, Paired.mapP h.parts fun _ _ q => ?_, kl _ _ h.el⟩
  obtain ⟨a, dx, l, xs, h1, h2, h3, h4⟩ := q
  exact ⟨a, dx, l, xs, h1, ki _ _ _ _ rfl h2, kl _ _ h3, h4.tl kt kl⟩
end
/-- the desk's own object is none of Reached's -/
theorem RcAt.delDesk {P : Program} {w : World} {K : PySem.W.Frag} {pr : Prog} {G H : Hp} {r p kn d C dd : Addr} {fs : List (Str × V)} {es : List Ent} (h : RcAt P w K pr G H r p kn es) (hd : H d = some (.ins C dd fs)) (hf : fs.length = 2) : RcAt P w K pr (del G d) H r p kn es := by
  have ne : ∀ {b : Addr} {o : HO}, G b = some o → (∀ C dd fs, o = .ins C dd fs → fs.length ≠ 2) → b ≠ d := fun hb q z => by
    have := h.same _ _ hb
    rw [z, hd] at this
    exact q _ _ _ (Option.some.inj this).symm hf
  have k : ∀ {b : Addr} {o : HO}, G b = some o → (∀ C dd fs, o = .ins C dd fs → fs.length ≠ 2) → del G d b = some o := fun hb q => by
    rw [del_ne (ne hb q)]
    exact hb
  have kt : ∀ b xs, G b = some (.tup xs) → del G d b = some (.tup xs) := fun b xs hb => k hb fun _ _ _ z => nomatch z
  have kl : ∀ b xs, G b = some (.lst xs) → del G d b = some (.lst xs) := fun b xs hb => k hb fun _ _ _ z => nomatch z
  obtain ⟨⟨⟨dx, ts, br, h1, h2, h3⟩, hP, g, gk⟩, sm, kw, ky, nd, vl⟩ := h
  refine ⟨⟨⟨dx, ts, br, k h1 fun C dd fs z => ?_, h2.lists kl, h3.lists kl⟩, hP.tl kt kl fun b C dx fs hl hb => k hb fun C dd fs z => ?_, g, ?_⟩, fun b o hb => ?_, kw, ky, nd, vl⟩
  · injection z with _ _ z
    rw [← z]
    show 4 ≠ 2
    decide
  · injection z with _ _ z
    rw [← z, hl]
    decide
  · by_cases z : kn = d
    · rw [z, del_same]
    · rw [del_ne z]; exact gk
  · by_cases z : b = d
    · rw [z, del_same] at hb; cases hb
    · rw [del_ne z] at hb; exact sm _ _ hb
def intL (l : List Int) : List V := l.map V.int
theorem intL_len (l : List Int) : (intL l).length = l.length := List.length_map _
theorem natL_int (l : List Nat) : natL l = intL (l.map fun (k : Nat) => (k : Int)) := by unfold natL intL; rw [List.map_map]; rfl
/-- an answer as the program lists it -/
def ansL (a : VakepBase.Answer) : List V := intL (a.value :: a.rest)
section
variable {P : Program} {w : World} {K : PySem.W.Frag} {mg : Str → Option Value} {base : Heap}
/-- a call is refused; what H has is kept -/
def RefE (K : PySem.W.Frag) (E : XK) (H : Hp) (n : Int) : Prop := ∀ (d : Addr) (H' : Hp) (fs : List (Str × V)), Same H H' → H' d = some (.xd fs) → List.lookup ("number" : Str) fs = some (V.int n) → E (.ref (cRefused K)) (some d) H'
theorem RefE.mono {E : XK} {H H1 : Hp} {n : Int} (h : RefE K E H n) (e : Same H H1) : RefE K E H1 n := fun d H' fs e2 => h d H' fs (Same.trans e e2)
def spRefInit (K : PySem.W.Frag) : Sp := Sp2 fun s x H Q _ => ∃ a, s = .ref a ∧ OexC K (cRefused K) ∧ H a = some (exo a (cRefused K) none) ∧
  ∀ dx, H dx = none → dx ≠ a → Q .non (upd (upd H dx (exd dx [("number", x)])) a (exo a (cRefused K) (some dx)))
theorem sc_Refused___init__ : FnScope ["self", "number"] ["self", "number"] (defScope s_Refused___init__) := ⟨rfl, rfl, rfl, by decide +kernel, rfl, by decide +kernel, by decide +kernel⟩
theorem ok_Refused___init__ (T : Tx K mg) : FK P w K mg base CX0 (1) (He.ma K (He.ga K "Refused") "__init__") ["self", "number"] (spRefInit K) := by
  obtain ⟨fd, F⟩ := T.f_Refused___init__
  refine ⟨fd, F.ok sc_Refused___init__ (fun vs H Q E h => Sp2.len h) (fun cdv A outer s H vs Q E hr h => ?body), F.bindsN (fun _ _ _ _ _ _ us hl => match us, hl with | [_, _], _ => rfl), F.kp⟩
  refine ⟨_, PSs.nox (pss_cons (ps_expr (pe_veinit rfl T.n_ValueError T.vei (pa_cons (pv 0) (pa_cons pe_str pa_nil))))
      (pss_one (ps_ost (pv 0) (pv 1)))), ?_⟩
  obtain ⟨_, x, rfl, a, rfl, hC, ha, kk⟩ := h
  refine ⟨_, rfl, a, cRefused K, _, rfl, by decide, hC, ha, ?_⟩
  exact ⟨_, rfl, _, rfl, a, cRefused K, rfl, hC, T.na_Refused_number, .inl ⟨ha, fun dx hdx nd => kk dx hdx nd⟩⟩
theorem refused_made (T : Tx K mg) {E : XK} {H : Hp} {n : Int} (h : RefE K E H n) : ([.int n] : List V).length ≤ 1000 ∧ ∀ a, H a = none → spRefInit K (.ref a :: ([.int n] ++ [])) (upd H a (exo a (cRefused K) none))
    (fun v H2 => v = .non ∧ ∃ (d : Addr) (fs : List (Str × V)), H2 a = some (exo a (cRefused K) (some d)) ∧ H2 d = some (exd d fs) ∧ H d = none ∧ E (.ref (cRefused K)) (some d) (upd (del H2 a) d (.xd fs))) (fun _ _ _ => False) := by
  refine ⟨by show 1 ≤ 1000; decide, fun a ha => ⟨_, _, rfl, a, rfl, T.e_Refused.oc, upd_same, fun dx hdx nd => ⟨rfl, dx, _, upd_same, (upd_ne nd).trans upd_same, ?_, h dx _ _ ?_ upd_same lk_here⟩⟩⟩
  · rwa [upd_ne nd] at hdx
  · intro b o hb
    have n1 : b ≠ a := ne_of_none hb ha
    have n2 : b ≠ dx := ne_of_none hb (by rwa [upd_ne nd] at hdx)
    rw [upd_ne n2, del_ne n1, upd_ne n1, upd_ne n2, upd_ne n1]
    exact hb
def spWant (K : PySem.W.Frag) : Sp := Sp2 fun x y H Q E => ∃ b n, x = .bl b ∧ y = .int n ∧ (b = false → RefE K E H n) ∧ (b = true → Q .non H)
theorem sc_want : FnScope ["truth", "number"] ["truth", "number"] (defScope s_want) := ⟨rfl, rfl, rfl, by decide +kernel, rfl, by decide +kernel, by decide +kernel⟩
theorem ok_want (T : Tx K mg) : FK P w K mg base (L2.CX P w) (3) (He.ga K "want") ["truth", "number"] (spWant K) := by
  obtain ⟨fd, F⟩ := T.f_want
  obtain ⟨fd0, G0, b0, k0⟩ := ok_Refused___init__ (P := P) (w := w) (base := base) T
  refine ⟨fd, F.ok sc_want (fun vs H Q E h => Sp2.len h) (fun cdv A outer s H vs Q E hr h => ?body), F.bindsN (fun _ _ _ _ _ _ us hl => match us, hl with | [_, _], _ => rfl), F.kp⟩
  refine ⟨_, (pss_one (ps_if (pt_not (pt_val (pv 0))) (pss_one (ps_raise rfl (takes_of rfl rfl rfl rfl) (pmk_oex T.e_Refused.oc T.e_Refused.ini T.e_Refused.tin G0 (hr.mono (by first | decide | omega)) b0 .nil pass0 rfl T.g_Refused (pa_cons (pv 1) pa_nil)))) pss_nil)), ?_⟩
  obtain ⟨_, _, rfl, b, n, rfl, rfl, kf, kk⟩ := h
  refine ⟨_, rfl, b, rfl, ?_⟩
  cases b with
  | true => exact kk rfl
  | false => exact ⟨_, rfl, refused_made T (kf rfl)⟩
def spTold (K : PySem.W.Frag) : Sp := Sp1 fun x H Q _ => ∃ q xs, x = .ref q ∧ H q = some (.lst xs) ∧ xs.length ≤ 16000000 ∧ ∀ q' H', H q' = none → Same H H' → H' q' = some (.lst (.int ((xs.length : Nat) : Int) :: xs)) → Q (.ref q') H'
theorem sc_told : FnScope ["numbers"] ["numbers"] (defScope s_told) := ⟨rfl, rfl, rfl, by decide +kernel, rfl, by decide +kernel, by decide +kernel⟩
theorem ok_told (T : Tx K mg) : FK P w K mg base CX0 (1) (He.ga K "told") ["numbers"] (spTold K) := by
  obtain ⟨fd, F⟩ := T.f_told
  refine ⟨fd, F.ok sc_told (fun vs H Q E h => Sp1.len h) (fun cdv A outer s H vs Q E hr h => ?body), F.bindsN (fun _ _ _ _ _ _ us hl => match us, hl with | [_], _ => rfl), F.kp⟩
  refine ⟨_, PSs.nox (pss_one (ps_ret (pe_op op_cat (pe_lst (pa_cons (pe_callB call_lenK rfl T.n_len boot_len (pa_cons (pv 0) pa_nil)) pa_nil)) (pv 0)))), ?_⟩
  obtain ⟨_, rfl, q, xs, rfl, hq, hz, kk⟩ := h
  refine ⟨_, rfl, q, xs, rfl, .inl (SqL.of hq), by show 1 ≤ sizeLine; decide, fun q1 hq1 => ?_⟩
  have e1 : Same H (upd H q1 (.lst [.int ((xs.length : Nat) : Int)])) := Same.new hq1
  refine ⟨_, rfl, q1, q, _, _, rfl, rfl, upd_same, e1 _ _ hq, ?_, fun q2 hq2 => ?_⟩
  · show 1 + xs.length ≤ 16777216
    omega
  · exact kk q2 _ (gone e1 hq2) (Same.trans e1 (Same.new hq2)) upd_same
/-- the desk with a program -/
structure DeskAt (P : Program) (w : World) (K : PySem.W.Frag) (pr : Prog) (G H : Hp) (d dd p r kn : Addr) (es : List Ent) : Prop where
  ins : H d = some (.ins (cDesk K) dd (F_Desk (.ref p) (.ref r)))
  rc : RcAt P w K pr G H r p kn es
theorem dH_ni {a C dx : Addr} {fs : List (Str × V)} {es : List Ent} : HO.ins C dx fs ≠ dH P w a es := fun z => nomatch (show HO.ins C dx fs = HO.ext _ from z)
theorem DeskAt.go {pr : Prog} {G H H' : Hp} {d dd p r kn : Addr} {es es' : List Ent} (h : DeskAt P w K pr G H d dd p r kn es) (k : Keep kn H H') (r' : RcAt P w K pr G H' r p kn es') : DeskAt P w K pr G H' d dd p r kn es' :=
  ⟨k _ _ h.ins (ne_of h.ins h.rc.known dH_ni), r'⟩
theorem DeskAt.same {pr : Prog} {G H H' : Hp} {d dd p r kn : Addr} {es : List Ent} (h : DeskAt P w K pr G H d dd p r kn es) (e : Same H H') : DeskAt P w K pr G H' d dd p r kn es := h.go (Keep.of e) (h.rc.same' e)
theorem index_some {i : Int} {n : Nat} : VakepBase.index i n = if 0 ≤ i ∧ i < (n : Int) then some i.toNat else none := rfl
def spWantMode (P : Program) (w : World) (K : PySem.W.Frag) : Sp := Sp3 fun s x y H Q E => ∃ m n, x = .int m ∧ y = .int ((n : Nat) : Int) ∧ (VakepBase.index m n = none → RefE K E H (-2)) ∧ (∀ k, VakepBase.index m n = some k → m = (k : Int) → k < n → Q .non H)
theorem sc_Desk_want_mode : FnScope ["self", "mode", "many"] ["self", "mode", "many"] (defScope s_Desk_want_mode) := ⟨rfl, rfl, rfl, by decide +kernel, rfl, by decide +kernel, by decide +kernel⟩
theorem ok_Desk_want_mode (T : Tx K mg) : FK P w K mg base (L2.CX P w) (4) (He.ma K (He.ga K "Desk") "want_mode") ["self", "mode", "many"] (spWantMode P w K) := by
  obtain ⟨fd, F⟩ := T.f_Desk_want_mode
  obtain ⟨fd0, G0, b0, k0⟩ := ok_want (P := P) (w := w) (base := base) T
  refine ⟨fd, F.ok sc_Desk_want_mode (fun vs H Q E h => Sp3.len h) (fun cdv A outer s H vs Q E hr h => ?body), F.bindsN (fun _ _ _ _ _ _ us hl => match us, hl with | [_, _, _], _ => rfl), F.kp⟩
  refine ⟨_, (pss_one (ps_expr (pe_call G0 (hr.mono (by first | decide | omega)) rfl T.g_want k0 b0 .nil passR (pa_cons (pe_chain op_le op_lt pe_int (pv 1) (pv 2)) (pa_cons (C8.pe_gc rfl T.k_NO_MODE) pa_nil))))), ?_⟩
  obtain ⟨_, _, _, rfl, m, n, rfl, rfl, kf, kk⟩ := h
  rw [index_some] at kf kk
  have key : ∀ b : Bool, b = decide (0 ≤ m ∧ m < (n : Int)) → spWant K [.bl b, .int (-2)] H (fun _ H' => Q .non H') E := by
    intro b hb
    refine ⟨_, _, rfl, b, -2, rfl, rfl, fun z => kf ?_, fun z => ?_⟩
    · rw [z] at hb
      rw [if_neg (of_decide_eq_false hb.symm)]
    · rw [z] at hb
      have hc := of_decide_eq_true hb.symm
      exact kk m.toNat (if_pos hc) (by omega) (by omega)
  refine ⟨_, rfl, _, _, rfl, rfl, _, rfl, ?_⟩
  show if decide ((0 : Int) ≤ m) = true then _ else _
  by_cases h0 : (0 : Int) ≤ m
  · rw [if_pos (decide_eq_true h0)]
    refine ⟨_, rfl, _, _, rfl, rfl, key _ ?_⟩
    rw [decide_eq_decide]
    exact ⟨fun z => ⟨h0, z⟩, fun z => z.2⟩
  · rw [if_neg fun z => h0 (of_decide_eq_true z)]
    exact key false (decide_eq_false fun z => h0 z.1).symm
def spWantParts (P : Program) (w : World) (K : PySem.W.Frag) : Sp := Sp2 fun s x H Q E => ∃ pr G d dd p r kn es q zs, s = .ref d ∧ x = .ref q ∧ DeskAt P w K pr G H d dd p r kn es ∧ H q = some (.lst (intL zs)) ∧ zs.length ≤ 10 ∧
  ((∃ z ∈ zs, VakepBase.index z pr.parts.length = none) → RefE K E H (-4)) ∧ ((∀ z ∈ zs, ∃ k, VakepBase.index z pr.parts.length = some k ∧ z = (k : Int) ∧ k < pr.parts.length) → ∀ H', Same H H' → Q .non H')
theorem sc_Desk_want_parts : FnScope ["self", "numbers", "number"] ["self", "numbers"] (defScope s_Desk_want_parts) := ⟨rfl, rfl, rfl, by decide +kernel, rfl, by decide +kernel, by decide +kernel⟩
theorem ok_Desk_want_parts (T : Tx K mg) : FK P w K mg base (L2.CX P w) (4) (He.ma K (He.ga K "Desk") "want_parts") ["self", "numbers"] (spWantParts P w K) := by
  obtain ⟨fd, F⟩ := T.f_Desk_want_parts
  obtain ⟨fd0, G0, b0, k0⟩ := ok_want (P := P) (w := w) (base := base) T
  refine ⟨fd, F.ok sc_Desk_want_parts (fun vs H Q E h => Sp2.len h) (fun cdv A outer s H vs Q E hr h => ?body), F.bindsN (fun _ _ _ _ _ _ us hl => match us, hl with | [_, _], _ => rfl), F.kp⟩
  refine ⟨_, (pss_one (ps_expr (pe_call G0 (hr.mono (by first | decide | omega)) rfl T.g_want k0 b0 .nil passR (pa_cons (pe_callB (cr_all rfl) rfl T.n_all (by decide +kernel) (pa_cons (pe_lc (own := [("number", 2)]) rfl sc_Desk_want_parts.nd (pi_list (pv 1)) (blkOk_by (own := [("number", 2)]) (N := ["self", "numbers", "number"]) (sc := defScope s_Desk_want_parts) (by decide +kernel)) (fun _ _ _ _ _ => (pg_name (i := 2) sc_Desk_want_parts.nd rfl (.inl rfl) (.inr rfl))) (fun _ _ _ _ _ => pts_nil) (fun _ _ _ _ _ => (pe_chain op_le op_lt pe_int (pv 2) (show PE _ _ (tCB (rLenK K) _) from by exact (pe_callB call_lenK rfl T.n_len boot_len (pa_cons (show PE _ _ (tFld K _ _) from by exact (pe_fld (show PE _ _ (tFld K _ _) from by exact (pe_fld (pv 0) rfl)) rfl)) pa_nil)))))) pa_nil)) (pa_cons (C8.pe_gc rfl T.k_NO_PART_parts) pa_nil))))), ?_⟩
  obtain ⟨_, _, rfl, pr, G, d, dd, p, r, kn, es, q, zs, rfl, rfl, hD, hq, hzz, kf, kk⟩ := h
  obtain ⟨dx, ls, lp, le, vs, ws, hp⟩ := id hD.rc.fix.pg
  have hwl : ws.length = pr.parts.length := Paired.length hp.parts
  have sm := hD.rc.same
  refine ⟨_, rfl, q, rfl, ⟨_, SqL.of hq⟩, fun D hDn => ?_⟩
  refine lc_pure (K := K) (xs := intL zs) (fun i => (zs[i]?).map fun z => V.bl (decide (0 ≤ z ∧ z < (pr.parts.length : Int)))) (SqL.of hq) hDn (szl (by rw [intL_len]; omega)) (fun i x H1 hx e1 Kt Kf kt kf' => ?_) fun H1 e1 hd1 => ?_
  · have hi : i < zs.length := by have := (List.getElem?_eq_some_iff.mp hx).1; rwa [intL_len] at this
    have hzi := List.getElem?_eq_getElem hi
    unfold intL at hx
    rw [List.getElem?_map, hzi] at hx
    have ex := Option.some.inj hx
    subst ex
    generalize zs[i] = z at hzi
    have h1 := hD.same e1
    have sm1 := h1.rc.same
    refine ⟨rfl, _, rfl, _, _, rfl, rfl, _, rfl, ?_⟩
    show if decide ((0 : Int) ≤ z) = true then _ else _
    by_cases h0 : (0 : Int) ≤ z
    · rw [if_pos (decide_eq_true h0)]
      refine ⟨_, rfl, d, _, dd, _, _, rfl, h1.ins, T.c_Desk, T.na_Desk_program, l_Desk_program, p, _, dx, _, _, rfl, sm1 _ _ hp.ins, T.c_Program, T.na_Program_parts, l_Program_parts, lp, ws, rfl, .inl (SqL.of (sm1 _ _ hp.pl)), _, _, rfl, rfl, kt _ _ ?_ (Same.refl _)⟩
      rw [hzi, hwl]
      show some (V.bl _) = some (V.bl _)
      congr 2
      rw [decide_eq_decide]
      exact ⟨fun z => z.2, fun z => ⟨h0, z⟩⟩
    · rw [if_neg fun z => h0 (of_decide_eq_true z)]
      refine kt _ _ ?_ (Same.refl _)
      rw [hzi]
      show some (V.bl _) = some (V.bl _)
      rw [decide_eq_false fun z => h0 z.1]
  rw [picks_at (intL_len _)] at hd1
  refine ⟨D, zs.map fun z => decide (0 ≤ z ∧ z < (pr.parts.length : Int)), rfl, SqL.of (by rw [List.map_map]; exact hd1), ?_⟩
  refine ⟨_, _, rfl, (zs.map fun z => decide (0 ≤ z ∧ z < (pr.parts.length : Int))).all id, -4, rfl, rfl, fun z => (kf ?_).mono e1, fun z => kk (fun y hy => ?_) H1 e1⟩
  · rw [List.all_map] at z
    obtain ⟨y, hy, hc⟩ := List.all_eq_false.mp z
    exact ⟨y, hy, by rw [index_some, if_neg fun q => hc (decide_eq_true q)]⟩
  · rw [List.all_map] at z
    have hc := of_decide_eq_true (List.all_eq_true.mp z y hy)
    exact ⟨y.toNat, by rw [index_some, if_pos hc], by omega, by omega⟩
end
end Wk
set_option maxHeartbeats 2000000
namespace Wk
open PySem PySem.Spec PyProof.Rows L2
open Vakepa (Prog)
open VakepBase (one index)
/-! ### how long chains are -/
theorem push_chain {c : List Nat} {L : Nat} (hc : c.length ≤ L) : ∀ (xs : List Nat) (y : List Nat × List (List Nat)), (∀ x ∈ y.2, x.length ≤ L + 1) → ∀ x ∈ (xs.foldl (pushC c) y).2, x.length ≤ L + 1
  | [], _, h => h
  | k :: r, y, h => push_chain hc r _ fun x hx => by
    unfold pushC at hx
    split at hx
    · exact h x hx
    · rcases List.mem_append.mp hx with z | z
      · exact h x z
      · rw [List.mem_singleton.mp z, List.length_append]
        show c.length + 1 ≤ L + 1
        omega
theorem step_chain {t : List (List Nat)} {L : Nat} : ∀ (cs : List (List Nat)) (y : List Nat × List (List Nat)), (∀ c ∈ cs, c.length ≤ L) → (∀ x ∈ y.2, x.length ≤ L + 1) → ∀ x ∈ (cs.foldl (stepC t) y).2, x.length ≤ L + 1
  | [], _, _, h => h
  | c :: r, y, hc, h => step_chain r _ (fun x hx => hc x (List.mem_cons_of_mem _ hx)) (push_chain (hc c List.mem_cons_self) _ y h)
theorem chain_len {t : List (List Nat)} {goal : Nat} : ∀ (f L : Nat) (s : List Nat) (cs : List (List Nat)) (c : List Nat), Vakepb.chainBy t goal f s cs = some c → (∀ x ∈ cs, x.length ≤ L) → c.length ≤ L + f
  | 0, _, _, _, _, h, _ => by cases h
  | f + 1, L, s, cs, c, h, hl => by
    have h : (match cs.find? (fun c => c.getLast? == some goal) with
      | some c => some c
      | none => let x := Vakepb.grow t s cs; Vakepb.chainBy t goal f x.1 x.2) = some c := h
    cases q : cs.find? (fun c => c.getLast? == some goal) with
    | some x =>
      rw [q] at h
      have e : x = c := Option.some.inj h
      have := hl x (List.mem_of_find?_eq_some q)
      rw [← e]
      omega
    | none =>
      rw [q] at h
      have h : Vakepb.chainBy t goal f (cs.foldl (stepC t) (s, [])).1 (cs.foldl (stepC t) (s, [])).2 = some c := h
      have := chain_len f (L + 1) _ _ c h (step_chain cs (s, []) hl (by intro x hx; cases hx))
      omega
theorem chainIn_len {pr : Prog} (g : Good pr) {t : Vakepb.Next} {goal : Nat} {c : List Nat} (h : Vakepb.chainIn pr t goal = some c) : c.length ≤ 12 := by
  have := chain_len _ 1 _ _ c h fun x hx => by obtain ⟨e, _, rfl⟩ := List.mem_map.mp hx; exact Nat.le_refl _
  have := g.nparts
  omega
theorem best_len {pr : Prog} (g : Good pr) {goal : Nat} {b : Option (Nat × List Nat)} (hb : ∀ x, b = some x → x.2.length ≤ 12) (t : Vakepb.Next × Nat) : ∀ x, bestF pr goal b t = some x → x.2.length ≤ 12 := by
  intro x hx
  unfold bestF at hx
  cases hc : Vakepb.chainIn pr t.1 goal with
  | none => simp only [hc] at hx; exact hb x hx
  | some c =>
    have hl := chainIn_len g hc
    cases b with
    | none =>
      simp only [hc] at hx
      rw [← Option.some.inj hx]
      exact hl
    | some y =>
      simp only [hc] at hx
      split at hx
      · rw [← Option.some.inj hx]
        exact hl
      · exact hb x hx
theorem chainOf_len {pr : Prog} (g : Good pr) {m goal : Nat} (hm : m ≤ 1) : ∀ x, Vakepb.chainOf pr m goal = some x → x.2.length ≤ 12 := by
  have : m = 0 ∨ m = 1 := by omega
  rcases this with rfl | rfl
  · rw [chainOf_0]
    have : ∀ (l : List (Vakepb.Next × Nat)) (b : Option (Nat × List Nat)), (∀ x, b = some x → x.2.length ≤ 12) → ∀ x, l.foldl (bestF pr goal) b = some x → x.2.length ≤ 12 := by
      intro l
      induction l with
      | nil => intro b hb; exact hb
      | cons a r ih => intro b hb; exact ih _ (best_len g hb a)
    exact this _ none (by intro x hx; cases hx)
  · rw [chainOf_1]
    exact best_len g (by intro x hx; cases hx) _
theorem around_len {pr : Prog} (g : Good pr) {k goal : Nat} {c : List Nat} (h : Vakepb.around pr k goal = some c) : c.length ≤ 12 := by
  have := chain_len _ 1 _ _ c h fun x hx => by obtain ⟨e, _, rfl⟩ := List.mem_map.mp hx; exact Nat.le_refl _
  have e : pr.parts.length + 1 = ({ pr with starts := pr.starts.filter fun e => e != k } : Prog).parts.length + 1 := rfl
  have := g.nparts
  omega
section
variable {P : Program} {w : World} {K : PySem.W.Frag} {mg : Str → Option Value} {base : Heap}
/-- what a call on a program answers, or refuses -/
def AskP (P : Program) (w : World) (K : PySem.W.Frag) (pr : Prog) (G H : Hp) (p r kn : Addr) (es : List Ent) (E : XK) (Q : VK) (a : VakepBase.Answer) : Prop :=
  (∀ n, a = one n → RefE K E H n) ∧ ∀ q H' es', RcAt P w K pr G H' r p kn es' → NewE H es es' → Keep kn H H' → H' q = some (.lst (ansL a)) → H q = none → Q (.ref q) H'
theorem AskP.same {pr : Prog} {G H H1 : Hp} {p r kn : Addr} {es : List Ent} {E : XK} {Q : VK} {a : VakepBase.Answer} (h : AskP P w K pr G H p r kn es E Q a) (rc : RcAt P w K pr G H r p kn es) (e : Same H H1) : AskP P w K pr G H1 p r kn es E Q a :=
  ⟨fun n hn => (h.1 n hn).mono e, fun q H' es' r' n k hq h0 => h.2 q H' es' r' (NewE.trans (Keep.of (D := kn) e) ⟨_, (rc.same' e).known⟩ NewE.refl n) (Keep.trans (Keep.of e) k) hq (gone e h0)⟩
theorem goneK {kn q : Addr} {H H' : Hp} (k : Keep kn H H') (hk : ∃ o, H' kn = some o) (h : H' q = none) : H q = none := by
  cases x : H q with
  | none => rfl
  | some o =>
    by_cases y : q = kn
    · rw [y] at h
      obtain ⟨o2, ho⟩ := hk
      rw [ho] at h
      cases h
    · rw [k _ _ x y] at h
      cases h
theorem sizeL {n : Nat} (h : n ≤ 100000) : n ≤ sizeLine := sz h
theorem nats_natL (l : List Nat) : intL (Vakepb.nats l) = natL l := by unfold intL natL Vakepb.nats; rw [List.map_map]; rfl
theorem withMode_none {m : Int} {n : Nat} {f : Nat → VakepBase.Answer} (h : index m n = none) : Vakepb.withMode m n f = one (-2) := by unfold Vakepb.withMode; rw [h]
theorem withMode_some {m : Int} {n k : Nat} {f : Nat → VakepBase.Answer} (h : index m n = some k) : Vakepb.withMode m n f = f k := by unfold Vakepb.withMode; rw [h]
theorem withPart_none {pr : Prog} {m : Int} {f : Nat → VakepBase.Answer} (h : index m pr.parts.length = none) : Vakepa.withPart pr m f = one (-4) := by unfold Vakepa.withPart; rw [h]
theorem withPart_some {pr : Prog} {m : Int} {k : Nat} {f : Nat → VakepBase.Answer} (h : index m pr.parts.length = some k) : Vakepa.withPart pr m f = f k := by unfold Vakepa.withPart; rw [h]
def spDeskShown (P : Program) (w : World) (K : PySem.W.Frag) : Sp := Sp1 fun s H Q E => ∃ pr G d dd p r kn es, s = .ref d ∧ DeskAt P w K pr G H d dd p r kn es ∧ AskP P w K pr G H p r kn es (fun _ _ _ => True) Q (Vakepb.looked pr .shown)
def spDeskChain (P : Program) (w : World) (K : PySem.W.Frag) : Sp := Sp3 fun s x y H Q E => ∃ pr G d dd p r kn es m k, s = .ref d ∧ x = .int m ∧ y = .int k ∧ DeskAt P w K pr G H d dd p r kn es ∧ AskP P w K pr G H p r kn es E Q (Vakepb.looked pr (.chain m k))
theorem sc_Desk_chain : FnScope ["self", "mode", "k", "found"] ["self", "mode", "k"] (defScope s_Desk_chain) := ⟨rfl, rfl, rfl, by decide +kernel, rfl, by decide +kernel, by decide +kernel⟩
theorem ok_Desk_chain (T : Tx K mg) : FK P w K mg base (L2.CX P w) (13) (He.ma K (He.ga K "Desk") "chain") ["self", "mode", "k"] (spDeskChain P w K) := by
  obtain ⟨fd, F⟩ := T.f_Desk_chain
  obtain ⟨fd0, G0, b0, k0⟩ := ok_told (P := P) (w := w) (base := base) T
  obtain ⟨fd1, G1, b1, k1⟩ := ok_Reached_chain (P := P) (w := w) (base := base) T
  obtain ⟨fd2, G2, b2, k2⟩ := ok_Desk_want_parts (P := P) (w := w) (base := base) T
  obtain ⟨fd3, G3, b3, k3⟩ := ok_Desk_want_mode (P := P) (w := w) (base := base) T
  refine ⟨fd, F.ok sc_Desk_chain (fun vs H Q E h => Sp3.len h) (fun cdv A outer s H vs Q E hr h => ?body), F.bindsN (fun _ _ _ _ _ _ us hl => match us, hl with | [_, _, _], _ => rfl), F.kp⟩
  refine ⟨_, (pss_cons (ps_expr (pe_meth (pv 0) T.c_Desk T.me_Desk_want_mode G3 (hr.mono (by first | decide | omega)) b3 .nil passR (pa_cons (pv 1) (pa_cons (C8.pe_gc rfl T.k_TWO_MODES) pa_nil))))
      (pss_cons (ps_expr (pe_meth (pv 0) T.c_Desk T.me_Desk_want_parts G2 (hr.mono (by first | decide | omega)) b2 .nil passR (pa_cons (pe_lst (pa_cons (pv 2) pa_nil)) pa_nil)))
      (pss_cons (ps_set (i := 3) sc_Desk_chain.nd rfl (.inl rfl) (pe_meth (pe_fld (pv 0) rfl) T.c_Reached T.me_Reached_chain G1 (hr.mono (by first | decide | omega)) b1 .nil pass0 (pa_cons (pv 1) (pa_cons (pv 2) pa_nil))) (hf := (.inr rfl)))
      (pss_one (ps_ret (pe_ifExp (pt_cmpR op_isN (pv 3) pe_non (nomark _)) (pe_lst (pa_cons pe_int pa_nil)) (pe_op op_cat (pe_lst (pa_cons pe_int (pa_cons (pe_ix ix_tup (pv 3) pe_int (fun _ _ => rfl)) pa_nil))) (pe_call G0 (hr.mono (by first | decide | omega)) rfl T.g_told k0 b0 .nil pass0 (pa_cons (pe_ix ix_tup (pv 3) pe_int (fun _ _ => rfl)) pa_nil))))))))), ?_⟩
  obtain ⟨_, _, _, rfl, pr, G, d, dd, p, r, kn, es, m, k, rfl, rfl, rfl, hD, ha⟩ := h
  have g := hD.rc.fix.good
  have hl : Vakepb.looked pr (.chain m k) = Vakepb.withMode m 2 fun x => Vakepa.withPart pr k fun y => (match Vakepb.chainOf pr x y with
    | none => one 0
    | some c => ⟨1, (c.1 : Int) :: Vakepb.listRow c.2⟩) := rfl
  rw [hl] at ha
  refine ⟨_, rfl, d, dd, _, rfl, hD.ins, n_Desk_want_mode, _, rfl, _, _, _, rfl, m, 2, rfl, rfl, fun hi => ha.1 _ (withMode_none hi), fun x hi em hx => ?_⟩
  rw [withMode_some hi] at ha
  subst em
  refine ⟨_, rfl, d, dd, _, rfl, hD.ins, n_Desk_want_parts, _, rfl, by show 1 ≤ sizeLine; decide, fun q hq => ?_⟩
  have e1 : Same H (upd H q (.lst [.int k])) := Same.new hq
  have hq1 : upd H q (.lst [.int k]) q = some (.lst [.int k]) := upd_same
  generalize upd H q (.lst [.int k]) = H1 at e1 hq1
  have h1 := hD.same e1
  replace ha := ha.same hD.rc e1
  refine ⟨_, _, rfl, pr, G, d, dd, p, r, kn, es, q, [k], rfl, rfl, h1, hq1, by show 1 ≤ 10; decide, fun ⟨z, hz, hi⟩ => ha.1 _ (withPart_none (by rw [← List.mem_singleton.mp hz]; exact hi)), fun hz H2 e2 => ?_⟩
  obtain ⟨y, hi, ek, hy⟩ := hz k List.mem_cons_self
  have h2 := h1.same e2
  replace ha := ha.same h1.rc e2
  rw [withPart_some hi] at ha
  subst ek
  obtain ⟨dx, ts, br, hr1, hts, hbr⟩ := h2.rc.fix.ins
  refine ⟨_, rfl, d, _, dd, _, _, rfl, h2.ins, T.c_Desk, T.na_Desk_reached, l_Desk_reached, r, dx, _, rfl, h2.rc.same _ _ hr1, n_Reached_chain, _, rfl, _, rfl, _, _, _, rfl, pr, G, r, p, kn, es, x, y, rfl, rfl, rfl, h2.rc, by omega, fun v H3 e3 hv => ?_⟩
  have h3 := h2.same e3
  replace ha := ha.same h2.rc e3
  have hcl := chainOf_len g (m := x) (goal := y) (by omega)
  refine ⟨_, rfl, rfl, _, rfl, ?_⟩
  show if decide (v = .non) = true then _ else _
  cases hc : Vakepb.chainOf pr x y with
  | none =>
    rw [hc] at hv ha
    have ev : v = .non := hv
    subst ev
    refine ⟨by show 1 ≤ sizeLine; decide, fun q4 hq4 => ?_⟩
    exact ha.2 q4 _ es (h3.rc.same' (Same.new hq4)) NewE.refl (Keep.of (Same.new hq4)) upd_same hq4
  | some ic =>
    obtain ⟨i, c⟩ := ic
    rw [hc] at hv ha
    have hc12 : c.length ≤ 12 := hcl _ hc
    obtain ⟨tq, aq, rfl, htq, haq⟩ := hv
    refine ⟨_, rfl, tq, _, _, _, rfl, rfl, SqT.of htq, atI_n (j := 0) rfl, by show 2 ≤ sizeLine; decide, fun q4 hq4 => ?_⟩
    have e4 : Same H3 (upd H3 q4 (.lst [.int 1, .int (i : Int)])) := Same.new hq4
    refine ⟨_, rfl, tq, _, _, _, rfl, rfl, SqT.of (e4 _ _ htq), atI_n (j := 1) rfl, _, rfl, aq, natL c, rfl, e4 _ _ haq, by rw [natL_len]; omega, fun q5 H5 hq5 e5 h5 => ?_⟩
    refine ⟨q4, q5, _, _, rfl, rfl, e5 _ _ upd_same, h5, ?_, fun q6 hq6 => ?_⟩
    · exact sizeL (by show 2 + ((natL c).length + 1) ≤ _; rw [natL_len]; omega)
    have e6 := Same.trans e4 (Same.trans e5 (Same.new (o := HO.lst ([.int 1, .int (i : Int)] ++ .int (((natL c).length : Nat) : Int) :: natL c)) hq6))
    refine ha.2 q6 _ es (h3.rc.same' e6) NewE.refl (Keep.of e6) ?_ (gone (Same.trans e4 e5) hq6)
    rw [upd_same]
    unfold ansL Vakepb.listRow
    rw [natL_len, ← nats_natL]
    rfl
def spDeskAround (P : Program) (w : World) (K : PySem.W.Frag) : Sp := Sp3 fun s x y H Q E => ∃ pr G d dd p r kn es m k, s = .ref d ∧ x = .int m ∧ y = .int k ∧ DeskAt P w K pr G H d dd p r kn es ∧ AskP P w K pr G H p r kn es E Q (Vakepb.looked pr (.around m k))
theorem sc_Desk_around : FnScope ["self", "k", "g", "chain"] ["self", "k", "g"] (defScope s_Desk_around) := ⟨rfl, rfl, rfl, by decide +kernel, rfl, by decide +kernel, by decide +kernel⟩
theorem ok_Desk_around (T : Tx K mg) : FK P w K mg base (L2.CX P w) (13) (He.ma K (He.ga K "Desk") "around") ["self", "k", "g"] (spDeskAround P w K) := by
  obtain ⟨fd, F⟩ := T.f_Desk_around
  obtain ⟨fd0, G0, b0, k0⟩ := ok_told (P := P) (w := w) (base := base) T
  obtain ⟨fd1, G1, b1, k1⟩ := ok_Reached_chain_around (P := P) (w := w) (base := base) T
  obtain ⟨fd2, G2, b2, k2⟩ := ok_Desk_want_parts (P := P) (w := w) (base := base) T
  refine ⟨fd, F.ok sc_Desk_around (fun vs H Q E h => Sp3.len h) (fun cdv A outer s H vs Q E hr h => ?body), F.bindsN (fun _ _ _ _ _ _ us hl => match us, hl with | [_, _, _], _ => rfl), F.kp⟩
  refine ⟨_, (pss_cons (ps_expr (pe_meth (pv 0) T.c_Desk T.me_Desk_want_parts G2 (hr.mono (by first | decide | omega)) b2 .nil passR (pa_cons (pe_lst (pa_cons (pv 1) (pa_cons (pv 2) pa_nil))) pa_nil)))
      (pss_cons (ps_set (i := 3) sc_Desk_around.nd rfl (.inl rfl) (pe_meth (pe_fld (pv 0) rfl) T.c_Reached T.me_Reached_chain_around G1 (hr.mono (by first | decide | omega)) b1 .nil pass0 (pa_cons (pv 1) (pa_cons (pv 2) pa_nil))) (hf := (.inr rfl)))
      (pss_one (ps_ret (pe_ifExp (pt_cmpR op_isN (pv 3) pe_non (nomark _)) (pe_lst (pa_cons pe_int pa_nil)) (pe_op op_cat (pe_lst (pa_cons pe_int pa_nil)) (pe_call G0 (hr.mono (by first | decide | omega)) rfl T.g_told k0 b0 .nil pass0 (pa_cons (pv 3) pa_nil)))))))), ?_⟩
  obtain ⟨_, _, _, rfl, pr, G, d, dd, p, r, kn, es, m, k, rfl, rfl, rfl, hD, ha⟩ := h
  have g := hD.rc.fix.good
  have hl : Vakepb.looked pr (.around m k) = Vakepa.withPart pr m fun x => Vakepa.withPart pr k fun y => (match Vakepb.around pr x y with
    | none => one 0
    | some c => ⟨1, Vakepb.listRow c⟩) := rfl
  rw [hl] at ha
  refine ⟨_, rfl, d, dd, _, rfl, hD.ins, n_Desk_want_parts, _, rfl, _, rfl, by show 2 ≤ sizeLine; decide, fun q hq => ?_⟩
  have e1 : Same H (upd H q (.lst [.int m, .int k])) := Same.new hq
  have hq1 : upd H q (.lst [.int m, .int k]) q = some (.lst [.int m, .int k]) := upd_same
  generalize upd H q (.lst [.int m, .int k]) = H1 at e1 hq1
  have h1 := hD.same e1
  replace ha := ha.same hD.rc e1
  refine ⟨_, _, rfl, pr, G, d, dd, p, r, kn, es, q, [m, k], rfl, rfl, h1, hq1, by show 2 ≤ 10; decide, fun ⟨z, hz, hi⟩ => ha.1 _ ?_, fun hz H2 e2 => ?_⟩
  · have hz : z = m ∨ z = k := by simpa using hz
    cases hm : index m pr.parts.length with
    | none => exact withPart_none hm
    | some x =>
      rw [withPart_some hm]
      rcases hz with e | e
      · rw [e, hm] at hi; cases hi
      · exact withPart_none (by rw [← e]; exact hi)
  obtain ⟨x, hi, em, hx⟩ := hz m List.mem_cons_self
  obtain ⟨y, hi2, ek, hy⟩ := hz k (by simp)
  have h2 := h1.same e2
  replace ha := ha.same h1.rc e2
  rw [withPart_some hi, withPart_some hi2] at ha
  subst em ek
  obtain ⟨dx, ts, br, hr1, hts, hbr⟩ := h2.rc.fix.ins
  refine ⟨_, rfl, d, _, dd, _, _, rfl, h2.ins, T.c_Desk, T.na_Desk_reached, l_Desk_reached, r, dx, _, rfl, h2.rc.same _ _ hr1, n_Reached_chain_around, _, rfl, _, rfl, _, _, _, rfl, pr, G, r, p, kn, es, x, y, rfl, rfl, rfl, h2.rc, fun v H3 e3 hv => ?_⟩
  have h3 := h2.same e3
  replace ha := ha.same h2.rc e3
  refine ⟨_, rfl, rfl, _, rfl, ?_⟩
  show if decide (v = .non) = true then _ else _
  cases hc : Vakepb.around pr x y with
  | none =>
    rw [hc] at hv ha
    have ev : v = .non := hv
    subst ev
    refine ⟨by show 1 ≤ sizeLine; decide, fun q4 hq4 => ?_⟩
    exact ha.2 q4 _ es (h3.rc.same' (Same.new hq4)) NewE.refl (Keep.of (Same.new hq4)) upd_same hq4
  | some c =>
    rw [hc] at hv ha
    have hc12 : c.length ≤ 12 := around_len g hc
    obtain ⟨aq, rfl, haq⟩ := hv
    refine ⟨by show 1 ≤ sizeLine; decide, fun q4 hq4 => ?_⟩
    have e4 : Same H3 (upd H3 q4 (.lst [.int 1])) := Same.new hq4
    refine ⟨_, rfl, _, rfl, aq, natL c, rfl, e4 _ _ haq, by rw [natL_len]; omega, fun q5 H5 hq5 e5 h5 => ?_⟩
    refine ⟨q4, q5, _, _, rfl, rfl, e5 _ _ upd_same, h5, ?_, fun q6 hq6 => ?_⟩
    · exact sizeL (by show 1 + ((natL c).length + 1) ≤ _; rw [natL_len]; omega)
    have e6 := Same.trans e4 (Same.trans e5 (Same.new (o := HO.lst ([.int 1] ++ .int (((natL c).length : Nat) : Int) :: natL c)) hq6))
    refine ha.2 q6 _ es (h3.rc.same' e6) NewE.refl (Keep.of e6) ?_ (gone (Same.trans e4 e5) hq6)
    rw [upd_same]
    unfold ansL Vakepb.listRow
    rw [natL_len, ← nats_natL]
    rfl
end
end Wk
set_option maxHeartbeats 2000000
namespace Wk
open PySem PySem.Spec PyProof.Rows L2
open Vakepa (Prog)
open VakepBase (one index)
theorem lc_strP {x : Str} {g : TG} {tt : TT} {te : TE} {vs : List Nat} {σ : L2.St} {H1 : Hp} {D : Addr} {Qd : Hp → Prop} (ys : Nat → Option V) (hD : H1 D = none) (hz : x.cps.size < sizeLine) (hs : ∀ (i c : Nat) (H : Hp), x.cps[i]? = some c → Same H1 H → Turn1 g tt te vs σ (.str ⟨#[c]⟩) H (ys i))
    (hd : ∀ H, Same H1 H → H D = some (.lst (picks x.cps.size ys)) → Qd H) :
    ∃ W : Nat → Nat → Hp → Prop, (∃ m, W 0 m (upd H1 D (.lst []))) ∧ ∀ i m H, W i m H →
      ((Its x).stop i H ∧ Qd H) ∨ ((Its x).go i H ∧ ∃ Nx : Hp → Prop, (∀ H', Nx H' → ∃ m', m' < m ∧ W (i + 1) m' H') ∧ ∀ v H', (Its x).yld i H v H' → g v (wipe σ vs) H' fun σ2 H2 => wipe σ2 vs = wipe σ vs ∧ tt σ2 H2 fun b H3 =>
        if b = true then te σ2 H3 fun y H4 => ∃ acc, H4 D = some (.lst acc) ∧ acc.length < sizeLine ∧ Nx (upd H4 D (.lst (acc ++ [y]))) else Nx H3) := by
  refine ⟨fun i m H => m = x.cps.size - i ∧ i ≤ x.cps.size ∧ Same H1 H ∧ H D = some (.lst (picks i ys)), ⟨x.cps.size, by simp, Nat.zero_le _, Same.new hD, upd_same⟩, ?_⟩
  rintro i m H ⟨rfl, hi, e, eD⟩
  by_cases hlt : i < x.cps.size
  · refine .inr ⟨hlt, fun H' => Same H1 H' ∧ H' D = some (.lst (picks (i + 1) ys)), fun H' p' => ⟨x.cps.size - (i + 1), by omega, rfl, hlt, p'⟩, fun v H' y => ?_⟩
    obtain ⟨rfl, c, hc, rfl⟩ := y
    exact pure_step hlt hz e eD hD (hs i c _ hc e)
  · have e2 : i = x.cps.size := by omega
    subst e2
    exact .inl ⟨Nat.le_refl _, hd H e eD⟩
section
variable {P : Program} {w : World} {K : PySem.W.Frag} {mg : Str → Option Value} {base : Heap}
theorem shown_len {pr : Prog} (g : Good pr) : (Vakepa.shown pr).length ≤ 7000000 := by
  rw [shown_eq, List.length_flatten]
  exact lines_len g
theorem sc_Desk_shown : FnScope ["self", "sign"] ["self"] (defScope s_Desk_shown) := ⟨rfl, rfl, rfl, by decide +kernel, rfl, by decide +kernel, by decide +kernel⟩
theorem ok_Desk_shown (T : Tx K mg) : FK P w K mg base CX0 (13) (He.ma K (He.ga K "Desk") "shown") ["self"] (spDeskShown P w K) := by
  obtain ⟨fd, F⟩ := T.f_Desk_shown
  obtain ⟨fd0, G0, b0, k0⟩ := ok_told (P := P) (w := w) (base := base) T
  obtain ⟨fd1, G1, b1, k1⟩ := ok_one_form (P := P) (w := w) (base := base) T
  refine ⟨fd, F.ok sc_Desk_shown (fun vs H Q E h => Sp1.len h) (fun cdv A outer s H vs Q E hr h => ?body), F.bindsN (fun _ _ _ _ _ _ us hl => match us, hl with | [_], _ => rfl), F.kp⟩
  refine ⟨_, PSs.nox (pss_one (ps_ret (pe_call G0 (hr.mono (by first | decide | omega)) rfl T.g_told k0 b0 .nil pass0 (pa_cons (pe_lc (own := [("sign", 1)]) rfl sc_Desk_shown.nd (pi_str (pe_call G1 (hr.mono (by first | decide | omega)) rfl T.g_one_form k1 b1 .nil pass0 (pa_cons (pe_fld (pv 0) rfl) pa_nil))) (blkOk_by (own := [("sign", 1)]) (N := ["self", "sign"]) (sc := defScope s_Desk_shown) (by decide +kernel)) (fun _ _ _ _ _ => (pg_name (i := 1) sc_Desk_shown.nd rfl (.inl rfl) (.inr rfl))) (fun _ _ _ _ _ => pts_nil) (fun _ _ _ _ _ => (pe_callB call_ord rfl T.n_ord (by decide +kernel) (pa_cons (pv 1) pa_nil)))) pa_nil)))), ?_⟩
  obtain ⟨_, rfl, pr, G, d, dd, p, r, kn, es, rfl, hD, ha⟩ := h
  have g := hD.rc.fix.good
  have hsl := shown_len g
  have hl : Vakepb.looked pr .shown = VakepBase.textAnswer (Vakepa.shown pr) := rfl
  rw [hl] at ha
  refine ⟨_, rfl, d, _, dd, _, _, rfl, hD.ins, T.c_Desk, T.na_Desk_program, l_Desk_program, _, rfl, p, pr, rfl, hD.rc.fix.pg.same hD.rc.same, g, fun H1 e1 => ?_⟩
  refine ⟨_, rfl, fun D hDn => ?_⟩
  have hz : (S (Vakepa.shown pr)).cps.size = (Vakepa.shown pr).length := S_length _
  refine lc_strP (x := S (Vakepa.shown pr)) (fun i => ((Vakepa.shown pr)[i]?).map fun c => V.int ((c.toNat : Nat) : Int)) hDn (by rw [hz]; exact Nat.lt_of_le_of_lt hsl (by decide)) (fun i c H2 hc e2 Kt Kf kt kf => ?_) fun H2 e2 hd2 => ?_
  · have hc2 : (S (Vakepa.shown pr)).cps.toList[i]? = some c := by rw [Array.getElem?_toList]; exact hc
    rw [S_list, List.getElem?_map] at hc2
    refine ⟨rfl, _, rfl, _, rfl, rfl, kt _ _ ?_ (Same.refl _)⟩
    cases hb : (Vakepa.shown pr)[i]? with
    | none => rw [hb] at hc2; cases hc2
    | some b =>
      rw [hb] at hc2
      have : b.toNat = c := Option.some.inj hc2
      subst this
      rfl
  rw [picks_at hz] at hd2
  have hb2 : H2 D = some (.lst (byteL (Vakepa.shown pr))) := hd2
  have e12 := Same.trans e1 e2
  refine ⟨_, rfl, D, _, rfl, hb2, by rw [byteL_len]; omega, fun q H3 hq e3 hq3 => ?_⟩
  have e13 := Same.trans e12 e3
  refine ha.2 q H3 es (hD.rc.same' e13) NewE.refl (Keep.of e13) ?_ (gone e12 hq)
  rw [hq3, byteL_len]
  unfold ansL VakepBase.textAnswer byteL intL
  rw [List.map_cons, List.map_map]
  rfl
def spDeskLost (P : Program) (w : World) (K : PySem.W.Frag) : Sp := Sp3 fun s x y H Q E => ∃ pr G d dd p r kn es m k, s = .ref d ∧ x = .int m ∧ y = .int k ∧ DeskAt P w K pr G H d dd p r kn es ∧ AskP P w K pr G H p r kn es E Q (Vakepb.looked pr (.lost m k))
theorem sc_Desk_lost : FnScope ["self", "mode", "k"] ["self", "mode", "k"] (defScope s_Desk_lost) := ⟨rfl, rfl, rfl, by decide +kernel, rfl, by decide +kernel, by decide +kernel⟩
theorem ok_Desk_lost (T : Tx K mg) : FK P w K mg base (L2.CX P w) (13) (He.ma K (He.ga K "Desk") "lost") ["self", "mode", "k"] (spDeskLost P w K) := by
  obtain ⟨fd, F⟩ := T.f_Desk_lost
  obtain ⟨fd0, G0, b0, k0⟩ := ok_Reached_lost_size (P := P) (w := w) (base := base) T
  obtain ⟨fd1, G1, b1, k1⟩ := ok_told (P := P) (w := w) (base := base) T
  obtain ⟨fd2, G2, b2, k2⟩ := ok_Reached_lost (P := P) (w := w) (base := base) T
  obtain ⟨fd3, G3, b3, k3⟩ := ok_Desk_want_parts (P := P) (w := w) (base := base) T
  obtain ⟨fd4, G4, b4, k4⟩ := ok_Desk_want_mode (P := P) (w := w) (base := base) T
  refine ⟨fd, F.ok sc_Desk_lost (fun vs H Q E h => Sp3.len h) (fun cdv A outer s H vs Q E hr h => ?body), F.bindsN (fun _ _ _ _ _ _ us hl => match us, hl with | [_, _, _], _ => rfl), F.kp⟩
  refine ⟨_, (pss_cons (ps_expr (pe_meth (pv 0) T.c_Desk T.me_Desk_want_mode G4 (hr.mono (by first | decide | omega)) b4 .nil passR (pa_cons (pv 1) (pa_cons (C8.pe_gc rfl T.k_ALL_MODES) pa_nil))))
      (pss_cons (ps_expr (pe_meth (pv 0) T.c_Desk T.me_Desk_want_parts G3 (hr.mono (by first | decide | omega)) b3 .nil passR (pa_cons (pe_lst (pa_cons (pv 2) pa_nil)) pa_nil)))
      (pss_one (ps_ret (pe_op op_cat (pe_lst (pa_cons (pe_meth (pe_fld (pv 0) rfl) T.c_Reached T.me_Reached_lost_size G0 (hr.mono (by first | decide | omega)) b0 .nil pass0 (pa_cons (pv 1) (pa_cons (pe_tup (pa_cons (pv 2) pa_nil)) pa_nil))) pa_nil)) (pe_call G1 (hr.mono (by first | decide | omega)) rfl T.g_told k1 b1 .nil pass0 (pa_cons (pe_meth (pe_fld (pv 0) rfl) T.c_Reached T.me_Reached_lost G2 (hr.mono (by first | decide | omega)) b2 .nil pass0 (pa_cons (pv 1) (pa_cons (pe_tup (pa_cons (pv 2) pa_nil)) pa_nil))) pa_nil))))))), ?_⟩
  obtain ⟨_, _, _, rfl, pr, G, d, dd, p, r, kn, es, m, k, rfl, rfl, rfl, hD, ha⟩ := h
  have g := hD.rc.fix.good
  have hn := g.nparts
  have hl : Vakepb.looked pr (.lost m k) = Vakepb.withMode m 3 fun x => Vakepa.withPart pr k fun y => ⟨((Vakepa.sizeOf_ pr (Vakepb.lost pr x [y]) : Nat) : Int), Vakepb.listRow (Vakepb.lost pr x [y])⟩ := rfl
  rw [hl] at ha
  refine ⟨_, rfl, d, dd, _, rfl, hD.ins, n_Desk_want_mode, _, rfl, _, _, _, rfl, m, 3, rfl, rfl, fun hi => ha.1 _ (withMode_none hi), fun x hi em hx => ?_⟩
  rw [withMode_some hi] at ha
  subst em
  refine ⟨_, rfl, d, dd, _, rfl, hD.ins, n_Desk_want_parts, _, rfl, by show 1 ≤ sizeLine; decide, fun q hq => ?_⟩
  have e1 : Same H (upd H q (.lst [.int k])) := Same.new hq
  have hq1 : upd H q (.lst [.int k]) q = some (.lst [.int k]) := upd_same
  generalize upd H q (.lst [.int k]) = H1 at e1 hq1
  have h1 := hD.same e1
  replace ha := ha.same hD.rc e1
  refine ⟨_, _, rfl, pr, G, d, dd, p, r, kn, es, q, [k], rfl, rfl, h1, hq1, by show 1 ≤ 10; decide, fun ⟨z, hz, hi⟩ => ha.1 _ (withPart_none (by rw [← List.mem_singleton.mp hz]; exact hi)), fun hz H2 e2 => ?_⟩
  obtain ⟨y, hi, ek, hy⟩ := hz k List.mem_cons_self
  have h2 := h1.same e2
  replace ha := ha.same h1.rc e2
  rw [withPart_some hi] at ha
  subst ek
  obtain ⟨dx, ts, br, hr1, hts, hbr⟩ := h2.rc.fix.ins
  have hok : OkG pr.parts.length x [y] := ⟨by omega, by show 1 ≤ 2; decide, fun z hz => by rw [List.mem_singleton.mp hz]; exact hy⟩
  refine ⟨_, rfl, d, _, dd, _, _, rfl, h2.ins, T.c_Desk, T.na_Desk_reached, l_Desk_reached, r, dx, _, rfl, h2.rc.same _ _ hr1, n_Reached_lost_size, _, rfl, _, rfl, by show 1 ≤ sizeLine; decide, fun t1 ht1 => ?_⟩
  have e3 : Same H2 (upd H2 t1 (.tup [.int (y : Int)])) := Same.new ht1
  have rc3 := h2.rc.same' e3
  refine ⟨_, _, _, rfl, pr, G, r, p, kn, es, x, t1, [y], rfl, rfl, rfl, rc3, hok, upd_same, fun H4 es4 rc4 n4 k4 => ?_⟩
  have k24 := Keep.trans (Keep.of (D := kn) e3) k4
  have n24 : NewE H2 es es4 := NewE.trans (Keep.of (D := kn) e3) ⟨_, rc3.known⟩ NewE.refl n4
  have h4 := h2.go k24 rc4
  refine ⟨by show 1 ≤ sizeLine; decide, fun q4 hq4 => ?_⟩
  have e5 : Same H4 (upd H4 q4 (.lst [.int ((Vakepa.sizeOf_ pr (Vakepb.lost pr x [y]) : Nat) : Int)])) := Same.new hq4
  have h5 := h4.same e5
  have hq5 : upd H4 q4 (.lst [.int ((Vakepa.sizeOf_ pr (Vakepb.lost pr x [y]) : Nat) : Int)]) q4 = some (.lst [.int ((Vakepa.sizeOf_ pr (Vakepb.lost pr x [y]) : Nat) : Int)]) := upd_same
  generalize upd H4 q4 (.lst [.int ((Vakepa.sizeOf_ pr (Vakepb.lost pr x [y]) : Nat) : Int)]) = H5 at e5 h5 hq5
  refine ⟨_, rfl, d, _, dd, _, _, rfl, h5.ins, T.c_Desk, T.na_Desk_reached, l_Desk_reached, r, dx, _, rfl, h5.rc.same _ _ hr1, n_Reached_lost, _, rfl, _, rfl, by show 1 ≤ sizeLine; decide, fun t2 ht2 => ?_⟩
  have e6 : Same H5 (upd H5 t2 (.tup [.int (y : Int)])) := Same.new ht2
  have rc6 := h5.rc.same' e6
  refine ⟨_, _, _, rfl, pr, G, r, p, kn, es4, x, t2, [y], rfl, rfl, rfl, rc6, hok, upd_same, fun q7 H7 es7 rc7 n7 k7 hq7 => ?_⟩
  have hll := lost_few (pr := pr) x [y]
  refine ⟨_, rfl, q7, _, rfl, hq7, by rw [natL_len]; omega, fun q8 H8 hq8 e8 h8 => ?_⟩
  have hq47 : H8 q4 = some (.lst [.int ((Vakepa.sizeOf_ pr (Vakepb.lost pr x [y]) : Nat) : Int)]) := e8 _ _ (keep_lst k7 rc6.known (e6 _ _ hq5))
  refine ⟨q4, q8, _, _, rfl, rfl, hq47, h8, ?_, fun q9 hq9 => ?_⟩
  · exact sizeL (by show 1 + ((natL (Vakepb.lost pr x [y])).length + 1) ≤ _; rw [natL_len]; omega)
  have e9 : Same H7 _ := Same.trans e8 (Same.new (o := HO.lst ([.int ((Vakepa.sizeOf_ pr (Vakepb.lost pr x [y]) : Nat) : Int)] ++ .int (((natL (Vakepb.lost pr x [y])).length : Nat) : Int) :: natL (Vakepb.lost pr x [y]))) hq9)
  have kk46 : Keep kn H4 (upd H5 t2 (.tup [.int (y : Int)])) := Keep.of (Same.trans e5 e6)
  refine ha.2 q9 _ es7 (rc7.same' e9) (NewE.trans k24 ⟨_, rc4.known⟩ n24 (NewE.trans kk46 ⟨_, rc6.known⟩ NewE.refl n7)) (Keep.trans k24 (Keep.trans kk46 (Keep.trans k7 (Keep.of e9)))) ?_ (goneK (Keep.trans k24 (Keep.trans kk46 (Keep.trans k7 (Keep.of e8)))) ⟨_, (rc7.same' e8).known⟩ hq9)
  rw [upd_same]
  unfold ansL Vakepb.listRow
  rw [natL_len, ← nats_natL]
  rfl
def spDeskShares (P : Program) (w : World) (K : PySem.W.Frag) : Sp := Sp2 fun s x H Q E => ∃ pr G d dd p r kn es m, s = .ref d ∧ x = .int m ∧ DeskAt P w K pr G H d dd p r kn es ∧ AskP P w K pr G H p r kn es E Q (Vakepb.looked pr (.shares m))
theorem sc_Desk_shares : FnScope ["self", "mode", "found", "k"] ["self", "mode"] (defScope s_Desk_shares) := ⟨rfl, rfl, rfl, by decide +kernel, rfl, by decide +kernel, by decide +kernel⟩
theorem ok_Desk_shares (T : Tx K mg) : FK P w K mg base (L2.CX P w) (13) (He.ma K (He.ga K "Desk") "shares") ["self", "mode"] (spDeskShares P w K) := by
  obtain ⟨fd, F⟩ := T.f_Desk_shares
  obtain ⟨fd0, G0, b0, k0⟩ := ok_Reached_lost_size (P := P) (w := w) (base := base) T
  obtain ⟨fd1, G1, b1, k1⟩ := ok_Reached_size_of (P := P) (w := w) (base := base) T
  obtain ⟨fd2, G2, b2, k2⟩ := ok_Reached_come_to (P := P) (w := w) (base := base) T
  obtain ⟨fd3, G3, b3, k3⟩ := ok_Desk_want_mode (P := P) (w := w) (base := base) T
  refine ⟨fd, F.ok sc_Desk_shares (fun vs H Q E h => Sp2.len h) (fun cdv A outer s H vs Q E hr h => ?body), F.bindsN (fun _ _ _ _ _ _ us hl => match us, hl with | [_, _], _ => rfl), F.kp⟩
  refine ⟨_, (pss_cons (ps_expr (pe_meth (pv 0) T.c_Desk T.me_Desk_want_mode G3 (hr.mono (by first | decide | omega)) b3 .nil passR (pa_cons (pv 1) (pa_cons (C8.pe_gc rfl T.k_ALL_MODES) pa_nil))))
      (pss_cons (ps_set (i := 2) sc_Desk_shares.nd rfl (.inl rfl) (pe_lst (pa_cons (pe_meth (pe_fld (pv 0) rfl) T.c_Reached T.me_Reached_size_of G1 (hr.mono (by first | decide | omega)) b1 .nil pass0 (pa_cons (pe_meth (pe_fld (pv 0) rfl) T.c_Reached T.me_Reached_come_to G2 (hr.mono (by first | decide | omega)) b2 .nil pass0 (pa_cons (pv 1) (pa_cons (pe_tup pa_nil) pa_nil))) pa_nil)) pa_nil)) (hf := (.inr rfl)))
      (pss_one (ps_ret (pe_op op_cat (pv 2) (pe_lc (own := [("k", 3)]) rfl sc_Desk_shares.nd (pi_range1 rfl T.n_range (pa_cons (pe_callB call_lenK rfl T.n_len boot_len (pa_cons (pe_fld (pe_fld (pv 0) rfl) rfl) pa_nil)) pa_nil)) (blkOk_by (own := [("k", 3)]) (N := ["self", "mode", "found", "k"]) (sc := defScope s_Desk_shares) (by decide +kernel)) (fun _ _ _ _ _ => (pg_name (i := 3) sc_Desk_shares.nd rfl (.inl rfl) (.inr rfl))) (fun _ _ _ _ _ => pts_nil) (fun _ _ _ _ _ => (pe_meth (show PE _ _ (tFld K _ _) from by exact (pe_fld (pv 0) rfl)) T.c_Reached T.me_Reached_lost_size G0 (hr.mono (by first | decide | omega)) b0 .nil pass0 (pa_cons (pv 1) (pa_cons (pe_tup (pa_cons (pv 3) pa_nil)) pa_nil)))))))))), ?_⟩
  obtain ⟨_, _, rfl, pr, G, d, dd, p, r, kn, es, m, rfl, rfl, hD, ha⟩ := h
  have g := hD.rc.fix.good
  have hn := g.nparts
  have hl : Vakepb.looked pr (.shares m) = Vakepb.withMode m 3 fun x => ⟨((Vakepa.sizeOf_ pr (Vakepb.reachedBy pr x []) : Nat) : Int), Vakepb.nats ((List.range pr.parts.length).map fun k => Vakepa.sizeOf_ pr (Vakepb.lost pr x [k]))⟩ := rfl
  rw [hl] at ha
  refine ⟨_, rfl, d, dd, _, rfl, hD.ins, n_Desk_want_mode, _, rfl, _, _, _, rfl, m, 3, rfl, rfl, fun hi => ha.1 _ (withMode_none hi), fun x hi em hx => ?_⟩
  rw [withMode_some hi] at ha
  subst em
  obtain ⟨dx, ts, br, hr1, hts, hbr⟩ := hD.rc.fix.ins
  obtain ⟨dx2, ls, lp, le, vs, ws, hp⟩ := id hD.rc.fix.pg
  have hwl : ws.length = pr.parts.length := Paired.length hp.parts
  refine ⟨_, rfl, d, _, dd, _, _, rfl, hD.ins, T.c_Desk, T.na_Desk_reached, l_Desk_reached, r, dx, _, rfl, hD.rc.same _ _ hr1, n_Reached_size_of, ?_⟩
  refine ⟨_, rfl, d, _, dd, _, _, rfl, hD.ins, T.c_Desk, T.na_Desk_reached, l_Desk_reached, r, dx, _, rfl, hD.rc.same _ _ hr1, n_Reached_come_to, _, rfl, by show 0 ≤ sizeLine; decide, fun t1 ht1 => ?_⟩
  have e1 : Same H (upd H t1 (.tup [])) := Same.new ht1
  have rc1 := hD.rc.same' e1
  refine ⟨_, _, _, rfl, pr, G, r, p, kn, es, x, t1, [], rfl, rfl, rfl, rc1, ⟨by omega, by decide, (fun _ h => nomatch h)⟩, upd_same, fun q2 H2 es2 rc2 n2 k2 hq2 => ?_⟩
  have n02 : NewE H es es2 := NewE.trans (Keep.of (D := kn) e1) ⟨_, rc1.known⟩ NewE.refl n2
  have k02 := Keep.trans (Keep.of (D := kn) e1) k2
  have hrf := reachedBy_few (pr := pr) x []
  refine ⟨_, _, rfl, pr, G, r, p, kn, es2, q2, _, rfl, rfl, rc2, hq2, reachedBy_lt x [], by omega, fun H3 e3 => ?_⟩
  refine ⟨by show 1 ≤ sizeLine; decide, fun q4 hq4 => ?_⟩
  have e24 : Same H2 (upd H3 q4 (.lst [.int ((Vakepa.sizeOf_ pr (Vakepb.reachedBy pr x []) : Nat) : Int)])) := Same.trans e3 (Same.new hq4)
  have rc4 := rc2.same' e24
  have hq4' : upd H3 q4 (.lst [.int ((Vakepa.sizeOf_ pr (Vakepb.reachedBy pr x []) : Nat) : Int)]) q4 = some (.lst [.int ((Vakepa.sizeOf_ pr (Vakepb.reachedBy pr x []) : Nat) : Int)]) := upd_same
  generalize upd H3 q4 (.lst [.int ((Vakepa.sizeOf_ pr (Vakepb.reachedBy pr x []) : Nat) : Int)]) = H4 at e24 rc4 hq4'
  have k04 := Keep.trans k02 (Keep.of e24)
  have n04 : NewE H es es2 := n02
  have h4 := hD.go k04 rc4
  refine ⟨_, rfl, ?_⟩
  refine ⟨_, rfl, d, _, dd, _, _, rfl, h4.ins, T.c_Desk, T.na_Desk_program, l_Desk_program, p, _, dx2, _, _, rfl, rc4.same _ _ hp.ins, T.c_Program, T.na_Program_parts, l_Program_parts, lp, ws, rfl, .inl (SqL.of (rc4.same _ _ hp.pl)), ?_⟩
  refine ⟨_, rfl, by omega, by omega, fun D hDn => ?_⟩
  have hN : ((ws.length : Int)).toNat = pr.parts.length := by omega
  rw [hN]
  refine lc_stR (fun i => some (V.int ((Vakepa.sizeOf_ pr (Vakepb.lost pr x [i]) : Nat) : Int))) rc4 hDn (szl (by omega)) (fun i H5 es5 hi rc5 k5 Kt Kf kt kf => ?_) fun H5 es5 rc5 n5 o5 k5 hd5 => ?_
  · have h5 := h4.go k5 rc5
    refine ⟨rfl, ?_⟩
    refine ⟨_, rfl, d, _, dd, _, _, rfl, h5.ins, T.c_Desk, T.na_Desk_reached, l_Desk_reached, r, dx, _, rfl, rc5.same _ _ hr1, n_Reached_lost_size, _, rfl, _, rfl, by show 1 ≤ sizeLine; decide, fun t2 ht2 => ?_⟩
    have ei : (0 + (i : Int)) = ((i : Nat) : Int) := Int.zero_add _
    have e6 : Same H5 (upd H5 t2 (.tup [.int (0 + (i : Int))])) := Same.new ht2
    have rc6 := rc5.same' e6
    refine ⟨_, _, _, rfl, pr, G, r, p, kn, es5, x, t2, [i], rfl, rfl, rfl, rc6, ⟨by omega, by show 1 ≤ 2; decide, fun z hz => by rw [List.mem_singleton.mp hz]; exact hi⟩, by rw [upd_same, ei]; rfl, fun H7 es7 rc7 n7 k7 => ?_⟩
    exact kt _ _ es7 rfl rc7 (NewE.trans (Keep.of (D := kn) e6) ⟨_, rc6.known⟩ NewE.refl n7) (Keep.trans (Keep.of e6) k7)
  · have hd5' : H5 D = some (.lst (natL ((List.range pr.parts.length).map fun k => Vakepa.sizeOf_ pr (Vakepb.lost pr x [k])))) := by
      rw [hd5]
      unfold picks natL
      rw [List.map_map]
      congr 2
      exact congrFun (List.filterMap_eq_map (f := fun i => V.int ((Vakepa.sizeOf_ pr (Vakepb.lost pr x [i]) : Nat) : Int))) _
    have hq5 := keep_lst k5 rc4.known hq4'
    refine ⟨q4, D, _, _, rfl, rfl, hq5, hd5', ?_, fun q6 hq6 => ?_⟩
    · rw [natL_len, List.length_map, List.length_range]
      exact sizeL (by show 1 + _ ≤ _; omega)
    have e6 := Same.new (o := HO.lst ([.int ((Vakepa.sizeOf_ pr (Vakepb.reachedBy pr x []) : Nat) : Int)] ++ natL ((List.range pr.parts.length).map fun k => Vakepa.sizeOf_ pr (Vakepb.lost pr x [k])))) hq6
    refine ha.2 q6 _ es5 (rc5.same' e6) (NewE.trans k04 ⟨_, rc4.known⟩ n04 n5) (Keep.trans k04 (Keep.trans k5 (Keep.of e6))) ?_ (goneK (Keep.trans k04 k5) ⟨_, rc5.known⟩ hq6)
    rw [upd_same]
    unfold ansL
    rw [← nats_natL]
    rfl
end
end Wk
set_option maxHeartbeats 2000000
namespace Wk
open PySem PySem.Spec PyProof.Rows L2
open Vakepa (Prog)
open VakepBase (one index)
section
variable {P : Program} {w : World} {K : PySem.W.Frag} {mg : Str → Option Value} {base : Heap}
def treeRow (pr : Prog) (k : Nat) : List Int := [(k : Int), match Vakepb.closest pr k with
  | none => (-1 : Int)
  | some x => (x : Int)]
theorem treeRow_eq (pr : Prog) (k : Nat) : intL (treeRow pr k) = [.int (k : Int), clV (Vakepb.closest pr k)] := by
  unfold treeRow intL clV
  cases Vakepb.closest pr k <;> rfl
theorem intL_app (a b : List Int) : intL (a ++ b) = intL a ++ intL b := by unfold intL; rw [List.map_append]
theorem flat_len (pr : Prog) : ∀ l : List Nat, (l.flatMap (treeRow pr)).length = 2 * l.length
  | [] => rfl
  | a :: r => by
    rw [List.flatMap_cons, List.length_append, flat_len pr r, List.length_cons]
    show 2 + _ = _
    omega
def spDeskTree (P : Program) (w : World) (K : PySem.W.Frag) : Sp := Sp1 fun s H Q E => ∃ pr G d dd p r kn es, s = .ref d ∧ DeskAt P w K pr G H d dd p r kn es ∧ AskP P w K pr G H p r kn es (fun _ _ _ => True) Q (Vakepb.looked pr .tree)
theorem sc_Desk_tree : FnScope ["self", "parts", "found", "number"] ["self"] (defScope s_Desk_tree) := ⟨rfl, rfl, rfl, by decide +kernel, rfl, by decide +kernel, by decide +kernel⟩
theorem ok_Desk_tree (T : Tx K mg) : FK P w K mg base CX0 (14) (He.ma K (He.ga K "Desk") "tree") ["self"] (spDeskTree P w K) := by
  obtain ⟨fd, F⟩ := T.f_Desk_tree
  obtain ⟨fd0, G0, b0, k0⟩ := ok_Reached_closest (P := P) (w := w) (base := base) T
  obtain ⟨fd1, G1, b1, k1⟩ := ok_Reached_come_to (P := P) (w := w) (base := base) T
  refine ⟨fd, F.ok sc_Desk_tree (fun vs H Q E h => Sp1.len h) (fun cdv A outer s H vs Q E hr h => ?body), F.bindsN (fun _ _ _ _ _ _ us hl => match us, hl with | [_], _ => rfl), F.kp⟩
  refine ⟨_, PSs.nox (pss_cons (ps_set (i := 1) sc_Desk_tree.nd rfl (.inl rfl) (pe_meth (pe_fld (pv 0) rfl) T.c_Reached T.me_Reached_come_to G1 (hr.mono (by first | decide | omega)) b1 .nil pass0 (pa_cons (C8.pe_gc rfl T.k_BY_BRANCHES) (pa_cons (pe_tup pa_nil) pa_nil))) (hf := (.inr rfl)))
      (pss_cons (ps_set (i := 2) sc_Desk_tree.nd rfl (.inl rfl) (pe_lst (pa_cons (pe_callB call_lenK rfl T.n_len boot_len (pa_cons (pv 1) pa_nil)) pa_nil)) (hf := (.inr rfl)))
      (pss_cons (ps_for PassesOwn.never rfl (pi_list (pv 1)) (pg_name (i := 3) sc_Desk_tree.nd rfl (.inl rfl) (.inr rfl)) (pss_one (ps_expr (pe_bm PySem.F.plainAttrs_list PySem.F.slot_list_extend PySem.F.type_list_extend mt_extend (pv 2) (pa_cons (pe_lst (pa_cons (pv 3) (pa_cons (pe_meth (pe_fld (pv 0) rfl) T.c_Reached T.me_Reached_closest G0 (hr.mono (by first | decide | omega)) b0 .nil pass0 (pa_cons (pv 3) pa_nil)) pa_nil))) pa_nil)))))
      (pss_one (ps_ret (pv 2)))))), ?_⟩
  obtain ⟨_, rfl, pr, G, d, dd, p, r, kn, es, rfl, hD, ha⟩ := h
  have g := hD.rc.fix.good
  have hn := g.nparts
  have hl : Vakepb.looked pr .tree = ⟨(((Vakepb.reachedBy pr 1 []).length : Nat) : Int), (Vakepb.reachedBy pr 1 []).flatMap (treeRow pr)⟩ := rfl
  rw [hl] at ha
  have hrf := reachedBy_few (pr := pr) 1 []
  obtain ⟨dx, ts, br, hr1, hts, hbr⟩ := hD.rc.fix.ins
  refine ⟨_, rfl, d, _, dd, _, _, rfl, hD.ins, T.c_Desk, T.na_Desk_reached, l_Desk_reached, r, dx, _, rfl, hD.rc.same _ _ hr1, n_Reached_come_to, by show 0 ≤ sizeLine; decide, fun t1 ht1 => ?_⟩
  have e1 : Same H (upd H t1 (.tup [])) := Same.new ht1
  have rc1 := hD.rc.same' e1
  refine ⟨_, _, _, rfl, pr, G, r, p, kn, es, 1, t1, [], rfl, rfl, rfl, rc1, ⟨by decide, by decide, (fun _ h => nomatch h)⟩, upd_same, fun q2 H2 es2 rc2 n2 k2 hq2 => ?_⟩
  have n02 : NewE H es es2 := NewE.trans (Keep.of (D := kn) e1) ⟨_, rc1.known⟩ NewE.refl n2
  have k02 := Keep.trans (Keep.of (D := kn) e1) k2
  have h2 := hD.go k02 rc2
  generalize Vakepb.reachedBy pr 1 [] = l at hq2 ha hrf
  refine ⟨_, rfl, q2, natL l, rfl, .inl (SqL.of hq2), by show 1 ≤ sizeLine; decide, fun D hDn => ?_⟩
  rw [natL_len]
  have cs0 : CS P w K pr G r p kn H2 es2 D [.int ((l.length : Nat) : Int)] (upd H2 D (.lst [.int ((l.length : Nat) : Int)])) es2 :=
    ⟨rc2.same' (Same.new hDn), Keep.of (Same.new hDn), NewE.refl, (fun e he z => by obtain ⟨m, gn, _, _, _, dd⟩ := rc2.vals e he; rw [z, hDn] at dd; cases dd), upd_same⟩
  refine ⟨_, rfl, q2, rfl, ⟨_, SqL.of (keep_lst cs0.keep rc2.known hq2)⟩, ?_⟩
  refine for_list (K := K) (a := q2) (xs := natL l) (fun i σ H' => ∃ a es', σ = [some (.ref d), some (.ref q2), some (.ref D), a] ∧ CS P w K pr G r p kn H2 es2 D (.int ((l.length : Nat) : Int) :: intL ((l.take i).flatMap (treeRow pr))) H' es')
    ⟨none, es2, rfl, cs0⟩ (fun i σ H' _ ⟨_, _, _, c⟩ => SqL.of (keep_lst c.keep rc2.known hq2)) ?_ ?_
  · rintro i x σ H3 hx ⟨a, es3, rfl, c3⟩
    have hi : i < l.length := by have := (List.getElem?_eq_some_iff.mp hx).1; rwa [natL_len] at this
    have hli := List.getElem?_eq_getElem hi
    rw [natL_at hli] at hx
    have ex := Option.some.inj hx
    subst ex
    generalize l[i] = k at hli
    have h3 := h2.go c3.keep c3.at_
    refine ⟨_, rfl, .inl ⟨rfl, _, SqL.of c3.lst⟩, ?_⟩
    refine ⟨_, rfl, _, rfl, d, _, dd, _, _, rfl, h3.ins, T.c_Desk, T.na_Desk_reached, l_Desk_reached, r, dx, _, rfl, h3.rc.same _ _ hr1, n_Reached_closest, _, rfl, _, _, rfl, pr, G, r, p, kn, es3, k, rfl, rfl, h3.rc, fun H4 es4 rc4 n4 k4 => ?_⟩
    have c4 := c3.go rc4 n4 k4
    refine ⟨by show 2 ≤ sizeLine; decide, fun q5 hq5 => ?_⟩
    have e5 : Same H4 (upd H4 q5 (.lst [.int (k : Int), clV (Vakepb.closest pr k)])) := Same.new hq5
    have c5 := c4.go (c4.at_.same' e5) NewE.refl (Keep.of e5)
    refine ⟨D, q5, _, _, rfl, rfl, c5.lst, upd_same, ?_, ?_⟩
    · show (intL ((l.take i).flatMap (treeRow pr))).length + 1 + 2 ≤ sizeLine
      rw [intL_len, flat_len, List.length_take]
      exact sizeL (by omega)
    refine ⟨_, es4, rfl, ?_⟩
    have e : (V.int ((l.length : Nat) : Int) :: intL ((l.take i).flatMap (treeRow pr))) ++ [.int (k : Int), clV (Vakepb.closest pr k)] = .int ((l.length : Nat) : Int) :: intL ((l.take (i + 1)).flatMap (treeRow pr)) := by
      rw [take_more hli, List.flatMap_append, intL_app, ← treeRow_eq]
      simp
    rw [e]
    exact c5.push hDn rc2
  · rintro σ H3 ⟨a, es3, rfl, c3⟩
    rw [natL_len, List.take_length] at c3
    exact ⟨_, rfl, ha.2 D H3 es3 c3.at_ (NewE.trans k02 ⟨_, rc2.known⟩ n02 c3.new) (Keep.trans k02 c3.keep) c3.lst (goneK k02 ⟨_, rc2.known⟩ hDn)⟩
/-- sorted ints that are parts -/
theorem nats_of {ns : List Int} {y z : Nat} (h : ∀ k : Int, k ∈ ns ↔ decide (k ∈ [(y : Int), (z : Int)]) = true) (hp : ns.Pairwise (· < ·)) : ∃ gn : List Nat, ns.map V.int = natL gn ∧ (∀ k, k ∈ gn ↔ k ∈ [y, z]) ∧ gn.length ≤ 2 := by
  have hm : ∀ k ∈ ns, k = (y : Int) ∨ k = (z : Int) := fun k hk => by
    have := (h k).mp hk
    simpa using this
  have e : ns = (ns.map Int.toNat).map fun (k : Nat) => (k : Int) := by
    rw [List.map_map]
    have : ∀ l : List Int, (∀ k ∈ l, k = (y : Int) ∨ k = (z : Int)) → l = l.map ((fun (k : Nat) => (k : Int)) ∘ Int.toNat) := by
      intro l
      induction l with
      | nil => intro _; rfl
      | cons a r ih =>
        intro hl
        rw [List.map_cons, ← ih fun k hk => hl k (List.mem_cons_of_mem _ hk)]
        congr 1
        rcases hl a List.mem_cons_self with q | q <;> rw [q] <;> rfl
    exact this ns hm
  have hmem : ∀ k, k ∈ ns.map Int.toNat ↔ k ∈ [y, z] := fun k => by
    constructor
    · intro hk
      obtain ⟨i, hi, rfl⟩ := List.mem_map.mp hk
      rcases hm i hi with q | q <;> rw [q] <;> simp
    · intro hk
      have hk : k = y ∨ k = z := by simpa using hk
      have : (k : Int) ∈ ns := (h _).mpr (by rcases hk with q | q <;> rw [q] <;> simp)
      exact List.mem_map.mpr ⟨(k : Int), this, by simp⟩
  refine ⟨ns.map Int.toNat, ?_, hmem, ?_⟩
  · rw [natL_int, ← e]
    rfl
  · rw [List.length_map]
    have nd : ns.Nodup := hp.imp fun h => by omega
    exact nodup_len (m := [(y : Int), (z : Int)]) nd fun x hx => by rcases hm x hx with q | q <;> rw [q] <;> simp
def spDeskBoth (P : Program) (w : World) (K : PySem.W.Frag) : Sp := Sp4 fun s x y v H Q E => ∃ pr G d dd p r kn es m k gg, s = .ref d ∧ x = .int m ∧ y = .int k ∧ v = .int gg ∧ DeskAt P w K pr G H d dd p r kn es ∧ AskP P w K pr G H p r kn es E Q (Vakepb.looked pr (.both m k gg))
theorem inV_app (k : Nat) (a b : List Nat) : inV (.int (k : Int)) (natL a ++ natL b) = (a.contains k || b.contains k) := by
  have : inV (.int (k : Int)) (natL a ++ natL b) = (inV (.int (k : Int)) (natL a) || inV (.int (k : Int)) (natL b)) := by unfold inV; rw [List.any_append]
  rw [this, inV_N, inV_N]
theorem sc_Desk_both : FnScope ["self", "mode", "k", "g", "pair", "alone", "rest", "sizes", "number", "left"] ["self", "mode", "k", "g"] (defScope s_Desk_both) := ⟨rfl, rfl, rfl, by decide +kernel, rfl, by decide +kernel, by decide +kernel⟩
theorem ok_Desk_both (T : Tx K mg) : FK P w K mg base (L2.CX P w) (14) (He.ma K (He.ga K "Desk") "both") ["self", "mode", "k", "g"] (spDeskBoth P w K) := by
  obtain ⟨fd, F⟩ := T.f_Desk_both
  obtain ⟨fd0, G0, b0, k0⟩ := ok_told (P := P) (w := w) (base := base) T
  obtain ⟨fd1, G1, b1, k1⟩ := ok_Reached_lost_size (P := P) (w := w) (base := base) T
  obtain ⟨fd2, G2, b2, k2⟩ := ok_Reached_lost (P := P) (w := w) (base := base) T
  obtain ⟨fd3, G3, b3, k3⟩ := ok_Desk_want_parts (P := P) (w := w) (base := base) T
  obtain ⟨fd4, G4, b4, k4⟩ := ok_Desk_want_mode (P := P) (w := w) (base := base) T
  refine ⟨fd, F.ok sc_Desk_both (fun vs H Q E h => Sp4.len h) (fun cdv A outer s H vs Q E hr h => ?body), F.bindsN (fun _ _ _ _ _ _ us hl => match us, hl with | [_, _, _, _], _ => rfl), F.kp⟩
  refine ⟨_, (pss_cons (ps_expr (pe_meth (pv 0) T.c_Desk T.me_Desk_want_mode G4 (hr.mono (by first | decide | omega)) b4 .nil passR (pa_cons (pv 1) (pa_cons (C8.pe_gc rfl T.k_ALL_MODES) pa_nil))))
      (pss_cons (ps_expr (pe_meth (pv 0) T.c_Desk T.me_Desk_want_parts G3 (hr.mono (by first | decide | omega)) b3 .nil passR (pa_cons (pe_lst (pa_cons (pv 2) (pa_cons (pv 3) pa_nil))) pa_nil)))
      (pss_cons (ps_set (i := 4) sc_Desk_both.nd rfl (.inl rfl) (pe_callTy call_tuple_of rfl T.n_tuple (by decide +kernel) (pa_cons (pe_callB (cr_sortedSet rfl) rfl T.n_sorted (by decide +kernel) (pa_cons (pe_callTy (call_setL rfl) rfl T.n_set (by decide +kernel) (pa_cons (pe_lst (pa_cons (pv 2) (pa_cons (pv 3) pa_nil))) pa_nil)) pa_nil)) pa_nil)) (hf := (.inr rfl)))
      (pss_cons (ps_set (i := 5) sc_Desk_both.nd rfl (.inr rfl) (pe_op op_cat (pe_meth (pe_fld (pv 0) rfl) T.c_Reached T.me_Reached_lost G2 (hr.mono (by first | decide | omega)) b2 .nil pass0 (pa_cons (pv 1) (pa_cons (pe_tup (pa_cons (pv 2) pa_nil)) pa_nil))) (pe_meth (pe_fld (pv 0) rfl) T.c_Reached T.me_Reached_lost G2 (hr.mono (by first | decide | omega)) b2 .nil pass0 (pa_cons (pv 1) (pa_cons (pe_tup (pa_cons (pv 3) pa_nil)) pa_nil)))) (hf := (.inl rfl)))
      (pss_cons (ps_setLc (i := 6) (own := [("number", 8)]) rfl sc_Desk_both.nd rfl rfl (sw_true rfl rfl rfl (by decide +kernel)) (pi_list (pe_meth (pe_fld (pv 0) rfl) T.c_Reached T.me_Reached_lost G2 (hr.mono (by first | decide | omega)) b2 .nil pass0 (pa_cons (pv 1) (pa_cons (pv 4) pa_nil)))) (blkOk_by (own := [("number", 8)]) (N := ["self", "mode", "k", "g", "pair", "alone", "rest", "sizes", "number", "left"]) (sc := defScope s_Desk_both) (by decide +kernel)) (fun _ _ _ _ _ => (pg_name (i := 8) sc_Desk_both.nd rfl (.inl rfl) (.inr rfl))) (fun _ _ _ _ _ => (pts_one (show PT _ _ (tTest (tOp (rIn K true) _ _)) from by exact (pt_cmpR op_notIn_seq (pv 8) (pv 5) rfl)))) (fun _ _ _ _ _ => (pv 8)))
      (pss_cons (ps_setLc (i := 7) (own := [("left", 9)]) rfl sc_Desk_both.nd rfl rfl (sw_true rfl rfl rfl (by decide +kernel)) (pi_tup (pe_tup (pa_cons (pv 4) (pa_cons (pe_tup (pa_cons (pv 2) pa_nil)) (pa_cons (pe_tup (pa_cons (pv 3) pa_nil)) pa_nil))))) (blkOk_by (own := [("left", 9)]) (N := ["self", "mode", "k", "g", "pair", "alone", "rest", "sizes", "number", "left"]) (sc := defScope s_Desk_both) (by decide +kernel)) (fun _ _ _ _ _ => (pg_name (i := 9) sc_Desk_both.nd rfl (.inl rfl) (.inr rfl))) (fun _ _ _ _ _ => pts_nil) (fun _ _ _ _ _ => (pe_meth (show PE _ _ (tFld K _ _) from by exact (pe_fld (pv 0) rfl)) T.c_Reached T.me_Reached_lost_size G1 (hr.mono (by first | decide | omega)) b1 .nil pass0 (pa_cons (pv 1) (pa_cons (pv 9) pa_nil)))))
      (pss_one (ps_ret (pe_op op_cat (pv 7) (pe_call G0 (hr.mono (by first | decide | omega)) rfl T.g_told k0 b0 .nil pass0 (pa_cons (pv 6) pa_nil))))))))))), ?_⟩
  obtain ⟨_, _, _, _, rfl, pr, G, d, dd, p, r, kn, es, m, k, gg, rfl, rfl, rfl, rfl, hD, ha⟩ := h
  have g := hD.rc.fix.good
  have hn := g.nparts
  have hl : Vakepb.looked pr (.both m k gg) = Vakepb.withMode m 3 fun x => Vakepa.withPart pr k fun y => Vakepa.withPart pr gg fun z => ⟨((Vakepa.sizeOf_ pr (Vakepb.lost pr x [y, z]) : Nat) : Int), Vakepb.nats [Vakepa.sizeOf_ pr (Vakepb.lost pr x [y]), Vakepa.sizeOf_ pr (Vakepb.lost pr x [z])] ++ Vakepb.listRow ((Vakepb.lost pr x [y, z]).filter fun k => !(Vakepb.lost pr x [y]).contains k && !(Vakepb.lost pr x [z]).contains k)⟩ := rfl
  rw [hl] at ha
  refine ⟨_, rfl, d, dd, _, rfl, hD.ins, n_Desk_want_mode, _, rfl, _, _, _, rfl, m, 3, rfl, rfl, fun hi => ha.1 _ (withMode_none hi), fun x hi em hx => ?_⟩
  rw [withMode_some hi] at ha
  subst em
  refine ⟨_, rfl, d, dd, _, rfl, hD.ins, n_Desk_want_parts, _, rfl, _, rfl, by show 2 ≤ sizeLine; decide, fun q hq => ?_⟩
  have e1 : Same H (upd H q (.lst [.int k, .int gg])) := Same.new hq
  have hq1 : upd H q (.lst [.int k, .int gg]) q = some (.lst [.int k, .int gg]) := upd_same
  generalize upd H q (.lst [.int k, .int gg]) = H1 at e1 hq1
  have h1 := hD.same e1
  replace ha := ha.same hD.rc e1
  refine ⟨_, _, rfl, pr, G, d, dd, p, r, kn, es, q, [k, gg], rfl, rfl, h1, hq1, by show 2 ≤ 10; decide, fun ⟨z, hz, hi⟩ => ha.1 _ ?_, fun hz H2 e2 => ?_⟩
  · have hz : z = k ∨ z = gg := by simpa using hz
    cases hm : index k pr.parts.length with
    | none => exact withPart_none hm
    | some x =>
      rw [withPart_some hm]
      rcases hz with e | e
      · rw [e, hm] at hi; cases hi
      · exact withPart_none (by rw [← e]; exact hi)
  obtain ⟨y, hi1, ek, hy⟩ := hz k List.mem_cons_self
  obtain ⟨z, hi2, eg, hz'⟩ := hz gg (by simp)
  have h2 := h1.same e2
  replace ha := ha.same h1.rc e2
  rw [withPart_some hi1, withPart_some hi2] at ha
  subst ek eg
  obtain ⟨dx, ts, br, hr1, hts, hbr⟩ := h2.rc.fix.ins
  -- the pair
  refine ⟨_, rfl, _, rfl, by show 2 ≤ sizeLine; decide, fun q3 hq3 => ?_⟩
  have e3 : Same H2 (upd H2 q3 (.lst [.int (y : Int), .int (z : Int)])) := Same.new hq3
  refine ⟨q3, [(y : Int), (z : Int)], rfl, SqL.of upd_same, by show 2 < 60; decide, fun q4 cc hq4 hcc => ?_⟩
  refine ⟨q4, _, cc, rfl, upd_same, Nat.lt_of_le_of_lt hcc (by show 2 < 64; decide), fun ns q5 hns hnm hnl hq5 => ?_⟩
  obtain ⟨gn, egn, hgm, hgl⟩ := nats_of hnm hns
  refine ⟨q5, _, rfl, .inl ⟨SqL.of upd_same, fun q6 hq6 => ?_⟩⟩
  rw [egn] at hq6 ⊢
  have e6 := Same.trans e3 (Same.trans (Same.new hq4) (Same.trans (Same.new hq5) (Same.new (o := HO.tup (natL gn)) (by rw [← egn] at hq6; exact hq6))))
  rw [egn] at e6
  have h6 := h2.same e6
  have rc6 := h6.rc
  have hok1 : OkG pr.parts.length x [y] := ⟨by omega, by show 1 ≤ 2; decide, fun k hk => by rw [List.mem_singleton.mp hk]; exact hy⟩
  have hok2 : OkG pr.parts.length x [z] := ⟨by omega, by show 1 ≤ 2; decide, fun k hk => by rw [List.mem_singleton.mp hk]; exact hz'⟩
  have hgk : ∀ k ∈ gn, k < pr.parts.length := by
    intro k hk
    have hq : k = y ∨ k = z := by simpa using (hgm k).mp hk
    rcases hq with q | q
    · rw [q]; exact hy
    · rw [q]; exact hz'
  have hok3 : OkG pr.parts.length x gn := ⟨by omega, hgl, hgk⟩
  have hgl2 : ∀ mo, mo ≤ 2 → Vakepb.lost pr mo gn = Vakepb.lost pr mo [y, z] := fun mo hmo => lost_congr g hmo hgm
  have hla := lost_few (pr := pr) x [y]
  have hlb := lost_few (pr := pr) x [z]
  have hlc := lost_few (pr := pr) x gn
  -- alone
  refine ⟨_, rfl, d, _, dd, _, _, rfl, h6.ins, T.c_Desk, T.na_Desk_reached, l_Desk_reached, r, dx, _, rfl, rc6.same _ _ hr1, n_Reached_lost, _, rfl, _, rfl, by show 1 ≤ sizeLine; decide, fun t7 ht7 => ?_⟩
  have e7 := Same.new (o := HO.tup [V.int (y : Int)]) ht7
  have rc7 := rc6.same' e7
  refine ⟨_, _, _, rfl, pr, G, r, p, kn, es, x, t7, [y], rfl, rfl, rfl, rc7, hok1, upd_same, fun qa Ha esa rca na ka hqa => ?_⟩
  have k6a := Keep.trans (Keep.of (D := kn) e7) ka
  have n6a : NewE _ es esa := NewE.trans (Keep.of (D := kn) e7) ⟨_, rc7.known⟩ NewE.refl na
  have hDa := h6.go k6a rca
  refine ⟨_, rfl, d, _, dd, _, _, rfl, hDa.ins, T.c_Desk, T.na_Desk_reached, l_Desk_reached, r, dx, _, rfl, rca.same _ _ hr1, n_Reached_lost, _, rfl, _, rfl, by show 1 ≤ sizeLine; decide, fun t8 ht8 => ?_⟩
  have e8 := Same.new (o := HO.tup [V.int (z : Int)]) ht8
  have rc8 := rca.same' e8
  refine ⟨_, _, _, rfl, pr, G, r, p, kn, esa, x, t8, [z], rfl, rfl, rfl, rc8, hok2, upd_same, fun qb Hb esb rcb nb kb hqb => ?_⟩
  have kab := Keep.trans (Keep.of (D := kn) e8) kb
  have nab : NewE Ha esa esb := NewE.trans (Keep.of (D := kn) e8) ⟨_, rc8.known⟩ NewE.refl nb
  refine ⟨qa, qb, _, _, rfl, rfl, keep_lst kab rca.known hqa, hqb, by rw [natL_len, natL_len]; exact sizeL (by omega), fun q9 hq9 => ?_⟩
  have e9 : Same Hb (upd Hb q9 (.lst (natL (Vakepb.lost pr x [y]) ++ natL (Vakepb.lost pr x [z])))) := Same.new hq9
  have hq9' : upd Hb q9 (.lst (natL (Vakepb.lost pr x [y]) ++ natL (Vakepb.lost pr x [z]))) q9 = some (.lst (natL (Vakepb.lost pr x [y]) ++ natL (Vakepb.lost pr x [z]))) := upd_same
  generalize upd Hb q9 (.lst (natL (Vakepb.lost pr x [y]) ++ natL (Vakepb.lost pr x [z]))) = H9 at e9 hq9'
  have rc9 := rcb.same' e9
  have k69 := Keep.trans k6a (Keep.trans kab (Keep.of e9))
  have n69 : NewE _ es esb := NewE.trans k6a ⟨_, rca.known⟩ n6a nab
  have hD9 := h6.go k69 rc9
  have hpair : H9 q6 = some (.tup (natL gn)) := keep_tup k69 rc6.known upd_same
  -- the rest
  refine ⟨_, rfl, d, _, dd, _, _, rfl, hD9.ins, T.c_Desk, T.na_Desk_reached, l_Desk_reached, r, dx, _, rfl, rc9.same _ _ hr1, n_Reached_lost, _, rfl, _, rfl, _, _, _, rfl, pr, G, r, p, kn, esb, x, q6, gn, rfl, rfl, rfl, rc9, hok3, hpair, fun qc Hc esc rcc nc kc hqc => ?_⟩
  have hqc9 := keep_lst kc rc9.known hq9'
  refine ⟨qc, rfl, ⟨_, SqL.of hqc⟩, fun D hDn => ?_⟩
  refine lc_pure (K := K) (xs := natL (Vakepb.lost pr x gn)) (fun i => ((Vakepb.lost pr x gn)[i]?).bind fun k => if (!(Vakepb.lost pr x [y]).contains k && !(Vakepb.lost pr x [z]).contains k) = true then some (V.int (k : Int)) else none) (SqL.of hqc) hDn (szl (by rw [natL_len]; omega)) (fun i v H10 hx' e10 Kt Kf kt kf => ?_) fun H10 e10 hd10 => ?_
  · have hi' : i < (Vakepb.lost pr x gn).length := by have := (List.getElem?_eq_some_iff.mp hx').1; rwa [natL_len] at this
    have hli := List.getElem?_eq_getElem hi'
    rw [natL_at hli] at hx'
    have ex := Option.some.inj hx'
    subst ex
    generalize (Vakepb.lost pr x gn)[i] = k at hli
    refine ⟨rfl, _, rfl, _, rfl, q9, _, rfl, .inl (SqL.of (e10 _ _ hqc9)), rfl, by rw [List.all_append, natL_flat, natL_flat]; rfl, _, rfl, ?_⟩
    show if (!inV (.int (k : Int)) (natL (Vakepb.lost pr x [y]) ++ natL (Vakepb.lost pr x [z]))) = true then _ else _
    rw [inV_app, Bool.not_or]
    cases c : (!(Vakepb.lost pr x [y]).contains k && !(Vakepb.lost pr x [z]).contains k) with
    | true => exact ⟨_, rfl, kt _ _ (by rw [hli, Option.bind_some, if_pos c]) (Same.refl _)⟩
    | false => exact kf _ (by rw [hli, Option.bind_some, if_neg (by rw [c]; exact Bool.false_ne_true)]) (Same.refl _)
  rw [natL_len, picks_bind rfl, natL_filter (fun k => !(Vakepb.lost pr x [y]).contains k && !(Vakepb.lost pr x [z]).contains k)] at hd10
  have hrl : ((Vakepb.lost pr x gn).filter fun k => !(Vakepb.lost pr x [y]).contains k && !(Vakepb.lost pr x [z]).contains k).length ≤ 10 := Nat.le_trans (List.length_filter_le _ _) (by omega)
  generalize hrest : ((Vakepb.lost pr x gn).filter fun k => !(Vakepb.lost pr x [y]).contains k && !(Vakepb.lost pr x [z]).contains k) = rest at hd10 hrl
  have rc10 := rcc.same' e10
  have k610 := Keep.trans k69 (Keep.trans kc (Keep.of e10))
  have n610 : NewE _ es esc := NewE.trans k69 ⟨_, rc9.known⟩ n69 nc
  have hD10 := h6.go k610 rc10
  have hp10 : H10 q6 = some (.tup (natL gn)) := keep_tup k610 rc6.known upd_same
  -- the sizes
  refine ⟨_, rfl, _, rfl, by show 1 ≤ sizeLine; decide, fun ta hta => ?_⟩
  refine ⟨_, rfl, by show 1 ≤ sizeLine; decide, fun tb htb => ?_⟩
  refine ⟨by show 3 ≤ sizeLine; decide, fun tt htt => ?_⟩
  have e11 := Same.trans (Same.new (o := HO.tup [V.int (y : Int)]) hta) (Same.trans (Same.new (o := HO.tup [V.int (z : Int)]) htb) (Same.new (o := HO.tup [V.ref q6, V.ref ta, V.ref tb]) htt))
  have htb' := (Same.new (o := HO.tup [V.ref q6, V.ref ta, V.ref tb]) htt) _ _ (upd_same (H := upd H10 ta (.tup [V.int (y : Int)])) (a := tb) (o := HO.tup [V.int (z : Int)]))
  have hta' := (Same.new (o := HO.tup [V.ref q6, V.ref ta, V.ref tb]) htt) _ _ ((Same.new (o := HO.tup [V.int (z : Int)]) htb) _ _ (upd_same (H := H10) (a := ta) (o := HO.tup [V.int (y : Int)])))
  have htt' : (upd (upd (upd H10 ta (.tup [V.int (y : Int)])) tb (.tup [V.int (z : Int)])) tt (.tup [V.ref q6, V.ref ta, V.ref tb])) tt = some (.tup [V.ref q6, V.ref ta, V.ref tb]) := upd_same
  generalize upd (upd (upd H10 ta (.tup [V.int (y : Int)])) tb (.tup [V.int (z : Int)])) tt (.tup [V.ref q6, V.ref ta, V.ref tb]) = H11 at e11 hta' htb' htt'
  have rc11 := rc10.same' e11
  have hD11 := hD10.same e11
  have hp11 := e11 _ _ hp10
  have hD10' := e11 _ _ hd10
  refine ⟨tt, rfl, ⟨_, SqT.of htt'⟩, fun D2 hD2 => ?_⟩
  refine lc_stT (fun i => ([V.int ((Vakepa.sizeOf_ pr (Vakepb.lost pr x gn) : Nat) : Int), V.int ((Vakepa.sizeOf_ pr (Vakepb.lost pr x [y]) : Nat) : Int), V.int ((Vakepa.sizeOf_ pr (Vakepb.lost pr x [z]) : Nat) : Int)])[i]?) rc11 htt' hD2 (by show 3 < sizeLine; decide) (fun i v H12 es12 hx12 rc12 k12 Kt Kf kt kf => ?_) fun H12 es12 rc12 n12 o12 k12 hd12 => ?_
  · have h12 := hD11.go k12 rc12
    refine ⟨rfl, ?_⟩
    refine ⟨_, rfl, d, _, dd, _, _, rfl, h12.ins, T.c_Desk, T.na_Desk_reached, l_Desk_reached, r, dx, _, rfl, rc12.same _ _ hr1, n_Reached_lost_size, _, rfl, _, rfl, ?_⟩
    match i, hx12 with
    | 0, hx12 =>
      cases hx12
      exact ⟨_, _, _, rfl, pr, G, r, p, kn, es12, x, q6, gn, rfl, rfl, rfl, rc12, hok3, keep_tup k12 rc11.known hp11, fun H13 es13 rc13 n13 k13 => kt _ _ es13 rfl rc13 n13 k13⟩
    | 1, hx12 =>
      cases hx12
      exact ⟨_, _, _, rfl, pr, G, r, p, kn, es12, x, ta, [y], rfl, rfl, rfl, rc12, hok1, keep_tup k12 rc11.known hta', fun H13 es13 rc13 n13 k13 => kt _ _ es13 rfl rc13 n13 k13⟩
    | 2, hx12 =>
      cases hx12
      exact ⟨_, _, _, rfl, pr, G, r, p, kn, es12, x, tb, [z], rfl, rfl, rfl, rc12, hok2, keep_tup k12 rc11.known htb', fun H13 es13 rc13 n13 k13 => kt _ _ es13 rfl rc13 n13 k13⟩
    | n + 3, hx12 => cases hx12
  have hd12' : H12 D2 = some (.lst [V.int ((Vakepa.sizeOf_ pr (Vakepb.lost pr x gn) : Nat) : Int), V.int ((Vakepa.sizeOf_ pr (Vakepb.lost pr x [y]) : Nat) : Int), V.int ((Vakepa.sizeOf_ pr (Vakepb.lost pr x [z]) : Nat) : Int)]) := hd12
  have hr12 := keep_lst k12 rc11.known hD10'
  refine ⟨_, rfl, _, rfl, _, rfl, D, _, rfl, hr12, by rw [natL_len]; omega, fun q13 H13 hq13 e13 h13 => ?_⟩
  rw [natL_len] at h13
  refine ⟨D2, q13, _, _, rfl, rfl, e13 _ _ hd12', h13, sizeL (by show 3 + ((natL rest).length + 1) ≤ _; rw [natL_len]; omega), fun q14 hq14 => ?_⟩
  have e14 := Same.trans e13 (Same.new (o := HO.lst ([V.int ((Vakepa.sizeOf_ pr (Vakepb.lost pr x gn) : Nat) : Int), V.int ((Vakepa.sizeOf_ pr (Vakepb.lost pr x [y]) : Nat) : Int), V.int ((Vakepa.sizeOf_ pr (Vakepb.lost pr x [z]) : Nat) : Int)] ++ V.int (rest.length : Int) :: natL rest)) hq14)
  have k611 := Keep.trans k610 (Keep.of e11)
  have n611 : NewE _ es es12 := NewE.trans k611 ⟨_, rc11.known⟩ n610 n12
  have k612 := Keep.trans k611 k12
  refine ha.2 q14 _ es12 (rc12.same' e14) (NewE.trans (Keep.of (D := kn) e6) ⟨_, rc6.known⟩ NewE.refl n611) (Keep.trans (Keep.of e6) (Keep.trans k612 (Keep.of e14))) ?_ (goneK (Keep.trans (Keep.of e6) (Keep.trans k612 (Keep.of e13))) ⟨_, (rc12.same' e13).known⟩ hq14)
  rw [upd_same]
  unfold ansL Vakepb.listRow
  rw [← hgl2 x (by omega), hrest, ← nats_natL]
  rfl
end
end Wk
set_option maxHeartbeats 2000000
namespace Wk
open Vakepa (Prog)
/-- heavier ones first -/
def hv (a b : Nat × Nat) : Prop := b.2 < a.2 ∨ (a.2 = b.2 ∧ a.1 < b.1)
def hput (r : List (Nat × Nat)) (x : Nat × Nat) : List (Nat × Nat) := (r.takeWhile fun y => decide (x.2 ≤ y.2)) ++ (x :: r.dropWhile fun y => decide (x.2 ≤ y.2))
theorem hput_perm (r : List (Nat × Nat)) (x : Nat × Nat) : (hput r x).Perm (x :: r) := by
  unfold hput
  refine List.perm_middle.trans ?_
  rw [List.takeWhile_append_dropWhile]
theorem takeWhile_allH {α : Type} {f : α → Bool} {l : List α} : ∀ x ∈ l.takeWhile f, f x = true := by
  induction l with
  | nil => intro x h; cases h
  | cons a r ih =>
    intro x h
    rw [List.takeWhile_cons] at h
    split at h
    · rename_i c
      rcases List.mem_cons.mp h with e | e
      · rw [e]; exact c
      · exact ih x e
    · cases h
theorem drop_low {r : List (Nat × Nat)} {x : Nat × Nat} (h : r.Pairwise hv) : ∀ y ∈ r.dropWhile (fun y => decide (x.2 ≤ y.2)), y.2 < x.2 := by
  induction r with
  | nil => intro y h; cases h
  | cons a r ih =>
    intro y hy
    rw [List.dropWhile_cons] at hy
    split at hy
    · exact ih (List.pairwise_cons.mp h).2 y hy
    · rename_i c
      have c : ¬ x.2 ≤ a.2 := fun z => c (decide_eq_true z)
      rcases List.mem_cons.mp hy with e | e
      · rw [e]; omega
      · have := (List.pairwise_cons.mp h).1 y e
        unfold hv at this
        omega
theorem hput_sorted {r : List (Nat × Nat)} {x : Nat × Nat} (h : r.Pairwise hv) (hk : ∀ y ∈ r, y.1 < x.1) : (hput r x).Pairwise hv := by
  unfold hput
  have hs : (r.takeWhile fun y => decide (x.2 ≤ y.2)).Sublist r := List.takeWhile_sublist _
  have hd : (r.dropWhile fun y => decide (x.2 ≤ y.2)).Sublist r := List.dropWhile_sublist _
  have hlow := drop_low (x := x) h
  have htop : ∀ y ∈ r.takeWhile fun y => decide (x.2 ≤ y.2), x.2 ≤ y.2 := fun y hy => of_decide_eq_true (takeWhile_allH y hy)
  refine List.pairwise_append.mpr ⟨h.sublist hs, List.pairwise_cons.mpr ⟨fun y hy => .inl (hlow y hy), h.sublist hd⟩, fun a ha b hb => ?_⟩
  have h1 := htop a ha
  have h2 := hk a (hs.subset ha)
  unfold hv
  rcases List.mem_cons.mp hb with e | e
  · rw [e]; omega
  · have := hlow b e
    omega
theorem hfold : ∀ (l : List (Nat × Nat)) (r : List (Nat × Nat)), (l.Pairwise fun a b => a.1 < b.1) → r.Pairwise hv → (∀ x ∈ r, ∀ y ∈ l, x.1 < y.1) → (l.foldl hput r).Pairwise hv ∧ (l.foldl hput r).Perm (r ++ l)
  | [], r, _, h, _ => ⟨h, by rw [List.append_nil]; exact List.Perm.refl _⟩
  | x :: l, r, hl, h, hx => by
    have hl' := List.pairwise_cons.mp hl
    obtain ⟨a, b⟩ := hfold l (hput r x) hl'.2 (hput_sorted h fun y hy => hx y hy x List.mem_cons_self) fun y hy z hz => by
      rcases List.mem_cons.mp ((hput_perm r x).mem_iff.mp hy) with e | e
      · rw [e]; exact hl'.1 z hz
      · exact hx y e z (List.mem_cons_of_mem _ hz)
    refine ⟨a, b.trans ?_⟩
    refine ((hput_perm r x).append_right l).trans ?_
    exact List.perm_middle.symm
theorem inOrder_up (pr : Prog) (L : List Nat) : (Vakepa.inOrder pr L).Pairwise (· < ·) := by
  unfold Vakepa.inOrder
  exact List.Pairwise.sublist (List.filter_sublist) List.pairwise_lt_range
theorem heavier_ok (pr : Prog) (m : Nat) : (Vakepb.heavier pr m).Pairwise hv ∧ (Vakepb.heavier pr m).Perm ((Vakepb.reachedBy pr m []).map fun k => (k, Vakepa.sizeOf_ pr (Vakepb.lost pr m [k]))) := by
  have h := hfold ((Vakepb.reachedBy pr m []).map fun k => (k, Vakepa.sizeOf_ pr (Vakepb.lost pr m [k]))) [] ?_ List.Pairwise.nil (fun _ h => nomatch h)
  · exact h
  · refine List.pairwise_map.mpr ?_
    obtain ⟨L, e⟩ := reachedBy_inOrder (pr := pr) m []
    rw [e]
    exact inOrder_up pr L
/-- a sorted one is this one -/
theorem heavier_eq {pr : Prog} {m : Nat} {zs : List (Int × Int)} (hs : zs.Pairwise fun a b => SrtO.lexB b a = false)
    (hp : zs.Perm ((Vakepb.reachedBy pr m []).map fun k => (-((Vakepa.sizeOf_ pr (Vakepb.lost pr m [k]) : Nat) : Int), (k : Int)))) :
    zs = (Vakepb.heavier pr m).map fun y => (-((y.2 : Nat) : Int), (y.1 : Int)) := by
  obtain ⟨h1, h2⟩ := heavier_ok pr m
  have h3 := h2.map fun y : Nat × Nat => (-((y.2 : Nat) : Int), (y.1 : Int))
  rw [List.map_map] at h3
  refine List.Perm.eq_of_pairwise (le := fun a b => SrtO.lexB b a = false) (fun a b _ _ x y => ?_) hs ?_ (hp.trans h3.symm)
  · have x := SrtO.lexB_no.mp x
    have y := SrtO.lexB_no.mp y
    refine Prod.ext ?_ ?_ <;> omega
  · refine List.pairwise_map.mpr (h1.imp fun {a b} h => SrtO.lexB_no.mpr ?_)
    unfold hv at h
    show ¬ (-(b.2 : Int) < -(a.2 : Int) ∨ (-(b.2 : Int) = -(a.2 : Int) ∧ (b.1 : Int) < (a.1 : Int)))
    omega
end Wk
set_option maxHeartbeats 2000000
namespace Wk
open PySem PySem.Spec PyProof.Rows L2
open Vakepa (Prog)
open VakepBase (one index)
section
variable {P : Program} {w : World} {K : PySem.W.Frag} {mg : Str → Option Value} {base : Heap}
/-- the two ints of a pair -/
def keyV (H : Hp) : V → Int × Int
  | .ref t => match H t with
    | some (.tup [.int a, .int b]) => (a, b)
    | _ => (0, 0)
  | _ => (0, 0)
/-- rows: a pair for each of l -/
def RowsL (f : Nat → Int × Int) (l : List Nat) (ys : List V) (H : Hp) : Prop := ys.length = l.length ∧ ∀ (i k : Nat), l[i]? = some k → ∃ t, ys[i]? = some (.ref t) ∧ H t = some (.tup [.int (f k).1, .int (f k).2])
theorem RowsL.mono {f : Nat → Int × Int} {l : List Nat} {ys : List V} {H H' : Hp} (h : RowsL f l ys H) (k : ∀ t xs, H t = some (.tup xs) → H' t = some (.tup xs)) : RowsL f l ys H' :=
  ⟨h.1, fun i k2 e => by obtain ⟨t, a, b⟩ := h.2 i k2 e; exact ⟨t, a, k _ _ b⟩⟩
theorem RowsL.keys {f : Nat → Int × Int} : ∀ {l : List Nat} {ys : List V} {H : Hp}, RowsL f l ys H → ys.map (keyV H) = l.map f ∧ ∀ x ∈ ys, ∃ t, x = .ref t ∧ H t = some (.tup [.int (keyV H x).1, .int (keyV H x).2])
  | [], [], H, h => ⟨rfl, fun _ h => nomatch h⟩
  | [], _ :: _, H, h => by have := h.1; cases this
  | _ :: _, [], H, h => by have := h.1; cases this
  | k :: l, y :: ys, H, h => by
    obtain ⟨t, e1, e2⟩ := h.2 0 k rfl
    have e1 : y = .ref t := Option.some.inj e1
    subst e1
    have ek : keyV H (.ref t) = f k := by
      show (match H t with
        | some (.tup [.int a, .int b]) => (a, b)
        | _ => (0, 0)) = f k
      rw [e2]
    obtain ⟨i1, i2⟩ := RowsL.keys (l := l) (ys := ys) (H := H) ⟨Nat.succ.inj h.1, fun i k2 e => h.2 (i + 1) k2 e⟩
    refine ⟨by rw [List.map_cons, List.map_cons, ek, i1], fun x hx => ?_⟩
    rcases List.mem_cons.mp hx with e | e
    · subst e
      exact ⟨t, rfl, by rw [ek]; exact e2⟩
    · exact i2 x e
theorem RowsL.push {f : Nat → Int × Int} {l : List Nat} {ys : List V} {H : Hp} {i k : Nat} {t : Addr} (h : RowsL f (l.take i) ys H) (hi : l[i]? = some k) (ht : H t = some (.tup [.int (f k).1, .int (f k).2])) : RowsL f (l.take (i + 1)) (ys ++ [.ref t]) H := by
  have hlt := (List.getElem?_eq_some_iff.mp hi).1
  have hl : (l.take i).length = i := by rw [List.length_take]; omega
  rw [take_more hi]
  refine ⟨by rw [List.length_append, List.length_append, h.1]; rfl, fun j k2 e => ?_⟩
  rw [List.getElem?_append] at e
  split at e
  · rename_i c
    obtain ⟨t2, a, b⟩ := h.2 j k2 e
    exact ⟨t2, by rw [List.getElem?_append_left (by rw [h.1]; exact c)]; exact a, b⟩
  · rename_i c
    have hj : j - (l.take i).length = 0 := by
      have := (List.getElem?_eq_some_iff.mp e).1
      simp only [List.length_cons, List.length_nil] at this
      omega
    rw [hj] at e
    have e : k = k2 := Option.some.inj e
    subst e
    have : j = ys.length := by rw [h.1]; omega
    subst this
    exact ⟨t, by simp, ht⟩
def hvRow (y : Nat × Nat) : List Int := [(y.1 : Int), (y.2 : Int)]
theorem hv_len : ∀ l : List (Nat × Nat), (l.flatMap hvRow).length = 2 * l.length
  | [] => rfl
  | a :: r => by
    rw [List.flatMap_cons, List.length_append, hv_len r, List.length_cons]
    show 2 + _ = _
    omega
def spDeskHeavy (P : Program) (w : World) (K : PySem.W.Frag) : Sp := Sp2 fun s x H Q E => ∃ pr G d dd p r kn es m, s = .ref d ∧ x = .int m ∧ DeskAt P w K pr G H d dd p r kn es ∧ AskP P w K pr G H p r kn es E Q (Vakepb.looked pr (.heavy m))
theorem sc_Desk_heavy : FnScope ["self", "mode", "rows", "found", "size", "number", "k"] ["self", "mode"] (defScope s_Desk_heavy) := ⟨rfl, rfl, rfl, by decide +kernel, rfl, by decide +kernel, by decide +kernel⟩
theorem ok_Desk_heavy (T : Tx K mg) : FK P w K mg base (L2.CX P w) (13) (He.ma K (He.ga K "Desk") "heavy") ["self", "mode"] (spDeskHeavy P w K) := by
  obtain ⟨fd, F⟩ := T.f_Desk_heavy
  obtain ⟨fd0, G0, b0, k0⟩ := ok_Reached_come_to (P := P) (w := w) (base := base) T
  obtain ⟨fd1, G1, b1, k1⟩ := ok_Reached_lost_size (P := P) (w := w) (base := base) T
  obtain ⟨fd2, G2, b2, k2⟩ := ok_Desk_want_mode (P := P) (w := w) (base := base) T
  refine ⟨fd, F.ok sc_Desk_heavy (fun vs H Q E h => Sp2.len h) (fun cdv A outer s H vs Q E hr h => ?body), F.bindsN (fun _ _ _ _ _ _ us hl => match us, hl with | [_, _], _ => rfl), F.kp⟩
  refine ⟨_, (pss_cons (ps_expr (pe_meth (pv 0) T.c_Desk T.me_Desk_want_mode G2 (hr.mono (by first | decide | omega)) b2 .nil passR (pa_cons (pv 1) (pa_cons (C8.pe_gc rfl T.k_ALL_MODES) pa_nil))))
      (pss_cons (ps_setLc (i := 2) (own := [("k", 6)]) rfl sc_Desk_heavy.nd rfl rfl (sw_true rfl rfl rfl (by decide +kernel)) (pi_list (pe_meth (pe_fld (pv 0) rfl) T.c_Reached T.me_Reached_come_to G0 (hr.mono (by first | decide | omega)) b0 .nil pass0 (pa_cons (pv 1) (pa_cons (pe_tup pa_nil) pa_nil)))) (blkOk_by (own := [("k", 6)]) (N := ["self", "mode", "rows", "found", "size", "number", "k"]) (sc := defScope s_Desk_heavy) (by decide +kernel)) (fun _ _ _ _ _ => (pg_name (i := 6) sc_Desk_heavy.nd rfl (.inl rfl) (.inr rfl))) (fun _ _ _ _ _ => pts_nil) (fun _ _ _ _ _ => (pe_tup (pa_cons (pe_un un_neg (pe_meth (show PE _ _ (tFld K _ _) from by exact (pe_fld (pv 0) rfl)) T.c_Reached T.me_Reached_lost_size G1 (hr.mono (by first | decide | omega)) b1 .nil pass0 (pa_cons (pv 1) (pa_cons (pe_tup (pa_cons (pv 6) pa_nil)) pa_nil)))) (pa_cons (pv 6) pa_nil)))))
      (pss_cons (ps_set (i := 3) sc_Desk_heavy.nd rfl (.inl rfl) (pe_lst (pa_cons (pe_callB call_lenK rfl T.n_len boot_len (pa_cons (pv 2) pa_nil)) pa_nil)) (hf := (.inr rfl)))
      (pss_cons (ps_for (passes_of rfl) rfl (pi_list (pe_callB cr_sortedPO rfl T.n_sorted (by decide +kernel) (pa_cons (pv 2) pa_nil))) (pg_tup (n := 2) rfl (pgs_cons (pg_name (i := 4) sc_Desk_heavy.nd rfl (.inl rfl) (.inr rfl)) (pgs_cons (pg_name (i := 5) sc_Desk_heavy.nd rfl (.inl rfl) (.inr rfl)) pgs_nil))) (pss_one (ps_expr (pe_bm PySem.F.plainAttrs_list PySem.F.slot_list_extend PySem.F.type_list_extend mt_extend (pv 3) (pa_cons (pe_lst (pa_cons (pv 5) (pa_cons (pe_un un_neg (pv 4)) pa_nil))) pa_nil)))))
      (pss_one (ps_ret (pv 3))))))), ?_⟩
  obtain ⟨_, _, rfl, pr, G, d, dd, p, r, kn, es, m, rfl, rfl, hD, ha⟩ := h
  have g := hD.rc.fix.good
  have hn := g.nparts
  have hl : Vakepb.looked pr (.heavy m) = Vakepb.withMode m 3 fun x => ⟨(((Vakepb.heavier pr x).length : Nat) : Int), (Vakepb.heavier pr x).flatMap hvRow⟩ := rfl
  rw [hl] at ha
  refine ⟨_, rfl, d, dd, _, rfl, hD.ins, n_Desk_want_mode, _, rfl, _, _, _, rfl, m, 3, rfl, rfl, fun hi => ha.1 _ (withMode_none hi), fun x hi em hx => ?_⟩
  rw [withMode_some hi] at ha
  subst em
  obtain ⟨dx, ts, br, hr1, hts, hbr⟩ := hD.rc.fix.ins
  refine ⟨_, rfl, d, _, dd, _, _, rfl, hD.ins, T.c_Desk, T.na_Desk_reached, l_Desk_reached, r, dx, _, rfl, hD.rc.same _ _ hr1, n_Reached_come_to, _, rfl, by show 0 ≤ sizeLine; decide, fun t1 ht1 => ?_⟩
  have e1 : Same H (upd H t1 (.tup [])) := Same.new ht1
  have rc1 := hD.rc.same' e1
  refine ⟨_, _, _, rfl, pr, G, r, p, kn, es, x, t1, [], rfl, rfl, rfl, rc1, ⟨by omega, by decide, (fun _ h => nomatch h)⟩, upd_same, fun q2 H2 es2 rc2 n2 k2 hq2 => ?_⟩
  have n02 : NewE H es es2 := NewE.trans (Keep.of (D := kn) e1) ⟨_, rc1.known⟩ NewE.refl n2
  have k02 := Keep.trans (Keep.of (D := kn) e1) k2
  have h2 := hD.go k02 rc2
  have hrf := reachedBy_few (pr := pr) x []
  have hlt := reachedBy_lt (pr := pr) x []
  have hheq : ∀ zs, _ → _ → zs = _ := fun zs => heavier_eq (pr := pr) (m := x) (zs := zs)
  have hhl : (Vakepb.heavier pr x).length = (Vakepb.reachedBy pr x []).length := by rw [(heavier_ok pr x).2.length_eq, List.length_map]
  generalize Vakepb.reachedBy pr x [] = l at hq2 hrf hheq hlt hhl
  generalize Vakepb.heavier pr x = hvs at ha hheq hhl
  refine ⟨q2, rfl, ⟨_, SqL.of hq2⟩, fun D hDn => ?_⟩
  refine lc_list (K := K) (a := q2) (xs := natL l) (fun i H' => ∃ es' ys, CS P w K pr G r p kn H2 es2 D ys H' es' ∧ RowsL (fun k => (-((Vakepa.sizeOf_ pr (Vakepb.lost pr x [k]) : Nat) : Int), (k : Int))) (l.take i) ys H')
    ⟨es2, [], CS.start rc2 hDn, rfl, (fun i k e => by cases e)⟩ (fun i H' _ ⟨_, _, c, _⟩ => SqL.of (keep_lst c.keep rc2.known hq2)) ?_ ?_
  · rintro i v H3 hx ⟨es3, ys, c3, hR⟩
    have hi : i < l.length := by have := (List.getElem?_eq_some_iff.mp hx).1; rwa [natL_len] at this
    have hli := List.getElem?_eq_getElem hi
    rw [natL_at hli] at hx
    have ex := Option.some.inj hx
    subst ex
    have hki := hlt _ (List.getElem_mem hi)
    generalize l[i] = k at hli hki
    have h3 := h2.go c3.keep c3.at_
    refine ⟨rfl, ?_⟩
    refine ⟨_, rfl, d, _, dd, _, _, rfl, h3.ins, T.c_Desk, T.na_Desk_reached, l_Desk_reached, r, dx, _, rfl, h3.rc.same _ _ hr1, n_Reached_lost_size, _, rfl, _, rfl, by show 1 ≤ sizeLine; decide, fun t2 ht2 => ?_⟩
    have e4 : Same H3 (upd H3 t2 (.tup [.int (k : Int)])) := Same.new ht2
    have rc4 := h3.rc.same' e4
    refine ⟨_, _, _, rfl, pr, G, r, p, kn, es3, x, t2, [k], rfl, rfl, rfl, rc4, ⟨by omega, by show 1 ≤ 2; decide, fun z hz => by rw [List.mem_singleton.mp hz]; exact hki⟩, upd_same, fun H5 es5 rc5 n5 k5 => ?_⟩
    have n35 := NewE.trans (Keep.of (D := kn) e4) ⟨_, rc4.known⟩ NewE.refl n5
    have k35 := Keep.trans (Keep.of (D := kn) e4) k5
    have c5 := c3.go rc5 n35 k35
    refine ⟨_, rfl, _, rfl, by show 2 ≤ sizeLine; decide, fun t6 ht6 => ?_⟩
    have e6 : Same H5 (upd H5 t6 (.tup [.int (-((Vakepa.sizeOf_ pr (Vakepb.lost pr x [k]) : Nat) : Int)), .int (k : Int)])) := Same.new ht6
    have c6 := c5.go (c5.at_.same' e6) NewE.refl (Keep.of e6)
    have hR6 := hR.mono (H' := upd H5 t6 (.tup [.int (-((Vakepa.sizeOf_ pr (Vakepb.lost pr x [k]) : Nat) : Int)), .int (k : Int)])) fun t xs ht => e6 _ _ (keep_tup k35 h3.rc.known ht)
    have hyl : ys.length < sizeLine := by rw [hR.1, List.length_take]; exact Nat.lt_of_le_of_lt (show _ ≤ 10 by omega) (by decide)
    refine ⟨ys, c6.lst, hyl, es5, ys ++ [.ref t6], c6.push hDn rc2, ?_⟩
    refine (hR6.push hli upd_same).mono fun t xs ht => ?_
    rw [upd_ne]
    · exact ht
    · intro z
      rw [z, c6.lst] at ht
      cases ht
  rintro H3 ⟨es3, ys, c3, hR⟩
  rw [natL_len, List.take_length] at hR
  obtain ⟨hkeys, hpair⟩ := hR.keys
  refine ⟨_, rfl, D, ys, rfl, .inl (SqL.of c3.lst), by show 1 ≤ sizeLine; decide, fun D4 hD4 => ?_⟩
  have hyl : ys.length = l.length := hR.1
  rw [hyl]
  have e4 : Same H3 (upd H3 D4 (.lst [.int (l.length : Int)])) := Same.new hD4
  have hpair4 : ∀ v ∈ ys, ∃ t, v = .ref t ∧ (upd H3 D4 (.lst [.int (l.length : Int)])) t = some (.tup [.int (keyV H3 v).1, .int (keyV H3 v).2]) := fun v hv => by
    obtain ⟨t, a, b⟩ := hpair v hv
    exact ⟨t, a, e4 _ _ b⟩
  have rc4 := c3.at_.same' e4
  have hD4' : (upd H3 D4 (.lst [.int (l.length : Int)])) D4 = some (.lst [.int (l.length : Int)]) := upd_same
  have hDy := e4 _ _ c3.lst
  generalize hH4 : upd H3 D4 (.lst [.int (l.length : Int)]) = H4 at e4 hpair4 rc4 hD4' hDy
  refine ⟨_, rfl, D, ys, keyV H3, rfl, SqL.of hDy, hpair4, fun zs q hzs hst hq => ?_⟩
  have hzp := hst.perm
  have hkz := hheq (zs.map (keyV H3)) (List.pairwise_map.mpr hzs) ((hzp.map _).trans (by rw [hkeys]))
  have hq5 : (upd H4 q (.lst zs)) q = some (.lst zs) := upd_same
  have e5 : Same H4 (upd H4 q (.lst zs)) := Same.new hq
  generalize upd H4 q (.lst zs) = H5 at e5 hq5
  have hzl : zs.length = l.length := by rw [hzp.length_eq, hyl]
  have cs4 : CS P w K pr G r p kn H3 es3 D4 [.int (l.length : Int)] H4 es3 :=
    ⟨rc4, Keep.of e4, NewE.refl, (fun e he z => by obtain ⟨m, gn, _, _, _, dd⟩ := c3.at_.vals e he; rw [z, hD4] at dd; cases dd), hD4'⟩
  have cs5 := cs4.go (rc4.same' e5) NewE.refl (Keep.of e5)
  refine ⟨q, rfl, ⟨_, SqL.of hq5⟩, ?_⟩
  refine for_list (K := K) (a := q) (xs := zs) (fun i σ H' => ∃ a b, σ = [some (.ref d), some (.int x), some (.ref D), some (.ref D4), a, b, none] ∧ CS P w K pr G r p kn H3 es3 D4 (.int (l.length : Int) :: intL ((hvs.take i).flatMap hvRow)) H' es3 ∧ H' q = some (.lst zs) ∧ ∀ v ∈ ys, ∃ t, v = .ref t ∧ H' t = some (.tup [.int (keyV H3 v).1, .int (keyV H3 v).2]))
    ⟨none, none, rfl, cs5, hq5, fun v hv => by obtain ⟨t, a, b⟩ := hpair4 v hv; exact ⟨t, a, e5 _ _ b⟩⟩ (fun i σ H' _ ⟨_, _, _, _, c, _⟩ => SqL.of c) ?_ ?_
  · rintro i v σ H6 hx ⟨a, b, rfl, c6, hq6, hp6⟩
    have hi : i < zs.length := (List.getElem?_eq_some_iff.mp hx).1
    have hih : i < hvs.length := by omega
    have hli := List.getElem?_eq_getElem hih
    have hkv : keyV H3 v = (-((hvs[i].2 : Nat) : Int), ((hvs[i].1 : Nat) : Int)) := by
      have := congrArg (fun l => l[i]?) hkz
      simp only [List.getElem?_map, hx, hli, Option.map_some] at this
      exact Option.some.inj this
    obtain ⟨t, rfl, ht⟩ := hp6 v (hzp.mem_iff.mp (List.mem_of_getElem? hx))
    rw [hkv] at ht
    generalize hvs[i] = y at hli ht
    replace ht : H6 t = some (.tup [.int (-((y.2 : Nat) : Int)), .int (y.1 : Int)]) := ht
    refine ⟨t, _, rfl, SqT.of ht, rfl, _, _, rfl, _, _, rfl, rfl, ?_⟩
    refine ⟨_, rfl, .inl ⟨rfl, _, SqL.of c6.lst⟩, ?_⟩
    refine ⟨_, rfl, _, rfl, _, rfl, by show 2 ≤ sizeLine; decide, fun q7 hq7 => ?_⟩
    have e7 : Same H6 (upd H6 q7 (.lst [.int (y.1 : Int), .int (- -(y.2 : Int))])) := Same.new hq7
    have c7 := c6.go (c6.at_.same' e7) NewE.refl (Keep.of e7)
    have hp7 : ∀ v ∈ ys, ∃ t, v = .ref t ∧ (upd H6 q7 (.lst [.int (y.1 : Int), .int (- -(y.2 : Int))])) t = some (.tup [.int (keyV H3 v).1, .int (keyV H3 v).2]) := fun v hv => by
      obtain ⟨t, a, b⟩ := hp6 v hv
      exact ⟨t, a, e7 _ _ b⟩
    refine ⟨D4, q7, _, [.int (y.1 : Int), .int (- -(y.2 : Int))], rfl, rfl, c7.lst, upd_same, ?_, ?_⟩
    · show (intL ((hvs.take i).flatMap hvRow)).length + 1 + 2 ≤ sizeLine
      rw [intL_len, hv_len, List.length_take]
      exact sizeL (by omega)
    have e : (V.int (l.length : Int) :: intL ((hvs.take i).flatMap hvRow)) ++ [.int (y.1 : Int), .int (- -(y.2 : Int))] = .int (l.length : Int) :: intL ((hvs.take (i + 1)).flatMap hvRow) := by
      rw [Int.neg_neg, take_more hli, List.flatMap_append, intL_app]
      simp
      rfl
    rw [e]
    refine ⟨_, _, rfl, c7.push hD4 c3.at_, ?_, fun v hv => ?_⟩
    · rw [upd_ne]
      · exact e7 _ _ hq6
      · intro z
        rw [z, hD4'] at hq
        cases hq
    · obtain ⟨t, a, b⟩ := hp7 v hv
      refine ⟨t, a, ?_⟩
      rw [upd_ne]
      · exact b
      · intro z
        rw [z, c7.lst] at b
        cases b
  · rintro σ H6 ⟨a, b, rfl, c6, hq6, hp6⟩
    rw [hzl, ← hhl, List.take_length] at c6
    refine ⟨_, rfl, ha.2 D4 H6 es3 c6.at_ (NewE.trans k02 ⟨_, rc2.known⟩ n02 (NewE.trans c3.keep ⟨_, c3.at_.known⟩ c3.new c6.new)) (Keep.trans k02 (Keep.trans c3.keep c6.keep)) ?_ (goneK (Keep.trans k02 c3.keep) ⟨_, c3.at_.known⟩ hD4)⟩
    rw [c6.lst]
    unfold ansL
    rw [hhl]
    rfl
end
end Wk
set_option maxHeartbeats 2000000
namespace Wk
open PySem PySem.Spec PyProof.Rows L2
open Vakepa (Prog)
open VakepBase (one index)
/-- the call of a number, but load -/
def callOf : Nat → List Int → Option Vakepb.Call
  | 1, [] => some .shown
  | 2, [m, k] => some (.chain m k)
  | 3, [m, k] => some (.lost m k)
  | 4, [] => some .tree
  | 5, [m] => some (.shares m)
  | 6, [k, g] => some (.around k g)
  | 7, [m, k, g] => some (.both m k g)
  | 8, [m] => some (.heavy m)
  | _, _ => none
section
variable {P : Program} {w : World} {K : PySem.W.Frag} {mg : Str → Option Value} {base : Heap}
def spDeskAsked (P : Program) (w : World) (K : PySem.W.Frag) : Sp := Sp3 fun s x y H Q E => ∃ d dd j q ns c, s = .ref d ∧ x = .int ((j : Nat) : Int) ∧ y = .ref q ∧ H q = some (.lst (intL ns)) ∧ callOf j ns = some c ∧
  ((H d = some (.ins (cDesk K) dd (F_Desk .non .non)) ∧ RefE K E H (-1)) ∨ ∃ pr G p r kn es, DeskAt P w K pr G H d dd p r kn es ∧ AskP P w K pr G H p r kn es E Q (Vakepb.looked pr c))
theorem sc_Desk_asked : FnScope ["self", "call", "n"] ["self", "call", "n"] (defScope s_Desk_asked) := ⟨rfl, rfl, rfl, by decide +kernel, rfl, by decide +kernel, by decide +kernel⟩
theorem ok_Desk_asked (T : Tx K mg) : FK P w K mg base (L2.CX P w) (16) (He.ma K (He.ga K "Desk") "asked") ["self", "call", "n"] (spDeskAsked P w K) := by
  obtain ⟨fd, F⟩ := T.f_Desk_asked
  obtain ⟨fd0, G0, b0, k0⟩ := ok_Desk_both (P := P) (w := w) (base := base) T
  obtain ⟨fd1, G1, b1, k1⟩ := ok_Desk_heavy (P := P) (w := w) (base := base) T
  obtain ⟨fd2, G2, b2, k2⟩ := ok_Desk_around (P := P) (w := w) (base := base) T
  obtain ⟨fd3, G3, b3, k3⟩ := ok_Desk_shares (P := P) (w := w) (base := base) T
  obtain ⟨fd4, G4, b4, k4⟩ := ok_Desk_tree (P := P) (w := w) (base := base) T
  obtain ⟨fd5, G5, b5, k5⟩ := ok_Desk_lost (P := P) (w := w) (base := base) T
  obtain ⟨fd6, G6, b6, k6⟩ := ok_Desk_chain (P := P) (w := w) (base := base) T
  obtain ⟨fd7, G7, b7, k7⟩ := ok_Desk_shown (P := P) (w := w) (base := base) T
  obtain ⟨fd8, G8, b8, k8⟩ := ok_want (P := P) (w := w) (base := base) T
  refine ⟨fd, F.ok sc_Desk_asked (fun vs H Q E h => Sp3.len h) (fun cdv A outer s H vs Q E hr h => ?body), F.bindsN (fun _ _ _ _ _ _ us hl => match us, hl with | [_, _, _], _ => rfl), F.kp⟩
  refine ⟨_, (pss_cons (ps_expr (pe_call G8 (hr.mono (by first | decide | omega)) rfl T.g_want k8 b8 .nil passR (pa_cons (pe_cmpR op_notN (pe_fld (pv 0) rfl) pe_non (nomark _)) (pa_cons (C8.pe_gc rfl T.k_NO_PROGRAM) pa_nil))))
      (pss_cons (ps_if (pt_cmpR op_eq (pv 1) pe_int (nomark _)) (pss_one (ps_ret (pe_meth0 (pv 0) T.c_Desk T.me_Desk_shown G7 (hr.mono (by first | decide | omega)) b7 .nil pass0))) pss_nil)
      (pss_cons (ps_if (pt_cmpR op_eq (pv 1) pe_int (nomark _)) (pss_one (ps_ret (pe_meth (pv 0) T.c_Desk T.me_Desk_chain G6 (hr.mono (by first | decide | omega)) b6 .nil passR (pa_cons (pe_ix ix_list (pv 2) pe_int (fun _ _ => rfl)) (pa_cons (pe_ix ix_list (pv 2) pe_int (fun _ _ => rfl)) pa_nil))))) pss_nil)
      (pss_cons (ps_if (pt_cmpR op_eq (pv 1) pe_int (nomark _)) (pss_one (ps_ret (pe_meth (pv 0) T.c_Desk T.me_Desk_lost G5 (hr.mono (by first | decide | omega)) b5 .nil passR (pa_cons (pe_ix ix_list (pv 2) pe_int (fun _ _ => rfl)) (pa_cons (pe_ix ix_list (pv 2) pe_int (fun _ _ => rfl)) pa_nil))))) pss_nil)
      (pss_cons (ps_if (pt_cmpR op_eq (pv 1) pe_int (nomark _)) (pss_one (ps_ret (pe_meth0 (pv 0) T.c_Desk T.me_Desk_tree G4 (hr.mono (by first | decide | omega)) b4 .nil pass0))) pss_nil)
      (pss_cons (ps_if (pt_cmpR op_eq (pv 1) pe_int (nomark _)) (pss_one (ps_ret (pe_meth (pv 0) T.c_Desk T.me_Desk_shares G3 (hr.mono (by first | decide | omega)) b3 .nil passR (pa_cons (pe_ix ix_list (pv 2) pe_int (fun _ _ => rfl)) pa_nil)))) pss_nil)
      (pss_cons (ps_if (pt_cmpR op_eq (pv 1) pe_int (nomark _)) (pss_one (ps_ret (pe_meth (pv 0) T.c_Desk T.me_Desk_around G2 (hr.mono (by first | decide | omega)) b2 .nil passR (pa_cons (pe_ix ix_list (pv 2) pe_int (fun _ _ => rfl)) (pa_cons (pe_ix ix_list (pv 2) pe_int (fun _ _ => rfl)) pa_nil))))) pss_nil)
      (pss_one (ps_ret (pe_ifExp (pt_cmpR op_eq (pv 1) pe_int (nomark _)) (pe_meth (pv 0) T.c_Desk T.me_Desk_both G0 (hr.mono (by first | decide | omega)) b0 .nil passR (pa_cons (pe_ix ix_list (pv 2) pe_int (fun _ _ => rfl)) (pa_cons (pe_ix ix_list (pv 2) pe_int (fun _ _ => rfl)) (pa_cons (pe_ix ix_list (pv 2) pe_int (fun _ _ => rfl)) pa_nil)))) (pe_meth (pv 0) T.c_Desk T.me_Desk_heavy G1 (hr.mono (by first | decide | omega)) b1 .nil passR (pa_cons (pe_ix ix_list (pv 2) pe_int (fun _ _ => rfl)) pa_nil)))))))))))), ?_⟩
  obtain ⟨_, _, _, rfl, d, dd, j, q, ns, c, rfl, rfl, rfl, hq, hc, h⟩ := h
  rcases h with ⟨hd, hE⟩ | ⟨pr, G, p, r, kn, es, hD, ha⟩
  · refine ⟨_, rfl, d, _, dd, _, _, rfl, hd, T.c_Desk, T.na_Desk_program, l_Desk_program, rfl, _, _, rfl, _, -1, rfl, rfl, fun _ => hE, fun z => by simp at z⟩
  · refine ⟨_, rfl, d, _, dd, _, _, rfl, hD.ins, T.c_Desk, T.na_Desk_program, l_Desk_program, rfl, _, _, rfl, _, -1, rfl, rfl, (fun z => by simp at z), fun _ => ?_⟩
    unfold callOf at hc
    split at hc
    · cases hc
      refine ⟨_, rfl, rfl, _, rfl, _, rfl, d, dd, _, rfl, hD.ins, n_Desk_shown, _, rfl, pr, G, d, dd, p, r, kn, es, rfl, hD, (fun _ _ _ _ _ _ _ _ => trivial), ha.2⟩
    · cases hc
      exact ⟨_, rfl, rfl, _, rfl, _, rfl, rfl, _, rfl, _, rfl, d, dd, _, rfl, hD.ins, n_Desk_chain, _, rfl, q, _, _, _, rfl, rfl, SqL.of hq, atI_n (j := 0) rfl, _, rfl, q, _, _, _, rfl, rfl, SqL.of hq, atI_n (j := 1) rfl, _, _, _, rfl, pr, G, d, dd, p, r, kn, es, _, _, rfl, rfl, rfl, hD, ha⟩
    · cases hc
      exact ⟨_, rfl, rfl, _, rfl, _, rfl, rfl, _, rfl, _, rfl, rfl, _, rfl, _, rfl, d, dd, _, rfl, hD.ins, n_Desk_lost, _, rfl, q, _, _, _, rfl, rfl, SqL.of hq, atI_n (j := 0) rfl, _, rfl, q, _, _, _, rfl, rfl, SqL.of hq, atI_n (j := 1) rfl, _, _, _, rfl, pr, G, d, dd, p, r, kn, es, _, _, rfl, rfl, rfl, hD, ha⟩
    · cases hc
      exact ⟨_, rfl, rfl, _, rfl, _, rfl, rfl, _, rfl, _, rfl, rfl, _, rfl, _, rfl, rfl, _, rfl, _, rfl, d, dd, _, rfl, hD.ins, n_Desk_tree, _, rfl, pr, G, d, dd, p, r, kn, es, rfl, hD, (fun _ _ _ _ _ _ _ _ => trivial), ha.2⟩
    · cases hc
      exact ⟨_, rfl, rfl, _, rfl, _, rfl, rfl, _, rfl, _, rfl, rfl, _, rfl, _, rfl, rfl, _, rfl, _, rfl, rfl, _, rfl, _, rfl, d, dd, _, rfl, hD.ins, n_Desk_shares, _, rfl, q, _, _, _, rfl, rfl, SqL.of hq, atI_n (j := 0) rfl, _, _, rfl, pr, G, d, dd, p, r, kn, es, _, rfl, rfl, hD, ha⟩
    · cases hc
      exact ⟨_, rfl, rfl, _, rfl, _, rfl, rfl, _, rfl, _, rfl, rfl, _, rfl, _, rfl, rfl, _, rfl, _, rfl, rfl, _, rfl, _, rfl, rfl, _, rfl, _, rfl, d, dd, _, rfl, hD.ins, n_Desk_around, _, rfl, q, _, _, _, rfl, rfl, SqL.of hq, atI_n (j := 0) rfl, _, rfl, q, _, _, _, rfl, rfl, SqL.of hq, atI_n (j := 1) rfl, _, _, _, rfl, pr, G, d, dd, p, r, kn, es, _, _, rfl, rfl, rfl, hD, ha⟩
    · cases hc
      exact ⟨_, rfl, rfl, _, rfl, _, rfl, rfl, _, rfl, _, rfl, rfl, _, rfl, _, rfl, rfl, _, rfl, _, rfl, rfl, _, rfl, _, rfl, rfl, _, rfl, _, rfl, rfl, _, rfl, _, rfl, d, dd, _, rfl, hD.ins, n_Desk_both, _, rfl, q, _, _, _, rfl, rfl, SqL.of hq, atI_n (j := 0) rfl, _, rfl, q, _, _, _, rfl, rfl, SqL.of hq, atI_n (j := 1) rfl, _, rfl, q, _, _, _, rfl, rfl, SqL.of hq, atI_n (j := 2) rfl, _, _, _, _, rfl, pr, G, d, dd, p, r, kn, es, _, _, _, rfl, rfl, rfl, rfl, hD, ha⟩
    · cases hc
      exact ⟨_, rfl, rfl, _, rfl, _, rfl, rfl, _, rfl, _, rfl, rfl, _, rfl, _, rfl, rfl, _, rfl, _, rfl, rfl, _, rfl, _, rfl, rfl, _, rfl, _, rfl, rfl, _, rfl, _, rfl, d, dd, _, rfl, hD.ins, n_Desk_heavy, _, rfl, q, _, _, _, rfl, rfl, SqL.of hq, atI_n (j := 0) rfl, _, _, rfl, pr, G, d, dd, p, r, kn, es, _, rfl, rfl, hD, ha⟩
    · cases hc
end
end Wk
set_option maxHeartbeats 2000000
namespace Wk
open PySem PySem.Spec PyProof.Rows L2
open Vakepa (Prog)
open VakepBase (one index)
section
variable {P : Program} {w : World} {K : PySem.W.Frag} {mg : Str → Option Value} {base : Heap}
/-- a change of the desk's own object -/
theorem RcAt.mutI {pr : Prog} {G H : Hp} {r p kn d C dd : Addr} {fs gs : List (Str × V)} {es : List Ent} (h : RcAt P w K pr G H r p kn es) (hD : H d = some (.ins C dd fs)) (gD : G d = none) : RcAt P w K pr G (upd H d (.ins C dd gs)) r p kn es := by
  have n1 : kn ≠ d := (ne_of hD h.known dH_ni).symm
  refine ⟨h.fix, L2.Same.mut h.same gD, by rw [upd_ne n1]; exact h.known, fun x hx => (h.keys x hx).same fun b zs hb => ?_, h.nd, fun x hx => let ⟨m, gn, a, b, c, d'⟩ := h.vals x hx; ⟨m, gn, a, b, c, ?_⟩⟩
  · rw [upd_ne (ne_of hb hD (fun z => nomatch z))]
    exact hb
  · rw [upd_ne (ne_of d' hD (fun z => nomatch z))]
    exact d'
def spDeskInit (K : PySem.W.Frag) : Sp := Sp1 fun s H Q _ => ∃ d dx, s = .ref d ∧ H d = some (.ins (cDesk K) dx []) ∧ Q .non (upd H d (.ins (cDesk K) dx (F_Desk .non .non)))
theorem sc_Desk___init__ : FnScope ["self"] ["self"] (defScope s_Desk___init__) := ⟨rfl, rfl, rfl, by decide +kernel, rfl, by decide +kernel, by decide +kernel⟩
theorem ok_Desk___init__ (T : Tx K mg) : FK P w K mg base CX0 (1) (He.ma K (He.ga K "Desk") "__init__") ["self"] (spDeskInit K) := by
  obtain ⟨fd, F⟩ := T.f_Desk___init__
  refine ⟨fd, F.ok sc_Desk___init__ (fun vs H Q E h => Sp1.len h) (fun cdv A outer s H vs Q E hr h => ?body), F.bindsN (fun _ _ _ _ _ _ us hl => match us, hl with | [_], _ => rfl), F.kp⟩
  refine ⟨_, PSs.nox (pss_cons (ps_fld (pv 0) pe_non rfl)
      (pss_one (ps_fld (pv 0) pe_non rfl))), ?_⟩
  obtain ⟨_, rfl, d, dx, rfl, hd, k⟩ := h
  refine ⟨_, rfl, d, _, dx, _, rfl, hd, T.c_Desk, T.na_Desk_program, by decide, ?_⟩
  refine ⟨_, rfl, d, _, dx, _, rfl, upd_same, T.c_Desk, T.na_Desk_reached, by show 1 < 1000; decide, ?_⟩
  rw [upd_upd]
  rw [← i_Desk] at k
  exact k
def loadL (pr : Prog) : List Int := [1, (pr.sets.length : Int), (pr.parts.length : Int), (pr.starts.length : Int), ((tot pr.sets : Nat) : Int)]
def spDeskLoad (P : Program) (w : World) (K : PySem.W.Frag) : Sp := Sp2 fun s x H Q _ => ∃ d dd v1 v2 l b F fl, s = .ref d ∧ x = .ref l ∧ H d = some (.ins (cDesk K) dd (F_Desk v1 v2)) ∧ H l = some (.lst (byteL b)) ∧ H F = some (.lst fl) ∧ b.length ≤ 100000 ∧ (∀ pr, Vakepa.read b = .ok pr → Good pr) ∧
  (∀ f, Vakepa.read b = .error f → ∀ q H', Same H H' → H' q = some (.lst (intL [0, (f.code : Int), (f.place : Int)])) → H q = none → Q (.ref q) H') ∧
  (∀ pr, Vakepa.read b = .ok pr → ∀ q H' G p r kn, (∀ a o, H a = some o → a ≠ d → H' a = some o) → DeskAt P w K pr G H' d dd p r kn [] → G F = none → G d = none → H kn = none → H' q = some (.lst (intL (loadL pr))) → H q = none → Q (.ref q) H')
theorem sc_Desk_load : FnScope ["self", "text", "program", "e", "many"] ["self", "text"] (defScope s_Desk_load) := ⟨rfl, rfl, rfl, by decide +kernel, rfl, by decide +kernel, by decide +kernel⟩
theorem ok_Desk_load (T : Tx K mg) : FK P w K mg base CX0 (25) (He.ma K (He.ga K "Desk") "load") ["self", "text"] (spDeskLoad P w K) := by
  obtain ⟨fd, F⟩ := T.f_Desk_load
  obtain ⟨fd0, G0, b0, k0⟩ := ok_Program_how_many_assignments (P := P) (w := w) (base := base) T
  obtain ⟨fd1, G1, b1, k1⟩ := ok_Reached___init__ (P := P) (w := w) (base := base) T
  obtain ⟨fd2, G2, b2, k2⟩ := ok_read_program (P := P) (w := w) (base := base) T
  refine ⟨fd, F.ok sc_Desk_load (fun vs H Q E h => Sp2.len h) (fun cdv A outer s H vs Q E hr h => ?body), F.bindsN (fun _ _ _ _ _ _ us hl => match us, hl with | [_, _], _ => rfl), F.kp⟩
  refine ⟨_, PSs.nox (pss_cons (ps_try_as (i := 3) rfl rfl sc_Desk_load.nd rfl rfl ⟨rfl, by decide, .inl T.g_Fault⟩ takes0 (fun W pn xe tk _ => (pss_one (ps_set (i := 2) sc_Desk_load.nd rfl (.inl rfl) (pe_callS G2 (hr.mono (by first | decide | omega)) rfl T.g_read_program k2 b2 (fun σ => passAt tk σ) (pa_cons (pv 1) pa_nil)) (hf := (.inr rfl))))) (fun a oe cls d pn hz hf => (pss_one (ps_ret (pe_lst (pa_cons pe_int (pa_cons (pe_xf T.e_Fault.xf T.na_Fault_code hz hf (pv 3)) (pa_cons (pe_xf T.e_Fault.xf T.na_Fault_place hz hf (pv 3)) pa_nil))))))))
      (pss_cons (ps_fld (pv 0) (pv 2) rfl)
      (pss_cons (ps_fld (pv 0) (pe_make T.m_Reached G1 (hr.mono (by first | decide | omega)) rfl T.g_Reached b1 .nil pass0 (pa_cons (pv 2) pa_nil)) rfl)
      (pss_cons (ps_set (i := 4) sc_Desk_load.nd rfl (.inl rfl) (pe_lst (pa_cons (pe_callB call_lenK rfl T.n_len boot_len (pa_cons (pe_fld (pv 2) rfl) pa_nil)) (pa_cons (pe_callB call_lenK rfl T.n_len boot_len (pa_cons (pe_fld (pv 2) rfl) pa_nil)) (pa_cons (pe_callB call_lenK rfl T.n_len boot_len (pa_cons (pe_fld (pv 2) rfl) pa_nil)) (pa_cons (pe_meth0 (pv 2) T.c_Program T.me_Program_how_many_assignments G0 (hr.mono (by first | decide | omega)) b0 .nil pass0) pa_nil))))) (hf := (.inr rfl)))
      (pss_one (ps_ret (pe_op op_cat (pe_lst (pa_cons pe_int pa_nil)) (pv 4)))))))), ?_⟩
  obtain ⟨_, _, rfl, d, dd, v1, v2, l, b, F, fl, rfl, rfl, hd, hl, hF, hb, hg, kf, kk⟩ := h
  refine ⟨_, rfl, _, rfl, l, b, F, fl, rfl, hl, hF, hb, fun f hf => ?_, fun pr hpr H1 p hP e1 => ?_⟩
  · intro d1 H1 fs e1 hd1 hc hp
    refine ⟨true, T.x_Fault, fun _ a ha => ⟨_, rfl, rfl, rfl, d1, fs, _, rfl, hd1, hc, _, rfl, rfl, rfl, d1, fs, _, rfl, hd1, hp, by show 3 ≤ sizeLine; decide, fun q hq => ?_⟩, fun z => by cases z⟩
    exact kf f hf q _ (Same.trans e1 (Same.new hq)) upd_same (gone e1 hq)
  · have hd1 := e1 _ _ hd
    have hF1 := e1 _ _ hF
    have g := hg pr hpr
    have kt : ∀ b xs, del H1 F b = some (.tup xs) → del (del H1 F) d b = some (.tup xs) := fun b xs hb => by
      rw [del_ne]
      · exact hb
      · intro z
        rw [z] at hb
        by_cases y : d = F
        · rw [y, del_same] at hb; cases hb
        · rw [del_ne y, hd1] at hb; cases hb
    have kl : ∀ b xs, del H1 F b = some (.lst xs) → del (del H1 F) d b = some (.lst xs) := fun b xs hb => by
      rw [del_ne]
      · exact hb
      · intro z
        rw [z] at hb
        by_cases y : d = F
        · rw [y, del_same] at hb; cases hb
        · rw [del_ne y, hd1] at hb; cases hb
    have ki : ∀ b C dx fs, fs.length = 3 → del H1 F b = some (.ins C dx fs) → del (del H1 F) d b = some (.ins C dx fs) := fun b C dx fs hl hb => by
      rw [del_ne]
      · exact hb
      · intro z
        rw [z] at hb
        by_cases y : d = F
        · rw [y, del_same] at hb; cases hb
        · rw [del_ne y, hd1] at hb
          injection hb with hb
          injection hb with _ _ hb
          rw [← hb] at hl
          cases hl
    have hP0 := hP.tl kt kl ki
    generalize hG0 : del (del H1 F) d = G0 at hP0
    have gF : G0 F = none := by
      rw [← hG0]
      by_cases y : F = d
      · rw [y, del_same]
      · rw [del_ne y, del_same]
    have gd : G0 d = none := by rw [← hG0, del_same]
    have s01 : Same G0 H1 := fun b o hb => by
      rw [← hG0] at hb
      by_cases y : b = d
      · rw [y, del_same] at hb; cases hb
      · rw [del_ne y] at hb
        by_cases y2 : b = F
        · rw [y2, del_same] at hb; cases hb
        · rwa [del_ne y2] at hb
    refine ⟨_, rfl, _, rfl, d, _, dd, _, rfl, hd1, T.c_Desk, T.na_Desk_program, by show 2 < 1000; decide, ?_⟩
    rw [p_Desk_program]
    have s02 : Same G0 (upd H1 d (.ins (cDesk K) dd (F_Desk (.ref p) v2))) := Same.mut s01 gd
    have hd2 : (upd H1 d (.ins (cDesk K) dd (F_Desk (.ref p) v2))) d = some (.ins (cDesk K) dd (F_Desk (.ref p) v2)) := upd_same
    have f02 : ∀ a o, H a = some o → a ≠ d → (upd H1 d (.ins (cDesk K) dd (F_Desk (.ref p) v2))) a = some o := fun a o ha n => by rw [upd_ne n]; exact e1 _ _ ha
    have hF2 : (upd H1 d (.ins (cDesk K) dd (F_Desk (.ref p) v2))) F = some (.lst fl) := f02 _ _ hF (ne_of hF hd (fun z => nomatch z))
    generalize upd H1 d (.ins (cDesk K) dd (F_Desk (.ref p) v2)) = H2 at s02 hd2 f02 hF2
    refine ⟨_, rfl, fun r dx hr hdx hne => ?_⟩
    have e3 : Same H2 (upd (upd H2 dx (.own r)) r (.ins (cReached K) dx [])) := Same.trans (Same.new hdx) (Same.new (by rw [upd_ne hne.symm]; exact hr))
    have hr3 : (upd (upd H2 dx (.own r)) r (.ins (cReached K) dx [])) r = some (.ins (cReached K) dx []) := upd_same
    have gr : G0 r = none := gone s02 hr
    generalize hH3 : upd (upd H2 dx (.own r)) r (.ins (cReached K) dx []) = H3 at e3 hr3
    refine ⟨_, _, rfl, G0, pr, p, r, dx, F, fl, rfl, rfl, e3 _ _ hF2, gF, Same.trans s02 e3, gr, hr3, hP0, g, fun H4 G kn k4 rc4 s4 gF4 hkn => ⟨rfl, ?_⟩⟩
    have hd3 := e3 _ _ hd2
    have hd4 := k4 _ _ hd3 (fun z => by rw [z, hr] at hd2; cases hd2)
    refine ⟨_, rfl, d, _, dd, _, rfl, hd4, T.c_Desk, T.na_Desk_reached, by show 2 < 1000; decide, ?_⟩
    rw [p_Desk_reached]
    have rcd := (rc4.delDesk hd4 rfl).mutI (gs := F_Desk (.ref p) (.ref r)) hd4 del_same
    have hD5 : DeskAt P w K pr (del G d) (upd H4 d (.ins (cDesk K) dd (F_Desk (.ref p) (.ref r)))) d dd p r kn [] := ⟨upd_same, rcd⟩
    have gF5 : del G d F = none := by
      by_cases y : F = d
      · rw [y, del_same]
      · rw [del_ne y]; exact gF4
    have f05 : ∀ a o, H a = some o → a ≠ d → (upd H4 d (.ins (cDesk K) dd (F_Desk (.ref p) (.ref r)))) a = some o := fun a o ha n => by
      rw [upd_ne n]
      have h2 := f02 _ _ ha n
      exact k4 _ _ (e3 _ _ h2) (fun z => by rw [z, hr] at h2; cases h2)
    have hkn0 : H kn = none := by
      cases q : H kn with
      | none => rfl
      | some o =>
        by_cases y : kn = d
        · rw [y, hd3] at hkn; cases hkn
        · rw [e3 _ _ (f02 _ _ q y)] at hkn; cases hkn
    have gd5 : del G d d = none := del_same
    generalize upd H4 d (.ins (cDesk K) dd (F_Desk (.ref p) (.ref r))) = H5 at hD5 f05
    generalize del G d = G5 at hD5 gF5 gd5
    have sm := hD5.rc.same
    obtain ⟨dxp, ls, lp, le, vs, ws, hp⟩ := id hD5.rc.fix.pg
    have hsl : vs.length = pr.sets.length := Paired.length hp.sets
    have hwl : ws.length = pr.parts.length := Paired.length hp.parts
    refine ⟨_, rfl, p, _, dxp, _, _, rfl, sm _ _ hp.ins, T.c_Program, T.na_Program_settings, l_Program_settings, ls, vs, rfl, .inl (SqL.of (sm _ _ hp.sl)), ?_⟩
    refine ⟨_, rfl, p, _, dxp, _, _, rfl, sm _ _ hp.ins, T.c_Program, T.na_Program_parts, l_Program_parts, lp, ws, rfl, .inl (SqL.of (sm _ _ hp.pl)), ?_⟩
    refine ⟨_, rfl, p, _, dxp, _, _, rfl, sm _ _ hp.ins, T.c_Program, T.na_Program_entries, l_Program_entries, le, natL pr.starts, rfl, .inl (SqL.of (sm _ _ hp.el)), ?_⟩
    refine ⟨_, rfl, p, dxp, _, rfl, sm _ _ hp.ins, n_Program_how_many_assignments, _, rfl, p, pr.sets, rfl, (hD5.rc.fix.pg.same sm).setsAt, ?_, fun H6 e6 => ?_⟩
    · exact fun s hs => Nat.le_trans (g.vals s hs).2.1 (by decide)
    refine ⟨by show 4 ≤ sizeLine; decide, fun q7 hq7 => ?_⟩
    have e7 := Same.trans e6 (Same.new (o := HO.lst [.int (vs.length : Int), .int (ws.length : Int), .int ((natL pr.starts).length : Int), .int ((tot pr.sets : Nat) : Int)]) hq7)
    have hq7' : (upd H6 q7 (.lst [.int (vs.length : Int), .int (ws.length : Int), .int ((natL pr.starts).length : Int), .int ((tot pr.sets : Nat) : Int)])) q7 = some (.lst [.int (vs.length : Int), .int (ws.length : Int), .int ((natL pr.starts).length : Int), .int ((tot pr.sets : Nat) : Int)]) := upd_same
    generalize upd H6 q7 (.lst [.int (vs.length : Int), .int (ws.length : Int), .int ((natL pr.starts).length : Int), .int ((tot pr.sets : Nat) : Int)]) = H7 at e7 hq7'
    refine ⟨by show 1 ≤ sizeLine; decide, fun q8 hq8 => ?_⟩
    refine ⟨_, rfl, q8, q7, _, _, rfl, rfl, upd_same, (Same.new hq8) _ _ hq7', by show 5 ≤ sizeLine; decide, fun q9 hq9 => ?_⟩
    have e9 := Same.trans e7 (Same.trans (Same.new (o := HO.lst [.int 1]) hq8) (Same.new (o := HO.lst ([.int 1] ++ [.int (vs.length : Int), .int (ws.length : Int), .int ((natL pr.starts).length : Int), .int ((tot pr.sets : Nat) : Int)])) hq9))
    refine kk pr hpr q9 _ G5 p r kn (fun a o ha n => e9 _ _ (f05 _ _ ha n)) (hD5.same e9) gF5 gd5 hkn0 ?_ ?_
    rotate_left
    · have h5 : H5 q9 = none := gone (Same.trans e7 (Same.new hq8)) hq9
      cases x : H q9 with
      | none => rfl
      | some o =>
        by_cases y : q9 = d
        · rw [y, hD5.ins] at h5; cases h5
        · rw [f05 _ _ x y] at h5; cases h5
    rw [upd_same, hsl, hwl, natL_len]
    rfl
/-- the desk as the document's object; F is a list that is none of its -/
def DeskO (P : Program) (w : World) (K : PySem.W.Frag) (o : Option Prog) (F : Addr) (H : Hp) (d : Addr) : Prop := match o with
  | none => ∃ dd, H d = some (.ins (cDesk K) dd (F_Desk .non .non))
  | some pr => ∃ dd G p r kn es, DeskAt P w K pr G H d dd p r kn es ∧ G F = none ∧ ∀ e ∈ es, e.l ≠ F
theorem DeskO.same {o : Option Prog} {F d : Addr} {H H' : Hp} (h : DeskO P w K o F H d) (e : Same H H') : DeskO P w K o F H' d := by
  cases o with
  | none => obtain ⟨dd, h⟩ := h; exact ⟨dd, e _ _ h⟩
  | some pr => obtain ⟨dd, G, p, r, kn, es, h, g, n⟩ := h; exact ⟨dd, G, p, r, kn, es, h.same e, g, n⟩
theorem DeskO.mut {o : Option Prog} {F d : Addr} {H : Hp} {xs ys : List V} (h : DeskO P w K o F H d) (hF : H F = some (.lst xs)) : DeskO P w K o F (upd H F (.lst ys)) d := by
  cases o with
  | none => obtain ⟨dd, h⟩ := h; exact ⟨dd, by rw [upd_ne (ne_of h hF (fun z => nomatch z))]; exact h⟩
  | some pr =>
    obtain ⟨dd, G, p, r, kn, es, h, g, n⟩ := h
    exact ⟨dd, G, p, r, kn, es, ⟨by rw [upd_ne (ne_of h.ins hF (fun z => nomatch z))]; exact h.ins, h.rc.mut hF g n⟩, g, n⟩
/-- lists and what is frozen are kept -/
def KeepL (H H' : Hp) : Prop := (∀ a xs, H a = some (.lst xs) → H' a = some (.lst xs)) ∧ ∀ a o u, H a = some (.frz o u) → H' a = some (.frz o u)
theorem KeepL.of {H H' : Hp} (e : Same H H') : KeepL H H' := ⟨fun a xs h => e _ _ h, fun a o u h => e _ _ h⟩
theorem KeepL.sql {K : PySem.W.Frag} {H H' : Hp} {a : Addr} {xs : List V} (k : KeepL H H') (h : SqL K H a xs) : SqL K H' a xs :=
  h.elim (fun h => .inl (h.elim (fun h => .inl (k.1 _ _ h)) fun ⟨o, h⟩ => .inr ⟨o, k.2 _ _ _ h⟩)) fun h => .inr h
theorem sql_mut {K : PySem.W.Frag} {H : Hp} {a F : Addr} {xs fl ys : List V} (h : SqL K H a xs) (n : a ≠ F) : SqL K (upd H F (.lst ys)) a xs :=
  h.elim (fun h => .inl (h.elim (fun h => .inl ((upd_ne n).trans h)) fun ⟨o, h⟩ => .inr ⟨o, (upd_ne n).trans h⟩)) fun h => .inr h
/-- rows handed to load -/
def RwsAt (H : Hp) (j : Nat) (q : Addr) (b : VakepBase.Bytes) : Prop := if j = 0 then ∃ l, H q = some (.lst [.ref l]) ∧ H l = some (.lst (byteL b)) else True
/-- a call of a number -/
def callJ (j : Nat) (ns : List Int) (b : VakepBase.Bytes) : Option Vakepb.Call := if j = 0 then some (.load b) else callOf j ns
theorem DeskO.ins {o : Option Prog} {F d : Addr} {H : Hp} (h : DeskO P w K o F H d) : ∃ dd v1 v2, H d = some (.ins (cDesk K) dd (F_Desk v1 v2)) := by
  cases o with
  | none => obtain ⟨dd, h⟩ := h; exact ⟨dd, _, _, h⟩
  | some pr => obtain ⟨dd, G, p, r, kn, es, h, g, n⟩ := h; exact ⟨dd, _, _, h.ins⟩
theorem step_none {j : Nat} {ns : List Int} {c : Vakepb.Call} (h : callOf j ns = some c) : Vakepb.step none c = (none, one (-1)) := by
  unfold callOf at h
  split at h <;> cases h <;> rfl
theorem step_some {j : Nat} {ns : List Int} {c : Vakepb.Call} {pr : Prog} (h : callOf j ns = some c) : Vakepb.step (some pr) c = (some pr, Vakepb.looked pr c) := by
  unfold callOf at h
  split at h <;> cases h <;> rfl
theorem step_err {o : Option Prog} {b : VakepBase.Bytes} {f : VakepBase.Fault} (h : Vakepa.read b = .error f) : Vakepb.step o (.load b) = (o, ⟨0, [(f.code : Int), (f.place : Int)]⟩) := by
  cases o <;> (show (match Vakepa.read b with
    | .ok p => (some p, _)
    | .error f => (_, VakepBase.faulty f)) = _) <;> rw [h] <;> rfl
theorem step_ok {o : Option Prog} {b : VakepBase.Bytes} {pr : Prog} (h : Vakepa.read b = .ok pr) : Vakepb.step o (.load b) = (some pr, ⟨1, [(pr.sets.length : Int), (pr.parts.length : Int), (pr.starts.length : Int), ((Vakepa.total pr : Nat) : Int)]⟩) := by
  cases o <;> (show (match Vakepa.read b with
    | .ok p => (some p, _)
    | .error f => (_, VakepBase.faulty f)) = _) <;> rw [h] <;> rfl
def spDeskAnswer (P : Program) (w : World) (K : PySem.W.Frag) : Sp := Sp4 fun s x y z H Q _ => ∃ d o F fl j q ns q2 b c, s = .ref d ∧ x = .int ((j : Nat) : Int) ∧ y = .ref q ∧ z = .ref q2 ∧ DeskO P w K o F H d ∧ H F = some (.lst fl) ∧ H q = some (.lst (intL ns)) ∧ RwsAt H j q2 b ∧ callJ j ns b = some c ∧ b.length ≤ 100000 ∧
  (∀ pr, Vakepa.read b = .ok pr → Good pr) ∧
  ∀ q' H', KeepL H H' → DeskO P w K (Vakepb.step o c).1 F H' d → H q' = none → H' q' = some (.lst (ansL (Vakepb.step o c).2)) → Q (.ref q') H'
theorem sc_Desk_answer : FnScope ["self", "call", "n", "rows", "e"] ["self", "call", "n", "rows"] (defScope s_Desk_answer) := ⟨rfl, rfl, rfl, by decide +kernel, rfl, by decide +kernel, by decide +kernel⟩
theorem ok_Desk_answer (T : Tx K mg) : FK P w K mg base CX0 (27) (He.ma K (He.ga K "Desk") "answer") ["self", "call", "n", "rows"] (spDeskAnswer P w K) := by
  obtain ⟨fd, F⟩ := T.f_Desk_answer
  obtain ⟨fd0, G0, b0, k0⟩ := ok_Desk_load (P := P) (w := w) (base := base) T
  obtain ⟨fd1, G1, b1, k1⟩ := ok_Desk_asked (P := P) (w := w) (base := base) T
  refine ⟨fd, F.ok sc_Desk_answer (fun vs H Q E h => Sp4.len h) (fun cdv A outer s H vs Q E hr h => ?body), F.bindsN (fun _ _ _ _ _ _ us hl => match us, hl with | [_, _, _, _], _ => rfl), F.kp⟩
  refine ⟨_, PSs.nox (pss_one (ps_try_as (i := 4) rfl rfl sc_Desk_answer.nd rfl rfl ⟨rfl, by decide, .inl T.g_Refused⟩ takes0 (fun W pn xe tk _ => (pss_one (ps_ret (pe_ifExp (pt_cmpR op_eq (pv 1) pe_int (nomark _)) (pe_meth (pv 0) T.c_Desk T.me_Desk_load G0 (hr.mono (by first | decide | omega)) b0 .nil pass0 (pa_cons (show PE _ _ (tOp (rIxL K) _ _) from by exact (pe_ix ix_list (pv 3) pe_int (fun _ _ => rfl))) pa_nil)) (pe_methS (pv 0) T.c_Desk T.me_Desk_asked G1 (hr.mono (by first | decide | omega)) b1 (fun σ => passAt tk σ) (pa_cons (pv 1) (pa_cons (pv 2) pa_nil))))))) (fun a oe cls d pn hz hf => (pss_one (ps_ret (pe_lst (pa_cons (pe_xf T.e_Refused.xf T.na_Refused_number hz hf (pv 4)) pa_nil))))))), ?_⟩
  obtain ⟨_, _, _, _, rfl, d, o, F, fl, j, q, ns, q2, b, c, rfl, rfl, rfl, rfl, hd, hF, hq, hq2, hc, hb, hg, kk⟩ := h
  by_cases hj : j = 0
  · subst hj
    have hc2 : some (Vakepb.Call.load b) = some c := hc
    cases hc2
    obtain ⟨dd, v1, v2, hdi⟩ := hd.ins
    obtain ⟨l, hql, hlb⟩ : ∃ l, H q2 = some (.lst [.ref l]) ∧ H l = some (.lst (byteL b)) := hq2
    refine ⟨_, rfl, rfl, _, rfl, _, rfl, d, dd, _, rfl, hdi, n_Desk_load, _, rfl, q2, _, _, _, rfl, rfl, SqL.of hql, atI_n (j := 0) rfl, _, _, rfl, d, dd, v1, v2, l, b, F, fl, rfl, rfl, hdi, hlb, hF, hb, hg, fun f hf q' H' e' hq' h0 => ?_, fun pr hpr q' H' G p r kn f' hD gF gd hkn hq' h0 => ?_⟩
    · rw [step_err hf] at kk
      exact kk q' H' (KeepL.of e') (hd.same e') h0 hq'
    · rw [step_ok hpr] at kk
      exact kk q' H' ⟨fun a xs ha => f' _ _ ha (ne_of ha hdi (fun z => nomatch z)), fun a o u ha => f' _ _ ha (ne_of ha hdi (fun z => nomatch z))⟩ ⟨dd, G, p, r, kn, [], hD, gF, (fun _ h => nomatch h)⟩ h0 hq'
  · have hc2 : callOf j ns = some c := by unfold callJ at hc; rwa [if_neg hj] at hc
    have hz : decide (V.int ((j : Nat) : Int) = V.int 0) = false := decide_eq_false fun z => by injection z with z; omega
    obtain ⟨dd, v1, v2, hdi⟩ := hd.ins
    refine ⟨_, rfl, rfl, ?_⟩
    rw [hz]
    refine ⟨_, rfl, _, rfl, d, dd, _, rfl, hdi, n_Desk_asked, _, rfl, _, rfl, _, _, _, rfl, d, dd, j, q, ns, c, rfl, rfl, rfl, hq, hc2, ?_⟩
    cases o with
    | none =>
      obtain ⟨dd2, hd2⟩ := id hd
      rw [step_none hc2] at kk
      have e2 := hdi.symm.trans hd2
      injection e2 with e2
      injection e2 with _ e3 e4
      subst e3
      refine .inl ⟨hd2, fun d1 H1 fs e1 hd1 hl => ⟨true, T.x_Refused, fun _ a ha => ⟨_, rfl, rfl, rfl, d1, fs, _, rfl, hd1, hl, by show 1 ≤ sizeLine; decide, fun q' hq' => ?_⟩, fun z => by cases z⟩⟩
      exact kk q' _ (KeepL.of (Same.trans e1 (Same.new hq'))) (hd.same (Same.trans e1 (Same.new hq'))) (gone e1 hq') upd_same
    | some pr =>
      obtain ⟨dd2, G, p, r, kn, es, hD, gF, ho⟩ := id hd
      rw [step_some hc2] at kk
      have e2 := hdi.symm.trans hD.ins
      injection e2 with e2
      injection e2 with _ e3 e4
      subst e3
      refine .inr ⟨pr, G, p, r, kn, es, hD, fun n hn d1 H1 fs e1 hd1 hl => ⟨true, T.x_Refused, fun _ a ha => ⟨_, rfl, rfl, rfl, d1, fs, _, rfl, hd1, hl, by show 1 ≤ sizeLine; decide, fun q' hq' => ?_⟩, fun z => by cases z⟩, fun q' H' es' rc' n' k' hq' h0 => ?_⟩
      · exact kk q' _ (KeepL.of (Same.trans e1 (Same.new hq'))) (hd.same (Same.trans e1 (Same.new hq'))) (gone e1 hq') (by rw [upd_same, hn]; rfl)
      · exact kk q' H' ⟨fun a xs ha => keep_lst k' hD.rc.known ha, fun a o u ha => k' _ _ ha (ne_of ha hD.rc.known (fun z => nomatch (show HO.frz _ _ = HO.ext _ from z)))⟩ ⟨dd, G, p, r, kn, es', hD.go k' rc', gF, n'.off hF ho⟩ h0 hq'
end
end Wk
set_option maxHeartbeats 2000000
namespace Wk
open PySem PySem.Spec PyProof.Rows L2
open Vakepa (Prog)
theorem cJ_eq (j : Nat) (ns : List Int) (b : VakepBase.Bytes) : G.cJ j ns b = callJ j ns b := rfl
theorem bytesI_L (b : VakepBase.Bytes) : intL (G.bytesI b) = byteL b := by
  unfold intL G.bytesI byteL
  rw [List.map_map]
  rfl
theorem intL_at {l : List Int} {i : Nat} {x : Int} (h : l[i]? = some x) : (intL l)[i]? = some (.int x) := by
  unfold intL
  rw [List.getElem?_map, h]
  rfl
theorem cut_int {ns : List Int} {i n : Nat} : cutV (intL ns) (some (i : Int)) (some ((i + n : Nat) : Int)) = intL ((ns.drop i).take n) := by
  unfold cutV
  rw [HT.sIx_nat, HT.sIx_nat, intL_len]
  unfold intL
  rw [List.map_take, List.map_drop]
  by_cases h : i ≤ ns.length
  · rw [Nat.min_eq_left h, List.take_eq_take_iff, List.length_drop, List.length_map]
    omega
  · have h1 : (ns.map V.int).drop i = [] := List.drop_of_length_le (by rw [List.length_map]; omega)
    have h2 : (ns.map V.int).drop (min i ns.length) = [] := List.drop_of_length_le (by rw [List.length_map]; omega)
    rw [h1, h2, List.take_nil, List.take_nil]
section
variable {P : Program} {w : World} {K : PySem.W.Frag} {mg : Str → Option Value} {base : Heap}
theorem sql_mut2 {H : Hp} {a F : Addr} {xs ys : List V} (h : SqL K H a xs) (n : (∀ H' : Hp, SqL K H' a xs) ∨ a ≠ F) : SqL K (upd H F (.lst ys)) a xs := n.elim (fun n => n _) fun n => sql_mut (fl := []) h n
theorem sql_off {H : Hp} {a F : Addr} {xs : List V} (h : SqL K H a xs) (hF : H F = none) : (∀ H' : Hp, SqL K H' a xs) ∨ a ≠ F := by
  rcases h with h | h
  · refine .inr fun e => ?_
    subst e
    rcases h with h | ⟨o, h⟩ <;> rw [hF] at h <;> cases h
  · exact .inl fun _ => .inr h
def formsL (K : PySem.W.Frag) : List V := [.ref (itA "FORMS" 0 K), .ref (itA "FORMS" 1 K), .ref (itA "FORMS" 2 K), .ref (itA "FORMS" 3 K), .ref (itA "FORMS" 4 K), .ref (itA "FORMS" 5 K), .ref (itA "FORMS" 6 K), .ref (itA "FORMS" 7 K), .ref (itA "FORMS" 8 K)]
theorem forms_at (T : Tx K mg) {p : Nat} (hp : p ≤ 8) : ∃ fa, (formsL K)[p]? = some (.ref fa) ∧ ∀ H, SqT K H fa [.int (((G.frm p).1 : Nat) : Int), .int (((G.frm p).2 : Nat) : Int)] := by
  match p, hp with
  | 0, _ => exact ⟨_, rfl, T.t_FORMS_0⟩
  | 1, _ => exact ⟨_, rfl, T.t_FORMS_1⟩
  | 2, _ => exact ⟨_, rfl, T.t_FORMS_2⟩
  | 3, _ => exact ⟨_, rfl, T.t_FORMS_3⟩
  | 4, _ => exact ⟨_, rfl, T.t_FORMS_4⟩
  | 5, _ => exact ⟨_, rfl, T.t_FORMS_5⟩
  | 6, _ => exact ⟨_, rfl, T.t_FORMS_6⟩
  | 7, _ => exact ⟨_, rfl, T.t_FORMS_7⟩
  | 8, _ => exact ⟨_, rfl, T.t_FORMS_8⟩
  | p + 9, h => omega
def spRowsAt (K : PySem.W.Frag) : Sp := Sp3 fun x y z H Q _ => ∃ (a : Addr) (ns : List Int) (e : Nat), x = .ref a ∧ SqL K H a (intL ns) ∧ ns.length ≤ 100000 ∧ y = .int (e : Int) ∧
  ((z = .int 0 ∧ ∀ q2 t H', Same H H' → H' q2 = some (.lst []) → H' t = some (.tup [.ref q2, .int (e : Int)]) → Q (.ref t) H') ∨
   ∃ bs : List Int, z = .int 1 ∧ ns[e]? = some (bs.length : Int) ∧ (ns.drop (e + 1)).take bs.length = bs ∧ ∀ q2 l t H', Same H H' → H' q2 = some (.lst [.ref l]) → H' l = some (.lst (intL bs)) → H' t = some (.tup [.ref q2, .int ((e + 1 + bs.length : Nat) : Int)]) → Q (.ref t) H')
theorem sc_rows_at : FnScope ["calls", "at", "many", "found", "turn"] ["calls", "at", "many"] (defScope s_rows_at) := ⟨rfl, rfl, rfl, by decide +kernel, rfl, by decide +kernel, by decide +kernel⟩
theorem ok_rows_at (T : Tx K mg) : FK P w K mg base CX0 (1) (He.ga K "rows_at") ["calls", "at", "many"] (spRowsAt K) := by
  obtain ⟨fd, F⟩ := T.f_rows_at
  refine ⟨fd, F.ok sc_rows_at (fun vs H Q E h => Sp3.len h) (fun cdv A outer s H vs Q E hr h => ?body), F.bindsN (fun _ _ _ _ _ _ us hl => match us, hl with | [_, _, _], _ => rfl), F.kp⟩
  refine ⟨_, PSs.nox (pss_cons (ps_set (i := 3) sc_rows_at.nd rfl (.inl rfl) (pe_lst pa_nil) (hf := (.inr rfl)))
      (pss_cons (ps_for PassesOwn.never rfl (pi_range1 rfl T.n_range (pa_cons (pv 2) pa_nil)) (pg_name (i := 4) sc_rows_at.nd rfl (.inl rfl) (.inr rfl)) (pss_cons (ps_expr (pe_bm PySem.F.plainAttrs_list PySem.F.slot_list_append PySem.F.type_list_append mt_append (pv 3) (pa_cons (pe_slice sl_list (pv 0) (po_some (pe_op op_add (pv 1) pe_int)) (po_some (pe_op op_add (pe_op op_add (pv 1) pe_int) (pe_ix ix_list (pv 0) (pv 1) (fun _ _ => rfl))))) pa_nil)))
      (pss_one (ps_set (i := 1) sc_rows_at.nd rfl (.inl rfl) (pe_op op_add (pe_op op_add (pv 1) pe_int) (pe_ix ix_list (pv 0) (pv 1) (fun _ _ => rfl))) (hf := (.inr rfl))))))
      (pss_one (ps_ret (pe_tup (pa_cons (pv 3) (pa_cons (pv 1) pa_nil))))))), ?_⟩
  obtain ⟨_, _, z, rfl, a, ns, e, rfl, hs, hn, rfl, h⟩ := h
  refine ⟨by show 0 ≤ sizeLine; decide, fun D hD => ?_⟩
  have sD : Same H (upd H D (.lst [])) := Same.new hD
  rcases h with ⟨rfl, kk⟩ | ⟨bs, rfl, hb, hc, kk⟩
  · refine ⟨_, rfl, 0, rfl, by decide, by decide, ?_⟩
    refine for_range (fun i σ H' => σ = [some (.ref a), some (.int (e : Int)), some (.int 0), some (.ref D), none] ∧ H' = upd H D (.lst [])) ⟨rfl, rfl⟩ (fun i σ H' hi _ => absurd hi (Nat.not_lt_zero i)) ?_
    rintro σ H' ⟨rfl, rfl⟩
    refine ⟨_, rfl, _, rfl, by show 2 ≤ sizeLine; decide, fun t ht => ?_⟩
    exact kk D t _ (Same.trans sD (Same.new ht)) ((Same.new ht) _ _ upd_same) upd_same
  · refine ⟨_, rfl, 1, rfl, by decide, by decide, ?_⟩
    refine for_range (fun i σ H' => (i = 0 ∧ σ = [some (.ref a), some (.int (e : Int)), some (.int 1), some (.ref D), none] ∧ H' = upd H D (.lst [])) ∨
      (i = 1 ∧ ∃ l tv, σ = [some (.ref a), some (.int ((e + 1 + bs.length : Nat) : Int)), some (.int 1), some (.ref D), tv] ∧ Same H H' ∧ H' D = some (.lst [.ref l]) ∧ H' l = some (.lst (intL bs)))) (.inl ⟨rfl, rfl, rfl⟩) ?_ ?_
    · rintro i σ H' hi (⟨rfl, rfl, rfl⟩ | ⟨rfl, _⟩)
      · have hs1 := sD.seq hs
        have hb1 := atI_n (intL_at hb)
        refine ⟨_, rfl, .inl ⟨rfl, _, SqL.of upd_same⟩, _, rfl, _, rfl, _, _, rfl, rfl, _, rfl, _, rfl, _, _, rfl, rfl, _, rfl, _, rfl, a, _, _, _, rfl, rfl, hs1, hb1, _, _, rfl, rfl, _, rfl, a, _, rfl, hs1, fun l hl => ?_⟩
        have ec : cutV (intL ns) (some ((e : Int) + 1)) (some ((e : Int) + 1 + (bs.length : Int))) = intL bs := by
          have := cut_int (ns := ns) (i := e + 1) (n := bs.length)
          rw [hc] at this
          exact this
        rw [ec]
        have nD : D ≠ l := fun z => by rw [← z, upd_same] at hl; cases hl
        refine ⟨D, [], _, rfl, rfl, (upd_ne nD).trans upd_same, by show 0 < sizeLine; decide, ?_⟩
        have s2 : Same H (upd (upd (upd H D (.lst [])) l (.lst (intL bs))) D (.lst ([] ++ [V.ref l]))) := L2.Same.mut (Same.trans sD (Same.new hl)) hD
        have hl2 : (upd (upd (upd H D (.lst [])) l (.lst (intL bs))) D (.lst ([] ++ [V.ref l]))) l = some (.lst (intL bs)) := (upd_ne nD.symm).trans upd_same
        have hD2 : (upd (upd (upd H D (.lst [])) l (.lst (intL bs))) D (.lst ([] ++ [V.ref l]))) D = some (.lst [V.ref l]) := upd_same
        refine ⟨_, rfl, _, _, rfl, rfl, _, rfl, _, rfl, a, _, _, _, rfl, rfl, s2.seq hs, hb1, _, _, rfl, rfl, .inr ⟨rfl, l, _, rfl, s2, hD2, hl2⟩⟩
      · exact absurd hi (by decide)
    · rintro σ H' (⟨h, _⟩ | ⟨_, l, tv, rfl, s2, hD2, hl2⟩)
      · cases h
      · refine ⟨_, rfl, _, rfl, by show 2 ≤ sizeLine; decide, fun t ht => ?_⟩
        exact kk D l t _ (Same.trans s2 (Same.new ht)) ((Same.new ht) _ _ hD2) ((Same.new ht) _ _ hl2) upd_same
theorem rows_case {H3 : Hp} {Q : VK} {E : XK} {a : Addr} {p j t : Nat} {ns : List Int} {b : VakepBase.Bytes} (hs : SqL K H3 a (intL ns)) (hn : ns.length ≤ 100000) (hrows : ((G.frm p).2 = 0 ∧ t = j + 1 + (G.frm p).1) ∨ ((G.frm p).2 = 1 ∧ p = 0 ∧ ns[j + 1]? = some (b.length : Int) ∧ (ns.drop (j + 2)).take b.length = G.bytesI b ∧ t = j + 2 + b.length))
    (key : ∀ (q2 tt : Addr) (H4 : Hp), Same H3 H4 → RwsAt H4 p q2 b → H4 tt = some (.tup [.ref q2, .int (t : Int)]) → Q (.ref tt) H4) :
    spRowsAt K [.ref a, .int ((j : Int) + 1 + (((G.frm p).1 : Nat) : Int)), .int (((G.frm p).2 : Nat) : Int)] H3 Q E := by
  refine ⟨_, _, _, rfl, a, ns, j + 1 + (G.frm p).1, rfl, hs, hn, rfl, ?_⟩
  rcases hrows with ⟨h1, h2⟩ | ⟨h1, rfl, h3, h4, h5⟩
  · refine .inl ⟨by rw [h1]; rfl, fun q2 tt H' e hq ht => key q2 tt H' e ?_ (by rw [h2]; exact ht)⟩
    have hp : p ≠ 0 := fun z => by rw [z] at h1; cases h1
    unfold RwsAt
    rw [if_neg hp]
    trivial
  · have hl : (G.bytesI b).length = b.length := List.length_map _
    refine .inr ⟨G.bytesI b, rfl, by rw [hl]; exact h3, by rw [hl]; exact h4, fun q2 l tt H' e hq hb ht => key q2 tt H' e ⟨l, hq, by rw [← bytesI_L]; exact hb⟩ ?_⟩
    rw [hl] at ht
    rw [h5]
    exact ht
/-- what the row asks of the def answers -/
def spAnswers (K : PySem.W.Frag) : Sp := Sp1 fun x H Q _ => ∃ (a : Addr) (ns : List Int), x = .ref a ∧ SqL K H a (intL ns) ∧ ns.length ≤ 17000 ∧ PyVakepb.answers_asked ns = true ∧
  ∀ (H' : Hp) (p : Addr), H' p = some (.lst (intL (PyVakepb.answers ns))) → Q (.ref p) H'
theorem told_step (o : Option Prog) (c : Vakepb.Call) (c0 : List (List Int)) (cs : List (List (List Int))) (h : ∀ o, VakepbNeutral.step o (PyVakepb.whole c0) = ((Vakepb.step o c).1, VakepbNeutral.encode (Vakepb.step o c).2)) :
    PyFlat.told (PyFlat.played VakepbNeutral.step o ((c0 :: cs).map PyVakepb.whole)) = (((VakepbNeutral.encode (Vakepb.step o c).2).length : Nat) : Int) :: (VakepbNeutral.encode (Vakepb.step o c).2 ++ PyFlat.told (PyFlat.played VakepbNeutral.step (Vakepb.step o c).1 (cs.map PyVakepb.whole))) := by
  have e : PyFlat.played VakepbNeutral.step o ((c0 :: cs).map PyVakepb.whole) = (VakepbNeutral.step o (PyVakepb.whole c0)).2 :: PyFlat.played VakepbNeutral.step (VakepbNeutral.step o (PyVakepb.whole c0)).1 (cs.map PyVakepb.whole) := rfl
  rw [e, h o]
  rfl
theorem sc_answers : FnScope ["calls", "desk", "found", "at", "call", "many", "lists", "end", "n", "rows", "made"] ["calls"] (defScope s_answers) := ⟨rfl, rfl, rfl, by decide +kernel, rfl, by decide +kernel, by decide +kernel⟩
theorem ok_answers (T : Tx K mg) {fd : FuncData} (F : FnP K "answers" "answers" s_answers (He.ga K "answers") fd) : FnOk P w K mg base CX0 29 (He.ga K "answers") fd ["calls"] (spAnswers K) := by
  obtain ⟨fd0, G0, b0, k0⟩ := ok_Desk_answer (P := P) (w := w) (base := base) T
  obtain ⟨fd1, G1, b1, k1⟩ := ok_rows_at (P := P) (w := w) (base := base) T
  obtain ⟨fd2, G2, b2, k2⟩ := ok_Desk___init__ (P := P) (w := w) (base := base) T
  refine F.ok sc_answers (fun vs H Q E h => Sp1.len h) (fun cdv A outer s H vs Q E hr h => ?body)
  refine ⟨_, PSs.nox (pss_cons (ps_set (i := 1) sc_answers.nd rfl (.inl rfl) (pe_make0 T.m_Desk G2 (hr.mono (by first | decide | omega)) rfl T.g_Desk b2 .nil pass0) (hf := (.inr rfl)))
      (pss_cons (ps_set (i := 2) sc_answers.nd rfl (.inl rfl) (pe_lst pa_nil) (hf := (.inr rfl)))
      (pss_cons (ps_set (i := 3) sc_answers.nd rfl (.inl rfl) pe_int (hf := (.inr rfl)))
      (pss_cons (ps_while PassesOwn.never (pt_cmpR op_lt (pv 3) (pe_callB call_lenK rfl T.n_len boot_len (pa_cons (pv 0) pa_nil)) (nomark _)) (pss_cons (ps_set (i := 4) sc_answers.nd rfl (.inl rfl) (pe_ix ix_list (pv 0) (pv 3) (fun _ _ => rfl)) (hf := (.inr rfl)))
      (pss_cons (ps_asg (pe_ix ix_tup (C8.pe_gc rfl T.k_FORMS) (pv 4) (fun _ _ => rfl)) (pg_tup (n := 2) rfl (pgs_cons (pg_name (i := 5) sc_answers.nd rfl (.inl rfl) (.inr rfl)) (pgs_cons (pg_name (i := 6) sc_answers.nd rfl (.inl rfl) (.inr rfl)) pgs_nil))))
      (pss_cons (ps_set (i := 7) sc_answers.nd rfl (.inl rfl) (pe_op op_add (pe_op op_add (pv 3) pe_int) (pv 5)) (hf := (.inr rfl)))
      (pss_cons (ps_set (i := 8) sc_answers.nd rfl (.inl rfl) (pe_slice sl_list (pv 0) (po_some (pe_op op_add (pv 3) pe_int)) (po_some (pv 7))) (hf := (.inr rfl)))
      (pss_cons (ps_asg (pe_call G1 (hr.mono (by first | decide | omega)) rfl T.g_rows_at k1 b1 .nil pass0 (pa_cons (pv 0) (pa_cons (pv 7) (pa_cons (pv 6) pa_nil)))) (pg_tup (n := 2) rfl (pgs_cons (pg_name (i := 9) sc_answers.nd rfl (.inl rfl) (.inr rfl)) (pgs_cons (pg_name (i := 3) sc_answers.nd rfl (.inl rfl) (.inr rfl)) pgs_nil))))
      (pss_cons (ps_set (i := 10) sc_answers.nd rfl (.inl rfl) (pe_meth (pv 1) T.c_Desk T.me_Desk_answer G0 (hr.mono (by first | decide | omega)) b0 .nil pass0 (pa_cons (pv 4) (pa_cons (pv 8) (pa_cons (pv 9) pa_nil)))) (hf := (.inr rfl)))
      (pss_cons (ps_expr (pe_bm PySem.F.plainAttrs_list PySem.F.slot_list_append PySem.F.type_list_append mt_append (pv 2) (pa_cons (pe_callB call_lenK rfl T.n_len boot_len (pa_cons (pv 10) pa_nil)) pa_nil)))
      (pss_one (ps_expr (pe_bm PySem.F.plainAttrs_list PySem.F.slot_list_extend PySem.F.type_list_extend mt_extend (pv 2) (pa_cons (pv 10) pa_nil))))))))))))
      (pss_one (ps_ret (pv 2))))))), ?_⟩
  obtain ⟨_, rfl, a, ns, rfl, hs, hn, hask, kk⟩ := h
  obtain ⟨cs, hcs, hca, hans, hlen⟩ := G.asked_ok hask
  refine fun d dx hd hdx hne => ?_
  refine ⟨_, rfl, d, dx, rfl, upd_same, rfl, ?_⟩
  rw [upd_upd]
  have s1 : Same H (upd (upd H dx (.own d)) d (.ins (cDesk K) dx (F_Desk .non .non))) := Same.trans (Same.new hdx) (Same.new (by rw [upd_ne hne.symm]; exact hd))
  have hd1 : (upd (upd H dx (.own d)) d (.ins (cDesk K) dx (F_Desk .non .non))) d = some (.ins (cDesk K) dx (F_Desk .non .non)) := upd_same
  generalize upd (upd H dx (.own d)) d (.ins (cDesk K) dx (F_Desk .non .non)) = H1 at s1 hd1
  refine ⟨by show 0 ≤ sizeLine; decide, fun F hF => ?_⟩
  have hs1 := s1.seq hs
  have off := sql_off hs1 hF
  refine ⟨fun m σ H' => ∃ (j : Nat) (o : Option Prog) (acc : List Int) (f : Nat) (cs' : List (List (List Int))) (x4 x5 x6 x7 x8 x9 x10 : Option V), σ = [some (.ref a), some (.ref d), some (.ref F), some (.int (j : Int)), x4, x5, x6, x7, x8, x9, x10] ∧ SqL K H' a (intL ns) ∧ DeskO P w K o F H' d ∧ H' F = some (.lst (intL acc)) ∧
      PyFlat.calls PyVakepb.shape f (ns.drop j) = some cs' ∧ (∀ c ∈ cs', VakepbNeutral.asked1 (PyVakepb.whole c) = true) ∧ PyVakepb.answers ns = acc ++ PyFlat.told (PyFlat.played VakepbNeutral.step o (cs'.map PyVakepb.whole)) ∧ j ≤ ns.length ∧ m = ns.length - j,
    ⟨_, 0, none, [], ns.length, cs, none, none, none, none, none, none, none, rfl, (Same.new hF).seq hs1, ⟨dx, (Same.new hF) _ _ hd1⟩, upd_same, hcs, hca, hans, Nat.zero_le _, rfl⟩, ?_⟩
  rintro m σ H2 ⟨j, o, acc, f, cs', x4, x5, x6, x7, x8, x9, x10, rfl, hs2, hD2, hF2, hc2, ha2, hans2, hj, rfl⟩
  refine ⟨_, rfl, _, rfl, a, _, rfl, .inl hs2, _, _, rfl, rfl, _, rfl, ?_⟩
  show if decide ((j : Int) < ((intL ns).length : Int)) = true then _ else _
  rw [intL_len]
  by_cases hlt : j < ns.length
  · rw [if_pos (decide_eq_true (by omega))]
    obtain ⟨p, b, c, t, c0, cs2, nc⟩ := G.next_call hc2 hlt ha2
    obtain ⟨f2, hf2⟩ := nc.rest
    rw [nc.cs, told_step o c c0 cs2 nc.step] at hans2
    have hlen2 := congrArg List.length hans2
    rw [List.length_append, List.length_cons, List.length_append] at hlen2
    obtain ⟨fa, hfa, hft⟩ := forms_at T nc.p8
    have hcall := nc.call
    have hrows := nc.rows
    refine ⟨fun σ' H' => ∃ (j' : Nat) (o : Option Prog) (acc : List Int) (f : Nat) (cs' : List (List (List Int))) (x4 x5 x6 x7 x8 x9 x10 : Option V), σ' = [some (.ref a), some (.ref d), some (.ref F), some (.int (j' : Int)), x4, x5, x6, x7, x8, x9, x10] ∧ SqL K H' a (intL ns) ∧ DeskO P w K o F H' d ∧ H' F = some (.lst (intL acc)) ∧
      PyFlat.calls PyVakepb.shape f (ns.drop j') = some cs' ∧ (∀ c ∈ cs', VakepbNeutral.asked1 (PyVakepb.whole c) = true) ∧ PyVakepb.answers ns = acc ++ PyFlat.told (PyFlat.played VakepbNeutral.step o (cs'.map PyVakepb.whole)) ∧ j' ≤ ns.length ∧ j < j', ?_, ?_⟩
    · rintro σ' H' ⟨j', o, acc, f, cs', x4, x5, x6, x7, x8, x9, x10, h1, h2, h3, h4, h5, h6, h7, h8, h9⟩
      exact ⟨_, by omega, j', o, acc, f, cs', x4, x5, x6, x7, x8, x9, x10, h1, h2, h3, h4, h5, h6, h7, h8, rfl⟩
    · refine ⟨_, rfl, _, rfl, a, _, _, _, rfl, rfl, hs2, atI_n (intL_at nc.num), ?_⟩
      refine ⟨_, rfl, _, _, _, _, rfl, rfl, T.t_FORMS _, atI_n (xs := formsL K) hfa, ?_⟩
      refine ⟨fa, _, rfl, hft _, rfl, _, _, rfl, _, _, rfl, rfl, ?_⟩
      refine ⟨_, rfl, _, _, rfl, rfl, _, rfl, _, _, rfl, rfl, ?_⟩
      refine ⟨_, rfl, _, rfl, _, _, rfl, rfl, _, rfl, _, rfl, _, rfl, a, _, rfl, hs2, fun q hq => ?_⟩
      have ec : cutV (intL ns) (some ((j : Int) + 1)) (some ((j : Int) + 1 + (((G.frm p).1 : Nat) : Int))) = intL ((ns.drop (j + 1)).take (G.frm p).1) := cut_int (i := j + 1)
      rw [ec]
      generalize (ns.drop (j + 1)).take (G.frm p).1 = args at hcall
      have e3 : Same H2 (upd H2 q (.lst (intL args))) := Same.new hq
      have hq3 : (upd H2 q (.lst (intL args))) q = some (.lst (intL args)) := upd_same
      generalize upd H2 q (.lst (intL args)) = H3 at e3 hq3
      refine ⟨_, rfl, _, rfl, _, rfl, rows_case (e3.seq hs2) (by omega) hrows fun q2 tt H4 e4 hr ht => ?_⟩
      have e24 := Same.trans e3 e4
      refine ⟨tt, _, rfl, SqT.of ht, rfl, _, _, rfl, _, _, rfl, rfl, ?_⟩
      have hD4 := hD2.same e24
      obtain ⟨dd, v1, v2, hdi⟩ := hD4.ins
      refine ⟨_, rfl, d, dd, _, rfl, hdi, n_Desk_answer, _, rfl, _, rfl, _, rfl, _, _, _, _, rfl, d, o, F, intL acc, p, q, args, q2, b, c, rfl, rfl, rfl, rfl, hD4, e24 _ _ hF2, e4 _ _ hq3, hr, hcall, by have := nc.blen; omega, fun pr hpr => G.good_of_read hpr, fun q5 H5 k5 hD5 hn5 hq5 => ?_⟩
      have hF5 := k5.1 _ _ (e24 _ _ hF2)
      have hs5 := k5.sql (e24.seq hs2)
      have n5 : q5 ≠ F := fun z => by rw [z, e24 _ _ hF2] at hn5; cases hn5
      have hl5 : (VakepbNeutral.encode (Vakepb.step o c).2).length = (ansL (Vakepb.step o c).2).length := (intL_len _).symm
      refine ⟨_, rfl, .inl ⟨rfl, _, SqL.of hF5⟩, _, rfl, q5, _, rfl, .inl (SqL.of hq5), F, _, _, rfl, rfl, hF5, by rw [intL_len]; exact Nat.lt_of_lt_of_le (m := 10000001) (by omega) (by decide), ?_⟩
      have hF6 : (upd H5 F (.lst (intL acc ++ [V.int (((ansL (Vakepb.step o c).2).length : Nat) : Int)]))) F = some (.lst (intL acc ++ [V.int (((ansL (Vakepb.step o c).2).length : Nat) : Int)])) := upd_same
      have hq6 : (upd H5 F (.lst (intL acc ++ [V.int (((ansL (Vakepb.step o c).2).length : Nat) : Int)]))) q5 = some (.lst (ansL (Vakepb.step o c).2)) := (upd_ne n5).trans hq5
      refine ⟨_, rfl, .inl ⟨rfl, _, SqL.of hF6⟩, _, rfl, F, q5, _, _, rfl, rfl, hF6, hq6, ?_, ?_⟩
      · rw [List.length_append, intL_len, ← hl5]
        refine Nat.le_trans (m := 10000001) ?_ (by decide)
        show acc.length + 1 + _ ≤ _
        omega
      · rw [upd_upd]
        refine ⟨t, (Vakepb.step o c).1, acc ++ ((((VakepbNeutral.encode (Vakepb.step o c).2).length : Nat) : Int) :: VakepbNeutral.encode (Vakepb.step o c).2), f2, cs2, _, _, _, _, _, _, _, rfl, sql_mut2 hs5 off, hD5.mut hF5, ?_, hf2, fun c hc => ha2 c (by rw [nc.cs]; exact List.mem_cons_of_mem _ hc), ?_, nc.tl, nc.tj⟩
        · rw [upd_same, ← hl5]
          show some (HO.lst ((intL acc ++ [V.int _]) ++ intL _)) = some (HO.lst (intL _))
          unfold intL
          rw [List.map_append, List.map_cons, List.append_assoc]
          rfl
        · rw [hans2, List.append_assoc, List.cons_append]
  · rw [if_neg fun z => hlt (by have := of_decide_eq_true z; omega)]
    have ej : j = ns.length := by omega
    rw [ej, List.drop_length] at hc2
    have e0 := G.calls_end hc2
    rw [e0] at hans2
    have e1 : PyVakepb.answers ns = acc := hans2.trans (List.append_nil _)
    refine ⟨_, rfl, kk H2 F ?_⟩
    rw [e1]
    exact hF2
end
end Wk
set_option maxHeartbeats 4000000
theorem PySem.Challenge.cw_whykept_s01_answers_holds : PySem.Challenge.rw_whykept_s01_answers.Holds :=
  Wk.the_end fun w K mg base fd T hK hN F => (Wk.ok_answers T F).imp fun _ _ _ _ h => let ⟨a, ns, e, h⟩ := h; ⟨_, e, a, ns, rfl, h⟩
