import PyProof.Rows.All
import Wide.All
import OpenK.AllK
import Wide.FinOn
import KE.KStateDown
import KE.KDictCopyH
import KE.KeyNested
import KE.GoesMore
import KE.GoesComp
import KE.KDictKeyed
import HandS.ForMost
import HandS.ForExc
import HandS.Defaults
import HandS.Property
import HandS.DictComp
import HandS.DeepEq
import HandS.OwnEq
import HandS.Conv
import HandS.WordsDict
import HandS.TupLen
import HandS.Walk
import HandS.IsInst
import HandS.Style
import HandS.Flow
import HandS.Sort
import HandS.SortRule
import HandS.SortInts
import HandS.Head0
import HandS.Head1
import HandS.Head2
import HandS.HeadEnd
import HandS.HeadHook1
import HandS.HeadHook2
import HandS.HeadHook3
import PySem.Challenge.RW_pairsayings_k48_whole_copies_in_steps
set_option Elab.async false
set_option linter.all false
set_option maxRecDepth 100000
set_option maxHeartbeats 0
namespace K48
open PySem PySem.Spec PyProof.Rows L2
/-! ## The text by places -/
def topS (i : Nat) : Stmt := PySem.Challenge.pw_pairsayings_k48_whole_copies_in_steps.main.body.getD i (.Pass ⟨0, 0, 0, 0⟩)
abbrev BindEq (x qual : Str) (st : Stmt) (ps : List Str) : Prop := ∀ (kV doc pm : Value) (an : Option Addr) (cdv ct : Value) (us : List Value), us.length = ps.length →
  bindArgs (PySem.W.fnOf x qual (defArgs st) (defBody st) (defScope st) .none kV doc pm an cdv ct) ⟨us, []⟩ = pure (ps.zip us)
abbrev s_is_integer : Stmt := topS 15
abbrev N_is_integer : List Str := ["value"]
abbrev P_is_integer : List Str := ["value"]
theorem sc_is_integer : FnScope N_is_integer P_is_integer (defScope s_is_integer) := ⟨rfl, rfl, rfl, by decide +kernel, rfl, by decide +kernel, by decide +kernel⟩
theorem bd_is_integer : BindEq "is_integer" "is_integer" s_is_integer P_is_integer := fun _ _ _ _ _ _ us hl => match us, hl with | [_], _ => rfl
abbrev s_is_within : Stmt := topS 16
abbrev N_is_within : List Str := ["value", "least", "most"]
abbrev P_is_within : List Str := ["value", "least", "most"]
theorem sc_is_within : FnScope N_is_within P_is_within (defScope s_is_within) := ⟨rfl, rfl, rfl, by decide +kernel, rfl, by decide +kernel, by decide +kernel⟩
theorem bd_is_within : BindEq "is_within" "is_within" s_is_within P_is_within := fun _ _ _ _ _ _ us hl => match us, hl with | [_, _, _], _ => rfl
abbrev s_is_sequence : Stmt := topS 17
abbrev N_is_sequence : List Str := ["value"]
abbrev P_is_sequence : List Str := ["value"]
theorem sc_is_sequence : FnScope N_is_sequence P_is_sequence (defScope s_is_sequence) := ⟨rfl, rfl, rfl, by decide +kernel, rfl, by decide +kernel, by decide +kernel⟩
theorem bd_is_sequence : BindEq "is_sequence" "is_sequence" s_is_sequence P_is_sequence := fun _ _ _ _ _ _ us hl => match us, hl with | [_], _ => rfl
abbrev s_is_word : Stmt := topS 18
abbrev N_is_word : List Str := ["value", "letter"]
abbrev P_is_word : List Str := ["value"]
theorem sc_is_word : FnScope N_is_word P_is_word (defScope s_is_word) := ⟨rfl, rfl, rfl, by decide +kernel, rfl, by decide +kernel, by decide +kernel⟩
theorem bd_is_word : BindEq "is_word" "is_word" s_is_word P_is_word := fun _ _ _ _ _ _ us hl => match us, hl with | [_], _ => rfl
abbrev s_is_tuple : Stmt := topS 19
abbrev N_is_tuple : List Str := ["value", "size"]
abbrev P_is_tuple : List Str := ["value", "size"]
theorem sc_is_tuple : FnScope N_is_tuple P_is_tuple (defScope s_is_tuple) := ⟨rfl, rfl, rfl, by decide +kernel, rfl, by decide +kernel, by decide +kernel⟩
theorem bd_is_tuple : BindEq "is_tuple" "is_tuple" s_is_tuple P_is_tuple := fun _ _ _ _ _ _ us hl => match us, hl with | [_, _], _ => rfl
abbrev s_is_headed : Stmt := topS 20
abbrev N_is_headed : List Str := ["value", "word", "size"]
abbrev P_is_headed : List Str := ["value", "word", "size"]
theorem sc_is_headed : FnScope N_is_headed P_is_headed (defScope s_is_headed) := ⟨rfl, rfl, rfl, by decide +kernel, rfl, by decide +kernel, by decide +kernel⟩
theorem bd_is_headed : BindEq "is_headed" "is_headed" s_is_headed P_is_headed := fun _ _ _ _ _ _ us hl => match us, hl with | [_, _, _], _ => rfl
abbrev s_is_key : Stmt := topS 21
abbrev N_is_key : List Str := ["value", "table"]
abbrev P_is_key : List Str := ["value", "table"]
theorem sc_is_key : FnScope N_is_key P_is_key (defScope s_is_key) := ⟨rfl, rfl, rfl, by decide +kernel, rfl, by decide +kernel, by decide +kernel⟩
theorem bd_is_key : BindEq "is_key" "is_key" s_is_key P_is_key := fun _ _ _ _ _ _ us hl => match us, hl with | [_, _], _ => rfl
abbrev s_is_name : Stmt := topS 28
abbrev N_is_name : List Str := ["value"]
abbrev P_is_name : List Str := ["value"]
theorem sc_is_name : FnScope N_is_name P_is_name (defScope s_is_name) := ⟨rfl, rfl, rfl, by decide +kernel, rfl, by decide +kernel, by decide +kernel⟩
theorem bd_is_name : BindEq "is_name" "is_name" s_is_name P_is_name := fun _ _ _ _ _ _ us hl => match us, hl with | [_], _ => rfl
abbrev s_is_test : Stmt := topS 29
abbrev N_is_test : List Str := ["tongue", "value"]
abbrev P_is_test : List Str := ["tongue", "value"]
theorem sc_is_test : FnScope N_is_test P_is_test (defScope s_is_test) := ⟨rfl, rfl, rfl, by decide +kernel, rfl, by decide +kernel, by decide +kernel⟩
theorem bd_is_test : BindEq "is_test" "is_test" s_is_test P_is_test := fun _ _ _ _ _ _ us hl => match us, hl with | [_, _], _ => rfl
abbrev s_parts_of : Stmt := topS 30
abbrev N_parts_of : List Str := ["tongue", "value"]
abbrev P_parts_of : List Str := ["tongue", "value"]
theorem sc_parts_of : FnScope N_parts_of P_parts_of (defScope s_parts_of) := ⟨rfl, rfl, rfl, by decide +kernel, rfl, by decide +kernel, by decide +kernel⟩
theorem bd_parts_of : BindEq "parts_of" "parts_of" s_parts_of P_parts_of := fun _ _ _ _ _ _ us hl => match us, hl with | [_, _], _ => rfl
abbrev s_is_saying : Stmt := topS 31
abbrev N_is_saying : List Str := ["tongue", "value", "waiting", "seen", "part", "depth", "parts", "inner"]
abbrev P_is_saying : List Str := ["tongue", "value"]
theorem sc_is_saying : FnScope N_is_saying P_is_saying (defScope s_is_saying) := ⟨rfl, rfl, rfl, by decide +kernel, rfl, by decide +kernel, by decide +kernel⟩
theorem bd_is_saying : BindEq "is_saying" "is_saying" s_is_saying P_is_saying := fun _ _ _ _ _ _ us hl => match us, hl with | [_, _], _ => rfl
abbrev s_sayings_in : Stmt := topS 32
abbrev N_sayings_in : List Str := ["saying"]
abbrev P_sayings_in : List Str := ["saying"]
theorem sc_sayings_in : FnScope N_sayings_in P_sayings_in (defScope s_sayings_in) := ⟨rfl, rfl, rfl, by decide +kernel, rfl, by decide +kernel, by decide +kernel⟩
theorem bd_sayings_in : BindEq "sayings_in" "sayings_in" s_sayings_in P_sayings_in := fun _ _ _ _ _ _ us hl => match us, hl with | [_], _ => rfl
abbrev s_own_names : Stmt := topS 33
abbrev N_own_names : List Str := ["saying"]
abbrev P_own_names : List Str := ["saying"]
theorem sc_own_names : FnScope N_own_names P_own_names (defScope s_own_names) := ⟨rfl, rfl, rfl, by decide +kernel, rfl, by decide +kernel, by decide +kernel⟩
theorem bd_own_names : BindEq "own_names" "own_names" s_own_names P_own_names := fun _ _ _ _ _ _ us hl => match us, hl with | [_], _ => rfl
abbrev s_free_names : Stmt := topS 34
abbrev N_free_names : List Str := ["saying", "found", "name", "inner"]
abbrev P_free_names : List Str := ["saying"]
theorem sc_free_names : FnScope N_free_names P_free_names (defScope s_free_names) := ⟨rfl, rfl, rfl, by decide +kernel, rfl, by decide +kernel, by decide +kernel⟩
theorem bd_free_names : BindEq "free_names" "free_names" s_free_names P_free_names := fun _ _ _ _ _ _ us hl => match us, hl with | [_], _ => rfl
abbrev s_check_saying : Stmt := topS 35
abbrev N_check_saying : List Str := ["tongue", "saying"]
abbrev P_check_saying : List Str := ["tongue", "saying"]
theorem sc_check_saying : FnScope N_check_saying P_check_saying (defScope s_check_saying) := ⟨rfl, rfl, rfl, by decide +kernel, rfl, by decide +kernel, by decide +kernel⟩
theorem bd_check_saying : BindEq "check_saying" "check_saying" s_check_saying P_check_saying := fun _ _ _ _ _ _ us hl => match us, hl with | [_, _], _ => rfl
abbrev s_check_closed : Stmt := topS 36
abbrev N_check_closed : List Str := ["tongue", "saying"]
abbrev P_check_closed : List Str := ["tongue", "saying"]
theorem sc_check_closed : FnScope N_check_closed P_check_closed (defScope s_check_closed) := ⟨rfl, rfl, rfl, by decide +kernel, rfl, by decide +kernel, by decide +kernel⟩
theorem bd_check_closed : BindEq "check_closed" "check_closed" s_check_closed P_check_closed := fun _ _ _ _ _ _ us hl => match us, hl with | [_, _], _ => rfl
abbrev s_Node__init : Stmt := inClass (topS 38) 0
abbrev N_Node__init : List Str := ["self", "saying", "parts", "number", "item"]
abbrev P_Node__init : List Str := ["self", "saying", "parts", "number"]
theorem sc_Node__init : FnScope N_Node__init P_Node__init (defScope s_Node__init) := ⟨rfl, rfl, rfl, by decide +kernel, rfl, by decide +kernel, by decide +kernel⟩
theorem bd_Node__init : BindEq "__init__" "Node.__init__" s_Node__init P_Node__init := fun _ _ _ _ _ _ us hl => match us, hl with | [_, _, _, _], _ => rfl
abbrev s_node_of : Stmt := topS 39
abbrev N_node_of : List Str := ["saying", "bound", "parts", "inner", "number", "node"]
abbrev P_node_of : List Str := ["saying", "bound"]
theorem sc_node_of : FnScope N_node_of P_node_of (defScope s_node_of) := ⟨rfl, rfl, rfl, by decide +kernel, rfl, by decide +kernel, by decide +kernel⟩
theorem bd_node_of : BindEq "node_of" "node_of" s_node_of P_node_of := fun _ _ _ _ _ _ us hl => match us, hl with | [_, _], _ => rfl
abbrev s_Reading__init : Stmt := inClass (topS 41) 0
abbrev N_Reading__init : List Str := ["self", "world"]
abbrev P_Reading__init : List Str := ["self", "world"]
theorem sc_Reading__init : FnScope N_Reading__init P_Reading__init (defScope s_Reading__init) := ⟨rfl, rfl, rfl, by decide +kernel, rfl, by decide +kernel, by decide +kernel⟩
theorem bd_Reading__init : BindEq "__init__" "Reading.__init__" s_Reading__init P_Reading__init := fun _ _ _ _ _ _ us hl => match us, hl with | [_, _], _ => rfl
abbrev s_Reading_flag : Stmt := inClass (topS 41) 1
abbrev N_Reading_flag : List Str := ["self", "node", "x", "y", "word"]
abbrev P_Reading_flag : List Str := ["self", "node", "x", "y"]
theorem sc_Reading_flag : FnScope N_Reading_flag P_Reading_flag (defScope s_Reading_flag) := ⟨rfl, rfl, rfl, by decide +kernel, rfl, by decide +kernel, by decide +kernel⟩
theorem bd_Reading_flag : BindEq "flag" "Reading.flag" s_Reading_flag P_Reading_flag := fun _ _ _ _ _ _ us hl => match us, hl with | [_, _, _, _], _ => rfl
abbrev s_Reading_test : Stmt := inClass (topS 41) 2
abbrev N_Reading_test : List Str := ["self", "node", "x", "y", "things", "name"]
abbrev P_Reading_test : List Str := ["self", "node", "x", "y"]
theorem sc_Reading_test : FnScope N_Reading_test P_Reading_test (defScope s_Reading_test) := ⟨rfl, rfl, rfl, by decide +kernel, rfl, by decide +kernel, by decide +kernel⟩
theorem bd_Reading_test : BindEq "test" "Reading.test" s_Reading_test P_Reading_test := fun _ _ _ _ _ _ us hl => match us, hl with | [_, _, _, _], _ => rfl
abbrev s_Reading_bound_flag : Stmt := inClass (topS 41) 3
abbrev N_Reading_bound_flag : List Str := ["self", "node", "x", "y", "spot", "key"]
abbrev P_Reading_bound_flag : List Str := ["self", "node", "x", "y"]
theorem sc_Reading_bound_flag : FnScope N_Reading_bound_flag P_Reading_bound_flag (defScope s_Reading_bound_flag) := ⟨rfl, rfl, rfl, by decide +kernel, rfl, by decide +kernel, by decide +kernel⟩
theorem bd_Reading_bound_flag : BindEq "bound_flag" "Reading.bound_flag" s_Reading_bound_flag P_Reading_bound_flag := fun _ _ _ _ _ _ us hl => match us, hl with | [_, _, _, _], _ => rfl
abbrev s_Reading_searched : Stmt := inClass (topS 41) 4
abbrev N_Reading_searched : List Str := ["self", "node", "x", "y", "wished", "thing", "first", "second"]
abbrev P_Reading_searched : List Str := ["self", "node", "x", "y"]
theorem sc_Reading_searched : FnScope N_Reading_searched P_Reading_searched (defScope s_Reading_searched) := ⟨rfl, rfl, rfl, by decide +kernel, rfl, by decide +kernel, by decide +kernel⟩
theorem bd_Reading_searched : BindEq "searched" "Reading.searched" s_Reading_searched P_Reading_searched := fun _ _ _ _ _ _ us hl => match us, hl with | [_, _, _, _], _ => rfl
abbrev s_is_thing : Stmt := topS 44
abbrev N_is_thing : List Str := ["value", "things"]
abbrev P_is_thing : List Str := ["value", "things"]
theorem sc_is_thing : FnScope N_is_thing P_is_thing (defScope s_is_thing) := ⟨rfl, rfl, rfl, by decide +kernel, rfl, by decide +kernel, by decide +kernel⟩
theorem bd_is_thing : BindEq "is_thing" "is_thing" s_is_thing P_is_thing := fun _ _ _ _ _ _ us hl => match us, hl with | [_, _], _ => rfl
abbrev s_is_pair : Stmt := topS 45
abbrev N_is_pair : List Str := ["value", "things"]
abbrev P_is_pair : List Str := ["value", "things"]
theorem sc_is_pair : FnScope N_is_pair P_is_pair (defScope s_is_pair) := ⟨rfl, rfl, rfl, by decide +kernel, rfl, by decide +kernel, by decide +kernel⟩
theorem bd_is_pair : BindEq "is_pair" "is_pair" s_is_pair P_is_pair := fun _ _ _ _ _ _ us hl => match us, hl with | [_, _], _ => rfl
abbrev s_is_dict_of : Stmt := topS 46
abbrev N_is_dict_of : List Str := ["value", "names", "name"]
abbrev P_is_dict_of : List Str := ["value", "names"]
theorem sc_is_dict_of : FnScope N_is_dict_of P_is_dict_of (defScope s_is_dict_of) := ⟨rfl, rfl, rfl, by decide +kernel, rfl, by decide +kernel, by decide +kernel⟩
theorem bd_is_dict_of : BindEq "is_dict_of" "is_dict_of" s_is_dict_of P_is_dict_of := fun _ _ _ _ _ _ us hl => match us, hl with | [_, _], _ => rfl
abbrev s_are_things : Stmt := topS 47
abbrev N_are_things : List Str := ["value", "things", "seen", "thing"]
abbrev P_are_things : List Str := ["value", "things"]
theorem sc_are_things : FnScope N_are_things P_are_things (defScope s_are_things) := ⟨rfl, rfl, rfl, by decide +kernel, rfl, by decide +kernel, by decide +kernel⟩
theorem bd_are_things : BindEq "are_things" "are_things" s_are_things P_are_things := fun _ _ _ _ _ _ us hl => match us, hl with | [_, _], _ => rfl
abbrev s_are_pairs : Stmt := topS 48
abbrev N_are_pairs : List Str := ["value", "things", "seen", "pair"]
abbrev P_are_pairs : List Str := ["value", "things"]
theorem sc_are_pairs : FnScope N_are_pairs P_are_pairs (defScope s_are_pairs) := ⟨rfl, rfl, rfl, by decide +kernel, rfl, by decide +kernel, by decide +kernel⟩
theorem bd_are_pairs : BindEq "are_pairs" "are_pairs" s_are_pairs P_are_pairs := fun _ _ _ _ _ _ us hl => match us, hl with | [_, _], _ => rfl
abbrev s_check_marks : Stmt := topS 50
abbrev N_check_marks : List Str := ["tongue", "things", "marks", "name"]
abbrev P_check_marks : List Str := ["tongue", "things", "marks"]
theorem sc_check_marks : FnScope N_check_marks P_check_marks (defScope s_check_marks) := ⟨rfl, rfl, rfl, by decide +kernel, rfl, by decide +kernel, by decide +kernel⟩
theorem bd_check_marks : BindEq "check_marks" "check_marks" s_check_marks P_check_marks := fun _ _ _ _ _ _ us hl => match us, hl with | [_, _, _], _ => rfl
abbrev s_check_ties : Stmt := topS 51
abbrev N_check_ties : List Str := ["tongue", "things", "ties", "name"]
abbrev P_check_ties : List Str := ["tongue", "things", "ties"]
theorem sc_check_ties : FnScope N_check_ties P_check_ties (defScope s_check_ties) := ⟨rfl, rfl, rfl, by decide +kernel, rfl, by decide +kernel, by decide +kernel⟩
theorem bd_check_ties : BindEq "check_ties" "check_ties" s_check_ties P_check_ties := fun _ _ _ _ _ _ us hl => match us, hl with | [_, _, _], _ => rfl
abbrev s_World__init : Stmt := inClass (topS 52) 0
abbrev N_World__init : List Str := ["self", "tongue", "things", "marks", "ties", "thing", "name", "pair"]
abbrev P_World__init : List Str := ["self", "tongue", "things", "marks", "ties"]
theorem sc_World__init : FnScope N_World__init P_World__init (defScope s_World__init) := ⟨rfl, rfl, rfl, by decide +kernel, rfl, by decide +kernel, by decide +kernel⟩
theorem bd_World__init : BindEq "__init__" "World.__init__" s_World__init P_World__init := fun _ _ _ _ _ _ us hl => match us, hl with | [_, _, _, _, _], _ => rfl
abbrev s_World_marks : Stmt := inClass (topS 52) 1
abbrev N_World_marks : List Str := ["self", "name"]
abbrev P_World_marks : List Str := ["self"]
theorem sc_World_marks : FnScope N_World_marks P_World_marks (defScope s_World_marks) := ⟨rfl, rfl, rfl, by decide +kernel, rfl, by decide +kernel, by decide +kernel⟩
theorem bd_World_marks : BindEq "marks" "World.marks" s_World_marks P_World_marks := fun _ _ _ _ _ _ us hl => match us, hl with | [_], _ => rfl
abbrev s_World_ties : Stmt := inClass (topS 52) 2
abbrev N_World_ties : List Str := ["self", "name"]
abbrev P_World_ties : List Str := ["self"]
theorem sc_World_ties : FnScope N_World_ties P_World_ties (defScope s_World_ties) := ⟨rfl, rfl, rfl, by decide +kernel, rfl, by decide +kernel, by decide +kernel⟩
theorem bd_World_ties : BindEq "ties" "World.ties" s_World_ties P_World_ties := fun _ _ _ _ _ _ us hl => match us, hl with | [_], _ => rfl
abbrev s_World_has : Stmt := inClass (topS 52) 3
abbrev N_World_has : List Str := ["self", "mark", "thing"]
abbrev P_World_has : List Str := ["self", "mark", "thing"]
theorem sc_World_has : FnScope N_World_has P_World_has (defScope s_World_has) := ⟨rfl, rfl, rfl, by decide +kernel, rfl, by decide +kernel, by decide +kernel⟩
theorem bd_World_has : BindEq "has" "World.has" s_World_has P_World_has := fun _ _ _ _ _ _ us hl => match us, hl with | [_, _, _], _ => rfl
abbrev s_World_leads : Stmt := inClass (topS 52) 4
abbrev N_World_leads : List Str := ["self", "tie", "first", "second"]
abbrev P_World_leads : List Str := ["self", "tie", "first", "second"]
theorem sc_World_leads : FnScope N_World_leads P_World_leads (defScope s_World_leads) := ⟨rfl, rfl, rfl, by decide +kernel, rfl, by decide +kernel, by decide +kernel⟩
theorem bd_World_leads : BindEq "leads" "World.leads" s_World_leads P_World_leads := fun _ _ _ _ _ _ us hl => match us, hl with | [_, _, _, _], _ => rfl
abbrev s_World__eq : Stmt := inClass (topS 52) 5
abbrev N_World__eq : List Str := ["self", "other"]
abbrev P_World__eq : List Str := ["self", "other"]
theorem sc_World__eq : FnScope N_World__eq P_World__eq (defScope s_World__eq) := ⟨rfl, rfl, rfl, by decide +kernel, rfl, by decide +kernel, by decide +kernel⟩
theorem bd_World__eq : BindEq "__eq__" "World.__eq__" s_World__eq P_World__eq := fun _ _ _ _ _ _ us hl => match us, hl with | [_, _], _ => rfl
abbrev s_is_held : Stmt := topS 53
abbrev N_is_held : List Str := ["world", "saying"]
abbrev P_is_held : List Str := ["world", "saying"]
theorem sc_is_held : FnScope N_is_held P_is_held (defScope s_is_held) := ⟨rfl, rfl, rfl, by decide +kernel, rfl, by decide +kernel, by decide +kernel⟩
theorem bd_is_held : BindEq "is_held" "is_held" s_is_held P_is_held := fun _ _ _ _ _ _ us hl => match us, hl with | [_, _], _ => rfl
abbrev s_holds : Stmt := topS 54
abbrev N_holds : List Str := ["world", "saying"]
abbrev P_holds : List Str := ["world", "saying"]
theorem sc_holds : FnScope N_holds P_holds (defScope s_holds) := ⟨rfl, rfl, rfl, by decide +kernel, rfl, by decide +kernel, by decide +kernel⟩
theorem bd_holds : BindEq "holds" "holds" s_holds P_holds := fun _ _ _ _ _ _ us hl => match us, hl with | [_, _], _ => rfl
abbrev s_check_plain : Stmt := topS 56
abbrev N_check_plain : List Str := ["tongue"]
abbrev P_check_plain : List Str := ["tongue"]
theorem sc_check_plain : FnScope N_check_plain P_check_plain (defScope s_check_plain) := ⟨rfl, rfl, rfl, by decide +kernel, rfl, by decide +kernel, by decide +kernel⟩
theorem bd_check_plain : BindEq "check_plain" "check_plain" s_check_plain P_check_plain := fun _ _ _ _ _ _ us hl => match us, hl with | [_], _ => rfl
abbrev s_check_thing : Stmt := topS 57
abbrev N_check_thing : List Str := ["world", "thing"]
abbrev P_check_thing : List Str := ["world", "thing"]
theorem sc_check_thing : FnScope N_check_thing P_check_thing (defScope s_check_thing) := ⟨rfl, rfl, rfl, by decide +kernel, rfl, by decide +kernel, by decide +kernel⟩
theorem bd_check_thing : BindEq "check_thing" "check_thing" s_check_thing P_check_thing := fun _ _ _ _ _ _ us hl => match us, hl with | [_, _], _ => rfl
abbrev s_are_like : Stmt := topS 58
abbrev N_are_like : List Str := ["world", "saying", "one", "other", "bound", "root", "reading", "name", "node"]
abbrev P_are_like : List Str := ["world", "saying", "one", "other"]
theorem sc_are_like : FnScope N_are_like P_are_like (defScope s_are_like) := ⟨rfl, rfl, rfl, by decide +kernel, rfl, by decide +kernel, by decide +kernel⟩
theorem bd_are_like : BindEq "are_like" "are_like" s_are_like P_are_like := fun _ _ _ _ _ _ us hl => match us, hl with | [_, _, _, _], _ => rfl
abbrev s_Growth__init : Stmt := inClass (topS 59) 0
abbrev N_Growth__init : List Str := ["self", "world", "one", "other", "name"]
abbrev P_Growth__init : List Str := ["self", "world", "one", "other"]
theorem sc_Growth__init : FnScope N_Growth__init P_Growth__init (defScope s_Growth__init) := ⟨rfl, rfl, rfl, by decide +kernel, rfl, by decide +kernel, by decide +kernel⟩
theorem bd_Growth__init : BindEq "__init__" "Growth.__init__" s_Growth__init P_Growth__init := fun _ _ _ _ _ _ us hl => match us, hl with | [_, _, _, _], _ => rfl
abbrev s_Growth_put : Stmt := inClass (topS 59) 1
abbrev N_Growth_put : List Str := ["self", "new", "name"]
abbrev P_Growth_put : List Str := ["self"]
theorem sc_Growth_put : FnScope N_Growth_put P_Growth_put (defScope s_Growth_put) := ⟨rfl, rfl, rfl, by decide +kernel, rfl, by decide +kernel, by decide +kernel⟩
theorem bd_Growth_put : BindEq "put" "Growth.put" s_Growth_put P_Growth_put := fun _ _ _ _ _ _ us hl => match us, hl with | [_], _ => rfl
abbrev s_Growth_tie : Stmt := inClass (topS 59) 2
abbrev N_Growth_tie : List Str := ["self", "pairs", "new", "thing", "known"]
abbrev P_Growth_tie : List Str := ["self", "pairs", "new"]
theorem sc_Growth_tie : FnScope N_Growth_tie P_Growth_tie (defScope s_Growth_tie) := ⟨rfl, rfl, rfl, by decide +kernel, rfl, by decide +kernel, by decide +kernel⟩
theorem bd_Growth_tie : BindEq "tie" "Growth.tie" s_Growth_tie P_Growth_tie := fun _ _ _ _ _ _ us hl => match us, hl with | [_, _, _], _ => rfl
abbrev s_Growth_made_world : Stmt := inClass (topS 59) 3
abbrev N_Growth_made_world : List Str := ["self", "marks", "name", "ties"]
abbrev P_Growth_made_world : List Str := ["self"]
theorem sc_Growth_made_world : FnScope N_Growth_made_world P_Growth_made_world (defScope s_Growth_made_world) := ⟨rfl, rfl, rfl, by decide +kernel, rfl, by decide +kernel, by decide +kernel⟩
theorem bd_Growth_made_world : BindEq "made_world" "Growth.made_world" s_Growth_made_world P_Growth_made_world := fun _ _ _ _ _ _ us hl => match us, hl with | [_], _ => rfl
abbrev s_grown : Stmt := topS 60
abbrev N_grown : List Str := ["world", "saying", "one", "other", "things", "growth"]
abbrev P_grown : List Str := ["world", "saying", "one", "other", "things"]
theorem sc_grown : FnScope N_grown P_grown (defScope s_grown) := ⟨rfl, rfl, rfl, by decide +kernel, rfl, by decide +kernel, by decide +kernel⟩
theorem bd_grown : BindEq "grown" "grown" s_grown P_grown := fun _ _ _ _ _ _ us hl => match us, hl with | [_, _, _, _, _], _ => rfl
abbrev s_are_names : Stmt := topS 65
abbrev N_are_names : List Str := ["value", "most", "taken", "seen", "name"]
abbrev P_are_names : List Str := ["value", "most", "taken"]
theorem sc_are_names : FnScope N_are_names P_are_names (defScope s_are_names) := ⟨rfl, rfl, rfl, by decide +kernel, rfl, by decide +kernel, by decide +kernel⟩
theorem bd_are_names : BindEq "are_names" "are_names" s_are_names P_are_names := fun _ _ _ _ _ _ us hl => match us, hl with | [_, _, _], _ => rfl
abbrev s_are_functions : Stmt := topS 66
abbrev N_are_functions : List Str := ["value", "ties", "name"]
abbrev P_are_functions : List Str := ["value", "ties"]
theorem sc_are_functions : FnScope N_are_functions P_are_functions (defScope s_are_functions) := ⟨rfl, rfl, rfl, by decide +kernel, rfl, by decide +kernel, by decide +kernel⟩
theorem bd_are_functions : BindEq "are_functions" "are_functions" s_are_functions P_are_functions := fun _ _ _ _ _ _ us hl => match us, hl with | [_, _], _ => rfl
abbrev s_Tongue__init : Stmt := inClass (topS 67) 0
abbrev N_Tongue__init : List Str := ["self", "marks", "ties", "functions"]
abbrev P_Tongue__init : List Str := ["self", "marks", "ties", "functions"]
theorem sc_Tongue__init : FnScope N_Tongue__init P_Tongue__init (defScope s_Tongue__init) := ⟨rfl, rfl, rfl, by decide +kernel, rfl, by decide +kernel, by decide +kernel⟩
theorem bd_Tongue__init : BindEq "__init__" "Tongue.__init__" s_Tongue__init P_Tongue__init := fun _ _ _ _ _ _ us hl => match us, hl with | [_, _, _, _], _ => rfl
abbrev s_Tongue_marks : Stmt := inClass (topS 67) 1
abbrev N_Tongue_marks : List Str := ["self"]
abbrev P_Tongue_marks : List Str := ["self"]
theorem sc_Tongue_marks : FnScope N_Tongue_marks P_Tongue_marks (defScope s_Tongue_marks) := ⟨rfl, rfl, rfl, by decide +kernel, rfl, by decide +kernel, by decide +kernel⟩
theorem bd_Tongue_marks : BindEq "marks" "Tongue.marks" s_Tongue_marks P_Tongue_marks := fun _ _ _ _ _ _ us hl => match us, hl with | [_], _ => rfl
abbrev s_Tongue_ties : Stmt := inClass (topS 67) 2
abbrev N_Tongue_ties : List Str := ["self"]
abbrev P_Tongue_ties : List Str := ["self"]
theorem sc_Tongue_ties : FnScope N_Tongue_ties P_Tongue_ties (defScope s_Tongue_ties) := ⟨rfl, rfl, rfl, by decide +kernel, rfl, by decide +kernel, by decide +kernel⟩
theorem bd_Tongue_ties : BindEq "ties" "Tongue.ties" s_Tongue_ties P_Tongue_ties := fun _ _ _ _ _ _ us hl => match us, hl with | [_], _ => rfl
abbrev s_Tongue__eq : Stmt := inClass (topS 67) 3
abbrev N_Tongue__eq : List Str := ["self", "other"]
abbrev P_Tongue__eq : List Str := ["self", "other"]
theorem sc_Tongue__eq : FnScope N_Tongue__eq P_Tongue__eq (defScope s_Tongue__eq) := ⟨rfl, rfl, rfl, by decide +kernel, rfl, by decide +kernel, by decide +kernel⟩
theorem bd_Tongue__eq : BindEq "__eq__" "Tongue.__eq__" s_Tongue__eq P_Tongue__eq := fun _ _ _ _ _ _ us hl => match us, hl with | [_, _], _ => rfl
abbrev s_law_pool : Stmt := topS 69
abbrev N_law_pool : List Str := ["_law_script", "_law_seed", "_law_cell"]
abbrev P_law_pool : List Str := ["_law_script"]
theorem sc_law_pool : FnScope N_law_pool P_law_pool (defScope s_law_pool) := ⟨rfl, rfl, rfl, by decide +kernel, rfl, by decide +kernel, by decide +kernel⟩
theorem bd_law_pool : BindEq "_law_pool" "_law_pool" s_law_pool P_law_pool := fun _ _ _ _ _ _ us hl => match us, hl with | [_], _ => rfl
abbrev s_law_draw : Stmt := topS 70
abbrev N_law_draw : List Str := ["_law_pool_here", "_law_many", "_law_cells", "_law_digit", "_law_mixed_here"]
abbrev P_law_draw : List Str := ["_law_pool_here", "_law_many"]
theorem sc_law_draw : FnScope N_law_draw P_law_draw (defScope s_law_draw) := ⟨rfl, rfl, rfl, by decide +kernel, rfl, by decide +kernel, by decide +kernel⟩
theorem bd_law_draw : BindEq "_law_draw" "_law_draw" s_law_draw P_law_draw := fun _ _ _ _ _ _ us hl => match us, hl with | [_, _], _ => rfl
abbrev s_law_mixed : Stmt := topS 71
abbrev N_law_mixed : List Str := ["_law_pool_here", "_law_things", "_law_left", "_law_made", "_law_k"]
abbrev P_law_mixed : List Str := ["_law_pool_here", "_law_things"]
theorem sc_law_mixed : FnScope N_law_mixed P_law_mixed (defScope s_law_mixed) := ⟨rfl, rfl, rfl, by decide +kernel, rfl, by decide +kernel, by decide +kernel⟩
theorem bd_law_mixed : BindEq "_law_mixed" "_law_mixed" s_law_mixed P_law_mixed := fun _ _ _ _ _ _ us hl => match us, hl with | [_, _], _ => rfl
abbrev s_law_names : Stmt := topS 72
abbrev N_law_names : List Str := ["_law_pool_here", "_law_many", "_law_place", "_law_start", "_law_step", "_law_letters", "_law_names_here", "_law_k", "_law_word", "_law_at", "_law_name"]
abbrev P_law_names : List Str := ["_law_pool_here", "_law_many"]
theorem sc_law_names : FnScope N_law_names P_law_names (defScope s_law_names) := ⟨rfl, rfl, rfl, by decide +kernel, rfl, by decide +kernel, by decide +kernel⟩
theorem bd_law_names : BindEq "_law_names" "_law_names" s_law_names P_law_names := fun _ _ _ _ _ _ us hl => match us, hl with | [_, _], _ => rfl
abbrev s_law_shape : Stmt := topS 73
abbrev N_law_shape : List Str := ["_law_pool_here", "_law_shapes", "_law_shape_here", "_law_names_here", "_law_ties", "_law_functions"]
abbrev P_law_shape : List Str := ["_law_pool_here", "_law_shapes"]
theorem sc_law_shape : FnScope N_law_shape P_law_shape (defScope s_law_shape) := ⟨rfl, rfl, rfl, by decide +kernel, rfl, by decide +kernel, by decide +kernel⟩
theorem bd_law_shape : BindEq "_law_shape" "_law_shape" s_law_shape P_law_shape := fun _ _ _ _ _ _ us hl => match us, hl with | [_, _], _ => rfl
abbrev s_law_tongue : Stmt := topS 74
abbrev N_law_tongue : List Str := ["_law_shape_here"]
abbrev P_law_tongue : List Str := ["_law_shape_here"]
theorem sc_law_tongue : FnScope N_law_tongue P_law_tongue (defScope s_law_tongue) := ⟨rfl, rfl, rfl, by decide +kernel, rfl, by decide +kernel, by decide +kernel⟩
theorem bd_law_tongue : BindEq "_law_tongue" "_law_tongue" s_law_tongue P_law_tongue := fun _ _ _ _ _ _ us hl => match us, hl with | [_], _ => rfl
abbrev s_law_test : Stmt := topS 75
abbrev N_law_test : List Str := ["_law_pool_here", "_law_shape_here", "_law_names_here", "_law_marks", "_law_ties", "_law_functions", "_law_one_here", "_law_two", "_law_kind_here"]
abbrev P_law_test : List Str := ["_law_pool_here", "_law_shape_here", "_law_names_here"]
theorem sc_law_test : FnScope N_law_test P_law_test (defScope s_law_test) := ⟨rfl, rfl, rfl, by decide +kernel, rfl, by decide +kernel, by decide +kernel⟩
theorem bd_law_test : BindEq "_law_test" "_law_test" s_law_test P_law_test := fun _ _ _ _ _ _ us hl => match us, hl with | [_, _, _], _ => rfl
abbrev s_law_matrix : Stmt := topS 76
abbrev N_law_matrix : List Str := ["_law_pool_here", "_law_shape_here", "_law_names_here", "_law_depth", "_law_kind_here", "_law_first"]
abbrev P_law_matrix : List Str := ["_law_pool_here", "_law_shape_here", "_law_names_here", "_law_depth"]
theorem sc_law_matrix : FnScope N_law_matrix P_law_matrix (defScope s_law_matrix) := ⟨rfl, rfl, rfl, by decide +kernel, rfl, by decide +kernel, by decide +kernel⟩
theorem bd_law_matrix : BindEq "_law_matrix" "_law_matrix" s_law_matrix P_law_matrix := fun _ _ _ _ _ _ us hl => match us, hl with | [_, _, _, _], _ => rfl
abbrev s_law_quantor : Stmt := topS 77
abbrev N_law_quantor : List Str := ["_law_pool_here"]
abbrev P_law_quantor : List Str := ["_law_pool_here"]
theorem sc_law_quantor : FnScope N_law_quantor P_law_quantor (defScope s_law_quantor) := ⟨rfl, rfl, rfl, by decide +kernel, rfl, by decide +kernel, by decide +kernel⟩
theorem bd_law_quantor : BindEq "_law_quantor" "_law_quantor" s_law_quantor P_law_quantor := fun _ _ _ _ _ _ us hl => match us, hl with | [_], _ => rfl
abbrev s_law_one : Stmt := topS 78
abbrev N_law_one : List Str := ["_law_pool_here", "_law_shape_here", "_law_name", "_law_parts", "_law_other", "_law_inner_here", "_law_more"]
abbrev P_law_one : List Str := ["_law_pool_here", "_law_shape_here", "_law_name", "_law_parts"]
theorem sc_law_one : FnScope N_law_one P_law_one (defScope s_law_one) := ⟨rfl, rfl, rfl, by decide +kernel, rfl, by decide +kernel, by decide +kernel⟩
theorem bd_law_one : BindEq "_law_one" "_law_one" s_law_one P_law_one := fun _ _ _ _ _ _ us hl => match us, hl with | [_, _, _, _], _ => rfl
abbrev s_law_closed : Stmt := topS 79
abbrev N_law_closed : List Str := ["_law_pool_here", "_law_shape_here", "_law_parts", "_law_room", "_law_kind_here", "_law_first", "_law_name"]
abbrev P_law_closed : List Str := ["_law_pool_here", "_law_shape_here", "_law_parts", "_law_room"]
theorem sc_law_closed : FnScope N_law_closed P_law_closed (defScope s_law_closed) := ⟨rfl, rfl, rfl, by decide +kernel, rfl, by decide +kernel, by decide +kernel⟩
theorem bd_law_closed : BindEq "_law_closed" "_law_closed" s_law_closed P_law_closed := fun _ _ _ _ _ _ us hl => match us, hl with | [_, _, _, _], _ => rfl
abbrev s_law_free : Stmt := topS 80
abbrev N_law_free : List Str := ["_law_saying", "_law_name", "_law_found", "_law_item", "_law_names_here"]
abbrev P_law_free : List Str := ["_law_saying"]
theorem sc_law_free : FnScope N_law_free P_law_free (defScope s_law_free) := ⟨rfl, rfl, rfl, by decide +kernel, rfl, by decide +kernel, by decide +kernel⟩
theorem bd_law_free : BindEq "_law_free" "_law_free" s_law_free P_law_free := fun _ _ _ _ _ _ us hl => match us, hl with | [_], _ => rfl
abbrev s_law_places : Stmt := topS 81
abbrev N_law_places : List Str := ["_law_saying", "_law_inner_here", "_law_closed_here", "_law_item", "_law_pair"]
abbrev P_law_places : List Str := ["_law_saying"]
theorem sc_law_places : FnScope N_law_places P_law_places (defScope s_law_places) := ⟨rfl, rfl, rfl, by decide +kernel, rfl, by decide +kernel, by decide +kernel⟩
theorem bd_law_places : BindEq "_law_places" "_law_places" s_law_places P_law_places := fun _ _ _ _ _ _ us hl => match us, hl with | [_], _ => rfl
abbrev s_law_said : Stmt := topS 82
abbrev N_law_said : List Str := ["_law_pool_here", "_law_shape_here", "_law_parts", "_law_turn", "_law_saying", "_law_pair"]
abbrev P_law_said : List Str := ["_law_pool_here", "_law_shape_here", "_law_parts"]
theorem sc_law_said : FnScope N_law_said P_law_said (defScope s_law_said) := ⟨rfl, rfl, rfl, by decide +kernel, rfl, by decide +kernel, by decide +kernel⟩
theorem bd_law_said : BindEq "_law_said" "_law_said" s_law_said P_law_said := fun _ _ _ _ _ _ us hl => match us, hl with | [_, _, _], _ => rfl
abbrev s_law_rows : Stmt := topS 83
abbrev N_law_rows : List Str := ["_law_world_here", "_law_saying", "_law_things", "_law_marks", "_law_ties", "_law_span", "_law_word", "_law_y", "_law_x", "_law_has", "_law_leads", "_law_loops", "_law_thing", "_law_flag", "_law_line"]
abbrev P_law_rows : List Str := ["_law_world_here", "_law_saying"]
theorem sc_law_rows : FnScope N_law_rows P_law_rows (defScope s_law_rows) := ⟨rfl, rfl, rfl, by decide +kernel, rfl, by decide +kernel, by decide +kernel⟩
theorem bd_law_rows : BindEq "_law_rows" "_law_rows" s_law_rows P_law_rows := fun _ _ _ _ _ _ us hl => match us, hl with | [_, _], _ => rfl
abbrev s_law_joined : Stmt := topS 84
abbrev N_law_joined : List Str := ["_law_word", "_law_one_here", "_law_two", "_law_y", "_law_x"]
abbrev P_law_joined : List Str := ["_law_word", "_law_one_here", "_law_two"]
theorem sc_law_joined : FnScope N_law_joined P_law_joined (defScope s_law_joined) := ⟨rfl, rfl, rfl, by decide +kernel, rfl, by decide +kernel, by decide +kernel⟩
theorem bd_law_joined : BindEq "_law_joined" "_law_joined" s_law_joined P_law_joined := fun _ _ _ _ _ _ us hl => match us, hl with | [_, _, _], _ => rfl
abbrev s_law_bound : Stmt := topS 85
abbrev N_law_bound : List Str := ["_law_span", "_law_word", "_law_name", "_law_rows_here", "_law_flags", "_law_x", "_law_y", "_law_columns"]
abbrev P_law_bound : List Str := ["_law_span", "_law_word", "_law_name", "_law_rows_here"]
theorem sc_law_bound : FnScope N_law_bound P_law_bound (defScope s_law_bound) := ⟨rfl, rfl, rfl, by decide +kernel, rfl, by decide +kernel, by decide +kernel⟩
theorem bd_law_bound : BindEq "_law_bound" "_law_bound" s_law_bound P_law_bound := fun _ _ _ _ _ _ us hl => match us, hl with | [_, _, _, _], _ => rfl
abbrev s_law_so : Stmt := topS 86
abbrev N_law_so : List Str := ["_law_world_here", "_law_saying"]
abbrev P_law_so : List Str := ["_law_world_here", "_law_saying"]
theorem sc_law_so : FnScope N_law_so P_law_so (defScope s_law_so) := ⟨rfl, rfl, rfl, by decide +kernel, rfl, by decide +kernel, by decide +kernel⟩
theorem bd_law_so : BindEq "_law_so" "_law_so" s_law_so P_law_so := fun _ _ _ _ _ _ us hl => match us, hl with | [_, _], _ => rfl
abbrev s_law_drawn_world : Stmt := topS 87
abbrev N_law_drawn_world : List Str := ["_law_pool_here", "_law_shape_here", "_law_things", "_law_marks", "_law_ties", "_law_share", "_law_name", "_law_thing", "_law_ends", "_law_two", "_law_one_here"]
abbrev P_law_drawn_world : List Str := ["_law_pool_here", "_law_shape_here", "_law_things"]
theorem sc_law_drawn_world : FnScope N_law_drawn_world P_law_drawn_world (defScope s_law_drawn_world) := ⟨rfl, rfl, rfl, by decide +kernel, rfl, by decide +kernel, by decide +kernel⟩
theorem bd_law_drawn_world : BindEq "_law_drawn_world" "_law_drawn_world" s_law_drawn_world P_law_drawn_world := fun _ _ _ _ _ _ us hl => match us, hl with | [_, _, _], _ => rfl
abbrev s_law_lists : Stmt := topS 88
abbrev N_law_lists : List Str := ["_law_world_here", "_law_marks", "_law_ties", "_law_name", "_law_thing", "_law_pairs", "_law_one_here", "_law_two"]
abbrev P_law_lists : List Str := ["_law_world_here"]
theorem sc_law_lists : FnScope N_law_lists P_law_lists (defScope s_law_lists) := ⟨rfl, rfl, rfl, by decide +kernel, rfl, by decide +kernel, by decide +kernel⟩
theorem bd_law_lists : BindEq "_law_lists" "_law_lists" s_law_lists P_law_lists := fun _ _ _ _ _ _ us hl => match us, hl with | [_], _ => rfl
abbrev s_law_world : Stmt := topS 89
abbrev N_law_world : List Str := ["_law_pool_here", "_law_shape_here", "_law_world_here", "_law_marks", "_law_ties", "_law_first", "_law_second", "_law_name"]
abbrev P_law_world : List Str := ["_law_pool_here", "_law_shape_here", "_law_world_here"]
theorem sc_law_world : FnScope N_law_world P_law_world (defScope s_law_world) := ⟨rfl, rfl, rfl, by decide +kernel, rfl, by decide +kernel, by decide +kernel⟩
theorem bd_law_world : BindEq "_law_world" "_law_world" s_law_world P_law_world := fun _ _ _ _ _ _ us hl => match us, hl with | [_, _, _], _ => rfl
abbrev s_law_inner : Stmt := topS 90
abbrev N_law_inner : List Str := ["_law_saying", "_law_found", "_law_item"]
abbrev P_law_inner : List Str := ["_law_saying"]
theorem sc_law_inner : FnScope N_law_inner P_law_inner (defScope s_law_inner) := ⟨rfl, rfl, rfl, by decide +kernel, rfl, by decide +kernel, by decide +kernel⟩
theorem bd_law_inner : BindEq "_law_inner" "_law_inner" s_law_inner P_law_inner := fun _ _ _ _ _ _ us hl => match us, hl with | [_], _ => rfl
abbrev s_law_kind : Stmt := topS 91
abbrev N_law_kind : List Str := ["_law_shape_here", "_law_world_here", "_law_saying", "_law_thing", "_law_flags", "_law_name", "_law_part"]
abbrev P_law_kind : List Str := ["_law_shape_here", "_law_world_here", "_law_saying", "_law_thing"]
theorem sc_law_kind : FnScope N_law_kind P_law_kind (defScope s_law_kind) := ⟨rfl, rfl, rfl, by decide +kernel, rfl, by decide +kernel, by decide +kernel⟩
theorem bd_law_kind : BindEq "_law_kind" "_law_kind" s_law_kind P_law_kind := fun _ _ _ _ _ _ us hl => match us, hl with | [_, _, _, _], _ => rfl
abbrev s_law_twins : Stmt := topS 92
abbrev N_law_twins : List Str := ["_law_pool_here", "_law_shape_here", "_law_world_here", "_law_saying", "_law_kinds", "_law_thing", "_law_pairs", "_law_one_here", "_law_two"]
abbrev P_law_twins : List Str := ["_law_pool_here", "_law_shape_here", "_law_world_here", "_law_saying"]
theorem sc_law_twins : FnScope N_law_twins P_law_twins (defScope s_law_twins) := ⟨rfl, rfl, rfl, by decide +kernel, rfl, by decide +kernel, by decide +kernel⟩
theorem bd_law_twins : BindEq "_law_twins" "_law_twins" s_law_twins P_law_twins := fun _ _ _ _ _ _ us hl => match us, hl with | [_, _, _, _], _ => rfl
abbrev s_law_twin_world : Stmt := topS 93
abbrev N_law_twin_world : List Str := ["_law_pool_here", "_law_shape_here", "_law_saying", "_law_turn", "_law_world_here", "_law_held", "_law_twins_here"]
abbrev P_law_twin_world : List Str := ["_law_pool_here", "_law_shape_here", "_law_saying"]
theorem sc_law_twin_world : FnScope N_law_twin_world P_law_twin_world (defScope s_law_twin_world) := ⟨rfl, rfl, rfl, by decide +kernel, rfl, by decide +kernel, by decide +kernel⟩
theorem bd_law_twin_world : BindEq "_law_twin_world" "_law_twin_world" s_law_twin_world P_law_twin_world := fun _ _ _ _ _ _ us hl => match us, hl with | [_, _, _], _ => rfl
abbrev s_law : Stmt := topS 94
abbrev N_law : List Str := ["_law_script", "_law_pool_here", "_law_shape_here", "_law_found", "_law_plain", "_law_saying", "_law_twins_here", "_law_one_here", "_law_other", "_law_world_here", "_law_middle", "_law_many", "_law_first", "_law_whole", "_law_name", "_law_thing", "_law_pair", "_law_swapped", "_law_told"]
abbrev P_law : List Str := ["_law_script"]
theorem sc_law : FnScope N_law P_law (defScope s_law) := ⟨rfl, rfl, rfl, by decide +kernel, rfl, by decide +kernel, by decide +kernel⟩
theorem bd_law : BindEq "law" "law" s_law P_law := fun _ _ _ _ _ _ us hl => match us, hl with | [_], _ => rfl
/-! ## Defs and methods as hypotheses, their promises -/
/-- a def of the module's -/
def Def (K : PySem.W.Frag) (mg : Str → Option Value) (x : Str) (st : Stmt) : Prop := ∃ f fd, mg x = some (.ref f) ∧ FunD K x x (defArgs st) (defBody st) (defScope st) [] [] f fd
/-- a method of a class's -/
def Mth (K : PySem.W.Frag) (C : Addr) (m qual : Str) (st : Stmt) : Prop := ∃ f fd, Meth K C m f ∧ FunD K m qual (defArgs st) (defBody st) (defScope st) [] [] f fd
def CallOk (P : Program) (w : World) (K : PySem.W.Frag) (mg : Str → Option Value) (base : Heap) (k : Nat) (x : Str) (ps : List Str) (sp : Sp) : Prop :=
  ∃ f fd, mg x = some (.ref f) ∧ PySem.W.keepIn K (.ref f) = true ∧ Binds K fd ps [] ∧ FnOk P w K mg base CX0 k f fd ps sp
def MethOk (P : Program) (w : World) (K : PySem.W.Frag) (mg : Str → Option Value) (base : Heap) (C : Addr) (k : Nat) (m : Str) (ps : List Str) (sp : Sp) : Prop :=
  ∃ f fd, Meth K C m f ∧ Binds K fd ps [] ∧ FnOk P w K mg base CX0 k f fd ps sp
/-- a class's making -/
def MakeOk (P : Program) (w : World) (K : PySem.W.Frag) (mg : Str → Option Value) (base : Heap) (C : Addr) (k : Nat) (x : Str) (ps : List Str) (sp : Sp) : Prop :=
  ∃ f fd, mg x = some (.ref C) ∧ Mk K C f ∧ Binds K fd ps [] ∧ FnOk P w K mg base CX0 k f fd ps sp
section
variable {P : Program} {w : World} {K : PySem.W.Frag} {mg : Str → Option Value} {base : Heap} {C : Addr} {k j : Nat} {x m qual : Str} {st : Stmt} {N ps : List Str} {sp sp' : Sp}
theorem CallOk.mono (c : CallOk P w K mg base j x ps sp) (h : j ≤ k) : CallOk P w K mg base k x ps sp := by
  obtain ⟨f, fd, a, b, d, e⟩ := c
  exact ⟨f, fd, a, b, d, e.mono h⟩
theorem MethOk.mono (c : MethOk P w K mg base C j m ps sp) (h : j ≤ k) : MethOk P w K mg base C k m ps sp := by
  obtain ⟨f, fd, a, b, e⟩ := c
  exact ⟨f, fd, a, b, e.mono h⟩
theorem CallOk.imp (c : CallOk P w K mg base k x ps sp) (h : ∀ vs H Q E, sp' vs H Q E → sp vs H Q E) : CallOk P w K mg base k x ps sp' := by
  obtain ⟨f, fd, a, b, d, e⟩ := c
  exact ⟨f, fd, a, b, d, e.imp h⟩
/-- what a def's body has to show -/
abbrev BodyOk (P : Program) (w : World) (K : PySem.W.Frag) (mg : Str → Option Value) (base : Heap) (N : List Str) (qual : Str) (st : Stmt) (k : Nat) (sp : Sp) : Prop :=
  ∀ (f : Addr) (cdv : Value) (A : Around) (outer : List Env) (s : Shared) (H : Hp) (vs : List V) (Q : VK) (E : XK), Room k (A.deeper (envOfC qual (defScope st) s.heap.objs.size f cdv)) → sp vs H Q E →
    ∃ t, PSs (cxOf CX0 P w K mg base N qual (defScope st) f cdv A outer s H E).nox (defBody st) t ∧ t { nx := fun _ H' => Q .non H', rt := Q } (start N vs) H
theorem callOk (D : Def K mg x st) (S : FnScope N ps (defScope st)) (bd : BindEq x x st ps) (len : ∀ vs H Q E, sp vs H Q E → vs.length = ps.length) (hb : BodyOk P w K mg base N x st k sp) : CallOk P w K mg base (k + 1) x ps sp := by
  obtain ⟨f, fd, a, F⟩ := D
  refine ⟨f, fd, a, F.kp, F.bindsN bd, F.ok S len fun cdv A outer s H vs Q E hr h => ?_⟩
  obtain ⟨t, h1, h2⟩ := hb f cdv A outer s H vs Q E hr h
  exact ⟨t, h1.nox, h2⟩
theorem methOk (D : Mth K C m qual st) (S : FnScope N ps (defScope st)) (bd : BindEq m qual st ps) (len : ∀ vs H Q E, sp vs H Q E → vs.length = ps.length) (hb : BodyOk P w K mg base N qual st k sp) : MethOk P w K mg base C (k + 1) m ps sp := by
  obtain ⟨f, fd, a, F⟩ := D
  refine ⟨f, fd, a, F.bindsN bd, F.ok S len fun cdv A outer s H vs Q E hr h => ?_⟩
  obtain ⟨t, h1, h2⟩ := hb f cdv A outer s H vs Q E hr h
  exact ⟨t, h1.nox, h2⟩
/-- no promise is asked: nothing to be shown -/
theorem callOk_none (D : Def K mg x st) (bd : BindEq x x st ps) (no : ∀ vs H Q E, ¬ sp vs H Q E) : CallOk P w K mg base k x ps sp := by
  obtain ⟨f, fd, a, F⟩ := D
  exact ⟨f, fd, a, F.kp, F.bindsN bd, ⟨fun vs H Q E h => absurd h (no _ _ _ _), fun A outer s H args us vs Q E _ _ _ _ h => absurd h (no _ _ _ _)⟩⟩
theorem methOk_none (D : Mth K C m qual st) (bd : BindEq m qual st ps) (no : ∀ vs H Q E, ¬ sp vs H Q E) : MethOk P w K mg base C k m ps sp := by
  obtain ⟨f, fd, a, F⟩ := D
  exact ⟨f, fd, a, F.bindsN bd, ⟨fun vs H Q E h => absurd h (no _ _ _ _), fun A outer s H args us vs Q E _ _ _ _ h => absurd h (no _ _ _ _)⟩⟩
end
/-! ## Calls by such hypotheses -/
section
variable {X : Cx} {k : Nat} {C : Addr} {ps : List Str} {sp : Sp} {x m : Str} {p pos apos : Pos} {e o : Expr} {es : List Expr} {ta : TE} {t : TA}
theorem pe_cl (c : CallOk X.prog X.w X.K X.mg X.base k x ps sp) (hr : Room k X.A) (hg : Gl X x) (ha : PA X (e :: es) t) (hdb : (x == ("__debug__" : Str)) = false := by decide)
    (he : starEach (e :: es) X.env = (false, eval e X.env) :: starEach es X.env := by rfl) (hpl : (backTo pos (starEach es X.env)).any (·.1) = false := by rfl) : PE X (.Call (.Name x p) (e :: es) [] pos) (tCall sp [] E0 t) := by
  obtain ⟨f, fd, a, b, d, F⟩ := c
  exact pe_call F hr hg a b d .nil pass0 ha hdb he hpl
theorem pe_me {pl : Sem Bool} (c : MethOk X.prog X.w X.K X.mg X.base C k m ps sp) (hc : Cls X.K C) (hr : Room k X.A) (ho : PE X o ta) (ha : PA X (e :: es) t)
    (hst : starEach (e :: es) X.env = (false, eval e X.env) :: starEach es X.env := by rfl) (hpl : (backTo pos (starEach es X.env)).any (·.1) = false := by rfl)
    (ht : eval (.Call (.Attribute o m apos) (e :: es) [] pos) X.env = (do
      let ov ← eval o X.env
      standAt apos.atName
      let (f, first) ← holding [ov] (getMethod ov m pl)
      callWith pos f first (backTo pos (starEach (e :: es) X.env)) (backToKw pos (keywordEach [] X.env))) := by rfl) : PE X (.Call (.Attribute o m apos) (e :: es) [] pos) (tMeth C m sp [] E0 ta t) := by
  obtain ⟨f, fd, a, d, F⟩ := c
  exact pe_meth ho hc a F hr d .nil pass0 ha hst hpl ht
theorem pe_me0 {pl : Sem Bool} (c : MethOk X.prog X.w X.K X.mg X.base C k m ps sp) (hc : Cls X.K C) (hr : Room k X.A) (ho : PE X o ta)
    (ht : eval (.Call (.Attribute o m apos) [] [] pos) X.env = (do
      let ov ← eval o X.env
      standAt apos.atName
      let (f, first) ← holding [ov] (getMethod ov m pl)
      callWith pos f first (backTo pos (starEach [] X.env)) (backToKw pos (keywordEach [] X.env))) := by rfl) : PE X (.Call (.Attribute o m apos) [] [] pos) (tMeth C m sp [] E0 ta tNil) := by
  obtain ⟨f, fd, a, d, F⟩ := c
  exact pe_meth0 ho hc a F hr d .nil pass0 ht
theorem pe_mk (c : MakeOk X.prog X.w X.K X.mg X.base C k x ps sp) (hr : Room (k + 1) X.A) (hg : Gl X x) (ha : PA X (e :: es) t) (hdb : (x == ("__debug__" : Str)) = false := by decide)
    (he : starEach (e :: es) X.env = (false, eval e X.env) :: starEach es X.env := by rfl) (hpl : (backTo pos (starEach es X.env)).any (·.1) = false := by rfl) : PE X (.Call (.Name x p) (e :: es) [] pos) (tMake C sp [] E0 t) := by
  obtain ⟨f, fd, a, M, d, F⟩ := c
  exact pe_make M F hr hg a d .nil pass0 ha hdb he hpl
end
end K48
namespace K48
open PySem PySem.Spec PyProof.Rows L2
def keptL : List Str := ["x", "y", "true", "not", "and", "or", "each", "some"]
/-! ## The head: what the top leaves, by names -/
def prA (K : PySem.W.Frag) (C : Addr) (f : Str) : Addr := match PySem.W.findIn K (.ref C) f with
  | some (some (.ref p)) => p
  | _ => 0
def grA (K : PySem.W.Frag) (p : Addr) : Addr := match PySem.W.recIn K p "property" with
  | some (.ref g :: _) => g
  | _ => 0
def prB (K : PySem.W.Frag) (C : Addr) (f : Str) : Bool := He.eqO (PySem.W.findIn K (.ref C) f) (some (some (.ref (prA K C f)))) && (He.eqO (PySem.W.specialIn K (.ref (prA K C f)) "__get__") (some (some (.builtin "property.__get__"))) &&
  (decide (PySem.W.takesIn K (.ref (prA K C f)) = some true) && decide ((PySem.W.recIn K (prA K C f) "property").map (fun l => l.head?) = some (some (.ref (grA K (prA K C f)))))))
theorem prB_ok {K : PySem.W.Frag} {C : Addr} {f : Str} (h : prB K C f = true) : PropOf K C f (prA K C f) (grA K (prA K C f)) := by
  obtain ⟨h1, h⟩ := He.ba h
  obtain ⟨h2, h⟩ := He.ba h
  obtain ⟨h3, h4⟩ := He.ba h
  have h4 := of_decide_eq_true h4
  refine ⟨He.eqO_ok h1, He.eqO_ok h2, of_decide_eq_true h3, ?_⟩
  cases q : PySem.W.recIn K (prA K C f) "property" with
  | none => rw [q] at h4; cases h4
  | some l =>
    rw [q] at h4
    cases l with
    | nil => cases h4
    | cons x r =>
      have e : x = .ref (grA K (prA K C f)) := Option.some.inj (Option.some.inj h4)
      exact ⟨r, by rw [e]⟩
def fdAt (K : PySem.W.Frag) (a : Addr) : Option FuncData := (K.lookup a).bind fun o => match o.data with
  | .func fd => some fd
  | _ => none
def sgOf (fd : FuncData) : Str × Str × Arguments × FuncBody × Scope × Addr × List (Str × Addr) × Addr :=
  (fd.name, fd.qualname, fd.params, fd.body, fd.scope, fd.globals, fd.closure, fd.builtins)
def okFd (K : PySem.W.Frag) (a : Addr) (q : Str) : Bool := PySem.W.keepIn K (.ref a) && (match fdAt K a with
  | some fd => PySem.W.codeIn K fd.code q && (He.dflB K fd.defaults [] && He.kwdB K fd.kwdefaults [])
  | none => false)
structure DefY where
  ad : PySem.W.Frag → Addr
  name : Str
  qual : Str
  st : Stmt
abbrev SgT : Type := Option (Str × Str × Arguments × FuncBody × Scope × Addr × List (Str × Addr) × Addr)
def DefY.val (d : DefY) : SgT := some (d.name, d.qual, defArgs d.st, .stmts (defBody d.st), defScope d.st, mainGlobals, [], builtinsNs)
def DefY.sg (K : PySem.W.Frag) (d : DefY) : SgT := (fdAt K (d.ad K)).map sgOf
theorem DefY.funD {K : PySem.W.Frag} {d : DefY} (e : d.sg K = d.val) (c : okFd K (d.ad K) d.qual = true) : ∃ fd, FunD K d.name d.qual (defArgs d.st) (defBody d.st) (defScope d.st) [] [] (d.ad K) fd := by
  obtain ⟨kp, c2⟩ := He.ba c
  unfold DefY.sg at e
  cases q : fdAt K (d.ad K) with
  | none => rw [q] at c2; cases c2
  | some fd =>
    rw [q] at e c2
    unfold fdAt at q
    cases q2 : K.lookup (d.ad K) with
    | none => rw [q2] at q; cases q
    | some o =>
      rw [q2] at q
      obtain ⟨oc, od, dt, osl⟩ := o
      cases dt with
      | func fd2 =>
        have q3 : fd2 = fd := Option.some.inj q
        subst q3
        obtain ⟨n1, n2, n3, n4, n5, n6, n7, n8, n9, n10, n11, n12, n13, n14, n15⟩ := fd2
        have e2 : some (n1, n2, n3, n4, n5, n6, n7, n15) = d.val := e
        unfold DefY.val at e2
        simp only [Option.some.injEq, Prod.mk.injEq] at e2
        obtain ⟨h1, h2, h3, h4, h5, h6, h7, h8⟩ := e2
        subst h1 h2 h3 h4 h5 h6 h7 h8
        have c3 : (PySem.W.codeIn K n13 d.qual && (He.dflB K n8 [] && He.kwdB K n9 [])) = true := c2
        obtain ⟨k1, k2⟩ := He.ba c3
        obtain ⟨k3, k4⟩ := He.ba k2
        exact ⟨_, ⟨oc, od, n8, n9, n10, n11, n12, n13, n14, osl, rfl, q2, k1, He.dflB_ok k3, He.kwdB_ok k4⟩, kp⟩
      | _ => cases q
def fa0 : List He.Fa := [.glo "is_integer", .glo "is_within", .glo "is_sequence", .glo "is_tuple", .glo "is_headed", .glo "is_key", .glo "is_word", .glo "is_name", .glo "is_test", .glo "parts_of", .glo "sayings_in", .glo "own_names", .glo "free_names", .glo "is_saying", .glo "check_saying", .glo "check_closed", .glo "is_thing", .glo "is_pair", .glo "is_dict_of", .glo "are_things", .glo "are_pairs", .glo "check_marks", .glo "check_ties", .glo "are_names", .glo "are_functions", .glo "node_of", .glo "is_held", .glo "holds", .glo "check_plain", .glo "check_thing"]
def fa1 : List He.Fa := [.glo "are_like", .glo "grown", .glo "_law_draw", .glo "_law_mixed", .glo "_law_quantor", .glo "_law_names", .glo "_law_shape", .glo "_law_tongue", .glo "_law_test", .glo "_law_matrix", .glo "_law_one", .glo "_law_closed", .glo "_law_free", .glo "_law_joined", .glo "_law_bound", .glo "_law_drawn_world", .glo "_law_lists", .glo "_law_places", .glo "_law_said", .glo "_law_rows", .glo "_law_world", .glo "_law_so", .glo "_law_inner", .glo "_law_kind", .glo "_law_twins", .glo "_law_twin_world", .glo "_law_pool", .glo "law", .glo "Tongue", .glo "World"]
def fa2 : List He.Fa := [.glo "Node", .glo "Reading", .glo "Growth", .glo "NAMES", .glo "BINDING", .glo "JOINING", .glo "KEPT_WORDS", .free "len", .free "isinstance", .free "int", .free "bool", .free "str", .free "list", .free "tuple", .free "dict", .free "sorted", .free "range", .free "sum", .free "abs", .free "max", .int "MOST_LETTERS" 6, .int "MOST_TUPLES" 100, .int "MOST_DEEP" 20, .int "MOST_THINGS" 300, .int "MOST_MARKS" 3, .int "MOST_TIES" 2, .str "LETTERS" "abcdefghijklmnopqrstuvwxyz", .cls "Tongue", .mkr "Tongue", .cls "World"]
def fa3 : List He.Fa := [.mkr "World", .cls "Node", .mkr "Node", .cls "Reading", .mkr "Reading", .cls "Growth", .mkr "Growth", .noat "Tongue" "kept_marks", .noat "Tongue" "kept_ties", .noat "Tongue" "functions", .noat "World" "tongue", .noat "World" "things", .noat "World" "marked", .noat "World" "tied", .noat "Node" "word", .noat "Node" "names", .noat "Node" "parts", .noat "Node" "free", .noat "Node" "number", .noat "Reading" "world", .noat "Reading" "told", .noat "Growth" "tongue", .noat "Growth" "one", .noat "Growth" "other", .noat "Growth" "things", .noat "Growth" "marked", .noat "Growth" "tied", .meth "World" "__init__", .meth "World" "has", .meth "World" "leads"]
def fa4 : List He.Fa := [.meth "Tongue" "__eq__", .meth "World" "__eq__", .meth "Tongue" "__init__", .meth "Node" "__init__", .meth "Reading" "test", .meth "Reading" "flag", .meth "Reading" "searched", .meth "Reading" "bound_flag", .meth "Reading" "__init__", .meth "Growth" "tie", .meth "Growth" "put", .meth "Growth" "__init__", .meth "Growth" "made_world"]
def faL : List He.Fa := fa0 ++ fa1 ++ fa2 ++ fa3 ++ fa4
def df0 : List DefY := [⟨fun K => He.ga K "is_integer", "is_integer", "is_integer", s_is_integer⟩, ⟨fun K => He.ga K "is_within", "is_within", "is_within", s_is_within⟩, ⟨fun K => He.ga K "is_sequence", "is_sequence", "is_sequence", s_is_sequence⟩, ⟨fun K => He.ga K "is_tuple", "is_tuple", "is_tuple", s_is_tuple⟩, ⟨fun K => He.ga K "is_headed", "is_headed", "is_headed", s_is_headed⟩, ⟨fun K => He.ga K "is_key", "is_key", "is_key", s_is_key⟩, ⟨fun K => He.ga K "is_word", "is_word", "is_word", s_is_word⟩, ⟨fun K => He.ga K "is_name", "is_name", "is_name", s_is_name⟩, ⟨fun K => He.ga K "is_test", "is_test", "is_test", s_is_test⟩, ⟨fun K => He.ga K "parts_of", "parts_of", "parts_of", s_parts_of⟩, ⟨fun K => He.ga K "sayings_in", "sayings_in", "sayings_in", s_sayings_in⟩, ⟨fun K => He.ga K "own_names", "own_names", "own_names", s_own_names⟩, ⟨fun K => He.ga K "free_names", "free_names", "free_names", s_free_names⟩, ⟨fun K => He.ga K "is_saying", "is_saying", "is_saying", s_is_saying⟩, ⟨fun K => He.ga K "check_saying", "check_saying", "check_saying", s_check_saying⟩, ⟨fun K => He.ga K "check_closed", "check_closed", "check_closed", s_check_closed⟩, ⟨fun K => He.ga K "is_thing", "is_thing", "is_thing", s_is_thing⟩, ⟨fun K => He.ga K "is_pair", "is_pair", "is_pair", s_is_pair⟩, ⟨fun K => He.ga K "is_dict_of", "is_dict_of", "is_dict_of", s_is_dict_of⟩, ⟨fun K => He.ga K "are_things", "are_things", "are_things", s_are_things⟩, ⟨fun K => He.ga K "are_pairs", "are_pairs", "are_pairs", s_are_pairs⟩, ⟨fun K => He.ga K "check_marks", "check_marks", "check_marks", s_check_marks⟩, ⟨fun K => He.ga K "check_ties", "check_ties", "check_ties", s_check_ties⟩, ⟨fun K => He.ga K "are_names", "are_names", "are_names", s_are_names⟩, ⟨fun K => He.ga K "are_functions", "are_functions", "are_functions", s_are_functions⟩, ⟨fun K => He.ga K "node_of", "node_of", "node_of", s_node_of⟩, ⟨fun K => He.ga K "is_held", "is_held", "is_held", s_is_held⟩, ⟨fun K => He.ga K "holds", "holds", "holds", s_holds⟩, ⟨fun K => He.ga K "check_plain", "check_plain", "check_plain", s_check_plain⟩, ⟨fun K => He.ga K "check_thing", "check_thing", "check_thing", s_check_thing⟩]
def df1 : List DefY := [⟨fun K => He.ga K "are_like", "are_like", "are_like", s_are_like⟩, ⟨fun K => He.ga K "grown", "grown", "grown", s_grown⟩, ⟨fun K => He.ga K "_law_draw", "_law_draw", "_law_draw", s_law_draw⟩, ⟨fun K => He.ga K "_law_mixed", "_law_mixed", "_law_mixed", s_law_mixed⟩, ⟨fun K => He.ga K "_law_quantor", "_law_quantor", "_law_quantor", s_law_quantor⟩, ⟨fun K => He.ga K "_law_names", "_law_names", "_law_names", s_law_names⟩, ⟨fun K => He.ga K "_law_shape", "_law_shape", "_law_shape", s_law_shape⟩, ⟨fun K => He.ga K "_law_tongue", "_law_tongue", "_law_tongue", s_law_tongue⟩, ⟨fun K => He.ga K "_law_test", "_law_test", "_law_test", s_law_test⟩, ⟨fun K => He.ga K "_law_matrix", "_law_matrix", "_law_matrix", s_law_matrix⟩, ⟨fun K => He.ga K "_law_one", "_law_one", "_law_one", s_law_one⟩, ⟨fun K => He.ga K "_law_closed", "_law_closed", "_law_closed", s_law_closed⟩, ⟨fun K => He.ga K "_law_free", "_law_free", "_law_free", s_law_free⟩, ⟨fun K => He.ga K "_law_joined", "_law_joined", "_law_joined", s_law_joined⟩, ⟨fun K => He.ga K "_law_bound", "_law_bound", "_law_bound", s_law_bound⟩, ⟨fun K => He.ga K "_law_drawn_world", "_law_drawn_world", "_law_drawn_world", s_law_drawn_world⟩, ⟨fun K => He.ga K "_law_lists", "_law_lists", "_law_lists", s_law_lists⟩, ⟨fun K => He.ga K "_law_places", "_law_places", "_law_places", s_law_places⟩, ⟨fun K => He.ga K "_law_said", "_law_said", "_law_said", s_law_said⟩, ⟨fun K => He.ga K "_law_rows", "_law_rows", "_law_rows", s_law_rows⟩, ⟨fun K => He.ga K "_law_world", "_law_world", "_law_world", s_law_world⟩, ⟨fun K => He.ga K "_law_so", "_law_so", "_law_so", s_law_so⟩, ⟨fun K => He.ga K "_law_inner", "_law_inner", "_law_inner", s_law_inner⟩, ⟨fun K => He.ga K "_law_kind", "_law_kind", "_law_kind", s_law_kind⟩, ⟨fun K => He.ga K "_law_twins", "_law_twins", "_law_twins", s_law_twins⟩, ⟨fun K => He.ga K "_law_twin_world", "_law_twin_world", "_law_twin_world", s_law_twin_world⟩, ⟨fun K => He.ga K "_law_pool", "_law_pool", "_law_pool", s_law_pool⟩, ⟨fun K => He.ga K "law", "law", "law", s_law⟩, ⟨fun K => He.ma K (He.ga K "World") "__init__", "__init__", "World.__init__", s_World__init⟩, ⟨fun K => He.ma K (He.ga K "World") "has", "has", "World.has", s_World_has⟩]
def df2 : List DefY := [⟨fun K => He.ma K (He.ga K "World") "leads", "leads", "World.leads", s_World_leads⟩, ⟨fun K => He.ma K (He.ga K "Tongue") "__eq__", "__eq__", "Tongue.__eq__", s_Tongue__eq⟩, ⟨fun K => He.ma K (He.ga K "World") "__eq__", "__eq__", "World.__eq__", s_World__eq⟩, ⟨fun K => He.ma K (He.ga K "Tongue") "__init__", "__init__", "Tongue.__init__", s_Tongue__init⟩, ⟨fun K => He.ma K (He.ga K "Node") "__init__", "__init__", "Node.__init__", s_Node__init⟩, ⟨fun K => He.ma K (He.ga K "Reading") "test", "test", "Reading.test", s_Reading_test⟩, ⟨fun K => He.ma K (He.ga K "Reading") "flag", "flag", "Reading.flag", s_Reading_flag⟩, ⟨fun K => He.ma K (He.ga K "Reading") "searched", "searched", "Reading.searched", s_Reading_searched⟩, ⟨fun K => He.ma K (He.ga K "Reading") "bound_flag", "bound_flag", "Reading.bound_flag", s_Reading_bound_flag⟩, ⟨fun K => He.ma K (He.ga K "Reading") "__init__", "__init__", "Reading.__init__", s_Reading__init⟩, ⟨fun K => He.ma K (He.ga K "Growth") "tie", "tie", "Growth.tie", s_Growth_tie⟩, ⟨fun K => He.ma K (He.ga K "Growth") "put", "put", "Growth.put", s_Growth_put⟩, ⟨fun K => He.ma K (He.ga K "Growth") "__init__", "__init__", "Growth.__init__", s_Growth__init⟩, ⟨fun K => He.ma K (He.ga K "Growth") "made_world", "made_world", "Growth.made_world", s_Growth_made_world⟩, ⟨fun K => grA K (prA K (He.ga K "Tongue") "marks"), "marks", "Tongue.marks", s_Tongue_marks⟩, ⟨fun K => grA K (prA K (He.ga K "Tongue") "ties"), "ties", "Tongue.ties", s_Tongue_ties⟩, ⟨fun K => grA K (prA K (He.ga K "World") "marks"), "marks", "World.marks", s_World_marks⟩, ⟨fun K => grA K (prA K (He.ga K "World") "ties"), "ties", "World.ties", s_World_ties⟩]
def dfL : List DefY := df0 ++ df1 ++ df2
def prL : List (Str × Str) := [("Tongue", "marks"), ("Tongue", "ties"), ("World", "marks"), ("World", "ties")]
def clB (K : PySem.W.Frag) (x : Str) : Bool := He.eqO (PySem.W.findIn K (.ref (He.ga K x)) "__class__") (some (some (.builtin "object.__class__"))) && (He.eqO (PySem.W.specialIn K (.builtin "object.__class__") "__get__") (some (some (.builtin "getset_descriptor.__get__"))) &&
  (decide (PySem.W.takesIn K (.builtin "object.__class__") = some true) && (decide (PySem.W.mroIn K (He.ga K x) (.type "object") = some true) && He.eqO (PySem.W.findIn K (.ref (He.ga K x)) "__ne__") (some (some (.builtin "object.__ne__"))))))
def chk (K : PySem.W.Frag) : Bool := (faL.all fun f => f.ok K) && ((dfL.all fun d => okFd K (d.ad K) d.qual) && ((prL.all fun q => prB K (He.ga K q.1) q.2) && ((clB K "Tongue" && clB K "World") && (He.tupB K "NAMES" [.str "x", .str "y"] && He.tupB K "BINDING" [.str "each", .str "some"] && He.tupB K "JOINING" [.str "and", .str "or"]))))
abbrev AlH : Type := Bool × List SgT × Option (List (Option (Str × Int)))
def obH (K : PySem.W.Frag) : AlH := (chk K, dfL.map fun d => d.sg K, He.dicW K (He.ga K "KEPT_WORDS"))
def vlH (w : World) : AlH := (true, dfL.map DefY.val, some (He.keysIn w.params keptL))
/-- where to look: the module's names, what they stand for, the classes' tables, what stands in those, their codes -/
def own1 (o : Obj) : List Addr := match o.data with
  | .func fd => He.refV fd.code
  | .cls cd => [cd.ns]
  | .fields vs => vs.toList.flatMap He.refV
  | _ => []
def vals1 (o : Obj) : List Addr := match o.data with
  | .dict es _ => es.toList.flatMap fun e => He.refV e.val
  | _ => []
def step1 (g : Addr → Option Obj) (f : Obj → List Addr) (as : List Addr) : List Addr := as.flatMap fun a => match g a with
  | some o => f o
  | none => []
def own2 (o : Obj) : List Addr := match o.data with
  | .cls cd => [cd.ns]
  | _ => []
def adL (g : Addr → Option Obj) : List Addr :=
  let gl := step1 g vals1 [mainGlobals]
  let ms := step1 g vals1 (step1 g own2 gl)
  let f2 := step1 g own1 ms
  mainGlobals :: (gl ++ (step1 g own1 gl ++ (ms ++ (f2 ++ step1 g own1 f2))))
def obG (g : Addr → Option Obj) : AlH := obH (He.frG g (adL g))
def hkL : PySem.W.Hook where
  α := AlH
  obs := fun s => obG s.heap.get?
  val := vlH
  says := fun w h => ∃ K : PySem.W.Frag, K.In h ∧ obH K = vlH w
  of := fun _ _ e => ⟨_, He.frG_in, e⟩
  keeps := fun _ _ _ ⟨K, hK, c⟩ k => ⟨K, PySem.W.Frag.In.keeps hK k, c⟩
theorem obG_eq {g : Addr → Option Obj} {s : Shared} (h : ∀ a, g a = s.heap.get? a) : obG g = hkL.obs s := by
  have e : g = s.heap.get? := funext h
  rw [e] <;> rfl
end K48
namespace K48
open PySem PySem.W PySem.Calls PyProof.Rows
abbrev RR : OpenRow := OpenLaw.row PySem.Challenge.rw_pairsayings_k48_whole_copies_in_steps
abbrev qv : Program := view RR.prog [94]
def namesA : List PySem.Str := (["_wall", "SayingError", "NoSaying", "NotClosed", "NoThing", "NoThings", "HasFunctions", "NotHeld", "NotLike", "NoTongue", "NoWorld", "LETTERS", "MOST_LETTERS", "is_integer", "is_within"] : List PySem.Str) ++ (["is_sequence", "is_word", "is_tuple", "is_headed", "is_key", "NAMES", "BINDING", "JOINING", "MOST_TUPLES", "MOST_DEEP", "is_name", "is_test", "parts_of", "is_saying", "sayings_in"] : List PySem.Str) ++ (["own_names", "free_names", "check_saying", "check_closed", "Node", "node_of", "Reading", "MOST_THINGS", "is_thing", "is_pair", "is_dict_of", "are_things", "are_pairs", "is_function", "check_marks"] : List PySem.Str) ++ (["check_ties", "World", "is_held", "holds", "check_plain", "check_thing", "are_like", "Growth", "grown", "KEPT_WORDS", "MOST_MARKS", "MOST_TIES", "are_names", "are_functions", "Tongue"] : List PySem.Str) ++ (["_law_pool", "_law_draw", "_law_mixed", "_law_names", "_law_shape", "_law_tongue", "_law_test", "_law_matrix", "_law_quantor", "_law_one", "_law_closed", "_law_free", "_law_places", "_law_said", "_law_rows"] : List PySem.Str) ++ (["_law_joined", "_law_bound", "_law_so", "_law_drawn_world", "_law_lists", "_law_world", "_law_inner", "_law_kind", "_law_twins", "_law_twin_world"] : List PySem.Str)
def ob (s : PySem.W.SharedT) : AlH := obG (HandSHeadRun.getT s)
theorem ob_eq (s : PySem.W.SharedT) : ob s = hkL.obs s.abs := obG_eq (HandSHeadRun.getT_eq s)
theorem runF (w : World) : HandSHeadRun.RunEq RR qv hkL ob 7000 namesA (w.withFollow "special-get-raises" false) := by
  intro os
  kernel_rfl
theorem runT (w : World) : HandSHeadRun.RunEq RR qv hkL ob 7000 namesA (w.withFollow "special-get-raises" true) := by
  intro os
  kernel_rfl
theorem run (w : World) : HandSHeadRun.RunEq RR qv hkL ob 7000 namesA w := byRow2 "special-get-raises" (P := fun w => HandSHeadRun.RunEq RR qv hkL ob 7000 namesA w) runF runT w
end K48
namespace K48
open PySem PySem.Spec PyProof.Rows L2
/-! ## Readings, step by step -/
theorem iteTk {c : Bool} {A B : Prop} (h : c = true) (a : A) : if c = true then A else B := by rw [if_pos h]; exact a
theorem iteFk {c : Bool} {A B : Prop} (h : c = false) (b : B) : if c = true then A else B := by rw [h]; exact iteF b
theorem iteS {c : Bool} {A B : Prop} (h1 : c = true → A) (h2 : c = false → B) : if c = true then A else B := by
  cases c with
  | true => exact iteT (h1 rfl)
  | false => exact iteF (h2 rfl)
/-! ## Heaps -/
theorem Same.new {G H : Hp} {p : Addr} {o : HO} (s : Same G H) (h : H p = none) : Same G (upd H p o) := fun b u e => by
  rw [upd_ne (ne_of_none (s b u e) h)]
  exact s b u e
theorem Same.mut {G H : Hp} {p : Addr} {o : HO} (s : Same G H) (h : G p = none) : Same G (upd H p o) := fun b u e => by
  rw [upd_ne (ne_of_none e h)]
  exact s b u e
theorem Same.sqT {K : PySem.W.Frag} {H H' : Hp} {a : Addr} {xs : List V} (e : Same H H') (h : SqT K H a xs) : SqT K H' a xs := by
  rcases h with (h | ⟨o, h⟩) | h
  · exact .inl (.inl (e _ _ h))
  · exact .inl (.inr ⟨o, e _ _ h⟩)
  · exact .inr h
theorem sz {n : Nat} (h : n ≤ 100000) : n ≤ sizeLine := Nat.le_trans h (by decide)
theorem szl {n : Nat} (h : n ≤ 100000) : n < sizeLine := Nat.lt_of_le_of_lt h (by decide)
/-! ## What the module's names hold -/
structure Blt (mg : Str → Option Value) : Prop where
  len : mg "len" = none
  isinstance : mg "isinstance" = none
  int : mg "int" = none
  bool : mg "bool" = none
  str : mg "str" = none
  list : mg "list" = none
  tuple : mg "tuple" = none
  dict : mg "dict" = none
  sorted : mg "sorted" = none
  range : mg "range" = none
  sum : mg "sum" = none
  abs : mg "abs" = none
  max : mg "max" = none
theorem bo_isinstance : bootBuiltins "isinstance" = some (.builtin "isinstance") := by decide +kernel
theorem bo_len : bootBuiltins "len" = some (.builtin "len") := by decide +kernel
theorem bo_int : bootBuiltins "int" = some (.type "int") := by decide +kernel
theorem bo_bool : bootBuiltins "bool" = some (.type "bool") := by decide +kernel
theorem bo_str : bootBuiltins "str" = some (.type "str") := by decide +kernel
theorem bo_list : bootBuiltins "list" = some (.type "list") := by decide +kernel
theorem bo_tuple : bootBuiltins "tuple" = some (.type "tuple") := by decide +kernel
theorem bo_dict : bootBuiltins "dict" = some (.type "dict") := by decide +kernel
theorem bo_sorted : bootBuiltins "sorted" = some (.builtin "sorted") := by decide +kernel
theorem bo_sum : bootBuiltins "sum" = some (.builtin "sum") := by decide +kernel
theorem bo_abs : bootBuiltins "abs" = some (.builtin "abs") := by decide +kernel
theorem bo_max : bootBuiltins "max" = some (.builtin "max") := by decide +kernel
/-- the module's name x is a tuple of these -/
def TupG (K : PySem.W.Frag) (mg : Str → Option Value) (x : Str) (xs : List V) : Prop := ∃ a, mg x = some (.ref a) ∧ ∀ H, SqT K H a xs
def IntG (mg : Str → Option Value) (x : Str) (i : Int) : Prop := ∃ t, mg x = some (.int i t)
def StrG (mg : Str → Option Value) (x : Str) (z : Str) : Prop := ∃ t, mg x = some (.str z t)
def tTupG (K : PySem.W.Frag) (xs : List V) : TE := fun _ H Q => ∀ a, SqT K H a xs → Q (.ref a) H
section
variable {X : Cx} {x : Str} {pos : Pos}
theorem pe_tupG {xs : List V} (h : TupG X.K X.mg x xs) (hg : Gl X x) (hd : (x == ("__debug__" : Str)) = false := by decide) : PE X (.Name x pos) (tTupG X.K xs) := by
  obtain ⟨a, e, s⟩ := h
  exact ⟨fun pins st σ H Q I q => (pe_glob (v := .ref a) hg e rfl hd).run pins st σ H Q I (q a (s H))⟩
theorem pe_intG {i : Int} (h : IntG X.mg x i) (hg : Gl X x) (hd : (x == ("__debug__" : Str)) = false := by decide) : PE X (.Name x pos) (tC (.int i)) := by
  obtain ⟨t, e⟩ := h
  exact pe_glob hg e ⟨t, rfl⟩ hd
theorem pe_strG {z : Str} (h : StrG X.mg x z) (hg : Gl X x) (hd : (x == ("__debug__" : Str)) = false := by decide) : PE X (.Name x pos) (tC (.str z)) := by
  obtain ⟨t, e⟩ := h
  exact pe_glob hg e ⟨t, rfl⟩ hd
end
/-! ## isinstance -/
inductive TyN (H : Hp) : V → String → Prop where
  | int (i : Int) : TyN H (.int i) "int"
  | bl (b : Bool) : TyN H (.bl b) "bool"
  | str (z : Str) : TyN H (.str z) "str"
  | lst {a : Addr} {xs : List V} (h : H a = some (.lst xs)) : TyN H (.ref a) "list"
  | tup {a : Addr} {xs : List V} (h : H a = some (.tup xs)) : TyN H (.ref a) "tuple"
  | dK {a : Addr} {xs : List (Key × V)} (h : H a = some (.dK xs)) : TyN H (.ref a) "dict"
theorem TyN.x {K : PySem.W.Frag} {H : Hp} {v : V} {n : String} (h : TyN H v n) : TyX K H v (.type n) := by
  cases h with
  | int i => exact .base (.int i)
  | bl b => exact .base (.bl b)
  | str z => exact .base (.str z)
  | lst h => exact .base (.lst h)
  | tup h => exact .base (.tup h)
  | dK h => exact .base (.dK h)
end K48
namespace K48
open PySem PySem.Spec PyProof.Rows L2
/-- the slots written out -/
theorem reS {t : TS} {D : Ends} {σ σ' : L2.St} {H : Hp} (h : σ = σ') (g : t D σ' H) : t D σ H := by
  rw [h]
  exact g
theorem nzG {i : Nat} {v : V} {σ σ' : L2.St} {H : Hp} {t : TS} {D : Ends} (h : σ.set i (some v) = σ') (g : t D σ' H) : gName i v σ H (t D) := by
  subst h
  exact g
end K48
namespace K48
open PySem PySem.Spec PyProof.Rows L2
local macro_rules | `(tactic| walk_at "rd") => `(tactic| repeat (first | refine ⟨_, rfl, ?_⟩ | refine ⟨_, _, rfl, rfl, ?_⟩ | refine ⟨rfl, ?_⟩ | refine iteTk (by decide +kernel) ?_ | refine iteFk (by decide +kernel) ?_))
local macro_rules | `(tactic| walk_at "rdr") => `(tactic| repeat (first | refine ⟨_, rfl, ?_⟩ | refine ⟨_, _, rfl, rfl, ?_⟩ | refine ⟨rfl, ?_⟩ | refine iteTk (by first | decide +kernel | rfl) ?_ | refine iteFk (by first | decide +kernel | rfl) ?_))
local macro_rules | `(tactic| walk_at "tyn") => `(tactic| first | exact .int _ | exact .bl _ | exact .str _ | exact .tup (by assumption) | exact .lst (by assumption) | exact .dK (by assumption))
local macro_rules | `(tactic| walk_at "isT") => `(tactic| refine ⟨_, _, _, _, true, rfl, .ty _, TyN.x (by walk_at "tyn"), kit_ty (by decide +kernel), ?_⟩)
local macro_rules | `(tactic| walk_at "isF") => `(tactic| refine ⟨_, _, _, _, false, rfl, .ty _, TyN.x (by walk_at "tyn"), kit_ty (by decide +kernel), ?_⟩)
local macro_rules | `(tactic| walk_at "nz") => `(tactic| first | refine nzG (by simp only [List.set_cons_succ, List.set_cons_zero]; rfl) ?_ | refine reS (by simp only [List.set_cons_succ, List.set_cons_zero]; rfl) ?_)
structure Cst (K : PySem.W.Frag) (mg : Str → Option Value) : Prop where
  LETTERS : StrG mg "LETTERS" "abcdefghijklmnopqrstuvwxyz"
  MOST_LETTERS : IntG mg "MOST_LETTERS" 6
  MOST_TUPLES : IntG mg "MOST_TUPLES" 100
  MOST_DEEP : IntG mg "MOST_DEEP" 20
  MOST_THINGS : IntG mg "MOST_THINGS" 300
  MOST_MARKS : IntG mg "MOST_MARKS" 3
  MOST_TIES : IntG mg "MOST_TIES" 2
  NAMES : TupG K mg "NAMES" [.str "x", .str "y"]
  BINDING : TupG K mg "BINDING" [.str "each", .str "some"]
  JOINING : TupG K mg "JOINING" [.str "and", .str "or"]
section
variable {P : Program} {w : World} {K : PySem.W.Frag} {mg : Str → Option Value} {base : Heap}
def spIsInteger : Sp := fun vs H Q _ => ∃ i : Int, vs = [.int i] ∧ Q (.bl true) H
theorem ok_is_integer (B : Blt mg) (D : Def K mg "is_integer" s_is_integer) : CallOk P w K mg base 1 "is_integer" P_is_integer spIsInteger := by
  refine callOk D sc_is_integer bd_is_integer (fun vs H Q E h => ?_) (fun f cdv A outer s H vs Q E hr h => ?_)
  · obtain ⟨i, rfl, _⟩ := h
    rfl
  obtain ⟨i, rfl, q⟩ := h
  refine ⟨_, pss_one (ps_ret (pe_and (pe_callB call_isi (by rfl) B.isinstance bo_isinstance (pa_cons (pv 0) (pa_cons (pe_bltn (v := .ty "int") (by rfl) B.int bo_int rfl) pa_nil))) (pe_one (pe_not (pe_callB call_isi (by rfl) B.isinstance bo_isinstance (pa_cons (pv 0) (pa_cons (pe_bltn (v := .ty "bool") (by rfl) B.bool bo_bool rfl) pa_nil))))))), ?_⟩
  walk_at "rd"
  walk_at "isT"
  walk_at "rd"
  walk_at "isF"
  walk_at "rd"
  exact q
def spIsWithin : Sp := fun vs H Q _ => ∃ i a b : Int, vs = [.int i, .int a, .int b] ∧ Q (.bl (decide (a ≤ i) && decide (i ≤ b))) H
theorem ok_is_within (D : Def K mg "is_within" s_is_within) (c_is_integer : CallOk P w K mg base 1 "is_integer" P_is_integer spIsInteger) : CallOk P w K mg base 2 "is_within" P_is_within spIsWithin := by
  refine callOk D sc_is_within bd_is_within (fun vs H Q E h => ?_) (fun f cdv A outer s H vs Q E hr h => ?_)
  · obtain ⟨i, a, b, rfl, _⟩ := h
    rfl
  obtain ⟨i, a, b, rfl, q⟩ := h
  refine ⟨_, pss_one (ps_ret (pe_and (pe_cl c_is_integer hr (by rfl) (pa_cons (pv 0) pa_nil)) (pe_one (pe_chain op_le op_le (pv 1) (pv 0) (pv 2))))), ?_⟩
  walk_at "rd"
  refine iteS (fun h => ?_) (fun h => ?_)
  · walk_at "rd"
    rw [h, Bool.true_and] at q
    exact q
  · rw [h, Bool.false_and] at q
    exact q
end
end K48
namespace K48
open PySem PySem.Spec PyProof.Rows L2
local macro_rules | `(tactic| walk_at "rd") => `(tactic| repeat (first | refine ⟨_, rfl, ?_⟩ | refine ⟨_, _, rfl, rfl, ?_⟩ | refine ⟨rfl, ?_⟩ | refine iteTk (by decide +kernel) ?_ | refine iteFk (by decide +kernel) ?_))
local macro_rules | `(tactic| walk_at "rdr") => `(tactic| repeat (first | refine ⟨_, rfl, ?_⟩ | refine ⟨_, _, rfl, rfl, ?_⟩ | refine ⟨rfl, ?_⟩ | refine iteTk (by first | decide +kernel | rfl) ?_ | refine iteFk (by first | decide +kernel | rfl) ?_))
local macro_rules | `(tactic| walk_at "tyn") => `(tactic| first | exact .int _ | exact .bl _ | exact .str _ | exact .tup (by assumption) | exact .lst (by assumption) | exact .dK (by assumption))
local macro_rules | `(tactic| walk_at "isT") => `(tactic| refine ⟨_, _, _, _, true, rfl, .ty _, TyN.x (by walk_at "tyn"), kit_ty (by decide +kernel), ?_⟩)
local macro_rules | `(tactic| walk_at "isF") => `(tactic| refine ⟨_, _, _, _, false, rfl, .ty _, TyN.x (by walk_at "tyn"), kit_ty (by decide +kernel), ?_⟩)
local macro_rules | `(tactic| walk_at "nz") => `(tactic| first | refine nzG (by simp only [List.set_cons_succ, List.set_cons_zero]; rfl) ?_ | refine reS (by simp only [List.set_cons_succ, List.set_cons_zero]; rfl) ?_)
/-! ## Sayings -/
inductive Nm where
  | x | y
  deriving DecidableEq
def Nm.s : Nm → Str
  | .x => "x"
  | .y => "y"
def Nm.flip : Nm → Nm
  | .x => .y
  | .y => .x
inductive Say where
  | tru
  | mark (m : Str) (v : Nm)
  | tie (t : Str) (v u : Nm)
  | same (v u : Nm)
  | not (s : Say)
  | and (s t : Say)
  | or (s t : Say)
  | each (v : Nm) (s : Say)
  | som (v : Nm) (s : Say)
  deriving DecidableEq
namespace Say
def kids : Say → List Say
  | .not s => [s]
  | .and s t => [s, t]
  | .or s t => [s, t]
  | .each _ s => [s]
  | .som _ s => [s]
  | _ => []
def size : Say → Nat
  | .not s => 1 + s.size
  | .and s t => 1 + (s.size + t.size)
  | .or s t => 1 + (s.size + t.size)
  | .each _ s => 1 + s.size
  | .som _ s => 1 + s.size
  | _ => 1
def deep : Say → Nat
  | .not s => 1 + s.deep
  | .and s t => 1 + max s.deep t.deep
  | .or s t => 1 + max s.deep t.deep
  | .each _ s => 1 + s.deep
  | .som _ s => 1 + s.deep
  | _ => 1
/-- whether a name is free -/
def fr : Say → Nm → Bool
  | .tru, _ => false
  | .mark _ v, n => decide (n = v)
  | .tie _ v u, n => decide (n = v) || decide (n = u)
  | .same v u, n => decide (n = v) || decide (n = u)
  | .not s, n => s.fr n
  | .and s t, n => s.fr n || t.fr n
  | .or s t, n => s.fr n || t.fr n
  | .each v s, n => s.fr n && !decide (n = v)
  | .som v s, n => s.fr n && !decide (n = v)
def fv (s : Say) : List Str := (if s.fr .x = true then [("x" : Str)] else []) ++ (if s.fr .y = true then [("y" : Str)] else [])
/-- a saying of the tongue -/
def okT (ms ts : List Str) : Say → Prop
  | .mark m _ => m ∈ ms
  | .tie t _ _ => t ∈ ts
  | .not s => s.okT ms ts
  | .and s t => s.okT ms ts ∧ t.okT ms ts
  | .or s t => s.okT ms ts ∧ t.okT ms ts
  | .each _ s => s.okT ms ts
  | .som _ s => s.okT ms ts
  | _ => True
end Say
/-- the saying stands at a -/
def SayAt (H : Hp) : Say → Addr → Prop
  | .tru, a => H a = some (.tup [.str "true"])
  | .mark m v, a => H a = some (.tup [.str "mark", .str m, .str v.s])
  | .tie t v u, a => H a = some (.tup [.str "tie", .str t, .str v.s, .str u.s])
  | .same v u, a => H a = some (.tup [.str "same", .str v.s, .str u.s])
  | .not s, a => ∃ b, H a = some (.tup [.str "not", .ref b]) ∧ SayAt H s b
  | .and s t, a => ∃ b c, H a = some (.tup [.str "and", .ref b, .ref c]) ∧ SayAt H s b ∧ SayAt H t c
  | .or s t, a => ∃ b c, H a = some (.tup [.str "or", .ref b, .ref c]) ∧ SayAt H s b ∧ SayAt H t c
  | .each v s, a => ∃ b, H a = some (.tup [.str "each", .str v.s, .ref b]) ∧ SayAt H s b
  | .som v s, a => ∃ b, H a = some (.tup [.str "some", .str v.s, .ref b]) ∧ SayAt H s b
theorem SayAt.mono {H H' : Hp} (e : Same H H') : ∀ {s : Say} {a : Addr}, SayAt H s a → SayAt H' s a
  | .tru, _, h => e _ _ h
  | .mark _ _, _, h => e _ _ h
  | .tie _ _ _, _, h => e _ _ h
  | .same _ _, _, h => e _ _ h
  | .not _, _, ⟨b, h, h1⟩ => ⟨b, e _ _ h, h1.mono e⟩
  | .and _ _, _, ⟨b, c, h, h1, h2⟩ => ⟨b, c, e _ _ h, h1.mono e, h2.mono e⟩
  | .or _ _, _, ⟨b, c, h, h1, h2⟩ => ⟨b, c, e _ _ h, h1.mono e, h2.mono e⟩
  | .each _ _, _, ⟨b, h, h1⟩ => ⟨b, e _ _ h, h1.mono e⟩
  | .som _ _, _, ⟨b, h, h1⟩ => ⟨b, e _ _ h, h1.mono e⟩
/-! ## Tongues -/
structure Tng where
  marks : List Str
  ties : List Str
def fT (am at_ af : Addr) : List (Str × V) := [("kept_marks", .ref am), ("kept_ties", .ref at_), ("functions", .ref af)]
theorem fT_m (am at_ af : Addr) : (fT am at_ af).lookup ("kept_marks" : Str) = some (.ref am) := by kernel_rfl
theorem fT_t (am at_ af : Addr) : (fT am at_ af).lookup ("kept_ties" : Str) = some (.ref at_) := by kernel_rfl
theorem fT_f (am at_ af : Addr) : (fT am at_ af).lookup ("functions" : Str) = some (.ref af) := by kernel_rfl
theorem fT_put (am at_ af : Addr) : putF "functions" (.ref af) (putF "kept_ties" (.ref at_) (putF "kept_marks" (.ref am) [])) = fT am at_ af := by kernel_rfl
def TongueAt (cT : Addr) (H : Hp) (a : Addr) (T : Tng) : Prop := ∃ dx am at_ af, H a = some (.ins cT dx (fT am at_ af)) ∧ H am = some (.tup (T.marks.map V.str)) ∧ H at_ = some (.tup (T.ties.map V.str)) ∧ H af = some (.tup [])
theorem TongueAt.mono {cT : Addr} {H H' : Hp} {a : Addr} {T : Tng} (e : Same H H') (h : TongueAt cT H a T) : TongueAt cT H' a T := by
  obtain ⟨dx, am, at_, af, h1, h2, h3, h4⟩ := h
  exact ⟨dx, am, at_, af, e _ _ h1, e _ _ h2, e _ _ h3, e _ _ h4⟩
structure ClT (K : PySem.W.Frag) (cT : Addr) : Prop where
  cl : Cls K cT
  nm : NoAttr K cT "kept_marks"
  nt : NoAttr K cT "kept_ties"
  nf : NoAttr K cT "functions"
/-! ## Properties -/
def Prp (K : PySem.W.Frag) (C : Addr) (f qual : Str) (st : Stmt) : Prop := ∃ p g fd, PropOf K C f p g ∧ FunD K f qual (defArgs st) (defBody st) (defScope st) [] [] g fd
def PropOk (P : Program) (w : World) (K : PySem.W.Frag) (mg : Str → Option Value) (base : Heap) (C : Addr) (k : Nat) (f : Str) (sp : Sp) : Prop :=
  ∃ p g fd, PropOf K C f p g ∧ Binds K fd ["self"] [] ∧ FnOk P w K mg base CX0 k g fd ["self"] sp
theorem propOk {P : Program} {w : World} {K : PySem.W.Frag} {mg : Str → Option Value} {base : Heap} {C : Addr} {k : Nat} {f qual : Str} {st : Stmt} {N : List Str} {sp : Sp} (D : Prp K C f qual st) (S : FnScope N ["self"] (defScope st)) (bd : BindEq f qual st ["self"])
    (len : ∀ vs H Q E, sp vs H Q E → vs.length = 1) (hb : BodyOk P w K mg base N qual st k sp) : PropOk P w K mg base C (k + 1) f sp := by
  obtain ⟨p, g, fd, a, F⟩ := D
  refine ⟨p, g, fd, a, F.bindsN bd, F.ok S len fun cdv A outer s H vs Q E hr h => ?_⟩
  obtain ⟨t, h1, h2⟩ := hb g cdv A outer s H vs Q E hr h
  exact ⟨t, h1.nox, h2⟩
theorem pe_pr {X : Cx} {C : Addr} {k : Nat} {f : Str} {sp : Sp} {e : Expr} {ta : TE} {pos : Pos} (c : PropOk X.prog X.w X.K X.mg X.base C k f sp) (hc : Cls X.K C) (hr : Room (k + 1) X.A) (he : PE X e ta)
    (hab : attributeBase e f X.env (eval e X.env) = eval e X.env := by rfl) : PE X (.Attribute e f pos) (tProp C sp [] E0 ta) := by
  obtain ⟨p, g, fd, a, b, F⟩ := c
  exact pe_prop he hc a F hr b .nil pass0 hab
section
variable {P : Program} {w : World} {K : PySem.W.Frag} {mg : Str → Option Value} {base : Heap} {cT : Addr}
theorem ok_Tmarks (D : Prp K cT "marks" "Tongue.marks" s_Tongue_marks) (T : ClT K cT) : PropOk P w K mg base cT 1 "marks" (getSp cT "kept_marks") := by
  refine propOk D sc_Tongue_marks bd_Tongue_marks (fun vs H Q E h => ?_) (fun f cdv A outer s H vs Q E hr h => ?_)
  · obtain ⟨a, dx, fs, v, rfl, _⟩ := h
    rfl
  obtain ⟨a, dx, fs, v, rfl, ha, hl, q⟩ := h
  refine ⟨_, pss_one (ps_ret (pe_fld (pv 0) rfl)), ?_⟩
  exact ⟨_, rfl, _, _, _, _, _, rfl, ha, T.cl, T.nm, hl, q⟩
theorem ok_Tties (D : Prp K cT "ties" "Tongue.ties" s_Tongue_ties) (T : ClT K cT) : PropOk P w K mg base cT 1 "ties" (getSp cT "kept_ties") := by
  refine propOk D sc_Tongue_ties bd_Tongue_ties (fun vs H Q E h => ?_) (fun f cdv A outer s H vs Q E hr h => ?_)
  · obtain ⟨a, dx, fs, v, rfl, _⟩ := h
    rfl
  obtain ⟨a, dx, fs, v, rfl, ha, hl, q⟩ := h
  refine ⟨_, pss_one (ps_ret (pe_fld (pv 0) rfl)), ?_⟩
  exact ⟨_, rfl, _, _, _, _, _, rfl, ha, T.cl, T.nt, hl, q⟩
/-! ## Values -/
def spIsSequence : Sp := fun vs H Q _ => ∃ (a : Addr) (n : String), vs = [.ref a] ∧ TyN H (.ref a) n ∧ (n = "list" ∨ n = "tuple") ∧ ∀ H', Same H H' → Q (.bl true) H'
theorem TyN.mono {H H' : Hp} {v : V} {n : String} (e : Same H H') (h : TyN H v n) : TyN H' v n := by
  cases h with
  | int i => exact .int i
  | bl b => exact .bl b
  | str z => exact .str z
  | lst h => exact .lst (e _ _ h)
  | tup h => exact .tup (e _ _ h)
  | dK h => exact .dK (e _ _ h)
theorem ok_is_sequence (B : Blt mg) (D : Def K mg "is_sequence" s_is_sequence) : CallOk P w K mg base 1 "is_sequence" P_is_sequence spIsSequence := by
  refine callOk D sc_is_sequence bd_is_sequence (fun vs H Q E h => ?_) (fun f cdv A outer s H vs Q E hr h => ?_)
  · obtain ⟨a, n, rfl, _⟩ := h
    rfl
  obtain ⟨a, n, rfl, ty, hn, q⟩ := h
  refine ⟨_, pss_one (ps_ret (pe_callB call_isiT (by rfl) B.isinstance bo_isinstance (pa_cons (pv 0) (pa_cons (pe_tup (pa_cons (pe_bltn (v := .ty "list") (by rfl) B.list bo_list rfl) (pa_cons (pe_bltn (v := .ty "tuple") (by rfl) B.tuple bo_tuple rfl) pa_nil))) pa_nil)))), ?_⟩
  walk_at "rd"
  refine ⟨by decide, fun p hp => ?_⟩
  have sm : Same H (upd H p (.tup [.ty "list", .ty "tuple"])) := Same.new (Same.refl H) hp
  refine ⟨_, _, _, _, _, true, rfl, upd_same, .cons (.ty _) (.cons (.ty _) .nil), (ty.mono sm).x, ?_, q _ sm⟩
  rcases hn with rfl | rfl
  · exact kitAny_cons (b := true) (kit_ty (by decide +kernel)) (fun h => by cases h) (fun _ => rfl)
  · exact kitAny_cons (b := false) (kit_ty (by decide +kernel)) (fun _ => kitAny_cons (b := true) (kit_ty (by decide +kernel)) (fun h => by cases h) (fun _ => rfl)) (fun h => by cases h)
def spIsTuple : Sp := fun vs H Q _ => ∃ (a : Addr) (xs : List V) (n : Int), vs = [.ref a, .int n] ∧ H a = some (.tup xs) ∧ Q (.bl (decide ((xs.length : Int) = n))) H
theorem dec_V_int (i j : Int) : decide (V.int i = V.int j) = decide (i = j) := by
  by_cases h : i = j
  · rw [h, decide_eq_true rfl, decide_eq_true rfl]
  · rw [decide_eq_false h, decide_eq_false fun e => h (V.int.inj e)]
theorem dec_V_str (i j : Str) : decide (V.str i = V.str j) = decide (i = j) := by
  by_cases h : i = j
  · rw [h, decide_eq_true rfl, decide_eq_true rfl]
  · rw [decide_eq_false h, decide_eq_false fun e => h (V.str.inj e)]
theorem dec_V_bl (i j : Bool) : decide (V.bl i = V.bl j) = decide (i = j) := by
  by_cases h : i = j
  · rw [h, decide_eq_true rfl, decide_eq_true rfl]
  · rw [decide_eq_false h, decide_eq_false fun e => h (V.bl.inj e)]
theorem ok_is_tuple (B : Blt mg) (D : Def K mg "is_tuple" s_is_tuple) : CallOk P w K mg base 1 "is_tuple" P_is_tuple spIsTuple := by
  refine callOk D sc_is_tuple bd_is_tuple (fun vs H Q E h => ?_) (fun f cdv A outer s H vs Q E hr h => ?_)
  · obtain ⟨a, xs, n, rfl, _⟩ := h
    rfl
  obtain ⟨a, xs, n, rfl, ha, q⟩ := h
  refine ⟨_, pss_one (ps_ret (pe_and (pe_callB call_isi (by rfl) B.isinstance bo_isinstance (pa_cons (pv 0) (pa_cons (pe_bltn (v := .ty "tuple") (by rfl) B.tuple bo_tuple rfl) pa_nil))) (pe_one (pe_cmpR op_eq (pe_callB call_len_seq (by rfl) B.len bo_len (pa_cons (pv 0) pa_nil)) (pv 1) (nomark _))))), ?_⟩
  walk_at "rd"
  walk_at "isT"
  walk_at "rd"
  refine ⟨_, _, rfl, .inr (SqT.of ha), ?_⟩
  walk_at "rd"
  rw [dec_V_int]
  exact q
def spIsHeaded : Sp := fun vs H Q _ => ∃ (a : Addr) (z u : Str) (xs : List V) (n : Int), vs = [.ref a, .str u, .int n] ∧ H a = some (.tup (.str z :: xs)) ∧ Q (.bl (decide ((xs.length : Int) + 1 = n) && decide (z = u))) H
theorem ok_is_headed (B : Blt mg) (D : Def K mg "is_headed" s_is_headed) (c_is_tuple : CallOk P w K mg base 1 "is_tuple" P_is_tuple spIsTuple) : CallOk P w K mg base 2 "is_headed" P_is_headed spIsHeaded := by
  refine callOk D sc_is_headed bd_is_headed (fun vs H Q E h => ?_) (fun f cdv A outer s H vs Q E hr h => ?_)
  · obtain ⟨a, z, u, xs, n, rfl, _⟩ := h
    rfl
  obtain ⟨a, z, u, xs, n, rfl, ha, q⟩ := h
  refine ⟨_, pss_one (ps_ret (pe_and (pe_cl c_is_tuple hr (by rfl) (pa_cons (pv 0) (pa_cons (pv 2) pa_nil))) (pe_and (pe_callB call_isi (by rfl) B.isinstance bo_isinstance (pa_cons (pe_ix ix_tup (pv 0) (pe_int) (fun _ _ => rfl)) (pa_cons (pe_bltn (v := .ty "str") (by rfl) B.str bo_str rfl) pa_nil))) (pe_one (pe_cmpR op_eq (pe_ix ix_tup (pv 0) (pe_int) (fun _ _ => rfl)) (pv 1) (nomark _)))))), ?_⟩
  walk_at "rd"
  refine ⟨_, _, _, rfl, ha, ?_⟩
  walk_at "rd"
  refine iteS (fun h => ?_) (fun h => ?_)
  · walk_at "rd"
    refine ⟨_, _, _, _, rfl, rfl, SqT.of ha, atI_nat (j := 0) rfl, ?_⟩
    walk_at "rd"
    walk_at "isT"
    walk_at "rd"
    refine ⟨_, _, _, _, rfl, rfl, SqT.of ha, atI_nat (j := 0) rfl, ?_⟩
    walk_at "rd"
    rw [dec_V_str]
    rw [show decide ((xs.length : Int) + 1 = n) = true from h, Bool.true_and] at q
    exact q
  · rw [show decide ((xs.length : Int) + 1 = n) = false from h, Bool.false_and] at q
    exact q
def spIsKey (K : PySem.W.Frag) : Sp := fun vs H Q _ => ∃ (a : Addr) (z : Str) (xs : List Str), vs = [.str z, .ref a] ∧ SqT K H a (xs.map V.str) ∧ Q (.bl (decide (z ∈ xs))) H
theorem inV_strs (z : Str) : ∀ xs : List Str, inV (.str z) (xs.map V.str) = decide (z ∈ xs)
  | [] => rfl
  | x :: xs => by
    show (eqV (.str x) (.str z) || inV (.str z) (xs.map V.str)) = _
    rw [inV_strs z xs]
    by_cases h : x = z
    · subst h
      have : eqV (.str x) (.str x) = true := by simp [eqV]
      simp [this]
    · have : eqV (.str x) (.str z) = false := by simp [eqV, h]
      rw [this]
      have h' : ¬ z = x := fun e => h e.symm
      simp [h']
theorem flat_strs : ∀ xs : List Str, (xs.map V.str).all flatV = true
  | [] => rfl
  | _ :: xs => flat_strs xs
theorem ok_is_key (B : Blt mg) (D : Def K mg "is_key" s_is_key) : CallOk P w K mg base 1 "is_key" P_is_key (spIsKey K) := by
  refine callOk D sc_is_key bd_is_key (fun vs H Q E h => ?_) (fun f cdv A outer s H vs Q E hr h => ?_)
  · obtain ⟨a, z, xs, rfl, _⟩ := h
    rfl
  obtain ⟨a, z, xs, rfl, ha, q⟩ := h
  refine ⟨_, pss_one (ps_ret (pe_and (pe_callB call_isi (by rfl) B.isinstance bo_isinstance (pa_cons (pv 0) (pa_cons (pe_bltn (v := .ty "str") (by rfl) B.str bo_str rfl) pa_nil))) (pe_one (pe_cmpR op_in_seq (pv 0) (pv 1) (by rfl))))), ?_⟩
  walk_at "rd"
  walk_at "isT"
  walk_at "rd"
  refine ⟨_, _, rfl, .inr ha, rfl, flat_strs xs, ?_⟩
  rw [inV_strs]
  exact q
end
end K48
namespace K48
open PySem PySem.Spec PyProof.Rows L2
local macro_rules | `(tactic| walk_at "rd") => `(tactic| repeat (first | refine ⟨_, rfl, ?_⟩ | refine ⟨_, _, rfl, rfl, ?_⟩ | refine ⟨rfl, ?_⟩ | refine iteTk (by decide +kernel) ?_ | refine iteFk (by decide +kernel) ?_))
local macro_rules | `(tactic| walk_at "rdr") => `(tactic| repeat (first | refine ⟨_, rfl, ?_⟩ | refine ⟨_, _, rfl, rfl, ?_⟩ | refine ⟨rfl, ?_⟩ | refine iteTk (by first | decide +kernel | rfl) ?_ | refine iteFk (by first | decide +kernel | rfl) ?_))
local macro_rules | `(tactic| walk_at "tyn") => `(tactic| first | exact .int _ | exact .bl _ | exact .str _ | exact .tup (by assumption) | exact .lst (by assumption) | exact .dK (by assumption))
local macro_rules | `(tactic| walk_at "isT") => `(tactic| refine ⟨_, _, _, _, true, rfl, .ty _, TyN.x (by walk_at "tyn"), kit_ty (by decide +kernel), ?_⟩)
local macro_rules | `(tactic| walk_at "isF") => `(tactic| refine ⟨_, _, _, _, false, rfl, .ty _, TyN.x (by walk_at "tyn"), kit_ty (by decide +kernel), ?_⟩)
local macro_rules | `(tactic| walk_at "nz") => `(tactic| first | refine nzG (by simp only [List.set_cons_succ, List.set_cons_zero]; rfl) ?_ | refine reS (by simp only [List.set_cons_succ, List.set_cons_zero]; rfl) ?_)
/-- over the signs of a text -/
theorem for_str {x : Str} {g : TG} {tb : TS} {D : Ends} {σ : L2.St} {H : Hp} (Pv : Nat → L2.St → Hp → Prop) (h0 : Pv 0 σ H)
    (hs : ∀ i c σ H, x.cps[i]? = some c → Pv i σ H → g (.str ⟨#[c]⟩) σ H fun σ2 H2 => tb { D with nx := Pv (i + 1), ct := Pv (i + 1), bk := D.nx } σ2 H2) (hd : ∀ σ H, Pv x.cps.size σ H → D.nx σ H) :
    ∃ W : Nat → Nat → L2.St → Hp → Prop, (∃ m, W 0 m σ H) ∧ ∀ i m σ H, W i m σ H →
      ((Its x).stop i H ∧ D.nx σ H) ∨ ((Its x).go i H ∧ ∃ N : L2.St → Hp → Prop, (∀ σ' H', N σ' H' → ∃ m', m' < m ∧ W (i + 1) m' σ' H') ∧ ∀ v H', (Its x).yld i H v H' → g v σ H' fun σ2 H2 => tb { D with nx := N, ct := N, bk := D.nx } σ2 H2) := by
  refine ⟨fun i m σ H => m = x.cps.size - i ∧ i ≤ x.cps.size ∧ Pv i σ H, ⟨x.cps.size, by simp, Nat.zero_le _, h0⟩, ?_⟩
  rintro i m σ H ⟨rfl, hi, p⟩
  by_cases hlt : i < x.cps.size
  · refine .inr ⟨hlt, Pv (i + 1), fun σ' H' p' => ⟨x.cps.size - (i + 1), by omega, rfl, hlt, p'⟩, fun v H' y => ?_⟩
    obtain ⟨e, c, hc, ev⟩ := y
    subst e ev
    exact hs i c σ _ hc p
  · have e : i = x.cps.size := by omega
    subst e
    exact .inl ⟨Nat.le_refl _, hd σ H p⟩
section
variable {P : Program} {w : World} {K : PySem.W.Frag} {mg : Str → Option Value} {base : Heap} {cT : Addr}
/-- a string of one to six letters -/
def GoodName (z : Str) : Prop := 1 ≤ z.length ∧ z.length ≤ 6 ∧ ∀ c ∈ z.cps.toList, 97 ≤ c ∧ c ≤ 122
def spIsWord : Sp := fun vs H Q _ => ∃ z : Str, vs = [.str z] ∧ GoodName z ∧ Q (.bl true) H
theorem letter_in : ∀ c : Nat, 97 ≤ c → c ≤ 122 → c ∈ (("abcdefghijklmnopqrstuvwxyz" : Str).cps.toList) := by
  intro c h1 h2
  have : ∀ k : Fin 26, 97 + k.val ∈ (("abcdefghijklmnopqrstuvwxyz" : Str).cps.toList) := by decide +kernel
  have e := this ⟨c - 97, by omega⟩
  rw [show 97 + (c - 97) = c by omega] at e
  exact e
theorem ok_is_word (B : Blt mg) (C : Cst K mg) (D : Def K mg "is_word" s_is_word) : CallOk P w K mg base 1 "is_word" P_is_word spIsWord := by
  refine callOk D sc_is_word bd_is_word (fun vs H Q E h => ?_) (fun f cdv A outer s H vs Q E hr h => ?_)
  · obtain ⟨z, rfl, _⟩ := h
    rfl
  obtain ⟨z, rfl, ⟨h1, h2, h3⟩, q⟩ := h
  refine ⟨_, pss_cons (ps_if (PW.pt (pw_or (pt_not (pt_val (pe_callB call_isi (by rfl) B.isinstance bo_isinstance (pa_cons (pv 0) (pa_cons (pe_bltn (v := .ty "str") (by rfl) B.str bo_str rfl) pa_nil))))) (pw_or1 (pt_not (pt_chain op_le op_le (pe_int) (pe_callB call_len_str (by rfl) B.len bo_len (pa_cons (pv 0) pa_nil)) (pe_intG C.MOST_LETTERS (by rfl))))))) (pss_one (ps_ret (pe_bl))) (pss_nil)) (pss_cons (ps_for PassesOwn.never rfl (pi_str (pv 0)) (pg_name (i := 1) sc_is_word.nd rfl (.inl rfl)) (pss_one (ps_if (pt_cmpR op_notIn_sign (pv 1) (pe_strG C.LETTERS (by rfl)) (by rfl)) (pss_one (ps_ret (pe_bl))) (pss_nil)))) (pss_one (ps_ret (pe_bl)))), ?_⟩
  walk_at "rd"
  walk_at "isT"
  walk_at "rd"
  refine ⟨sz (by omega), ?_⟩
  walk_at "rd"
  rw [if_pos (decide_eq_true (by omega))]
  walk_at "rd"
  refine iteFk (by rw [decide_eq_true (by omega)]; rfl) ?_
  walk_at "rd"
  refine for_str (fun i σ H' => H' = H ∧ ∃ y, σ = [some (.str z), y]) ⟨rfl, _, rfl⟩ (fun i c σ H' hc hP => ?_) (fun σ H' hP => ?_)
  · obtain ⟨rfl, y, rfl⟩ := hP
    refine ⟨_, rfl, ?_⟩
    refine ⟨c, _, rfl, rfl, ?_⟩
    have hm : c ∈ z.cps.toList := by
      rw [← Array.getElem?_toList] at hc
      exact List.mem_of_getElem? hc
    refine ⟨_, rfl, iteFk ?_ ⟨rfl, _, rfl⟩⟩
    rw [decide_eq_true (letter_in c (h3 c hm).1 (h3 c hm).2)]
    rfl
  · obtain ⟨rfl, _⟩ := hP
    exact q
/-! ## names, tests, parts -/
def nms : List Str := ["x", "y"]
theorem Nm.mem (v : Nm) : decide (v.s ∈ nms) = true := by cases v <;> decide +kernel
def spIsName : Sp := fun vs H Q _ => ∃ v : Nm, vs = [.str v.s] ∧ Q (.bl true) H
theorem ok_is_name (C : Cst K mg) (D : Def K mg "is_name" s_is_name) (c_is_key : CallOk P w K mg base 1 "is_key" P_is_key (spIsKey K)) : CallOk P w K mg base 2 "is_name" P_is_name spIsName := by
  refine callOk D sc_is_name bd_is_name (fun vs H Q E h => ?_) (fun f cdv A outer s H vs Q E hr h => ?_)
  · obtain ⟨z, rfl, _⟩ := h
    rfl
  obtain ⟨v, rfl, q⟩ := h
  refine ⟨_, pss_one (ps_ret (pe_cl c_is_key hr (by rfl) (pa_cons (pv 0) (pa_cons (pe_tupG C.NAMES (by rfl)) pa_nil)))), ?_⟩
  walk_at "rd"
  intro a ha
  refine ⟨a, _, nms, rfl, ha, ?_⟩
  rw [v.mem]
  exact q
def Say.atom (s : Say) : Bool := s.kids.isEmpty
def spIsTest (cT : Addr) : Sp := fun vs H Q _ => ∃ (t a : Addr) (T : Tng) (s : Say), vs = [.ref t, .ref a] ∧ TongueAt cT H t T ∧ SayAt H s a ∧ s.okT T.marks T.ties ∧ Q (.bl s.atom) H
theorem ok_is_test (C : Cst K mg) (T0 : ClT K cT) (D : Def K mg "is_test" s_is_test) (c_is_key : CallOk P w K mg base 1 "is_key" P_is_key (spIsKey K)) (c_is_name : CallOk P w K mg base 2 "is_name" P_is_name spIsName)
    (c_is_headed : CallOk P w K mg base 2 "is_headed" P_is_headed spIsHeaded) (c_marks : PropOk P w K mg base cT 1 "marks" (getSp cT "kept_marks")) (c_ties : PropOk P w K mg base cT 1 "ties" (getSp cT "kept_ties")) :
    CallOk P w K mg base 3 "is_test" P_is_test (spIsTest cT) := by
  refine callOk D sc_is_test bd_is_test (fun vs H Q E h => ?_) (fun f cdv A outer s H vs Q E hr h => ?_)
  · obtain ⟨t, a, T, s, rfl, _⟩ := h
    rfl
  obtain ⟨t, a, T, s, rfl, hT, hS, ok, q⟩ := h
  have hr1 : Room 1 _ := hr.mono (by decide)
  refine ⟨_, pss_cons (ps_if (pt_val (pe_cl c_is_headed hr (by rfl) (pa_cons (pv 1) (pa_cons (pe_str) (pa_cons (pe_int) pa_nil))))) (pss_one (ps_ret (pe_bl))) (pss_nil)) (pss_cons (ps_if (pt_val (pe_cl c_is_headed hr (by rfl) (pa_cons (pv 1) (pa_cons (pe_str) (pa_cons (pe_int) pa_nil))))) (pss_one (ps_ret (pe_and (pe_cl c_is_key hr1 (by rfl) (pa_cons (pe_ix ix_tup (pv 1) (pe_int) (fun _ _ => rfl)) (pa_cons (pe_pr c_marks T0.cl hr (pv 0)) pa_nil))) (pe_one (pe_cl c_is_name hr (by rfl) (pa_cons (pe_ix ix_tup (pv 1) (pe_int) (fun _ _ => rfl)) pa_nil)))))) (pss_nil)) (pss_cons (ps_if (pt_val (pe_cl c_is_headed hr (by rfl) (pa_cons (pv 1) (pa_cons (pe_str) (pa_cons (pe_int) pa_nil))))) (pss_one (ps_ret (pe_and (pe_cl c_is_key hr1 (by rfl) (pa_cons (pe_ix ix_tup (pv 1) (pe_int) (fun _ _ => rfl)) (pa_cons (pe_pr c_ties T0.cl hr (pv 0)) pa_nil))) (pe_and (pe_cl c_is_name hr (by rfl) (pa_cons (pe_ix ix_tup (pv 1) (pe_int) (fun _ _ => rfl)) pa_nil)) (pe_one (pe_cl c_is_name hr (by rfl) (pa_cons (pe_ix ix_tup (pv 1) (pe_int) (fun _ _ => rfl)) pa_nil))))))) (pss_nil)) (pss_one (ps_ret (pe_and (pe_cl c_is_headed hr (by rfl) (pa_cons (pv 1) (pa_cons (pe_str) (pa_cons (pe_int) pa_nil)))) (pe_and (pe_cl c_is_name hr (by rfl) (pa_cons (pe_ix ix_tup (pv 1) (pe_int) (fun _ _ => rfl)) pa_nil)) (pe_one (pe_cl c_is_name hr (by rfl) (pa_cons (pe_ix ix_tup (pv 1) (pe_int) (fun _ _ => rfl)) pa_nil))))))))), ?_⟩
  obtain ⟨dx, am, at_, af, hI, hM, hTi, hF⟩ := hT
  cases s with
  | tru =>
    have hS : H a = some (.tup [.str "true"]) := hS
    walk_at "rd"
    refine ⟨_, _, _, _, _, rfl, hS, ?_⟩
    walk_at "rd"
    exact q
  | mark m v =>
    have hS : H a = some (.tup [.str "mark", .str m, .str v.s]) := hS
    walk_at "rd"
    refine ⟨_, _, _, _, _, rfl, hS, ?_⟩
    walk_at "rd"
    refine ⟨_, _, _, _, _, rfl, hS, ?_⟩
    walk_at "rd"
    refine ⟨_, _, _, _, rfl, rfl, SqT.of hS, atI_nat (j := 1) rfl, ?_⟩
    walk_at "rd"
    refine ⟨_, _, _, rfl, hI, _, _, _, _, rfl, hI, fT_m _ _ _, ?_⟩
    refine ⟨_, _, T.marks, rfl, SqT.of hM, ?_⟩
    walk_at "rd"
    rw [decide_eq_true (show m ∈ T.marks from ok)]
    walk_at "rd"
    refine ⟨_, _, _, _, rfl, rfl, SqT.of hS, atI_nat (j := 2) rfl, ?_⟩
    exact ⟨v, rfl, q⟩
  | tie m v u =>
    have hS : H a = some (.tup [.str "tie", .str m, .str v.s, .str u.s]) := hS
    walk_at "rd"
    refine ⟨_, _, _, _, _, rfl, hS, ?_⟩
    walk_at "rd"
    refine ⟨_, _, _, _, _, rfl, hS, ?_⟩
    walk_at "rd"
    refine ⟨_, _, _, _, _, rfl, hS, ?_⟩
    walk_at "rd"
    refine ⟨_, _, _, _, rfl, rfl, SqT.of hS, atI_nat (j := 1) rfl, ?_⟩
    walk_at "rd"
    refine ⟨_, _, _, rfl, hI, _, _, _, _, rfl, hI, fT_t _ _ _, ?_⟩
    refine ⟨_, _, T.ties, rfl, SqT.of hTi, ?_⟩
    rw [decide_eq_true (show m ∈ T.ties from ok)]
    walk_at "rd"
    refine ⟨_, _, _, _, rfl, rfl, SqT.of hS, atI_nat (j := 2) rfl, ?_⟩
    refine ⟨v, rfl, ?_⟩
    walk_at "rd"
    refine ⟨_, _, _, _, rfl, rfl, SqT.of hS, atI_nat (j := 3) rfl, ?_⟩
    exact ⟨u, rfl, q⟩
  | same v u =>
    have hS : H a = some (.tup [.str "same", .str v.s, .str u.s]) := hS
    walk_at "rd"
    refine ⟨_, _, _, _, _, rfl, hS, ?_⟩
    walk_at "rd"
    refine ⟨_, _, _, _, _, rfl, hS, ?_⟩
    walk_at "rd"
    refine ⟨_, _, _, _, _, rfl, hS, ?_⟩
    walk_at "rd"
    refine ⟨_, _, _, _, _, rfl, hS, ?_⟩
    walk_at "rd"
    refine ⟨_, _, _, _, rfl, rfl, SqT.of hS, atI_nat (j := 1) rfl, ?_⟩
    refine ⟨v, rfl, ?_⟩
    walk_at "rd"
    refine ⟨_, _, _, _, rfl, rfl, SqT.of hS, atI_nat (j := 2) rfl, ?_⟩
    exact ⟨u, rfl, q⟩
  | not s =>
    obtain ⟨b, hS, _⟩ := hS
    walk_at "rd"
    refine ⟨_, _, _, _, _, rfl, hS, ?_⟩
    walk_at "rd"
    refine ⟨_, _, _, _, _, rfl, hS, ?_⟩
    walk_at "rd"
    refine ⟨_, _, _, _, _, rfl, hS, ?_⟩
    walk_at "rd"
    refine ⟨_, _, _, _, _, rfl, hS, ?_⟩
    walk_at "rd"
    exact q
  | and s t =>
    obtain ⟨b, c, hS, _⟩ := hS
    walk_at "rd"
    refine ⟨_, _, _, _, _, rfl, hS, ?_⟩
    walk_at "rd"
    refine ⟨_, _, _, _, _, rfl, hS, ?_⟩
    walk_at "rd"
    refine ⟨_, _, _, _, _, rfl, hS, ?_⟩
    walk_at "rd"
    refine ⟨_, _, _, _, _, rfl, hS, ?_⟩
    walk_at "rd"
    exact q
  | or s t =>
    obtain ⟨b, c, hS, _⟩ := hS
    walk_at "rd"
    refine ⟨_, _, _, _, _, rfl, hS, ?_⟩
    walk_at "rd"
    refine ⟨_, _, _, _, _, rfl, hS, ?_⟩
    walk_at "rd"
    refine ⟨_, _, _, _, _, rfl, hS, ?_⟩
    walk_at "rd"
    refine ⟨_, _, _, _, _, rfl, hS, ?_⟩
    walk_at "rd"
    exact q
  | each v s =>
    obtain ⟨b, hS, _⟩ := hS
    walk_at "rd"
    refine ⟨_, _, _, _, _, rfl, hS, ?_⟩
    walk_at "rd"
    refine ⟨_, _, _, _, _, rfl, hS, ?_⟩
    walk_at "rd"
    refine ⟨_, _, _, _, _, rfl, hS, ?_⟩
    walk_at "rd"
    refine ⟨_, _, _, _, _, rfl, hS, ?_⟩
    walk_at "rd"
    exact q
  | som v s =>
    obtain ⟨b, hS, _⟩ := hS
    walk_at "rd"
    refine ⟨_, _, _, _, _, rfl, hS, ?_⟩
    walk_at "rd"
    refine ⟨_, _, _, _, _, rfl, hS, ?_⟩
    walk_at "rd"
    refine ⟨_, _, _, _, _, rfl, hS, ?_⟩
    walk_at "rd"
    refine ⟨_, _, _, _, _, rfl, hS, ?_⟩
    walk_at "rd"
    exact q
end
end K48
namespace K48
open PySem PySem.Spec PyProof.Rows L2
local macro_rules | `(tactic| walk_at "rd") => `(tactic| repeat (first | refine ⟨_, rfl, ?_⟩ | refine ⟨_, _, rfl, rfl, ?_⟩ | refine ⟨rfl, ?_⟩ | refine iteTk (by decide +kernel) ?_ | refine iteFk (by decide +kernel) ?_))
local macro_rules | `(tactic| walk_at "rdr") => `(tactic| repeat (first | refine ⟨_, rfl, ?_⟩ | refine ⟨_, _, rfl, rfl, ?_⟩ | refine ⟨rfl, ?_⟩ | refine iteTk (by first | decide +kernel | rfl) ?_ | refine iteFk (by first | decide +kernel | rfl) ?_))
local macro_rules | `(tactic| walk_at "tyn") => `(tactic| first | exact .int _ | exact .bl _ | exact .str _ | exact .tup (by assumption) | exact .lst (by assumption) | exact .dK (by assumption))
local macro_rules | `(tactic| walk_at "isT") => `(tactic| refine ⟨_, _, _, _, true, rfl, .ty _, TyN.x (by walk_at "tyn"), kit_ty (by decide +kernel), ?_⟩)
local macro_rules | `(tactic| walk_at "isF") => `(tactic| refine ⟨_, _, _, _, false, rfl, .ty _, TyN.x (by walk_at "tyn"), kit_ty (by decide +kernel), ?_⟩)
local macro_rules | `(tactic| walk_at "nz") => `(tactic| first | refine nzG (by simp only [List.set_cons_succ, List.set_cons_zero]; rfl) ?_ | refine reS (by simp only [List.set_cons_succ, List.set_cons_zero]; rfl) ?_)
section
variable {P : Program} {w : World} {K : PySem.W.Frag} {mg : Str → Option Value} {base : Heap} {cT : Addr}
/-- the sayings in a saying stand at these -/
def KidsAt (H : Hp) (s : Say) (as : List Addr) : Prop := Paired (fun k b => SayAt H k b) s.kids as
theorem KidsAt.mono {H H' : Hp} {s : Say} {as : List Addr} (e : Same H H') (h : KidsAt H s as) : KidsAt H' s as := Paired.mapP h fun _ _ q => q.mono e
def spPartsOf (cT : Addr) : Sp := fun vs H Q _ => ∃ (G : Hp) (t a : Addr) (T : Tng) (s : Say), vs = [.ref t, .ref a] ∧ Same G H ∧ TongueAt cT G t T ∧ SayAt G s a ∧ s.okT T.marks T.ties ∧
  ∀ p as H', Same H H' → H p = none → H' p = some (.lst (as.map V.ref)) → KidsAt G s as → Q (.ref p) H'
theorem ok_parts_of (B : Blt mg) (C : Cst K mg) (D : Def K mg "parts_of" s_parts_of) (c_is_test : CallOk P w K mg base 3 "is_test" P_is_test (spIsTest cT)) (c_is_name : CallOk P w K mg base 2 "is_name" P_is_name spIsName)
    (c_is_headed : CallOk P w K mg base 2 "is_headed" P_is_headed spIsHeaded) (c_is_tuple : CallOk P w K mg base 1 "is_tuple" P_is_tuple spIsTuple) : CallOk P w K mg base 4 "parts_of" P_parts_of (spPartsOf cT) := by
  refine callOk D sc_parts_of bd_parts_of (fun vs H Q E h => ?_) (fun f cdv A outer s H vs Q E hr h => ?_)
  · obtain ⟨G, t, a, T, s, rfl, _⟩ := h
    rfl
  obtain ⟨G, t, a, T, s, rfl, eG, hT, hS, ok, q⟩ := h
  have hr1 : Room 1 _ := hr.mono (by decide)
  have hr2 : Room 2 _ := hr.mono (by decide)
  refine ⟨_, pss_cons (ps_if (pt_val (pe_cl c_is_test hr (by rfl) (pa_cons (pv 0) (pa_cons (pv 1) pa_nil)))) (pss_one (ps_ret (pe_lst (pa_nil)))) (pss_nil)) (pss_cons (ps_if (pt_val (pe_cl c_is_headed hr2 (by rfl) (pa_cons (pv 1) (pa_cons (pe_str) (pa_cons (pe_int) pa_nil))))) (pss_one (ps_ret (pe_lst (pa_cons (pe_ix ix_tup (pv 1) (pe_int) (fun _ _ => rfl)) pa_nil)))) (pss_nil)) (pss_cons (ps_if (PW.pt (pw_or (pt_not (pt_val (pe_cl c_is_tuple hr1 (by rfl) (pa_cons (pv 1) (pa_cons (pe_int) pa_nil))))) (pw_or1 (pt_not (pt_val (pe_callB call_isi (by rfl) B.isinstance bo_isinstance (pa_cons (pe_ix ix_tup (pv 1) (pe_int) (fun _ _ => rfl)) (pa_cons (pe_bltn (v := .ty "str") (by rfl) B.str bo_str rfl) pa_nil)))))))) (pss_one (ps_ret (pe_non))) (pss_nil)) (pss_cons (ps_if (pt_cmpR op_in_seq (pe_ix ix_tup (pv 1) (pe_int) (fun _ _ => rfl)) (pe_tupG C.JOINING (by rfl)) (by rfl)) (pss_one (ps_ret (pe_lst (pa_cons (pe_ix ix_tup (pv 1) (pe_int) (fun _ _ => rfl)) (pa_cons (pe_ix ix_tup (pv 1) (pe_int) (fun _ _ => rfl)) pa_nil))))) (pss_nil)) (pss_cons (ps_if (PW.pt (pw_and (pt_cmpR op_in_seq (pe_ix ix_tup (pv 1) (pe_int) (fun _ _ => rfl)) (pe_tupG C.BINDING (by rfl)) (by rfl)) (pw_and1 (pt_val (pe_cl c_is_name hr2 (by rfl) (pa_cons (pe_ix ix_tup (pv 1) (pe_int) (fun _ _ => rfl)) pa_nil)))))) (pss_one (ps_ret (pe_lst (pa_cons (pe_ix ix_tup (pv 1) (pe_int) (fun _ _ => rfl)) pa_nil)))) (pss_nil)) (pss_one (ps_ret (pe_non))))))), ?_⟩
  walk_at "rd"
  refine ⟨t, a, T, s, rfl, hT.mono eG, hS.mono eG, ok, ?_⟩
  walk_at "rd"
  cases s with
  | tru =>
    walk_at "rd"
    refine ⟨sz (by simp), fun p hp => ?_⟩
    exact q p [] _ (Same.new (Same.refl H) hp) hp upd_same .nil
  | mark m v =>
    walk_at "rd"
    refine ⟨sz (by simp), fun p hp => ?_⟩
    exact q p [] _ (Same.new (Same.refl H) hp) hp upd_same .nil
  | tie m v u =>
    walk_at "rd"
    refine ⟨sz (by simp), fun p hp => ?_⟩
    exact q p [] _ (Same.new (Same.refl H) hp) hp upd_same .nil
  | same v u =>
    walk_at "rd"
    refine ⟨sz (by simp), fun p hp => ?_⟩
    exact q p [] _ (Same.new (Same.refl H) hp) hp upd_same .nil
  | not s =>
    obtain ⟨b, hS, h1⟩ := hS
    have hS := eG _ _ hS
    walk_at "rd"
    refine ⟨_, _, _, _, _, rfl, hS, ?_⟩
    walk_at "rd"
    refine ⟨_, _, _, _, rfl, rfl, SqT.of hS, atI_nat (j := 1) rfl, ?_⟩
    walk_at "rd"
    refine ⟨sz (by simp), fun p hp => ?_⟩
    have sm := Same.new (Same.refl H) (p := p) (o := .lst [.ref b]) hp
    exact q p [b] _ sm hp upd_same (.cons h1 .nil)
  | and s t =>
    obtain ⟨b, c, hS, h1, h2⟩ := hS
    have hS := eG _ _ hS
    walk_at "rd"
    refine ⟨_, _, _, _, _, rfl, hS, ?_⟩
    walk_at "rd"
    refine ⟨_, _, _, rfl, hS, ?_⟩
    walk_at "rd"
    refine ⟨_, _, _, _, rfl, rfl, SqT.of hS, atI_nat (j := 0) rfl, ?_⟩
    walk_at "rd"
    walk_at "isT"
    walk_at "rd"
    refine ⟨_, _, _, _, rfl, rfl, SqT.of hS, atI_nat (j := 0) rfl, ?_⟩
    walk_at "rd"
    intro g hg
    refine ⟨g, _, rfl, .inr hg, rfl, rfl, ?_⟩
    walk_at "rd"
    refine ⟨_, _, _, _, rfl, rfl, SqT.of hS, atI_nat (j := 1) rfl, ?_⟩
    walk_at "rd"
    refine ⟨_, _, _, _, rfl, rfl, SqT.of hS, atI_nat (j := 2) rfl, ?_⟩
    walk_at "rd"
    refine ⟨sz (by simp), fun p hp => ?_⟩
    have sm := Same.new (Same.refl H) (p := p) (o := .lst [.ref b, .ref c]) hp
    exact q p [b, c] _ sm hp upd_same (.cons h1 (.cons h2 .nil))
  | or s t =>
    obtain ⟨b, c, hS, h1, h2⟩ := hS
    have hS := eG _ _ hS
    walk_at "rd"
    refine ⟨_, _, _, _, _, rfl, hS, ?_⟩
    walk_at "rd"
    refine ⟨_, _, _, rfl, hS, ?_⟩
    walk_at "rd"
    refine ⟨_, _, _, _, rfl, rfl, SqT.of hS, atI_nat (j := 0) rfl, ?_⟩
    walk_at "rd"
    walk_at "isT"
    walk_at "rd"
    refine ⟨_, _, _, _, rfl, rfl, SqT.of hS, atI_nat (j := 0) rfl, ?_⟩
    walk_at "rd"
    intro g hg
    refine ⟨g, _, rfl, .inr hg, rfl, rfl, ?_⟩
    walk_at "rd"
    refine ⟨_, _, _, _, rfl, rfl, SqT.of hS, atI_nat (j := 1) rfl, ?_⟩
    walk_at "rd"
    refine ⟨_, _, _, _, rfl, rfl, SqT.of hS, atI_nat (j := 2) rfl, ?_⟩
    walk_at "rd"
    refine ⟨sz (by simp), fun p hp => ?_⟩
    have sm := Same.new (Same.refl H) (p := p) (o := .lst [.ref b, .ref c]) hp
    exact q p [b, c] _ sm hp upd_same (.cons h1 (.cons h2 .nil))
  | each v s =>
    obtain ⟨b, hS, h1⟩ := hS
    have hS := eG _ _ hS
    walk_at "rd"
    refine ⟨_, _, _, _, _, rfl, hS, ?_⟩
    walk_at "rd"
    refine ⟨_, _, _, rfl, hS, ?_⟩
    walk_at "rd"
    refine ⟨_, _, _, _, rfl, rfl, SqT.of hS, atI_nat (j := 0) rfl, ?_⟩
    walk_at "rd"
    walk_at "isT"
    walk_at "rd"
    refine ⟨_, _, _, _, rfl, rfl, SqT.of hS, atI_nat (j := 0) rfl, ?_⟩
    walk_at "rd"
    intro g hg
    refine ⟨g, _, rfl, .inr hg, rfl, rfl, ?_⟩
    walk_at "rd"
    refine ⟨_, _, _, _, rfl, rfl, SqT.of hS, atI_nat (j := 0) rfl, ?_⟩
    walk_at "rd"
    intro g hg
    refine ⟨g, _, rfl, .inr hg, rfl, rfl, ?_⟩
    walk_at "rd"
    refine ⟨_, _, _, _, rfl, rfl, SqT.of hS, atI_nat (j := 1) rfl, ?_⟩
    refine ⟨v, rfl, ?_⟩
    walk_at "rd"
    refine ⟨_, _, _, _, rfl, rfl, SqT.of hS, atI_nat (j := 2) rfl, ?_⟩
    walk_at "rd"
    refine ⟨sz (by simp), fun p hp => ?_⟩
    have sm := Same.new (Same.refl H) (p := p) (o := .lst [.ref b]) hp
    exact q p [b] _ sm hp upd_same (.cons h1 .nil)
  | som v s =>
    obtain ⟨b, hS, h1⟩ := hS
    have hS := eG _ _ hS
    walk_at "rd"
    refine ⟨_, _, _, _, _, rfl, hS, ?_⟩
    walk_at "rd"
    refine ⟨_, _, _, rfl, hS, ?_⟩
    walk_at "rd"
    refine ⟨_, _, _, _, rfl, rfl, SqT.of hS, atI_nat (j := 0) rfl, ?_⟩
    walk_at "rd"
    walk_at "isT"
    walk_at "rd"
    refine ⟨_, _, _, _, rfl, rfl, SqT.of hS, atI_nat (j := 0) rfl, ?_⟩
    walk_at "rd"
    intro g hg
    refine ⟨g, _, rfl, .inr hg, rfl, rfl, ?_⟩
    walk_at "rd"
    refine ⟨_, _, _, _, rfl, rfl, SqT.of hS, atI_nat (j := 0) rfl, ?_⟩
    walk_at "rd"
    intro g hg
    refine ⟨g, _, rfl, .inr hg, rfl, rfl, ?_⟩
    walk_at "rd"
    refine ⟨_, _, _, _, rfl, rfl, SqT.of hS, atI_nat (j := 1) rfl, ?_⟩
    refine ⟨v, rfl, ?_⟩
    walk_at "rd"
    refine ⟨_, _, _, _, rfl, rfl, SqT.of hS, atI_nat (j := 2) rfl, ?_⟩
    walk_at "rd"
    refine ⟨sz (by simp), fun p hp => ?_⟩
    have sm := Same.new (Same.refl H) (p := p) (o := .lst [.ref b]) hp
    exact q p [b] _ sm hp upd_same (.cons h1 .nil)
def spSayingsIn : Sp := fun vs H Q _ => ∃ (G : Hp) (a : Addr) (s : Say), vs = [.ref a] ∧ Same G H ∧ SayAt G s a ∧
  ∀ p as H', Same H H' → H p = none → H' p = some (.tup (as.map V.ref)) → KidsAt G s as → Q (.ref p) H'
theorem ok_sayings_in (C : Cst K mg) (D : Def K mg "sayings_in" s_sayings_in) : CallOk P w K mg base 1 "sayings_in" P_sayings_in spSayingsIn := by
  refine callOk D sc_sayings_in bd_sayings_in (fun vs H Q E h => ?_) (fun f cdv A outer s H vs Q E hr h => ?_)
  · obtain ⟨G, a, s, rfl, _⟩ := h
    rfl
  obtain ⟨G, a, s, rfl, eG, hS, q⟩ := h
  refine ⟨_, pss_cons (ps_if (pt_cmpR op_eq (pe_ix ix_tup (pv 0) (pe_int) (fun _ _ => rfl)) (pe_str) (nomark _)) (pss_one (ps_ret (pe_tup (pa_cons (pe_ix ix_tup (pv 0) (pe_int) (fun _ _ => rfl)) pa_nil)))) (pss_nil)) (pss_cons (ps_if (pt_cmpR op_in_seq (pe_ix ix_tup (pv 0) (pe_int) (fun _ _ => rfl)) (pe_tupG C.JOINING (by rfl)) (by rfl)) (pss_one (ps_ret (pe_tup (pa_cons (pe_ix ix_tup (pv 0) (pe_int) (fun _ _ => rfl)) (pa_cons (pe_ix ix_tup (pv 0) (pe_int) (fun _ _ => rfl)) pa_nil))))) (pss_nil)) (pss_cons (ps_if (pt_cmpR op_in_seq (pe_ix ix_tup (pv 0) (pe_int) (fun _ _ => rfl)) (pe_tupG C.BINDING (by rfl)) (by rfl)) (pss_one (ps_ret (pe_tup (pa_cons (pe_ix ix_tup (pv 0) (pe_int) (fun _ _ => rfl)) pa_nil)))) (pss_nil)) (pss_one (ps_ret (pe_tup (pa_nil)))))), ?_⟩
  cases s with
  | tru =>
    have hS : H a = some (.tup [.str "true"]) := eG _ _ hS
    walk_at "rd"
    refine ⟨_, _, _, _, rfl, rfl, SqT.of hS, atI_nat (j := 0) rfl, ?_⟩
    walk_at "rd"
    refine ⟨_, _, _, _, rfl, rfl, SqT.of hS, atI_nat (j := 0) rfl, ?_⟩
    walk_at "rd"
    intro g hg
    refine ⟨g, _, rfl, .inr hg, rfl, rfl, ?_⟩
    walk_at "rd"
    refine ⟨_, _, _, _, rfl, rfl, SqT.of hS, atI_nat (j := 0) rfl, ?_⟩
    walk_at "rd"
    intro g hg
    refine ⟨g, _, rfl, .inr hg, rfl, rfl, ?_⟩
    walk_at "rd"
    refine ⟨sz (by simp), fun p hp => ?_⟩
    have sm := Same.new (Same.refl H) (p := p) (o := .tup []) hp
    exact q p [] _ sm hp upd_same .nil
  | mark m v =>
    have hS : H a = some (.tup [.str "mark", .str m, .str v.s]) := eG _ _ hS
    walk_at "rd"
    refine ⟨_, _, _, _, rfl, rfl, SqT.of hS, atI_nat (j := 0) rfl, ?_⟩
    walk_at "rd"
    refine ⟨_, _, _, _, rfl, rfl, SqT.of hS, atI_nat (j := 0) rfl, ?_⟩
    walk_at "rd"
    intro g hg
    refine ⟨g, _, rfl, .inr hg, rfl, rfl, ?_⟩
    walk_at "rd"
    refine ⟨_, _, _, _, rfl, rfl, SqT.of hS, atI_nat (j := 0) rfl, ?_⟩
    walk_at "rd"
    intro g hg
    refine ⟨g, _, rfl, .inr hg, rfl, rfl, ?_⟩
    walk_at "rd"
    refine ⟨sz (by simp), fun p hp => ?_⟩
    have sm := Same.new (Same.refl H) (p := p) (o := .tup []) hp
    exact q p [] _ sm hp upd_same .nil
  | tie m v u =>
    have hS : H a = some (.tup [.str "tie", .str m, .str v.s, .str u.s]) := eG _ _ hS
    walk_at "rd"
    refine ⟨_, _, _, _, rfl, rfl, SqT.of hS, atI_nat (j := 0) rfl, ?_⟩
    walk_at "rd"
    refine ⟨_, _, _, _, rfl, rfl, SqT.of hS, atI_nat (j := 0) rfl, ?_⟩
    walk_at "rd"
    intro g hg
    refine ⟨g, _, rfl, .inr hg, rfl, rfl, ?_⟩
    walk_at "rd"
    refine ⟨_, _, _, _, rfl, rfl, SqT.of hS, atI_nat (j := 0) rfl, ?_⟩
    walk_at "rd"
    intro g hg
    refine ⟨g, _, rfl, .inr hg, rfl, rfl, ?_⟩
    walk_at "rd"
    refine ⟨sz (by simp), fun p hp => ?_⟩
    have sm := Same.new (Same.refl H) (p := p) (o := .tup []) hp
    exact q p [] _ sm hp upd_same .nil
  | same v u =>
    have hS : H a = some (.tup [.str "same", .str v.s, .str u.s]) := eG _ _ hS
    walk_at "rd"
    refine ⟨_, _, _, _, rfl, rfl, SqT.of hS, atI_nat (j := 0) rfl, ?_⟩
    walk_at "rd"
    refine ⟨_, _, _, _, rfl, rfl, SqT.of hS, atI_nat (j := 0) rfl, ?_⟩
    walk_at "rd"
    intro g hg
    refine ⟨g, _, rfl, .inr hg, rfl, rfl, ?_⟩
    walk_at "rd"
    refine ⟨_, _, _, _, rfl, rfl, SqT.of hS, atI_nat (j := 0) rfl, ?_⟩
    walk_at "rd"
    intro g hg
    refine ⟨g, _, rfl, .inr hg, rfl, rfl, ?_⟩
    walk_at "rd"
    refine ⟨sz (by simp), fun p hp => ?_⟩
    have sm := Same.new (Same.refl H) (p := p) (o := .tup []) hp
    exact q p [] _ sm hp upd_same .nil
  | not s =>
    obtain ⟨b, hS, h1⟩ := hS
    have hS := eG _ _ hS
    walk_at "rd"
    refine ⟨_, _, _, _, rfl, rfl, SqT.of hS, atI_nat (j := 0) rfl, ?_⟩
    walk_at "rd"
    refine ⟨_, _, _, _, rfl, rfl, SqT.of hS, atI_nat (j := 1) rfl, ?_⟩
    walk_at "rd"
    refine ⟨sz (by simp), fun p hp => ?_⟩
    have sm := Same.new (Same.refl H) (p := p) (o := .tup [.ref b]) hp
    exact q p [b] _ sm hp upd_same (.cons h1 .nil)
  | and s t =>
    obtain ⟨b, c, hS, h1, h2⟩ := hS
    have hS := eG _ _ hS
    walk_at "rd"
    refine ⟨_, _, _, _, rfl, rfl, SqT.of hS, atI_nat (j := 0) rfl, ?_⟩
    walk_at "rd"
    refine ⟨_, _, _, _, rfl, rfl, SqT.of hS, atI_nat (j := 0) rfl, ?_⟩
    walk_at "rd"
    intro g hg
    refine ⟨g, _, rfl, .inr hg, rfl, rfl, ?_⟩
    walk_at "rd"
    refine ⟨_, _, _, _, rfl, rfl, SqT.of hS, atI_nat (j := 1) rfl, ?_⟩
    walk_at "rd"
    refine ⟨_, _, _, _, rfl, rfl, SqT.of hS, atI_nat (j := 2) rfl, ?_⟩
    walk_at "rd"
    refine ⟨sz (by simp), fun p hp => ?_⟩
    have sm := Same.new (Same.refl H) (p := p) (o := .tup [.ref b, .ref c]) hp
    exact q p [b, c] _ sm hp upd_same (.cons h1 (.cons h2 .nil))
  | or s t =>
    obtain ⟨b, c, hS, h1, h2⟩ := hS
    have hS := eG _ _ hS
    walk_at "rd"
    refine ⟨_, _, _, _, rfl, rfl, SqT.of hS, atI_nat (j := 0) rfl, ?_⟩
    walk_at "rd"
    refine ⟨_, _, _, _, rfl, rfl, SqT.of hS, atI_nat (j := 0) rfl, ?_⟩
    walk_at "rd"
    intro g hg
    refine ⟨g, _, rfl, .inr hg, rfl, rfl, ?_⟩
    walk_at "rd"
    refine ⟨_, _, _, _, rfl, rfl, SqT.of hS, atI_nat (j := 1) rfl, ?_⟩
    walk_at "rd"
    refine ⟨_, _, _, _, rfl, rfl, SqT.of hS, atI_nat (j := 2) rfl, ?_⟩
    walk_at "rd"
    refine ⟨sz (by simp), fun p hp => ?_⟩
    have sm := Same.new (Same.refl H) (p := p) (o := .tup [.ref b, .ref c]) hp
    exact q p [b, c] _ sm hp upd_same (.cons h1 (.cons h2 .nil))
  | each v s =>
    obtain ⟨b, hS, h1⟩ := hS
    have hS := eG _ _ hS
    walk_at "rd"
    refine ⟨_, _, _, _, rfl, rfl, SqT.of hS, atI_nat (j := 0) rfl, ?_⟩
    walk_at "rd"
    refine ⟨_, _, _, _, rfl, rfl, SqT.of hS, atI_nat (j := 0) rfl, ?_⟩
    walk_at "rd"
    intro g hg
    refine ⟨g, _, rfl, .inr hg, rfl, rfl, ?_⟩
    walk_at "rd"
    refine ⟨_, _, _, _, rfl, rfl, SqT.of hS, atI_nat (j := 0) rfl, ?_⟩
    walk_at "rd"
    intro g hg
    refine ⟨g, _, rfl, .inr hg, rfl, rfl, ?_⟩
    walk_at "rd"
    refine ⟨_, _, _, _, rfl, rfl, SqT.of hS, atI_nat (j := 2) rfl, ?_⟩
    walk_at "rd"
    refine ⟨sz (by simp), fun p hp => ?_⟩
    have sm := Same.new (Same.refl H) (p := p) (o := .tup [.ref b]) hp
    exact q p [b] _ sm hp upd_same (.cons h1 .nil)
  | som v s =>
    obtain ⟨b, hS, h1⟩ := hS
    have hS := eG _ _ hS
    walk_at "rd"
    refine ⟨_, _, _, _, rfl, rfl, SqT.of hS, atI_nat (j := 0) rfl, ?_⟩
    walk_at "rd"
    refine ⟨_, _, _, _, rfl, rfl, SqT.of hS, atI_nat (j := 0) rfl, ?_⟩
    walk_at "rd"
    intro g hg
    refine ⟨g, _, rfl, .inr hg, rfl, rfl, ?_⟩
    walk_at "rd"
    refine ⟨_, _, _, _, rfl, rfl, SqT.of hS, atI_nat (j := 0) rfl, ?_⟩
    walk_at "rd"
    intro g hg
    refine ⟨g, _, rfl, .inr hg, rfl, rfl, ?_⟩
    walk_at "rd"
    refine ⟨_, _, _, _, rfl, rfl, SqT.of hS, atI_nat (j := 2) rfl, ?_⟩
    walk_at "rd"
    refine ⟨sz (by simp), fun p hp => ?_⟩
    have sm := Same.new (Same.refl H) (p := p) (o := .tup [.ref b]) hp
    exact q p [b] _ sm hp upd_same (.cons h1 .nil)
/-- the names that stand in a saying itself -/
def Say.own : Say → List Nm
  | .mark _ v => [v]
  | .tie _ v u => [v, u]
  | .same v u => [v, u]
  | _ => []
def spOwnNames : Sp := fun vs H Q _ => ∃ (a : Addr) (s : Say), vs = [.ref a] ∧ SayAt H s a ∧
  ∀ p H', Same H H' → H p = none → H' p = some (.tup (s.own.map fun v => V.str v.s)) → Q (.ref p) H'
theorem ok_own_names (D : Def K mg "own_names" s_own_names) : CallOk P w K mg base 1 "own_names" P_own_names spOwnNames := by
  refine callOk D sc_own_names bd_own_names (fun vs H Q E h => ?_) (fun f cdv A outer s H vs Q E hr h => ?_)
  · obtain ⟨a, s, rfl, _⟩ := h
    rfl
  obtain ⟨a, s, rfl, hS, q⟩ := h
  refine ⟨_, pss_cons (ps_if (pt_cmpR op_eq (pe_ix ix_tup (pv 0) (pe_int) (fun _ _ => rfl)) (pe_str) (nomark _)) (pss_one (ps_ret (pe_tup (pa_cons (pe_ix ix_tup (pv 0) (pe_int) (fun _ _ => rfl)) pa_nil)))) (pss_nil)) (pss_cons (ps_if (pt_cmpR op_eq (pe_ix ix_tup (pv 0) (pe_int) (fun _ _ => rfl)) (pe_str) (nomark _)) (pss_one (ps_ret (pe_tup (pa_cons (pe_ix ix_tup (pv 0) (pe_int) (fun _ _ => rfl)) (pa_cons (pe_ix ix_tup (pv 0) (pe_int) (fun _ _ => rfl)) pa_nil))))) (pss_nil)) (pss_cons (ps_if (pt_cmpR op_eq (pe_ix ix_tup (pv 0) (pe_int) (fun _ _ => rfl)) (pe_str) (nomark _)) (pss_one (ps_ret (pe_tup (pa_cons (pe_ix ix_tup (pv 0) (pe_int) (fun _ _ => rfl)) (pa_cons (pe_ix ix_tup (pv 0) (pe_int) (fun _ _ => rfl)) pa_nil))))) (pss_nil)) (pss_one (ps_ret (pe_tup (pa_nil)))))), ?_⟩
  cases s with
  | tru =>
    have hS : H a = some (.tup [.str "true"]) := hS
    walk_at "rd"
    refine ⟨_, _, _, _, rfl, rfl, SqT.of hS, atI_nat (j := 0) rfl, ?_⟩
    walk_at "rd"
    refine ⟨_, _, _, _, rfl, rfl, SqT.of hS, atI_nat (j := 0) rfl, ?_⟩
    walk_at "rd"
    refine ⟨_, _, _, _, rfl, rfl, SqT.of hS, atI_nat (j := 0) rfl, ?_⟩
    walk_at "rd"
    refine ⟨sz (by simp), fun p hp => ?_⟩
    exact q p _ (Same.new (Same.refl H) hp) hp upd_same
  | mark m v =>
    have hS : H a = some (.tup [.str "mark", .str m, .str v.s]) := hS
    walk_at "rd"
    refine ⟨_, _, _, _, rfl, rfl, SqT.of hS, atI_nat (j := 0) rfl, ?_⟩
    walk_at "rd"
    refine ⟨_, _, _, _, rfl, rfl, SqT.of hS, atI_nat (j := 2) rfl, ?_⟩
    walk_at "rd"
    refine ⟨sz (by simp), fun p hp => ?_⟩
    exact q p _ (Same.new (Same.refl H) hp) hp upd_same
  | tie m v u =>
    have hS : H a = some (.tup [.str "tie", .str m, .str v.s, .str u.s]) := hS
    walk_at "rd"
    refine ⟨_, _, _, _, rfl, rfl, SqT.of hS, atI_nat (j := 0) rfl, ?_⟩
    walk_at "rd"
    refine ⟨_, _, _, _, rfl, rfl, SqT.of hS, atI_nat (j := 0) rfl, ?_⟩
    walk_at "rd"
    refine ⟨_, _, _, _, rfl, rfl, SqT.of hS, atI_nat (j := 2) rfl, ?_⟩
    walk_at "rd"
    refine ⟨_, _, _, _, rfl, rfl, SqT.of hS, atI_nat (j := 3) rfl, ?_⟩
    walk_at "rd"
    refine ⟨sz (by simp), fun p hp => ?_⟩
    exact q p _ (Same.new (Same.refl H) hp) hp upd_same
  | same v u =>
    have hS : H a = some (.tup [.str "same", .str v.s, .str u.s]) := hS
    walk_at "rd"
    refine ⟨_, _, _, _, rfl, rfl, SqT.of hS, atI_nat (j := 0) rfl, ?_⟩
    walk_at "rd"
    refine ⟨_, _, _, _, rfl, rfl, SqT.of hS, atI_nat (j := 0) rfl, ?_⟩
    walk_at "rd"
    refine ⟨_, _, _, _, rfl, rfl, SqT.of hS, atI_nat (j := 0) rfl, ?_⟩
    walk_at "rd"
    refine ⟨_, _, _, _, rfl, rfl, SqT.of hS, atI_nat (j := 1) rfl, ?_⟩
    walk_at "rd"
    refine ⟨_, _, _, _, rfl, rfl, SqT.of hS, atI_nat (j := 2) rfl, ?_⟩
    walk_at "rd"
    refine ⟨sz (by simp), fun p hp => ?_⟩
    exact q p _ (Same.new (Same.refl H) hp) hp upd_same
  | not s =>
    obtain ⟨b, hS, h1⟩ := hS
    walk_at "rd"
    refine ⟨_, _, _, _, rfl, rfl, SqT.of hS, atI_nat (j := 0) rfl, ?_⟩
    walk_at "rd"
    refine ⟨_, _, _, _, rfl, rfl, SqT.of hS, atI_nat (j := 0) rfl, ?_⟩
    walk_at "rd"
    refine ⟨_, _, _, _, rfl, rfl, SqT.of hS, atI_nat (j := 0) rfl, ?_⟩
    walk_at "rd"
    refine ⟨sz (by simp), fun p hp => ?_⟩
    exact q p _ (Same.new (Same.refl H) hp) hp upd_same
  | and s t =>
    obtain ⟨b, c, hS, h1, h2⟩ := hS
    walk_at "rd"
    refine ⟨_, _, _, _, rfl, rfl, SqT.of hS, atI_nat (j := 0) rfl, ?_⟩
    walk_at "rd"
    refine ⟨_, _, _, _, rfl, rfl, SqT.of hS, atI_nat (j := 0) rfl, ?_⟩
    walk_at "rd"
    refine ⟨_, _, _, _, rfl, rfl, SqT.of hS, atI_nat (j := 0) rfl, ?_⟩
    walk_at "rd"
    refine ⟨sz (by simp), fun p hp => ?_⟩
    exact q p _ (Same.new (Same.refl H) hp) hp upd_same
  | or s t =>
    obtain ⟨b, c, hS, h1, h2⟩ := hS
    walk_at "rd"
    refine ⟨_, _, _, _, rfl, rfl, SqT.of hS, atI_nat (j := 0) rfl, ?_⟩
    walk_at "rd"
    refine ⟨_, _, _, _, rfl, rfl, SqT.of hS, atI_nat (j := 0) rfl, ?_⟩
    walk_at "rd"
    refine ⟨_, _, _, _, rfl, rfl, SqT.of hS, atI_nat (j := 0) rfl, ?_⟩
    walk_at "rd"
    refine ⟨sz (by simp), fun p hp => ?_⟩
    exact q p _ (Same.new (Same.refl H) hp) hp upd_same
  | each v s =>
    obtain ⟨b, hS, h1⟩ := hS
    walk_at "rd"
    refine ⟨_, _, _, _, rfl, rfl, SqT.of hS, atI_nat (j := 0) rfl, ?_⟩
    walk_at "rd"
    refine ⟨_, _, _, _, rfl, rfl, SqT.of hS, atI_nat (j := 0) rfl, ?_⟩
    walk_at "rd"
    refine ⟨_, _, _, _, rfl, rfl, SqT.of hS, atI_nat (j := 0) rfl, ?_⟩
    walk_at "rd"
    refine ⟨sz (by simp), fun p hp => ?_⟩
    exact q p _ (Same.new (Same.refl H) hp) hp upd_same
  | som v s =>
    obtain ⟨b, hS, h1⟩ := hS
    walk_at "rd"
    refine ⟨_, _, _, _, rfl, rfl, SqT.of hS, atI_nat (j := 0) rfl, ?_⟩
    walk_at "rd"
    refine ⟨_, _, _, _, rfl, rfl, SqT.of hS, atI_nat (j := 0) rfl, ?_⟩
    walk_at "rd"
    refine ⟨_, _, _, _, rfl, rfl, SqT.of hS, atI_nat (j := 0) rfl, ?_⟩
    walk_at "rd"
    refine ⟨sz (by simp), fun p hp => ?_⟩
    exact q p _ (Same.new (Same.refl H) hp) hp upd_same
end
end K48
namespace K48
open PySem PySem.Spec PyProof.Rows L2
local macro_rules | `(tactic| walk_at "rd") => `(tactic| repeat (first | refine ⟨_, rfl, ?_⟩ | refine ⟨_, _, rfl, rfl, ?_⟩ | refine ⟨rfl, ?_⟩ | refine iteTk (by decide +kernel) ?_ | refine iteFk (by decide +kernel) ?_))
local macro_rules | `(tactic| walk_at "rdr") => `(tactic| repeat (first | refine ⟨_, rfl, ?_⟩ | refine ⟨_, _, rfl, rfl, ?_⟩ | refine ⟨rfl, ?_⟩ | refine iteTk (by first | decide +kernel | rfl) ?_ | refine iteFk (by first | decide +kernel | rfl) ?_))
local macro_rules | `(tactic| walk_at "tyn") => `(tactic| first | exact .int _ | exact .bl _ | exact .str _ | exact .tup (by assumption) | exact .lst (by assumption) | exact .dK (by assumption))
local macro_rules | `(tactic| walk_at "isT") => `(tactic| refine ⟨_, _, _, _, true, rfl, .ty _, TyN.x (by walk_at "tyn"), kit_ty (by decide +kernel), ?_⟩)
local macro_rules | `(tactic| walk_at "isF") => `(tactic| refine ⟨_, _, _, _, false, rfl, .ty _, TyN.x (by walk_at "tyn"), kit_ty (by decide +kernel), ?_⟩)
local macro_rules | `(tactic| walk_at "nz") => `(tactic| first | refine nzG (by simp only [List.set_cons_succ, List.set_cons_zero]; rfl) ?_ | refine reS (by simp only [List.set_cons_succ, List.set_cons_zero]; rfl) ?_)
namespace Say
/-- the free names, in order -/
def fvN (s : Say) : List Nm := (if s.fr .x = true then [Nm.x] else []) ++ (if s.fr .y = true then [Nm.y] else [])
/-- the name that is bound -/
def bnd : Say → Option Nm
  | .each v _ => some v
  | .som v _ => some v
  | _ => none
theorem fr_eq (s : Say) (v : Nm) : s.fr v = ((s.own.any fun u => decide (v = u)) || (s.kids.any fun k => k.fr v && !decide (s.bnd = some v))) := by
  cases s <;> simp [fr, own, kids, bnd, eq_comm]
theorem mem_fvN (s : Say) (g : Nm → Bool) (v : Nm) : (s.fvN.any fun u => decide (v = u) && g u) = (s.fr v && g v) := by
  unfold fvN
  cases hx : s.fr .x <;> cases hy : s.fr .y <;> cases v <;> simp [hx, hy]
theorem len_fvN (s : Say) : s.fvN.length ≤ 2 := by
  unfold fvN
  cases s.fr .x <;> cases s.fr .y <;> decide
theorem len_own (s : Say) : s.own.length ≤ 2 := by cases s <;> simp [own]
theorem len_kids (s : Say) : s.kids.length ≤ 2 := by cases s <;> simp [kids]
theorem deep_kids {s k : Say} (h : k ∈ s.kids) : k.deep + 1 ≤ s.deep := by
  cases s <;> simp [kids] at h <;> simp only [deep]
  · subst h; omega
  · rcases h with rfl | rfl <;> omega
  · rcases h with rfl | rfl <;> omega
  · subst h; omega
  · subst h; omega
theorem deep_pos (s : Say) : 1 ≤ s.deep := by cases s <;> simp [deep]
theorem size_pos (s : Say) : 1 ≤ s.size := by cases s <;> simp [size]
theorem size_kids (s : Say) : (s.kids.map size).sum + 1 = s.size := by cases s <;> simp [kids, size] <;> omega
theorem ok_kids {ms ts : List Str} {s k : Say} (h : s.okT ms ts) (hk : k ∈ s.kids) : k.okT ms ts := by
  cases s <;> simp [kids] at hk
  · subst hk; exact h
  · rcases hk with rfl | rfl
    · exact h.1
    · exact h.2
  · rcases hk with rfl | rfl
    · exact h.1
    · exact h.2
  · subst hk; exact h
  · subst hk; exact h
end Say
theorem SayAt.word {H : Hp} {s : Say} {a : Addr} (h : SayAt H s a) : ∃ z xs, H a = some (.tup (.str z :: xs)) ∧ inV (.str z) [.str "each", .str "some"] = s.bnd.isSome ∧ ∀ v, s.bnd = some v → xs[0]? = some (.str v.s) := by
  cases s with
  | tru => exact ⟨_, _, h, by decide +kernel, fun v e => by cases e⟩
  | mark m v => exact ⟨_, _, h, (show inV (.str "mark") [.str "each", .str "some"] = false by decide +kernel), fun v e => by cases e⟩
  | tie t v u => exact ⟨_, _, h, (show inV (.str "tie") [.str "each", .str "some"] = false by decide +kernel), fun v e => by cases e⟩
  | same v u => exact ⟨_, _, h, (show inV (.str "same") [.str "each", .str "some"] = false by decide +kernel), fun v e => by cases e⟩
  | not s => obtain ⟨b, h, _⟩ := h; exact ⟨_, _, h, (show inV (.str "not") [.str "each", .str "some"] = false by decide +kernel), fun v e => by cases e⟩
  | and s t => obtain ⟨b, c, h, _⟩ := h; exact ⟨_, _, h, (show inV (.str "and") [.str "each", .str "some"] = false by decide +kernel), fun v e => by cases e⟩
  | or s t => obtain ⟨b, c, h, _⟩ := h; exact ⟨_, _, h, (show inV (.str "or") [.str "each", .str "some"] = false by decide +kernel), fun v e => by cases e⟩
  | each v s => obtain ⟨b, h, _⟩ := h; exact ⟨_, _, h, by rw [show (Say.each v s).bnd.isSome = true from rfl]; decide +kernel, fun v e => by cases e; rfl⟩
  | som v s => obtain ⟨b, h, _⟩ := h; exact ⟨_, _, h, by rw [show (Say.som v s).bnd.isSome = true from rfl]; decide +kernel, fun v e => by cases e; rfl⟩
theorem Nm.s_inj {u v : Nm} : decide (u.s = v.s) = decide (u = v) := by cases u <;> cases v <;> decide +kernel
/-- a dict of names: which are in, at most how many -/
def Fd (kvs : List (Key × V)) (F : Nm → Bool) (n : Nat) : Prop := (∀ v : Nm, (valV kvs (Sum.inr v.s)).isSome = F v) ∧ kvs.length ≤ n
theorem Fd.put {kvs : List (Key × V)} {F F' : Nm → Bool} {n : Nat} (h : Fd kvs F n) (u : Nm) (x : V) (hF : ∀ v, F' v = (F v || decide (v = u))) : Fd (putK kvs (Sum.inr u.s) x) F' (n + 1) := by
  refine ⟨fun v => ?_, Nat.le_trans (length_putK _ _ _) (Nat.succ_le_succ h.2)⟩
  rw [valV_put, hF v]
  by_cases e : v = u
  · subst e
    simp
  · have e' : ¬ (Sum.inr v.s : Key) = Sum.inr u.s := fun q => by
      have := decide_eq_true (Sum.inr.inj q)
      rw [Nm.s_inj] at this
      exact e (of_decide_eq_true this)
    rw [if_neg e', h.1 v]
    simp [e]
theorem Fd.mono {kvs : List (Key × V)} {F F' : Nm → Bool} {n m : Nat} (h : Fd kvs F n) (hF : ∀ v, F' v = F v) (hm : n ≤ m) : Fd kvs F' m := ⟨fun v => by rw [hF v]; exact h.1 v, Nat.le_trans h.2 hm⟩
theorem take_any {α : Type} {xs : List α} {i : Nat} {x : α} (h : xs[i]? = some x) (p : α → Bool) : ((xs.take (i + 1)).any p) = ((xs.take i).any p || p x) := by
  rw [List.take_add_one, h, List.any_append]
  simp
theorem Paired.at {α β : Type} {F : α → β → Prop} {l₁ : List α} {l₂ : List β} (h : Paired F l₁ l₂) {i : Nat} {b : β} (e : l₂[i]? = some b) : ∃ a, l₁[i]? = some a ∧ F a b := by
  induction h generalizing i with
  | nil => simp at e
  | cons h t ih =>
    cases i with
    | zero => simp at e; subst e; exact ⟨_, rfl, h⟩
    | succ i => simp at e; exact ih e
theorem map_at {α β : Type} {f : α → β} {xs : List α} {i : Nat} {y : β} (h : (xs.map f)[i]? = some y) : ∃ x, xs[i]? = some x ∧ y = f x := by
  rw [List.getElem?_map] at h
  cases e : xs[i]? with
  | none => rw [e] at h; cases h
  | some x => rw [e] at h; exact ⟨x, rfl, (Option.some.inj h).symm⟩
theorem SqT.updD {K : PySem.W.Frag} {H : Hp} {p d : Addr} {xs : List V} {kvs : List (Key × V)} {o : HO} (ht : SqT K H p xs) (hD : H d = some (.dK kvs)) : SqT K (upd H d o) p xs := by
  rcases ht with (ht | ⟨u, ht⟩) | ht
  · exact .inl (.inl (by rw [upd_ne (ne_of ht hD (by intro z; cases z))]; exact ht))
  · exact .inl (.inr ⟨u, by rw [upd_ne (ne_of ht hD (by intro z; cases z))]; exact ht⟩)
  · exact .inr ht
section
variable {P : Program} {w : World} {K : PySem.W.Frag} {mg : Str → Option Value} {base : Heap} {cT : Addr}
def spFree (n : Nat) : Sp := fun vs H Q _ => ∃ (G : Hp) (a : Addr) (s : Say), vs = [.ref a] ∧ Same G H ∧ SayAt G s a ∧ s.deep ≤ n ∧
  ∀ p H', Same H H' → H p = none → H' p = some (.tup (s.fvN.map fun v => V.str v.s)) → Q (.ref p) H'
theorem ok_free (B : Blt mg) (C : Cst K mg) (D : Def K mg "free_names" s_free_names) (c_own : CallOk P w K mg base 1 "own_names" P_own_names spOwnNames) (c_say : CallOk P w K mg base 1 "sayings_in" P_sayings_in spSayingsIn) :
    ∀ n, CallOk P w K mg base (n + 1) "free_names" P_free_names (spFree n) := by
  intro n
  induction n with
  | zero => exact callOk_none D bd_free_names fun vs H Q E ⟨G, a, s, _, _, _, h, _⟩ => by have := s.deep_pos; omega
  | succ n ih =>
  have c_free_names := ih
  have c_own_names := c_own.mono (show 1 ≤ n + 1 by omega)
  have c_sayings_in := c_say.mono (show 1 ≤ n + 1 by omega)
  refine callOk D sc_free_names bd_free_names (fun vs H Q E h => ?_) (fun f cdv A outer st H vs Q E hr h => ?_)
  · obtain ⟨G, a, s, rfl, _⟩ := h
    rfl
  obtain ⟨G, a, s, rfl, eG, hS, hd, q⟩ := h
  have hu := hu_of hr
  obtain ⟨z, xs, hw, hin, hbv⟩ := hS.word
  refine ⟨_, pss_cons (ps_set (i := 1) sc_free_names.nd rfl (.inr rfl) (pe_dnewK)) (pss_cons (ps_for PassesOwn.never rfl (pi_tup (pe_cl c_own_names hr (by rfl) (pa_cons (pv 0) pa_nil))) (pg_name (i := 2) sc_free_names.nd rfl (.inl rfl)) (pss_one (ps_dput hu (pv 1) (pv 2) (pe_bl) rfl))) (pss_cons (ps_for PassesOwn.never rfl (pi_tup (pe_cl c_sayings_in hr (by rfl) (pa_cons (pv 0) pa_nil))) (pg_name (i := 3) sc_free_names.nd rfl (.inl rfl)) (pss_one (ps_for PassesOwn.never rfl (pi_tup (pe_cl c_free_names hr (by rfl) (pa_cons (pv 3) pa_nil))) (pg_name (i := 2) sc_free_names.nd rfl (.inl rfl)) (pss_one (ps_if (PW.pt (pw_or (pt_cmpR op_notIn_seq (pe_ix ix_tup (pv 0) (pe_int) (fun _ _ => rfl)) (pe_tupG C.BINDING (by rfl)) (by rfl)) (pw_or1 (pt_cmpR op_ne (pv 2) (pe_ix ix_tup (pv 0) (pe_int) (fun _ _ => rfl)) (nomark _))))) (pss_one (ps_dput hu (pv 1) (pv 2) (pe_bl) rfl)) (pss_nil)))))) (pss_one (ps_ret (pe_callTy call_tuple_of (by rfl) B.tuple bo_tuple (pa_cons (pe_lc (own := [("name", 2)]) (g := gName 2) (by rfl) sc_free_names.nd (pi_tup (pe_tupG C.NAMES (by rfl))) (blkOk_by (own := [("name", 2)]) (N := N_free_names) (by kernel_rfl)) (fun _ _ _ _ _ => pg_name (i := 2) sc_free_names.nd rfl (Or.inl rfl)) (fun _ _ _ _ _ => pts_one (pt_cmp (pc_din hu (pv 2) (pv 1)))) (fun _ _ _ _ _ => pv 2)) pa_nil)))))), ?_⟩
  intro d hd0
  have e1 : Same H (upd H d (.dK [])) := Same.new (Same.refl H) hd0
  have eG1 := eG.trans e1
  have hG0 : G d = none := eG.free hd0
  walk_at "rd"
  refine ⟨a, s, rfl, hS.mono eG1, fun p1 H1 g1 n1 t1 => ?_⟩
  refine ⟨_, rfl, ⟨_, SqT.of t1⟩, for_tup (K := K) (a := p1) (xs := s.own.map fun v => V.str v.s)
    (fun i σ H' => ∃ kvs y, σ = [some (.ref a), some (.ref d), y, none] ∧ Same H H' ∧ H' d = some (.dK kvs) ∧ Fd kvs (fun v => (s.own.take i).any fun u => decide (v = u)) i ∧ SqT K H' p1 (s.own.map fun v => V.str v.s))
    ⟨[], none, rfl, e1.trans g1, g1 _ _ upd_same, ⟨fun v => rfl, Nat.le_refl _⟩, SqT.of t1⟩ (fun i σ H' _ hP => let ⟨_, _, _, _, _, _, h⟩ := hP; h) (fun i x σ H' hx hP => ?_) (fun σ H' hP => ?_)⟩
  · obtain ⟨kvs, y, rfl, e2, hD, hF, ht⟩ := hP
    obtain ⟨u, hu', rfl⟩ := map_at hx
    have hi := (List.getElem?_eq_some_iff.mp hu').1
    have := s.len_own
    walk_at "rd"
    refine ⟨_, _, rfl, DPut.k (k := Sum.inr u.s) hD (szl (by have := hF.2; omega)), ?_⟩
    refine ⟨_, _, rfl, Same.mut e2 hd0, upd_same, hF.put u _ (fun v => take_any hu' _), ?_⟩
    exact SqT.updD ht hD
  · obtain ⟨kvs, y, rfl, e2, hD, hF, _⟩ := hP
    have hF : Fd kvs (fun v => s.own.any fun u => decide (v = u)) 2 := hF.mono (fun v => by rw [List.take_of_length_le (by simp)]) (by have := s.len_own; simpa using this)
    walk_at "rd"
    refine ⟨G, a, s, rfl, eG.trans e2, hS, fun p2 as H2 g2 n2 t2 hk => ?_⟩
    refine ⟨_, rfl, ⟨_, SqT.of t2⟩, for_tup (K := K) (a := p2) (xs := as.map V.ref)
      (fun i σ H' => ∃ kvs y y3, σ = [some (.ref a), some (.ref d), y, y3] ∧ Same H H' ∧ H' d = some (.dK kvs) ∧ Fd kvs (fun v => (s.own.any fun u => decide (v = u)) || ((s.kids.take i).any fun k => k.fr v && !decide (s.bnd = some v))) (2 + 2 * i) ∧ SqT K H' p2 (as.map V.ref))
      ⟨kvs, y, none, rfl, e2.trans g2, g2 _ _ hD, hF.mono (fun v => by simp) (by omega), SqT.of t2⟩ (fun i σ H' _ hP => let ⟨_, _, _, _, _, _, _, h⟩ := hP; h) (fun i x σ H' hx hP => ?_) (fun σ H' hP => ?_)⟩
    · obtain ⟨kvs, y, y3, rfl, e3, hD, hF, ht⟩ := hP
      obtain ⟨b, hb, rfl⟩ := map_at hx
      obtain ⟨k, hk', hkb⟩ := Paired.at hk hb
      have hi := (List.getElem?_eq_some_iff.mp hk').1
      have hl := s.len_kids
      walk_at "rd"
      refine ⟨G, b, k, rfl, eG.trans e3, hkb, by have := Say.deep_kids (List.mem_of_getElem? hk'); omega, fun p3 H3 g3 n3 t3 => ?_⟩
      refine ⟨_, rfl, ⟨_, SqT.of t3⟩, for_tup (K := K) (a := p3) (xs := k.fvN.map fun v => V.str v.s)
        (fun j σ H' => ∃ kvs y, σ = [some (.ref a), some (.ref d), y, some (.ref b)] ∧ Same H H' ∧ H' d = some (.dK kvs) ∧ Fd kvs (fun v => ((s.own.any fun u => decide (v = u)) || ((s.kids.take i).any fun k => k.fr v && !decide (s.bnd = some v))) || ((k.fvN.take j).any fun u => decide (v = u) && !decide (s.bnd = some u))) (2 + 2 * i + j) ∧ SqT K H' p2 (as.map V.ref) ∧ SqT K H' p3 (k.fvN.map fun v => V.str v.s))
        ⟨kvs, y, rfl, e3.trans g3, g3 _ _ hD, hF.mono (fun v => by simp) (by omega), Same.sqT g3 ht, SqT.of t3⟩ (fun j σ H' _ hP => let ⟨_, _, _, _, _, _, _, h⟩ := hP; h) (fun j x σ H' hx hP => ?_) (fun σ H' hP => ?_)⟩
      · obtain ⟨kvs, y, rfl, e4, hD, hF, ht, ht3⟩ := hP
        obtain ⟨u, hu', rfl⟩ := map_at hx
        have hj := (List.getElem?_eq_some_iff.mp hu').1
        have hlf := k.len_fvN
        have hw' := e4 _ _ (eG _ _ hw)
        walk_at "rd"
        refine ⟨_, _, _, _, rfl, rfl, SqT.of hw', atI_nat (j := 0) rfl, ?_⟩
        intro g hg
        refine ⟨g, _, rfl, .inr hg, rfl, rfl, ?_⟩
        refine ⟨_, rfl, ?_⟩
        have put : ∀ Q' : Prop, (∀ kvs', Fd kvs' (fun v => ((s.own.any fun u => decide (v = u)) || ((s.kids.take i).any fun k => k.fr v && !decide (s.bnd = some v))) || ((k.fvN.take (j + 1)).any fun u => decide (v = u) && !decide (s.bnd = some u))) (2 + 2 * i + (j + 1)) → Q') → True := fun _ _ => trivial
        cases hb' : s.bnd with
        | none =>
          rw [hb'] at hin
          refine iteTk (by rw [hin]; rfl) (iteT ?_)
          walk_at "rd"
          refine ⟨_, _, rfl, DPut.k (k := Sum.inr u.s) hD (szl (by have := hF.2; omega)), ?_⟩
          refine ⟨_, _, rfl, Same.mut e4 hd0, upd_same, hF.put u _ (fun v => ?_), SqT.updD ht hD, SqT.updD ht3 hD⟩
          rw [take_any hu']
          simp [hb', Bool.or_assoc]
        | some v0 =>
          rw [hb'] at hin
          refine iteFk (by rw [hin]; rfl) ?_
          walk_at "rd"
          refine ⟨_, _, _, _, rfl, rfl, SqT.of hw', atI_nat (j := 1) (hbv v0 hb'), ?_⟩
          walk_at "rd"
          rw [dec_V_str, Nm.s_inj]
          by_cases huv : u = v0
          · subst huv
            refine iteFk (by simp) ?_
            refine ⟨kvs, _, rfl, e4, hD, hF.mono (fun v => ?_) (by omega), ht, ht3⟩
            rw [take_any hu']
            simp [hb']
          · refine iteTk (by simp [huv]) ?_
            walk_at "rd"
            refine ⟨_, _, rfl, DPut.k (k := Sum.inr u.s) hD (szl (by have := hF.2; omega)), ?_⟩
            refine ⟨_, _, rfl, Same.mut e4 hd0, upd_same, hF.put u _ (fun v => ?_), SqT.updD ht hD, SqT.updD ht3 hD⟩
            rw [take_any hu']
            have : ¬ v0 = u := fun e => huv e.symm
            simp [hb', this, Bool.or_assoc]
      · obtain ⟨kvs, y, rfl, e4, hD, hF, ht, _⟩ := hP
        refine ⟨kvs, y, _, rfl, e4, hD, hF.mono (fun v => ?_) (by have := k.len_fvN; simp; omega), ht⟩
        rw [take_any hk', List.take_of_length_le (l := k.fvN) (by simp), Say.mem_fvN k (fun u => !decide (s.bnd = some u)) v]
        simp [Bool.or_assoc]
    · obtain ⟨kvs, y, y3, rfl, e3, hD, hF, _⟩ := hP
      have hF : Fd kvs s.fr 6 := hF.mono (fun v => by rw [List.take_of_length_le (by have := Paired.length hk; simp; omega)]; exact s.fr_eq v) (by have := s.len_kids; have := Paired.length hk; simp; omega)
      intro g hg
      refine ⟨g, rfl, ⟨_, hg⟩, fun D hD0 => ?_⟩
      refine lc_tup (K := K) (xs := [.str "x", .str "y"]) (fun i H4 => Same H' H4 ∧ H4 D = some (.lst (((([Nm.x, Nm.y].take i).filter s.fr)).map fun v => V.str v.s))) ⟨Same.new (Same.refl _) hD0, upd_same⟩ (fun i H4 _ hP => Same.sqT hP.1 hg) (fun i x H4 hx hP => ?_) (fun H4 hP => ?_)
      · obtain ⟨e5, hL⟩ := hP
        have hD5 := e5 _ _ hD
        obtain ⟨u, hu', rfl⟩ : ∃ u, [Nm.x, Nm.y][i]? = some u ∧ x = V.str u.s := by
          match i, hx with
          | 0, hx => exact ⟨.x, rfl, (Option.some.inj hx).symm⟩
          | 1, hx => exact ⟨.y, rfl, (Option.some.inj hx).symm⟩
          | i + 2, hx => simp at hx
        have tk : ([Nm.x, Nm.y].take (i + 1)).filter s.fr = ([Nm.x, Nm.y].take i).filter s.fr ++ (if s.fr u = true then [u] else []) := by
          rw [List.take_add_one, hu', List.filter_append]
          cases h : s.fr u <;> simp [List.filter_cons, h]
        refine ⟨rfl, ?_⟩
        walk_at "rd"
        refine ⟨_, _, rfl, DGet.k (k := Sum.inr u.s) hD5, ?_⟩
        rw [hF.1 u]
        refine ⟨_, rfl, ?_⟩
        refine iteS (fun hf => ?_) (fun hf => ?_)
        · refine ⟨_, rfl, _, hL, szl ?_, Same.mut e5 hD0, ?_⟩
          · have : (([Nm.x, Nm.y].take i).filter s.fr).length ≤ 2 := Nat.le_trans (List.length_filter_le _ _) (by simp; omega)
            simpa using Nat.le_trans this (by decide)
          · rw [upd_same, tk, if_pos hf, List.map_append]
            rfl
        · refine ⟨e5, ?_⟩
          rw [tk, if_neg (by rw [hf]; decide), List.append_nil]
          exact hL
      · obtain ⟨e5, hL⟩ := hP
        refine ⟨_, _, rfl, .inl ⟨SqL.of hL, fun l hl => ?_⟩⟩
        refine q l _ (Same.new (e3.trans e5) hl) ((e3.trans e5).free hl) ?_
        rw [upd_same]
        unfold Say.fvN
        cases hx : s.fr .x <;> cases hy : s.fr .y <;> simp [hx, hy]
end
end K48
namespace K48
open PySem PySem.Spec PyProof.Rows L2
local macro_rules | `(tactic| walk_at "rd") => `(tactic| repeat (first | refine ⟨_, rfl, ?_⟩ | refine ⟨_, _, rfl, rfl, ?_⟩ | refine ⟨rfl, ?_⟩ | refine iteTk (by decide +kernel) ?_ | refine iteFk (by decide +kernel) ?_))
local macro_rules | `(tactic| walk_at "rdr") => `(tactic| repeat (first | refine ⟨_, rfl, ?_⟩ | refine ⟨_, _, rfl, rfl, ?_⟩ | refine ⟨rfl, ?_⟩ | refine iteTk (by first | decide +kernel | rfl) ?_ | refine iteFk (by first | decide +kernel | rfl) ?_))
local macro_rules | `(tactic| walk_at "tyn") => `(tactic| first | exact .int _ | exact .bl _ | exact .str _ | exact .tup (by assumption) | exact .lst (by assumption) | exact .dK (by assumption))
local macro_rules | `(tactic| walk_at "isT") => `(tactic| refine ⟨_, _, _, _, true, rfl, .ty _, TyN.x (by walk_at "tyn"), kit_ty (by decide +kernel), ?_⟩)
local macro_rules | `(tactic| walk_at "isF") => `(tactic| refine ⟨_, _, _, _, false, rfl, .ty _, TyN.x (by walk_at "tyn"), kit_ty (by decide +kernel), ?_⟩)
local macro_rules | `(tactic| walk_at "nz") => `(tactic| first | refine nzG (by simp only [List.set_cons_succ, List.set_cons_zero]; rfl) ?_ | refine reS (by simp only [List.set_cons_succ, List.set_cons_zero]; rfl) ?_)
/-- the stack of is_saying -/
def StkAt (G H : Hp) (ms ts : List Str) : List (Say × Nat) → List Addr → Prop := Paired fun e t => ∃ b, H t = some (.tup [.ref b, .int (e.2 : Nat)]) ∧ SayAt G e.1 b ∧ e.1.okT ms ts ∧ e.2 + e.1.deep ≤ 21
def stkSize (es : List (Say × Nat)) : Nat := (es.map fun e => e.1.size).sum
theorem StkAt.mono {G H H' : Hp} {ms ts : List Str} {es : List (Say × Nat)} {as : List Addr} (h : StkAt G H ms ts es as) (k : ∀ b xs, H b = some (.tup xs) → H' b = some (.tup xs)) : StkAt G H' ms ts es as :=
  Paired.mapP h fun _ _ ⟨b, h1, h2⟩ => ⟨b, k _ _ h1, h2⟩
section
variable {P : Program} {w : World} {K : PySem.W.Frag} {mg : Str → Option Value} {base : Heap} {cT : Addr}
def spIsSaying (cT : Addr) : Sp := fun vs H Q _ => ∃ (G : Hp) (t a : Addr) (T : Tng) (s : Say), vs = [.ref t, .ref a] ∧ Same G H ∧ TongueAt cT G t T ∧ SayAt G s a ∧ s.okT T.marks T.ties ∧ s.size ≤ 100 ∧ s.deep ≤ 20 ∧ ∀ H', Same H H' → Q (.bl true) H'
theorem ok_is_saying (C : Cst K mg) (D : Def K mg "is_saying" s_is_saying) (c_parts_of : CallOk P w K mg base 4 "parts_of" P_parts_of (spPartsOf cT)) : CallOk P w K mg base 5 "is_saying" P_is_saying (spIsSaying cT) := by
  refine callOk D sc_is_saying bd_is_saying (fun vs H Q E h => ?_) (fun f cdv A outer st H vs Q E hr h => ?_)
  · obtain ⟨G, t, a, T, s, rfl, _⟩ := h
    rfl
  obtain ⟨G, t, a, T, s, rfl, eG, hT, hS, ok, hz, hd, q⟩ := h
  refine ⟨_, pss_cons (ps_set (i := 2) sc_is_saying.nd rfl (.inl rfl) (pe_lst (pa_cons (pe_tup (pa_cons (pv 1) (pa_cons (pe_int) pa_nil))) pa_nil))) (pss_cons (ps_set (i := 3) sc_is_saying.nd rfl (.inl rfl) (pe_int)) (pss_cons (ps_while PassesOwn.never (pt_truth (pv 2) (by intro _; rfl)) (pss_cons (ps_asg (pe_bm0 PySem.F.plainAttrs_list PySem.F.slot_list_pop PySem.F.type_list_pop mt_pop (pv 2)) (pg_tup rfl (pgs_cons (pg_name (i := 4) sc_is_saying.nd rfl (.inl rfl)) (pgs_cons (pg_name (i := 5) sc_is_saying.nd rfl (.inl rfl)) pgs_nil)))) (pss_cons (ps_aug (i := 3) sc_is_saying.nd rfl (.inl rfl) (pe_int) ip_add) (pss_cons (ps_set (i := 6) sc_is_saying.nd rfl (.inl rfl) (pe_cl c_parts_of hr (by rfl) (pa_cons (pv 0) (pa_cons (pv 4) pa_nil)))) (pss_cons (ps_if (PW.pt (pw_or (pt_cmp (pc_isN (pv 6))) (pw_or (pt_cmpR op_gt (pv 3) (pe_intG C.MOST_TUPLES (by rfl)) (nomark _)) (pw_or1 (pt_cmpR op_gt (pv 5) (pe_intG C.MOST_DEEP (by rfl)) (nomark _)))))) (pss_one (ps_ret (pe_bl))) (pss_nil)) (pss_one (ps_for PassesOwn.never rfl (pi_list (pv 6)) (pg_name (i := 7) sc_is_saying.nd rfl (.inl rfl)) (pss_one (ps_expr (pe_bm PySem.F.plainAttrs_list PySem.F.slot_list_append PySem.F.type_list_append mt_append (pv 2) (pa_cons (pe_tup (pa_cons (pv 7) (pa_cons (pe_op op_add (pv 5) (pe_int)) pa_nil))) pa_nil))))))))))) (pss_one (ps_ret (pe_bl))))), ?_⟩
  walk_at "rd"
  refine ⟨sz (by simp), fun p0 n0 => ?_⟩
  walk_at "rd"
  refine ⟨sz (by simp), fun l nl => ?_⟩
  walk_at "rd"
  have eP := Same.new (Same.refl H) (p := p0) (o := .tup [.ref a, .int 1]) n0
  have hl0 : H l = none := eP.free nl
  have e1 : Same H (upd (upd H p0 (.tup [.ref a, .int 1])) l (.lst [.ref p0])) := Same.new eP nl
  refine ⟨fun m σ H' => ∃ (es : List (Say × Nat)) (ts : List Addr) (n : Nat) (y4 y5 y6 y7 : Option V), σ = [some (.ref t), some (.ref a), some (.ref l), some (.int n), y4, y5, y6, y7] ∧ Same H H' ∧ H' l = some (.lst ((ts.map V.ref).reverse)) ∧ StkAt G H' T.marks T.ties es ts ∧ n + stkSize es ≤ 100 ∧ m = stkSize es,
    ⟨_, [(s, 1)], [p0], 0, none, none, none, none, rfl, e1, upd_same, .cons ⟨a, ?_, hS, ok, by show 1 + s.deep ≤ 21; omega⟩ .nil, by simp [stkSize]; omega, rfl⟩, fun m σ H' hW => ?_⟩
  · rw [upd_ne (ne_of_none (by rw [upd_same]) nl), upd_same]
    rfl
  obtain ⟨es, ts, n, y4, y5, y6, y7, rfl, e2, hL, hK, hn, rfl⟩ := hW
  refine ⟨_, rfl, _, .inl ⟨_, SqL.of hL, rfl⟩, ?_⟩
  cases hK with
  | nil =>
    refine iteFk (by rfl) ?_
    exact q _ e2
  | @cons e p es' ts' h1 hK =>
    obtain ⟨b, hp, hSb, okb, hdb⟩ := h1
    refine iteTk (by simp) ⟨fun σ3 H3 => ∃ (es : List (Say × Nat)) (ts : List Addr) (n : Nat) (y4 y5 y6 y7 : Option V), σ3 = [some (.ref t), some (.ref a), some (.ref l), some (.int n), y4, y5, y6, y7] ∧ Same H H3 ∧ H3 l = some (.lst ((ts.map V.ref).reverse)) ∧ StkAt G H3 T.marks T.ties es ts ∧ n + stkSize es ≤ 100 ∧ stkSize es < stkSize (e :: es'), fun σ3 H3 hN => ?_, ?_⟩
    · obtain ⟨es, ts, n, y4, y5, y6, y7, h1, h2, h3, h4, h5, h6⟩ := hN
      exact ⟨_, h6, es, ts, n, y4, y5, y6, y7, h1, h2, h3, h4, h5, rfl⟩
    have hlp : p ≠ l := ne_of hp hL (by intro z; cases z)
    walk_at "rd"
    refine ⟨.inl ⟨rfl, _, SqL.of hL⟩, l, _, .ref p, rfl, rfl, hL, by simp, ?_⟩
    have eL : ((List.map V.ref (p :: ts')).reverse).dropLast = (ts'.map V.ref).reverse := by simp
    rw [eL]
    have hp2 : upd H' l (.lst (ts'.map V.ref).reverse) p = some (.tup [.ref b, .int (e.2 : Nat)]) := by rw [upd_ne hlp]; exact hp
    have e3 : Same H (upd H' l (.lst (ts'.map V.ref).reverse)) := Same.mut e2 hl0
    refine ⟨p, _, rfl, SqT.of hp2, rfl, _, _, rfl, _, _, rfl, rfl, ?_⟩
    walk_at "rd"
    refine ⟨G, t, b, T, e.1, rfl, eG.trans e3, hT, hSb, okb, fun pk as H4 g4 n4 t4 hkd => ?_⟩
    walk_at "rd"
    have hse : stkSize (e :: es') = e.1.size + stkSize es' := rfl
    refine iteFk (decide_eq_false (by show ¬ 100 < ((n : Int) + 1); have := e.1.size_pos; omega)) ?_
    walk_at "rd"
    refine iteFk (decide_eq_false (by show ¬ 20 < ((e.2 : Nat) : Int); have := e.1.deep_pos; omega)) ?_
    have hL4 : H4 l = some (.lst ((ts'.map V.ref).reverse)) := g4 _ _ upd_same
    have hK4 : StkAt G H4 T.marks T.ties es' ts' := StkAt.mono (G := G) (H := H') hK fun c xs hc => g4 _ _ (by rw [upd_ne (ne_of hc hL (by intro z; cases z))]; exact hc)
    have hlpk : pk ≠ l := fun z => by rw [z, upd_same] at n4; cases n4
    refine ⟨_, rfl, pk, rfl, ⟨_, SqL.of t4⟩, for_list (K := K) (a := pk) (xs := as.map V.ref)
      (fun i σ H5 => ∃ (ts : List Addr) (y7 : Option V), σ = [some (.ref t), some (.ref a), some (.ref l), some (.int (n + 1 : Nat)), some (.ref b), some (.int (e.2 : Nat)), some (.ref pk), y7] ∧ Same H H5 ∧ H5 pk = some (.lst (as.map V.ref)) ∧ H5 l = some (.lst ((ts.map V.ref).reverse)) ∧ StkAt G H5 T.marks T.ties ((e.1.kids.take i).reverse.map (fun k => (k, e.2 + 1)) ++ es') ts)
      ⟨ts', y7, rfl, e3.trans g4, t4, hL4, hK4⟩ (fun i σ H5 _ hP => let ⟨_, _, _, _, h, _⟩ := hP; SqL.of h) (fun i x σ H5 hx hP => ?_) (fun σ H5 hP => ?_)⟩
    · obtain ⟨ts, y7, rfl, e5, hP5, hL5, hK5⟩ := hP
      obtain ⟨c, hc, rfl⟩ := map_at hx
      obtain ⟨k, hk', hkb⟩ := Paired.at hkd hc
      walk_at "rd"
      refine ⟨.inl ⟨rfl, _, SqL.of hL5⟩, ?_⟩
      walk_at "rd"
      refine ⟨sz (by simp), fun r nr => ?_⟩
      have hlr : r ≠ l := fun z => by rw [z, hL5] at nr; cases nr
      have hpr : r ≠ pk := fun z => by rw [z, hP5] at nr; cases nr
      have hL6 : upd H5 r (.tup [.ref c, .int ((e.2 : Nat) + 1)]) l = some (.lst ((ts.map V.ref).reverse)) := by rw [upd_ne hlr.symm]; exact hL5
      have hlen : ts.length ≤ 200 := by
        have a1 := Paired.length hK5
        have a2 : ∀ es : List (Say × Nat), es.length ≤ stkSize es := fun es => by
          induction es with
          | nil => exact Nat.le_refl _
          | cons e es ih => have := e.1.size_pos; show es.length + 1 ≤ e.1.size + stkSize es; omega
        have a3 := a2 es'
        rw [List.length_append, List.length_map, List.length_reverse, List.length_take] at a1
        have := e.1.len_kids
        omega
      refine ⟨l, _, _, rfl, rfl, hL6, szl (by simp; omega), ?_⟩
      refine ⟨r :: ts, _, rfl, Same.mut (Same.new e5 nr) hl0, ?_, ?_, ?_⟩
      · rw [upd_ne hlpk, upd_ne hpr.symm]
        exact hP5
      · rw [upd_same]
        simp
      · rw [List.take_add_one, hk', show (e.1.kids.take i ++ (some k).toList).reverse = k :: (e.1.kids.take i).reverse by simp]
        refine .cons ⟨c, ?_, hkb, Say.ok_kids okb (List.mem_of_getElem? hk'), ?_⟩ (StkAt.mono (G := G) (H := H5) hK5 fun c' xs hc' => ?_)
        · rw [upd_ne hlr, upd_same]
          rfl
        · have := Say.deep_kids (List.mem_of_getElem? hk')
          show e.2 + 1 + k.deep ≤ 21
          omega
        · rw [upd_ne (ne_of hc' hL5 (by intro z; cases z)), upd_ne (ne_of_none hc' nr)]
          exact hc'
    · obtain ⟨ts, y7, rfl, e5, hP5, hL5, hK5⟩ := hP
      have ek : (e.1.kids.take (as.map V.ref).length) = e.1.kids := List.take_of_length_le (by have := Paired.length hkd; simp; omega)
      rw [ek] at hK5
      have hs : stkSize (e.1.kids.reverse.map (fun k => (k, e.2 + 1)) ++ es') + 1 = stkSize (e :: es') := by
        have := e.1.size_kids
        unfold stkSize
        rw [List.map_append, List.sum_append, List.map_map, List.map_cons, List.sum_cons]
        have e0 : ((fun e : Say × Nat => e.1.size) ∘ fun k => (k, e.2 + 1)) = Say.size := rfl
        rw [e0, List.map_reverse, List.sum_reverse]
        omega
      refine ⟨_, ts, n + 1, _, _, _, _, rfl, e5, hL5, hK5, by omega, by omega⟩
def spCheckSaying (cT : Addr) : Sp := fun vs H Q _ => ∃ (G : Hp) (t a : Addr) (T : Tng) (s : Say), vs = [.ref t, .ref a] ∧ Same G H ∧ TongueAt cT G t T ∧ SayAt G s a ∧ s.okT T.marks T.ties ∧ s.size ≤ 100 ∧ s.deep ≤ 20 ∧ ∀ H', Same H H' → Q .non H'
theorem ok_check_saying (D : Def K mg "check_saying" s_check_saying) (c_is_saying : CallOk P w K mg base 5 "is_saying" P_is_saying (spIsSaying cT)) : CallOk P w K mg base 6 "check_saying" P_check_saying (spCheckSaying cT) := by
  refine callOk D sc_check_saying bd_check_saying (fun vs H Q E h => ?_) (fun f cdv A outer st H vs Q E hr h => ?_)
  · obtain ⟨G, t, a, T, s, rfl, _⟩ := h
    rfl
  obtain ⟨G, t, a, T, s, rfl, eG, hT, hS, ok, hz, hd, q⟩ := h
  refine ⟨_, pss_one (ps_if (pt_not (pt_val (pe_cl c_is_saying hr (by rfl) (pa_cons (pv 0) (pa_cons (pv 1) pa_nil))))) (pss_one (ps_never)) (pss_nil)), ?_⟩
  walk_at "rd"
  refine ⟨G, t, a, T, s, rfl, eG, hT, hS, ok, hz, hd, fun H' e => ?_⟩
  walk_at "rd"
  exact q _ e
def Say.closed (s : Say) : Prop := s.fr .x = false ∧ s.fr .y = false
def spCheckClosed (cT : Addr) : Sp := fun vs H Q _ => ∃ (G : Hp) (t a : Addr) (T : Tng) (s : Say), vs = [.ref t, .ref a] ∧ Same G H ∧ TongueAt cT G t T ∧ SayAt G s a ∧ s.okT T.marks T.ties ∧ s.size ≤ 100 ∧ s.deep ≤ 20 ∧ s.closed ∧ ∀ H', Same H H' → Q .non H'
theorem ok_check_closed (D : Def K mg "check_closed" s_check_closed) (c_check_saying : CallOk P w K mg base 6 "check_saying" P_check_saying (spCheckSaying cT)) (c_free_names : CallOk P w K mg base 21 "free_names" P_free_names (spFree 20)) :
    CallOk P w K mg base 22 "check_closed" P_check_closed (spCheckClosed cT) := by
  refine callOk D sc_check_closed bd_check_closed (fun vs H Q E h => ?_) (fun f cdv A outer st H vs Q E hr h => ?_)
  · obtain ⟨G, t, a, T, s, rfl, _⟩ := h
    rfl
  obtain ⟨G, t, a, T, s, rfl, eG, hT, hS, ok, hz, hd, hc, q⟩ := h
  have hr6 : Room 6 _ := hr.mono (by decide)
  refine ⟨_, pss_cons (ps_expr (pe_cl c_check_saying hr6 (by rfl) (pa_cons (pv 0) (pa_cons (pv 1) pa_nil)))) (pss_one (ps_if (pt_truth (pe_cl c_free_names hr (by rfl) (pa_cons (pv 1) pa_nil)) (by intro _; rfl)) (pss_one (ps_never)) (pss_nil))), ?_⟩
  walk_at "rd"
  refine ⟨G, t, a, T, s, rfl, eG, hT, hS, ok, hz, hd, fun H1 e1 => ?_⟩
  walk_at "rd"
  refine ⟨G, a, s, rfl, eG.trans e1, hS, hd, fun p H2 e2 _ hp => ?_⟩
  have ez : s.fvN = [] := by unfold Say.fvN; rw [hc.1, hc.2]; rfl
  rw [ez] at hp
  refine ⟨_, .inr (.inl ⟨_, SqT.of hp, rfl⟩), ?_⟩
  walk_at "rd"
  exact q _ (e1.trans e2)
end
end K48
namespace K48
open PySem PySem.Spec PyProof.Rows L2
local macro_rules | `(tactic| walk_at "rd") => `(tactic| repeat (first | refine ⟨_, rfl, ?_⟩ | refine ⟨_, _, rfl, rfl, ?_⟩ | refine ⟨rfl, ?_⟩ | refine iteTk (by decide +kernel) ?_ | refine iteFk (by decide +kernel) ?_))
local macro_rules | `(tactic| walk_at "rdr") => `(tactic| repeat (first | refine ⟨_, rfl, ?_⟩ | refine ⟨_, _, rfl, rfl, ?_⟩ | refine ⟨rfl, ?_⟩ | refine iteTk (by first | decide +kernel | rfl) ?_ | refine iteFk (by first | decide +kernel | rfl) ?_))
local macro_rules | `(tactic| walk_at "tyn") => `(tactic| first | exact .int _ | exact .bl _ | exact .str _ | exact .tup (by assumption) | exact .lst (by assumption) | exact .dK (by assumption))
local macro_rules | `(tactic| walk_at "isT") => `(tactic| refine ⟨_, _, _, _, true, rfl, .ty _, TyN.x (by walk_at "tyn"), kit_ty (by decide +kernel), ?_⟩)
local macro_rules | `(tactic| walk_at "isF") => `(tactic| refine ⟨_, _, _, _, false, rfl, .ty _, TyN.x (by walk_at "tyn"), kit_ty (by decide +kernel), ?_⟩)
local macro_rules | `(tactic| walk_at "nz") => `(tactic| first | refine nzG (by simp only [List.set_cons_succ, List.set_cons_zero]; rfl) ?_ | refine reS (by simp only [List.set_cons_succ, List.set_cons_zero]; rfl) ?_)
/-! ## {p: True for p in pairs}, the pairs tuples of ints and texts -/
def Sq2 (H : Hp) (a : Addr) (xs : List V) : Prop := H a = some (.lst xs) ∨ H a = some (.tup xs)
def tDcT (ti : TE) : TE := fun σ H Q => ti σ H fun v H1 => ∃ (a : Addr) (qs : List Addr) (ks : List (List Key)), v = .ref a ∧ Sq2 H1 a (qs.map V.ref) ∧
  Paired (fun q k => H1 q = some (.tup (k.map kV))) qs ks ∧ ks.Nodup ∧ ∀ D, H1 D = none → Q (.ref D) (upd H1 D (.dT (ks.map fun k => (k, V.bl true))))
def dcEnts (qs : List Addr) (ks : List (List Key)) : List (List Key × Addr × Value) := (ks.zip qs).map fun p => (p.1, p.2, Value.bool true)
theorem dcEnts_keys : ∀ {qs : List Addr} {ks : List (List Key)}, qs.length = ks.length → (dcEnts qs ks).map (·.1) = ks
  | [], [], _ => rfl
  | q :: qs, k :: ks, h => congrArg (k :: ·) (dcEnts_keys (qs := qs) (ks := ks) (Nat.succ.inj h))
theorem dcEnts_at : ∀ {qs : List Addr} {ks : List (List Key)} {i : Nat} {q : Addr} {k : List Key}, qs[i]? = some q → ks[i]? = some k → (dcEnts qs ks)[i]? = some (k, q, Value.bool true)
  | q :: qs, k :: ks, 0, _, _, h1, h2 => by
    have e1 : q = _ := Option.some.inj h1
    have e2 : k = _ := Option.some.inj h2
    subst e1 e2
    rfl
  | q :: qs, k :: ks, i + 1, _, _, h1, h2 => dcEnts_at (qs := qs) (ks := ks) (i := i) h1 h2
theorem atKey_not {xs : List (List Key × Addr × Value)} {k : List Key} (h : k ∉ xs.map (·.1)) : atKey xs k = none := by
  unfold atKey
  rw [List.find?_eq_none.mpr]
  · rfl
  · intro x hx e
    exact h (List.mem_map.mpr ⟨x, hx, of_decide_eq_true e⟩)
theorem key_kept {P : Program} {w : World} {h h' : Heap} {k : List Key} {a : Addr} (x : (tupleKind (mixKind P w)).is h k a) (kp : ∀ b o, h.get? b = some o → h'.get? b = some o) : (tupleKind (mixKind P w)).is h' k a := by
  obtain ⟨o, items, n, e, r⟩ := x
  exact ⟨o, items, n, kp _ _ e, r⟩
theorem lt_ne {b N D : Nat} (h : b < N) (h2 : N + 1 ≤ D) : b ≠ D := by omega
theorem lt_ne' {b N D M : Nat} (h : b < M) (e : M = N + 1) (h2 : N + 1 ≤ D) : b ≠ D := by omega
theorem le_of1 {N D : Nat} (h2 : N + 1 ≤ D) : N ≤ D := by omega
theorem off_it {b N D : Nat} (h : b < N ∨ N + 1 ≤ b) : b ≠ N := by omega
section
variable {X : Cx}
theorem dcT_run {pins : List (Addr × Obj)} {σ : L2.St} {H : Hp} {s s2 : Shared} {Q : VK} {x : Str} {p1 p2 p3 : Pos} {kk : Nat} {scope : Scope} {cl : List (Str × Addr)} {a : Addr} {qs : List Addr} {ks : List (List Key)} {its : List Value} {fp : List Addr} {St : Nat → Heap → Prop}
    (I : Inv X pins σ H s) (hs2 : ∃ h tk, s2 = { s with heap := h, toks := tk } ∧ h.objs.size = s.heap.objs.size + 1 ∧ ∀ b o, s.heap.get? b = some o → h.get? b = some o)
    (rv : Vals (qs.map V.ref) its) (hz : qs.length ≤ sizeLine) (hp : Paired (fun q k => H q = some (.tup (k.map kV))) qs ks) (hnd : ks.Nodup) (hu : X.A.units + 1 < cLine)
    (W : Goes X.prog X.w X.A (.Name x p3) s.heap.objs.size fp [s.heap.objs.size] its.toArray.size (fun i v _ => its.toArray[i]? = some v) St) (hfp : ∀ b ∈ fp, b < s2.heap.objs.size) (hst : St 0 s2.heap)
    (hkind : scope.kind = .function) (hx : scope.names.lookup x = some .local) (hd : (x == ("__debug__" : Str)) = false)
    (q : ∀ D, H D = none → Q (.ref D) (upd H D (.dT (ks.map fun k => (k, V.bl true))))) :
    DcGoes X.prog X.w X.A X.xe X.env scope cl (.Name x p3) [] (.Name x p1) (.Constant (.bool true) kk p2) none (EP X pins σ Q) (.ref s.heap.objs.size) s2 := by
  obtain ⟨h2, tk2, rfl, hsz, old2⟩ := hs2
  have hits : its = qs.map Value.ref := refs_at rv
  have hlk : qs.length = ks.length := Paired.length hp
  have isz : its.toArray.size = qs.length := by rw [hits]; simp
  refine ⟨_, fp, [s.heap.objs.size], _, _, St, rfl, W, hst, fun D C s3 hB hD => ?_⟩
  obtain ⟨⟨h3, tk3, rfl⟩, old, nD, nC, hDC, hnm⟩ := hB
  have nD' : s.heap.objs.size + 1 ≤ D := by rw [← hsz]; exact nD
  have nC' : s.heap.objs.size + 1 ≤ C := by rw [← hsz]; exact nC
  have kx : (compEnvC scope cl C X.env).kindOf x = some .local := lookup_relabel_local hx
  have hpl : ((compEnvC scope cl C X.env).scope.kind == .class || ((compEnvC scope cl C X.env).scope.kind == .module && (compEnvC scope cl C X.env).locals != (compEnvC scope cl C X.env).globals)) = false := by
    show (scope.kind == .class || (scope.kind == .module && _)) = false
    rw [hkind]; rfl
  have keyAt : ∀ (i : Nat) (k : List Key) (b : Addr), ks[i]? = some k → qs[i]? = some b → (tupleKind (mixKind X.prog X.w)).is s.heap k b := fun i k b h1 h2 => by
    obtain ⟨b', e1, e2⟩ := Paired.at hp h1
    rw [h2] at e1
    cases e1
    exact key_of I.hok e2
  have keyAll : ∀ y ∈ dcEnts qs ks, (tupleKind (mixKind X.prog X.w)).is s.heap y.1 y.2.1 := fun y hy => by
    obtain ⟨i, hi⟩ := List.getElem?_of_mem hy
    have hl : i < (dcEnts qs ks).length := (List.getElem?_eq_some_iff.mp hi).1
    have hl2 : i < ks.length ∧ i < qs.length := by
      unfold dcEnts at hl
      rw [List.length_map, List.length_zip] at hl
      omega
    have e := dcEnts_at (List.getElem?_eq_getElem hl2.2) (List.getElem?_eq_getElem hl2.1)
    rw [e] at hi
    cases hi
    exact keyAt i _ _ (List.getElem?_eq_getElem hl2.1) (List.getElem?_eq_getElem hl2.2)
  have hnoD : ∀ b o, s.heap.get? b = some o → b ≠ D := fun b o e => lt_ne (Heap.lt_size e) nD'
  have hnoC : ∀ b o, s.heap.get? b = some o → b ≠ C := fun b o e => lt_ne (Heap.lt_size e) nC'
  refine ⟨fun i s1 => ∃ h' tk m, s1 = { s with heap := h', toks := tk } ∧ h'.Ns C m ∧ h'.DictOfH (tupleKind (mixKind X.prog X.w)) D ((dcEnts qs ks).take i) ∧ ∀ b o, s.heap.get? b = some o → h'.get? b = some o,
    ⟨h3, tk3, _, rfl, hnm, ?_, fun b o e => old b o (old2 b o e)⟩, ?_, ?_, ?_⟩
  · exact ⟨_, #[], 0, hD, ⟨rfl, rfl, rfl⟩, rfl, rfl, fun _ hx => by simp at hx, List.nodup_nil⟩
  · rintro i s1 h' tk ⟨h4, tk4, m, rfl, n4, d4, k4⟩ hk' _
    have off : ∀ b : Addr, (b < s.heap.objs.size ∨ s.heap.objs.size + 1 ≤ b) → b ∉ [s.heap.objs.size] := fun b hb hm => by
      have e : b = s.heap.objs.size := by simpa using hm
      exact off_it (D := 0) hb e
    refine ⟨h', tk, m, rfl, n4.at' fun o e => hk' _ o (off _ (.inr nC')) e, d4.at' (fun o e => hk' _ o (off _ (.inr nD')) e) (fun y hy => ?_), fun b o e => hk' b o (off _ (.inl (Heap.lt_size e))) (k4 b o e)⟩
    exact key_kept (keyAll y (List.mem_of_mem_take hy)) fun b o e => hk' b o (off _ (.inl (Heap.lt_size e))) (k4 b o e)
  · rintro i v s1 hi hv st ⟨h4, tk4, m, rfl, n4, d4, k4⟩
    have hi' : i < qs.length := by rw [← isz]; exact hi
    have ev : v = Value.ref qs[i] := by
      have : its[i]? = some v := by simpa using hv
      rw [hits, List.getElem?_map, List.getElem?_eq_getElem hi'] at this
      exact (Option.some.inj this).symm
    subst ev
    refine wpAny_assign_Name (wpAny_storeName_local kx n4 (fun h5 n5 s5 => ?_) hpl)
    refine wpAny_tests_nil ?_
    show wpAny _ _ _ _ _ _
    rw [eval_Name _ _ _ hd]
    refine wpAny_bind (wpAny_standAt (wpAny_loadName_local hkind kx n5 (v := Value.ref qs[i]) (if_pos rfl) ?_))
    refine Constant_bool ?_
    have k5 : ∀ b o, s.heap.get? b = some o → h5.get? b = some o := fun b o e => s5.extBut b o (hnoC b o e) (k4 b o e)
    have ik : i < ks.length := by omega
    have hkey := key_kept (keyAt i ks[i] qs[i] (List.getElem?_eq_getElem ik) (List.getElem?_eq_getElem hi')) k5
    have d5 : h5.DictOfH (tupleKind (mixKind X.prog X.w)) D ((dcEnts qs ks).take i) := d4.at' (fun o e => s5.extBut _ o hDC e) fun y hy => key_kept (keyAll y (List.mem_of_mem_take hy)) k5
    have hnew : ks[i] ∉ ((dcEnts qs ks).take i).map (·.1) := by
      rw [List.map_take, dcEnts_keys hlk]
      intro hm
      obtain ⟨j, hj⟩ := List.getElem?_of_mem hm
      obtain ⟨hj1, hj2⟩ := List.getElem?_eq_some_iff.mp hj
      rw [List.length_take] at hj1
      rw [List.getElem_take] at hj2
      have := (List.getElem_inj hnd).mp hj2
      omega
    refine wpAny_dictSet_heap (s := { s with heap := h5, toks := _ }) (show X.A.units < cLine by omega) hkey d5 (fun h6 d6 s6 => ?_) (by rw [List.length_take]; omega)
    rw [storedH_new (atKey_not hnew)] at d6
    have et : (dcEnts qs ks).take (i + 1) = (dcEnts qs ks).take i ++ [(ks[i], qs[i], Value.bool true)] := by
      rw [List.take_add_one, dcEnts_at (List.getElem?_eq_getElem hi') (List.getElem?_eq_getElem ik)]
      rfl
    refine ⟨⟨h6, _, _, rfl, n5.sameBut s6 (Ne.symm hDC), by rw [et]; exact d6, fun b o e => s6.extBut b o (hnoD b o e) (k5 b o e)⟩, W.frame _ _ _ st fun b hb o e => ?_⟩
    have hb' := hfp b hb
    exact s6.extBut b o (lt_ne' hb' hsz nD') (s5.extBut b o (lt_ne' hb' hsz nC') e)
  · rintro s1 ⟨h4, tk4, m, rfl, n4, d4, k4⟩
    refine ⟨m, n4, fun h' hs' => ?_⟩
    have k5 : ∀ b o, s.heap.get? b = some o → h'.get? b = some o := fun b o e => hs'.extBut b o (hnoC b o e) (k4 b o e)
    have eA : (dcEnts qs ks).take its.toArray.size = dcEnts qs ks := List.take_of_length_le (by unfold dcEnts; rw [List.length_map, List.length_zip, isz]; omega)
    rw [eA] at d4
    obtain ⟨o, es, ep, ho, hc, hdat, he, his, hn⟩ := d4
    have hlow : (D == sysModules) = false := by
      have h1 := I.big
      exact beq_eq_false_iff_ne.mpr (Ne.symm (lt_ne h1 nD'))
    have new : ObjOk X.prog X.w (upd H D (.dT (ks.map fun k => (k, V.bl true)))) h' D (.dT (ks.map fun k => (k, V.bl true))) := by
      refine ⟨by rw [List.length_map]; omega, hlow, dcEnts qs ks, ?_, o, es, ep, hs'.extBut _ o hDC ho, hc, hdat, he, hn⟩
      have hH : ∀ (q : Addr) (k : List Key), H q = some (.tup (k.map kV)) → upd H D (.dT (ks.map fun k => (k, V.bl true))) q = some (.tup (k.map kV)) := fun q k e => by
        rw [upd_ne]
        · exact e
        · exact lt_ne (I.hok.lt e) nD'
      revert hH
      generalize upd H D (.dT (ks.map fun k => (k, V.bl true))) = H'
      intro hH
      clear hnd hn he his keyAll keyAt eA hits isz hlk rv hz q W
      induction hp with
      | nil => exact .nil
      | cons h t ih => exact .cons ⟨rfl, hH _ _ h, rfl⟩ ih
    exact ⟨.ref D, _, I.laid (t' := tk4) k5 (le_of1 nD') new, rfl, q D (I.hok.fresh (le_of1 nD'))⟩
theorem pe_dcT {x : Str} {p1 p2 p3 : Pos} {kk : Nat} {iter : Expr} {ti : TE} {scope : Scope} {own : List (Str × Nat)} {pos : Pos} (hc : X.calm = true) (hu : X.A.units + 1 < cLine) (hi : PE X iter ti) (ok : BlkOk X.N X.env.scope scope own)
    (hcell : ∀ y ∈ scope.names, y.2 ≠ .cell := by decide +kernel) (hx : scope.names.lookup x = some .local := by first | rfl | decide +kernel) (hd : (x == ("__debug__" : Str)) = false := by decide)
    (hs : ∀ x, foldedSetIterable iter X.env x = pure x := by intro _; rfl) : PE X (.DictComp (.Name x p1) (.Constant (.bool true) kk p2) [⟨.Name x p3, iter, [], 0⟩] scope pos) (tDcT ti) := by
  refine ⟨fun pins s σ H Q I h => ?_⟩
  have hfree : ∀ y ∈ scope.names, y.2 = .free → ∃ c, X.env.cells.lookup y.1 = some c := fun y hy e => by
    rcases ok.free y hy e with k | k
    · exact I.ok.has _ (.inl k)
    · exact I.ok.has _ (.inr k)
  refine DictComp_goes (closure_ok hfree) hcell ok.kind (fun y hy e => by rw [ok.uniq y hy, e]) ?_ hs
  refine thn (hi.run pins s σ H _ I h) fun v s1 ⟨vv, H1, I1, r1, a, qs, ks, e, hl, hp, hnd, q⟩ => ?_
  subst e
  cases r1
  have hl : SqL X.K H1 a (qs.map V.ref) ∨ SqT X.K H1 a (qs.map V.ref) := hl.elim (fun h => .inl (SqL.of h)) (fun h => .inr (SqT.of h))
  have hlt : a < s1.heap.objs.size := by
    rcases hl with hl | hl
    · obtain ⟨its, rv, pl, hz⟩ := I1.list hl
      obtain ⟨o, ho, _⟩ := pl.isList
      exact Heap.lt_size ho
    · obtain ⟨its, rv, pl, hz⟩ := I1.tuple hl
      exact pl.lt
  have fpl : ∀ (o : Obj) b, b ∈ [s1.heap.objs.size, a] → b < (s1.heap.push o).objs.size := fun o b hb => by
    rw [Heap.size_push]
    have : b = s1.heap.objs.size ∨ b = a := by simpa using hb
    rcases this with e | e
    · rw [e]; exact Nat.lt_succ_self _
    · rw [e]; exact Nat.lt_succ_of_lt hlt
  rcases hl with hl | hl
  · obtain ⟨its, rv, pl, hz⟩ := I1.list hl
    refine wpAny_pyIter_list pl.isList ?_
    exact dcT_run (a := a) I1 ⟨_, s1.toks, rfl, Heap.size_push .., fun b o e => Heap.get?_push_of_some _ e⟩ rv (by simpa using hz) hp hnd hu (Goes.list (I1.ok.hd hc) s1.heap.objs.size a (Nat.ne_of_lt hlt) its.toArray) (fpl _) ⟨⟨_, Heap.get?_push_size _ rfl, rfl, rfl⟩, pl.isList.push _⟩ ok.kind hx hd q
  · obtain ⟨its, rv, pl, hz⟩ := I1.tuple hl
    have ht : s1.heap.IsTuple a its.toArray := pl
    refine wpAny_pyIter_tuple ht ?_
    exact dcT_run (a := a) I1 ⟨_, s1.toks, rfl, Heap.size_push .., fun b o e => Heap.get?_push_of_some _ e⟩ rv (by simpa using hz) hp hnd hu (Goes.tuple (I1.ok.hd hc) s1.heap.objs.size a (Nat.ne_of_lt hlt) its.toArray) (fpl _) ⟨⟨_, Heap.get?_push_size _ rfl, rfl, rfl⟩, ht.push _⟩ ok.kind hx hd q
end
end K48
namespace K48
open PySem PySem.Spec PyProof.Rows L2
local macro_rules | `(tactic| walk_at "rd") => `(tactic| repeat (first | refine ⟨_, rfl, ?_⟩ | refine ⟨_, _, rfl, rfl, ?_⟩ | refine ⟨rfl, ?_⟩ | refine iteTk (by decide +kernel) ?_ | refine iteFk (by decide +kernel) ?_))
local macro_rules | `(tactic| walk_at "rdr") => `(tactic| repeat (first | refine ⟨_, rfl, ?_⟩ | refine ⟨_, _, rfl, rfl, ?_⟩ | refine ⟨rfl, ?_⟩ | refine iteTk (by first | decide +kernel | rfl) ?_ | refine iteFk (by first | decide +kernel | rfl) ?_))
local macro_rules | `(tactic| walk_at "tyn") => `(tactic| first | exact .int _ | exact .bl _ | exact .str _ | exact .tup (by assumption) | exact .lst (by assumption) | exact .dK (by assumption))
local macro_rules | `(tactic| walk_at "isT") => `(tactic| refine ⟨_, _, _, _, true, rfl, .ty _, TyN.x (by walk_at "tyn"), kit_ty (by decide +kernel), ?_⟩)
local macro_rules | `(tactic| walk_at "isF") => `(tactic| refine ⟨_, _, _, _, false, rfl, .ty _, TyN.x (by walk_at "tyn"), kit_ty (by decide +kernel), ?_⟩)
local macro_rules | `(tactic| walk_at "nz") => `(tactic| first | refine nzG (by simp only [List.set_cons_succ, List.set_cons_zero]; rfl) ?_ | refine reS (by simp only [List.set_cons_succ, List.set_cons_zero]; rfl) ?_)
/-! ## d.copy() -/
/-- a pair of small things as a key -/
def pk (p : Nat × Nat) : List Key := [Sum.inl (p.1 : Int), Sum.inl (p.2 : Int)]
theorem pk_inj {p q : Nat × Nat} (h : pk p = pk q) : p = q := by
  obtain ⟨a, b⟩ := p
  obtain ⟨c, d⟩ := q
  unfold pk at h
  injection h with h1 h2
  injection h2 with h2 _
  have e1 := Sum.inl.inj h1
  have e2 := Sum.inl.inj h2
  simp only at e1 e2
  rw [show a = c by omega, show b = d by omega]
/-- the hash of a key of two small ints -/
def hp2 (i j : Nat) : Int := reduceHash (Builtin.Tuple.tupleHashOf [hashInt (i : Int), hashInt (j : Int)])
def hpAll : List Int := (List.range 256).map fun n => hp2 (n / 16) (n % 16)
theorem hpAll_nodup : hpAll.Nodup := by decide +kernel
theorem hp2_inj {i j k l : Nat} (hi : i < 16) (hj : j < 16) (hk : k < 16) (hl : l < 16) (h : hp2 i j = hp2 k l) : i = k ∧ j = l := by
  have at_ : ∀ a b : Nat, a < 16 → b < 16 → hpAll[16 * a + b]? = some (hp2 a b) := fun a b ha hb => by
    unfold hpAll
    rw [List.getElem?_map, List.getElem?_range (by omega), Option.map_some]
    rw [show (16 * a + b) / 16 = a by omega, show (16 * a + b) % 16 = b by omega]
  have e1 := at_ i j hi hj
  have e2 := at_ k l hk hl
  rw [h] at e1
  have e3 := nd_ix hpAll_nodup e1 e2
  omega
theorem hash_pk (w : World) (P : Program) (p : Nat × Nat) : (tupleKind (mixKind P w)).hash (pk p) = hp2 p.1 p.2 := rfl
theorem hash_nodup {hsh : List Key → Int} (hh : ∀ p : Nat × Nat, hsh (pk p) = hp2 p.1 p.2) {xs : List (List Key × Addr × Value)} {ps : List (Nat × Nat)} (hkeys : xs.map (·.1) = ps.map pk) (hn : (xs.map (·.1)).Nodup) (hb : ∀ p ∈ ps, p.1 < 16 ∧ p.2 < 16) :
    (xs.map fun x => hsh x.1).Nodup := by
  have e1 : (xs.map fun x => hsh x.1) = (xs.map (·.1)).map hsh := by rw [List.map_map]; rfl
  rw [hkeys] at hn
  rw [e1, hkeys, List.map_map]
  have hps : ps.Nodup := by
    rw [List.Nodup, List.pairwise_map] at hn
    exact hn.imp fun h e => h (by rw [e])
  rw [List.Nodup, List.pairwise_map]
  refine List.Pairwise.imp_of_mem (fun {p q} hp hq hne e => hne ?_) hps
  obtain ⟨b1, b2⟩ := hb p hp
  obtain ⟨b3, b4⟩ := hb q hq
  have e' : hp2 p.1 p.2 = hp2 q.1 q.2 := by
    rw [← hh p, ← hh q]
    exact e
  obtain ⟨e2, e3⟩ := hp2_inj b1 b2 b3 b4 e'
  exact Prod.ext e2 e3
def rCopy : V → List V → Hp → VK → Prop := fun x xs H Q => ∃ a, x = .ref a ∧ xs = [] ∧
  ((∃ kvs : List (Key × V), H a = some (.dK kvs) ∧ ∀ p, H p = none → Q (.ref p) (upd H p (.dK kvs))) ∨
   ∃ ps : List (Nat × Nat), H a = some (.dT (ps.map fun p => (pk p, V.bl true))) ∧ (∀ p ∈ ps, p.1 < 16 ∧ p.2 < 16) ∧ ∀ p, H p = none → Q (.ref p) (upd H p (.dT (ps.map fun p => (pk p, V.bl true)))))
theorem keyApart_val {K : Type} [DecidableEq K] {prog : Program} {w : World} {knd : KeyKind prog w K} {s : Shared} {es : Array DictEntry} (h : KeysOf knd es) : ∀ e ∈ es.toList, KeyApart s es e := fun e he => by
  obtain ⟨k, hk, _⟩ := h e (by simpa using he)
  exact .inl (knd.byValue _ _ hk)
theorem sys_lt {a b c : Nat} (h : c < b) (e : a = b) : a ≠ c := by omega
section
variable {X : Cx}
theorem mt_copy : MtR X "dict.copy" rCopy := by
  intro pins s σ H x xs v us Q I rx rxs h
  obtain ⟨a, rfl, rfl, h⟩ := h
  cases rx
  cases rxs
  have low : ∀ D : Addr, D = s.heap.objs.size → (D == sysModules) = false := fun D e => beq_eq_false_iff_ne.mpr (sys_lt I.big e)
  rcases h with ⟨kvs, ha, q⟩ | ⟨ps, ha, hb, q⟩
  · obtain ⟨z, hd, vs, rel, o, es, ep, ho, hc, hdat, hka, hpa, hn⟩ := dk_of I.hok ha
    have hsz : es.size ≤ sizeLine := by
      have e1 := hpa.length
      have e2 := rel.length
      rw [Array.length_toList] at e1
      omega
    refine call_copy_raw hd ⟨o, ho, hc, hdat⟩ hsz (keyApart_val hka) fun h' hr hk => ?_
    obtain ⟨o', ho', hc', hdat'⟩ := hr
    refine ⟨.ref s.heap.objs.size, _, I.laid (o := .dK kvs) (t' := s.toks) hk (Nat.le_refl _) ⟨z, low _ rfl, vs, rel, o', es, 0, ho', hc', hdat', hka, hpa, hn⟩, rfl, q _ (I.hok.fresh (Nat.le_refl _))⟩
  · obtain ⟨z, hd, xs, rel, o, es, ep, ho, hc, hdat, he, hn⟩ := (show ObjOk X.prog X.w H s.heap a (.dT (ps.map fun p => (pk p, V.bl true))) from I.hok a _ ha)
    have hd2 := (dt_of I.hok ha)
    obtain ⟨_, _, xs2, rel2, dd2⟩ := hd2
    have hlen : es.size = xs.length := size_of_entries he
    have hlx : ps.length = xs.length := by have := Paired.length rel; simpa using this
    have hty : ∀ x ∈ xs, s.TypeIs (.ref x.2.1) "tuple" := fun x hx => by
      obtain ⟨i, hi⟩ := List.getElem?_of_mem hx
      obtain ⟨p, hp, h1, h2, h3⟩ := Paired.at rel hi
      obtain ⟨_, its, r, o2, e1, e2, _⟩ := (show ObjOk X.prog X.w H s.heap x.2.1 (.tup _) from I.hok _ _ h2)
      exact ⟨o2, e1, e2⟩
    have hkeys : xs.map (·.1) = ps.map pk := by
      have g : ∀ {l : List (List Key × V)} {m : List (List Key × Addr × Value)}, Paired (fun (p : List Key × V) (q : List Key × Addr × Value) => p.1 = q.1 ∧ H q.2.1 = some (.tup (p.1.map kV)) ∧ L2.RelV p.2 q.2.2) l m → m.map (·.1) = l.map (·.1) := fun r => by
        induction r with
        | nil => rfl
        | cons h t ih => rw [List.map_cons, List.map_cons, ih, h.1]
      rw [g rel, List.map_map]
      rfl
    have hap : (xs.map fun x => (tupleKind (mixKind X.prog X.w)).hash x.1).Nodup := hash_nodup (hash_pk X.w X.prog) hkeys hn hb
    refine call_copy_raw hd ⟨o, ho, hc, hdat⟩ (by rw [hlen, ← hlx]; rw [List.length_map] at z; exact z) (keysApart he hty hap) fun h' hr hk => ?_
    obtain ⟨o', ho', hc', hdat'⟩ := hr
    refine ⟨.ref s.heap.objs.size, _, I.laid (o := .dT (ps.map fun p => (pk p, V.bl true))) (t' := s.toks) hk (Nat.le_refl _) ⟨z, low _ rfl, xs, Paired.mapP rel fun p y h => ⟨h.1, ?_, h.2.2⟩, o', es, 0, ho', hc', hdat', he, hn⟩, rfl, q _ (I.hok.fresh (Nat.le_refl _))⟩
    rw [upd_ne (ne_of_none h.2.1 (I.hok.fresh (Nat.le_refl _)))]
    exact h.2.1
end
end K48
namespace K48
open PySem PySem.Spec PyProof.Rows L2
local macro_rules | `(tactic| walk_at "rd") => `(tactic| repeat (first | refine ⟨_, rfl, ?_⟩ | refine ⟨_, _, rfl, rfl, ?_⟩ | refine ⟨rfl, ?_⟩ | refine iteTk (by decide +kernel) ?_ | refine iteFk (by decide +kernel) ?_))
local macro_rules | `(tactic| walk_at "rdr") => `(tactic| repeat (first | refine ⟨_, rfl, ?_⟩ | refine ⟨_, _, rfl, rfl, ?_⟩ | refine ⟨rfl, ?_⟩ | refine iteTk (by first | decide +kernel | rfl) ?_ | refine iteFk (by first | decide +kernel | rfl) ?_))
local macro_rules | `(tactic| walk_at "tyn") => `(tactic| first | exact .int _ | exact .bl _ | exact .str _ | exact .tup (by assumption) | exact .lst (by assumption) | exact .dK (by assumption))
local macro_rules | `(tactic| walk_at "isT") => `(tactic| refine ⟨_, _, _, _, true, rfl, .ty _, TyN.x (by walk_at "tyn"), kit_ty (by decide +kernel), ?_⟩)
local macro_rules | `(tactic| walk_at "isF") => `(tactic| refine ⟨_, _, _, _, false, rfl, .ty _, TyN.x (by walk_at "tyn"), kit_ty (by decide +kernel), ?_⟩)
local macro_rules | `(tactic| walk_at "nz") => `(tactic| first | refine nzG (by simp only [List.set_cons_succ, List.set_cons_zero]; rfl) ?_ | refine reS (by simp only [List.set_cons_succ, List.set_cons_zero]; rfl) ?_)
/-! ## The dict of what was told: its keys are (number, thing or None) -/
abbrev TKey := Nat × Option Nat
def spV : Option Nat → V
  | none => .non
  | some i => .int (i : Nat)
def nk (k : TKey) : NestedKey := .tup [.num (k.1 : Nat), match k.2 with | none => .none | some i => .num (i : Nat)]
def kt (k : TKey) : List V := [.int (k.1 : Nat), spV k.2]
theorem nk_inj {j k : TKey} (h : nk j = nk k) : j = k := by
  obtain ⟨a, b⟩ := j
  obtain ⟨c, d⟩ := k
  unfold nk at h
  injection h with h
  injection h with h1 h2
  injection h1 with h1
  injection h2 with h2
  have e1 : a = c := by have h1' : ((a : Nat) : Int) = ((c : Nat) : Int) := h1; omega
  subst e1
  cases b <;> cases d <;> simp at h2 ⊢
  exact Int.ofNat.inj h2
theorem nk_depth (k : TKey) : (nk k).depth ≤ 8 := by
  obtain ⟨a, b⟩ := k
  cases b with
  | none => exact Nat.le_trans (Nat.le_of_eq (by simp [nk, NestedKey.depth, NestedKey.depthAll] : (nk (a, none)).depth = 1)) (by decide)
  | some i => exact Nat.le_trans (Nat.le_of_eq (by simp [nk, NestedKey.depth, NestedKey.depthAll] : (nk (a, some i)).depth = 1)) (by decide)
abbrev Told := List (TKey × Addr × Bool)
def tE (x : TKey × Addr × Bool) : NestedKey × Addr × Value := (nk x.1, x.2.1, .bool x.2.2)
def ToldO (P : Program) (w : World) (a : Addr) (xs : Told) : HO := .ext fun h => (a == sysModules) = false ∧ xs.length ≤ sizeLine ∧ ∃ o es ep, h.get? a = some o ∧ o.ExactDict ∧ o.data = .dict es ep ∧ es.toList = xs.map (fun x => entryOfKey (nestedKind P w) (tE x)) ∧ (xs.map (·.1)).Nodup
def ToldAt (P : Program) (w : World) (H : Hp) (a : Addr) (xs : Told) : Prop := H a = some (ToldO P w a xs) ∧ ∀ x ∈ xs, H x.2.1 = some (.tup (kt x.1))
def lookT (xs : Told) (k : TKey) : Option Bool := (xs.find? fun x => decide (x.1 = k)).map (·.2.2)
theorem atKey_told (k : TKey) : ∀ xs : Told, atKey (xs.map tE) (nk k) = (xs.find? fun x => decide (x.1 = k)).map fun x => (x.2.1, Value.bool x.2.2)
  | [] => rfl
  | x :: xs => by
    have ih := atKey_told k xs
    unfold atKey at ih ⊢
    by_cases e : x.1 = k
    · rw [List.map_cons, List.find?_cons, List.find?_cons]
      simp [tE, e]
    · have e' : ¬ nk x.1 = nk k := fun q => e (nk_inj q)
      rw [List.map_cons, List.find?_cons, List.find?_cons]
      simp only [tE, e', e, decide_false]
      exact ih
theorem lookT_none {xs : Told} {k : TKey} (h : lookT xs k = none) : k ∉ xs.map (·.1) := by
  intro hm
  obtain ⟨x, hx, e⟩ := List.mem_map.mp hm
  unfold lookT at h
  rw [Option.map_eq_none_iff, List.find?_eq_none] at h
  exact h x hx (decide_eq_true e)
theorem lookT_snoc (xs : Told) (k j : TKey) (b : Addr) (v : Bool) (h : lookT xs k = none) : lookT (xs ++ [(k, b, v)]) j = if j = k then some v else lookT xs j := by
  unfold lookT at h ⊢
  rw [List.find?_append]
  by_cases e : j = k
  · subst e
    rw [Option.map_eq_none_iff] at h
    rw [h]
    simp
  · have e' : ¬ k = j := fun q => e q.symm
    simp [e, e']
theorem add_lt8 {u c : Nat} (h : u + 64 < c) : u + 1 + 8 < c := by omega
section
variable {X : Cx} {pins : List (Addr × Obj)} {σ : L2.St} {H : Hp} {s : Shared} {a b : Addr} {k : TKey} {xs : Told}
theorem told_key (I : Inv X pins σ H s) (h : H b = some (.tup (kt k))) : (nestedKind X.prog X.w).is s.heap (nk k) b := by
  obtain ⟨_, its, r, o, h1, h2, n, h3⟩ := (show ObjOk X.prog X.w H s.heap b (.tup (kt k)) from I.hok b _ h)
  refine ⟨NestedIs.tup h1 h2 h3 ?_, nk_depth k⟩
  obtain ⟨i, sp⟩ := k
  unfold kt at r
  cases r with
  | cons r1 r =>
    cases r with
    | cons r2 r =>
      cases r
      obtain ⟨t, rfl⟩ := r1
      refine .cons (.int _ _) (.cons ?_ .nil)
      cases sp with
      | none => cases r2; exact .none
      | some j => obtain ⟨t2, rfl⟩ := r2; exact .int _ _
theorem told_dict (I : Inv X pins σ H s) (h : ToldAt X.prog X.w H a xs) : (a == sysModules) = false ∧ xs.length ≤ sizeLine ∧ s.heap.DictOfH (nestedKind X.prog X.w) a (xs.map tE) := by
  obtain ⟨ha, hk⟩ := h
  obtain ⟨⟨low, hl, o, es, ep, ho, hc, hd, he, hn⟩, _⟩ := (show ObjOk X.prog X.w H s.heap a (ToldO X.prog X.w a xs) from I.hok a _ ha)
  refine ⟨low, hl, o, es, ep, ho, hc, hd, by rw [he, List.map_map]; rfl, fun y hy => ?_, ?_⟩
  · obtain ⟨x, hx, rfl⟩ := List.mem_map.mp hy
    exact told_key I (hk x hx)
  · rw [List.map_map]
    have e : ((fun x : NestedKey × Addr × Value => x.1) ∘ tE) = nk ∘ fun x : TKey × Addr × Bool => x.1 := rfl
    rw [e, ← List.map_map]
    rw [List.Nodup, List.pairwise_map]
    exact List.Pairwise.imp (fun h q => h (nk_inj q)) hn
def rToldNI (P : Program) (w : World) : R2 := fun x y H Q => ∃ b a k xs, x = .ref b ∧ y = .ref a ∧ H b = some (.tup (kt k)) ∧ ToldAt P w H a xs ∧ Q (.bl (!(lookT xs k).isSome)) H
theorem op_toldNI (hu : X.A.units + 64 < cLine) : OpR X (compareOp .NotIn) (rToldNI X.prog X.w) := by
  intro pins s σ H x y v u Q I rx ry h
  obtain ⟨b, a, k, xs, rfl, rfl, hb, ht, q⟩ := h
  cases rx
  cases ry
  obtain ⟨low, hl, dd⟩ := told_dict I ht
  refine notIn_keyed (add_lt8 hu) (told_key I hb) low ⟨_, dd, rfl⟩ ?_
  rw [valueAt_pairsH, atKey_told, Option.isSome_map, Option.isSome_map]
  unfold lookT at q
  rw [Option.isSome_map] at q
  exact ⟨.bl _, H, I.tok _, rfl, q⟩
def tToldGet (P : Program) (w : World) (td ty : TE) : TE := fun σ H Q => td σ H fun x H1 => ty σ H1 fun y H2 => ∃ a b k xs v, x = .ref a ∧ y = .ref b ∧ H2 b = some (.tup (kt k)) ∧ ToldAt P w H2 a xs ∧ lookT xs k = some v ∧ Q (.bl v) H2
theorem pe_toldGet {o i : Expr} {td ty : TE} {pos : Pos} (hu : X.A.units + 64 < cLine) (ho : PE X o td) (hi : PE X i ty) (hs : NoSl i) : PE X (.Subscript o i pos) (tToldGet X.prog X.w td ty) := by
  refine ⟨fun pins s σ H Q I h => subD_of PySem.F.slot_dict_getitem.lookup hs (thn (ho.run pins s σ H _ I h) fun v s1 ⟨x, H1, I1, rx, q1⟩ => thn (hi.run pins s1 σ H1 _ I1 q1) fun u s2 ⟨y, H2, I2, ry, q2⟩ => ?_)⟩
  obtain ⟨a, b, k, xs, v0, rfl, rfl, hb, ht, hv, q⟩ := q2
  cases rx
  cases ry
  obtain ⟨low, hl, dd⟩ := told_dict I2 ht
  refine ⟨dd.typeIs, getItem_keyed (v := .bool v0) (add_lt8 hu) (told_key I2 hb) ⟨_, dd, rfl⟩ ?_ ⟨.bl v0, H2, I2.tok _, rfl, q⟩⟩
  rw [valueAt_pairsH, atKey_told]
  unfold lookT at hv
  obtain ⟨z, hz, hz2⟩ := Option.map_eq_some_iff.mp hv
  rw [hz]
  simp [hz2]
/-- d[key] = flag, the key not yet there -/
def sToldPut (P : Program) (w : World) (td ty tv : TE) : TS := fun D σ H => tv σ H fun v H1 => td σ H1 fun x H2 => ty σ H2 fun y H3 => ∃ a b k xs f, v = .bl f ∧ x = .ref a ∧ y = .ref b ∧ H3 b = some (.tup (kt k)) ∧ ToldAt P w H3 a xs ∧ lookT xs k = none ∧ xs.length < sizeLine ∧
  D.nx σ (upd H3 a (ToldO P w a (xs ++ [(k, b, f)])))
theorem ps_toldPut {o i value : Expr} {td ty tv : TE} {pos pos' : Pos} (hu : X.A.units + 64 < cLine) (ho : PE X o td) (hi : PE X i ty) (hv : PE X value tv) (hs : swapsWith value (some (.Subscript o i pos')) pos.line X.env = pure false) :
    PS X (.Assign [.Subscript o i pos'] value pos) (sToldPut X.prog X.w td ty tv) := by
  refine ⟨fun pins s σ H D I h => wpAny_Assign_Subscript (thn (hv.run pins s σ H _ I h) fun r s1 ⟨v, H1, I1, rv, q1⟩ => thn (ho.run pins s1 σ H1 _ I1 q1) fun u s2 ⟨x, H2, I2, rx, q2⟩ => thn (hi.run pins s2 σ H2 _ I2 q2) fun iv s3 ⟨y, H3, I3, ry, q3⟩ => ?_) hs⟩
  obtain ⟨a, b, k, xs, f, rfl, rfl, rfl, hb, ht, hn, hl, q⟩ := q3
  cases rx
  cases ry
  cases rv
  obtain ⟨low, _, dd⟩ := told_dict I3 ht
  have hat : atKey (xs.map tE) (nk k) = none := by
    rw [atKey_told]
    unfold lookT at hn
    rw [Option.map_eq_none_iff] at hn
    rw [hn]
    rfl
  refine wpAny_setItem_heap (hsz := by rw [List.length_map]; exact Nat.le_of_lt hl) (add_lt8 hu) (told_key I3 hb) dd fun h' dd' hs' => ?_
  rw [storedH_new hat] at dd'
  obtain ⟨o', es, ep, ho', hc, hd, he, _, _⟩ := dd'
  have hnd : ((xs ++ [(k, b, f)]).map (·.1)).Nodup := by
    obtain ⟨⟨_, _, _, _, _, _, _, _, _, hn2⟩, _⟩ := (show ObjOk X.prog X.w H3 s3.heap a (ToldO X.prog X.w a xs) from I3.hok a _ ht.1)
    rw [List.map_append]
    exact nd_snoc hn2 (lookT_none hn)
  have φ : (a == sysModules) = false ∧ (xs ++ [(k, b, f)]).length ≤ sizeLine ∧ ∃ o es ep, h'.get? a = some o ∧ o.ExactDict ∧ o.data = .dict es ep ∧ es.toList = (xs ++ [(k, b, f)]).map (fun x => entryOfKey (nestedKind X.prog X.w) (tE x)) ∧ ((xs ++ [(k, b, f)]).map (·.1)).Nodup :=
    ⟨low, by rw [List.length_append]; exact hl, o', es, ep, ho', hc, hd, by rw [he, List.map_append, List.map_append, List.map_map]; rfl, hnd⟩
  exact ⟨σ, _, d_write (ob := ToldO X.prog X.w a (xs ++ [(k, b, f)])) I3 (by rw [ht.1]; exact True.intro) hs' ⟨o', ho'⟩ ⟨φ, ⟨o', ho'⟩, fun h1 h2 p kp => by
    obtain ⟨p1, p2, o, es, ep, p3, p4⟩ := p
    exact ⟨p1, p2, o, es, ep, kp _ p3, p4⟩⟩, q⟩
def tToldNew (P : Program) (w : World) : TE := fun _ H Q => ∀ p, H p = none → Q (.ref p) (upd H p (ToldO P w p []))
theorem pe_toldNew {pos : Pos} : PE X (.Dict [] [] pos) (tToldNew X.prog X.w) := by
  refine ⟨fun pins s σ H Q I h => ?_⟩
  refine thn (pe_dnewK.run pins s σ H (fun v H' => ∃ p, v = .ref p ∧ H p = none ∧ H' = upd H p (.dK [])) I fun p hp => ⟨p, rfl, hp, rfl⟩) fun u s1 ⟨v, H1, I1, rv, p, ev, hp, eH⟩ => ?_
  subst ev eH
  refine ⟨.ref p, upd H p (ToldO X.prog X.w p []), ?_, rv, h p hp⟩
  obtain ⟨z, low, vs, rel, o, es, ep, ho, hc, hd, _, hpa, _⟩ := dk_of I1.hok (upd_same (H := H) (a := p) (o := .dK []))
  have e0 : es.toList = [] := by
    cases rel
    have := hpa.length
    exact List.eq_nil_of_length_eq_zero this
  have new : ObjOk X.prog X.w (upd (upd H p (.dK [])) p (ToldO X.prog X.w p [])) s1.heap p (ToldO X.prog X.w p []) :=
    ⟨⟨low, Nat.zero_le _, o, es, ep, ho, hc, hd, e0, List.nodup_nil⟩, ⟨o, ho⟩, fun h1 h2 q kp => by
      obtain ⟨p1, p2, o, es, ep, p3, p4⟩ := q
      exact ⟨p1, p2, o, es, ep, kp _ p3, p4⟩⟩
  have := d_write (h' := s1.heap) (t' := s1.toks) I1 (by rw [upd_same]; exact True.intro) (Heap.SameBut.refl _ _) ⟨o, ho⟩ new
  rw [upd_upd] at this
  exact this
end
end K48
namespace K48
open PySem PySem.Spec PyProof.Rows L2
local macro_rules | `(tactic| walk_at "rd") => `(tactic| repeat (first | refine ⟨_, rfl, ?_⟩ | refine ⟨_, _, rfl, rfl, ?_⟩ | refine ⟨rfl, ?_⟩ | refine iteTk (by decide +kernel) ?_ | refine iteFk (by decide +kernel) ?_))
local macro_rules | `(tactic| walk_at "rdr") => `(tactic| repeat (first | refine ⟨_, rfl, ?_⟩ | refine ⟨_, _, rfl, rfl, ?_⟩ | refine ⟨rfl, ?_⟩ | refine iteTk (by first | decide +kernel | rfl) ?_ | refine iteFk (by first | decide +kernel | rfl) ?_))
local macro_rules | `(tactic| walk_at "tyn") => `(tactic| first | exact .int _ | exact .bl _ | exact .str _ | exact .tup (by assumption) | exact .lst (by assumption) | exact .dK (by assumption))
local macro_rules | `(tactic| walk_at "isT") => `(tactic| refine ⟨_, _, _, _, true, rfl, .ty _, TyN.x (by walk_at "tyn"), kit_ty (by decide +kernel), ?_⟩)
local macro_rules | `(tactic| walk_at "isF") => `(tactic| refine ⟨_, _, _, _, false, rfl, .ty _, TyN.x (by walk_at "tyn"), kit_ty (by decide +kernel), ?_⟩)
local macro_rules | `(tactic| walk_at "nz") => `(tactic| first | refine nzG (by simp only [List.set_cons_succ, List.set_cons_zero]; rfl) ?_ | refine reS (by simp only [List.set_cons_succ, List.set_cons_zero]; rfl) ?_)
/-! ## == of dicts with tuple keys that hold the same flags; != by an own == -/
section
variable {prog : Program} {w : World} {K : Type} [DecidableEq K] {knd : HeapKind prog w K} {A : Around} {E : Value → Shared → Prop} {s : Shared}
theorem same_pairsH {nm : String} {a b : Addr} {xs ys : List (K × Addr × Value)} {Q : Bool → Shared → Prop} (ha : (a == sysModules) = false) (hb : (b == sysModules) = false) (hu : knd.room A)
    (da : s.heap.DictOfH knd a xs) (db : s.heap.DictOfH knd b ys) (hl : xs.length = ys.length) (hv : ∀ x ∈ xs, x.2.2 = .bool true) (hv' : ∀ y ∈ ys, y.2.2 = .bool true) (hk : ∀ x ∈ xs, x.1 ∈ ys.map (·.1)) (h : Q true s) :
    wpAny (model prog w) A (Builtin.Dict.samePairs nm a b) Q E s := by
  obtain ⟨oa, es, ep, hoa, _, hda, hea, hka, hna⟩ := da
  obtain ⟨ob, fs, eq, hob, _, hdb, heb, hkb, hnb⟩ := db
  have la := size_of_entries hea
  have lb := size_of_entries heb
  have hsz : es.size = fs.size := by omega
  have na : ¬ (a == sysModules) = true := by rw [ha]; exact Bool.false_ne_true
  have nb : ¬ (b == sysModules) = true := by rw [hb]; exact Bool.false_ne_true
  unfold Builtin.Dict.samePairs Builtin.Dict.showsAll
  rw [if_neg na, if_neg nb]
  refine wpAny_bind (wpAny_pure (wpAny_bind (wpAny_pure (wpAny_bind (wpAny_dictEntries hoa hda ?_)))))
  dsimp only
  refine wpAny_bind (wpAny_dictEntries hob hdb ?_)
  rw [if_neg (by simp [hsz])]
  refine wpAny_bind (wpAny_dictEpoch hoa hda (wpAny_bind ?_))
  rw [Std.Legacy.Range.forIn_eq_forIn_range']
  simp only [Std.Legacy.Range.size, Nat.sub_zero, Nat.add_sub_cancel, Nat.div_one]
  refine wpAny_forIn_list _ (fun rest q t => t = s ∧ q = (none, ()) ∧ ∃ i, rest = List.range' i (es.size - i) ∧ i ≤ es.size) _ ?_ ?_ _ _ ⟨rfl, rfl, 0, by simp, Nat.zero_le _⟩
  · rintro j rest q t ⟨rfl, rfl, i, hr, hi⟩
    have hlt : i < es.size := by
      refine Nat.lt_of_not_le fun hle => ?_
      rw [Nat.sub_eq_zero_of_le hle] at hr
      simp at hr
    have e1 : es.size - i = (es.size - (i + 1)) + 1 := by omega
    rw [e1, List.range'_succ] at hr
    obtain ⟨rfl, hrest⟩ := List.cons.inj hr
    refine wpAny_bind (wpAny_dictEntries hoa hda ?_)
    have hx : j < xs.length := by omega
    have hej := entry_at hea j
    rw [List.getElem?_eq_getElem hx] at hej
    rw [hej]
    have hmx : xs[j] ∈ xs := List.getElem_mem hx
    show wpAny _ _ (holding [_, _] _ >>= _) _ _ _
    refine wpAny_bind (wpAny_holding (wpAny_bind ?_))
    show wpAny _ _ (dictFind b (.ref (xs[j]).2.1) (knd.hash (xs[j]).1)) _ _ _
    obtain ⟨y, hy, hy1⟩ := List.mem_map.mp (hk _ hmx)
    obtain ⟨m, hm⟩ := List.getElem?_of_mem hy
    refine wpAny_dictFind_heap hu (hka _ hmx) hob hdb heb hkb hnb (fun hno => ?_) (fun n p hn => ?_)
    · exact absurd (by rw [hm, ← hy1] : ys[m]? = some ((xs[j]).1, y.2)) (hno m y.2)
    · refine wpAny_bind (wpAny_dictEntries hob hdb ?_)
      have hen := entry_at heb n
      rw [hn] at hen
      rw [hen]
      have hp : p.2 = .bool true := hv' _ (List.mem_of_getElem? hn)
      refine wpAny_holding ?_
      show wpAny _ _ (eqBool (xs[j]).2.2 p.2) _ _ _
      rw [hv _ hmx, hp]
      refine SeqAt.EqAt.same (A := A) (s := t) (.bool true) prog w E _ ?_
      show wpAny _ _ (if (!true) = true then _ else _) _ _ _
      rw [if_neg (by decide)]
      refine wpAny_bind (wpAny_dictEpoch hoa hda ?_)
      rw [if_neg (by simp)]
      exact wpAny_pure ⟨rfl, rfl, j + 1, hrest, hlt⟩
  · rintro q t ⟨rfl, rfl, i, hr, hi⟩
    exact wpAny_pure h
theorem rc_dictsH {a b : Addr} {xs ys : List (K × Addr × Value)} (ha : (a == sysModules) = false) (hb : (b == sysModules) = false) (hu0 : A.units < cLine) (hu : knd.room A.in1)
    (da : s.heap.DictOfH knd a xs) (db : s.heap.DictOfH knd b ys) (hl : xs.length = ys.length) (hv : ∀ x ∈ xs, x.2.2 = .bool true) (hv' : ∀ y ∈ ys, y.2.2 = .bool true) (hk : ∀ x ∈ xs, x.1 ∈ ys.map (·.1)) (E Q : Value → Shared → Prop) (h : Q (.bool true) s) :
    wpAny (model prog w) A (richCompare .Eq (.ref a) (.ref b)) Q E s := by
  refine wpAny_richCompare_same_room (op := .Eq) da.typeIs db.typeIs PySem.F.slot_dict_eq (wpAny_call_entry PySem.F.slot_dict_eq da.typeIs PySem.F.entry_dict_eq ?_ (PySem.F.args_dict_eq_2 _ _)) hu0
  show wpAny _ _ (Builtin.Dict.dictSlotArgs "__eq__" ⟨[.ref a, .ref b], []⟩ >>= _) _ _ s
  refine wpAny_bind ?_
  unfold Builtin.Dict.dictSlotArgs
  refine wpAny_bind (wpAny_notOrdered_dict da.typeIs (wpAny_pure (wpAny_bind (wpAny_isInstance (T := "dict") db.typeIs PySem.F.sub_dict_dict ?_))))
  simp only [Bool.not_true, Bool.false_eq_true, if_false]
  refine wpAny_bind (wpAny_pure (wpAny_bind (wpAny_pure (wpAny_bind (same_pairsH ha hb hu da db hl hv hv' hk (wpAny_pure ⟨_, rfl, (fun x => nomatch x), h⟩))))))
end
end K48
namespace K48
open PySem PySem.Spec PyProof.Rows L2
local macro_rules | `(tactic| walk_at "rd") => `(tactic| repeat (first | refine ⟨_, rfl, ?_⟩ | refine ⟨_, _, rfl, rfl, ?_⟩ | refine ⟨rfl, ?_⟩ | refine iteTk (by decide +kernel) ?_ | refine iteFk (by decide +kernel) ?_))
local macro_rules | `(tactic| walk_at "rdr") => `(tactic| repeat (first | refine ⟨_, rfl, ?_⟩ | refine ⟨_, _, rfl, rfl, ?_⟩ | refine ⟨rfl, ?_⟩ | refine iteTk (by first | decide +kernel | rfl) ?_ | refine iteFk (by first | decide +kernel | rfl) ?_))
local macro_rules | `(tactic| walk_at "tyn") => `(tactic| first | exact .int _ | exact .bl _ | exact .str _ | exact .tup (by assumption) | exact .lst (by assumption) | exact .dK (by assumption))
local macro_rules | `(tactic| walk_at "isT") => `(tactic| refine ⟨_, _, _, _, true, rfl, .ty _, TyN.x (by walk_at "tyn"), kit_ty (by decide +kernel), ?_⟩)
local macro_rules | `(tactic| walk_at "isF") => `(tactic| refine ⟨_, _, _, _, false, rfl, .ty _, TyN.x (by walk_at "tyn"), kit_ty (by decide +kernel), ?_⟩)
local macro_rules | `(tactic| walk_at "nz") => `(tactic| first | refine nzG (by simp only [List.set_cons_succ, List.set_cons_zero]; rfl) ?_ | refine reS (by simp only [List.set_cons_succ, List.set_cons_zero]; rfl) ?_)
/-! ## != of instances with an own == -/
section
variable {prog : Program} {w : World} {A : Around} {E : Value → Shared → Prop} {s : Shared} {K : PySem.W.Frag} {x C L f : Addr} {h₀ : Heap} {m : Str → Option Value} {ox : Obj} {od : Option Obj} {b tb : Value}
theorem ne_entry {Q : Fin → Shared → Prop} (hu : A.units < cLine) (X : K.In s.heap) (I : PySem.W.InstAt s.heap x ox C od) (hs : PySem.W.findIn K (.ref C) "__eq__" = some (some (.ref f))) (hf : PySem.W.isFn K (.ref f) = true)
    (h : wpAny (model prog w) A (call (.ref f) [.ref x, b]) (fun v s' => ∃ r, v = .bool r ∧ Q (.done (.ret (.bool (!r)))) s') E s) : wpAny (model prog w) A (Builtin.«object.__ne__» ⟨[.ref x, b], []⟩) Q E s := by
  unfold Builtin.«object.__ne__»
  obtain ⟨hp, g, d, t, os⟩ := s
  repeat (first
    | with_reducible refine wpAny_cRoomFor hu ?_
    | (refine wpAny_bind (m := callSpecialIfBound? (.ref x) (Str.ofString "__eq__") [b])
        (PySem.W.ifBound_K X I hs hf (wpAny_mono h (fun r s' hr => by
          obtain ⟨b, rfl, hq⟩ := hr
          repeat (first | exact hq | exact wpAny_pure hq | exact wpAny_truthy_bool hq | (refine wpAny_bind (m := truthy (.bool _)) (wpAny_truthy_bool ?_)) | wp_step)) fun _ _ e => e)))
    | wp_step)
theorem ne_own {Q : Value → Shared → Prop} (hu : A.units + 1 < cLine) (F : Fr h₀ L s.heap m) (X₀ : K.In h₀) (I : PySem.W.InstAt s.heap x ox C od) (hb : PySem.W.Looks (model prog w) s.heap (typeOf b) tb) (hn : PySem.W.notFirst K C tb = true)
    (hne : PySem.W.findIn K (.ref C) "__ne__" = some (some (.builtin "object.__ne__"))) (hm : PySem.W.mroIn K C (.type "object") = some true)
    (hs : PySem.W.findIn K (.ref C) "__eq__" = some (some (.ref f))) (hf : PySem.W.isFn K (.ref f) = true)
    (h : wpAny (model prog w) A.in1 (call (.ref f) [.ref x, b]) (fun v s' => ∃ r, v = .bool r ∧ Q (.bool (!r)) s') E s) : wpAny (model prog w) A (richCompare .NotEq (.ref x) b) Q E s := by
  have X := X₀.keeps F.keep
  have one : wpAny (model prog w) A (tryCompare (.ref x) (cmpInfo .NotEq).2.1 b) (fun r s' => ∃ v, r = some v ∧ Q v s') E s := by
    unfold tryCompare
    refine wpAny_bind ?_
    simp only [callSpecialIfBound?, bindSpecialIfBound?]
    refine wpAny_holding (wpAny_bind (wpAny_bind (wpAny_bind (I.type.here ((PySem.W.looks_findIn X hne).here ?_)))))
    refine wpAny_bind (wpAny_askSetting (wpAny_ite ?_))
    have go : wpAny (model prog w) A (call (.builtin "object.__ne__") [.ref x, b]) (fun v s' => ∃ r, v = .bool r ∧ Q (.bool r) s') E s := by
      refine wpAny_call (codeAny_call_builtin PySem.F.slot_object_ne.plain PySem.F.entry_object_ne (PySem.W.check_slot PySem.F.cmpKind_ne PySem.F.cmpSplit_ne (I.type.andThen (PySem.W.looks_mroIn X hm)) (PySem.F.cmpArgs_ne _ _) (ne_entry hu X I hs hf (wpAny_mono h (fun v s' hv => ?_) fun _ _ e => e))))
      obtain ⟨r, rfl, q⟩ := hv
      exact ⟨r, rfl, ⟨_, rfl, q⟩⟩
    have fin : wpAny (model prog w) A (call (.builtin "object.__ne__") ([.ref x] ++ [b]) >>= fun v => pure (some v)) (fun o s' => wpAny (model prog w) A (match o with | some .notImplemented => pure none | none => pure none | some v => pure (some v)) (fun r s' => ∃ v, r = some v ∧ Q v s') E s') E s :=
      wpAny_bind (wpAny_mono go (fun v s' h' => wpAny_pure (by
        obtain ⟨r, rfl, q⟩ := h'
        exact wpAny_pure ⟨_, rfl, q⟩)) fun _ _ h' => h')
    simp only [PySem.F.slot_object_ne.bind]
    split
    · exact wpAny_bind (wpAny_pure (wpAny_pure (by exact fin)))
    · exact wpAny_tryCatch (wpAny_bind (wpAny_pure (wpAny_pure (by exact fin))))
  unfold richCompare
  simp only [oneThing_ref]
  refine wpAny_holding (wpAny_bind (wpAny_cRoomFor (Nat.lt_of_succ_lt hu) ?_))
  refine wpAny_bind (I.type.here (wpAny_bind (hb.here ?_)))
  split
  · rename_i q
    have e : PySem.W.subIn K tb (.ref C) = some false := by
      rcases Bool.or_eq_true_iff.mp hn with e | e
      · rw [beq_iff_eq.mp e] at q; simp at q
      · exact beq_iff_eq.mp e
    refine wpAny_bind ((PySem.W.looks_subIn X e).here ?_)
    simp only [Bool.false_eq_true, if_false]
    refine wpAny_bind (wpAny_mono one (fun r s' z => ?_) fun _ _ e => e)
    obtain ⟨v, rfl, hq⟩ := z
    exact wpAny_pure hq
  · refine wpAny_bind (wpAny_pure ?_)
    simp only [Bool.false_eq_true, if_false]
    refine wpAny_bind (wpAny_mono one (fun r s' z => ?_) fun _ _ e => e)
    obtain ⟨v, rfl, hq⟩ := z
    exact wpAny_pure hq
end
/-- what != of two instances of the class asks of it -/
structure NeC (K : PySem.W.Frag) (C f : Addr) : Prop where
  ne : PySem.W.findIn K (.ref C) "__ne__" = some (some (.builtin "object.__ne__"))
  ob : PySem.W.mroIn K C (.type "object") = some true
  eq : PySem.W.findIn K (.ref C) "__eq__" = some (some (.ref f))
  fn : PySem.W.isFn K (.ref f) = true
section
variable {X : Cx} {n : Nat}
/-- x != y gives False, x and y two instances of the class with equal contents -/
def rNeG (C : Addr) (R : Addr → Addr → Hp → Prop) : R2 := fun x y H Q => DIns C R x y H ∧ ∀ H', Ext H H' → Q (.bl false) H'
theorem op_neG {C f : Addr} {fd : FuncData} {ps : List Str} {R : Addr → Addr → Hp → Prop} (F : FnOk X.prog X.w X.K X.mg X.base CX0 n f fd ps (spEq R)) (c : NeC X.K C f) (hb : Binds X.K fd ps []) (hr : Room (n + 1) X.A) :
    OpR X (compareOp .NotEq) (rNeG C R) := by
  intro pins s σ H x y v u Q I rx ry hq
  obtain ⟨d, q⟩ := hq
  show wpAny (model X.prog X.w) X.A (richCompare .NotEq v u) (EP X pins σ Q) X.xe s
  obtain ⟨a, b, dx, dy, fs, gs, rfl, rfl, ha, hb', hr'⟩ := d
  cases rx
  cases ry
  obtain ⟨mA, J, _⟩ := ins_get I.hok ha
  obtain ⟨mB, J', _⟩ := ins_get I.hok hb'
  obtain ⟨od, J, _⟩ := J.look
  obtain ⟨od', J', _⟩ := J'.look
  obtain ⟨m, hF⟩ := I.fr
  have hu1 : X.A.units + 1 < cLine := hr.in1.units0
  refine ne_own (tb := .ref C) hu1 hF I.ok.mod.kin J J'.type (by simp [PySem.W.notFirst]) c.ne c.ob c.eq c.fn ?_
  have hsp : spEq R [.ref a, .ref b] H (fun v H' => v = .bl true ∧ Ext H H') E0 := ⟨a, b, rfl, hr', fun H' e => ⟨rfl, e⟩⟩
  have e0 : Env0 X.prog X.w X.K X.mg X.base X.A.in1 X.stack s H := I.env0.in1
  have hl := F.len _ _ _ _ hsp
  have r2 : Vals [V.ref a, V.ref b] [Value.ref a, Value.ref b] := .cons rfl (.cons rfl .nil)
  refine wpAny_call (codeAny_mono (F.run X.A.in1 X.stack s H ⟨[.ref a, .ref b], []⟩ [.ref a, .ref b] [.ref a, .ref b] _ E0 hr.in1 e0 (by
    have := hb s [.ref a, .ref b] I.kIn (by simpa using hl)
    simpa using this) r2 hsp) fun r s' hq => ?_)
  cases r with
  | error e => exact pass0 pins σ H s e s' I hq
  | ok fl =>
    cases fl with
    | ret w =>
      obtain ⟨z, H', I', rz, ez, ex⟩ := I.after hq
      subst ez
      cases rz
      exact ⟨true, rfl, .bl false, H', I', rfl, q H' ex⟩
    | next => exact False.elim hq
    | brk => exact False.elim hq
    | cont => exact False.elim hq
end
end K48
namespace K48
open PySem PySem.Spec PyProof.Rows L2
local macro_rules | `(tactic| walk_at "rd") => `(tactic| repeat (first | refine ⟨_, rfl, ?_⟩ | refine ⟨_, _, rfl, rfl, ?_⟩ | refine ⟨rfl, ?_⟩ | refine iteTk (by decide +kernel) ?_ | refine iteFk (by decide +kernel) ?_))
local macro_rules | `(tactic| walk_at "rdr") => `(tactic| repeat (first | refine ⟨_, rfl, ?_⟩ | refine ⟨_, _, rfl, rfl, ?_⟩ | refine ⟨rfl, ?_⟩ | refine iteTk (by first | decide +kernel | rfl) ?_ | refine iteFk (by first | decide +kernel | rfl) ?_))
local macro_rules | `(tactic| walk_at "tyn") => `(tactic| first | exact .int _ | exact .bl _ | exact .str _ | exact .tup (by assumption) | exact .lst (by assumption) | exact .dK (by assumption))
local macro_rules | `(tactic| walk_at "isT") => `(tactic| refine ⟨_, _, _, _, true, rfl, .ty _, TyN.x (by walk_at "tyn"), kit_ty (by decide +kernel), ?_⟩)
local macro_rules | `(tactic| walk_at "isF") => `(tactic| refine ⟨_, _, _, _, false, rfl, .ty _, TyN.x (by walk_at "tyn"), kit_ty (by decide +kernel), ?_⟩)
local macro_rules | `(tactic| walk_at "nz") => `(tactic| first | refine nzG (by simp only [List.set_cons_succ, List.set_cons_zero]; rfl) ?_ | refine reS (by simp only [List.set_cons_succ, List.set_cons_zero]; rfl) ?_)
theorem upd_self {H : Hp} {a : Addr} {o : HO} (h : H a = some o) : upd H a o = H := by
  funext b
  by_cases e : b = a
  · rw [e, upd_same, h]
  · rw [upd_ne e]
/-! ## lists or tuples, walked alike -/
theorem Sq2.mono {G H : Hp} {a : Addr} {xs : List V} (h : Sq2 G a xs) (e : Same G H) : Sq2 H a xs := h.elim (fun h => .inl (e _ _ h)) (fun h => .inr (e _ _ h))
def iSeq (tl : TE) : TI := fun σ H R => tl σ H fun x H1 => ∃ (a : Addr) (xs : List V) (o : HO), x = .ref a ∧ (o = .lst xs ∨ o = .tup xs) ∧ H1 a = some o ∧ ∀ J, Walk J xs.length (fun H => H a = some o) (YAt xs) → R J H1
section
variable {X : Cx} {tg : Expr}
theorem pi_seq {l : Expr} {tl : TE} (hl : PE X l tl) : PI X tg l (iSeq tl) := by
  refine ⟨fun pins s σ H R I h => ?_⟩
  refine thn (hl.run pins s σ H _ I h) fun v s1 ⟨x, H1, I1, r1, q1⟩ => ?_
  obtain ⟨a, xs, o, e, ho, ha, q⟩ := q1
  subst e
  cases r1
  have fp : ∀ b ∈ [s1.heap.objs.size], FpOk X pins H1 b := fun b hb => by
    have e : b = s1.heap.objs.size := by simpa using hb
    subst e
    exact I1.fpOk (Nat.le_refl _) (I1.hok.fresh (Nat.le_refl _))
  rcases ho with rfl | rfl
  · obtain ⟨its, rv, p, hz⟩ := I1.list (SqL.of ha)
    refine wpAny_pyIter_list p.isList ?_
    exact ⟨s1.heap.objs.size, [s1.heap.objs.size], _, _, H1, rfl, I1.kept (t' := s1.toks) fun b o e => Heap.get?_push_of_some _ e, turn_list a _, ⟨_, Heap.get?_push_size _ rfl, rfl, rfl⟩, fp, q _ (walk_list.mono (fun H h => SqL.of h) fun i H x H' _ _ y => y)⟩
  · obtain ⟨its, rv, p, hz⟩ := I1.tuple (SqT.of ha)
    refine wpAny_pyIter_tuple (show s1.heap.IsTuple a its.toArray from p) ?_
    exact ⟨s1.heap.objs.size, [s1.heap.objs.size], _, _, H1, rfl, I1.kept (t' := s1.toks) fun b o e => Heap.get?_push_of_some _ e, turn_tuple a _, ⟨_, Heap.get?_push_size _ rfl, rfl, rfl⟩, fp, q _ (walk_tup.mono (fun H h => SqT.of h) fun i H x H' _ _ y => y)⟩
end
/-- a dict comprehension over a walk -/
theorem dc_it {J : It} {n : Nat} {G : Hp → Prop} {Y : Nat → Hp → V → Hp → Prop} (w : Walk J n G Y) {g : TG} {tt : TT} {tk tv : TE} {vs : List Nat} {σ : L2.St} {H1 : Hp} {D : Addr} {Qd : Hp → Prop} (Pv : Nat → Hp → Prop) (h0 : Pv 0 (upd H1 D (.dK []))) (hG : ∀ i H, i ≤ n → Pv i H → G H)
    (hs : ∀ i x H H', i < n → Pv i H → Y i H x H' → g x (wipe σ vs) H' fun σ2 H2 => wipe σ2 vs = wipe σ vs ∧ tt σ2 H2 fun b H3 =>
      if b = true then tk σ2 H3 fun y H4 => tv σ2 H4 fun z H5 => ∃ kvs k, y = kV k ∧ H5 D = some (.dK kvs) ∧ kvs.length < sizeLine ∧ Pv (i + 1) (upd H5 D (.dK (putK kvs k z))) else Pv (i + 1) H3) (hd : ∀ H, Pv n H → Qd H) :
    ∃ W : Nat → Nat → Hp → Prop, (∃ m, W 0 m (upd H1 D (.dK []))) ∧ ∀ i m H, W i m H →
      (J.stop i H ∧ Qd H) ∨ (J.go i H ∧ ∃ Nx : Hp → Prop, (∀ H', Nx H' → ∃ m', m' < m ∧ W (i + 1) m' H') ∧ ∀ x H', J.yld i H x H' → g x (wipe σ vs) H' fun σ2 H2 => wipe σ2 vs = wipe σ vs ∧ tt σ2 H2 fun b H3 =>
        if b = true then tk σ2 H3 fun y H4 => tv σ2 H4 fun z H5 => ∃ kvs k, y = kV k ∧ H5 D = some (.dK kvs) ∧ kvs.length < sizeLine ∧ Nx (upd H5 D (.dK (putK kvs k z))) else Nx H3) := by
  refine ⟨fun i m H => m = n - i ∧ i ≤ n ∧ Pv i H, ⟨n, by simp, Nat.zero_le _, h0⟩, ?_⟩
  rintro i m H ⟨rfl, hi, p⟩
  have q := hG i H hi p
  by_cases hlt : i < n
  · exact .inr ⟨w.goes i H hlt q, Pv (i + 1), fun H' p' => ⟨n - (i + 1), by omega, rfl, hlt, p'⟩, fun x H' y => hs i x H H' hlt p (w.yields i H x H' hlt q y)⟩
  · have e : i = n := by omega
    subst e
    exact .inl ⟨w.stops H q, hd H p⟩
/-! ## Worlds: their parts -/
abbrev nV (i : Nat) : V := .int (i : Int)
/-- refs to pairs -/
def PairsAt (H : Hp) (qs : List Addr) (ps : List (Nat × Nat)) : Prop := Paired (fun q p => H q = some (.tup ((pk p).map kV))) qs ps
theorem PairsAt.mono {G H : Hp} {qs : List Addr} {ps : List (Nat × Nat)} (h : PairsAt G qs ps) (e : Same G H) : PairsAt H qs ps := Paired.mapP h fun _ _ q => e _ _ q
/-- a dict as a set of things, of pairs -/
def dI (xs : List Nat) : List (Key × V) := xs.map fun (i : Nat) => ((Sum.inl (i : Int) : Key), V.bl true)
def dP (ps : List (Nat × Nat)) : List (List Key × V) := ps.map fun p => (pk p, V.bl true)
theorem dI_mem (i : Nat) : ∀ xs : List Nat, (valV (dI xs) (Sum.inl (i : Int))).isSome = decide (i ∈ xs)
  | [] => rfl
  | x :: xs => by
    by_cases e : x = i
    · subst e
      rw [show dI (x :: xs) = (Sum.inl (x : Int), V.bl true) :: dI xs from rfl, valV_pos rfl]
      simp
    · have e' : ¬ ((Sum.inl (x : Int) : Key) = Sum.inl (i : Int)) := fun q => e (by have := Sum.inl.inj q; omega)
      rw [show dI (x :: xs) = (Sum.inl (x : Int), V.bl true) :: dI xs from rfl, valV_neg e', dI_mem i xs]
      have e2 : ¬ i = x := fun q => e q.symm
      simp [e2]
theorem dP_mem (p : Nat × Nat) : ∀ ps : List (Nat × Nat), (valV (dP ps) (pk p)).isSome = decide (p ∈ ps)
  | [] => rfl
  | x :: xs => by
    by_cases e : x = p
    · subst e
      rw [show dP (x :: xs) = (pk x, V.bl true) :: dP xs from rfl, valV_pos rfl]
      simp
    · have e' : ¬ (pk x = pk p) := fun q => e (pk_inj q)
      rw [show dP (x :: xs) = (pk x, V.bl true) :: dP xs from rfl, valV_neg e', dP_mem p xs]
      have e2 : ¬ p = x := fun q => e q.symm
      simp [e2]
theorem dI_put {xs : List Nat} {i : Nat} (h : i ∉ xs) : putK (dI xs) (Sum.inl (i : Int)) (V.bl true) = dI (xs ++ [i]) := by
  have e := dI_mem i xs
  rw [decide_eq_false h] at e
  rw [putK_new _ (Option.not_isSome_iff_eq_none.mp (by rw [e]; decide))]
  unfold dI
  rw [List.map_append]
  rfl
theorem dP_put {xs : List (Nat × Nat)} {i : Nat × Nat} (h : i ∉ xs) : putK (dP xs) (pk i) (V.bl true) = dP (xs ++ [i]) := by
  have e := dP_mem i xs
  rw [decide_eq_false h] at e
  rw [putK_new _ (Option.not_isSome_iff_eq_none.mp (by rw [e]; decide))]
  unfold dP
  rw [List.map_append]
  rfl
theorem nodup_take {α : Type} [DecidableEq α] {xs : List α} (h : xs.Nodup) {i : Nat} {x : α} (e : xs[i]? = some x) : x ∉ xs.take i ∧ xs.take (i + 1) = xs.take i ++ [x] := by
  refine ⟨fun hm => ?_, by rw [List.take_add_one, e]; rfl⟩
  obtain ⟨j, hj⟩ := List.getElem?_of_mem hm
  rw [List.getElem?_take] at hj
  split at hj
  · have := nd_ix h hj e
    omega
  · cases hj
/-- a dict from names to things by their addresses -/
def dR (ks : List (Str × Addr)) : List (Key × V) := ks.map fun p => (Sum.inr p.1, V.ref p.2)
theorem dR_val {m : Str} {a : Addr} : ∀ {ks : List (Str × Addr)}, (ks.map (·.1)).Nodup → (m, a) ∈ ks → valV (dR ks) (Sum.inr m) = some (.ref a)
  | (n, b) :: ks, hn, hm => by
    rw [List.map_cons, List.nodup_cons] at hn
    rcases List.mem_cons.mp hm with e | hm
    · cases e
      exact valV_pos rfl
    · have e' : ¬ ((Sum.inr n : Key) = Sum.inr m) := fun q => hn.1 (by
        rw [Sum.inr.inj q]
        exact List.mem_map.mpr ⟨_, hm, rfl⟩)
      rw [show dR ((n, b) :: ks) = (Sum.inr n, V.ref b) :: dR ks from rfl, valV_neg e']
      exact dR_val hn.2 hm
section
variable {P : Program} {w : World} {K : PySem.W.Frag} {mg : Str → Option Value} {base : Heap} {cT cW : Addr}
def spIsThing : Sp := fun vs H Q _ => ∃ i n : Int, vs = [.int i, .int n] ∧ Q (.bl (decide (0 ≤ i) && decide (i ≤ n - 1))) H
theorem ok_is_thing (D : Def K mg "is_thing" s_is_thing) (c_is_within : CallOk P w K mg base 2 "is_within" P_is_within spIsWithin) : CallOk P w K mg base 3 "is_thing" P_is_thing spIsThing := by
  refine callOk D sc_is_thing bd_is_thing (fun vs H Q E h => ?_) (fun f cdv A outer s H vs Q E hr h => ?_)
  · obtain ⟨i, n, rfl, _⟩ := h
    rfl
  obtain ⟨i, n, rfl, q⟩ := h
  refine ⟨_, pss_one (ps_ret (pe_cl c_is_within hr (by rfl) (pa_cons (pv 0) (pa_cons (pe_int) (pa_cons (pe_op op_sub (pv 1) (pe_int)) pa_nil))))), ?_⟩
  walk_at "rd"
  exact ⟨i, 0, n - 1, rfl, q⟩
def spIsPair : Sp := fun vs H Q _ => ∃ (a : Addr) (i j : Nat) (n : Nat), vs = [.ref a, .int n] ∧ H a = some (.tup [nV i, nV j]) ∧ i < n ∧ j < n ∧ Q (.bl true) H
theorem ok_is_pair (D : Def K mg "is_pair" s_is_pair) (c_is_tuple : CallOk P w K mg base 1 "is_tuple" P_is_tuple spIsTuple) (c_is_thing : CallOk P w K mg base 3 "is_thing" P_is_thing spIsThing) : CallOk P w K mg base 4 "is_pair" P_is_pair spIsPair := by
  refine callOk D sc_is_pair bd_is_pair (fun vs H Q E h => ?_) (fun f cdv A outer s H vs Q E hr h => ?_)
  · obtain ⟨a, i, j, n, rfl, _⟩ := h
    rfl
  obtain ⟨a, i, j, n, rfl, ha, hi, hj, q⟩ := h
  have hr1 : Room 1 _ := hr.mono (by decide)
  refine ⟨_, pss_one (ps_ret (pe_and (pe_cl c_is_tuple hr1 (by rfl) (pa_cons (pv 0) (pa_cons (pe_int) pa_nil))) (pe_and (pe_cl c_is_thing hr (by rfl) (pa_cons (pe_ix ix_tup (pv 0) (pe_int) (fun _ _ => rfl)) (pa_cons (pv 1) pa_nil))) (pe_one (pe_cl c_is_thing hr (by rfl) (pa_cons (pe_ix ix_tup (pv 0) (pe_int) (fun _ _ => rfl)) (pa_cons (pv 1) pa_nil))))))), ?_⟩
  walk_at "rd"
  refine ⟨_, _, _, rfl, ha, ?_⟩
  walk_at "rd"
  refine ⟨_, _, _, _, rfl, rfl, SqT.of ha, atI_nat (j := 0) rfl, ?_⟩
  walk_at "rd"
  refine ⟨_, _, rfl, ?_⟩
  rw [decide_eq_true (show (0 : Int) ≤ (i : Int) by omega), decide_eq_true (show (i : Int) ≤ (n : Int) - 1 by omega)]
  walk_at "rd"
  refine ⟨_, _, _, _, rfl, rfl, SqT.of ha, atI_nat (j := 1) rfl, ?_⟩
  walk_at "rd"
  refine ⟨_, _, rfl, ?_⟩
  rw [decide_eq_true (show (0 : Int) ≤ (j : Int) by omega), decide_eq_true (show (j : Int) ≤ (n : Int) - 1 by omega)]
  exact q
def spIsDictOf (K : PySem.W.Frag) : Sp := fun vs H Q _ => ∃ (a b : Addr) (ks : List (Str × Addr)) (ns : List Str), vs = [.ref a, .ref b] ∧ H a = some (.dK (dR ks)) ∧ SqT K H b (ns.map V.str) ∧ ks.length = ns.length ∧ (∀ p ∈ ks, p.1 ∈ ns) ∧ Q (.bl true) H
theorem ok_is_dict_of (B : Blt mg) (D : Def K mg "is_dict_of" s_is_dict_of) (c_is_key : CallOk P w K mg base 1 "is_key" P_is_key (spIsKey K)) : CallOk P w K mg base 2 "is_dict_of" P_is_dict_of (spIsDictOf K) := by
  refine callOk D sc_is_dict_of bd_is_dict_of (fun vs H Q E h => ?_) (fun f cdv A outer s H vs Q E hr h => ?_)
  · obtain ⟨a, b, ks, ns, rfl, _⟩ := h
    rfl
  obtain ⟨a, b, ks, ns, rfl, ha, hb, hl, hk, q⟩ := h
  refine ⟨_, pss_cons (ps_if (PW.pt (pw_or (pt_not (pt_val (pe_callB call_isi (by rfl) B.isinstance bo_isinstance (pa_cons (pv 0) (pa_cons (pe_bltn (v := .ty "dict") (by rfl) B.dict bo_dict rfl) pa_nil))))) (pw_or1 (pt_cmpR op_ne (pe_callB call_lenD (by rfl) B.len bo_len (pa_cons (pv 0) pa_nil)) (pe_callB call_len_seq (by rfl) B.len bo_len (pa_cons (pv 1) pa_nil)) (nomark _))))) (pss_one (ps_ret (pe_bl))) (pss_nil)) (pss_cons (ps_lock (ps_for PassesOwn.never rfl (pi_keys (pv 0)) (pg_name (i := 2) sc_is_dict_of.nd rfl (.inl rfl)) (pss_one (ps_if (pt_not (pt_val (pe_cl c_is_key hr (by rfl) (pa_cons (pv 2) (pa_cons (pv 1) pa_nil))))) (pss_one (ps_ret (pe_bl))) (pss_nil))))) (pss_one (ps_ret (pe_bl)))), ?_⟩
  walk_at "rd"
  walk_at "isT"
  walk_at "rd"
  refine ⟨_, _, rfl, ha, ?_⟩
  walk_at "rd"
  refine ⟨_, _, rfl, .inr hb, ?_⟩
  walk_at "rd"
  refine iteFk (by rw [dec_V_int]; simp [dR, hl]) ?_
  walk_at "rd"
  refine ⟨a, .dK (dR ks), ha, True.intro, fun od => ?_⟩
  have ha' : upd H a (.frz od (.dK (dR ks))) a = some (.frz od (.dK (dR ks))) := upd_same
  have hb' : SqT K (upd H a (.frz od (.dK (dR ks)))) b (ns.map V.str) := SqT.updD hb ha
  refine ⟨_, rfl, a, od, rfl, .inl ⟨_, ha', ?_⟩⟩
  refine for_it walk_keys (fun i σ H' => H' = upd H a (.frz od (.dK (dR ks))) ∧ ∃ y, σ = [some (.ref a), some (.ref b), y]) ⟨rfl, _, rfl⟩ (fun i σ H' _ hP => by rw [hP.1]; exact ha') (fun i x σ H' H2 hi hP y => ?_) (fun σ H' hP => ?_)
  · obtain ⟨rfl, y', rfl⟩ := hP
    obtain ⟨rfl, k, v, hk', rfl⟩ := y
    obtain ⟨p, hp, e⟩ := map_at hk'
    cases e
    walk_at "rd"
    refine ⟨_, _, ns, rfl, hb', ?_⟩
    rw [decide_eq_true (hk p (List.mem_of_getElem? hp))]
    walk_at "rd"
    exact ⟨_, rfl⟩
  · obtain ⟨rfl, _, rfl⟩ := hP
    refine ⟨ha', ?_⟩
    rw [upd_upd, upd_self ha]
    exact q
end
end K48
namespace K48
open PySem PySem.Spec PyProof.Rows L2
local macro_rules | `(tactic| walk_at "rd") => `(tactic| repeat (first | refine ⟨_, rfl, ?_⟩ | refine ⟨_, _, rfl, rfl, ?_⟩ | refine ⟨rfl, ?_⟩ | refine iteTk (by decide +kernel) ?_ | refine iteFk (by decide +kernel) ?_))
local macro_rules | `(tactic| walk_at "rdr") => `(tactic| repeat (first | refine ⟨_, rfl, ?_⟩ | refine ⟨_, _, rfl, rfl, ?_⟩ | refine ⟨rfl, ?_⟩ | refine iteTk (by first | decide +kernel | rfl) ?_ | refine iteFk (by first | decide +kernel | rfl) ?_))
local macro_rules | `(tactic| walk_at "tyn") => `(tactic| first | exact .int _ | exact .bl _ | exact .str _ | exact .tup (by assumption) | exact .lst (by assumption) | exact .dK (by assumption))
local macro_rules | `(tactic| walk_at "isT") => `(tactic| refine ⟨_, _, _, _, true, rfl, .ty _, TyN.x (by walk_at "tyn"), kit_ty (by decide +kernel), ?_⟩)
local macro_rules | `(tactic| walk_at "isF") => `(tactic| refine ⟨_, _, _, _, false, rfl, .ty _, TyN.x (by walk_at "tyn"), kit_ty (by decide +kernel), ?_⟩)
local macro_rules | `(tactic| walk_at "nz") => `(tactic| first | refine nzG (by simp only [List.set_cons_succ, List.set_cons_zero]; rfl) ?_ | refine reS (by simp only [List.set_cons_succ, List.set_cons_zero]; rfl) ?_)
section
variable {P : Program} {w : World} {K : PySem.W.Frag} {mg : Str → Option Value} {base : Heap} {cT cW : Addr}
def seqO (b : Bool) (xs : List V) : HO := if b = true then .lst xs else .tup xs
theorem seqO_sq {H : Hp} {a : Addr} {xs : List V} (h : Sq2 H a xs) : ∃ o, (o = .lst xs ∨ o = .tup xs) ∧ H a = some o := h.elim (fun h => ⟨_, .inl rfl, h⟩) (fun h => ⟨_, .inr rfl, h⟩)
theorem seqO_ty {H : Hp} {a : Addr} {xs : List V} (h : Sq2 H a xs) : ∃ n : String, TyN H (.ref a) n ∧ (n = "list" ∨ n = "tuple") := h.elim (fun h => ⟨_, .lst h, .inl rfl⟩) (fun h => ⟨_, .tup h, .inr rfl⟩)
def spAreThings : Sp := fun vs H Q _ => ∃ (G : Hp) (a : Addr) (xs : List Nat) (n : Nat), vs = [.ref a, .int n] ∧ Same G H ∧ Sq2 G a (xs.map nV) ∧ xs.Nodup ∧ (∀ i ∈ xs, i < n) ∧ xs.length ≤ 1000 ∧ ∀ H', Same H H' → Q (.bl true) H'
theorem ok_are_things (B : Blt mg) (D : Def K mg "are_things" s_are_things) (c_is_sequence : CallOk P w K mg base 1 "is_sequence" P_is_sequence spIsSequence) (c_is_thing : CallOk P w K mg base 3 "is_thing" P_is_thing spIsThing) : CallOk P w K mg base 4 "are_things" P_are_things spAreThings := by
  refine callOk D sc_are_things bd_are_things (fun vs H Q E h => ?_) (fun f cdv A outer st H vs Q E hr h => ?_)
  · obtain ⟨G, a, xs, n, rfl, _⟩ := h
    rfl
  obtain ⟨G, a, xs, n, rfl, eG, ha, hnd, hlt, hlen, q⟩ := h
  have hr1 : Room 1 _ := hr.mono (by decide)
  have hu := hu_of hr
  refine ⟨_, pss_cons (ps_if (pt_not (pt_val (pe_cl c_is_sequence hr1 (by rfl) (pa_cons (pv 0) pa_nil)))) (pss_one (ps_ret (pe_bl))) (pss_nil)) (pss_cons (ps_set (i := 2) sc_are_things.nd rfl (.inl rfl) (pe_dnewK)) (pss_cons (ps_for PassesOwn.never rfl (pi_seq (pv 0)) (pg_name (i := 3) sc_are_things.nd rfl (.inl rfl)) (pss_cons (ps_if (PW.pt (pw_or (pt_not (pt_val (pe_cl c_is_thing hr (by rfl) (pa_cons (pv 3) (pa_cons (pv 1) pa_nil))))) (pw_or1 (pt_cmp (pc_din hu (pv 3) (pv 2)))))) (pss_one (ps_ret (pe_bl))) (pss_nil)) (pss_one (ps_dput hu (pv 2) (pv 3) (pe_bl) rfl)))) (pss_one (ps_ret (pe_bl))))), ?_⟩
  walk_at "rd"
  obtain ⟨ty, t1, t2⟩ := seqO_ty (ha.mono eG)
  refine ⟨_, _, rfl, t1, t2, fun H1 e1 => ?_⟩
  walk_at "rd"
  intro d hd0
  walk_at "rd"
  have e2 : Same H (upd H1 d (.dK [])) := Same.new e1 hd0
  obtain ⟨o, ho, ha'⟩ := seqO_sq (ha.mono (eG.trans e2))
  refine ⟨_, _, o, rfl, ho, ha', fun J wk => ?_⟩
  have hdG : G d = none := eG.free (e1.free hd0)
  have hdH : H d = none := e1.free hd0
  have hao : ∀ H', Same H H' → H' a = some o → H' a = some o := fun _ _ h => h
  have haG : G a = some o ∨ True := .inr trivial
  have had : a ≠ d := ne_of ha' (upd_same (H := H1) (a := d) (o := .dK [])) (by rcases ho with rfl | rfl <;> (intro z; cases z))
  refine for_it wk (fun i σ H' => ∃ y, σ = [some (.ref a), some (.int n), some (.ref d), y] ∧ Same H H' ∧ H' d = some (.dK (dI (xs.take i))) ∧ H' a = some o) ⟨_, rfl, e2, upd_same, ha'⟩ (fun i σ H' _ hP => hP.elim fun _ h => h.2.2.2) (fun i x σ H' H2 hi hP y => ?_) (fun σ H' hP => ?_)
  · obtain ⟨y', rfl, e3, hD, hA⟩ := hP
    obtain ⟨rfl, hx⟩ := y
    obtain ⟨k, hk, rfl⟩ := map_at hx
    obtain ⟨h1, h2⟩ := nodup_take hnd hk
    have hkn := hlt k (List.mem_of_getElem? hk)
    have hxl := (List.getElem?_eq_some_iff.mp hk).1
    walk_at "rd"
    refine ⟨_, _, rfl, ?_⟩
    rw [decide_eq_true (show (0 : Int) ≤ (k : Int) by omega), decide_eq_true (show (k : Int) ≤ (n : Int) - 1 by omega)]
    walk_at "rd"
    refine ⟨_, _, rfl, DGet.k (k := Sum.inl (k : Int)) hD, ?_⟩
    rw [dI_mem, decide_eq_false h1]
    walk_at "rd"
    refine ⟨_, _, rfl, DPut.k (k := Sum.inl (k : Int)) hD (szl ?_), ?_⟩
    · unfold dI
      rw [List.length_map, List.length_take]
      omega
    refine ⟨_, rfl, Same.mut e3 hdH, ?_, ?_⟩
    · rw [dI_put h1, h2, upd_same]
    · rw [upd_ne had]
      exact hA
  · obtain ⟨y', rfl, e3, hD, hA⟩ := hP
    walk_at "rd"
    exact q _ e3
def spArePairs : Sp := fun vs H Q _ => ∃ (G : Hp) (a : Addr) (qs : List Addr) (ps : List (Nat × Nat)) (n : Nat), vs = [.ref a, .int n] ∧ Same G H ∧ Sq2 G a (qs.map V.ref) ∧ PairsAt G qs ps ∧ ps.Nodup ∧ (∀ p ∈ ps, p.1 < n ∧ p.2 < n) ∧ ps.length ≤ 1000 ∧ ∀ H', Same H H' → Q (.bl true) H'
theorem ok_are_pairs (B : Blt mg) (D : Def K mg "are_pairs" s_are_pairs) (c_is_sequence : CallOk P w K mg base 1 "is_sequence" P_is_sequence spIsSequence) (c_is_pair : CallOk P w K mg base 4 "is_pair" P_is_pair spIsPair) : CallOk P w K mg base 5 "are_pairs" P_are_pairs spArePairs := by
  refine callOk D sc_are_pairs bd_are_pairs (fun vs H Q E h => ?_) (fun f cdv A outer st H vs Q E hr h => ?_)
  · obtain ⟨G, a, qs, ps, n, rfl, _⟩ := h
    rfl
  obtain ⟨G, a, qs, ps, n, rfl, eG, ha, hP0, hnd, hlt, hlen, q⟩ := h
  have hr1 : Room 1 _ := hr.mono (by decide)
  have hu := hu_of hr
  refine ⟨_, pss_cons (ps_if (pt_not (pt_val (pe_cl c_is_sequence hr1 (by rfl) (pa_cons (pv 0) pa_nil)))) (pss_one (ps_ret (pe_bl))) (pss_nil)) (pss_cons (ps_set (i := 2) sc_are_pairs.nd rfl (.inl rfl) (pe_dnewT)) (pss_cons (ps_for PassesOwn.never rfl (pi_seq (pv 0)) (pg_name (i := 3) sc_are_pairs.nd rfl (.inl rfl)) (pss_cons (ps_if (PW.pt (pw_or (pt_not (pt_val (pe_cl c_is_pair hr (by rfl) (pa_cons (pv 3) (pa_cons (pv 1) pa_nil))))) (pw_or1 (pt_cmp (pc_din hu (pv 3) (pv 2)))))) (pss_one (ps_ret (pe_bl))) (pss_nil)) (pss_one (ps_dput hu (pv 2) (pv 3) (pe_bl) rfl)))) (pss_one (ps_ret (pe_bl))))), ?_⟩
  walk_at "rd"
  obtain ⟨ty, t1, t2⟩ := seqO_ty (ha.mono eG)
  refine ⟨_, _, rfl, t1, t2, fun H1 e1 => ?_⟩
  walk_at "rd"
  intro d hd0
  walk_at "rd"
  have e2 : Same H (upd H1 d (.dT [])) := Same.new e1 hd0
  obtain ⟨o, ho, ha'⟩ := seqO_sq (ha.mono (eG.trans e2))
  refine ⟨_, _, o, rfl, ho, ha', fun J wk => ?_⟩
  have hdH : H d = none := e1.free hd0
  have had : a ≠ d := ne_of ha' (upd_same (H := H1) (a := d) (o := .dT [])) (by rcases ho with rfl | rfl <;> (intro z; cases z))
  refine for_it wk (fun i σ H' => ∃ y, σ = [some (.ref a), some (.int n), some (.ref d), y] ∧ Same H H' ∧ H' d = some (.dT (dP (ps.take i))) ∧ H' a = some o) ⟨_, rfl, e2, upd_same, ha'⟩ (fun i σ H' _ hP => hP.elim fun _ h => h.2.2.2) (fun i x σ H' H2 hi hP y => ?_) (fun σ H' hP => ?_)
  · obtain ⟨y', rfl, e3, hD, hA⟩ := hP
    obtain ⟨rfl, hx⟩ := y
    obtain ⟨b, hb, rfl⟩ := map_at hx
    obtain ⟨p, hp, hbp⟩ : ∃ p, ps[i]? = some p ∧ G b = some (.tup ((pk p).map kV)) := by
      obtain ⟨p, hp⟩ : ∃ p, ps[i]? = some p := ⟨ps[i]'(by have := Paired.length hP0; have := (List.getElem?_eq_some_iff.mp hb).1; omega), List.getElem?_eq_getElem _⟩
      obtain ⟨b', hb', h1⟩ := Paired.at hP0 hp
      rw [hb] at hb'
      cases hb'
      exact ⟨p, hp, h1⟩
    obtain ⟨h1, h2⟩ := nodup_take hnd hp
    have hpn := hlt p (List.mem_of_getElem? hp)
    have hxl := (List.getElem?_eq_some_iff.mp hp).1
    have hbH := e3 _ _ (eG _ _ hbp)
    walk_at "rd"
    refine ⟨_, p.1, p.2, n, rfl, hbH, hpn.1, hpn.2, ?_⟩
    walk_at "rd"
    refine ⟨_, _, rfl, DGet.t hD hbH, ?_⟩
    rw [dP_mem, decide_eq_false h1]
    walk_at "rd"
    refine ⟨_, _, rfl, DPut.t hD hbH (szl ?_), ?_⟩
    · unfold dP
      rw [List.length_map, List.length_take]
      omega
    refine ⟨_, rfl, Same.mut e3 hdH, ?_, ?_⟩
    · rw [dP_put h1, h2, upd_same]
    · rw [upd_ne had]
      exact hA
  · obtain ⟨y', rfl, e3, hD, hA⟩ := hP
    walk_at "rd"
    exact q _ e3
/-- the heap without one object -/
def hide (a : Addr) (H : Hp) : Hp := fun b => if b = a then none else H b
theorem hide_ne {a b : Addr} {H : Hp} (h : b ≠ a) : hide a H b = H b := if_neg h
theorem hide_at {a : Addr} {H : Hp} : hide a H a = none := if_pos rfl
theorem hide_same {a : Addr} {H : Hp} : Same (hide a H) H := fun b u e => by
  unfold hide at e
  split at e
  · cases e
  · exact e
theorem hide_some {a b : Addr} {H : Hp} {u : HO} (h : hide a H b = some u) : b ≠ a ∧ H b = some u := by
  unfold hide at h
  split at h
  · cases h
  · exact ⟨by assumption, h⟩
theorem hide_mono {a : Addr} {G H : Hp} (e : Same G H) : Same (hide a G) (hide a H) := fun b u h => by
  obtain ⟨n, h⟩ := hide_some h
  rw [hide_ne n]
  exact e _ _ h
theorem hide_upd {a : Addr} {H : Hp} {o : HO} : Same (hide a H) (upd H a o) := fun b u h => by
  obtain ⟨n, h⟩ := hide_some h
  rw [upd_ne n]
  exact h
theorem unhide {a : Addr} {H H' : Hp} {u : HO} (h : H a = some u) (e : Same (hide a H) H') : Same H (upd H' a u) := fun b v hb => by
  by_cases n : b = a
  · subst n
    rw [upd_same]
    rw [h] at hb
    exact hb
  · rw [upd_ne n]
    exact e _ _ (by rw [hide_ne n]; exact hb)
theorem hide_step {a : Addr} {H H1 H2 : Hp} (e1 : Same (hide a H) H1) (e2 : Same H1 H2) : Same (hide a H) H2 := fun b u h => e2 _ _ (e1 _ _ h)
theorem Sq2.hide {a b : Addr} {H : Hp} {xs : List V} (h : Sq2 H b xs) (n : b ≠ a) : Sq2 (hide a H) b xs := by
  unfold Sq2
  rw [hide_ne n]
  exact h
theorem Sq2.ne {a b : Addr} {H : Hp} {xs : List V} {kvs : List (Key × V)} (h : Sq2 H b xs) (ha : H a = some (.dK kvs)) : b ≠ a := by
  rcases h with h | h
  · exact ne_of h ha (by intro z; cases z)
  · exact ne_of h ha (by intro z; cases z)
theorem PairsAt.hide {a : Addr} {H : Hp} {qs : List Addr} {ps : List (Nat × Nat)} {kvs : List (Key × V)} (h : PairsAt H qs ps) (ha : H a = some (.dK kvs)) : PairsAt (hide a H) qs ps := Paired.mapP h fun q p e => by
  rw [hide_ne (ne_of e ha (by intro z; cases z))]
  exact e
/-- a dict from the marks to sequences of things -/
def MarksIn (H : Hp) (a : Addr) (ns : List Str) (mk : Str → List Nat) : Prop := ∃ ks : List (Str × Addr), H a = some (.dK (dR ks)) ∧ (ks.map (·.1)).Perm ns ∧ ∀ p ∈ ks, Sq2 H p.2 ((mk p.1).map nV)
def TiesIn (H : Hp) (a : Addr) (ns : List Str) (ti : Str → List (Nat × Nat)) : Prop := ∃ ks : List (Str × Addr), H a = some (.dK (dR ks)) ∧ (ks.map (·.1)).Perm ns ∧ ∀ p ∈ ks, ∃ qs, Sq2 H p.2 (qs.map V.ref) ∧ PairsAt H qs (ti p.1)
theorem MarksIn.mono {G H : Hp} {a : Addr} {ns : List Str} {mk : Str → List Nat} (h : MarksIn G a ns mk) (e : Same G H) : MarksIn H a ns mk := by
  obtain ⟨ks, h1, h2, h3⟩ := h
  exact ⟨ks, e _ _ h1, h2, fun p hp => (h3 p hp).mono e⟩
theorem TiesIn.mono {G H : Hp} {a : Addr} {ns : List Str} {ti : Str → List (Nat × Nat)} (h : TiesIn G a ns ti) (e : Same G H) : TiesIn H a ns ti := by
  obtain ⟨ks, h1, h2, h3⟩ := h
  exact ⟨ks, e _ _ h1, h2, fun p hp => let ⟨qs, h4, h5⟩ := h3 p hp; ⟨qs, h4.mono e, h5.mono e⟩⟩
/-- such things, such pairs -/
structure OkM (ns : List Str) (n : Nat) (mk : Str → List Nat) : Prop where
  nd : ∀ m ∈ ns, (mk m).Nodup
  lt : ∀ m ∈ ns, ∀ i ∈ mk m, i < n
  len : ∀ m ∈ ns, (mk m).length ≤ n
structure OkP (ns : List Str) (n : Nat) (ti : Str → List (Nat × Nat)) : Prop where
  nd : ∀ m ∈ ns, (ti m).Nodup
  lt : ∀ m ∈ ns, ∀ p ∈ ti m, p.1 < n ∧ p.2 < n
  len : ∀ m ∈ ns, (ti m).length ≤ n * n
def spCheckMarks (cT : Addr) : Sp := fun vs H Q _ => ∃ (G : Hp) (t a : Addr) (T : Tng) (n : Nat) (mk : Str → List Nat), vs = [.ref t, .int n, .ref a] ∧ Same G H ∧ TongueAt cT G t T ∧ MarksIn G a T.marks mk ∧ T.marks.Nodup ∧ OkM T.marks n mk ∧ n ≤ 15 ∧ ∀ H', Same H H' → Q .non H'
theorem ok_check_marks (T0 : ClT K cT) (D : Def K mg "check_marks" s_check_marks) (c_marks : PropOk P w K mg base cT 1 "marks" (getSp cT "kept_marks")) (c_is_dict_of : CallOk P w K mg base 2 "is_dict_of" P_is_dict_of (spIsDictOf K)) (c_are_things : CallOk P w K mg base 4 "are_things" P_are_things spAreThings) :
    CallOk P w K mg base 5 "check_marks" P_check_marks (spCheckMarks cT) := by
  refine callOk D sc_check_marks bd_check_marks (fun vs H Q E h => ?_) (fun f cdv A outer st H vs Q E hr h => ?_)
  · obtain ⟨G, t, a, T, n, mk, rfl, _⟩ := h
    rfl
  obtain ⟨G, t, a, T, n, mk, rfl, eG, hT, ⟨ks, ha, hp, hk⟩, hnd, ok, hn, q⟩ := h
  have hr1 : Room 2 _ := hr.mono (by decide)
  have hu := hu_of hr
  obtain ⟨dx, am, at_, af, hI, hM, hTi, hF⟩ := hT
  have hnk : (ks.map (·.1)).Nodup := hp.nodup_iff.mpr hnd
  refine ⟨_, pss_cons (ps_if (pt_not (pt_val (pe_cl c_is_dict_of hr1 (by rfl) (pa_cons (pv 2) (pa_cons (pe_pr c_marks T0.cl hr1 (pv 0)) pa_nil))))) (pss_one (ps_never)) (pss_nil)) (pss_one (ps_lock (ps_for PassesOwn.never rfl (pi_keys (pv 2)) (pg_name (i := 3) sc_check_marks.nd rfl (.inl rfl)) (pss_one (ps_if (pt_not (pt_val (pe_cl c_are_things hr (by rfl) (pa_cons (pe_dget hu (pv 2) (pv 3) (fun _ _ => rfl)) (pa_cons (pv 1) pa_nil))))) (pss_one (ps_never)) (pss_nil)))))), ?_⟩
  walk_at "rd"
  refine ⟨_, _, _, rfl, eG _ _ hI, _, _, _, _, rfl, eG _ _ hI, fT_m _ _ _, ?_⟩
  refine ⟨_, _, ks, T.marks, rfl, eG _ _ ha, SqT.of (eG _ _ hM), by have := hp.length_eq; simpa using this, fun p hp' => hp.mem_iff.mp (List.mem_map.mpr ⟨p, hp', rfl⟩), ?_⟩
  walk_at "rd"
  have haH := eG _ _ ha
  refine ⟨a, .dK (dR ks), haH, True.intro, fun od => ?_⟩
  have ha' : upd H a (.frz od (.dK (dR ks))) a = some (.frz od (.dK (dR ks))) := upd_same
  refine ⟨_, rfl, a, od, rfl, .inl ⟨_, ha', ?_⟩⟩
  refine for_it walk_keys (fun i σ H' => Same (hide a H) H' ∧ H' a = some (.frz od (.dK (dR ks))) ∧ ∃ y, σ = [some (.ref t), some (.int n), some (.ref a), y]) ⟨hide_upd, ha', _, rfl⟩ (fun i σ H' _ hP => hP.2.1) (fun i x σ H' H2 hi hP y => ?_) (fun σ H' hP => ?_)
  · obtain ⟨e3, hA, y', rfl⟩ := hP
    obtain ⟨rfl, k, v, hk', rfl⟩ := y
    obtain ⟨p, hp', e⟩ := map_at hk'
    cases e
    have hpm := List.mem_of_getElem? hp'
    have hpn : p.1 ∈ T.marks := hp.mem_iff.mp (List.mem_map.mpr ⟨p, hpm, rfl⟩)
    walk_at "rd"
    refine ⟨_, _, rfl, .inl ⟨_, Sum.inr p.1, .inr ⟨_, hA⟩, rfl, (dR_val hnk hpm).symm⟩, ?_⟩
    walk_at "rd"
    have hs := (hk p hpm).mono eG
    refine ⟨hide a H, p.2, mk p.1, n, rfl, e3, hs.hide (hs.ne haH), ok.nd _ hpn, ok.lt _ hpn, Nat.le_trans (ok.len _ hpn) (by omega), fun H4 e4 => ?_⟩
    walk_at "rd"
    exact ⟨hide_step e3 e4, e4 _ _ hA, _, rfl⟩
  · obtain ⟨e3, hA, y', rfl⟩ := hP
    refine ⟨hA, ?_⟩
    exact q _ (unhide haH e3)
theorem pt_nev {X : Cx} {e : Expr} : PT X e (fun _ _ _ => False) := ⟨fun _ _ _ _ _ _ h => h.elim⟩
def spCheckTies (cT : Addr) : Sp := fun vs H Q _ => ∃ (G : Hp) (t a : Addr) (T : Tng) (n : Nat) (ti : Str → List (Nat × Nat)), vs = [.ref t, .int n, .ref a] ∧ Same G H ∧ TongueAt cT G t T ∧ TiesIn G a T.ties ti ∧ T.ties.Nodup ∧ OkP T.ties n ti ∧ n ≤ 15 ∧ ∀ H', Same H H' → Q .non H'
theorem ok_check_ties (T0 : ClT K cT) (D : Def K mg "check_ties" s_check_ties) (c_ties : PropOk P w K mg base cT 1 "ties" (getSp cT "kept_ties")) (c_is_dict_of : CallOk P w K mg base 2 "is_dict_of" P_is_dict_of (spIsDictOf K)) (c_are_pairs : CallOk P w K mg base 5 "are_pairs" P_are_pairs spArePairs) :
    CallOk P w K mg base 6 "check_ties" P_check_ties (spCheckTies cT) := by
  refine callOk D sc_check_ties bd_check_ties (fun vs H Q E h => ?_) (fun f cdv A outer st H vs Q E hr h => ?_)
  · obtain ⟨G, t, a, T, n, mk, rfl, _⟩ := h
    rfl
  obtain ⟨G, t, a, T, n, ti, rfl, eG, hT, ⟨ks, ha, hp, hk⟩, hnd, ok, hn, q⟩ := h
  have hr1 : Room 2 _ := hr.mono (by decide)
  have hu := hu_of hr
  obtain ⟨dx, am, at_, af, hI, hM, hTi, hF⟩ := hT
  have hnk : (ks.map (·.1)).Nodup := hp.nodup_iff.mpr hnd
  refine ⟨_, pss_cons (ps_if (pt_not (pt_val (pe_cl c_is_dict_of hr1 (by rfl) (pa_cons (pv 2) (pa_cons (pe_pr c_ties T0.cl hr1 (pv 0)) pa_nil))))) (pss_one (ps_never)) (pss_nil)) (pss_one (ps_lock (ps_for PassesOwn.never rfl (pi_keys (pv 2)) (pg_name (i := 3) sc_check_ties.nd rfl (.inl rfl)) (pss_cons (ps_if (pt_not (pt_val (pe_cl c_are_pairs hr (by rfl) (pa_cons (pe_dget hu (pv 2) (pv 3) (fun _ _ => rfl)) (pa_cons (pv 1) pa_nil))))) (pss_one (ps_never)) (pss_nil)) (pss_one (ps_if (PW.pt (pw_and (pt_cmpR op_in_seq (pv 3) (pe_fld (pv 0) rfl) (by rfl)) (pw_and1 (pt_nev)))) (pss_one (ps_never)) (pss_nil))))))), ?_⟩
  walk_at "rd"
  refine ⟨_, _, _, rfl, eG _ _ hI, _, _, _, _, rfl, eG _ _ hI, fT_t _ _ _, ?_⟩
  refine ⟨_, _, ks, T.ties, rfl, eG _ _ ha, SqT.of (eG _ _ hTi), by have := hp.length_eq; simpa using this, fun p hp' => hp.mem_iff.mp (List.mem_map.mpr ⟨p, hp', rfl⟩), ?_⟩
  walk_at "rd"
  have haH := eG _ _ ha
  refine ⟨a, .dK (dR ks), haH, True.intro, fun od => ?_⟩
  have ha' : upd H a (.frz od (.dK (dR ks))) a = some (.frz od (.dK (dR ks))) := upd_same
  have hIa : t ≠ a := ne_of (eG _ _ hI) haH (by intro z; cases z)
  have hFa : af ≠ a := ne_of (eG _ _ hF) haH (by intro z; cases z)
  refine ⟨_, rfl, a, od, rfl, .inl ⟨_, ha', ?_⟩⟩
  refine for_it walk_keys (fun i σ H' => Same (hide a H) H' ∧ H' a = some (.frz od (.dK (dR ks))) ∧ ∃ y, σ = [some (.ref t), some (.int n), some (.ref a), y]) ⟨hide_upd, ha', _, rfl⟩ (fun i σ H' _ hP => hP.2.1) (fun i x σ H' H2 hi hP y => ?_) (fun σ H' hP => ?_)
  · obtain ⟨e3, hA, y', rfl⟩ := hP
    obtain ⟨rfl, k, v, hk', rfl⟩ := y
    obtain ⟨p, hp', e⟩ := map_at hk'
    cases e
    have hpm := List.mem_of_getElem? hp'
    have hpn : p.1 ∈ T.ties := hp.mem_iff.mp (List.mem_map.mpr ⟨p, hpm, rfl⟩)
    walk_at "rd"
    refine ⟨_, _, rfl, .inl ⟨_, Sum.inr p.1, .inr ⟨_, hA⟩, rfl, (dR_val hnk hpm).symm⟩, ?_⟩
    walk_at "rd"
    obtain ⟨qs, hs, hps⟩ := hk p hpm
    have hs := hs.mono eG
    have hps := hps.mono eG
    refine ⟨hide a H, p.2, qs, ti p.1, n, rfl, e3, hs.hide (hs.ne haH), hps.hide haH, ok.nd _ hpn, ok.lt _ hpn, Nat.le_trans (ok.len _ hpn) (Nat.le_trans (Nat.mul_le_mul hn hn) (by decide)), fun H4 e4 => ?_⟩
    have e5 := hide_step e3 e4
    walk_at "rd"
    refine ⟨_, _, _, _, _, rfl, e5 _ _ (by rw [hide_ne hIa]; exact eG _ _ hI), T0.cl, T0.nf, fT_f _ _ _, ?_⟩
    refine ⟨_, [], rfl, .inr (SqT.of (e5 _ _ (by rw [hide_ne hFa]; exact eG _ _ hF))), rfl, rfl, ?_⟩
    walk_at "rd"
    exact ⟨e5, e4 _ _ hA, _, rfl⟩
  · obtain ⟨e3, hA, y', rfl⟩ := hP
    refine ⟨hA, ?_⟩
    exact q _ (unhide haH e3)
end
end K48
namespace K48
open PySem PySem.Spec PyProof.Rows L2
local macro_rules | `(tactic| walk_at "rd") => `(tactic| repeat (first | refine ⟨_, rfl, ?_⟩ | refine ⟨_, _, rfl, rfl, ?_⟩ | refine ⟨rfl, ?_⟩ | refine iteTk (by decide +kernel) ?_ | refine iteFk (by decide +kernel) ?_))
local macro_rules | `(tactic| walk_at "rdr") => `(tactic| repeat (first | refine ⟨_, rfl, ?_⟩ | refine ⟨_, _, rfl, rfl, ?_⟩ | refine ⟨rfl, ?_⟩ | refine iteTk (by first | decide +kernel | rfl) ?_ | refine iteFk (by first | decide +kernel | rfl) ?_))
local macro_rules | `(tactic| walk_at "tyn") => `(tactic| first | exact .int _ | exact .bl _ | exact .str _ | exact .tup (by assumption) | exact .lst (by assumption) | exact .dK (by assumption))
local macro_rules | `(tactic| walk_at "isT") => `(tactic| refine ⟨_, _, _, _, true, rfl, .ty _, TyN.x (by walk_at "tyn"), kit_ty (by decide +kernel), ?_⟩)
local macro_rules | `(tactic| walk_at "isF") => `(tactic| refine ⟨_, _, _, _, false, rfl, .ty _, TyN.x (by walk_at "tyn"), kit_ty (by decide +kernel), ?_⟩)
local macro_rules | `(tactic| walk_at "nz") => `(tactic| first | refine nzG (by simp only [List.set_cons_succ, List.set_cons_zero]; rfl) ?_ | refine reS (by simp only [List.set_cons_succ, List.set_cons_zero]; rfl) ?_)
structure Wd where
  T : Tng
  n : Nat
  ms : Str → List Nat
  ts : Str → List (Nat × Nat)
structure Wd.Ok (W : Wd) : Prop where
  ndm : W.T.marks.Nodup
  ndt : W.T.ties.Nodup
  lm : W.T.marks.length ≤ 3
  lt : W.T.ties.length ≤ 3
  lo : 1 ≤ W.n
  hi : W.n ≤ 15
  m : OkM W.T.marks W.n W.ms
  t : OkP W.T.ties W.n W.ts
def fW (n : Nat) (at_ am ati : Addr) : List (Str × V) := [("tongue", .ref at_), ("things", .int n), ("marked", .ref am), ("tied", .ref ati)]
theorem fW_T (n : Nat) (at_ am ati : Addr) : (fW n at_ am ati).lookup ("tongue" : Str) = some (.ref at_) := by kernel_rfl
theorem fW_n (n : Nat) (at_ am ati : Addr) : (fW n at_ am ati).lookup ("things" : Str) = some (.int n) := by kernel_rfl
theorem fW_m (n : Nat) (at_ am ati : Addr) : (fW n at_ am ati).lookup ("marked" : Str) = some (.ref am) := by kernel_rfl
theorem fW_t (n : Nat) (at_ am ati : Addr) : (fW n at_ am ati).lookup ("tied" : Str) = some (.ref ati) := by kernel_rfl
theorem fW_put (n : Nat) (at_ am ati : Addr) : putF "tied" (.ref ati) (putF "marked" (.ref am) (putF "things" (.int n) (putF "tongue" (.ref at_) []))) = fW n at_ am ati := by kernel_rfl
theorem lt_eqN {a b c : Nat} (h : a = b) (k : b < c) : a < c := h ▸ k
theorem fW_l2 (n : Nat) (t : Addr) : (putF "things" (.int n) (putF "tongue" (.ref t) [])).length < 1000 := lt_eqN (by kernel_rfl : (putF "things" (.int n) (putF "tongue" (.ref t) [])).length = 2) (by decide)
theorem fW_l3 (n : Nat) (t d : Addr) : (putF "marked" (.ref d) (putF "things" (.int n) (putF "tongue" (.ref t) []))).length < 1000 := lt_eqN (by kernel_rfl : (putF "marked" (.ref d) (putF "things" (.int n) (putF "tongue" (.ref t) []))).length = 3) (by decide)
theorem PairsAt.keys {H : Hp} {qs : List Addr} {ps : List (Nat × Nat)} (h : PairsAt H qs ps) : Paired (fun q k => H q = some (.tup (k.map kV))) qs (ps.map pk) := by
  unfold PairsAt at h
  induction h with
  | nil => exact .nil
  | cons h t ih => exact .cons h ih
def withA (ns : List Str) (f : Str → Addr) : List (Str × Addr) := ns.map fun m => (m, f m)
/-- a dict of sets of things, of pairs -/
def MkAt (H : Hp) (a : Addr) (ns : List Str) (f : Str → Addr) (mk : Str → List Nat) : Prop := H a = some (.dK (dR (withA ns f))) ∧ ∀ m ∈ ns, H (f m) = some (.dK (dI (mk m)))
def TiAt (H : Hp) (a : Addr) (ns : List Str) (f : Str → Addr) (ti : Str → List (Nat × Nat)) : Prop := H a = some (.dK (dR (withA ns f))) ∧ ∀ m ∈ ns, H (f m) = some (.dT (dP (ti m)))
theorem MkAt.mono {G H : Hp} {a : Addr} {ns : List Str} {f : Str → Addr} {mk : Str → List Nat} (h : MkAt G a ns f mk) (e : Same G H) : MkAt H a ns f mk := ⟨e _ _ h.1, fun m hm => e _ _ (h.2 m hm)⟩
theorem TiAt.mono {G H : Hp} {a : Addr} {ns : List Str} {f : Str → Addr} {ti : Str → List (Nat × Nat)} (h : TiAt G a ns f ti) (e : Same G H) : TiAt H a ns f ti := ⟨e _ _ h.1, fun m hm => e _ _ (h.2 m hm)⟩
theorem withA_mem {ns : List Str} {f : Str → Addr} {m : Str} (h : m ∈ ns) : (m, f m) ∈ withA ns f := List.mem_map.mpr ⟨m, h, rfl⟩
theorem withA_fst (ns : List Str) (f : Str → Addr) : (withA ns f).map (·.1) = ns := by
  unfold withA
  rw [List.map_map]
  exact List.map_id _
theorem withA_val {ns : List Str} {f : Str → Addr} {m : Str} (hn : ns.Nodup) (h : m ∈ ns) : valV (dR (withA ns f)) (Sum.inr m) = some (.ref (f m)) := dR_val (by rw [withA_fst]; exact hn) (withA_mem h)
def WorldAt (cT cW : Addr) (H : Hp) (a : Addr) (W : Wd) : Prop := ∃ dx at_ am ati fm ft, H a = some (.ins cW dx (fW W.n at_ am ati)) ∧ TongueAt cT H at_ W.T ∧ MkAt H am W.T.marks fm W.ms ∧ TiAt H ati W.T.ties ft W.ts
theorem WorldAt.mono {cT cW : Addr} {G H : Hp} {a : Addr} {W : Wd} (h : WorldAt cT cW G a W) (e : Same G H) : WorldAt cT cW H a W := by
  obtain ⟨dx, at_, am, ati, fm, ft, h1, h2, h3, h4⟩ := h
  exact ⟨dx, at_, am, ati, fm, ft, e _ _ h1, h2.mono e, h3.mono e, h4.mono e⟩
structure ClW (K : PySem.W.Frag) (cW : Addr) : Prop where
  cl : Cls K cW
  nT : NoAttr K cW "tongue"
  nn : NoAttr K cW "things"
  nm : NoAttr K cW "marked"
  nt : NoAttr K cW "tied"
/-- a further name, at D's end -/
theorem dR_put {ns : List Str} {f : Str → Addr} {i : Nat} {m : Str} (hn : ns.Nodup) (h : ns[i]? = some m) (p : Addr) :
    putK (dR (withA (ns.take i) f)) (Sum.inr m) (.ref p) = dR (withA (ns.take (i + 1)) fun x => if x = m then p else f x) := by
  obtain ⟨h1, h2⟩ := nodup_take hn h
  have e : valV (dR (withA (ns.take i) f)) (Sum.inr m) = none := by
    unfold valV
    rw [List.find?_eq_none.mpr]
    · rfl
    · intro x hx q
      obtain ⟨y, hy, rfl⟩ := List.mem_map.mp hx
      obtain ⟨z, hz, rfl⟩ := List.mem_map.mp hy
      exact h1 (by rw [← Sum.inr.inj (of_decide_eq_true q)]; exact hz)
  rw [putK_new _ e, h2]
  unfold withA dR
  rw [List.map_append, List.map_append]
  congr 1
  · rw [List.map_map, List.map_map]
    refine List.map_congr_left fun x hx => ?_
    have : ¬ x = m := fun q => h1 (q ▸ hx)
    simp [this]
  · simp
section
variable {P : Program} {w : World} {K : PySem.W.Frag} {mg : Str → Option Value} {base : Heap} {cT cW : Addr}
def spWInit (cT cW : Addr) : Sp := fun vs H Q _ => ∃ (G : Hp) (x dx t a b : Addr) (W : Wd), vs = [.ref x, .ref t, .int W.n, .ref a, .ref b] ∧ Same G H ∧ G x = none ∧ H x = some (.ins cW dx []) ∧ TongueAt cT G t W.T ∧ MarksIn G a W.T.marks W.ms ∧ TiesIn G b W.T.ties W.ts ∧ W.Ok ∧
  ∀ H', Same (hide x H) H' → WorldAt cT cW H' x W → Q .non H'
theorem ok_World_init (T0 : ClT K cT) (T1 : ClW K cW) (B : Blt mg) (C : Cst K mg) (D : Mth K cW "__init__" "World.__init__" s_World__init) (c_is_within : CallOk P w K mg base 2 "is_within" P_is_within spIsWithin) (c_marks : PropOk P w K mg base cT 1 "marks" (getSp cT "kept_marks")) (c_ties : PropOk P w K mg base cT 1 "ties" (getSp cT "kept_ties"))
    (c_check_marks : CallOk P w K mg base 5 "check_marks" P_check_marks (spCheckMarks cT)) (c_check_ties : CallOk P w K mg base 6 "check_ties" P_check_ties (spCheckTies cT)) :
    MethOk P w K mg base cW 7 "__init__" P_World__init (spWInit cT cW) := by
  refine methOk D sc_World__init bd_World__init (fun vs H Q E h => ?_) (fun f cdv A outer st H vs Q E hr h => ?_)
  · obtain ⟨G, x, dx, t, a, b, W, rfl, _⟩ := h
    rfl
  obtain ⟨G, x, dx, t, a, b, W, rfl, eG, hxG, hx, hT, hMk, hTi, ok, q⟩ := h
  have hr1 : Room 2 _ := hr.mono (by decide)
  have hr5 : Room 5 _ := hr.mono (by decide)
  have hu := hu_of hr
  refine ⟨_, pss_cons (ps_if (pt_not (pt_val (pe_cl c_is_within hr1 (by rfl) (pa_cons (pv 2) (pa_cons (pe_int) (pa_cons (pe_intG C.MOST_THINGS (by rfl)) pa_nil)))))) (pss_one (ps_never)) (pss_nil)) (pss_cons (ps_expr (pe_cl c_check_marks hr5 (by rfl) (pa_cons (pv 1) (pa_cons (pv 2) (pa_cons (pv 3) pa_nil))))) (pss_cons (ps_expr (pe_cl c_check_ties hr (by rfl) (pa_cons (pv 1) (pa_cons (pv 2) (pa_cons (pv 4) pa_nil))))) (pss_cons (ps_fld (pv 0) (pv 1) rfl) (pss_cons (ps_fld (pv 0) (pv 2) rfl) (pss_cons (ps_fld (pv 0) (pe_dc (own := [("name", 6)]) (g := gName 6) (tt := tYes) (by rfl) sc_World__init.nd (pi_tup (pe_pr c_marks T0.cl hr1 (pv 1))) (blkOk_by (own := [("name", 6)]) (N := N_World__init) (by kernel_rfl)) (fun _ _ _ _ _ => pg_name (i := 6) sc_World__init.nd rfl (Or.inl rfl)) (fun _ _ _ _ _ => pts_nil) (fun _ _ _ _ _ => pv 6) (fun _ _ _ _ _ => pe_dc (own := [("thing", 5)]) (g := gName 5) (tt := tYes) (by rfl) sc_World__init.nd (pi_seq (pe_dget hu (pv 3) (pv 6) (fun _ _ => rfl))) (blkOk_by (own := [("thing", 5)]) (N := N_World__init) (by kernel_rfl)) (fun _ _ _ _ _ => pg_name (i := 5) sc_World__init.nd rfl (Or.inl rfl)) (fun _ _ _ _ _ => pts_nil) (fun _ _ _ _ _ => pv 5) (fun _ _ _ _ _ => pe_bl))) rfl) (pss_one (ps_fld (pv 0) (pe_dc (own := [("name", 6)]) (g := gName 6) (tt := tYes) (by rfl) sc_World__init.nd (pi_tup (pe_pr c_ties T0.cl hr1 (pv 1))) (blkOk_by (own := [("name", 6)]) (N := N_World__init) (by kernel_rfl)) (fun _ _ _ _ _ => pg_name (i := 6) sc_World__init.nd rfl (Or.inl rfl)) (fun _ _ _ _ _ => pts_nil) (fun _ _ _ _ _ => pv 6) (fun _ _ _ _ _ => pe_dcT (own := [("pair", 7)]) (by rfl) hu (pe_dget hu (pv 4) (pv 6) (fun _ _ => rfl)) (blkOk_by (own := [("pair", 7)]) (N := N_World__init) (by kernel_rfl)))) rfl))))))), ?_⟩
  have lo := ok.lo
  have hi := ok.hi
  walk_at "rd"
  refine ⟨_, _, _, rfl, ?_⟩
  rw [decide_eq_true (show (1 : Int) ≤ (W.n : Int) by omega), decide_eq_true (show (W.n : Int) ≤ 300 by omega)]
  walk_at "rd"
  refine ⟨G, t, a, W.T, W.n, W.ms, rfl, eG, hT, hMk, ok.ndm, ok.m, ok.hi, fun H1 e1 => ?_⟩
  walk_at "rd"
  refine ⟨G, t, b, W.T, W.n, W.ts, rfl, eG.trans e1, hT, hTi, ok.ndt, ok.t, ok.hi, fun H2 e2 => ?_⟩
  have e12 := e1.trans e2
  have eG2 := eG.trans e12
  have hx2 := e12 _ _ hx
  walk_at "rd"
  refine ⟨_, _, _, _, rfl, hx2, T1.cl, T1.nT, by decide, ?_⟩
  walk_at "rd"
  refine ⟨_, _, _, _, rfl, upd_same, T1.cl, T1.nn, by simp [putF], ?_⟩
  rw [upd_upd]
  have e3 : Same (hide x H) (upd H2 x (.ins cW dx (putF "things" (.int W.n) (putF "tongue" (.ref t) [])))) := hide_step (hide_mono e12) hide_upd
  have eG3 : Same G (upd H2 x (.ins cW dx (putF "things" (.int W.n) (putF "tongue" (.ref t) [])))) := Same.mut eG2 hxG
  have hx3 : upd H2 x (.ins cW dx (putF "things" (.int W.n) (putF "tongue" (.ref t) []))) x = some (.ins cW dx (putF "things" (.int W.n) (putF "tongue" (.ref t) []))) := upd_same
  revert e3 eG3 hx3
  generalize upd H2 x (.ins cW dx (putF "things" (.int W.n) (putF "tongue" (.ref t) []))) = H3
  intro e3 eG3 hx3
  obtain ⟨dT, am, at_, af, hI, hM, hTt, hF⟩ := id hT
  obtain ⟨ks, ha, hkp, hks⟩ := hMk
  obtain ⟨ls, hb, hlp, hls⟩ := hTi
  have hnk : (ks.map (·.1)).Nodup := hkp.nodup_iff.mpr ok.ndm
  have hnl : (ls.map (·.1)).Nodup := hlp.nodup_iff.mpr ok.ndt
  walk_at "rd"
  refine ⟨_, _, _, rfl, eG3 _ _ hI, _, _, _, _, rfl, eG3 _ _ hI, fT_m _ _ _, ?_⟩
  refine ⟨_, rfl, ⟨_, SqT.of (eG3 _ _ hM)⟩, fun D hD0 => ?_⟩
  refine dc_it (walk_tup (xs := W.T.marks.map V.str)) (fun i H' => ∃ fm : Str → Addr, Same H3 H' ∧ H' D = some (.dK (dR (withA (W.T.marks.take i) fm))) ∧ ∀ m ∈ W.T.marks.take i, H' (fm m) = some (.dK (dI (W.ms m))) ∧ fm m ≠ D)
    ⟨fun _ => 0, Same.new (Same.refl _) hD0, upd_same, fun m hm => by simp at hm⟩ (fun i H' _ hP => hP.elim fun fm h => SqT.of (h.1 _ _ (eG3 _ _ hM))) (fun i x' H0 H' hi hP y => ?_) (fun H' hP => ?_)
  · obtain ⟨fm, e4, hD, hfm⟩ := hP
    obtain ⟨rfl, hx'⟩ := y
    obtain ⟨m, hm, rfl⟩ := map_at hx'
    have hmm := List.mem_of_getElem? hm
    obtain ⟨p, hp, hpm⟩ : ∃ p ∈ ks, p.1 = m := List.mem_map.mp (hkp.mem_iff.mpr hmm)
    subst hpm
    refine ⟨rfl, ?_⟩
    walk_at "rd"
    have e5 := eG3.trans e4
    refine ⟨_, _, rfl, .inl ⟨_, Sum.inr p.1, .inl (e5 _ _ ha), rfl, (dR_val hnk hp).symm⟩, ?_⟩
    obtain ⟨o, ho, hso⟩ := seqO_sq ((hks p hp).mono e5)
    refine ⟨_, _, o, rfl, ho, hso, fun J wk D2 hD2 => ?_⟩
    have hDD : D2 ≠ D := fun z => by rw [z, hD] at hD2; cases hD2
    have hnd := ok.m.nd _ hmm
    have hlen : (W.ms p.1).length ≤ 15 := Nat.le_trans (ok.m.len _ hmm) ok.hi
    have hne : p.2 ≠ D2 := fun z => by rw [z, hD2] at hso; cases hso
    refine dc_it wk (fun j H5 => Same H' H5 ∧ H5 D2 = some (.dK (dI ((W.ms p.1).take j)))) ⟨Same.new (Same.refl _) hD2, upd_same⟩ (fun j H5 _ hP => hP.1 _ _ hso) (fun j z H6 H5 hj hP y => ?_) (fun H5 hP => ?_)
    · obtain ⟨e6, hD6⟩ := hP
      obtain ⟨rfl, hz⟩ := y
      obtain ⟨k, hk, rfl⟩ := map_at hz
      obtain ⟨n1, n2⟩ := nodup_take hnd hk
      refine ⟨rfl, ?_⟩
      walk_at "rd"
      refine ⟨_, Sum.inl (k : Int), rfl, hD6, szl ?_, ?_⟩
      · unfold dI
        rw [List.length_map, List.length_take]
        omega
      · rw [dI_put n1, ← n2]
        exact ⟨Same.mut e6 hD2, upd_same⟩
    · obtain ⟨e6, hD6⟩ := hP
      rw [List.length_map, List.take_length] at hD6
      have hD7 := e6 _ _ hD
      have hml := (List.getElem?_eq_some_iff.mp hm).1
      have hT2 := hml
      refine ⟨_, Sum.inr p.1, rfl, hD7, szl ?_, fun x => if x = p.1 then D2 else fm x, Same.mut (e4.trans e6) hD0, ?_, ?_⟩
      · unfold dR withA
        rw [List.length_map, List.length_map, List.length_take]
        have := ok.lm
        omega
      · rw [upd_same, dR_put ok.ndm hm]
      · intro m' hm'
        obtain ⟨_, n2⟩ := nodup_take ok.ndm hm
        rw [n2] at hm'
        by_cases q : m' = p.1
        · subst q
          simp only [if_true]
          exact ⟨by rw [upd_ne hDD]; exact hD6, hDD⟩
        · simp only [if_neg q]
          rcases List.mem_append.mp hm' with h | h
          · obtain ⟨g1, g2⟩ := hfm m' h
            exact ⟨by rw [upd_ne g2]; exact e6 _ _ g1, g2⟩
          · exact absurd (by simpa using h) q
  · obtain ⟨fm, e4, hDm, hfm⟩ := hP
    rw [List.length_map, List.take_length] at hDm hfm
    walk_at "rd"
    refine ⟨_, _, _, _, rfl, e4 _ _ hx3, T1.cl, T1.nm, fW_l2 _ _, ?_⟩
    have hm5 : MkAt (hide x H') D W.T.marks fm W.ms := by
      have hDx : D ≠ x := ne_of hDm (e4 _ _ hx3) (by intro z; cases z)
      refine ⟨by rw [hide_ne hDx]; exact hDm, fun m hm => ?_⟩
      have hfx : fm m ≠ x := ne_of (hfm m hm).1 (e4 _ _ hx3) (by intro z; cases z)
      rw [hide_ne hfx]
      exact (hfm m hm).1
    generalize hfs : putF "marked" (.ref D) (putF "things" (.int W.n) (putF "tongue" (.ref t) [])) = fs5
    have e5 : Same (hide x H) (upd H' x (.ins cW dx fs5)) := fun c u hc => by
      obtain ⟨n1, _⟩ := hide_some hc
      rw [upd_ne n1]
      exact e4 _ _ (e3 _ _ hc)
    have eG5 : Same G (upd H' x (.ins cW dx fs5)) := Same.mut (eG3.trans e4) hxG
    have hx5 : upd H' x (.ins cW dx fs5) x = some (.ins cW dx fs5) := upd_same
    have hm6 : MkAt (upd H' x (.ins cW dx fs5)) D W.T.marks fm W.ms := hm5.mono hide_upd
    revert e5 eG5 hx5 hm6
    generalize upd H' x (.ins cW dx fs5) = H5
    intro e5 eG5 hx5 hm6
    walk_at "rd"
    refine ⟨_, _, _, rfl, eG5 _ _ hI, _, _, _, _, rfl, eG5 _ _ hI, fT_t _ _ _, ?_⟩
    refine ⟨_, rfl, ⟨_, SqT.of (eG5 _ _ hTt)⟩, fun D2 hD2 => ?_⟩
    refine dc_it (walk_tup (xs := W.T.ties.map V.str)) (fun i H' => ∃ ft : Str → Addr, Same H5 H' ∧ H' D2 = some (.dK (dR (withA (W.T.ties.take i) ft))) ∧ ∀ m ∈ W.T.ties.take i, H' (ft m) = some (.dT (dP (W.ts m))))
      ⟨fun _ => 0, Same.new (Same.refl _) hD2, upd_same, fun m hm => by simp at hm⟩ (fun i H' _ hP => hP.elim fun fm h => SqT.of (h.1 _ _ (eG5 _ _ hTt))) (fun i x' H0 H' hi hP y => ?_) (fun H' hP => ?_)
    · obtain ⟨ft, e6, hD, hft⟩ := hP
      obtain ⟨rfl, hx'⟩ := y
      obtain ⟨m, hm, rfl⟩ := map_at hx'
      have hmm := List.mem_of_getElem? hm
      obtain ⟨p, hp, hpm⟩ : ∃ p ∈ ls, p.1 = m := List.mem_map.mp (hlp.mem_iff.mpr hmm)
      subst hpm
      refine ⟨rfl, ?_⟩
      walk_at "rd"
      have e7 := eG5.trans e6
      refine ⟨_, _, rfl, .inl ⟨_, Sum.inr p.1, .inl (e7 _ _ hb), rfl, (dR_val hnl hp).symm⟩, ?_⟩
      obtain ⟨qs, hq1, hq2⟩ := hls p hp
      have hq1 := hq1.mono e7
      have hq2 := hq2.mono e7
      refine ⟨_, qs, (W.ts p.1).map pk, rfl, hq1, ?_, ?_, fun D3 hD3 => ?_⟩
      · exact hq2.keys
      · have := ok.t.nd _ hmm
        rw [List.Nodup, List.pairwise_map]
        exact this.imp fun h q => h (pk_inj q)
      · have hDD : D2 ≠ D3 := fun z => by rw [← z, hD] at hD3; cases hD3
        refine ⟨_, Sum.inr p.1, rfl, by rw [upd_ne hDD]; exact hD, szl ?_, fun x => if x = p.1 then D3 else ft x, Same.mut (Same.new e6 hD3) hD2, ?_, ?_⟩
        · unfold dR withA
          rw [List.length_map, List.length_map, List.length_take]
          have := ok.lt
          omega
        · rw [upd_same, dR_put ok.ndt hm]
        · intro m' hm'
          obtain ⟨_, n2⟩ := nodup_take ok.ndt hm
          rw [n2] at hm'
          by_cases q : m' = p.1
          · subst q
            simp only [if_true]
            rw [upd_ne (Ne.symm hDD), upd_same, List.map_map]
            rfl
          · simp only [if_neg q]
            rcases List.mem_append.mp hm' with h | h
            · have g1 := hft m' h
              rw [upd_ne (ne_of g1 hD (by intro z; cases z)), upd_ne (ne_of_none g1 hD3)]
              exact g1
            · exact absurd (by simpa using h) q
    · obtain ⟨ft, e6, hDt, hft⟩ := hP
      rw [List.length_map, List.take_length] at hDt hft
      walk_at "rd"
      subst hfs
      refine ⟨_, _, _, _, rfl, e6 _ _ hx5, T1.cl, T1.nt, fW_l3 _ _ _, ?_⟩
      have hx6 := e6 _ _ hx5
      have nx : ∀ (c : Addr) (o : HO), H' c = some o → (∀ fs, o ≠ .ins cW dx fs) → c ≠ x := fun c o h hn => ne_of h hx6 (fun z => hn _ z)
      refine q _ ?_ ?_
      · intro c u hc
        obtain ⟨n1, _⟩ := hide_some hc
        rw [upd_ne n1]
        exact e6 _ _ (e5 _ _ hc)
      · refine ⟨dx, t, D, D2, fm, ft, by rw [upd_same, fW_put], hT.mono (Same.mut (eG5.trans e6) hxG), ?_, ?_⟩
        · have h7 := hm6.mono e6
          refine ⟨by rw [upd_ne (nx _ _ h7.1 (fun _ z => by cases z))]; exact h7.1, fun m hm => ?_⟩
          rw [upd_ne (nx _ _ (h7.2 m hm) (fun _ z => by cases z))]
          exact h7.2 m hm
        · refine ⟨by rw [upd_ne (nx _ _ hDt (fun _ z => by cases z))]; exact hDt, fun m hm => ?_⟩
          rw [upd_ne (nx _ _ (hft m hm) (fun _ z => by cases z))]
          exact hft m hm
end
end K48
namespace K48
open PySem PySem.Spec PyProof.Rows L2
local macro_rules | `(tactic| walk_at "rd") => `(tactic| repeat (first | refine ⟨_, rfl, ?_⟩ | refine ⟨_, _, rfl, rfl, ?_⟩ | refine ⟨rfl, ?_⟩ | refine iteTk (by decide +kernel) ?_ | refine iteFk (by decide +kernel) ?_))
local macro_rules | `(tactic| walk_at "rdr") => `(tactic| repeat (first | refine ⟨_, rfl, ?_⟩ | refine ⟨_, _, rfl, rfl, ?_⟩ | refine ⟨rfl, ?_⟩ | refine iteTk (by first | decide +kernel | rfl) ?_ | refine iteFk (by first | decide +kernel | rfl) ?_))
local macro_rules | `(tactic| walk_at "tyn") => `(tactic| first | exact .int _ | exact .bl _ | exact .str _ | exact .tup (by assumption) | exact .lst (by assumption) | exact .dK (by assumption))
local macro_rules | `(tactic| walk_at "isT") => `(tactic| refine ⟨_, _, _, _, true, rfl, .ty _, TyN.x (by walk_at "tyn"), kit_ty (by decide +kernel), ?_⟩)
local macro_rules | `(tactic| walk_at "isF") => `(tactic| refine ⟨_, _, _, _, false, rfl, .ty _, TyN.x (by walk_at "tyn"), kit_ty (by decide +kernel), ?_⟩)
local macro_rules | `(tactic| walk_at "nz") => `(tactic| first | refine nzG (by simp only [List.set_cons_succ, List.set_cons_zero]; rfl) ?_ | refine reS (by simp only [List.set_cons_succ, List.set_cons_zero]; rfl) ?_)
/-! ## == of the dicts of a world -/
def FPd (H : Hp) (x y : V) : Prop := ∃ (a b : Addr) (ps : List (Nat × Nat)), x = .ref a ∧ y = .ref b ∧ H a = some (.dT (dP ps)) ∧ H b = some (.dT (dP ps))
section
variable {X : Cx} {pins : List (Addr × Obj)} {σ : L2.St} {H : Hp} {s : Shared}
theorem KT_keys {kvs : List (List Key × V)} {xs : List (List Key × Addr × Value)} (h : KT H kvs xs) : xs.map (·.1) = kvs.map (·.1) := by
  unfold KT at h
  induction h with
  | nil => rfl
  | cons h t ih => rw [List.map_cons, List.map_cons, ih, h.1]
theorem KT_true {ps : List (Nat × Nat)} {xs : List (List Key × Addr × Value)} (h : KT H (dP ps) xs) : ∀ x ∈ xs, x.2.2 = .bool true := by
  intro x hx
  obtain ⟨i, hi⟩ := List.getElem?_of_mem hx
  obtain ⟨p, hp, h1, h2, h3⟩ := Paired.at h hi
  obtain ⟨q, hq, rfl⟩ := map_at hp
  exact h3
theorem fpd_run (I : Inv X pins σ H s) {A : Around} (hu : A.units + 1 < cLine) (x y : V) (v u : Value) (h : FPd H x y) (rx : RelV x v) (ry : RelV y u) : SeqAt.EqP X.prog X.w A s v u true := by
  obtain ⟨a, b, ps, rfl, rfl, ha, hb⟩ := h
  cases rx
  cases ry
  by_cases e : a = b
  · subst e
    exact (SeqAt.EqAt.same _).eqP
  · refine SeqAt.eqP_refs e fun E Q hq => ?_
    obtain ⟨_, la, xs, ka, da⟩ := dt_of I.hok ha
    obtain ⟨_, lb, ys, kb, db⟩ := dt_of I.hok hb
    have k1 := KT_keys ka
    have k2 := KT_keys kb
    refine rc_dictsH la lb (Nat.lt_of_succ_lt hu) hu da db ?_ (KT_true ka) (KT_true kb) ?_ E Q hq
    · have e1 := congrArg List.length k1
      have e2 := congrArg List.length k2
      simp only [List.length_map] at e1 e2
      omega
    · intro x hx
      rw [k2, ← k1]
      exact List.mem_map.mpr ⟨x, hx, rfl⟩
/-- == of two dicts of dicts of pairs -/
def rEqT (K : PySem.W.Frag) : R2 := fun x y H Q => EqR K H (FPd H) x y ∧ Q (.bl true) H
end
section
variable {X : Cx}
theorem op_eqT (hu : X.A.units + 64 < cLine) : OpR X (compareOp .Eq) (rEqT X.K) := by
  intro pins s σ H x y v u Q I rx ry h
  obtain ⟨h, q⟩ := h
  exact eqR_run I (A := X.A) (by omega) (fpd_run I (A := X.A.in1) (by show X.A.units + 1 + 1 < cLine; omega)) h rx ry _ _ ⟨.bl true, H, I, rfl, q⟩
end
theorem eqV_true (K : PySem.W.Frag) (H : Hp) : EqV K H 1 (.bl true) (.bl true) := .inl ⟨rfl, rfl⟩
theorem dI_self {xs : List Nat} {p : Key × V} (h : p ∈ dI xs) : p.2 = .bl true ∧ valV (dI xs) p.1 = some (.bl true) := by
  obtain ⟨i, hi, rfl⟩ := List.mem_map.mp h
  refine ⟨rfl, ?_⟩
  have e := dI_mem i xs
  rw [decide_eq_true hi] at e
  obtain ⟨v, hv⟩ := Option.isSome_iff_exists.mp e
  show valV (dI xs) (Sum.inl (i : Int)) = some (.bl true)
  rw [hv]
  obtain ⟨q, hq, hq2⟩ := Option.map_eq_some_iff.mp hv
  obtain ⟨j, _, hj⟩ := List.mem_map.mp (List.mem_of_find?_eq_some hq)
  rw [← hq2, ← hj]
theorem eqR_marks {K : PySem.W.Frag} {H : Hp} {a b : Addr} {ns : List Str} {f g : Str → Addr} {mk : Str → List Nat} (hn : ns.Nodup) (h1 : MkAt H a ns f mk) (h2 : MkAt H b ns g mk) : EqR K H (EqV K H 2) (.ref a) (.ref b) := by
  refine .inr ⟨a, b, _, _, rfl, rfl, h1.1, h2.1, by simp [dR, withA], fun p hp => ?_⟩
  obtain ⟨q, hq, rfl⟩ := List.mem_map.mp hp
  obtain ⟨m, hm, rfl⟩ := List.mem_map.mp hq
  refine ⟨.ref (g m), withA_val hn hm, .inr (.inr (.inr ⟨f m, g m, _, _, rfl, rfl, h1.2 m hm, h2.2 m hm, rfl, fun r hr => ?_⟩))⟩
  obtain ⟨e1, e2⟩ := dI_self hr
  exact ⟨_, e2, by rw [e1]; exact eqV_true K H⟩
theorem eqR_ties {K : PySem.W.Frag} {H : Hp} {a b : Addr} {ns : List Str} {f g : Str → Addr} {ti : Str → List (Nat × Nat)} (hn : ns.Nodup) (h1 : TiAt H a ns f ti) (h2 : TiAt H b ns g ti) : EqR K H (FPd H) (.ref a) (.ref b) := by
  refine .inr ⟨a, b, _, _, rfl, rfl, h1.1, h2.1, by simp [dR, withA], fun p hp => ?_⟩
  obtain ⟨q, hq, rfl⟩ := List.mem_map.mp hp
  obtain ⟨m, hm, rfl⟩ := List.mem_map.mp hq
  exact ⟨.ref (g m), withA_val hn hm, f m, g m, _, rfl, rfl, h1.2 m hm, h2.2 m hm⟩
section
variable {P : Program} {w : World} {K : PySem.W.Frag} {mg : Str → Option Value} {base : Heap} {cT cW : Addr}
def spHas (cT cW : Addr) : Sp := fun vs H Q _ => ∃ (a : Addr) (m : Str) (i : Nat) (W : Wd), vs = [.ref a, .str m, .int i] ∧ WorldAt cT cW H a W ∧ W.T.marks.Nodup ∧ m ∈ W.T.marks ∧ Q (.bl (decide (i ∈ W.ms m))) H
theorem ok_has (T1 : ClW K cW) (D : Mth K cW "has" "World.has" s_World_has) : MethOk P w K mg base cW 1 "has" P_World_has (spHas cT cW) := by
  refine methOk D sc_World_has bd_World_has (fun vs H Q E h => ?_) (fun f cdv A outer st H vs Q E hr h => ?_)
  · obtain ⟨a, m, i, W, rfl, _⟩ := h
    rfl
  obtain ⟨a, m, i, W, rfl, ⟨dx, at_, am, ati, fm, ft, hI, hT, hm, ht⟩, hn, hmm, q⟩ := h
  have hu := hu_of hr
  refine ⟨_, pss_one (ps_ret (pe_cmp (pc_din hu (pv 2) (pe_dget hu (pe_fld (pv 0) rfl) (pv 1) (fun _ _ => rfl))) rfl)), ?_⟩
  walk_at "rd"
  refine ⟨_, _, _, _, _, rfl, hI, T1.cl, T1.nm, fW_m _ _ _ _, ?_⟩
  walk_at "rd"
  refine ⟨_, _, rfl, .inl ⟨_, Sum.inr m, .inl hm.1, rfl, (withA_val hn hmm).symm⟩, ?_⟩
  refine ⟨_, _, rfl, DGet.k (k := Sum.inl (i : Int)) (hm.2 m hmm), ?_⟩
  rw [dI_mem]
  exact q
def spLeads (cT cW : Addr) : Sp := fun vs H Q _ => ∃ (a : Addr) (m : Str) (i j : Nat) (W : Wd), vs = [.ref a, .str m, .int i, .int j] ∧ WorldAt cT cW H a W ∧ W.T.ties.Nodup ∧ m ∈ W.T.ties ∧ ∀ H', Same H H' → Q (.bl (decide ((i, j) ∈ W.ts m))) H'
theorem ok_leads (T1 : ClW K cW) (D : Mth K cW "leads" "World.leads" s_World_leads) : MethOk P w K mg base cW 1 "leads" P_World_leads (spLeads cT cW) := by
  refine methOk D sc_World_leads bd_World_leads (fun vs H Q E h => ?_) (fun f cdv A outer st H vs Q E hr h => ?_)
  · obtain ⟨a, m, i, j, W, rfl, _⟩ := h
    rfl
  obtain ⟨a, m, i, j, W, rfl, hW, hn, hmm, q⟩ := h
  have hu := hu_of hr
  refine ⟨_, pss_one (ps_ret (pe_cmp (pc_din hu (pe_tup (pa_cons (pv 2) (pa_cons (pv 3) pa_nil))) (pe_dget hu (pe_fld (pv 0) rfl) (pv 1) (fun _ _ => rfl))) rfl)), ?_⟩
  walk_at "rd"
  refine ⟨sz (by simp), fun p hp => ?_⟩
  have sm : Same H (upd H p (.tup [nV i, nV j])) := Same.new (Same.refl H) hp
  obtain ⟨dx, at_, am, ati, fm, ft, hI, hT, hm, ht⟩ := hW.mono sm
  walk_at "rd"
  refine ⟨_, _, _, _, _, rfl, hI, T1.cl, T1.nt, fW_t _ _ _ _, ?_⟩
  walk_at "rd"
  refine ⟨_, _, rfl, .inl ⟨_, Sum.inr m, .inl ht.1, rfl, (withA_val hn hmm).symm⟩, ?_⟩
  refine ⟨_, _, rfl, DGet.t (k := pk (i, j)) (ht.2 m hmm) upd_same, ?_⟩
  rw [dP_mem]
  exact q _ sm
/-- tuples of the same texts -/
def StrsAt (H : Hp) (a : Addr) (xs : List Str) : Prop := H a = some (.tup (xs.map V.str))
theorem prs_strs (H : Hp) (xs : List Str) : Prs DFlat (xs.map V.str) (xs.map V.str) H := ⟨rfl, fun i x y h1 h2 => by
  rw [h1] at h2
  cases h2
  obtain ⟨z, _, rfl⟩ := map_at h1
  exact ⟨rfl, rfl, by simp [eqV]⟩⟩
def RT (cT : Addr) (a b : Addr) (H : Hp) : Prop := ∃ T : Tng, TongueAt cT H a T ∧ TongueAt cT H b T
def RW (cT cW : Addr) (a b : Addr) (H : Hp) : Prop := ∃ W : Wd, W.Ok ∧ WorldAt cT cW H a W ∧ WorldAt cT cW H b W
theorem isT_ins {K : PySem.W.Frag} {H : Hp} {a C dx : Addr} {fs : List (Str × V)} (h : H a = some (.ins C dx fs)) : True := trivial
/-- what isinstance asks of a class -/
structure IsiC (K : PySem.W.Frag) (C : Addr) : Prop where
  cl : Cls K C
  ca : PySem.W.findIn K (.ref C) "__class__" = some (some (.builtin "object.__class__"))
  cn : PySem.W.specialIn K (.builtin "object.__class__") "__get__" = some (some (.builtin "getset_descriptor.__get__"))
  ct : PySem.W.takesIn K (.builtin "object.__class__") = some true
  cm : PySem.W.mroIn K C (.type "object") = some true
theorem kit_own {K : PySem.W.Frag} {C : Addr} : PySem.W.kitOne K (.ref C) (.ref C) = some true := by simp [PySem.W.kitOne]
/-- the names of the two classes -/
structure MgC (mg : Str → Option Value) (cT cW : Addr) : Prop where
  mgT : mg "Tongue" = some (.ref cT)
  mgW : mg "World" = some (.ref cW)
structure NeF (K : PySem.W.Frag) (C : Addr) : Prop where
  ne : PySem.W.findIn K (.ref C) "__ne__" = some (some (.builtin "object.__ne__"))
  ob : PySem.W.mroIn K C (.type "object") = some true
theorem op_neM {X : Cx} {n : Nat} {C : Addr} {ps : List Str} {R : Addr → Addr → Hp → Prop} (c : MethOk X.prog X.w X.K X.mg X.base C n "__eq__" ps (spEq R)) (N : NeF X.K C) (hr : Room (n + 1) X.A) : OpR X (compareOp .NotEq) (rNeG C R) := by
  obtain ⟨f, fd, m, b, F⟩ := c
  exact op_neG F ⟨N.ne, N.ob, m.at_, m.fn⟩ b hr
theorem ok_Tongue_eq (T0 : ClT K cT) (I0 : IsiC K cT) (T : MgC mg cT cW) (B : Blt mg) (D : Mth K cT "__eq__" "Tongue.__eq__" s_Tongue__eq) (c_marks : PropOk P w K mg base cT 1 "marks" (getSp cT "kept_marks")) (c_ties : PropOk P w K mg base cT 1 "ties" (getSp cT "kept_ties")) :
    MethOk P w K mg base cT 3 "__eq__" P_Tongue__eq (spEq (RT cT)) := by
  refine methOk D sc_Tongue__eq bd_Tongue__eq (fun vs H Q E h => ?_) (fun f cdv A outer st H vs Q E hr h => ?_)
  · obtain ⟨a, b, rfl, _⟩ := h
    rfl
  obtain ⟨a, b, rfl, ⟨T', ⟨dx, am, at_, af, hI, hM, hTi, hF⟩, ⟨dy, bm, bt, bf, hJ, hN, hTj, hG⟩⟩, q⟩ := h
  have hr1 : Room 1 _ := hr.mono (by decide)
  refine ⟨_, pss_cons (ps_if (pt_not (pt_val (pe_callB call_isi (by rfl) B.isinstance bo_isinstance (pa_cons (pv 1) (pa_cons (pe_glob (v := .ref cT) (by rfl) T.mgT rfl) pa_nil))))) (pss_one (ps_ret (pe_bl))) (pss_nil)) (pss_one (ps_ret (pe_and (pe_cmpR (op_eqG (rcG_tup mon_flat eqG_flat) hr1) (pe_pr c_marks T0.cl hr (pv 0)) (pe_pr c_marks T0.cl hr (pv 1)) (nomark _)) (pe_and (pe_cmpR (op_eqG (rcG_tup mon_flat eqG_flat) hr1) (pe_pr c_ties T0.cl hr (pv 0)) (pe_pr c_ties T0.cl hr (pv 1)) (nomark _)) (pe_one (pe_cmpR (op_eqG (rcG_tup mon_flat eqG_flat) hr1) (pe_fld (pv 0) rfl) (pe_fld (pv 1) rfl) (nomark _))))))), ?_⟩
  walk_at "rd"
  refine ⟨_, _, _, _, true, rfl, .own _, .base (.ins hJ I0.cl I0.ca I0.cn I0.ct I0.cm), kit_own, ?_⟩
  walk_at "rd"
  refine ⟨_, _, _, rfl, hI, _, _, _, _, rfl, hI, fT_m _ _ _, ?_⟩
  walk_at "rd"
  refine ⟨_, _, _, rfl, hJ, _, _, _, _, rfl, hJ, fT_m _ _ _, ?_⟩
  refine ⟨⟨_, _, _, _, rfl, rfl, SqT.of hM, SqT.of hN, prs_strs _ _⟩, fun H1 e1 => ?_⟩
  walk_at "rd"
  refine ⟨_, _, _, rfl, e1 _ _ hI, _, _, _, _, rfl, e1 _ _ hI, fT_t _ _ _, ?_⟩
  walk_at "rd"
  refine ⟨_, _, _, rfl, e1 _ _ hJ, _, _, _, _, rfl, e1 _ _ hJ, fT_t _ _ _, ?_⟩
  refine ⟨⟨_, _, _, _, rfl, rfl, SqT.of (e1 _ _ hTi), SqT.of (e1 _ _ hTj), prs_strs _ _⟩, fun H2 e2 => ?_⟩
  have e2 := e1.trans e2
  walk_at "rd"
  refine ⟨_, _, _, _, _, rfl, e2 _ _ hI, T0.cl, T0.nf, fT_f _ _ _, ?_⟩
  walk_at "rd"
  refine ⟨_, _, _, _, _, rfl, e2 _ _ hJ, T0.cl, T0.nf, fT_f _ _ _, ?_⟩
  refine ⟨⟨_, _, [], [], rfl, rfl, SqT.of (e2 _ _ hF), SqT.of (e2 _ _ hG), Prs.nil⟩, fun H3 e3 => ?_⟩
  exact q _ (e2.trans e3)
theorem ok_World_eq (T1 : ClW K cW) (I1 : IsiC K cW) (T : MgC mg cT cW) (N0 : NeF K cT) (B : Blt mg) (D : Mth K cW "__eq__" "World.__eq__" s_World__eq) (c_eq : MethOk P w K mg base cT 3 "__eq__" P_Tongue__eq (spEq (RT cT))) :
    MethOk P w K mg base cW 5 "__eq__" P_World__eq (spEq (RW cT cW)) := by
  refine methOk D sc_World__eq bd_World__eq (fun vs H Q E h => ?_) (fun f cdv A outer st H vs Q E hr h => ?_)
  · obtain ⟨a, b, rfl, _⟩ := h
    rfl
  obtain ⟨a, b, rfl, ⟨W, ok, ⟨dx, at_, am, ati, fm, ft, hI, hT, hm, ht⟩, ⟨dy, bt, bm, bti, gm, gt, hJ, hT2, hm2, ht2⟩⟩, q⟩ := h
  have hr1 : Room 1 _ := hr.mono (by decide)
  have hu := hr.units
  refine ⟨_, pss_cons (ps_if (pt_not (pt_val (pe_callB call_isi (by rfl) B.isinstance bo_isinstance (pa_cons (pv 1) (pa_cons (pe_glob (v := .ref cW) (by rfl) T.mgW rfl) pa_nil))))) (pss_one (ps_ret (pe_bl))) (pss_nil)) (pss_cons (ps_if (PW.pt (pw_or (pt_cmpR (op_neM c_eq N0 hr) (pe_fld (pv 0) rfl) (pe_fld (pv 1) rfl) (nomark _)) (pw_or1 (pt_cmpR op_ne (pe_fld (pv 0) rfl) (pe_fld (pv 1) rfl) (nomark _))))) (pss_one (ps_ret (pe_bl))) (pss_nil)) (pss_one (ps_ret (pe_and (pe_cmpR (op_eqV hu) (pe_fld (pv 0) rfl) (pe_fld (pv 1) rfl) (nomark _)) (pe_one (pe_cmpR (op_eqT hu) (pe_fld (pv 0) rfl) (pe_fld (pv 1) rfl) (nomark _))))))), ?_⟩
  walk_at "rd"
  refine ⟨_, _, _, _, true, rfl, .own _, .base (.ins hJ I1.cl I1.ca I1.cn I1.ct I1.cm), kit_own, ?_⟩
  walk_at "rd"
  refine ⟨_, _, _, _, _, rfl, hI, T1.cl, T1.nT, fW_T _ _ _ _, ?_⟩
  walk_at "rd"
  refine ⟨_, _, _, _, _, rfl, hJ, T1.cl, T1.nT, fW_T _ _ _ _, ?_⟩
  have hT' := hT
  have hT2' := hT2
  obtain ⟨d1, _, _, _, t1, _⟩ := hT'
  obtain ⟨d2, _, _, _, t2, _⟩ := hT2'
  refine ⟨⟨_, _, _, _, _, _, rfl, rfl, t1, t2, W.T, hT, hT2⟩, fun H1 e1 => ?_⟩
  walk_at "rd"
  refine ⟨_, _, _, _, _, rfl, e1 _ _ hI, T1.cl, T1.nn, fW_n _ _ _ _, ?_⟩
  walk_at "rd"
  refine ⟨_, _, _, _, _, rfl, e1 _ _ hJ, T1.cl, T1.nn, fW_n _ _ _ _, ?_⟩
  walk_at "rd"
  rw [decide_eq_true rfl]
  walk_at "rd"
  refine ⟨_, _, _, _, _, rfl, e1 _ _ hI, T1.cl, T1.nm, fW_m _ _ _ _, ?_⟩
  walk_at "rd"
  refine ⟨_, _, _, _, _, rfl, e1 _ _ hJ, T1.cl, T1.nm, fW_m _ _ _ _, ?_⟩
  refine ⟨2, by decide, eqR_marks ok.ndm (hm.mono e1) (hm2.mono e1), ?_⟩
  walk_at "rd"
  refine ⟨_, _, _, _, _, rfl, e1 _ _ hI, T1.cl, T1.nt, fW_t _ _ _ _, ?_⟩
  walk_at "rd"
  refine ⟨_, _, _, _, _, rfl, e1 _ _ hJ, T1.cl, T1.nt, fW_t _ _ _ _, ?_⟩
  exact ⟨eqR_ties ok.ndt (ht.mono e1) (ht2.mono e1), q _ e1⟩
end
end K48
namespace K48
open PySem PySem.Spec PyProof.Rows L2
local macro_rules | `(tactic| walk_at "rd") => `(tactic| repeat (first | refine ⟨_, rfl, ?_⟩ | refine ⟨_, _, rfl, rfl, ?_⟩ | refine ⟨rfl, ?_⟩ | refine iteTk (by decide +kernel) ?_ | refine iteFk (by decide +kernel) ?_))
local macro_rules | `(tactic| walk_at "rdr") => `(tactic| repeat (first | refine ⟨_, rfl, ?_⟩ | refine ⟨_, _, rfl, rfl, ?_⟩ | refine ⟨rfl, ?_⟩ | refine iteTk (by first | decide +kernel | rfl) ?_ | refine iteFk (by first | decide +kernel | rfl) ?_))
local macro_rules | `(tactic| walk_at "tyn") => `(tactic| first | exact .int _ | exact .bl _ | exact .str _ | exact .tup (by assumption) | exact .lst (by assumption) | exact .dK (by assumption))
local macro_rules | `(tactic| walk_at "isT") => `(tactic| refine ⟨_, _, _, _, true, rfl, .ty _, TyN.x (by walk_at "tyn"), kit_ty (by decide +kernel), ?_⟩)
local macro_rules | `(tactic| walk_at "isF") => `(tactic| refine ⟨_, _, _, _, false, rfl, .ty _, TyN.x (by walk_at "tyn"), kit_ty (by decide +kernel), ?_⟩)
local macro_rules | `(tactic| walk_at "nz") => `(tactic| first | refine nzG (by simp only [List.set_cons_succ, List.set_cons_zero]; rfl) ?_ | refine reS (by simp only [List.set_cons_succ, List.set_cons_zero]; rfl) ?_)
/-! ## Rules within comprehensions: the written part K named ahead -/
section
variable {X : Cx} {K : PySem.W.Frag} {o e value : Expr} {f : Str} {pos : Pos} {ta : TE} {tg l : Expr} {tl : TE}
theorem pe_fldK (hK : X.K = K) (he : PE X e ta) (hb : attributeBase e f X.env (eval e X.env) = eval e X.env) : PE X (.Attribute e f pos) (tFld K ta f) := by
  subst hK
  exact pe_fld he hb
theorem ix_tupK (hK : X.K = K) : IxR X (rIxT K) := by
  subst hK
  exact ix_tup
theorem ix_listK (hK : X.K = K) : IxR X (rIxL K) := by
  subst hK
  exact ix_list
theorem sl_listK (hK : X.K = K) : SlR X (rSlL K) := by
  subst hK
  exact sl_list
theorem sl_tupK (hK : X.K = K) : SlR X (rSlT K) := by
  subst hK
  exact sl_tup
theorem op_in_seqK (hK : X.K = K) : OpR X (compareOp .In) (rIn K false) := by
  subst hK
  exact op_in_seq
theorem op_notIn_seqK (hK : X.K = K) : OpR X (compareOp .NotIn) (rIn K true) := by
  subst hK
  exact op_notIn_seq
theorem call_tuple_ofK (hK : X.K = K) : CallR X (.type "tuple") (fun xs H Q => ∃ p ys, xs = [.ref p] ∧ ((SqL K H p ys ∧ ∀ l, H l = none → Q (.ref l) (upd H l (.tup ys))) ∨ (SqT K H p ys ∧ Q (.ref p) H))) := by
  subst hK
  exact call_tuple_of
theorem call_list_ofK (hK : X.K = K) : CallR X (.type "list") (fun xs H Q => ∃ p ys, xs = [.ref p] ∧ (SqL K H p ys ∨ SqT K H p ys) ∧ ∀ l, H l = none → Q (.ref l) (upd H l (.lst ys))) := by
  subst hK
  exact call_list_of
theorem call_len_seqK (hK : X.K = K) : CallR X (.builtin "len") (fun xs H Q => ∃ p ys, xs = [.ref p] ∧ (SqL K H p ys ∨ SqT K H p ys) ∧ Q (.int ys.length) H) := by
  subst hK
  exact call_len_seq
theorem cr_sortedIK (hK : X.K = K) : CallR X (.builtin "sorted") (rSortedI K) := by
  subst hK
  exact cr_sortedI
theorem cr_sortedPOK (hK : X.K = K) : CallR X (.builtin "sorted") (rSortedPO K) := by
  subst hK
  exact cr_sortedPO
theorem cr_maxK (hK : X.K = K) (hc : X.calm = true) : CallR X (.builtin "max") (rMax K) := by
  subst hK
  exact cr_max hc
theorem call_isiK' (hK : X.K = K) : CallR X (.builtin "isinstance") (rIsi K) := by
  subst hK
  exact call_isi
theorem pi_listK (hK : X.K = K) (hl : PE X l tl) : PI X tg l (iList K tl) := by
  subst hK
  exact pi_list hl
theorem pi_tupK (hK : X.K = K) (hl : PE X l tl) : PI X tg l (iTup K tl) := by
  subst hK
  exact pi_tup hl
end
section
variable {X : Cx} {K : PySem.W.Frag} {o e : Expr} {es : List Expr} {to : TE} {t : TA} {name : Str} {apos cpos : Pos} {T id : String} {r : V → List V → Hp → VK → Prop}
theorem pe_bm0k (hK : X.K = K) (pa : PlainAttrs T) (slot : Slot T name id) (hty : typeOf (.builtin id) = pure (.type "method_descriptor")) (hm : MtR X id r) (ho : PE X o to)
    (hbase : attributeBase o name X.env (eval o X.env) = eval o X.env := by rfl) (hline : (apos.endLine == cpos.line) = true := by rfl) : PE X (.Call (.Attribute o name apos) [] [] cpos) (tBM0 K T r to) := by
  subst hK
  exact pe_bm0 pa slot hty hm ho hbase hline
end
end K48
namespace K48
open PySem PySem.Spec PyProof.Rows L2
local macro_rules | `(tactic| walk_at "rd") => `(tactic| repeat (first | refine ⟨_, rfl, ?_⟩ | refine ⟨_, _, rfl, rfl, ?_⟩ | refine ⟨rfl, ?_⟩ | refine iteTk (by decide +kernel) ?_ | refine iteFk (by decide +kernel) ?_))
local macro_rules | `(tactic| walk_at "rdr") => `(tactic| repeat (first | refine ⟨_, rfl, ?_⟩ | refine ⟨_, _, rfl, rfl, ?_⟩ | refine ⟨rfl, ?_⟩ | refine iteTk (by first | decide +kernel | rfl) ?_ | refine iteFk (by first | decide +kernel | rfl) ?_))
local macro_rules | `(tactic| walk_at "tyn") => `(tactic| first | exact .int _ | exact .bl _ | exact .str _ | exact .tup (by assumption) | exact .lst (by assumption) | exact .dK (by assumption))
local macro_rules | `(tactic| walk_at "isT") => `(tactic| refine ⟨_, _, _, _, true, rfl, .ty _, TyN.x (by walk_at "tyn"), kit_ty (by decide +kernel), ?_⟩)
local macro_rules | `(tactic| walk_at "isF") => `(tactic| refine ⟨_, _, _, _, false, rfl, .ty _, TyN.x (by walk_at "tyn"), kit_ty (by decide +kernel), ?_⟩)
local macro_rules | `(tactic| walk_at "nz") => `(tactic| first | refine nzG (by simp only [List.set_cons_succ, List.set_cons_zero]; rfl) ?_ | refine reS (by simp only [List.set_cons_succ, List.set_cons_zero]; rfl) ?_)
/-! ## World.marks, World.ties -/
def SortedI (ns : List Int) (xs : List Nat) : Prop := ns.Perm (xs.map fun (i : Nat) => (i : Int)) ∧ ns.Pairwise (· ≤ ·)
def pI (p : Nat × Nat) : Int × Int := ((p.1 : Int), (p.2 : Int))
def SortedP (rs : List (Int × Int)) (ps : List (Nat × Nat)) : Prop := rs.Perm (ps.map pI) ∧ rs.Pairwise (fun a b => SrtO.lexB b a = false)
def PrAt (H : Hp) (v : V) (r : Int × Int) : Prop := ∃ t, v = .ref t ∧ H t = some (.tup [.int r.1, .int r.2])
def keyAt (H : Hp) : V → Int × Int
  | .ref t => match H t with
    | some (.tup [.int i, .int j]) => (i, j)
    | _ => (0, 0)
  | _ => (0, 0)
theorem keyAt_of {H : Hp} {v : V} {r : Int × Int} (h : PrAt H v r) : keyAt H v = r := by
  obtain ⟨t, rfl, e⟩ := h
  show (match H t with
    | some (.tup [.int i, .int j]) => (i, j)
    | _ => (0, 0)) = r
  rw [e]
theorem PrAt.mono {G H : Hp} {v : V} {r : Int × Int} (h : PrAt G v r) (e : Same G H) : PrAt H v r := let ⟨t, a, b⟩ := h; ⟨t, a, e _ _ b⟩
theorem keyAt_map {H : Hp} {ys : List V} {rs : List (Int × Int)} (h : Paired (PrAt H) ys rs) : ys.map (keyAt H) = rs := by
  induction h with
  | nil => rfl
  | cons h t ih => rw [List.map_cons, keyAt_of h, ih]
theorem paired_map {α β : Type} {F : α → β → Prop} {g : α → β} : ∀ {l : List α}, (∀ x ∈ l, F x (g x)) → Paired F l (l.map g)
  | [], _ => .nil
  | x :: l, h => .cons (h x List.mem_cons_self) (paired_map fun y hy => h y (List.mem_cons_of_mem _ hy))
theorem isKeys_pr {H : Hp} : ∀ {ps : List (Nat × Nat)} {bs : List Addr}, IsKeys H (dP ps) bs → Paired (PrAt H) (bs.map V.ref) (ps.map pI)
  | [], _, h => by cases h; exact .nil
  | p :: ps, _, h => by
    cases h with
    | cons h t => exact .cons ⟨_, rfl, h⟩ (isKeys_pr t)
theorem PrAt.all {H : Hp} {ys : List V} {rs : List (Int × Int)} (h : Paired (PrAt H) ys rs) : ∀ y ∈ ys, PrAt H y (keyAt H y) := by
  intro y hy
  induction h with
  | nil => cases hy
  | cons h t ih =>
    rcases List.mem_cons.mp hy with rfl | hy
    · rw [keyAt_of h]
      exact h
    · exact ih hy
/-- a dict of tuples: things of marks, ascending -/
def MksAt (H : Hp) (a : Addr) (ns : List Str) (mk : Str → List Nat) : Prop := ∃ f : Str → Addr, H a = some (.dK (dR (withA ns f))) ∧ ∀ m ∈ ns, ∃ is : List Int, SortedI is (mk m) ∧ H (f m) = some (.tup (is.map V.int))
def TisAt (H : Hp) (a : Addr) (ns : List Str) (ti : Str → List (Nat × Nat)) : Prop := ∃ f : Str → Addr, H a = some (.dK (dR (withA ns f))) ∧ ∀ m ∈ ns, ∃ (rs : List (Int × Int)) (ys : List V), SortedP rs (ti m) ∧ H (f m) = some (.tup ys) ∧ Paired (PrAt H) ys rs
section
variable {P : Program} {w : World} {K : PySem.W.Frag} {mg : Str → Option Value} {base : Heap} {cT cW : Addr}
def spWmarks (cT cW : Addr) : Sp := fun vs H Q _ => ∃ (a : Addr) (W : Wd), vs = [.ref a] ∧ WorldAt cT cW H a W ∧ W.Ok ∧ ∀ p H', Same H H' → MksAt H' p W.T.marks W.ms → Q (.ref p) H'
theorem ok_Wmarks (T0 : ClT K cT) (T1 : ClW K cW) (B : Blt mg) (D : Prp K cW "marks" "World.marks" s_World_marks) (c_marks : PropOk P w K mg base cT 1 "marks" (getSp cT "kept_marks")) : PropOk P w K mg base cW 3 "marks" (spWmarks cT cW) := by
  refine propOk D sc_World_marks bd_World_marks (fun vs H Q E h => ?_) (fun f cdv A outer st H vs Q E hr h => ?_)
  · obtain ⟨a, W, rfl, _⟩ := h
    rfl
  obtain ⟨a, W, rfl, hW, ok, q⟩ := h
  obtain ⟨dx, at_, am, ati, fm, ft, hI, hT, hm, ht⟩ := id hW
  obtain ⟨dT, tm, tt, tf, hTI, hTM, hTT, hTF⟩ := id hT
  have hu := hu_of hr
  refine ⟨_, pss_one (ps_ret (pe_dc (own := [("name", 1)]) (g := gName 1) (tt := tYes) (by rfl) sc_World_marks.nd (pi_tup (pe_pr c_marks T0.cl hr (pe_fld (pv 0) rfl))) (blkOk_by (own := [("name", 1)]) (N := N_World_marks) (by kernel_rfl)) (fun _ _ _ _ _ => pg_name (i := 1) sc_World_marks.nd rfl (Or.inl rfl)) (fun _ _ _ _ _ => pts_nil) (fun _ _ _ _ _ => pv 1) (fun _ _ _ _ _ => pe_callTy (call_tuple_ofK (K := K) rfl) (by rfl) B.tuple bo_tuple (pa_cons (pe_callB (cr_sortedIK (K := K) rfl) (by rfl) B.sorted bo_sorted (pa_cons (pe_callTy (call_listD rfl) (by rfl) B.list bo_list (pa_cons (pe_dget hu (pe_fldK (K := K) rfl (pv 0) rfl) (pv 1) (fun _ _ => rfl)) pa_nil)) pa_nil)) pa_nil)))), ?_⟩
  walk_at "rd"
  refine ⟨_, _, _, _, _, rfl, hI, T1.cl, T1.nT, fW_T _ _ _ _, ?_⟩
  refine ⟨_, _, _, rfl, hTI, _, _, _, _, rfl, hTI, fT_m _ _ _, ?_⟩
  refine ⟨_, rfl, ⟨_, SqT.of hTM⟩, fun D hD0 => ?_⟩
  refine dc_it (walk_tup (xs := W.T.marks.map V.str)) (fun i H' => ∃ f : Str → Addr, Same H H' ∧ H' D = some (.dK (dR (withA (W.T.marks.take i) f))) ∧ ∀ m ∈ W.T.marks.take i, ∃ is : List Int, SortedI is (W.ms m) ∧ H' (f m) = some (.tup (is.map V.int)))
    ⟨fun _ => 0, Same.new (Same.refl _) hD0, upd_same, fun m hm => by simp at hm⟩ (fun i H' _ hP => hP.elim fun fm h => SqT.of (h.1 _ _ hTM)) (fun i x' H0 H' hi hP y => ?_) (fun H' hP => ?_)
  · obtain ⟨f, e4, hD, hf⟩ := hP
    obtain ⟨rfl, hx'⟩ := y
    obtain ⟨m, hm', rfl⟩ := map_at hx'
    have hmm := List.mem_of_getElem? hm'
    have hml := (List.getElem?_eq_some_iff.mp hm').1
    refine ⟨rfl, ?_⟩
    walk_at "rd"
    refine ⟨_, _, _, _, _, rfl, e4 _ _ hI, T1.cl, T1.nm, fW_m _ _ _ _, ?_⟩
    walk_at "rd"
    refine ⟨_, _, rfl, .inl ⟨_, Sum.inr m, .inl (e4 _ _ hm.1), rfl, (withA_val ok.ndm hmm).symm⟩, ?_⟩
    walk_at "rd"
    refine ⟨_, _, rfl, .inl (e4 _ _ (hm.2 m hmm)), fun p1 hp1 => ?_⟩
    walk_at "rd"
    have el : (dI (W.ms m)).map (fun kv => kV kv.1) = ((W.ms m).map fun (i : Nat) => (i : Int)).map V.int := by
      unfold dI
      rw [List.map_map, List.map_map]
      rfl
    refine ⟨_, _, rfl, SqL.of (by rw [upd_same, el]), fun ns' p2 hperm hsrt hp2 => ?_⟩
    walk_at "rd"
    refine ⟨_, _, rfl, .inl ⟨SqL.of upd_same, fun p3 hp3 => ?_⟩⟩
    have e5 : Same H' (upd (upd (upd H' p1 (.lst ((dI (W.ms m)).map fun kv => kV kv.1))) p2 (.lst (ns'.map V.int))) p3 (.tup (ns'.map V.int))) := Same.new (Same.new (Same.new (Same.refl _) hp1) hp2) hp3
    have hD7 := e5 _ _ hD
    refine ⟨_, Sum.inr m, rfl, hD7, szl ?_, fun x => if x = m then p3 else f x, Same.mut (e4.trans e5) hD0, ?_, ?_⟩
    · unfold dR withA
      rw [List.length_map, List.length_map, List.length_take]
      have := ok.lm
      omega
    · rw [upd_same, dR_put ok.ndm hm']
    · intro m' hm2
      obtain ⟨_, n2⟩ := nodup_take ok.ndm hm'
      rw [n2] at hm2
      have tne : ∀ (c : Addr) (xs : List V), (upd (upd (upd H' p1 (.lst ((dI (W.ms m)).map fun kv => kV kv.1))) p2 (.lst (ns'.map V.int))) p3 (.tup (ns'.map V.int))) c = some (.tup xs) → c ≠ D := fun c xs h => ne_of h hD7 (by intro z; cases z)
      by_cases qm : m' = m
      · subst qm
        simp only [if_true]
        exact ⟨ns', ⟨hperm, hsrt⟩, by rw [upd_ne (tne _ _ upd_same), upd_same]⟩
      · simp only [if_neg qm]
        rcases List.mem_append.mp hm2 with h | h
        · obtain ⟨is, g1, g2⟩ := hf m' h
          exact ⟨is, g1, by rw [upd_ne (tne _ _ (e5 _ _ g2))]; exact e5 _ _ g2⟩
        · exact absurd (by simpa using h) qm
  · obtain ⟨f, e4, hD, hf⟩ := hP
    rw [List.length_map, List.take_length] at hD hf
    exact q _ _ e4 ⟨f, hD, hf⟩
def spWties (cT cW : Addr) : Sp := fun vs H Q _ => ∃ (a : Addr) (W : Wd), vs = [.ref a] ∧ WorldAt cT cW H a W ∧ W.Ok ∧ ∀ p H', Same H H' → TisAt H' p W.T.ties W.ts → Q (.ref p) H'
theorem ok_Wties (T0 : ClT K cT) (T1 : ClW K cW) (B : Blt mg) (D : Prp K cW "ties" "World.ties" s_World_ties) (c_ties : PropOk P w K mg base cT 1 "ties" (getSp cT "kept_ties")) : PropOk P w K mg base cW 3 "ties" (spWties cT cW) := by
  refine propOk D sc_World_ties bd_World_ties (fun vs H Q E h => ?_) (fun f cdv A outer st H vs Q E hr h => ?_)
  · obtain ⟨a, W, rfl, _⟩ := h
    rfl
  obtain ⟨a, W, rfl, hW, ok, q⟩ := h
  obtain ⟨dx, at_, am, ati, fm, ft, hI, hT, hm, ht⟩ := id hW
  obtain ⟨dT, tm, tt, tf, hTI, hTM, hTT, hTF⟩ := id hT
  have hu := hu_of hr
  refine ⟨_, pss_one (ps_ret (pe_dc (own := [("name", 1)]) (g := gName 1) (tt := tYes) (by rfl) sc_World_ties.nd (pi_tup (pe_pr c_ties T0.cl hr (pe_fld (pv 0) rfl))) (blkOk_by (own := [("name", 1)]) (N := N_World_ties) (by kernel_rfl)) (fun _ _ _ _ _ => pg_name (i := 1) sc_World_ties.nd rfl (Or.inl rfl)) (fun _ _ _ _ _ => pts_nil) (fun _ _ _ _ _ => pv 1) (fun _ _ _ _ _ => pe_callTy (call_tuple_ofK (K := K) rfl) (by rfl) B.tuple bo_tuple (pa_cons (pe_callB (cr_sortedPOK (K := K) rfl) (by rfl) B.sorted bo_sorted (pa_cons (pe_callTy (call_list_dT rfl) (by rfl) B.list bo_list (pa_cons (pe_dget hu (pe_fldK (K := K) rfl (pv 0) rfl) (pv 1) (fun _ _ => rfl)) pa_nil)) pa_nil)) pa_nil)))), ?_⟩
  walk_at "rd"
  refine ⟨_, _, _, _, _, rfl, hI, T1.cl, T1.nT, fW_T _ _ _ _, ?_⟩
  refine ⟨_, _, _, rfl, hTI, _, _, _, _, rfl, hTI, fT_t _ _ _, ?_⟩
  refine ⟨_, rfl, ⟨_, SqT.of hTT⟩, fun D hD0 => ?_⟩
  refine dc_it (walk_tup (xs := W.T.ties.map V.str)) (fun i H' => ∃ f : Str → Addr, Same H H' ∧ H' D = some (.dK (dR (withA (W.T.ties.take i) f))) ∧ ∀ m ∈ W.T.ties.take i, ∃ (rs : List (Int × Int)) (ys : List V), SortedP rs (W.ts m) ∧ H' (f m) = some (.tup ys) ∧ Paired (PrAt H') ys rs)
    ⟨fun _ => 0, Same.new (Same.refl _) hD0, upd_same, fun m hm => by simp at hm⟩ (fun i H' _ hP => hP.elim fun fm h => SqT.of (h.1 _ _ hTT)) (fun i x' H0 H' hi hP y => ?_) (fun H' hP => ?_)
  · obtain ⟨f, e4, hD, hf⟩ := hP
    obtain ⟨rfl, hx'⟩ := y
    obtain ⟨m, hm', rfl⟩ := map_at hx'
    have hmm := List.mem_of_getElem? hm'
    have hml := (List.getElem?_eq_some_iff.mp hm').1
    refine ⟨rfl, ?_⟩
    walk_at "rd"
    refine ⟨_, _, _, _, _, rfl, e4 _ _ hI, T1.cl, T1.nt, fW_t _ _ _ _, ?_⟩
    walk_at "rd"
    refine ⟨_, _, rfl, .inl ⟨_, Sum.inr m, .inl (e4 _ _ ht.1), rfl, (withA_val ok.ndt hmm).symm⟩, ?_⟩
    walk_at "rd"
    refine ⟨_, _, rfl, .inl (e4 _ _ (ht.2 m hmm)), fun p1 bs hp1 hks => ?_⟩
    walk_at "rd"
    have e1 : Same H' (upd H' p1 (.lst (bs.map V.ref))) := Same.new (Same.refl _) hp1
    have hB : Paired (PrAt (upd H' p1 (.lst (bs.map V.ref)))) (bs.map V.ref) ((W.ts m).map pI) := Paired.mapP (isKeys_pr hks) fun _ _ h => h.mono e1
    have hall := PrAt.all hB
    refine ⟨_, bs.map V.ref, keyAt (upd H' p1 (.lst (bs.map V.ref))), rfl, SqL.of upd_same, hall, fun ys p2 hsrt hstb hp2 => ?_⟩
    walk_at "rd"
    refine ⟨_, _, rfl, .inl ⟨SqL.of upd_same, fun p3 hp3 => ?_⟩⟩
    have e13 : Same (upd H' p1 (.lst (bs.map V.ref))) (upd (upd (upd H' p1 (.lst (bs.map V.ref))) p2 (.lst ys)) p3 (.tup ys)) := Same.new (Same.new (Same.refl _) hp2) hp3
    have e5 : Same H' (upd (upd (upd H' p1 (.lst (bs.map V.ref))) p2 (.lst ys)) p3 (.tup ys)) := fun c u h => e13 _ _ (e1 _ _ h)
    have hsp : SortedP (ys.map (keyAt (upd H' p1 (.lst (bs.map V.ref))))) (W.ts m) := by
      refine ⟨?_, SrtO.srtd_map (lt := SrtO.lexB) (f := keyAt (upd H' p1 (.lst (bs.map V.ref)))) hsrt⟩
      have := hstb.perm.map (keyAt (upd H' p1 (.lst (bs.map V.ref))))
      rwa [keyAt_map hB] at this
    have hpy : Paired (PrAt (upd H' p1 (.lst (bs.map V.ref)))) ys (ys.map (keyAt (upd H' p1 (.lst (bs.map V.ref))))) := paired_map fun y hy => hall y (hstb.perm.mem_iff.mp hy)
    revert hsp hpy
    generalize ys.map (keyAt (upd H' p1 (.lst (bs.map V.ref)))) = rs
    intro hsp hpy
    have hD7 := e5 _ _ hD
    have tne : ∀ (c : Addr) (xs : List V), (upd (upd (upd H' p1 (.lst (bs.map V.ref))) p2 (.lst ys)) p3 (.tup ys)) c = some (.tup xs) → c ≠ D := fun c xs h => ne_of h hD7 (by intro z; cases z)
    have keep : ∀ {v : V} {r : Int × Int} {o : HO}, PrAt (upd (upd (upd H' p1 (.lst (bs.map V.ref))) p2 (.lst ys)) p3 (.tup ys)) v r → PrAt (upd (upd (upd (upd H' p1 (.lst (bs.map V.ref))) p2 (.lst ys)) p3 (.tup ys)) D o) v r := fun ⟨t, a, b⟩ => ⟨t, a, by rw [upd_ne (tne _ _ b)]; exact b⟩
    refine ⟨_, Sum.inr m, rfl, hD7, szl ?_, fun x => if x = m then p3 else f x, Same.mut (e4.trans e5) hD0, ?_, ?_⟩
    · unfold dR withA
      rw [List.length_map, List.length_map, List.length_take]
      have := ok.lt
      omega
    · rw [upd_same, dR_put ok.ndt hm']
    · intro m' hm2
      obtain ⟨_, n2⟩ := nodup_take ok.ndt hm'
      rw [n2] at hm2
      by_cases qm : m' = m
      · subst qm
        simp only [if_true]
        exact ⟨rs, ys, hsp, by rw [upd_ne (tne _ _ upd_same), upd_same], Paired.mapP hpy fun _ _ h => keep (h.mono e13)⟩
      · simp only [if_neg qm]
        rcases List.mem_append.mp hm2 with h | h
        · obtain ⟨rs', ys', g1, g2, g3⟩ := hf m' h
          exact ⟨rs', ys', g1, by rw [upd_ne (tne _ _ (e5 _ _ g2))]; exact e5 _ _ g2, Paired.mapP g3 fun _ _ h => keep (h.mono e5)⟩
        · exact absurd (by simpa using h) qm
  · obtain ⟨f, e4, hD, hf⟩ := hP
    rw [List.length_map, List.take_length] at hD hf
    exact q _ _ e4 ⟨f, hD, hf⟩
end
end K48
namespace K48
open PySem PySem.Spec PyProof.Rows L2
local macro_rules | `(tactic| walk_at "rd") => `(tactic| repeat (first | refine ⟨_, rfl, ?_⟩ | refine ⟨_, _, rfl, rfl, ?_⟩ | refine ⟨rfl, ?_⟩ | refine iteTk (by decide +kernel) ?_ | refine iteFk (by decide +kernel) ?_))
local macro_rules | `(tactic| walk_at "rdr") => `(tactic| repeat (first | refine ⟨_, rfl, ?_⟩ | refine ⟨_, _, rfl, rfl, ?_⟩ | refine ⟨rfl, ?_⟩ | refine iteTk (by first | decide +kernel | rfl) ?_ | refine iteFk (by first | decide +kernel | rfl) ?_))
local macro_rules | `(tactic| walk_at "tyn") => `(tactic| first | exact .int _ | exact .bl _ | exact .str _ | exact .tup (by assumption) | exact .lst (by assumption) | exact .dK (by assumption))
local macro_rules | `(tactic| walk_at "isT") => `(tactic| refine ⟨_, _, _, _, true, rfl, .ty _, TyN.x (by walk_at "tyn"), kit_ty (by decide +kernel), ?_⟩)
local macro_rules | `(tactic| walk_at "isF") => `(tactic| refine ⟨_, _, _, _, false, rfl, .ty _, TyN.x (by walk_at "tyn"), kit_ty (by decide +kernel), ?_⟩)
local macro_rules | `(tactic| walk_at "nz") => `(tactic| first | refine nzG (by simp only [List.set_cons_succ, List.set_cons_zero]; rfl) ?_ | refine reS (by simp only [List.set_cons_succ, List.set_cons_zero]; rfl) ?_)
/-- the dict of the kept words -/
structure KptG (K : PySem.W.Frag) (w : World) (mg : Str → Option Value) (d : Addr) (es : Array DictEntry) (n : Nat) : Prop where
  mg : mg "KEPT_WORDS" = some (.ref d)
  kd : KDict K w d es n
  no : ∀ z : Str, z ∉ keptL → PySem.W.nsIn K d z = some none
section
variable {P : Program} {w : World} {K : PySem.W.Frag} {mg : Str → Option Value} {base : Heap} {cT cW : Addr} {dk : Addr} {es : Array DictEntry} {nk : Nat}
def sDt (xs : List Str) : List (Key × V) := xs.map fun z => ((Sum.inr z : Key), V.bl true)
theorem sDt_mem (z : Str) : ∀ xs : List Str, (valV (sDt xs) (Sum.inr z)).isSome = decide (z ∈ xs)
  | [] => rfl
  | x :: xs => by
    by_cases e : x = z
    · subst e
      rw [show sDt (x :: xs) = (Sum.inr x, V.bl true) :: sDt xs from rfl, valV_pos rfl]
      simp
    · have e' : ¬ ((Sum.inr x : Key) = Sum.inr z) := fun q => e (Sum.inr.inj q)
      rw [show sDt (x :: xs) = (Sum.inr x, V.bl true) :: sDt xs from rfl, valV_neg e', sDt_mem z xs]
      have e2 : ¬ z = x := fun q => e q.symm
      simp [e2]
theorem sDt_put {xs : List Str} {z : Str} (h : z ∉ xs) : putK (sDt xs) (Sum.inr z) (V.bl true) = sDt (xs ++ [z]) := by
  have e := sDt_mem z xs
  rw [decide_eq_false h] at e
  rw [putK_new _ (Option.not_isSome_iff_eq_none.mp (by rw [e]; decide))]
  unfold sDt
  rw [List.map_append]
  rfl
def spAreNames (K : PySem.W.Frag) : Sp := fun vs H Q _ => ∃ (a b : Addr) (xs ts : List Str) (n : Nat), vs = [.ref a, .int n, .ref b] ∧ H a = some (.tup (xs.map V.str)) ∧ SqT K H b (ts.map V.str) ∧ xs.length ≤ n ∧ xs.length ≤ 100 ∧ xs.Nodup ∧ (∀ z ∈ xs, GoodName z ∧ z ∉ keptL ∧ z ∉ ts) ∧ ∀ H', Same H H' → Q (.bl true) H'
theorem ok_are_names (B : Blt mg) (KP : KptG K w mg dk es nk) (D : Def K mg "are_names" s_are_names) (c_is_sequence : CallOk P w K mg base 1 "is_sequence" P_is_sequence spIsSequence) (c_is_word : CallOk P w K mg base 1 "is_word" P_is_word spIsWord) :
    CallOk P w K mg base 2 "are_names" P_are_names (spAreNames K) := by
  refine callOk D sc_are_names bd_are_names (fun vs H Q E h => ?_) (fun f cdv A outer st H vs Q E hr h => ?_)
  · obtain ⟨a, b, xs, ts, n, rfl, _⟩ := h
    rfl
  obtain ⟨a, b, xs, ts, n, rfl, ha, hb, hn, hl, hnd, ok, q⟩ := h
  have hu := hu_of hr
  refine ⟨_, pss_cons (ps_if (PW.pt (pw_or (pt_not (pt_val (pe_cl c_is_sequence hr (by rfl) (pa_cons (pv 0) pa_nil)))) (pw_or1 (pt_cmpR op_gt (pe_callB call_len_seq (by rfl) B.len bo_len (pa_cons (pv 0) pa_nil)) (pv 1) (nomark _))))) (pss_one (ps_ret (pe_bl))) (pss_nil)) (pss_cons (ps_set (i := 3) sc_are_names.nd rfl (.inl rfl) (pe_dnewK)) (pss_cons (ps_for PassesOwn.never rfl (pi_tup (pv 0)) (pg_name (i := 4) sc_are_names.nd rfl (.inl rfl)) (pss_cons (ps_if (PW.pt (pw_or (pt_not (pt_val (pe_cl c_is_word hr (by rfl) (pa_cons (pv 4) pa_nil)))) (pw_or (pt_cmpR (op_in_kd KP.kd) (pv 4) (pe_glob (v := .ref dk) (by rfl) KP.mg rfl) (by rfl)) (pw_or (pt_cmpR op_in_seq (pv 4) (pv 2) (by rfl)) (pw_or1 (pt_cmp (pc_din hu (pv 4) (pv 3)))))))) (pss_one (ps_ret (pe_bl))) (pss_nil)) (pss_one (ps_dput hu (pv 3) (pv 4) (pe_bl) rfl)))) (pss_one (ps_ret (pe_bl))))), ?_⟩
  walk_at "rd"
  refine ⟨_, _, rfl, .tup ha, .inr rfl, fun H1 e1 => ?_⟩
  walk_at "rd"
  refine ⟨_, _, rfl, .inr (SqT.of (e1 _ _ ha)), ?_⟩
  walk_at "rd"
  refine iteFk (decide_eq_false (by rw [List.length_map]; omega)) ?_
  walk_at "rd"
  intro d hd0
  walk_at "rd"
  have e2 : Same H (upd H1 d (.dK [])) := Same.new e1 hd0
  have hdH : H d = none := e1.free hd0
  refine ⟨⟨_, SqT.of (e2 _ _ ha)⟩, for_tup (K := K) (a := a) (xs := xs.map V.str)
    (fun i σ H' => ∃ y, σ = [some (.ref a), some (.int n), some (.ref b), some (.ref d), y] ∧ Same H H' ∧ H' d = some (.dK (sDt (xs.take i)))) ⟨_, rfl, e2, upd_same⟩ (fun i σ H' _ hP => let ⟨_, _, h, _⟩ := hP; SqT.of (h _ _ ha)) (fun i x σ H' hx hP => ?_) (fun σ H' hP => ?_)⟩
  · obtain ⟨y, rfl, e3, hD⟩ := hP
    obtain ⟨z, hz, rfl⟩ := map_at hx
    have hzm := List.mem_of_getElem? hz
    have hzl := (List.getElem?_eq_some_iff.mp hz).1
    obtain ⟨g1, g2, g3⟩ := ok z hzm
    obtain ⟨h1, h2⟩ := nodup_take hnd hz
    walk_at "rd"
    refine ⟨g1, ?_⟩
    walk_at "rd"
    refine ⟨_, _, rfl, rfl, KP.no z g2, ?_⟩
    walk_at "rd"
    refine ⟨_, _, rfl, .inr (Same.sqT e3 hb), rfl, flat_strs ts, ?_⟩
    rw [inV_strs, decide_eq_false g3]
    walk_at "rd"
    refine ⟨_, _, rfl, DGet.k (k := Sum.inr z) hD, ?_⟩
    rw [sDt_mem, decide_eq_false h1]
    walk_at "rd"
    refine ⟨_, _, rfl, DPut.k (k := Sum.inr z) hD (szl (by unfold sDt; rw [List.length_map, List.length_take]; omega)), ?_⟩
    exact ⟨_, rfl, Same.mut e3 hdH, by rw [upd_same, sDt_put h1, h2]⟩
  · obtain ⟨y, rfl, e3, hD⟩ := hP
    walk_at "rd"
    exact q _ e3
def spAreFunctions (K : PySem.W.Frag) : Sp := fun vs H Q _ => ∃ (a b : Addr), vs = [.ref a, .ref b] ∧ H a = some (.tup []) ∧ ∀ H', Same H H' → Q (.bl true) H'
theorem ok_are_functions (B : Blt mg) (D : Def K mg "are_functions" s_are_functions) (c_is_sequence : CallOk P w K mg base 1 "is_sequence" P_is_sequence spIsSequence) (c_is_key : CallOk P w K mg base 1 "is_key" P_is_key (spIsKey K)) :
    CallOk P w K mg base 2 "are_functions" P_are_functions (spAreFunctions K) := by
  refine callOk D sc_are_functions bd_are_functions (fun vs H Q E h => ?_) (fun f cdv A outer st H vs Q E hr h => ?_)
  · obtain ⟨a, b, rfl, _⟩ := h
    rfl
  obtain ⟨a, b, rfl, ha, q⟩ := h
  refine ⟨_, pss_cons (ps_if (PW.pt (pw_or (pt_not (pt_val (pe_cl c_is_sequence hr (by rfl) (pa_cons (pv 0) pa_nil)))) (pw_or1 (pt_cmpR op_gt (pe_callB call_len_seq (by rfl) B.len bo_len (pa_cons (pv 0) pa_nil)) (pe_int) (nomark _))))) (pss_one (ps_ret (pe_bl))) (pss_nil)) (pss_cons (ps_for PassesOwn.never rfl (pi_tup (pv 0)) (pg_name (i := 2) sc_are_functions.nd rfl (.inl rfl)) (pss_one (ps_if (pt_not (pt_val (pe_cl c_is_key hr (by rfl) (pa_cons (pv 2) (pa_cons (pv 1) pa_nil))))) (pss_one (ps_ret (pe_bl))) (pss_nil)))) (pss_one (ps_ret (pe_bl)))), ?_⟩
  walk_at "rd"
  refine ⟨_, _, rfl, .tup ha, .inr rfl, fun H1 e1 => ?_⟩
  walk_at "rd"
  refine ⟨_, _, rfl, .inr (SqT.of (e1 _ _ ha)), ?_⟩
  walk_at "rd"
  refine ⟨⟨_, SqT.of (e1 _ _ ha)⟩, for_tup (K := K) (a := a) (xs := []) (fun i σ H' => H' = H1 ∧ ∃ y, σ = [some (.ref a), some (.ref b), y]) ⟨rfl, _, rfl⟩ (fun i σ H' _ hP => by rw [hP.1]; exact SqT.of (e1 _ _ ha)) (fun i x σ H' hx hP => by simp at hx) (fun σ H' hP => ?_)⟩
  obtain ⟨rfl, y, rfl⟩ := hP
  walk_at "rd"
  exact q _ e1
/-- the names of a tongue -/
structure Tng.Ok (T : Tng) : Prop where
  ndm : T.marks.Nodup
  ndt : T.ties.Nodup
  lm : T.marks.length ≤ 3
  lt : T.ties.length ≤ 2
  gm : ∀ z ∈ T.marks, GoodName z ∧ z ∉ keptL
  gt : ∀ z ∈ T.ties, GoodName z ∧ z ∉ keptL ∧ z ∉ T.marks
def spTInit (cT : Addr) : Sp := fun vs H Q _ => ∃ (x dx a b c : Addr) (T : Tng), vs = [.ref x, .ref a, .ref b, .ref c] ∧ H x = some (.ins cT dx []) ∧ H a = some (.tup (T.marks.map V.str)) ∧ H b = some (.tup (T.ties.map V.str)) ∧ H c = some (.tup []) ∧ T.Ok ∧
  ∀ H', Same (hide x H) H' → TongueAt cT H' x T → Q .non H'
theorem fT_l1 (a : Addr) : (putF "kept_marks" (.ref a) []).length < 1000 := lt_eqN (by kernel_rfl : (putF "kept_marks" (.ref a) []).length = 1) (by decide)
theorem fT_l2 (a b : Addr) : (putF "kept_ties" (.ref b) (putF "kept_marks" (.ref a) [])).length < 1000 := lt_eqN (by kernel_rfl : (putF "kept_ties" (.ref b) (putF "kept_marks" (.ref a) [])).length = 2) (by decide)
theorem ok_Tongue_init (T0 : ClT K cT) (C : Cst K mg) (B : Blt mg) (D : Mth K cT "__init__" "Tongue.__init__" s_Tongue__init) (c_are_names : CallOk P w K mg base 2 "are_names" P_are_names (spAreNames K)) (c_are_functions : CallOk P w K mg base 2 "are_functions" P_are_functions (spAreFunctions K)) :
    MethOk P w K mg base cT 3 "__init__" P_Tongue__init (spTInit cT) := by
  refine methOk D sc_Tongue__init bd_Tongue__init (fun vs H Q E h => ?_) (fun f cdv A outer st H vs Q E hr h => ?_)
  · obtain ⟨x, dx, a, b, c, T, rfl, _⟩ := h
    rfl
  obtain ⟨x, dx, a, b, c, T, rfl, hx, ha, hb, hc, ok, q⟩ := h
  have hax : a ≠ x := ne_of ha hx (by intro z; cases z)
  have hbx : b ≠ x := ne_of hb hx (by intro z; cases z)
  have hcx : c ≠ x := ne_of hc hx (by intro z; cases z)
  refine ⟨_, pss_cons (ps_if (pt_not (pt_val (pe_cl c_are_names hr (by rfl) (pa_cons (pv 1) (pa_cons (pe_intG C.MOST_MARKS (by rfl)) (pa_cons (pe_tup (pa_nil)) pa_nil)))))) (pss_one (ps_never)) (pss_nil)) (pss_cons (ps_if (pt_not (pt_val (pe_cl c_are_names hr (by rfl) (pa_cons (pv 2) (pa_cons (pe_intG C.MOST_TIES (by rfl)) (pa_cons (pv 1) pa_nil)))))) (pss_one (ps_never)) (pss_nil)) (pss_cons (ps_if (pt_not (pt_val (pe_cl c_are_functions hr (by rfl) (pa_cons (pv 3) (pa_cons (pe_callTy call_tuple_of (by rfl) B.tuple bo_tuple (pa_cons (pv 2) pa_nil)) pa_nil))))) (pss_one (ps_never)) (pss_nil)) (pss_cons (ps_fld (pv 0) (pe_callTy call_tuple_of (by rfl) B.tuple bo_tuple (pa_cons (pv 1) pa_nil)) rfl) (pss_cons (ps_fld (pv 0) (pe_callTy call_tuple_of (by rfl) B.tuple bo_tuple (pa_cons (pv 2) pa_nil)) rfl) (pss_one (ps_fld (pv 0) (pe_callTy call_tuple_of (by rfl) B.tuple bo_tuple (pa_cons (pv 3) pa_nil)) rfl)))))), ?_⟩
  walk_at "rd"
  refine ⟨sz (by simp), fun p hp => ?_⟩
  have e1 : Same H (upd H p (.tup [])) := Same.new (Same.refl _) hp
  refine ⟨_, _, T.marks, [], 3, rfl, e1 _ _ ha, SqT.of upd_same, ok.lm, by have := ok.lm; omega, ok.ndm, fun z hz => ⟨(ok.gm z hz).1, (ok.gm z hz).2, by simp⟩, fun H1 e2 => ?_⟩
  have e2 := e1.trans e2
  walk_at "rd"
  refine ⟨_, _, T.ties, T.marks, 2, rfl, e2 _ _ hb, SqT.of (e2 _ _ ha), ok.lt, by have := ok.lt; omega, ok.ndt, ok.gt, fun H2 e3 => ?_⟩
  have e3 := e2.trans e3
  walk_at "rd"
  refine ⟨_, _, rfl, .inr ⟨SqT.of (e3 _ _ hb), ?_⟩⟩
  refine ⟨_, _, rfl, e3 _ _ hc, fun H3 e4 => ?_⟩
  have e4 := e3.trans e4
  walk_at "rd"
  refine ⟨_, _, rfl, .inr ⟨SqT.of (e4 _ _ ha), ?_⟩⟩
  walk_at "rd"
  refine ⟨_, _, _, _, rfl, e4 _ _ hx, T0.cl, T0.nm, by decide, ?_⟩
  walk_at "rd"
  refine ⟨_, _, rfl, .inr ⟨SqT.of (by rw [upd_ne hbx]; exact e4 _ _ hb), ?_⟩⟩
  walk_at "rd"
  refine ⟨_, _, _, _, rfl, upd_same, T0.cl, T0.nt, fT_l1 _, ?_⟩
  rw [upd_upd]
  walk_at "rd"
  refine ⟨_, _, rfl, .inr ⟨SqT.of (by rw [upd_ne hcx]; exact e4 _ _ hc), ?_⟩⟩
  walk_at "rd"
  refine ⟨_, _, _, _, rfl, upd_same, T0.cl, T0.nf, fT_l2 _ _, ?_⟩
  rw [upd_upd, fT_put]
  refine q _ (hide_step (hide_mono e4) hide_upd) ⟨dx, a, b, c, upd_same, ?_, ?_, ?_⟩
  · rw [upd_ne hax]
    exact e4 _ _ ha
  · rw [upd_ne hbx]
    exact e4 _ _ hb
  · rw [upd_ne hcx]
    exact e4 _ _ hc
end
end K48
namespace K48
open PySem PySem.Spec PyProof.Rows L2
local macro_rules | `(tactic| walk_at "rd") => `(tactic| repeat (first | refine ⟨_, rfl, ?_⟩ | refine ⟨_, _, rfl, rfl, ?_⟩ | refine ⟨rfl, ?_⟩ | refine iteTk (by decide +kernel) ?_ | refine iteFk (by decide +kernel) ?_))
local macro_rules | `(tactic| walk_at "rdr") => `(tactic| repeat (first | refine ⟨_, rfl, ?_⟩ | refine ⟨_, _, rfl, rfl, ?_⟩ | refine ⟨rfl, ?_⟩ | refine iteTk (by first | decide +kernel | rfl) ?_ | refine iteFk (by first | decide +kernel | rfl) ?_))
local macro_rules | `(tactic| walk_at "tyn") => `(tactic| first | exact .int _ | exact .bl _ | exact .str _ | exact .tup (by assumption) | exact .lst (by assumption) | exact .dK (by assumption))
local macro_rules | `(tactic| walk_at "isT") => `(tactic| refine ⟨_, _, _, _, true, rfl, .ty _, TyN.x (by walk_at "tyn"), kit_ty (by decide +kernel), ?_⟩)
local macro_rules | `(tactic| walk_at "isF") => `(tactic| refine ⟨_, _, _, _, false, rfl, .ty _, TyN.x (by walk_at "tyn"), kit_ty (by decide +kernel), ?_⟩)
local macro_rules | `(tactic| walk_at "nz") => `(tactic| first | refine nzG (by simp only [List.set_cons_succ, List.set_cons_zero]; rfl) ?_ | refine reS (by simp only [List.set_cons_succ, List.set_cons_zero]; rfl) ?_)
namespace Say
def word : Say → Str
  | .tru => "true"
  | .mark _ _ => "mark"
  | .tie _ _ _ => "tie"
  | .same _ _ => "same"
  | .not _ => "not"
  | .and _ _ => "and"
  | .or _ _ => "or"
  | .each _ _ => "each"
  | .som _ _ => "some"
/-- the texts that stand in it -/
def nms : Say → List Str
  | .mark m v => [m, v.s]
  | .tie t v u => [t, v.s, u.s]
  | .same v u => [v.s, u.s]
  | .each v _ => [v.s]
  | .som v _ => [v.s]
  | _ => []
/-- the parts that bind, inner ones first -/
def bs : Say → List Say
  | .not s => s.bs
  | .and s t => s.bs ++ t.bs
  | .or s t => s.bs ++ t.bs
  | .each v s => s.bs ++ [.each v s]
  | .som v s => s.bs ++ [.som v s]
  | _ => []
def kbs (ks : List Say) : List Say := ks.flatMap bs
theorem bs_kids (s : Say) : s.bs = kbs s.kids ++ (if s.bnd.isSome = true then [s] else []) := by cases s <;> simp [bs, kbs, kids, bnd]
theorem bs_len (s : Say) : s.bs.length ≤ s.size := by
  induction s with
  | not s ih => simp only [bs, size]; omega
  | and s t ih ih2 => simp only [bs, size, List.length_append]; omega
  | or s t ih ih2 => simp only [bs, size, List.length_append]; omega
  | each v s ih => simp only [bs, size, List.length_append, List.length_cons, List.length_nil]; omega
  | som v s ih => simp only [bs, size, List.length_append, List.length_cons, List.length_nil]; omega
  | _ => simp [bs, size]
end Say
def isStr : V → Bool
  | .str _ => true
  | _ => false
theorem SayAt.tup {H : Hp} {s : Say} {a : Addr} (h : SayAt H s a) : ∃ xs, H a = some (.tup xs) := by
  obtain ⟨z, xs, h, _⟩ := h.word
  exact ⟨_, h⟩
theorem SayAt.head {H : Hp} {s : Say} {a : Addr} (h : SayAt H s a) : ∃ rest, H a = some (.tup (.str s.word :: rest)) ∧ rest.length ≤ 3 ∧ (∀ x ∈ rest, (∃ z, x = .str z) ∨ ∃ b xs, x = .ref b ∧ H b = some (.tup xs)) ∧ rest.filter isStr = s.nms.map V.str := by
  cases s with
  | tru => exact ⟨[], h, by simp, (fun x hx => by cases hx), rfl⟩
  | mark m v => exact ⟨_, h, by simp, (fun x hx => .inl (by simp at hx; rcases hx with rfl | rfl <;> exact ⟨_, rfl⟩)), rfl⟩
  | tie m v u => exact ⟨_, h, by simp, (fun x hx => .inl (by simp at hx; rcases hx with rfl | rfl | rfl <;> exact ⟨_, rfl⟩)), rfl⟩
  | same v u => exact ⟨_, h, by simp, (fun x hx => .inl (by simp at hx; rcases hx with rfl | rfl <;> exact ⟨_, rfl⟩)), rfl⟩
  | not s =>
    obtain ⟨b, h, h1⟩ := h
    obtain ⟨xs, h1⟩ := h1.tup
    exact ⟨_, h, by simp, (fun x hx => .inr (by simp at hx; subst hx; exact ⟨_, _, rfl, h1⟩)), rfl⟩
  | and s t =>
    obtain ⟨b, c, h, h1, h2⟩ := h
    obtain ⟨xs, h1⟩ := h1.tup
    obtain ⟨ys, h2⟩ := h2.tup
    exact ⟨_, h, by simp, (fun x hx => .inr (by
      simp at hx
      rcases hx with rfl | rfl
      · exact ⟨_, _, rfl, h1⟩
      · exact ⟨_, _, rfl, h2⟩)), rfl⟩
  | or s t =>
    obtain ⟨b, c, h, h1, h2⟩ := h
    obtain ⟨xs, h1⟩ := h1.tup
    obtain ⟨ys, h2⟩ := h2.tup
    exact ⟨_, h, by simp, (fun x hx => .inr (by
      simp at hx
      rcases hx with rfl | rfl
      · exact ⟨_, _, rfl, h1⟩
      · exact ⟨_, _, rfl, h2⟩)), rfl⟩
  | each v s =>
    obtain ⟨b, h, h1⟩ := h
    obtain ⟨xs, h1⟩ := h1.tup
    exact ⟨_, h, by simp, (fun x hx => by
      simp at hx
      rcases hx with rfl | rfl
      · exact .inl ⟨_, rfl⟩
      · exact .inr ⟨_, _, rfl, h1⟩), rfl⟩
  | som v s =>
    obtain ⟨b, h, h1⟩ := h
    obtain ⟨xs, h1⟩ := h1.tup
    exact ⟨_, h, by simp, (fun x hx => by
      simp at hx
      rcases hx with rfl | rfl
      · exact .inl ⟨_, rfl⟩
      · exact .inr ⟨_, _, rfl, h1⟩), rfl⟩
/-! ## Nodes -/
def fN (w : Str) (nm pa fr : Addr) (num : V) : List (Str × V) := [("word", .str w), ("names", .ref nm), ("parts", .ref pa), ("free", .ref fr), ("number", num)]
theorem fN_w (w : Str) (nm pa fr : Addr) (num : V) : (fN w nm pa fr num).lookup ("word" : Str) = some (.str w) := by kernel_rfl
theorem fN_n (w : Str) (nm pa fr : Addr) (num : V) : (fN w nm pa fr num).lookup ("names" : Str) = some (.ref nm) := by kernel_rfl
theorem fN_p (w : Str) (nm pa fr : Addr) (num : V) : (fN w nm pa fr num).lookup ("parts" : Str) = some (.ref pa) := by kernel_rfl
theorem fN_f (w : Str) (nm pa fr : Addr) (num : V) : (fN w nm pa fr num).lookup ("free" : Str) = some (.ref fr) := by kernel_rfl
theorem fN_u (w : Str) (nm pa fr : Addr) (num : V) : (fN w nm pa fr num).lookup ("number" : Str) = some num := by kernel_rfl
theorem fN_put (w : Str) (nm pa fr : Addr) (num : V) : putF "number" num (putF "free" (.ref fr) (putF "parts" (.ref pa) (putF "names" (.ref nm) (putF "word" (.str w) [])))) = fN w nm pa fr num := by kernel_rfl
theorem fN_l1 (w : Str) : (putF "word" (.str w) []).length < 1000 := lt_eqN (by kernel_rfl : (putF "word" (.str w) []).length = 1) (by decide)
theorem fN_l2 (w : Str) (nm : Addr) : (putF "names" (.ref nm) (putF "word" (.str w) [])).length < 1000 := lt_eqN (by kernel_rfl : (putF "names" (.ref nm) (putF "word" (.str w) [])).length = 2) (by decide)
theorem fN_l3 (w : Str) (nm pa : Addr) : (putF "parts" (.ref pa) (putF "names" (.ref nm) (putF "word" (.str w) []))).length < 1000 := lt_eqN (by kernel_rfl : (putF "parts" (.ref pa) (putF "names" (.ref nm) (putF "word" (.str w) []))).length = 3) (by decide)
theorem fN_l4 (w : Str) (nm pa fr : Addr) : (putF "free" (.ref fr) (putF "parts" (.ref pa) (putF "names" (.ref nm) (putF "word" (.str w) [])))).length < 1000 := lt_eqN (by kernel_rfl : (putF "free" (.ref fr) (putF "parts" (.ref pa) (putF "names" (.ref nm) (putF "word" (.str w) [])))).length = 4) (by decide)
structure ClN (K : PySem.W.Frag) (cN : Addr) : Prop where
  cl : Cls K cN
  nw : NoAttr K cN "word"
  nn : NoAttr K cN "names"
  np : NoAttr K cN "parts"
  nf : NoAttr K cN "free"
  nu : NoAttr K cN "number"
def NodeHd (cN : Addr) (H : Hp) (s : Say) (num : V) (a : Addr) (ps : List Addr) : Prop := ∃ dx nm pa fr, H a = some (.ins cN dx (fN s.word nm pa fr num)) ∧ H nm = some (.tup (s.nms.map V.str)) ∧ H pa = some (.lst (ps.map V.ref)) ∧ H fr = some (.tup (s.fvN.map fun v => V.str v.s))
theorem NodeHd.mono {cN : Addr} {G H : Hp} {s : Say} {num : V} {a : Addr} {ps : List Addr} (h : NodeHd cN G s num a ps) (e : Same G H) : NodeHd cN H s num a ps := by
  obtain ⟨dx, nm, pa, fr, h1, h2, h3, h4⟩ := h
  exact ⟨dx, nm, pa, fr, e _ _ h1, e _ _ h2, e _ _ h3, e _ _ h4⟩
def NodeAt (cN : Addr) (H : Hp) : Say → Nat → Addr → Prop
  | .not s, k, a => ∃ p, NodeHd cN H (.not s) .non a [p] ∧ NodeAt cN H s k p
  | .and s t, k, a => ∃ p q, NodeHd cN H (.and s t) .non a [p, q] ∧ NodeAt cN H s k p ∧ NodeAt cN H t (k + s.bs.length) q
  | .or s t, k, a => ∃ p q, NodeHd cN H (.or s t) .non a [p, q] ∧ NodeAt cN H s k p ∧ NodeAt cN H t (k + s.bs.length) q
  | .each v s, k, a => ∃ p, NodeHd cN H (.each v s) (.int (k + s.bs.length : Nat)) a [p] ∧ NodeAt cN H s k p
  | .som v s, k, a => ∃ p, NodeHd cN H (.som v s) (.int (k + s.bs.length : Nat)) a [p] ∧ NodeAt cN H s k p
  | .tru, _, a => NodeHd cN H .tru .non a []
  | .mark m v, _, a => NodeHd cN H (.mark m v) .non a []
  | .tie t v u, _, a => NodeHd cN H (.tie t v u) .non a []
  | .same v u, _, a => NodeHd cN H (.same v u) .non a []
theorem NodeAt.mono {cN : Addr} {G H : Hp} (e : Same G H) : ∀ {s : Say} {k : Nat} {a : Addr}, NodeAt cN G s k a → NodeAt cN H s k a
  | .not _, _, _, ⟨p, h, h1⟩ => ⟨p, h.mono e, h1.mono e⟩
  | .and _ _, _, _, ⟨p, q, h, h1, h2⟩ => ⟨p, q, h.mono e, h1.mono e, h2.mono e⟩
  | .or _ _, _, _, ⟨p, q, h, h1, h2⟩ => ⟨p, q, h.mono e, h1.mono e, h2.mono e⟩
  | .each _ _, _, _, ⟨p, h, h1⟩ => ⟨p, h.mono e, h1.mono e⟩
  | .som _ _, _, _, ⟨p, h, h1⟩ => ⟨p, h.mono e, h1.mono e⟩
  | .tru, _, _, h => NodeHd.mono h e
  | .mark _ _, _, _, h => NodeHd.mono h e
  | .tie _ _ _, _, _, h => NodeHd.mono h e
  | .same _ _, _, _, h => NodeHd.mono h e
/-- the nodes of parts one after the other -/
def KidNodes (cN : Addr) (H : Hp) : List Say → Nat → List Addr → Prop
  | [], _, [] => True
  | s :: ss, k, p :: ps => NodeAt cN H s k p ∧ KidNodes cN H ss (k + s.bs.length) ps
  | _, _, _ => False
theorem KidNodes.mono {cN : Addr} {G H : Hp} (e : Same G H) : ∀ {ss : List Say} {k : Nat} {ps : List Addr}, KidNodes cN G ss k ps → KidNodes cN H ss k ps
  | [], _, [], _ => True.intro
  | _ :: _, _, _ :: _, ⟨h, t⟩ => ⟨h.mono e, KidNodes.mono e t⟩
  | [], _, _ :: _, h => h.elim
  | _ :: _, _, [], h => h.elim
theorem KidNodes.snoc {cN : Addr} {H : Hp} {s : Say} {p : Addr} : ∀ {ss : List Say} {k : Nat} {ps : List Addr}, KidNodes cN H ss k ps → NodeAt cN H s (k + (Say.kbs ss).length) p → KidNodes cN H (ss ++ [s]) k (ps ++ [p])
  | [], _, [], _, h => ⟨h, True.intro⟩
  | x :: ss, k, y :: ps, ⟨h, t⟩, h2 => ⟨h, KidNodes.snoc t (by
      have e : k + x.bs.length + (Say.kbs ss).length = k + (Say.kbs (x :: ss)).length := by
        simp only [Say.kbs, List.flatMap_cons, List.length_append]
        omega
      rw [e]
      exact h2)⟩
  | [], _, _ :: _, h, _ => h.elim
  | _ :: _, _, [], h, _ => h.elim
theorem KidNodes.len {cN : Addr} {H : Hp} : ∀ {ss : List Say} {k : Nat} {ps : List Addr}, KidNodes cN H ss k ps → ss.length = ps.length
  | [], _, [], _ => rfl
  | _ :: _, _, _ :: _, ⟨_, t⟩ => congrArg (· + 1) t.len
  | [], _, _ :: _, h => h.elim
  | _ :: _, _, [], h => h.elim
def Say.num (s : Say) (k : Nat) : V := if s.bnd.isSome = true then .int (k + (Say.kbs s.kids).length : Nat) else .non
theorem NodeAt.of {cN : Addr} {H : Hp} {s : Say} {k : Nat} {a : Addr} {ps : List Addr} (h : NodeHd cN H s (s.num k) a ps) (hk : KidNodes cN H s.kids k ps) : NodeAt cN H s k a := by
  cases s with
  | tru => cases ps with | nil => exact h | cons _ _ => exact hk.elim
  | mark _ _ => cases ps with | nil => exact h | cons _ _ => exact hk.elim
  | tie _ _ _ => cases ps with | nil => exact h | cons _ _ => exact hk.elim
  | same _ _ => cases ps with | nil => exact h | cons _ _ => exact hk.elim
  | not s =>
    match ps, hk with
    | [p], ⟨hk, _⟩ => exact ⟨p, h, hk⟩
  | and s t =>
    match ps, hk with
    | [p, q], ⟨hk, hk2, _⟩ => exact ⟨p, q, h, hk, hk2⟩
  | or s t =>
    match ps, hk with
    | [p, q], ⟨hk, hk2, _⟩ => exact ⟨p, q, h, hk, hk2⟩
  | each v s =>
    match ps, hk with
    | [p], ⟨hk, _⟩ =>
      have e : (Say.each v s).num k = .int (k + s.bs.length : Nat) := by simp [Say.num, Say.bnd, Say.kbs, Say.kids]
      exact ⟨p, by rw [← e]; exact h, hk⟩
  | som v s =>
    match ps, hk with
    | [p], ⟨hk, _⟩ =>
      have e : (Say.som v s).num k = .int (k + s.bs.length : Nat) := by simp [Say.num, Say.bnd, Say.kbs, Say.kids]
      exact ⟨p, by rw [← e]; exact h, hk⟩
/-- the nodes that bind, from the k-th on -/
def BndAt (cN : Addr) (H : Hp) : List Say → Nat → List Addr → Prop
  | [], _, [] => True
  | b :: bs, k, m :: ms => (∃ j, NodeAt cN H b j m ∧ j + b.bs.length = k + 1) ∧ BndAt cN H bs (k + 1) ms
  | _, _, _ => False
theorem BndAt.mono {cN : Addr} {G H : Hp} (e : Same G H) : ∀ {bs : List Say} {k : Nat} {ms : List Addr}, BndAt cN G bs k ms → BndAt cN H bs k ms
  | [], _, [], _ => True.intro
  | _ :: _, _, _ :: _, ⟨⟨j, h, g⟩, t⟩ => ⟨⟨j, h.mono e, g⟩, BndAt.mono e t⟩
  | [], _, _ :: _, h => h.elim
  | _ :: _, _, [], h => h.elim
theorem BndAt.len {cN : Addr} {H : Hp} : ∀ {ss : List Say} {k : Nat} {ps : List Addr}, BndAt cN H ss k ps → ss.length = ps.length
  | [], _, [], _ => rfl
  | _ :: _, _, _ :: _, ⟨_, t⟩ => congrArg (· + 1) t.len
  | [], _, _ :: _, h => h.elim
  | _ :: _, _, [], h => h.elim
theorem BndAt.app {cN : Addr} {H : Hp} {cs : List Say} {ns : List Addr} : ∀ {bs : List Say} {k : Nat} {ms : List Addr}, BndAt cN H bs k ms → BndAt cN H cs (k + bs.length) ns → BndAt cN H (bs ++ cs) k (ms ++ ns)
  | [], _, [], _, h => h
  | b :: bs, k, m :: ms, ⟨g, t⟩, h => ⟨g, BndAt.app t (by rw [show k + 1 + bs.length = k + (b :: bs).length by simp; omega]; exact h)⟩
  | [], _, _ :: _, h, _ => h.elim
  | _ :: _, _, [], h, _ => h.elim
/-- what is new, or at one of these -/
def nwL (L : List Addr) (H H' : Hp) : Hp := fun b => match H b with
  | none => H' b
  | some _ => if b ∈ L then H' b else none
theorem nwL_new {L : List Addr} {H H' : Hp} {b : Addr} (h : H b = none) : nwL L H H' b = H' b := by
  unfold nwL
  rw [h]
theorem nwL_in {L : List Addr} {H H' : Hp} {b : Addr} (h : b ∈ L) : nwL L H H' b = H' b := by
  unfold nwL
  cases H b with
  | none => rfl
  | some _ => exact if_pos h
theorem nwL_some {L : List Addr} {H H' : Hp} {b : Addr} {u : HO} (h : nwL L H H' b = some u) : (H b = none ∨ b ∈ L) ∧ H' b = some u := by
  cases e : H b with
  | none =>
    rw [nwL_new e] at h
    exact ⟨.inl rfl, h⟩
  | some v =>
    unfold nwL at h
    rw [e] at h
    simp only at h
    split at h
    · exact ⟨.inr (by assumption), h⟩
    · cases h
theorem nwL_same {L : List Addr} {H H' : Hp} : Same (nwL L H H') H' := fun _ _ h => (nwL_some h).2
theorem cut1 (x : V) (xs : List V) : cutV (x :: xs) (some 1) none = xs := by
  simp [cutV, HT.sIx]
theorem cut1_not (x : V) (xs : List V) : ¬ (HT.sIx (x :: xs).length 0 (some 1) = 0 ∧ HT.sIx (x :: xs).length (x :: xs).length none = (x :: xs).length) := by
  simp [HT.sIx]
section
variable {P : Program} {w : World} {K : PySem.W.Frag} {mg : Str → Option Value} {base : Heap} {cN : Addr}
def spNInit (cN : Addr) : Sp := fun vs H Q _ => ∃ (G : Hp) (x dx a pa : Addr) (s : Say) (ps : List Addr) (num : V), vs = [.ref x, .ref a, .ref pa, num] ∧ Same G H ∧ G x = none ∧ H x = some (.ins cN dx []) ∧ SayAt G s a ∧ s.deep ≤ 20 ∧ G pa = some (.lst (ps.map V.ref)) ∧
  ∀ H', Same (hide x H) H' → NodeHd cN (nwL [x, pa] H H') s num x ps → Q .non H'
theorem ok_Node_init (TN : ClN K cN) (B : Blt mg) (D : Mth K cN "__init__" "Node.__init__" s_Node__init) (c_free_names : CallOk P w K mg base 21 "free_names" P_free_names (spFree 20)) :
    MethOk P w K mg base cN 22 "__init__" P_Node__init (spNInit cN) := by
  refine methOk D sc_Node__init bd_Node__init (fun vs H Q E h => ?_) (fun f cdv A outer st H vs Q E hr h => ?_)
  · obtain ⟨G, x, dx, a, pa, s, ps, num, rfl, _⟩ := h
    rfl
  obtain ⟨G, x, dx, a, pa, s, ps, num, rfl, eG, hxG, hx, hS, hd, hpa, q⟩ := h
  obtain ⟨rest, hw, hr3, hit, hfl⟩ := hS.head
  refine ⟨_, pss_cons (ps_fld (pv 0) (pe_ix ix_tup (pv 1) (pe_int) (fun _ _ => rfl)) rfl) (pss_cons (ps_fld (pv 0) (pe_callTy call_tuple_of (by rfl) B.tuple bo_tuple (pa_cons (pe_lc (own := [("item", 4)]) (g := gName 4) (by rfl) sc_Node__init.nd (pi_tup (pe_slice sl_tup (pv 1) (po_some (pe_int)) po_none)) (blkOk_by (own := [("item", 4)]) (N := N_Node__init) (by kernel_rfl)) (fun _ _ _ _ _ => pg_name (i := 4) sc_Node__init.nd rfl (Or.inl rfl)) (fun _ _ _ _ _ => pts_one (pt_val (pe_callB (call_isiK' (K := K) rfl) (by rfl) B.isinstance bo_isinstance (pa_cons (pv 4) (pa_cons (pe_bltn (v := .ty "str") (by rfl) B.str bo_str rfl) pa_nil))))) (fun _ _ _ _ _ => pv 4)) pa_nil)) rfl) (pss_cons (ps_fld (pv 0) (pv 2) rfl) (pss_cons (ps_fld (pv 0) (pe_cl c_free_names hr (by rfl) (pa_cons (pv 1) pa_nil)) rfl) (pss_one (ps_fld (pv 0) (pv 3) rfl))))), ?_⟩
  walk_at "rd"
  refine ⟨_, _, _, _, rfl, rfl, SqT.of (eG _ _ hw), atI_nat (j := 0) rfl, ?_⟩
  walk_at "rd"
  refine ⟨_, _, _, _, rfl, hx, TN.cl, TN.nw, by decide, ?_⟩
  have eG1 : Same G (upd H x (.ins cN dx (putF "word" (.str s.word) []))) := Same.mut eG hxG
  have e1 : Same (hide x H) (upd H x (.ins cN dx (putF "word" (.str s.word) []))) := hide_upd
  have hx1 : (upd H x (.ins cN dx (putF "word" (.str s.word) []))) x = some (.ins cN dx (putF "word" (.str s.word) [])) := upd_same
  revert eG1 e1 hx1
  generalize upd H x (.ins cN dx (putF "word" (.str s.word) [])) = H1
  intro eG1 e1 hx1
  walk_at "rd"
  refine ⟨_, _, rfl, SqT.of (eG1 _ _ hw), cut1_not _ _, fun p1 hp1 => ?_⟩
  rw [cut1]
  have eP : Same H1 (upd H1 p1 (.tup rest)) := Same.new (Same.refl _) hp1
  have hitH : ∀ x ∈ rest, (∃ z, x = .str z) ∨ ∃ b xs, x = .ref b ∧ (upd H1 p1 (.tup rest)) b = some (.tup xs) := fun x hx => (hit x hx).imp id fun ⟨b, xs, e, h⟩ => ⟨b, xs, e, eP _ _ (eG1 _ _ h)⟩
  refine ⟨_, rfl, ⟨_, SqT.of upd_same⟩, fun D hD0 => ?_⟩
  refine lc_tup (K := K) (xs := rest) (fun i H' => Same (upd H1 p1 (.tup rest)) H' ∧ H' D = some (.lst ((rest.take i).filter isStr))) ⟨Same.new (Same.refl _) hD0, upd_same⟩ (fun i H' _ hP => SqT.of (hP.1 _ _ upd_same)) (fun i x' H' hx' hP => ?_) (fun H' hP => ?_)
  · obtain ⟨e2, hL⟩ := hP
    have hxm := List.mem_of_getElem? hx'
    have hxl := (List.getElem?_eq_some_iff.mp hx').1
    have tk : (rest.take (i + 1)).filter isStr = (rest.take i).filter isStr ++ (if isStr x' = true then [x'] else []) := by
      rw [List.take_add_one, hx', List.filter_append]
      cases h : isStr x' <;> simp [List.filter_cons, h]
    refine ⟨rfl, ?_⟩
    walk_at "rd"
    rcases hitH x' hxm with ⟨z, rfl⟩ | ⟨b, xs, rfl, hb⟩
    · walk_at "isT"
      walk_at "rd"
      refine ⟨_, hL, szl ?_, Same.mut e2 hD0, ?_⟩
      · have := List.length_filter_le isStr (rest.take i)
        rw [List.length_take] at this
        omega
      · rw [upd_same, tk]
        rfl
    · have hb := e2 _ _ hb
      walk_at "isF"
      walk_at "rd"
      refine ⟨e2, ?_⟩
      rw [tk]
      simp [isStr]
      exact hL
  · obtain ⟨e2, hL⟩ := hP
    rw [List.take_length, hfl] at hL
    refine ⟨_, _, rfl, .inl ⟨SqL.of hL, fun p3 hp3 => ?_⟩⟩
    have hp3H : H p3 = none := by
      cases z : H p3 with
      | none => rfl
      | some u =>
        by_cases zx : p3 = x
        · have := e2 _ _ (eP _ _ hx1)
          rw [zx, this] at hp3
          cases hp3
        · have := e2 _ _ (eP _ _ (e1 _ _ (by rw [hide_ne zx]; exact z)))
          rw [this] at hp3
          cases hp3
    have e3 : Same H1 (upd H' p3 (.tup (s.nms.map V.str))) := Same.new (eP.trans e2) hp3
    have hn3 : (upd H' p3 (.tup (s.nms.map V.str))) p3 = some (.tup (s.nms.map V.str)) := upd_same
    revert e3 hn3
    generalize upd H' p3 (.tup (s.nms.map V.str)) = H3
    intro e3 hn3
    have hx3 := e3 _ _ hx1
    have hp3x : p3 ≠ x := ne_of hn3 hx3 (by intro z; cases z)
    walk_at "rd"
    refine ⟨_, _, _, _, rfl, hx3, TN.cl, TN.nn, fN_l1 _, ?_⟩
    walk_at "rd"
    refine ⟨_, _, _, _, rfl, upd_same, TN.cl, TN.np, fN_l2 _ _, ?_⟩
    rw [upd_upd]
    walk_at "rd"
    have eG3 : Same G (upd H3 x (.ins cN dx (putF "parts" (.ref pa) (putF "names" (.ref p3) (putF "word" (.str s.word) []))))) := Same.mut (eG1.trans e3) hxG
    have e4 : Same (hide x H) (upd H3 x (.ins cN dx (putF "parts" (.ref pa) (putF "names" (.ref p3) (putF "word" (.str s.word) []))))) := fun c u hc => by
      obtain ⟨n1, _⟩ := hide_some hc
      rw [upd_ne n1]
      exact e3 _ _ (e1 _ _ hc)
    have hx4 : (upd H3 x (.ins cN dx (putF "parts" (.ref pa) (putF "names" (.ref p3) (putF "word" (.str s.word) []))))) x = some (.ins cN dx (putF "parts" (.ref pa) (putF "names" (.ref p3) (putF "word" (.str s.word) [])))) := upd_same
    have hn4 : (upd H3 x (.ins cN dx (putF "parts" (.ref pa) (putF "names" (.ref p3) (putF "word" (.str s.word) []))))) p3 = some (.tup (s.nms.map V.str)) := by rw [upd_ne hp3x]; exact hn3
    revert eG3 e4 hx4 hn4
    generalize upd H3 x (.ins cN dx (putF "parts" (.ref pa) (putF "names" (.ref p3) (putF "word" (.str s.word) [])))) = H4
    intro eG3 e4 hx4 hn4
    refine ⟨G, a, s, rfl, eG3, hS, hd, fun p5 H5 e5 hp54 hp5 => ?_⟩
    have hp5H : H p5 = none := by
      cases z : H p5 with
      | none => rfl
      | some u =>
        by_cases zx : p5 = x
        · rw [zx, hx4] at hp54
          cases hp54
        · rw [e4 _ _ (by rw [hide_ne zx]; exact z)] at hp54
          cases hp54
    walk_at "rd"
    have hx5 := e5 _ _ hx4
    refine ⟨_, _, _, _, rfl, hx5, TN.cl, TN.nf, fN_l3 _ _ _, ?_⟩
    walk_at "rd"
    refine ⟨_, _, _, _, rfl, upd_same, TN.cl, TN.nu, fN_l4 _ _ _ _, ?_⟩
    rw [upd_upd, fN_put]
    refine q _ ?_ ⟨dx, p3, pa, p5, by rw [nwL_in (by simp), upd_same], ?_, ?_, ?_⟩
    · intro c u hc
      obtain ⟨n1, _⟩ := hide_some hc
      rw [upd_ne n1]
      exact e5 _ _ (e4 _ _ hc)
    · rw [nwL_new hp3H, upd_ne hp3x]
      exact e5 _ _ hn4
    · rw [nwL_in (by simp), upd_ne (ne_of (eG3 _ _ hpa) hx4 (by intro z; cases z))]
      exact e5 _ _ (eG3 _ _ hpa)
    · rw [nwL_new hp5H, upd_ne (ne_of hp5 hx5 (by intro z; cases z))]
      exact hp5
end
end K48
namespace K48
open PySem PySem.Spec PyProof.Rows L2
local macro_rules | `(tactic| walk_at "rd") => `(tactic| repeat (first | refine ⟨_, rfl, ?_⟩ | refine ⟨_, _, rfl, rfl, ?_⟩ | refine ⟨rfl, ?_⟩ | refine iteTk (by decide +kernel) ?_ | refine iteFk (by decide +kernel) ?_))
local macro_rules | `(tactic| walk_at "rdr") => `(tactic| repeat (first | refine ⟨_, rfl, ?_⟩ | refine ⟨_, _, rfl, rfl, ?_⟩ | refine ⟨rfl, ?_⟩ | refine iteTk (by first | decide +kernel | rfl) ?_ | refine iteFk (by first | decide +kernel | rfl) ?_))
local macro_rules | `(tactic| walk_at "tyn") => `(tactic| first | exact .int _ | exact .bl _ | exact .str _ | exact .tup (by assumption) | exact .lst (by assumption) | exact .dK (by assumption))
local macro_rules | `(tactic| walk_at "isT") => `(tactic| refine ⟨_, _, _, _, true, rfl, .ty _, TyN.x (by walk_at "tyn"), kit_ty (by decide +kernel), ?_⟩)
local macro_rules | `(tactic| walk_at "isF") => `(tactic| refine ⟨_, _, _, _, false, rfl, .ty _, TyN.x (by walk_at "tyn"), kit_ty (by decide +kernel), ?_⟩)
local macro_rules | `(tactic| walk_at "nz") => `(tactic| first | refine nzG (by simp only [List.set_cons_succ, List.set_cons_zero]; rfl) ?_ | refine reS (by simp only [List.set_cons_succ, List.set_cons_zero]; rfl) ?_)
theorem hide_into {a : Addr} {H H' : Hp} (e : Same (hide a H) H') : Same (hide a H) (hide a H') := fun b u h => by
  obtain ⟨n, _⟩ := hide_some h
  rw [hide_ne n]
  exact e _ _ h
theorem hide_trans {a : Addr} {H H1 H2 : Hp} (e1 : Same (hide a H) H1) (e2 : Same (hide a H1) H2) : Same (hide a H) H2 := fun b u h => e2 _ _ (hide_into e1 _ _ h)
/-- a fact below: what is not at a is kept -/
theorem hide_base {a : Addr} {G H : Hp} (e : Same G H) (n : G a = none) : Same G (hide a H) := fun b u h => by
  rw [hide_ne (ne_of_none h n)]
  exact e _ _ h
theorem kbs_take {ss : List Say} {i : Nat} {s : Say} (h : ss[i]? = some s) : Say.kbs (ss.take (i + 1)) = Say.kbs (ss.take i) ++ s.bs := by
  rw [List.take_add_one, h]
  simp [Say.kbs]
theorem bnd_word {H : Hp} {s : Say} {a : Addr} (h : SayAt H s a) : inV (.str s.word) [.str "each", .str "some"] = s.bnd.isSome := by
  cases s <;> (simp only [Say.word, Say.bnd, Option.isSome]; decide +kernel)
section
variable {P : Program} {w : World} {K : PySem.W.Frag} {mg : Str → Option Value} {base : Heap} {cN : Addr}
def spNodeOf (cN : Addr) (n : Nat) : Sp := fun vs H Q _ => ∃ (G : Hp) (a l : Addr) (s : Say) (ns : List Addr), vs = [.ref a, .ref l] ∧ Same G H ∧ G l = none ∧ H l = some (.lst (ns.map V.ref)) ∧ SayAt G s a ∧ s.deep ≤ n ∧ n ≤ 20 ∧ ns.length + s.bs.length ≤ 1000 ∧
  ∀ p ms H', Same (hide l H) H' → H' l = some (.lst ((ns ++ ms).map V.ref)) → NodeAt cN (nwL [] H H') s ns.length p → BndAt cN (nwL [] H H') s.bs ns.length ms → Q (.ref p) H'
theorem ok_node_of (TN : ClN K cN) (B : Blt mg) (C : Cst K mg) (D : Def K mg "node_of" s_node_of) (c_say : CallOk P w K mg base 1 "sayings_in" P_sayings_in spSayingsIn) (c_mk : MakeOk P w K mg base cN 22 "Node" P_Node__init (spNInit cN)) :
    ∀ n, CallOk P w K mg base (n + 24) "node_of" P_node_of (spNodeOf cN n) := by
  intro n
  induction n with
  | zero => exact callOk_none D bd_node_of fun vs H Q E ⟨G, a, l, s, ns, _, _, _, _, _, h, _⟩ => by have := s.deep_pos; omega
  | succ n ih =>
  have c_node_of := ih
  have c_sayings_in := c_say
  have c_Node := c_mk
  refine callOk D sc_node_of bd_node_of (fun vs H Q E h => ?_) (fun f cdv A outer st H vs Q E hr h => ?_)
  · obtain ⟨G, a, l, s, ns, rfl, _⟩ := h
    rfl
  obtain ⟨G, a, l, s, ns, rfl, eG, hGl, hl, hS, hd, hn20, hlen, q⟩ := h
  have hr1 : Room 1 _ := hr.mono (by omega)
  have hr23 : Room 23 _ := hr.mono (by omega)
  refine ⟨_, pss_cons (ps_setLc (i := 2) (own := [("inner", 3)]) (g := gName 3) (tt := tYes) (by rfl) sc_node_of.nd rfl rfl (sw_true rfl rfl rfl (by decide +kernel)) (pi_tup (pe_cl c_sayings_in hr1 (by rfl) (pa_cons (pv 0) pa_nil))) (blkOk_by (own := [("inner", 3)]) (N := N_node_of) (by kernel_rfl)) (fun _ _ _ _ _ => pg_name (i := 3) sc_node_of.nd rfl (Or.inl rfl)) (fun _ _ _ _ _ => pts_nil) (fun _ _ _ _ _ => pe_cl c_node_of hr (by rfl) (pa_cons (pv 3) (pa_cons (pv 1) pa_nil)))) (pss_cons (ps_set (i := 4) sc_node_of.nd rfl (.inl rfl) (pe_ifExp (pt_cmpR op_in_seq (pe_ix ix_tup (pv 0) (pe_int) (fun _ _ => rfl)) (pe_tupG C.BINDING (by rfl)) (by rfl)) (pe_callB call_len_seq (by rfl) B.len bo_len (pa_cons (pv 1) pa_nil)) (pe_non))) (pss_cons (ps_set (i := 5) sc_node_of.nd rfl (.inl rfl) (pe_mk c_Node hr23 (by rfl) (pa_cons (pv 0) (pa_cons (pv 2) (pa_cons (pv 4) pa_nil))))) (pss_cons (ps_if (pt_cmp (pc_notN (pv 4))) (pss_one (ps_expr (pe_bm PySem.F.plainAttrs_list PySem.F.slot_list_append PySem.F.type_list_append mt_append (pv 1) (pa_cons (pv 5) pa_nil)))) (pss_nil)) (pss_one (ps_ret (pv 5)))))), ?_⟩
  walk_at "rd"
  refine ⟨G, a, s, rfl, eG, hS, fun p1 as H1 e1 n1 t1 hk => ?_⟩
  have hp1l : p1 ≠ l := fun z => by rw [z, hl] at n1; cases n1
  have hl1 := e1 _ _ hl
  have hkl := Paired.length hk
  refine ⟨_, rfl, ⟨_, SqT.of t1⟩, fun D hD0 => ?_⟩
  have hDl : D ≠ l := fun z => by rw [z, hl1] at hD0; cases hD0
  have hDd : (upd H1 D (.lst [])) D = some (.lst []) := upd_same
  have hDl1 : (upd H1 D (.lst [])) l = some (.lst (ns.map V.ref)) := by rw [upd_ne (Ne.symm hDl)]; exact hl1
  have eD : Same H1 (upd H1 D (.lst [])) := Same.new (Same.refl _) hD0
  refine lc_tup (K := K) (xs := as.map V.ref) (fun i H' => ∃ (ps ms : List Addr), Same (hide l H1) H' ∧ H' D = some (.lst (ps.map V.ref)) ∧ H' l = some (.lst ((ns ++ ms).map V.ref)) ∧ KidNodes cN (nwL [] (upd H1 D (.lst [])) H') (s.kids.take i) ns.length ps ∧ BndAt cN (nwL [] (upd H1 D (.lst [])) H') (Say.kbs (s.kids.take i)) ns.length ms)
    ⟨[], [], fun b u h => ?_, upd_same, ?_, True.intro, True.intro⟩ (fun i H' _ hP => let ⟨_, _, h, _⟩ := hP; SqT.of (h _ _ (by rw [hide_ne hp1l]; exact t1))) (fun i x' H' hx' hP => ?_) (fun H' hP => ?_)
  · obtain ⟨nb, h⟩ := hide_some h
    rw [upd_ne (ne_of_none h hD0)]
    exact h
  · rw [List.append_nil]
    exact hDl1
  · obtain ⟨ps, ms, e2, hL, hB, hKN, hBN⟩ := hP
    obtain ⟨b, hb, rfl⟩ := map_at hx'
    obtain ⟨k, hk', hkb⟩ := Paired.at hk hb
    have hkm := List.mem_of_getElem? hk'
    have hil := (List.getElem?_eq_some_iff.mp hk').1
    have eG1 : Same G (hide l H1) := hide_base (eG.trans e1) hGl
    have eG2 : Same G H' := fun c u h => e2 _ _ (eG1 _ _ h)
    have hms : ms.length = (Say.kbs (s.kids.take i)).length := hBN.len.symm
    have hbl : (Say.kbs (s.kids.take i)).length + k.bs.length ≤ s.bs.length := by
      rw [Say.bs_kids s, List.length_append]
      have e := congrArg List.length (kbs_take hk')
      rw [List.length_append] at e
      have e2 : (Say.kbs s.kids).length = (Say.kbs (s.kids.take (i + 1))).length + (Say.kbs (s.kids.drop (i + 1))).length := by
        have := congrArg (fun z => (Say.kbs z).length) (List.take_append_drop (i + 1) s.kids)
        simp only [Say.kbs, List.flatMap_append, List.length_append] at this ⊢
        omega
      omega
    refine ⟨rfl, ?_⟩
    walk_at "rd"
    refine ⟨G, b, l, k, ns ++ ms, rfl, eG2, hGl, hB, hkb, by have := Say.deep_kids hkm; omega, by omega, by rw [List.length_append]; omega, fun p ms2 H3 e3 hB3 hN3 hBN3 => ?_⟩
    rw [List.length_append, hms] at hN3 hBN3
    have hL3 : H3 D = some (.lst (ps.map V.ref)) := e3 _ _ (by rw [hide_ne hDl]; exact hL)
    have hpl : ps.length = i := by
      have := hKN.len
      rw [List.length_take] at this
      omega
    have old : ∀ o, Same (nwL [] (upd H1 D (.lst [])) H') (nwL [] (upd H1 D (.lst [])) (upd H3 D o)) := fun o c u h => by
      obtain ⟨hc, h⟩ := nwL_some h
      have hc : upd H1 D (.lst []) c = none := hc.elim id (fun z => by cases z)
      have c1 : c ≠ D := fun z => by rw [z, hDd] at hc; cases hc
      have c2 : c ≠ l := fun z => by rw [z, hDl1] at hc; cases hc
      rw [nwL_new hc, upd_ne c1]
      exact e3 _ _ (by rw [hide_ne c2]; exact h)
    have fresh : ∀ o, Same (nwL [] H' H3) (nwL [] (upd H1 D (.lst [])) (upd H3 D o)) := fun o c u h => by
      obtain ⟨hc, h⟩ := nwL_some h
      have hc : H' c = none := hc.elim id (fun z => by cases z)
      have c1 : c ≠ D := fun z => by rw [z, hL] at hc; cases hc
      have c2 : c ≠ l := fun z => by rw [z, hB] at hc; cases hc
      have c3 : upd H1 D (.lst []) c = none := by
        rw [upd_ne c1]
        cases z : H1 c with
        | none => rfl
        | some v =>
          rw [e2 _ _ (by rw [hide_ne c2]; exact z)] at hc
          cases hc
      rw [nwL_new c3, upd_ne c1]
      exact h
    refine ⟨_, hL3, szl (by rw [List.length_map, hpl]; have := s.len_kids; omega), ps ++ [p], ms ++ ms2, ?_, by rw [upd_same, List.map_append]; rfl, ?_, ?_, ?_⟩
    · intro c u h
      have h2 := e2 _ _ h
      obtain ⟨c2, h⟩ := hide_some h
      have c1 : c ≠ D := ne_of_none h hD0
      rw [upd_ne c1]
      exact e3 _ _ (by rw [hide_ne c2]; exact h2)
    · rw [upd_ne (Ne.symm hDl), hB3, List.append_assoc]
    · rw [List.take_add_one, hk']
      exact (hKN.mono (old _)).snoc (hN3.mono (fresh _))
    · rw [kbs_take hk']
      exact (hBN.mono (old _)).app (hBN3.mono (fresh _))
  · obtain ⟨ps, ms, e2, hL, hB, hKN, hBN⟩ := hP
    have eK : s.kids.take (as.map V.ref).length = s.kids := List.take_of_length_le (by rw [List.length_map]; omega)
    rw [eK] at hKN hBN
    have eG1 : Same G (hide l H1) := hide_base (eG.trans e1) hGl
    have eG2 : Same G H' := fun c u h => e2 _ _ (eG1 _ _ h)
    have hms : ms.length = (Say.kbs s.kids).length := hBN.len.symm
    obtain ⟨rest, hw, _, _, _⟩ := hS.head
    have hbw := bnd_word hS
    walk_at "rd"
    refine ⟨_, _, _, _, rfl, rfl, SqT.of (eG2 _ _ hw), atI_nat (j := 0) rfl, ?_⟩
    walk_at "rd"
    intro g hg
    refine ⟨g, _, rfl, .inr hg, rfl, rfl, ?_⟩
    rw [hbw]
    cases hb : s.bnd.isSome with
    | false =>
      walk_at "rd"
      refine fun x dx hx0 hdx0 hne => ?_
      have hxl : x ≠ l := fun z => by rw [z, hB] at hx0; cases hx0
      have hxD : x ≠ D := fun z => by rw [z, hL] at hx0; cases hx0
      have eM : Same H' (upd (upd H' dx (.own x)) x (.ins cN dx [])) := Same.new (Same.new (Same.refl _) hdx0) (by rw [upd_ne (Ne.symm hne)]; exact hx0)
      refine ⟨hide x (upd (upd H' dx (.own x)) x (.ins cN dx [])), x, dx, a, D, s, ps, .non, rfl, hide_same, hide_at, upd_same, hS.mono (fun c u h => ?_), by omega, ?_, fun H6 e6 hN6 => ?_⟩
      · rw [hide_ne (ne_of_none (eG2 _ _ h) hx0)]
        exact eM _ _ (eG2 _ _ h)
      · rw [hide_ne (Ne.symm hxD)]
        exact eM _ _ hL
      have e7 : Same H' H6 := fun c u h => e6 _ _ (by rw [hide_ne (ne_of_none h hx0)]; exact eM _ _ h)
      have hl6 := e7 _ _ hB
      have hxH : ∀ c, H' c = none → c ≠ l → H c = none := fun c hc c2 => by
        cases z : H c with
        | none => rfl
        | some v =>
          rw [e2 _ _ (by rw [hide_ne c2]; exact e1 _ _ z)] at hc
          cases hc
      have hDH : H D = none := e1.free hD0
      have old : ∀ o, Same (nwL [] (upd H1 D (.lst [])) H') (nwL [] H (upd H6 l o)) := fun o c u h => by
        obtain ⟨hc, h⟩ := nwL_some h
        have hc : upd H1 D (.lst []) c = none := hc.elim id (fun z => by cases z)
        have c2 : c ≠ l := fun z => by rw [z, hDl1] at hc; cases hc
        have hcH : H c = none := e1.free (eD.free hc)
        rw [nwL_new hcH, upd_ne c2]
        exact e7 _ _ h
      have nd : ∀ o, Same (nwL [x, D] (upd (upd H' dx (.own x)) x (.ins cN dx [])) H6) (nwL [] H (upd H6 l o)) := fun o c u h => by
        obtain ⟨hc, h⟩ := nwL_some h
        have c2 : c ≠ l := by
          rcases hc with hc | hc
          · intro z
            rw [z, eM _ _ hB] at hc
            cases hc
          · rcases List.mem_cons.mp hc with z | hc
            · rw [z]; exact hxl
            · rw [List.mem_singleton.mp hc]; exact hDl
        have hcH : H c = none := by
          rcases hc with hc | hc
          · exact hxH c (eM.free hc) c2
          · rcases List.mem_cons.mp hc with z | hc
            · rw [z]; exact hxH x hx0 hxl
            · rw [List.mem_singleton.mp hc]; exact hDH
        rw [nwL_new hcH, upd_ne c2]
        exact h
      refine ⟨rfl, ?_⟩
      walk_at "rd"
      have eU : ∀ o, Same (nwL [] H (upd H6 l o)) (nwL [] H H6) := fun o c u h => by
        obtain ⟨hc, h⟩ := nwL_some h
        have hc : H c = none := hc.elim id (fun z => by cases z)
        have c2 : c ≠ l := fun z => by rw [z, hl] at hc; cases hc
        rw [nwL_new hc]
        rw [upd_ne c2] at h
        exact h
      have enum : s.num ns.length = .non := by unfold Say.num; rw [hb]; rfl
      have ebs : s.bs = Say.kbs s.kids := by rw [Say.bs_kids s, hb]; simp
      refine q x ms H6 ?_ hl6 (NodeAt.of (ps := ps) (by rw [enum]; exact (hN6.mono (nd (.lst []))).mono (eU _)) ((hKN.mono (old (.lst []))).mono (eU _))) (by rw [ebs]; exact (hBN.mono (old (.lst []))).mono (eU _))
      intro c u h
      obtain ⟨c2, h⟩ := hide_some h
      exact e7 _ _ (e2 _ _ (by rw [hide_ne c2]; exact e1 _ _ h))
    | true =>
      walk_at "rd"
      refine ⟨_, _, rfl, .inl (SqL.of hB), ?_⟩
      walk_at "rd"
      refine fun x dx hx0 hdx0 hne => ?_
      have hxl : x ≠ l := fun z => by rw [z, hB] at hx0; cases hx0
      have hxD : x ≠ D := fun z => by rw [z, hL] at hx0; cases hx0
      have eM : Same H' (upd (upd H' dx (.own x)) x (.ins cN dx [])) := Same.new (Same.new (Same.refl _) hdx0) (by rw [upd_ne (Ne.symm hne)]; exact hx0)
      refine ⟨hide x (upd (upd H' dx (.own x)) x (.ins cN dx [])), x, dx, a, D, s, ps, .int ((ns ++ ms).map V.ref).length, rfl, hide_same, hide_at, upd_same, hS.mono (fun c u h => ?_), by omega, ?_, fun H6 e6 hN6 => ?_⟩
      · rw [hide_ne (ne_of_none (eG2 _ _ h) hx0)]
        exact eM _ _ (eG2 _ _ h)
      · rw [hide_ne (Ne.symm hxD)]
        exact eM _ _ hL
      have e7 : Same H' H6 := fun c u h => e6 _ _ (by rw [hide_ne (ne_of_none h hx0)]; exact eM _ _ h)
      have hl6 := e7 _ _ hB
      have hxH : ∀ c, H' c = none → c ≠ l → H c = none := fun c hc c2 => by
        cases z : H c with
        | none => rfl
        | some v =>
          rw [e2 _ _ (by rw [hide_ne c2]; exact e1 _ _ z)] at hc
          cases hc
      have hDH : H D = none := e1.free hD0
      have old : ∀ o, Same (nwL [] (upd H1 D (.lst [])) H') (nwL [] H (upd H6 l o)) := fun o c u h => by
        obtain ⟨hc, h⟩ := nwL_some h
        have hc : upd H1 D (.lst []) c = none := hc.elim id (fun z => by cases z)
        have c2 : c ≠ l := fun z => by rw [z, hDl1] at hc; cases hc
        have hcH : H c = none := e1.free (eD.free hc)
        rw [nwL_new hcH, upd_ne c2]
        exact e7 _ _ h
      have nd : ∀ o, Same (nwL [x, D] (upd (upd H' dx (.own x)) x (.ins cN dx [])) H6) (nwL [] H (upd H6 l o)) := fun o c u h => by
        obtain ⟨hc, h⟩ := nwL_some h
        have c2 : c ≠ l := by
          rcases hc with hc | hc
          · intro z
            rw [z, eM _ _ hB] at hc
            cases hc
          · rcases List.mem_cons.mp hc with z | hc
            · rw [z]; exact hxl
            · rw [List.mem_singleton.mp hc]; exact hDl
        have hcH : H c = none := by
          rcases hc with hc | hc
          · exact hxH c (eM.free hc) c2
          · rcases List.mem_cons.mp hc with z | hc
            · rw [z]; exact hxH x hx0 hxl
            · rw [List.mem_singleton.mp hc]; exact hDH
        rw [nwL_new hcH, upd_ne c2]
        exact h
      refine ⟨rfl, ?_⟩
      walk_at "rd"
      refine ⟨.inl ⟨rfl, _, SqL.of hl6⟩, ?_⟩
      walk_at "rd"
      refine ⟨l, _, _, rfl, rfl, hl6, szl (by rw [List.length_map, List.length_append, hms]; have e := congrArg List.length (Say.bs_kids s); rw [List.length_append] at e; omega), ?_⟩
      have enum : s.num ns.length = .int ((ns ++ ms).map V.ref).length := by
        unfold Say.num
        rw [hb, if_pos rfl, List.length_map, List.length_append, hms]
      have ebs : s.bs = Say.kbs s.kids ++ [s] := by rw [Say.bs_kids s, hb]; simp
      have hnode : NodeAt cN (nwL [] H (upd H6 l (.lst ((ns ++ ms).map V.ref ++ [.ref x])))) s ns.length x := NodeAt.of (ps := ps) (by rw [enum]; exact hN6.mono (nd _)) (hKN.mono (old _))
      walk_at "rd"
      refine q x (ms ++ [x]) _ ?_ (by rw [upd_same, ← List.append_assoc, List.map_append (l₁ := ns ++ ms) (l₂ := [x])]; rfl) hnode ?_
      · intro c u h
        obtain ⟨c2, h⟩ := hide_some h
        rw [upd_ne c2]
        exact e7 _ _ (e2 _ _ (by rw [hide_ne c2]; exact e1 _ _ h))
      · rw [ebs]
        exact (hBN.mono (old _)).app ⟨⟨ns.length, hnode, by rw [ebs, List.length_append]; simp; omega⟩, True.intro⟩
end
end K48
namespace K48
open PySem PySem.Spec PyProof.Rows L2
local macro_rules | `(tactic| walk_at "rd") => `(tactic| repeat (first | refine ⟨_, rfl, ?_⟩ | refine ⟨_, _, rfl, rfl, ?_⟩ | refine ⟨rfl, ?_⟩ | refine iteTk (by decide +kernel) ?_ | refine iteFk (by decide +kernel) ?_))
local macro_rules | `(tactic| walk_at "rdr") => `(tactic| repeat (first | refine ⟨_, rfl, ?_⟩ | refine ⟨_, _, rfl, rfl, ?_⟩ | refine ⟨rfl, ?_⟩ | refine iteTk (by first | decide +kernel | rfl) ?_ | refine iteFk (by first | decide +kernel | rfl) ?_))
local macro_rules | `(tactic| walk_at "tyn") => `(tactic| first | exact .int _ | exact .bl _ | exact .str _ | exact .tup (by assumption) | exact .lst (by assumption) | exact .dK (by assumption))
local macro_rules | `(tactic| walk_at "isT") => `(tactic| refine ⟨_, _, _, _, true, rfl, .ty _, TyN.x (by walk_at "tyn"), kit_ty (by decide +kernel), ?_⟩)
local macro_rules | `(tactic| walk_at "isF") => `(tactic| refine ⟨_, _, _, _, false, rfl, .ty _, TyN.x (by walk_at "tyn"), kit_ty (by decide +kernel), ?_⟩)
local macro_rules | `(tactic| walk_at "nz") => `(tactic| first | refine nzG (by simp only [List.set_cons_succ, List.set_cons_zero]; rfl) ?_ | refine reS (by simp only [List.set_cons_succ, List.set_cons_zero]; rfl) ?_)
/-! ## What a saying says of two things -/
def Nm.at_ : Nm → Nat → Nat → Nat
  | .x, a, _ => a
  | .y, _, b => b
def ev (W : Wd) : Say → Nat → Nat → Bool
  | .tru, _, _ => true
  | .mark m v, a, b => decide (v.at_ a b ∈ W.ms m)
  | .tie t v u, a, b => decide ((v.at_ a b, u.at_ a b) ∈ W.ts t)
  | .same v u, a, b => decide (v.at_ a b = u.at_ a b)
  | .not s, a, b => !ev W s a b
  | .and s t, a, b => ev W s a b && ev W t a b
  | .or s t, a, b => ev W s a b || ev W t a b
  | .each .x s, _, b => (List.range W.n).all fun i => ev W s i b
  | .each .y s, a, _ => (List.range W.n).all fun i => ev W s a i
  | .som .x s, _, b => (List.range W.n).any fun i => ev W s i b
  | .som .y s, a, _ => (List.range W.n).any fun i => ev W s a i
theorem at_eq {a b c d : Nat} (v : Nm) (h1 : v = .x → a = c) (h2 : v = .y → b = d) : v.at_ a b = v.at_ c d := by
  cases v with
  | x => exact h1 rfl
  | y => exact h2 rfl
/-- what is not free does not matter -/
theorem ev_free (W : Wd) : ∀ (s : Say) (a b c d : Nat), (s.fr .x = true → a = c) → (s.fr .y = true → b = d) → ev W s a b = ev W s c d
  | .tru, _, _, _, _, _, _ => rfl
  | .mark m v, a, b, c, d, h1, h2 => by
    simp only [ev]
    rw [at_eq v (fun e => h1 (by subst e; simp [Say.fr])) (fun e => h2 (by subst e; simp [Say.fr]))]
  | .tie t v u, a, b, c, d, h1, h2 => by
    simp only [ev]
    rw [at_eq v (fun e => h1 (by subst e; simp [Say.fr])) (fun e => h2 (by subst e; simp [Say.fr])), at_eq u (fun e => h1 (by subst e; simp [Say.fr])) (fun e => h2 (by subst e; simp [Say.fr]))]
  | .same v u, a, b, c, d, h1, h2 => by
    simp only [ev]
    rw [at_eq v (fun e => h1 (by subst e; simp [Say.fr])) (fun e => h2 (by subst e; simp [Say.fr])), at_eq u (fun e => h1 (by subst e; simp [Say.fr])) (fun e => h2 (by subst e; simp [Say.fr]))]
  | .not s, a, b, c, d, h1, h2 => by simp only [ev]; rw [ev_free W s a b c d h1 h2]
  | .and s t, a, b, c, d, h1, h2 => by
    simp only [ev]
    rw [ev_free W s a b c d (fun h => h1 (by simp [Say.fr, h])) (fun h => h2 (by simp [Say.fr, h])), ev_free W t a b c d (fun h => h1 (by simp [Say.fr, h])) (fun h => h2 (by simp [Say.fr, h]))]
  | .or s t, a, b, c, d, h1, h2 => by
    simp only [ev]
    rw [ev_free W s a b c d (fun h => h1 (by simp [Say.fr, h])) (fun h => h2 (by simp [Say.fr, h])), ev_free W t a b c d (fun h => h1 (by simp [Say.fr, h])) (fun h => h2 (by simp [Say.fr, h]))]
  | .each .x s, a, b, c, d, h1, h2 => by
    simp only [ev]
    exact congrArg (List.range W.n).all (funext fun i => ev_free W s i b i d (fun _ => rfl) fun h => h2 (by simp [Say.fr, h]))
  | .each .y s, a, b, c, d, h1, h2 => by
    simp only [ev]
    exact congrArg (List.range W.n).all (funext fun i => ev_free W s a i c i (fun h => h1 (by simp [Say.fr, h])) fun _ => rfl)
  | .som .x s, a, b, c, d, h1, h2 => by
    simp only [ev]
    exact congrArg (List.range W.n).any (funext fun i => ev_free W s i b i d (fun _ => rfl) fun h => h2 (by simp [Say.fr, h]))
  | .som .y s, a, b, c, d, h1, h2 => by
    simp only [ev]
    exact congrArg (List.range W.n).any (funext fun i => ev_free W s a i c i (fun h => h1 (by simp [Say.fr, h])) fun _ => rfl)
/-! ## A reading -/
def gx : Option Nat → Nat
  | some i => i
  | none => 0
theorem spV_some {x : Option Nat} (h : x.isSome = true) : spV x = nV (gx x) := by cases x with | none => cases h | some i => rfl
/-- the free names stand for things -/
def EnvOk (s : Say) (n : Nat) (x y : Option Nat) : Prop := (s.fr .x = true → x.isSome = true) ∧ (s.fr .y = true → y.isSome = true) ∧ (∀ i, x = some i → i < n) ∧ ∀ i, y = some i → i < n
def fR (w t : Addr) : List (Str × V) := [("world", .ref w), ("told", .ref t)]
theorem fR_w (w t : Addr) : (fR w t).lookup ("world" : Str) = some (.ref w) := by kernel_rfl
theorem fR_t (w t : Addr) : (fR w t).lookup ("told" : Str) = some (.ref t) := by kernel_rfl
theorem fR_put (w t : Addr) : putF "told" (.ref t) (putF "world" (.ref w) []) = fR w t := by kernel_rfl
theorem fR_l1 (w : Addr) : (putF "world" (.ref w) []).length < 1000 := lt_eqN (by kernel_rfl : (putF "world" (.ref w) []).length = 1) (by decide)
structure ClR (K : PySem.W.Frag) (cR : Addr) : Prop where
  cl : Cls K cR
  nw : NoAttr K cR "world"
  nt : NoAttr K cR "told"
/-- a reading of the world at wr, what it told at dr -/
def ReadAt (cR : Addr) (H : Hp) (r wr dr : Addr) : Prop := ∃ dx, H r = some (.ins cR dx (fR wr dr))
theorem ReadAt.mono {cR : Addr} {G H : Hp} {r wr dr : Addr} (h : ReadAt cR G r wr dr) (e : Same G H) : ReadAt cR H r wr dr := let ⟨dx, h⟩ := h; ⟨dx, e _ _ h⟩
/-- names are none of the two -/
def Clean (T : Tng) : Prop := (∀ z ∈ T.marks, z ≠ "x" ∧ z ≠ "y") ∧ ∀ z ∈ T.ties, z ≠ "x" ∧ z ≠ "y"
theorem NodeAt.hd {cN : Addr} {H : Hp} {s : Say} {k : Nat} {a : Addr} (h : NodeAt cN H s k a) : ∃ num ps, NodeHd cN H s num a ps := by
  cases s with
  | tru => exact ⟨_, _, h⟩
  | mark _ _ => exact ⟨_, _, h⟩
  | tie _ _ _ => exact ⟨_, _, h⟩
  | same _ _ => exact ⟨_, _, h⟩
  | not _ => obtain ⟨p, h, _⟩ := h; exact ⟨_, _, h⟩
  | and _ _ => obtain ⟨p, q, h, _⟩ := h; exact ⟨_, _, h⟩
  | or _ _ => obtain ⟨p, q, h, _⟩ := h; exact ⟨_, _, h⟩
  | each _ _ => obtain ⟨p, h, _⟩ := h; exact ⟨_, _, h⟩
  | som _ _ => obtain ⟨p, h, _⟩ := h; exact ⟨_, _, h⟩
theorem fW_has (n : Nat) (at_ am ati : Addr) : (fW n at_ am ati).lookup ("has" : Str) = none := by kernel_rfl
theorem fW_leads (n : Nat) (at_ am ati : Addr) : (fW n at_ am ati).lookup ("leads" : Str) = none := by kernel_rfl
/-- what a name stands for -/
def Nm.sp (v : Nm) (x y : Option Nat) : Option Nat := match v with
  | .x => x
  | .y => y
theorem sp_at {s : Say} {n : Nat} {x y : Option Nat} (h : EnvOk s n x y) (v : Nm) (hv : s.fr v = true) : spV (v.sp x y) = nV (v.at_ (gx x) (gx y)) := by
  cases v with
  | x => exact spV_some (h.1 hv)
  | y => exact spV_some (h.2.1 hv)
theorem y_ne_x : ¬ (("y" : Str) = "x") := by decide +kernel
theorem inV_nm (v : Nm) : inV (.str v.s) [.str "x", .str "y"] = true := by cases v <;> decide +kernel
theorem inV_no {z : Str} (h : z ≠ "x" ∧ z ≠ "y") : inV (.str z) [.str "x", .str "y"] = false := by
  have := inV_strs z ["x", "y"]
  rw [decide_eq_false (by simp [h.1, h.2])] at this
  exact this
section
variable {P : Program} {w : World} {K : PySem.W.Frag} {mg : Str → Option Value} {base : Heap} {cT cW cN cR : Addr}
def nmV (x y : Option Nat) (z : Str) : List V := if z = "x" then [spV x] else if z = "y" then [spV y] else []
def spTest (cT cW cN cR : Addr) : Sp := fun vs H Q _ => ∃ (r a wr dr : Addr) (W : Wd) (s : Say) (k : Nat) (x y : Option Nat), vs = [.ref r, .ref a, spV x, spV y] ∧ ReadAt cR H r wr dr ∧ WorldAt cT cW H wr W ∧ W.T.marks.Nodup ∧ W.T.ties.Nodup ∧ Clean W.T ∧ NodeAt cN H s k a ∧ s.kids = [] ∧ s.okT W.T.marks W.T.ties ∧ EnvOk s W.n x y ∧
  ∀ H', Same H H' → Q (.bl (ev W s (gx x) (gx y))) H'
theorem ok_test (TN : ClN K cN) (TR : ClR K cR) (TW : ClW K cW) (B : Blt mg) (D : Mth K cR "test" "Reading.test" s_Reading_test) (c_has : MethOk P w K mg base cW 1 "has" P_World_has (spHas cT cW)) (c_leads : MethOk P w K mg base cW 1 "leads" P_World_leads (spLeads cT cW)) :
    MethOk P w K mg base cR 2 "test" P_Reading_test (spTest cT cW cN cR) := by
  refine methOk D sc_Reading_test bd_Reading_test (fun vs H Q E h => ?_) (fun f cdv A outer st H vs Q E hr h => ?_)
  · obtain ⟨r, a, wr, dr, W, s, k, x, y, rfl, _⟩ := h
    rfl
  obtain ⟨r, a, wr, dr, W, s, k, x, y, rfl, ⟨dx, hR⟩, hW, hnm, hnt, hcl, hN, hks, ok, hE, q⟩ := h
  refine ⟨_, pss_cons (ps_if (pt_cmpR op_eq (pe_fld (pv 1) rfl) (pe_str) (nomark _)) (pss_one (ps_ret (pe_bl))) (pss_nil)) (pss_cons (ps_setLc (i := 4) (own := [("name", 5)]) (g := gName 5) (by rfl) sc_Reading_test.nd rfl rfl (sw_true rfl rfl rfl (by decide +kernel)) (pi_tup (pe_fld (pv 1) rfl)) (blkOk_by (own := [("name", 5)]) (N := N_Reading_test) (by kernel_rfl)) (fun _ _ _ _ _ => pg_name (i := 5) sc_Reading_test.nd rfl (Or.inl rfl)) (fun _ _ _ _ _ => pts_one (pt_cmpR (op_in_seqK (K := K) rfl) (pv 5) (pe_tup (pa_cons (pe_str) (pa_cons (pe_str) pa_nil))) (by rfl))) (fun _ _ _ _ _ => pe_ifExp (pt_cmpR op_eq (pv 5) (pe_str) (nomark _)) (pv 2) (pv 3))) (pss_cons (ps_if (pt_cmpR op_eq (pe_fld (pv 1) rfl) (pe_str) (nomark _)) (pss_one (ps_ret (pe_me c_has TW.cl hr (pe_fld (pv 0) rfl) (pa_cons (pe_ix ix_tup (pe_fld (pv 1) rfl) (pe_int) (fun _ _ => rfl)) (pa_cons (pe_ix ix_list (pv 4) (pe_int) (fun _ _ => rfl)) pa_nil))))) (pss_nil)) (pss_cons (ps_if (pt_cmpR op_eq (pe_fld (pv 1) rfl) (pe_str) (nomark _)) (pss_one (ps_ret (pe_me c_leads TW.cl hr (pe_fld (pv 0) rfl) (pa_cons (pe_ix ix_tup (pe_fld (pv 1) rfl) (pe_int) (fun _ _ => rfl)) (pa_cons (pe_ix ix_list (pv 4) (pe_int) (fun _ _ => rfl)) (pa_cons (pe_ix ix_list (pv 4) (pe_int) (fun _ _ => rfl)) pa_nil)))))) (pss_nil)) (pss_one (ps_ret (pe_cmpR op_eq (pe_ix ix_list (pv 4) (pe_int) (fun _ _ => rfl)) (pe_ix ix_list (pv 4) (pe_int) (fun _ _ => rfl)) (nomark _))))))), ?_⟩
  obtain ⟨num, ps, dy, nm, pa, fr, hn, h1, h2, h3⟩ := hN.hd
  walk_at "rd"
  refine ⟨_, _, _, _, _, rfl, hn, TN.cl, TN.nw, fN_w _ _ _ _ _, ?_⟩
  by_cases htr : s = .tru
  · subst htr
    walk_at "rd"
    exact q _ (Same.refl _)
  have hwt : decide (V.str s.word = V.str "true") = false := by
    rw [dec_V_str]
    cases s with
    | tru => exact absurd rfl htr
    | _ => exact decide_eq_false (by simp only [Say.word]; decide +kernel)
  walk_at "rd"
  rw [hwt]
  walk_at "rd"
  refine ⟨_, _, _, _, _, rfl, hn, TN.cl, TN.nn, fN_n _ _ _ _ _, ?_⟩
  refine ⟨_, rfl, ⟨_, SqT.of h1⟩, fun D hD0 => ?_⟩
  have hnl : s.nms.length ≤ 3 := by cases s <;> simp [Say.nms]
  refine lc_tup (K := K) (xs := s.nms.map V.str) (fun i H' => Same H H' ∧ H' D = some (.lst ((s.nms.take i).flatMap (nmV x y)))) ⟨Same.new (Same.refl _) hD0, upd_same⟩ (fun i H' _ hP => SqT.of (hP.1 _ _ h1)) (fun i x' H' hx' hP => ?_) (fun H' hP => ?_)
  · obtain ⟨e2, hL⟩ := hP
    obtain ⟨z, hz, rfl⟩ := map_at hx'
    have hzl := (List.getElem?_eq_some_iff.mp hz).1
    have tk : (s.nms.take (i + 1)).flatMap (nmV x y) = (s.nms.take i).flatMap (nmV x y) ++ nmV x y z := by
      rw [List.take_add_one, hz, List.flatMap_append]
      simp
    have hll : ((s.nms.take i).flatMap (nmV x y)).length ≤ 3 := by
      have : ∀ l : List Str, (l.flatMap (nmV x y)).length ≤ l.length := fun l => by
        induction l with
        | nil => exact Nat.le_refl _
        | cons u l ih =>
          rw [List.flatMap_cons, List.length_append, List.length_cons]
          have : (nmV x y u).length ≤ 1 := by
            unfold nmV
            split
            · exact Nat.le_refl _
            · split
              · exact Nat.le_refl _
              · exact Nat.zero_le _
          omega
      exact Nat.le_trans (this _) (by rw [List.length_take]; omega)
    refine ⟨rfl, ?_⟩
    walk_at "rd"
    refine ⟨sz (by simp), fun p hp => ?_⟩
    refine ⟨_, _, rfl, .inr (SqT.of upd_same), rfl, rfl, ?_⟩
    have hL2 : (upd H' p (.tup [.str "x", .str "y"])) D = some (.lst ((s.nms.take i).flatMap (nmV x y))) := by rw [upd_ne (ne_of_none hL hp)]; exact hL
    by_cases zx : z = "x"
    · subst zx
      rw [show inV (.str "x") [.str "x", .str "y"] = true from inV_nm .x]
      walk_at "rd"
      exact ⟨_, hL2, szl (by omega), Same.mut (Same.new e2 hp) hD0, by rw [upd_same, tk]; rfl⟩
    · by_cases zy : z = "y"
      · subst zy
        rw [show inV (.str "y") [.str "x", .str "y"] = true from inV_nm .y]
        walk_at "rd"
        exact ⟨_, hL2, szl (by omega), Same.mut (Same.new e2 hp) hD0, by rw [upd_same, tk]; rfl⟩
      · rw [inV_no ⟨zx, zy⟩]
        walk_at "rd"
        refine ⟨Same.new e2 hp, ?_⟩
        rw [hL2, tk]
        simp [nmV, zx, zy]
  · obtain ⟨e2, hL⟩ := hP
    rw [List.length_map, List.take_length] at hL
    have hW2 := hW.mono e2
    obtain ⟨dw, at_, am, ati, fm, ft, hI, _⟩ := id hW2
    walk_at "rd"
    refine ⟨_, _, _, _, _, rfl, e2 _ _ hn, TN.cl, TN.nw, fN_w _ _ _ _ _, ?_⟩
    cases s with
    | mark m v =>
      have eL : (Say.mark m v).nms.flatMap (nmV x y) = [spV (v.sp x y)] := by
        have := hcl.1 m ok
        cases v <;> simp [Say.nms, nmV, this.1, this.2, Nm.s, Nm.sp, y_ne_x]
      rw [eL] at hL
      walk_at "rd"
      refine ⟨_, _, _, _, _, rfl, e2 _ _ hR, TR.cl, TR.nw, fR_w _ _, ?_⟩
      refine ⟨_, _, _, rfl, hI, fW_has _ _ _ _, ?_⟩
      walk_at "rd"
      refine ⟨_, _, _, _, _, rfl, e2 _ _ hn, TN.cl, TN.nn, fN_n _ _ _ _ _, ?_⟩
      walk_at "rd"
      refine ⟨_, _, _, _, rfl, rfl, SqT.of (e2 _ _ h1), atI_nat (j := 0) rfl, ?_⟩
      walk_at "rd"
      refine ⟨_, _, _, _, rfl, rfl, SqL.of hL, atI_nat (j := 0) rfl, ?_⟩
      exact ⟨wr, m, v.at_ (gx x) (gx y), W, by rw [sp_at hE v (by simp [Say.fr])]; rfl, hW2, hnm, ok, q _ e2⟩
    | tie t v u =>
      have eL : (Say.tie t v u).nms.flatMap (nmV x y) = [spV (v.sp x y), spV (u.sp x y)] := by
        have := hcl.2 t ok
        cases v <;> cases u <;> simp [Say.nms, nmV, this.1, this.2, Nm.s, Nm.sp, y_ne_x]
      rw [eL] at hL
      walk_at "rd"
      refine ⟨_, _, _, _, _, rfl, e2 _ _ hn, TN.cl, TN.nw, fN_w _ _ _ _ _, ?_⟩
      walk_at "rd"
      refine ⟨_, _, _, _, _, rfl, e2 _ _ hR, TR.cl, TR.nw, fR_w _ _, ?_⟩
      refine ⟨_, _, _, rfl, hI, fW_leads _ _ _ _, ?_⟩
      walk_at "rd"
      refine ⟨_, _, _, _, _, rfl, e2 _ _ hn, TN.cl, TN.nn, fN_n _ _ _ _ _, ?_⟩
      walk_at "rd"
      refine ⟨_, _, _, _, rfl, rfl, SqT.of (e2 _ _ h1), atI_nat (j := 0) rfl, ?_⟩
      walk_at "rd"
      refine ⟨_, _, _, _, rfl, rfl, SqL.of hL, atI_nat (j := 0) rfl, ?_⟩
      walk_at "rd"
      refine ⟨_, _, _, _, rfl, rfl, SqL.of hL, atI_nat (j := 1) rfl, ?_⟩
      exact ⟨wr, t, v.at_ (gx x) (gx y), u.at_ (gx x) (gx y), W, by rw [sp_at hE v (by simp [Say.fr]), sp_at hE u (by simp [Say.fr])]; rfl, hW2, hnt, ok, fun H3 e3 => q _ (e2.trans e3)⟩
    | same v u =>
      have eL : (Say.same v u).nms.flatMap (nmV x y) = [spV (v.sp x y), spV (u.sp x y)] := by
        cases v <;> cases u <;> simp [Say.nms, nmV, Nm.s, Nm.sp, y_ne_x]
      rw [eL] at hL
      walk_at "rd"
      refine ⟨_, _, _, _, _, rfl, e2 _ _ hn, TN.cl, TN.nw, fN_w _ _ _ _ _, ?_⟩
      walk_at "rd"
      refine ⟨_, _, _, _, rfl, rfl, SqL.of hL, atI_nat (j := 0) rfl, ?_⟩
      walk_at "rd"
      refine ⟨_, _, _, _, rfl, rfl, SqL.of hL, atI_nat (j := 1) rfl, ?_⟩
      rw [sp_at hE v (by simp [Say.fr]), sp_at hE u (by simp [Say.fr])]
      refine ⟨rfl, ?_⟩
      rw [dec_V_int]
      have := q _ e2
      simp only [ev] at this
      rw [show decide (((v.at_ (gx x) (gx y) : Nat) : Int) = ((u.at_ (gx x) (gx y) : Nat) : Int)) = decide (v.at_ (gx x) (gx y) = u.at_ (gx x) (gx y)) from by
        by_cases h : v.at_ (gx x) (gx y) = u.at_ (gx x) (gx y)
        · rw [h, decide_eq_true rfl, decide_eq_true rfl]
        · rw [decide_eq_false h, decide_eq_false (by omega)]]
      exact this
    | tru => exact absurd rfl htr
    | not _ => simp [Say.kids] at hks
    | and _ _ => simp [Say.kids] at hks
    | or _ _ => simp [Say.kids] at hks
    | each _ _ => simp [Say.kids] at hks
    | som _ _ => simp [Say.kids] at hks
end
end K48
namespace K48
open PySem PySem.Spec PyProof.Rows L2
local macro_rules | `(tactic| walk_at "rd") => `(tactic| repeat (first | refine ⟨_, rfl, ?_⟩ | refine ⟨_, _, rfl, rfl, ?_⟩ | refine ⟨rfl, ?_⟩ | refine iteTk (by decide +kernel) ?_ | refine iteFk (by decide +kernel) ?_))
local macro_rules | `(tactic| walk_at "rdr") => `(tactic| repeat (first | refine ⟨_, rfl, ?_⟩ | refine ⟨_, _, rfl, rfl, ?_⟩ | refine ⟨rfl, ?_⟩ | refine iteTk (by first | decide +kernel | rfl) ?_ | refine iteFk (by first | decide +kernel | rfl) ?_))
local macro_rules | `(tactic| walk_at "tyn") => `(tactic| first | exact .int _ | exact .bl _ | exact .str _ | exact .tup (by assumption) | exact .lst (by assumption) | exact .dK (by assumption))
local macro_rules | `(tactic| walk_at "isT") => `(tactic| refine ⟨_, _, _, _, true, rfl, .ty _, TyN.x (by walk_at "tyn"), kit_ty (by decide +kernel), ?_⟩)
local macro_rules | `(tactic| walk_at "isF") => `(tactic| refine ⟨_, _, _, _, false, rfl, .ty _, TyN.x (by walk_at "tyn"), kit_ty (by decide +kernel), ?_⟩)
local macro_rules | `(tactic| walk_at "nz") => `(tactic| first | refine nzG (by simp only [List.set_cons_succ, List.set_cons_zero]; rfl) ?_ | refine reS (by simp only [List.set_cons_succ, List.set_cons_zero]; rfl) ?_)
/-! ## Readings: flags, and what is told -/
structure RdOk (cT cW cR : Addr) (G : Hp) (r wr dr : Addr) (W : Wd) (Bs : List Say) : Prop where
  rd : ReadAt cR G r wr dr
  wd : WorldAt cT cW G wr W
  dr0 : G dr = none
  ndm : W.T.marks.Nodup
  ndt : W.T.ties.Nodup
  cl : Clean W.T
  hi : W.n ≤ 15
  bl : Bs.length ≤ 100
def NumOk (Bs : List Say) (k : Nat) (s : Say) : Prop := ∀ i b, s.bs[i]? = some b → Bs[k + i]? = some b
theorem NumOk.left {Bs : List Say} {k : Nat} {s t : Say} {l : List Say} (h : NumOk Bs k t) (e : t.bs = s.bs ++ l) : NumOk Bs k s := fun i b hb => h i b (by
  rw [e, List.getElem?_append_left (List.getElem?_eq_some_iff.mp hb).1]
  exact hb)
theorem NumOk.right {Bs : List Say} {k : Nat} {s t : Say} {l : List Say} (h : NumOk Bs k t) (e : t.bs = l ++ s.bs) : NumOk Bs (k + l.length) s := fun i b hb => by
  have := h (l.length + i) b (by
    rw [e, List.getElem?_append_right (by omega)]
    rw [show l.length + i - l.length = i by omega]
    exact hb)
  rw [show k + l.length + i = k + (l.length + i) by omega]
  exact this
def spot (s : Say) (x y : Option Nat) : Option Nat := if s.fr .x = true then x else if s.fr .y = true then y else none
structure TInv (W : Wd) (Bs : List Say) (xs : Told) : Prop where
  val : ∀ k v, lookT xs k = some v → ∃ s, Bs[k.1]? = some s ∧ ∀ a b : Nat, (∀ i, k.2 = some i → (s.fr .x = true → a = i) ∧ (s.fr .x = false → s.fr .y = true → b = i)) → ev W s a b = v
  nd : (xs.map (·.1)).Nodup
  lt : ∀ k ∈ xs.map (·.1), k.1 < Bs.length ∧ ∀ i, k.2 = some i → i < W.n
theorem nodup_lt : ∀ (N : Nat) (l : List Nat), l.Nodup → (∀ x ∈ l, x < N) → l.length ≤ N
  | 0, l, _, h => by
    cases l with
    | nil => exact Nat.le_refl _
    | cons x l => exact absurd (h x List.mem_cons_self) (Nat.not_lt_zero _)
  | N + 1, l, hn, h => by
    have h1 : (l.filter (fun x => decide (x ≠ N))).length ≤ N := nodup_lt N _ (hn.filter _) fun x hx => by
      have := List.mem_filter.mp hx
      have h2 := h x this.1
      have h3 : x ≠ N := of_decide_eq_true this.2
      omega
    have h2 : l.length ≤ (l.filter (fun x => decide (x ≠ N))).length + 1 := by
      clear h h1
      induction l with
      | nil => simp
      | cons y l ih =>
        rw [List.nodup_cons] at hn
        by_cases e : y = N
        · subst e
          rw [List.filter_cons_of_neg (by simp)]
          have : l.filter (fun x => decide (x ≠ y)) = l := List.filter_eq_self.mpr fun z hz => decide_eq_true fun q => hn.1 (q ▸ hz)
          rw [this]
          simp
        · rw [List.filter_cons_of_pos (by simp [e])]
          have := ih hn.2
          simp only [List.length_cons]
          omega
    omega
def spN : Option Nat → Nat
  | none => 0
  | some i => i + 1
theorem spN_lt {n : Nat} {o : Option Nat} (h : ∀ i, o = some i → i < n) : spN o < n + 1 := by
  cases o with
  | none => exact Nat.succ_pos _
  | some i => have := h i rfl; show i + 1 < n + 1; omega
theorem spN_inj {a b : Option Nat} (h : spN a = spN b) : a = b := by
  cases a with
  | none => cases b with
    | none => rfl
    | some i => exact absurd h (by show ¬ (0 = i + 1); omega)
  | some i => cases b with
    | none => exact absurd h (by show ¬ (i + 1 = 0); omega)
    | some j => rw [show i = j from Nat.succ.inj h]
def encT (n : Nat) (k : TKey) : Nat := k.1 * (n + 1) + spN k.2
theorem encT_key {n : Nat} {a c x y : Nat} (hx : x < n + 1) (hy : y < n + 1) (h : a * (n + 1) + x = c * (n + 1) + y) : a = c ∧ x = y := by
  rcases Nat.lt_trichotomy a c with q | q | q
  · exfalso
    obtain ⟨d, rfl⟩ : ∃ d, c = a + 1 + d := ⟨c - (a + 1), by omega⟩
    have e : (a + 1 + d) * (n + 1) = a * (n + 1) + (n + 1) + d * (n + 1) := by rw [Nat.add_mul, Nat.add_mul, Nat.one_mul]
    rw [e] at h
    omega
  · subst q
    exact ⟨rfl, by omega⟩
  · exfalso
    obtain ⟨d, rfl⟩ : ∃ d, a = c + 1 + d := ⟨a - (c + 1), by omega⟩
    have e : (c + 1 + d) * (n + 1) = c * (n + 1) + (n + 1) + d * (n + 1) := by rw [Nat.add_mul, Nat.add_mul, Nat.one_mul]
    rw [e] at h
    omega
theorem encT_inj {n : Nat} {j k : TKey} (hj : ∀ i, j.2 = some i → i < n) (hk : ∀ i, k.2 = some i → i < n) (h : encT n j = encT n k) : j = k := by
  obtain ⟨e1, e2⟩ := encT_key (spN_lt hj) (spN_lt hk) h
  exact Prod.ext e1 (spN_inj e2)
theorem TInv.len {W : Wd} {Bs : List Say} {xs : Told} (h : TInv W Bs xs) : xs.length ≤ Bs.length * (W.n + 1) := by
  have hn : ((xs.map (·.1)).map (encT W.n)).Nodup := by
    rw [List.Nodup, List.pairwise_map]
    refine List.Pairwise.imp_of_mem (fun {p q} hp hq hne e => hne ?_) h.nd
    exact encT_inj (h.lt p hp).2 (h.lt q hq).2 e
  have := nodup_lt (Bs.length * (W.n + 1)) _ hn fun x hx => by
    obtain ⟨k, hk, rfl⟩ := List.mem_map.mp hx
    obtain ⟨h1, h2⟩ := h.lt k hk
    have h3 := spN_lt h2
    obtain ⟨d, hd⟩ : ∃ d, Bs.length = k.1 + 1 + d := ⟨Bs.length - (k.1 + 1), by omega⟩
    have e : (k.1 + 1 + d) * (W.n + 1) = k.1 * (W.n + 1) + (W.n + 1) + d * (W.n + 1) := by rw [Nat.add_mul, Nat.add_mul, Nat.one_mul]
    rw [hd, e]
    unfold encT
    omega
  simpa using this
theorem fR_flag (w t : Addr) : (fR w t).lookup ("flag" : Str) = none := by kernel_rfl
theorem fR_test (w t : Addr) : (fR w t).lookup ("test" : Str) = none := by kernel_rfl
theorem fR_bound (w t : Addr) : (fR w t).lookup ("bound_flag" : Str) = none := by kernel_rfl
theorem fR_search (w t : Addr) : (fR w t).lookup ("searched" : Str) = none := by kernel_rfl
section
variable {P : Program} {w : World} {K : PySem.W.Frag} {mg : Str → Option Value} {base : Heap} {cT cW cN cR : Addr}
def spRd (P : Program) (w : World) (cT cW cN cR : Addr) (ok : Say → Prop) (own : Nat) : Sp := fun vs H Q _ => ∃ (G : Hp) (r a wr dr : Addr) (W : Wd) (Bs : List Say) (s : Say) (k : Nat) (x y : Option Nat) (xs : Told), vs = [.ref r, .ref a, spV x, spV y] ∧
  RdOk cT cW cR G r wr dr W Bs ∧ Same G H ∧ ToldAt P w H dr xs ∧ TInv W Bs xs ∧ NodeAt cN G s k a ∧ NumOk Bs k s ∧ s.okT W.T.marks W.T.ties ∧ EnvOk s W.n x y ∧ ok s ∧
  ∀ xs' H', Same (hide dr H) H' → ToldAt P w H' dr xs' → TInv W Bs xs' → (∀ key : TKey, key.1 < k ∨ k + s.bs.length ≤ key.1 + own → lookT xs' key = lookT xs key) → Q (.bl (ev W s (gx x) (gx y))) H'
abbrev spFlag (P : Program) (w : World) (cT cW cN cR : Addr) (n : Nat) : Sp := spRd P w cT cW cN cR (fun s => s.deep ≤ n) 0
abbrev spBound (P : Program) (w : World) (cT cW cN cR : Addr) (n : Nat) : Sp := spRd P w cT cW cN cR (fun s => s.deep ≤ n ∧ s.bnd.isSome = true) 0
abbrev spSearch (P : Program) (w : World) (cT cW cN cR : Addr) (n : Nat) : Sp := spRd P w cT cW cN cR (fun s => s.deep ≤ n ∧ s.bnd.isSome = true) 1
theorem ToldAt.keep {H H' : Hp} {dr : Addr} {xs : Told} (h : ToldAt P w H dr xs) (e : Same (hide dr H) H') (e2 : H' dr = H dr) : ToldAt P w H' dr xs := by
  refine ⟨by rw [e2]; exact h.1, fun x hx => ?_⟩
  have := h.2 x hx
  refine e _ _ ?_
  rw [hide_ne]
  · exact this
  · intro z
    rw [z, h.1] at this
    cases this
theorem ToldAt.same {H H' : Hp} {dr : Addr} {xs : Told} (h : ToldAt P w H dr xs) (e : Same H H') : ToldAt P w H' dr xs := ⟨e _ _ h.1, fun x hx => e _ _ (h.2 x hx)⟩
theorem ok_flag {n : Nat} (TN : ClN K cN) (TR : ClR K cR) (D : Mth K cR "flag" "Reading.flag" s_Reading_flag) (c_flag : MethOk P w K mg base cR (4 * n + 3) "flag" P_Reading_flag (spFlag P w cT cW cN cR n))
    (c_bound_flag : MethOk P w K mg base cR (4 * n + 5) "bound_flag" P_Reading_bound_flag (spBound P w cT cW cN cR (n + 1))) (c_test : MethOk P w K mg base cR 2 "test" P_Reading_test (spTest cT cW cN cR)) :
    MethOk P w K mg base cR (4 * n + 6) "flag" P_Reading_flag (spFlag P w cT cW cN cR (n + 1)) := by
  refine methOk D sc_Reading_flag bd_Reading_flag (fun vs H Q E h => ?_) (fun f cdv A outer st H vs Q E hr h => ?_)
  · obtain ⟨G, r, a, wr, dr, W, Bs, s, k, x, y, xs, rfl, _⟩ := h
    rfl
  obtain ⟨G, r, a, wr, dr, W, Bs, s, k, x, y, xs, rfl, RO, eG, hT, hI, hN, hNum, ok, hE, hd, q⟩ := h
  have hr3 : Room (4 * n + 3) _ := hr.mono (by omega)
  have hr2 : Room 2 _ := hr.mono (by omega)
  obtain ⟨dxr, hR⟩ := id RO.rd
  refine ⟨_, pss_cons (ps_set (i := 4) sc_Reading_flag.nd rfl (.inl rfl) (pe_fld (pv 1) rfl)) (pss_cons (ps_if (pt_cmpR op_eq (pv 4) (pe_str) (nomark _)) (pss_one (ps_ret (pe_not (pe_me c_flag TR.cl hr3 (pv 0) (pa_cons (pe_ix ix_list (pe_fld (pv 1) rfl) (pe_int) (fun _ _ => rfl)) (pa_cons (pv 2) (pa_cons (pv 3) pa_nil))))))) (pss_nil)) (pss_cons (ps_if (pt_cmpR op_eq (pv 4) (pe_str) (nomark _)) (pss_one (ps_ret (pe_and (pe_me c_flag TR.cl hr3 (pv 0) (pa_cons (pe_ix ix_list (pe_fld (pv 1) rfl) (pe_int) (fun _ _ => rfl)) (pa_cons (pv 2) (pa_cons (pv 3) pa_nil)))) (pe_one (pe_me c_flag TR.cl hr3 (pv 0) (pa_cons (pe_ix ix_list (pe_fld (pv 1) rfl) (pe_int) (fun _ _ => rfl)) (pa_cons (pv 2) (pa_cons (pv 3) pa_nil)))))))) (pss_nil)) (pss_cons (ps_if (pt_cmpR op_eq (pv 4) (pe_str) (nomark _)) (pss_one (ps_ret (pe_or (pe_me c_flag TR.cl hr3 (pv 0) (pa_cons (pe_ix ix_list (pe_fld (pv 1) rfl) (pe_int) (fun _ _ => rfl)) (pa_cons (pv 2) (pa_cons (pv 3) pa_nil)))) (pe_one (pe_me c_flag TR.cl hr3 (pv 0) (pa_cons (pe_ix ix_list (pe_fld (pv 1) rfl) (pe_int) (fun _ _ => rfl)) (pa_cons (pv 2) (pa_cons (pv 3) pa_nil)))))))) (pss_nil)) (pss_cons (ps_if (pt_cmpR op_in_seq (pv 4) (pe_tup (pa_cons (pe_str) (pa_cons (pe_str) pa_nil))) (by rfl)) (pss_one (ps_ret (pe_me c_bound_flag TR.cl hr (pv 0) (pa_cons (pv 1) (pa_cons (pv 2) (pa_cons (pv 3) pa_nil)))))) (pss_nil)) (pss_one (ps_ret (pe_me c_test TR.cl hr2 (pv 0) (pa_cons (pv 1) (pa_cons (pv 2) (pa_cons (pv 3) pa_nil)))))))))), ?_⟩
  obtain ⟨num, ps, dy, nm, pa, fr, hn, h1, h2, h3⟩ := hN.hd
  walk_at "rd"
  refine ⟨_, _, _, _, _, rfl, eG _ _ hn, TN.cl, TN.nw, fN_w _ _ _ _ _, ?_⟩
  cases s with
  | not s =>
    obtain ⟨p, ⟨dy', nm', pa', fr', hn', h1', h2', h3'⟩, hN1⟩ := hN
    walk_at "rd"
    refine ⟨_, _, _, rfl, eG _ _ hR, fR_flag _ _, ?_⟩
    walk_at "rd"
    refine ⟨_, _, _, _, _, rfl, eG _ _ hn', TN.cl, TN.np, fN_p _ _ _ _ _, ?_⟩
    walk_at "rd"
    refine ⟨_, _, _, _, rfl, rfl, SqL.of (eG _ _ h2'), atI_nat (j := 0) rfl, ?_⟩
    walk_at "rd"
    refine ⟨G, r, p, wr, dr, W, Bs, s, k, x, y, xs, rfl, RO, eG, hT, hI, hN1, hNum.left (l := []) (by simp [Say.bs]), ok, hE, by have := hd; simp only [Say.deep] at this; omega, fun xs' H' e hT' hI' hk' => ?_⟩
    walk_at "rd"
    exact q xs' H' e hT' hI' hk'
  | and s t =>
    obtain ⟨p, p2, ⟨dy', nm', pa', fr', hn', h1', h2', h3'⟩, hN1, hN2⟩ := hN
    walk_at "rd"
    refine ⟨_, _, _, rfl, eG _ _ hR, fR_flag _ _, ?_⟩
    walk_at "rd"
    refine ⟨_, _, _, _, _, rfl, eG _ _ hn', TN.cl, TN.np, fN_p _ _ _ _ _, ?_⟩
    walk_at "rd"
    refine ⟨_, _, _, _, rfl, rfl, SqL.of (eG _ _ h2'), atI_nat (j := 0) rfl, ?_⟩
    walk_at "rd"
    have hE1 : EnvOk s W.n x y := ⟨fun h => hE.1 (by simp [Say.fr, h]), fun h => hE.2.1 (by simp [Say.fr, h]), hE.2.2⟩
    have hE2 : EnvOk t W.n x y := ⟨fun h => hE.1 (by simp [Say.fr, h]), fun h => hE.2.1 (by simp [Say.fr, h]), hE.2.2⟩
    have hd1 : s.deep ≤ n ∧ t.deep ≤ n := by simp only [Say.deep] at hd; omega
    have hbl : (Say.and s t).bs.length = s.bs.length + t.bs.length := by simp [Say.bs]
    refine ⟨G, r, p, wr, dr, W, Bs, s, k, x, y, xs, rfl, RO, eG, hT, hI, hN1, hNum.left (l := t.bs) (by simp [Say.bs]), ok.1, hE1, hd1.1, fun xs1 H1 e1 hT1 hI1 hk1 => ?_⟩
    have eG1 : Same G H1 := fun c u h => e1 _ _ (hide_base eG RO.dr0 _ _ h)
    refine ⟨_, rfl, ?_⟩
    refine iteS (fun hv => ?_) (fun hv => ?_)
    · walk_at "rd"
      refine ⟨_, _, _, rfl, eG1 _ _ hR, fR_flag _ _, ?_⟩
      walk_at "rd"
      refine ⟨_, _, _, _, _, rfl, eG1 _ _ hn', TN.cl, TN.np, fN_p _ _ _ _ _, ?_⟩
      walk_at "rd"
      refine ⟨_, _, _, _, rfl, rfl, SqL.of (eG1 _ _ h2'), atI_nat (j := 1) rfl, ?_⟩
      walk_at "rd"
      refine ⟨G, r, p2, wr, dr, W, Bs, t, k + s.bs.length, x, y, xs1, rfl, RO, eG1, hT1, hI1, hN2, hNum.right (by simp [Say.bs]), ok.2, hE2, hd1.2, fun xs2 H2 e2 hT2 hI2 hk2 => ?_⟩
      have := q xs2 H2 (fun c u h => e2 _ _ (hide_into e1 _ _ h)) hT2 hI2 fun key hkey => by
        rw [hk2 key (by omega), hk1 key (by omega)]
      simp only [ev, hv, Bool.true_and] at this
      exact this
    · have := q xs1 H1 e1 hT1 hI1 fun key hkey => hk1 key (by omega)
      simp only [ev, hv, Bool.false_and] at this
      exact this
  | or s t =>
    obtain ⟨p, p2, ⟨dy', nm', pa', fr', hn', h1', h2', h3'⟩, hN1, hN2⟩ := hN
    walk_at "rd"
    refine ⟨_, _, _, rfl, eG _ _ hR, fR_flag _ _, ?_⟩
    walk_at "rd"
    refine ⟨_, _, _, _, _, rfl, eG _ _ hn', TN.cl, TN.np, fN_p _ _ _ _ _, ?_⟩
    walk_at "rd"
    refine ⟨_, _, _, _, rfl, rfl, SqL.of (eG _ _ h2'), atI_nat (j := 0) rfl, ?_⟩
    walk_at "rd"
    have hE1 : EnvOk s W.n x y := ⟨fun h => hE.1 (by simp [Say.fr, h]), fun h => hE.2.1 (by simp [Say.fr, h]), hE.2.2⟩
    have hE2 : EnvOk t W.n x y := ⟨fun h => hE.1 (by simp [Say.fr, h]), fun h => hE.2.1 (by simp [Say.fr, h]), hE.2.2⟩
    have hd1 : s.deep ≤ n ∧ t.deep ≤ n := by simp only [Say.deep] at hd; omega
    have hbl : (Say.or s t).bs.length = s.bs.length + t.bs.length := by simp [Say.bs]
    refine ⟨G, r, p, wr, dr, W, Bs, s, k, x, y, xs, rfl, RO, eG, hT, hI, hN1, hNum.left (l := t.bs) (by simp [Say.bs]), ok.1, hE1, hd1.1, fun xs1 H1 e1 hT1 hI1 hk1 => ?_⟩
    have eG1 : Same G H1 := fun c u h => e1 _ _ (hide_base eG RO.dr0 _ _ h)
    refine ⟨_, rfl, ?_⟩
    refine iteS (fun hv => ?_) (fun hv => ?_)
    · have := q xs1 H1 e1 hT1 hI1 fun key hkey => hk1 key (by omega)
      simp only [ev, hv, Bool.true_or] at this
      exact this
    · walk_at "rd"
      refine ⟨_, _, _, rfl, eG1 _ _ hR, fR_flag _ _, ?_⟩
      walk_at "rd"
      refine ⟨_, _, _, _, _, rfl, eG1 _ _ hn', TN.cl, TN.np, fN_p _ _ _ _ _, ?_⟩
      walk_at "rd"
      refine ⟨_, _, _, _, rfl, rfl, SqL.of (eG1 _ _ h2'), atI_nat (j := 1) rfl, ?_⟩
      walk_at "rd"
      refine ⟨G, r, p2, wr, dr, W, Bs, t, k + s.bs.length, x, y, xs1, rfl, RO, eG1, hT1, hI1, hN2, hNum.right (by simp [Say.bs]), ok.2, hE2, hd1.2, fun xs2 H2 e2 hT2 hI2 hk2 => ?_⟩
      have := q xs2 H2 (fun c u h => e2 _ _ (hide_into e1 _ _ h)) hT2 hI2 fun key hkey => by
        rw [hk2 key (by omega), hk1 key (by omega)]
      simp only [ev, hv, Bool.false_or] at this
      exact this
  | each v s =>
    walk_at "rd"
    refine ⟨sz (by simp), fun p hp => ?_⟩
    have eP : Same H (upd H p (.tup [.str "each", .str "some"])) := Same.new (Same.refl _) hp
    refine ⟨_, _, rfl, .inr (SqT.of upd_same), rfl, rfl, ?_⟩
    walk_at "rd"
    refine ⟨_, _, _, rfl, eP _ _ (eG _ _ hR), fR_bound _ _, ?_⟩
    walk_at "rd"
    refine ⟨G, r, a, wr, dr, W, Bs, .each v s, k, x, y, xs, rfl, RO, eG.trans eP, hT.same eP, hI, hN, hNum, ok, hE, ⟨hd, rfl⟩, fun xs1 H1 e1 hT1 hI1 hk1 => ?_⟩
    exact q xs1 H1 (fun c u h => e1 _ _ (hide_mono eP _ _ h)) hT1 hI1 hk1
  | som v s =>
    walk_at "rd"
    refine ⟨sz (by simp), fun p hp => ?_⟩
    have eP : Same H (upd H p (.tup [.str "each", .str "some"])) := Same.new (Same.refl _) hp
    refine ⟨_, _, rfl, .inr (SqT.of upd_same), rfl, rfl, ?_⟩
    walk_at "rd"
    refine ⟨_, _, _, rfl, eP _ _ (eG _ _ hR), fR_bound _ _, ?_⟩
    walk_at "rd"
    refine ⟨G, r, a, wr, dr, W, Bs, .som v s, k, x, y, xs, rfl, RO, eG.trans eP, hT.same eP, hI, hN, hNum, ok, hE, ⟨hd, rfl⟩, fun xs1 H1 e1 hT1 hI1 hk1 => ?_⟩
    exact q xs1 H1 (fun c u h => e1 _ _ (hide_mono eP _ _ h)) hT1 hI1 hk1
  | tru =>
    walk_at "rd"
    refine ⟨sz (by simp), fun p hp => ?_⟩
    have eP : Same H (upd H p (.tup [.str "each", .str "some"])) := Same.new (Same.refl _) hp
    refine ⟨_, _, rfl, .inr (SqT.of upd_same), rfl, rfl, ?_⟩
    walk_at "rd"
    refine ⟨_, _, _, rfl, eP _ _ (eG _ _ hR), fR_test _ _, ?_⟩
    walk_at "rd"
    refine ⟨r, a, wr, dr, W, _, k, x, y, rfl, RO.rd.mono (eG.trans eP), RO.wd.mono (eG.trans eP), RO.ndm, RO.ndt, RO.cl, hN.mono (eG.trans eP), rfl, ok, hE, fun H1 e1 => ?_⟩
    exact q xs H1 (fun c u h => e1 _ _ (eP _ _ (hide_same _ _ h))) ((hT.same eP).same e1) hI (fun _ _ => rfl)
  | mark m v =>
    walk_at "rd"
    refine ⟨sz (by simp), fun p hp => ?_⟩
    have eP : Same H (upd H p (.tup [.str "each", .str "some"])) := Same.new (Same.refl _) hp
    refine ⟨_, _, rfl, .inr (SqT.of upd_same), rfl, rfl, ?_⟩
    walk_at "rd"
    refine ⟨_, _, _, rfl, eP _ _ (eG _ _ hR), fR_test _ _, ?_⟩
    walk_at "rd"
    refine ⟨r, a, wr, dr, W, _, k, x, y, rfl, RO.rd.mono (eG.trans eP), RO.wd.mono (eG.trans eP), RO.ndm, RO.ndt, RO.cl, hN.mono (eG.trans eP), rfl, ok, hE, fun H1 e1 => ?_⟩
    exact q xs H1 (fun c u h => e1 _ _ (eP _ _ (hide_same _ _ h))) ((hT.same eP).same e1) hI (fun _ _ => rfl)
  | tie t v u =>
    walk_at "rd"
    refine ⟨sz (by simp), fun p hp => ?_⟩
    have eP : Same H (upd H p (.tup [.str "each", .str "some"])) := Same.new (Same.refl _) hp
    refine ⟨_, _, rfl, .inr (SqT.of upd_same), rfl, rfl, ?_⟩
    walk_at "rd"
    refine ⟨_, _, _, rfl, eP _ _ (eG _ _ hR), fR_test _ _, ?_⟩
    walk_at "rd"
    refine ⟨r, a, wr, dr, W, _, k, x, y, rfl, RO.rd.mono (eG.trans eP), RO.wd.mono (eG.trans eP), RO.ndm, RO.ndt, RO.cl, hN.mono (eG.trans eP), rfl, ok, hE, fun H1 e1 => ?_⟩
    exact q xs H1 (fun c u h => e1 _ _ (eP _ _ (hide_same _ _ h))) ((hT.same eP).same e1) hI (fun _ _ => rfl)
  | same v u =>
    walk_at "rd"
    refine ⟨sz (by simp), fun p hp => ?_⟩
    have eP : Same H (upd H p (.tup [.str "each", .str "some"])) := Same.new (Same.refl _) hp
    refine ⟨_, _, rfl, .inr (SqT.of upd_same), rfl, rfl, ?_⟩
    walk_at "rd"
    refine ⟨_, _, _, rfl, eP _ _ (eG _ _ hR), fR_test _ _, ?_⟩
    walk_at "rd"
    refine ⟨r, a, wr, dr, W, _, k, x, y, rfl, RO.rd.mono (eG.trans eP), RO.wd.mono (eG.trans eP), RO.ndm, RO.ndt, RO.cl, hN.mono (eG.trans eP), rfl, ok, hE, fun H1 e1 => ?_⟩
    exact q xs H1 (fun c u h => e1 _ _ (eP _ _ (hide_same _ _ h))) ((hT.same eP).same e1) hI (fun _ _ => rfl)
end
end K48
namespace K48
open PySem PySem.Spec PyProof.Rows L2
local macro_rules | `(tactic| walk_at "rd") => `(tactic| repeat (first | refine ⟨_, rfl, ?_⟩ | refine ⟨_, _, rfl, rfl, ?_⟩ | refine ⟨rfl, ?_⟩ | refine iteTk (by decide +kernel) ?_ | refine iteFk (by decide +kernel) ?_))
local macro_rules | `(tactic| walk_at "rdr") => `(tactic| repeat (first | refine ⟨_, rfl, ?_⟩ | refine ⟨_, _, rfl, rfl, ?_⟩ | refine ⟨rfl, ?_⟩ | refine iteTk (by first | decide +kernel | rfl) ?_ | refine iteFk (by first | decide +kernel | rfl) ?_))
local macro_rules | `(tactic| walk_at "tyn") => `(tactic| first | exact .int _ | exact .bl _ | exact .str _ | exact .tup (by assumption) | exact .lst (by assumption) | exact .dK (by assumption))
local macro_rules | `(tactic| walk_at "isT") => `(tactic| refine ⟨_, _, _, _, true, rfl, .ty _, TyN.x (by walk_at "tyn"), kit_ty (by decide +kernel), ?_⟩)
local macro_rules | `(tactic| walk_at "isF") => `(tactic| refine ⟨_, _, _, _, false, rfl, .ty _, TyN.x (by walk_at "tyn"), kit_ty (by decide +kernel), ?_⟩)
local macro_rules | `(tactic| walk_at "nz") => `(tactic| first | refine nzG (by simp only [List.set_cons_succ, List.set_cons_zero]; rfl) ?_ | refine reS (by simp only [List.set_cons_succ, List.set_cons_zero]; rfl) ?_)
/-- some (true) or each (false) -/
def qn : Bool → Nm → Say → Say
  | true, v, s => .som v s
  | false, v, s => .each v s
def putX : Nm → Nat → Nat → Nat
  | .x, j, _ => j
  | .y, _, a => a
def putY : Nm → Nat → Nat → Nat
  | .x, _, c => c
  | .y, j, _ => j
theorem ev_hit {W : Wd} {b : Bool} {v : Nm} {t : Say} {a c j : Nat} (hj : j < W.n) (h : ev W t (putX v j a) (putY v j c) = b) : ev W (qn b v t) a c = b := by
  cases b with
  | true =>
    cases v with
    | x => exact List.any_eq_true.mpr ⟨j, List.mem_range.mpr hj, h⟩
    | y => exact List.any_eq_true.mpr ⟨j, List.mem_range.mpr hj, h⟩
  | false =>
    cases v with
    | x => exact List.all_eq_false.mpr ⟨j, List.mem_range.mpr hj, by rw [show ev W t j c = false from h]; decide⟩
    | y => exact List.all_eq_false.mpr ⟨j, List.mem_range.mpr hj, by rw [show ev W t a j = false from h]; decide⟩
theorem ev_miss {W : Wd} {b : Bool} {v : Nm} {t : Say} {a c : Nat} (h : ∀ j, j < W.n → ev W t (putX v j a) (putY v j c) = !b) : ev W (qn b v t) a c = !b := by
  cases b with
  | true =>
    cases v with
    | x => exact List.any_eq_false.mpr fun j hj => by rw [show ev W t j c = false from h j (List.mem_range.mp hj)]; decide
    | y => exact List.any_eq_false.mpr fun j hj => by rw [show ev W t a j = false from h j (List.mem_range.mp hj)]; decide
  | false =>
    cases v with
    | x => exact List.all_eq_true.mpr fun j hj => h j (List.mem_range.mp hj)
    | y => exact List.all_eq_true.mpr fun j hj => h j (List.mem_range.mp hj)
theorem qn_of {s : Say} (h : s.bnd.isSome = true) : ∃ b v t, s = qn b v t := by
  cases s with
  | each v t => exact ⟨false, v, t, rfl⟩
  | som v t => exact ⟨true, v, t, rfl⟩
  | _ => cases h
theorem qn_word (b : Bool) (v : Nm) (t : Say) : decide (V.str (qn b v t).word = V.str "some") = b := by
  rw [dec_V_str]
  cases b with
  | true => exact decide_eq_true rfl
  | false => exact decide_eq_false (show ¬ (("each" : Str) = "some") by decide +kernel)
theorem qn_nms (b : Bool) (v : Nm) (t : Say) : (qn b v t).nms = [v.s] := by cases b <;> rfl
theorem qn_fr (b : Bool) (v u : Nm) (t : Say) : (qn b v t).fr u = (t.fr u && !decide (u = v)) := by cases b <;> rfl
theorem qn_bs (b : Bool) (v : Nm) (t : Say) : (qn b v t).bs = t.bs ++ [qn b v t] := by cases b <;> rfl
theorem qn_okT {b : Bool} {v : Nm} {t : Say} {ms ts : List Str} (h : (qn b v t).okT ms ts) : t.okT ms ts := by cases b <;> exact h
theorem qn_deep (b : Bool) (v : Nm) (t : Say) : (qn b v t).deep = 1 + t.deep := by cases b <;> rfl
theorem qn_node {cN : Addr} {H : Hp} {b : Bool} {v : Nm} {t : Say} {k : Nat} {a : Addr} (h : NodeAt cN H (qn b v t) k a) : ∃ p, NodeHd cN H (qn b v t) (.int (k + t.bs.length : Nat)) a [p] ∧ NodeAt cN H t k p := by cases b <;> exact h
theorem fW_things_no (n : Nat) (at_ am ati : Addr) : True := trivial
def optX (v : Nm) (j : Nat) (x : Option Nat) : Option Nat := match v with
  | .x => some j
  | .y => x
def optY (v : Nm) (j : Nat) (y : Option Nat) : Option Nat := match v with
  | .x => y
  | .y => some j
theorem env_in {b : Bool} {v : Nm} {t : Say} {n j : Nat} {x y : Option Nat} (h : EnvOk (qn b v t) n x y) (hj : j < n) : EnvOk t n (optX v j x) (optY v j y) := by
  obtain ⟨h1, h2, h3, h4⟩ := h
  cases v with
  | x => exact ⟨fun _ => rfl, fun q => h2 (by rw [qn_fr, q]; rfl), fun i e => by cases e; exact hj, h4⟩
  | y => exact ⟨fun q => h1 (by rw [qn_fr, q]; rfl), fun _ => rfl, h3, fun i e => by cases e; exact hj⟩
section
variable {P : Program} {w : World} {K : PySem.W.Frag} {mg : Str → Option Value} {base : Heap} {cT cW cN cR : Addr}
theorem ok_searched {n : Nat} (B : Blt mg) (TN : ClN K cN) (TR : ClR K cR) (TW : ClW K cW) (D : Mth K cR "searched" "Reading.searched" s_Reading_searched) (c_flag : MethOk P w K mg base cR (4 * n + 3) "flag" P_Reading_flag (spFlag P w cT cW cN cR n)) :
    MethOk P w K mg base cR (4 * n + 4) "searched" P_Reading_searched (spSearch P w cT cW cN cR (n + 1)) := by
  refine methOk D sc_Reading_searched bd_Reading_searched (fun vs H Q E h => ?_) (fun f cdv A outer st H vs Q E hr h => ?_)
  · obtain ⟨G, r, a, wr, dr, W, Bs, s, k, x, y, xs, rfl, _⟩ := h
    rfl
  obtain ⟨G, r, a, wr, dr, W, Bs, s, k, x, y, xs, rfl, RO, eG, hT, hI, hN, hNum, ok, hE, ⟨hd, hb⟩, q⟩ := h
  obtain ⟨b, v, t, rfl⟩ := qn_of hb
  obtain ⟨dxr, hR⟩ := id RO.rd
  obtain ⟨dw, at_, am, ati, fm, ft, hW, _⟩ := id RO.wd
  refine ⟨_, pss_cons (ps_set (i := 4) sc_Reading_searched.nd rfl (.inl rfl) (pe_cmpR op_eq (pe_fld (pv 1) rfl) (pe_str) (nomark _))) (pss_cons (ps_for PassesOwn.never rfl (pi_range1 (by rfl) B.range (pa_cons (pe_fld (pe_fld (pv 0) rfl) rfl) pa_nil)) (pg_name (i := 5) sc_Reading_searched.nd rfl (.inl rfl)) (pss_cons (ps_asg (pe_ifExp (pt_cmpR op_eq (pe_ix ix_tup (pe_fld (pv 1) rfl) (pe_int) (fun _ _ => rfl)) (pe_str) (nomark _)) (pe_tup (pa_cons (pv 5) (pa_cons (pv 3) pa_nil))) (pe_tup (pa_cons (pv 2) (pa_cons (pv 5) pa_nil)))) (pg_tup rfl (pgs_cons (pg_name (i := 6) sc_Reading_searched.nd rfl (.inl rfl)) (pgs_cons (pg_name (i := 7) sc_Reading_searched.nd rfl (.inl rfl)) pgs_nil)))) (pss_one (ps_if (pt_cmpR op_eq (pe_me c_flag TR.cl hr (pv 0) (pa_cons (pe_ix ix_list (pe_fld (pv 1) rfl) (pe_int) (fun _ _ => rfl)) (pa_cons (pv 6) (pa_cons (pv 7) pa_nil)))) (pv 4) (nomark _)) (pss_one (ps_ret (pv 4))) (pss_nil))))) (pss_one (ps_ret (pe_not (pv 4))))), ?_⟩
  obtain ⟨p, ⟨dy, nm, pa, fr, hn, h1, h2, h3⟩, hN1⟩ := qn_node hN
  rw [qn_nms] at h1
  have hnn := RO.hi
  walk_at "rd"
  refine ⟨_, _, _, _, _, rfl, eG _ _ hn, TN.cl, TN.nw, fN_w _ _ _ _ _, ?_⟩
  walk_at "rd"
  rw [qn_word]
  refine ⟨_, _, _, _, _, rfl, eG _ _ hR, TR.cl, TR.nw, fR_w _ _, ?_⟩
  refine ⟨_, _, _, _, _, rfl, eG _ _ hW, TW.cl, TW.nn, fW_n _ _ _ _, ?_⟩
  refine ⟨_, rfl, by omega, by omega, ?_⟩
  refine for_range (lo := 0) (n := (W.n : Int).toNat) (fun i σ H' => ∃ y5 y6 y7 xs1, σ = [some (.ref r), some (.ref a), some (spV x), some (spV y), some (.bl b), y5, y6, y7] ∧ Same (hide dr H) H' ∧ ToldAt P w H' dr xs1 ∧ TInv W Bs xs1 ∧ (∀ key : TKey, key.1 < k ∨ k + t.bs.length ≤ key.1 → lookT xs1 key = lookT xs key) ∧ ∀ j, j < i → ev W t (putX v j (gx x)) (putY v j (gx y)) = !b)
    ⟨_, _, _, xs, rfl, hide_same, hT, hI, fun _ _ => rfl, fun j hj => absurd hj (Nat.not_lt_zero _)⟩ (fun i σ H' hi hP => ?_) (fun σ H' hP => ?_)
  · obtain ⟨y5, y6, y7, xs1, rfl, e1, hT1, hI1, hk1, hm⟩ := hP
    have eG1 : Same G H' := fun c u h => e1 _ _ (hide_base eG RO.dr0 _ _ h)
    have hin : i < W.n := by simpa using hi
    walk_at "rd"
    refine ⟨_, _, _, _, _, rfl, eG1 _ _ hn, TN.cl, TN.nn, fN_n _ _ _ _ _, ?_⟩
    walk_at "rd"
    refine ⟨_, _, _, _, rfl, rfl, SqT.of (eG1 _ _ h1), atI_nat (j := 0) rfl, ?_⟩
    walk_at "rd"
    cases v with
    | x =>
      walk_at "rd"
      refine ⟨sz (by simp), fun p2 hp2 => ?_⟩
      refine ⟨_, _, rfl, SqT.of upd_same, rfl, _, _, rfl, _, _, rfl, rfl, ?_⟩
      have eP := Same.new (Same.refl H') (o := (.tup [.int (0 + (i : Int)), spV y])) hp2
      have eG2 : Same G (upd H' p2 (.tup [.int (0 + (i : Int)), spV y])) := eG1.trans eP
      walk_at "rd"
      refine ⟨_, _, _, rfl, eG2 _ _ hR, fR_flag _ _, ?_⟩
      walk_at "rd"
      refine ⟨_, _, _, _, _, rfl, eG2 _ _ hn, TN.cl, TN.np, fN_p _ _ _ _ _, ?_⟩
      walk_at "rd"
      refine ⟨_, _, _, _, rfl, rfl, SqL.of (eG2 _ _ h2), atI_nat (j := 0) rfl, ?_⟩
      walk_at "rd"
      refine ⟨G, r, p, wr, dr, W, Bs, t, k, some i, y, xs1, by rw [Int.zero_add]; rfl, RO, eG2, hT1.same eP, hI1, hN1, hNum.left (qn_bs _ _ _), qn_okT ok, env_in hE hin, by rw [qn_deep] at hd; omega, fun xs2 H2 e2 hT2 hI2 hk2 => ?_⟩
      have e3 : Same (hide dr H) H2 := fun c u h => e2 _ _ (hide_mono eP _ _ (hide_into e1 _ _ h))
      have hk3 : ∀ key : TKey, key.1 < k ∨ k + t.bs.length ≤ key.1 → lookT xs2 key = lookT xs key := fun key hkey => by rw [hk2 key hkey, hk1 key hkey]
      walk_at "rd"
      rw [dec_V_bl]
      refine iteS (fun hv => ?_) (fun hv => ?_)
      · have hv := of_decide_eq_true hv
        have := q xs2 H2 e3 hT2 hI2 fun key hkey => hk3 key (by rw [qn_bs, List.length_append] at hkey; simp at hkey; omega)
        rw [ev_hit (j := i) hin hv] at this
        walk_at "rd"
        exact this
      · have hv := of_decide_eq_false hv
        refine ⟨_, _, _, xs2, rfl, e3, hT2, hI2, hk3, fun j hj => ?_⟩
        rcases Nat.lt_succ_iff_lt_or_eq.mp hj with hj | hj
        · exact hm j hj
        · subst hj
          have hv2 : ¬ ev W t (putX Nm.x j (gx x)) (putY Nm.x j (gx y)) = b := hv
          cases hx : ev W t (putX Nm.x j (gx x)) (putY Nm.x j (gx y)) <;> cases b <;> simp [hx] at hv2 ⊢
    | y =>
      walk_at "rd"
      refine ⟨sz (by simp), fun p2 hp2 => ?_⟩
      refine ⟨_, _, rfl, SqT.of upd_same, rfl, _, _, rfl, _, _, rfl, rfl, ?_⟩
      have eP := Same.new (Same.refl H') (o := (.tup [spV x, .int (0 + (i : Int))])) hp2
      have eG2 : Same G (upd H' p2 (.tup [spV x, .int (0 + (i : Int))])) := eG1.trans eP
      walk_at "rd"
      refine ⟨_, _, _, rfl, eG2 _ _ hR, fR_flag _ _, ?_⟩
      walk_at "rd"
      refine ⟨_, _, _, _, _, rfl, eG2 _ _ hn, TN.cl, TN.np, fN_p _ _ _ _ _, ?_⟩
      walk_at "rd"
      refine ⟨_, _, _, _, rfl, rfl, SqL.of (eG2 _ _ h2), atI_nat (j := 0) rfl, ?_⟩
      walk_at "rd"
      refine ⟨G, r, p, wr, dr, W, Bs, t, k, x, some i, xs1, by rw [Int.zero_add]; rfl, RO, eG2, hT1.same eP, hI1, hN1, hNum.left (qn_bs _ _ _), qn_okT ok, env_in hE hin, by rw [qn_deep] at hd; omega, fun xs2 H2 e2 hT2 hI2 hk2 => ?_⟩
      have e3 : Same (hide dr H) H2 := fun c u h => e2 _ _ (hide_mono eP _ _ (hide_into e1 _ _ h))
      have hk3 : ∀ key : TKey, key.1 < k ∨ k + t.bs.length ≤ key.1 → lookT xs2 key = lookT xs key := fun key hkey => by rw [hk2 key hkey, hk1 key hkey]
      walk_at "rd"
      rw [dec_V_bl]
      refine iteS (fun hv => ?_) (fun hv => ?_)
      · have hv := of_decide_eq_true hv
        have := q xs2 H2 e3 hT2 hI2 fun key hkey => hk3 key (by rw [qn_bs, List.length_append] at hkey; simp at hkey; omega)
        rw [ev_hit (j := i) hin hv] at this
        walk_at "rd"
        exact this
      · have hv := of_decide_eq_false hv
        refine ⟨_, _, _, xs2, rfl, e3, hT2, hI2, hk3, fun j hj => ?_⟩
        rcases Nat.lt_succ_iff_lt_or_eq.mp hj with hj | hj
        · exact hm j hj
        · subst hj
          have hv2 : ¬ ev W t (putX Nm.y j (gx x)) (putY Nm.y j (gx y)) = b := hv
          cases hx : ev W t (putX Nm.y j (gx x)) (putY Nm.y j (gx y)) <;> cases b <;> simp [hx] at hv2 ⊢
  · obtain ⟨y5, y6, y7, xs1, rfl, e1, hT1, hI1, hk1, hm⟩ := hP
    walk_at "rd"
    have := q xs1 H' e1 hT1 hI1 fun key hkey => hk1 key (by rw [qn_bs, List.length_append] at hkey; simp at hkey; omega)
    rw [ev_miss (W := W) (b := b) (v := v) (t := t) (a := gx x) (c := gx y) (fun j hj => hm j (by simpa using hj))] at this
    exact this
theorem qn_fvN (b : Bool) (v : Nm) (t : Say) (x y : Option Nat) : (∃ u, (qn b v t).fvN = [u] ∧ spot (qn b v t) x y = u.sp x y ∧ (qn b v t).fr u = true ∧ ∀ u', (qn b v t).fr u' = true → u' = u) ∨ ((qn b v t).fvN = [] ∧ spot (qn b v t) x y = none ∧ ∀ u, (qn b v t).fr u = false) := by
  unfold Say.fvN spot
  cases v with
  | x =>
    have e1 : (qn b .x t).fr .x = false := by rw [qn_fr]; simp
    cases hy : (qn b .x t).fr .y with
    | true => exact .inl ⟨.y, by simp [e1, hy], by simp [e1, Nm.sp, hy], hy, fun u' h => by cases u' with | x => rw [e1] at h; cases h | y => rfl⟩
    | false => exact .inr ⟨by simp [e1, hy], by simp [e1, hy], fun u => by cases u with | x => exact e1 | y => exact hy⟩
  | y =>
    have e1 : (qn b .y t).fr .y = false := by rw [qn_fr]; simp
    cases hx : (qn b .y t).fr .x with
    | true => exact .inl ⟨.x, by simp [e1, hx], by simp [Nm.sp, hx], hx, fun u' h => by cases u' with | x => rfl | y => rw [e1] at h; cases h⟩
    | false => exact .inr ⟨by simp [e1, hx], by simp [e1, hx], fun u => by cases u with | x => exact hx | y => exact e1⟩
theorem TInv.put {W : Wd} {Bs : List Say} {xs : Told} (h : TInv W Bs xs) {k : TKey} {p : Addr} {v : Bool} (hk : lookT xs k = none) (hlt : k.1 < Bs.length) (hsp : ∀ i, k.2 = some i → i < W.n)
    (hv : ∃ s, Bs[k.1]? = some s ∧ ∀ a b : Nat, (∀ i, k.2 = some i → (s.fr .x = true → a = i) ∧ (s.fr .x = false → s.fr .y = true → b = i)) → ev W s a b = v) : TInv W Bs (xs ++ [(k, p, v)]) := by
  refine ⟨fun j u hj => ?_, ?_, fun j hj => ?_⟩
  · rw [lookT_snoc _ _ _ _ _ hk] at hj
    split at hj
    · rename_i e
      cases hj
      rw [e]
      exact hv
    · exact h.val j u hj
  · rw [List.map_append]
    exact nd_snoc h.nd (lookT_none hk)
  · rw [List.map_append] at hj
    rcases List.mem_append.mp hj with hj | hj
    · exact h.lt j hj
    · rw [List.mem_singleton.mp hj]
      exact ⟨hlt, hsp⟩
theorem ok_bound {n : Nat} (B : Blt mg) (TN : ClN K cN) (TR : ClR K cR) (D : Mth K cR "bound_flag" "Reading.bound_flag" s_Reading_bound_flag) (c_searched : MethOk P w K mg base cR (4 * n + 4) "searched" P_Reading_searched (spSearch P w cT cW cN cR (n + 1))) :
    MethOk P w K mg base cR (4 * n + 5) "bound_flag" P_Reading_bound_flag (spBound P w cT cW cN cR (n + 1)) := by
  refine methOk D sc_Reading_bound_flag bd_Reading_bound_flag (fun vs H Q E h => ?_) (fun f cdv A outer st H vs Q E hr h => ?_)
  · obtain ⟨G, r, a, wr, dr, W, Bs, s, k, x, y, xs, rfl, _⟩ := h
    rfl
  obtain ⟨G, r, a, wr, dr, W, Bs, s, k, x, y, xs, rfl, RO, eG, hT, hI, hN, hNum, ok, hE, ⟨hd, hb⟩, q⟩ := h
  obtain ⟨b, v, t, rfl⟩ := qn_of hb
  obtain ⟨dxr, hR⟩ := id RO.rd
  have hu := hr.units
  refine ⟨_, pss_cons (ps_set (i := 4) sc_Reading_bound_flag.nd rfl (.inl rfl) (pe_non)) (pss_cons (ps_if (pt_truth (pe_fld (pv 1) rfl) (by intro _; rfl)) (pss_one (ps_set (i := 4) sc_Reading_bound_flag.nd rfl (.inl rfl) (pe_ifExp (pt_cmpR op_eq (pe_ix ix_tup (pe_fld (pv 1) rfl) (pe_int) (fun _ _ => rfl)) (pe_str) (nomark _)) (pv 2) (pv 3)))) (pss_nil)) (pss_cons (ps_set (i := 5) sc_Reading_bound_flag.nd rfl (.inl rfl) (pe_tup (pa_cons (pe_fld (pv 1) rfl) (pa_cons (pv 4) pa_nil)))) (pss_cons (ps_if (pt_cmpR (op_toldNI hu) (pv 5) (pe_fld (pv 0) rfl) (by rfl)) (pss_one (ps_toldPut hu (pe_fld (pv 0) rfl) (pv 5) (pe_me c_searched TR.cl hr (pv 0) (pa_cons (pv 1) (pa_cons (pv 2) (pa_cons (pv 3) pa_nil)))) rfl)) (pss_nil)) (pss_one (ps_ret (pe_toldGet hu (pe_fld (pv 0) rfl) (pv 5) (fun _ _ => rfl))))))), ?_⟩
  obtain ⟨p, ⟨dy, nm, pa, fr, hn, h1, h2, h3⟩, hN1⟩ := qn_node hN
  walk_at "rd"
  refine ⟨_, _, _, _, _, rfl, eG _ _ hn, TN.cl, TN.nf, fN_f _ _ _ _ _, ?_⟩
  refine ⟨_, .inr (.inl ⟨_, SqT.of (eG _ _ h3), rfl⟩), ?_⟩
  have hnum : Bs[k + t.bs.length]? = some (qn b v t) := hNum t.bs.length _ (by rw [qn_bs]; simp)
  have hval : ∀ a c : Nat, (∀ i, spot (qn b v t) x y = some i → ((qn b v t).fr .x = true → a = i) ∧ ((qn b v t).fr .x = false → (qn b v t).fr .y = true → c = i)) → ev W (qn b v t) a c = ev W (qn b v t) (gx x) (gx y) := fun a c hac => by
    refine ev_free W _ _ _ _ _ (fun hx => ?_) (fun hy => ?_)
    · have h1 := hE.1 hx
      have e : spot (qn b v t) x y = x := by unfold spot; rw [if_pos hx]
      cases x with
      | none => cases h1
      | some i => exact (hac i e).1 hx
    · have h1 := hE.2.1 hy
      have hx : (qn b v t).fr .x = false := by
        cases q : (qn b v t).fr .x with
        | false => rfl
        | true =>
          rw [qn_fr] at q hy
          cases v <;> simp at q hy
      have e : spot (qn b v t) x y = y := by unfold spot; rw [if_neg (by rw [hx]; decide), if_pos hy]
      cases y with
      | none => cases h1
      | some i => exact (hac i e).2 hx hy
  have hspl : ∀ i, spot (qn b v t) x y = some i → i < W.n := fun i e => by
    unfold spot at e
    split at e
    · exact hE.2.2.1 i e
    · split at e
      · exact hE.2.2.2 i e
      · cases e
  have hlb : (qn b v t).bs.length = t.bs.length + 1 := by rw [qn_bs]; simp
  have hltB : k + t.bs.length < Bs.length := (List.getElem?_eq_some_iff.mp hnum).1
  rcases qn_fvN b v t x y with ⟨u, hu1, hu2, hu3, hu4⟩ | ⟨hu1, hu2, hu3⟩
  · rw [hu1]
    walk_at "rd"
    refine ⟨_, _, _, _, _, rfl, eG _ _ hn, TN.cl, TN.nf, fN_f _ _ _ _ _, ?_⟩
    walk_at "rd"
    refine ⟨_, _, _, _, rfl, rfl, SqT.of (by rw [eG _ _ h3, hu1]), atI_nat (j := 0) rfl, ?_⟩
    cases u with
    | x =>
      walk_at "rd"
      refine ⟨_, _, _, _, _, rfl, eG _ _ hn, TN.cl, TN.nu, fN_u _ _ _ _ _, ?_⟩
      walk_at "rd"
      refine ⟨sz (by simp), fun p2 hp2 => ?_⟩
      have eP : Same H (upd H p2 (.tup [.int (k + t.bs.length : Nat), spV x])) := Same.new (Same.refl _) hp2
      have hK : (upd H p2 (.tup [.int (k + t.bs.length : Nat), spV x])) p2 = some (.tup (kt (k + t.bs.length, spot (qn b v t) x y))) := by rw [upd_same, hu2]; rfl
      have hTP := hT.same eP
      have eGP := eG.trans eP
      revert eP hK hTP eGP
      generalize (upd H p2 (.tup [.int (k + t.bs.length : Nat), spV x])) = HP
      intro eP hK hTP eGP
      walk_at "rd"
      refine ⟨_, _, _, _, _, rfl, eGP _ _ hR, TR.cl, TR.nt, fR_t _ _, ?_⟩
      refine ⟨_, _, _, xs, rfl, rfl, hK, hTP, ?_⟩
      cases hl : lookT xs (k + t.bs.length, spot (qn b v t) x y) with
      | some v0 =>
        walk_at "rd"
        refine ⟨_, _, _, _, _, rfl, eGP _ _ hR, TR.cl, TR.nt, fR_t _ _, ?_⟩
        walk_at "rd"
        refine ⟨_, _, _, xs, v0, rfl, rfl, hK, hTP, hl, ?_⟩
        obtain ⟨s', hs1, hs2⟩ := hI.val _ _ hl
        rw [hnum] at hs1
        cases hs1
        have hv0 := hs2 (gx x) (gx y) fun i e => by
          have e : spot (qn b v t) x y = some i := e
          unfold spot at e
          refine ⟨fun hx => ?_, fun hx hy => ?_⟩
          · rw [if_pos hx] at e; rw [e]; rfl
          · rw [if_neg (by rw [hx]; decide), if_pos hy] at e; rw [e]; rfl
        rw [← hv0]
        exact q xs HP (fun c u h => eP _ _ (hide_same _ _ h)) hTP hI (fun _ _ => rfl)
      | none =>
        walk_at "rd"
        refine ⟨_, _, _, rfl, eGP _ _ hR, fR_search _ _, ?_⟩
        walk_at "rd"
        refine ⟨G, r, a, wr, dr, W, Bs, _, k, x, y, xs, rfl, RO, eGP, hTP, hI, hN, hNum, ok, hE, ⟨hd, hb⟩, fun xs1 H1 e1 hT1 hI1 hk1 => ?_⟩
        have eG1 : Same G H1 := fun c u h => e1 _ _ (hide_base eGP RO.dr0 _ _ h)
        have hpd : p2 ≠ dr := fun z => by
          have h1 := hTP.1
          rw [← z, hK] at h1
          cases h1
        have hK1 : H1 p2 = some (.tup (kt (k + t.bs.length, spot (qn b v t) x y))) := e1 _ _ (by rw [hide_ne hpd]; exact hK)
        have hl1 : lookT xs1 (k + t.bs.length, spot (qn b v t) x y) = none := by rw [hk1 _ (.inr (by rw [hlb]; show k + (t.bs.length + 1) ≤ k + t.bs.length + 1; omega))]; exact hl
        walk_at "rd"
        refine ⟨_, _, _, _, _, rfl, eG1 _ _ hR, TR.cl, TR.nt, fR_t _ _, ?_⟩
        walk_at "rd"
        refine ⟨_, _, _, xs1, _, rfl, rfl, rfl, hK1, hT1, hl1, szl ?_, ?_⟩
        · have := hI1.len
          exact Nat.le_trans this (Nat.le_trans (Nat.mul_le_mul RO.bl (Nat.succ_le_succ RO.hi)) (by decide))
        have hI2 : TInv W Bs (xs1 ++ [((k + t.bs.length, spot (qn b v t) x y), p2, ev W (qn b v t) (gx x) (gx y))]) := hI1.put hl1 hltB hspl ⟨_, hnum, hval⟩
        have hT2 : ToldAt P w (upd H1 dr (ToldO P w dr (xs1 ++ [((k + t.bs.length, spot (qn b v t) x y), p2, ev W (qn b v t) (gx x) (gx y))]))) dr (xs1 ++ [((k + t.bs.length, spot (qn b v t) x y), p2, ev W (qn b v t) (gx x) (gx y))]) := by
          refine ⟨upd_same, fun z hz => ?_⟩
          have hz2 : H1 z.2.1 = some (.tup (kt z.1)) := by
            rcases List.mem_append.mp hz with hz | hz
            · exact hT1.2 z hz
            · rw [List.mem_singleton.mp hz]
              exact hK1
          rw [upd_ne]
          · exact hz2
          · intro e
            rw [e, hT1.1] at hz2
            cases hz2
        have eG2 : Same G (upd H1 dr (ToldO P w dr (xs1 ++ [((k + t.bs.length, spot (qn b v t) x y), p2, ev W (qn b v t) (gx x) (gx y))]))) := Same.mut eG1 RO.dr0
        walk_at "rd"
        refine ⟨_, _, _, _, _, rfl, eG2 _ _ hR, TR.cl, TR.nt, fR_t _ _, ?_⟩
        walk_at "rd"
        refine ⟨_, _, _, _, ev W (qn b v t) (gx x) (gx y), rfl, rfl, by rw [upd_ne hpd]; exact hK1, hT2, by rw [lookT_snoc _ _ _ _ _ hl1, if_pos rfl], ?_⟩
        refine q _ _ ?_ hT2 hI2 fun key hkey => ?_
        · intro c u h
          have h2 := hide_mono eP _ _ h
          obtain ⟨n1, _⟩ := hide_some h
          rw [upd_ne n1]
          exact e1 _ _ h2
        · rw [lookT_snoc _ _ _ _ _ hl1, if_neg (fun e => by
            have e1 : key.1 = k + t.bs.length := by rw [e]
            rw [hlb] at hkey
            omega)]
          exact hk1 key (by omega)
    | y =>
      walk_at "rd"
      refine ⟨_, _, _, _, _, rfl, eG _ _ hn, TN.cl, TN.nu, fN_u _ _ _ _ _, ?_⟩
      walk_at "rd"
      refine ⟨sz (by simp), fun p2 hp2 => ?_⟩
      have eP : Same H (upd H p2 (.tup [.int (k + t.bs.length : Nat), spV y])) := Same.new (Same.refl _) hp2
      have hK : (upd H p2 (.tup [.int (k + t.bs.length : Nat), spV y])) p2 = some (.tup (kt (k + t.bs.length, spot (qn b v t) x y))) := by rw [upd_same, hu2]; rfl
      have hTP := hT.same eP
      have eGP := eG.trans eP
      revert eP hK hTP eGP
      generalize (upd H p2 (.tup [.int (k + t.bs.length : Nat), spV y])) = HP
      intro eP hK hTP eGP
      walk_at "rd"
      refine ⟨_, _, _, _, _, rfl, eGP _ _ hR, TR.cl, TR.nt, fR_t _ _, ?_⟩
      refine ⟨_, _, _, xs, rfl, rfl, hK, hTP, ?_⟩
      cases hl : lookT xs (k + t.bs.length, spot (qn b v t) x y) with
      | some v0 =>
        walk_at "rd"
        refine ⟨_, _, _, _, _, rfl, eGP _ _ hR, TR.cl, TR.nt, fR_t _ _, ?_⟩
        walk_at "rd"
        refine ⟨_, _, _, xs, v0, rfl, rfl, hK, hTP, hl, ?_⟩
        obtain ⟨s', hs1, hs2⟩ := hI.val _ _ hl
        rw [hnum] at hs1
        cases hs1
        have hv0 := hs2 (gx x) (gx y) fun i e => by
          have e : spot (qn b v t) x y = some i := e
          unfold spot at e
          refine ⟨fun hx => ?_, fun hx hy => ?_⟩
          · rw [if_pos hx] at e; rw [e]; rfl
          · rw [if_neg (by rw [hx]; decide), if_pos hy] at e; rw [e]; rfl
        rw [← hv0]
        exact q xs HP (fun c u h => eP _ _ (hide_same _ _ h)) hTP hI (fun _ _ => rfl)
      | none =>
        walk_at "rd"
        refine ⟨_, _, _, rfl, eGP _ _ hR, fR_search _ _, ?_⟩
        walk_at "rd"
        refine ⟨G, r, a, wr, dr, W, Bs, _, k, x, y, xs, rfl, RO, eGP, hTP, hI, hN, hNum, ok, hE, ⟨hd, hb⟩, fun xs1 H1 e1 hT1 hI1 hk1 => ?_⟩
        have eG1 : Same G H1 := fun c u h => e1 _ _ (hide_base eGP RO.dr0 _ _ h)
        have hpd : p2 ≠ dr := fun z => by
          have h1 := hTP.1
          rw [← z, hK] at h1
          cases h1
        have hK1 : H1 p2 = some (.tup (kt (k + t.bs.length, spot (qn b v t) x y))) := e1 _ _ (by rw [hide_ne hpd]; exact hK)
        have hl1 : lookT xs1 (k + t.bs.length, spot (qn b v t) x y) = none := by rw [hk1 _ (.inr (by rw [hlb]; show k + (t.bs.length + 1) ≤ k + t.bs.length + 1; omega))]; exact hl
        walk_at "rd"
        refine ⟨_, _, _, _, _, rfl, eG1 _ _ hR, TR.cl, TR.nt, fR_t _ _, ?_⟩
        walk_at "rd"
        refine ⟨_, _, _, xs1, _, rfl, rfl, rfl, hK1, hT1, hl1, szl ?_, ?_⟩
        · have := hI1.len
          exact Nat.le_trans this (Nat.le_trans (Nat.mul_le_mul RO.bl (Nat.succ_le_succ RO.hi)) (by decide))
        have hI2 : TInv W Bs (xs1 ++ [((k + t.bs.length, spot (qn b v t) x y), p2, ev W (qn b v t) (gx x) (gx y))]) := hI1.put hl1 hltB hspl ⟨_, hnum, hval⟩
        have hT2 : ToldAt P w (upd H1 dr (ToldO P w dr (xs1 ++ [((k + t.bs.length, spot (qn b v t) x y), p2, ev W (qn b v t) (gx x) (gx y))]))) dr (xs1 ++ [((k + t.bs.length, spot (qn b v t) x y), p2, ev W (qn b v t) (gx x) (gx y))]) := by
          refine ⟨upd_same, fun z hz => ?_⟩
          have hz2 : H1 z.2.1 = some (.tup (kt z.1)) := by
            rcases List.mem_append.mp hz with hz | hz
            · exact hT1.2 z hz
            · rw [List.mem_singleton.mp hz]
              exact hK1
          rw [upd_ne]
          · exact hz2
          · intro e
            rw [e, hT1.1] at hz2
            cases hz2
        have eG2 : Same G (upd H1 dr (ToldO P w dr (xs1 ++ [((k + t.bs.length, spot (qn b v t) x y), p2, ev W (qn b v t) (gx x) (gx y))]))) := Same.mut eG1 RO.dr0
        walk_at "rd"
        refine ⟨_, _, _, _, _, rfl, eG2 _ _ hR, TR.cl, TR.nt, fR_t _ _, ?_⟩
        walk_at "rd"
        refine ⟨_, _, _, _, ev W (qn b v t) (gx x) (gx y), rfl, rfl, by rw [upd_ne hpd]; exact hK1, hT2, by rw [lookT_snoc _ _ _ _ _ hl1, if_pos rfl], ?_⟩
        refine q _ _ ?_ hT2 hI2 fun key hkey => ?_
        · intro c u h
          have h2 := hide_mono eP _ _ h
          obtain ⟨n1, _⟩ := hide_some h
          rw [upd_ne n1]
          exact e1 _ _ h2
        · rw [lookT_snoc _ _ _ _ _ hl1, if_neg (fun e => by
            have e1 : key.1 = k + t.bs.length := by rw [e]
            rw [hlb] at hkey
            omega)]
          exact hk1 key (by omega)
  · rw [hu1]
    walk_at "rd"
    refine ⟨_, _, _, _, _, rfl, eG _ _ hn, TN.cl, TN.nu, fN_u _ _ _ _ _, ?_⟩
    walk_at "rd"
    refine ⟨sz (by simp), fun p2 hp2 => ?_⟩
    have eP : Same H (upd H p2 (.tup [.int (k + t.bs.length : Nat), .non])) := Same.new (Same.refl _) hp2
    have hK : (upd H p2 (.tup [.int (k + t.bs.length : Nat), .non])) p2 = some (.tup (kt (k + t.bs.length, spot (qn b v t) x y))) := by rw [upd_same, hu2]; rfl
    have hTP := hT.same eP
    have eGP := eG.trans eP
    revert eP hK hTP eGP
    generalize (upd H p2 (.tup [.int (k + t.bs.length : Nat), .non])) = HP
    intro eP hK hTP eGP
    walk_at "rd"
    refine ⟨_, _, _, _, _, rfl, eGP _ _ hR, TR.cl, TR.nt, fR_t _ _, ?_⟩
    refine ⟨_, _, _, xs, rfl, rfl, hK, hTP, ?_⟩
    cases hl : lookT xs (k + t.bs.length, spot (qn b v t) x y) with
    | some v0 =>
      walk_at "rd"
      refine ⟨_, _, _, _, _, rfl, eGP _ _ hR, TR.cl, TR.nt, fR_t _ _, ?_⟩
      walk_at "rd"
      refine ⟨_, _, _, xs, v0, rfl, rfl, hK, hTP, hl, ?_⟩
      obtain ⟨s', hs1, hs2⟩ := hI.val _ _ hl
      rw [hnum] at hs1
      cases hs1
      have hv0 := hs2 (gx x) (gx y) fun i e => by
        have e : spot (qn b v t) x y = some i := e
        unfold spot at e
        refine ⟨fun hx => ?_, fun hx hy => ?_⟩
        · rw [if_pos hx] at e; rw [e]; rfl
        · rw [if_neg (by rw [hx]; decide), if_pos hy] at e; rw [e]; rfl
      rw [← hv0]
      exact q xs HP (fun c u h => eP _ _ (hide_same _ _ h)) hTP hI (fun _ _ => rfl)
    | none =>
      walk_at "rd"
      refine ⟨_, _, _, rfl, eGP _ _ hR, fR_search _ _, ?_⟩
      walk_at "rd"
      refine ⟨G, r, a, wr, dr, W, Bs, _, k, x, y, xs, rfl, RO, eGP, hTP, hI, hN, hNum, ok, hE, ⟨hd, hb⟩, fun xs1 H1 e1 hT1 hI1 hk1 => ?_⟩
      have eG1 : Same G H1 := fun c u h => e1 _ _ (hide_base eGP RO.dr0 _ _ h)
      have hpd : p2 ≠ dr := fun z => by
        have h1 := hTP.1
        rw [← z, hK] at h1
        cases h1
      have hK1 : H1 p2 = some (.tup (kt (k + t.bs.length, spot (qn b v t) x y))) := e1 _ _ (by rw [hide_ne hpd]; exact hK)
      have hl1 : lookT xs1 (k + t.bs.length, spot (qn b v t) x y) = none := by rw [hk1 _ (.inr (by rw [hlb]; show k + (t.bs.length + 1) ≤ k + t.bs.length + 1; omega))]; exact hl
      walk_at "rd"
      refine ⟨_, _, _, _, _, rfl, eG1 _ _ hR, TR.cl, TR.nt, fR_t _ _, ?_⟩
      walk_at "rd"
      refine ⟨_, _, _, xs1, _, rfl, rfl, rfl, hK1, hT1, hl1, szl ?_, ?_⟩
      · have := hI1.len
        exact Nat.le_trans this (Nat.le_trans (Nat.mul_le_mul RO.bl (Nat.succ_le_succ RO.hi)) (by decide))
      have hI2 : TInv W Bs (xs1 ++ [((k + t.bs.length, spot (qn b v t) x y), p2, ev W (qn b v t) (gx x) (gx y))]) := hI1.put hl1 hltB hspl ⟨_, hnum, hval⟩
      have hT2 : ToldAt P w (upd H1 dr (ToldO P w dr (xs1 ++ [((k + t.bs.length, spot (qn b v t) x y), p2, ev W (qn b v t) (gx x) (gx y))]))) dr (xs1 ++ [((k + t.bs.length, spot (qn b v t) x y), p2, ev W (qn b v t) (gx x) (gx y))]) := by
        refine ⟨upd_same, fun z hz => ?_⟩
        have hz2 : H1 z.2.1 = some (.tup (kt z.1)) := by
          rcases List.mem_append.mp hz with hz | hz
          · exact hT1.2 z hz
          · rw [List.mem_singleton.mp hz]
            exact hK1
        rw [upd_ne]
        · exact hz2
        · intro e
          rw [e, hT1.1] at hz2
          cases hz2
      have eG2 : Same G (upd H1 dr (ToldO P w dr (xs1 ++ [((k + t.bs.length, spot (qn b v t) x y), p2, ev W (qn b v t) (gx x) (gx y))]))) := Same.mut eG1 RO.dr0
      walk_at "rd"
      refine ⟨_, _, _, _, _, rfl, eG2 _ _ hR, TR.cl, TR.nt, fR_t _ _, ?_⟩
      walk_at "rd"
      refine ⟨_, _, _, _, ev W (qn b v t) (gx x) (gx y), rfl, rfl, by rw [upd_ne hpd]; exact hK1, hT2, by rw [lookT_snoc _ _ _ _ _ hl1, if_pos rfl], ?_⟩
      refine q _ _ ?_ hT2 hI2 fun key hkey => ?_
      · intro c u h
        have h2 := hide_mono eP _ _ h
        obtain ⟨n1, _⟩ := hide_some h
        rw [upd_ne n1]
        exact e1 _ _ h2
      · rw [lookT_snoc _ _ _ _ _ hl1, if_neg (fun e => by
          have e1 : key.1 = k + t.bs.length := by rw [e]
          rw [hlb] at hkey
          omega)]
        exact hk1 key (by omega)
end
end K48
namespace K48
open PySem PySem.Spec PyProof.Rows L2
local macro_rules | `(tactic| walk_at "rd") => `(tactic| repeat (first | refine ⟨_, rfl, ?_⟩ | refine ⟨_, _, rfl, rfl, ?_⟩ | refine ⟨rfl, ?_⟩ | refine iteTk (by decide +kernel) ?_ | refine iteFk (by decide +kernel) ?_))
local macro_rules | `(tactic| walk_at "rdr") => `(tactic| repeat (first | refine ⟨_, rfl, ?_⟩ | refine ⟨_, _, rfl, rfl, ?_⟩ | refine ⟨rfl, ?_⟩ | refine iteTk (by first | decide +kernel | rfl) ?_ | refine iteFk (by first | decide +kernel | rfl) ?_))
local macro_rules | `(tactic| walk_at "tyn") => `(tactic| first | exact .int _ | exact .bl _ | exact .str _ | exact .tup (by assumption) | exact .lst (by assumption) | exact .dK (by assumption))
local macro_rules | `(tactic| walk_at "isT") => `(tactic| refine ⟨_, _, _, _, true, rfl, .ty _, TyN.x (by walk_at "tyn"), kit_ty (by decide +kernel), ?_⟩)
local macro_rules | `(tactic| walk_at "isF") => `(tactic| refine ⟨_, _, _, _, false, rfl, .ty _, TyN.x (by walk_at "tyn"), kit_ty (by decide +kernel), ?_⟩)
local macro_rules | `(tactic| walk_at "nz") => `(tactic| first | refine nzG (by simp only [List.set_cons_succ, List.set_cons_zero]; rfl) ?_ | refine reS (by simp only [List.set_cons_succ, List.set_cons_zero]; rfl) ?_)
section
variable {P : Program} {w : World} {K : PySem.W.Frag} {mg : Str → Option Value} {base : Heap} {cT cW cN cR : Addr}
theorem ok_flagN (B : Blt mg) (TN : ClN K cN) (TR : ClR K cR) (TW : ClW K cW) (Df : Mth K cR "flag" "Reading.flag" s_Reading_flag) (Dt : Mth K cR "test" "Reading.test" s_Reading_test) (Db : Mth K cR "bound_flag" "Reading.bound_flag" s_Reading_bound_flag) (Ds : Mth K cR "searched" "Reading.searched" s_Reading_searched)
    (c_has : MethOk P w K mg base cW 1 "has" P_World_has (spHas cT cW)) (c_leads : MethOk P w K mg base cW 1 "leads" P_World_leads (spLeads cT cW)) :
    ∀ n, MethOk P w K mg base cR (4 * n + 3) "flag" P_Reading_flag (spFlag P w cT cW cN cR n) := by
  intro n
  induction n with
  | zero => exact methOk_none Df bd_Reading_flag fun vs H Q E ⟨G, r, a, wr, dr, W, Bs, s, k, x, y, xs, _, _, _, _, _, _, _, _, _, h, _⟩ => by have := s.deep_pos; omega
  | succ n ih => exact (ok_flag TN TR Df ih (ok_bound B TN TR Db (ok_searched B TN TR TW Ds ih)) (ok_test TN TR TW B Dt c_has c_leads)).mono (by omega)
def spRInit (P : Program) (w : World) (cR : Addr) : Sp := fun vs H Q _ => ∃ (x dx wr : Addr), vs = [.ref x, .ref wr] ∧ H x = some (.ins cR dx []) ∧
  ∀ d H', Same (hide x H) H' → H' x = some (.ins cR dx (fR wr d)) → H d = none → ToldAt P w H' d [] → Q .non H'
theorem ok_Reading_init (TR : ClR K cR) (D : Mth K cR "__init__" "Reading.__init__" s_Reading__init) : MethOk P w K mg base cR 1 "__init__" P_Reading__init (spRInit P w cR) := by
  refine methOk D sc_Reading__init bd_Reading__init (fun vs H Q E h => ?_) (fun f cdv A outer st H vs Q E hr h => ?_)
  · obtain ⟨x, dx, wr, rfl, _⟩ := h
    rfl
  obtain ⟨x, dx, wr, rfl, hx, q⟩ := h
  refine ⟨_, pss_cons (ps_fld (pv 0) (pv 1) rfl) (pss_one (ps_fld (pv 0) (pe_toldNew) rfl)), ?_⟩
  walk_at "rd"
  refine ⟨_, _, _, _, rfl, hx, TR.cl, TR.nw, by decide, ?_⟩
  intro d hd0
  have hdx : d ≠ x := fun z => by rw [z, upd_same] at hd0; cases hd0
  have hdH : H d = none := by
    rw [upd_ne hdx] at hd0
    exact hd0
  walk_at "rd"
  refine ⟨_, _, _, _, rfl, by rw [upd_ne (Ne.symm hdx), upd_same], TR.cl, TR.nt, fR_l1 _, ?_⟩
  rw [fR_put]
  refine q d _ (fun c u h => ?_) upd_same hdH ⟨by rw [upd_ne hdx, upd_same]; rfl, (fun z hz => by cases hz)⟩
  obtain ⟨n1, h⟩ := hide_some h
  rw [upd_ne n1, upd_ne (ne_of_none h hdH), upd_ne n1]
  exact h
def spIsHeld (cT cW : Addr) : Sp := fun vs H Q _ => ∃ (G : Hp) (wr a : Addr) (W : Wd) (s : Say), vs = [.ref wr, .ref a] ∧ Same G H ∧ WorldAt cT cW G wr W ∧ W.Ok ∧ Clean W.T ∧ SayAt G s a ∧ s.okT W.T.marks W.T.ties ∧ s.closed ∧ s.deep ≤ 20 ∧ s.size ≤ 100 ∧ ∀ H', Same H H' → Q (.bl (ev W s 0 0)) H'
theorem ToldAt.ne {H : Hp} {d : Addr} {xs : Told} (h : ToldAt P w H d xs) {b : Addr} {o : HO} (hb : H b = some o) (ho : ∀ φ, o ≠ .ext φ) : b ≠ d := fun z => by
  rw [z, h.1] at hb
  exact ho _ (Option.some.inj hb).symm
/-- a reading just made -/
theorem read_fresh {cR : Addr} {H H1 : Hp} {x dx : Addr} (hx0 : H x = none) (hd0 : H dx = none) (hne : dx ≠ x) (e : Same (hide x (upd (upd H dx (.own x)) x (.ins cR dx []))) H1) : Same H H1 := fun c u h => by
  have n1 := ne_of_none h hx0
  refine e _ _ ?_
  rw [hide_ne n1, upd_ne n1, upd_ne (ne_of_none h hd0)]
  exact h
theorem numOk_self (s : Say) : NumOk s.bs 0 s := fun i b h => by rw [Nat.zero_add]; exact h
theorem tinv_nil (W : Wd) (Bs : List Say) : TInv W Bs [] := ⟨(fun k v h => by cases h), List.nodup_nil, (fun k h => by cases h)⟩
theorem ok_is_held (D : Def K mg "is_held" s_is_held) (TR : ClR K cR) (c_Reading : MakeOk P w K mg base cR 1 "Reading" P_Reading__init (spRInit P w cR)) (c_node_of : CallOk P w K mg base 44 "node_of" P_node_of (spNodeOf cN 20)) (c_flag : MethOk P w K mg base cR 83 "flag" P_Reading_flag (spFlag P w cT cW cN cR 20)) :
    CallOk P w K mg base 84 "is_held" P_is_held (spIsHeld cT cW) := by
  refine callOk D sc_is_held bd_is_held (fun vs H Q E h => ?_) (fun f cdv A outer st H vs Q E hr h => ?_)
  · obtain ⟨G, wr, a, W, s, rfl, _⟩ := h
    rfl
  obtain ⟨G, wr, a, W, s, rfl, eG, hW, ok, hcl, hS, okT, hc, hd, hz, q⟩ := h
  have hr2 : Room 2 _ := hr.mono (by decide)
  have hr44 : Room 44 _ := hr.mono (by decide)
  refine ⟨_, pss_one (ps_ret (pe_me c_flag TR.cl hr (pe_mk c_Reading hr2 (by rfl) (pa_cons (pv 0) pa_nil)) (pa_cons (pe_cl c_node_of hr44 (by rfl) (pa_cons (pv 1) (pa_cons (pe_lst (pa_nil)) pa_nil))) (pa_cons (pe_non) (pa_cons (pe_non) pa_nil))))), ?_⟩
  walk_at "rd"
  refine fun r dxr hr0 hdx0 hne => ?_
  refine ⟨r, dxr, wr, rfl, upd_same, fun d H1 e1 hR1 hd0 hT1 => ?_⟩
  have e2 : Same H H1 := read_fresh hr0 hdx0 hne e1
  refine ⟨rfl, ?_⟩
  refine ⟨_, _, _, rfl, hR1, fR_flag _ _, ?_⟩
  walk_at "rd"
  refine ⟨sz (by simp), fun l hl0 => ?_⟩
  have e3 : Same H1 (upd H1 l (.lst [])) := Same.new (Same.refl _) hl0
  have hGl : G l = none := eG.free (e2.free hl0)
  refine ⟨G, a, l, s, [], rfl, (eG.trans e2).trans e3, hGl, upd_same, hS, hd, by decide, by have := s.bs_len; simp; omega, fun p ms H2 e4 _ hN _ => ?_⟩
  have hT3 := hT1.same e3
  have hdl : d ≠ l := fun z => by
    have h1 := hT3.1
    rw [z, upd_same] at h1
    cases h1
  have hT4 : ToldAt P w H2 d [] := ⟨e4 _ _ (by rw [hide_ne hdl]; exact hT3.1), (fun z hz => by cases hz)⟩
  have e5 : Same H1 H2 := fun c u h => e4 _ _ (by rw [hide_ne (ne_of_none h hl0)]; exact e3 _ _ h)
  have hdG : G d = none := by
    cases z : G d with
    | none => rfl
    | some u =>
      have hdr : d ≠ r := fun y => by
        have h1 := hT1.1
        rw [y, hR1] at h1
        cases h1
      have h1 := eG _ _ z
      rw [upd_ne hdr] at hd0
      by_cases y : d = dxr
      · rw [y] at h1
        rw [hdx0] at h1
        cases h1
      · rw [upd_ne y] at hd0
        rw [hd0] at h1
        cases h1
  have eG2 : Same G (hide d H2) := hide_base ((eG.trans e2).trans e5) hdG
  walk_at "rd"
  refine ⟨hide d H2, r, p, wr, d, W, s.bs, s, 0, none, none, [], rfl, ⟨⟨dxr, by rw [hide_ne (hT4.ne (e5 _ _ hR1) (fun _ z => by cases z))]; exact e5 _ _ hR1⟩, hW.mono eG2, hide_at, ok.ndm, ok.ndt, hcl, ok.hi, by have := s.bs_len; omega⟩, hide_same, hT4, tinv_nil W _, ?_, numOk_self s, okT, ⟨(fun h => by rw [hc.1] at h; cases h), (fun h => by rw [hc.2] at h; cases h), (fun i h => by cases h), (fun i h => by cases h)⟩, hd, fun xs' H' e6 _ _ _ => ?_⟩
  · refine NodeAt.mono (fun c u h => ?_) hN
    obtain ⟨hc', h⟩ := nwL_some h
    have hc' : upd H1 l (.lst []) c = none := hc'.elim id (fun z => by cases z)
    have ncd : c ≠ d := fun z => by rw [z, hT3.1] at hc'; cases hc'
    rw [hide_ne ncd]
    exact h
  · refine q H' (fun c u h => e6 _ _ ?_)
    have ncd : c ≠ d := fun z => by
      have hdr : d ≠ r := fun y => by
        have h1 := hT1.1
        rw [y, hR1] at h1
        cases h1
      rw [z] at h
      rw [upd_ne hdr] at hd0
      by_cases y : d = dxr
      · rw [y, hdx0] at h
        cases h
      · rw [upd_ne y, h] at hd0
        cases hd0
    rw [hide_ne ncd]
    exact e5 _ _ (e2 _ _ h)
def spHolds (cT cW : Addr) : Sp := spIsHeld cT cW
theorem ok_holds (TW : ClW K cW) (D : Def K mg "holds" s_holds) (c_check_closed : CallOk P w K mg base 22 "check_closed" P_check_closed (spCheckClosed cT)) (c_is_held : CallOk P w K mg base 84 "is_held" P_is_held (spIsHeld cT cW)) : CallOk P w K mg base 85 "holds" P_holds (spHolds cT cW) := by
  refine callOk D sc_holds bd_holds (fun vs H Q E h => ?_) (fun f cdv A outer st H vs Q E hr h => ?_)
  · obtain ⟨G, wr, a, W, s, rfl, _⟩ := h
    rfl
  obtain ⟨G, wr, a, W, s, rfl, eG, hW, ok, hcl, hS, okT, hc, hd, hz, q⟩ := h
  have hr22 : Room 22 _ := hr.mono (by decide)
  obtain ⟨dw, at_, am, ati, fm, ft, hI, hT, _⟩ := id hW
  refine ⟨_, pss_cons (ps_expr (pe_cl c_check_closed hr22 (by rfl) (pa_cons (pe_fld (pv 0) rfl) (pa_cons (pv 1) pa_nil)))) (pss_one (ps_ret (pe_cl c_is_held hr (by rfl) (pa_cons (pv 0) (pa_cons (pv 1) pa_nil))))), ?_⟩
  walk_at "rd"
  refine ⟨_, _, _, _, _, rfl, eG _ _ hI, TW.cl, TW.nT, fW_T _ _ _ _, ?_⟩
  walk_at "rd"
  refine ⟨G, at_, a, W.T, s, rfl, eG, hT, hS, okT, hz, hd, hc, fun H1 e1 => ?_⟩
  walk_at "rd"
  exact ⟨G, wr, a, W, s, rfl, eG.trans e1, hW, ok, hcl, hS, okT, hc, hd, hz, fun H2 e2 => q _ (e1.trans e2)⟩
end
end K48
namespace K48
open PySem PySem.Spec PyProof.Rows L2
local macro_rules | `(tactic| walk_at "rd") => `(tactic| repeat (first | refine ⟨_, rfl, ?_⟩ | refine ⟨_, _, rfl, rfl, ?_⟩ | refine ⟨rfl, ?_⟩ | refine iteTk (by decide +kernel) ?_ | refine iteFk (by decide +kernel) ?_))
local macro_rules | `(tactic| walk_at "rdr") => `(tactic| repeat (first | refine ⟨_, rfl, ?_⟩ | refine ⟨_, _, rfl, rfl, ?_⟩ | refine ⟨rfl, ?_⟩ | refine iteTk (by first | decide +kernel | rfl) ?_ | refine iteFk (by first | decide +kernel | rfl) ?_))
local macro_rules | `(tactic| walk_at "tyn") => `(tactic| first | exact .int _ | exact .bl _ | exact .str _ | exact .tup (by assumption) | exact .lst (by assumption) | exact .dK (by assumption))
local macro_rules | `(tactic| walk_at "isT") => `(tactic| refine ⟨_, _, _, _, true, rfl, .ty _, TyN.x (by walk_at "tyn"), kit_ty (by decide +kernel), ?_⟩)
local macro_rules | `(tactic| walk_at "isF") => `(tactic| refine ⟨_, _, _, _, false, rfl, .ty _, TyN.x (by walk_at "tyn"), kit_ty (by decide +kernel), ?_⟩)
local macro_rules | `(tactic| walk_at "nz") => `(tactic| first | refine nzG (by simp only [List.set_cons_succ, List.set_cons_zero]; rfl) ?_ | refine reS (by simp only [List.set_cons_succ, List.set_cons_zero]; rfl) ?_)
theorem bs_num : ∀ (s : Say) (i : Nat) (b : Say), s.bs[i]? = some b → ∀ j, j + b.bs.length = i + 1 → NumOk s.bs j b
  | .not s, i, b, h, j, e => bs_num s i b h j e
  | .and s t, i, b, h, j, e => by
    have e0 : (Say.and s t).bs = s.bs ++ t.bs := rfl
    rw [e0] at h ⊢
    by_cases hi : i < s.bs.length
    · rw [List.getElem?_append_left hi] at h
      intro x y hx
      have := bs_num s i b h j e x y hx
      rw [List.getElem?_append_left (List.getElem?_eq_some_iff.mp this).1]
      exact this
    · rw [List.getElem?_append_right (by omega)] at h
      have hb : b.bs.length ≤ (i - s.bs.length) + 1 := bs_end t _ b h
      intro x y hx
      have := bs_num t (i - s.bs.length) b h (j - s.bs.length) (by omega) x y hx
      rw [List.getElem?_append_right (by omega), show j + x - s.bs.length = j - s.bs.length + x by omega]
      exact this
  | .or s t, i, b, h, j, e => by
    have e0 : (Say.or s t).bs = s.bs ++ t.bs := rfl
    rw [e0] at h ⊢
    by_cases hi : i < s.bs.length
    · rw [List.getElem?_append_left hi] at h
      intro x y hx
      have := bs_num s i b h j e x y hx
      rw [List.getElem?_append_left (List.getElem?_eq_some_iff.mp this).1]
      exact this
    · rw [List.getElem?_append_right (by omega)] at h
      have hb : b.bs.length ≤ (i - s.bs.length) + 1 := bs_end t _ b h
      intro x y hx
      have := bs_num t (i - s.bs.length) b h (j - s.bs.length) (by omega) x y hx
      rw [List.getElem?_append_right (by omega), show j + x - s.bs.length = j - s.bs.length + x by omega]
      exact this
  | .each v s, i, b, h, j, e => by
    have e0 : (Say.each v s).bs = s.bs ++ [.each v s] := rfl
    by_cases hi : i < s.bs.length
    · rw [e0] at h ⊢
      rw [List.getElem?_append_left hi] at h
      intro x y hx
      have := bs_num s i b h j e x y hx
      rw [List.getElem?_append_left (List.getElem?_eq_some_iff.mp this).1]
      exact this
    · have hl := (List.getElem?_eq_some_iff.mp h).1
      rw [e0] at hl
      simp at hl
      have : i = s.bs.length := by omega
      subst this
      rw [e0, List.getElem?_append_right (Nat.le_refl _)] at h
      simp at h
      subst h
      have : j = 0 := by rw [e0] at e; simp at e; omega
      subst this
      exact numOk_self _
  | .som v s, i, b, h, j, e => by
    have e0 : (Say.som v s).bs = s.bs ++ [.som v s] := rfl
    by_cases hi : i < s.bs.length
    · rw [e0] at h ⊢
      rw [List.getElem?_append_left hi] at h
      intro x y hx
      have := bs_num s i b h j e x y hx
      rw [List.getElem?_append_left (List.getElem?_eq_some_iff.mp this).1]
      exact this
    · have hl := (List.getElem?_eq_some_iff.mp h).1
      rw [e0] at hl
      simp at hl
      have : i = s.bs.length := by omega
      subst this
      rw [e0, List.getElem?_append_right (Nat.le_refl _)] at h
      simp at h
      subst h
      have : j = 0 := by rw [e0] at e; simp at e; omega
      subst this
      exact numOk_self _
  | .tru, i, b, h, _, _ => by simp [Say.bs] at h
  | .mark _ _, i, b, h, _, _ => by simp [Say.bs] at h
  | .tie _ _ _, i, b, h, _, _ => by simp [Say.bs] at h
  | .same _ _, i, b, h, _, _ => by simp [Say.bs] at h
where
  bs_end : ∀ (s : Say) (i : Nat) (b : Say), s.bs[i]? = some b → b.bs.length ≤ i + 1
  | .not s, i, b, h => bs_end s i b h
  | .and s t, i, b, h => by
    have e0 : (Say.and s t).bs = s.bs ++ t.bs := rfl
    rw [e0] at h
    by_cases hi : i < s.bs.length
    · rw [List.getElem?_append_left hi] at h
      exact bs_end s i b h
    · rw [List.getElem?_append_right (by omega)] at h
      have := bs_end t _ b h
      omega
  | .or s t, i, b, h => by
    have e0 : (Say.or s t).bs = s.bs ++ t.bs := rfl
    rw [e0] at h
    by_cases hi : i < s.bs.length
    · rw [List.getElem?_append_left hi] at h
      exact bs_end s i b h
    · rw [List.getElem?_append_right (by omega)] at h
      have := bs_end t _ b h
      omega
  | .each v s, i, b, h => by
    have e0 : (Say.each v s).bs = s.bs ++ [.each v s] := rfl
    by_cases hi : i < s.bs.length
    · rw [e0, List.getElem?_append_left hi] at h
      exact bs_end s i b h
    · rw [e0, List.getElem?_append_right (by omega)] at h
      have hm := List.mem_of_getElem? h
      rw [List.mem_singleton.mp hm, e0]
      simp
      omega
  | .som v s, i, b, h => by
    have e0 : (Say.som v s).bs = s.bs ++ [.som v s] := rfl
    by_cases hi : i < s.bs.length
    · rw [e0, List.getElem?_append_left hi] at h
      exact bs_end s i b h
    · rw [e0, List.getElem?_append_right (by omega)] at h
      have hm := List.mem_of_getElem? h
      rw [List.mem_singleton.mp hm, e0]
      simp
      omega
  | .tru, i, b, h => by simp [Say.bs] at h
  | .mark _ _, i, b, h => by simp [Say.bs] at h
  | .tie _ _ _, i, b, h => by simp [Say.bs] at h
  | .same _ _, i, b, h => by simp [Say.bs] at h
theorem bs_in {ms ts : List Str} : ∀ {s b : Say}, b ∈ s.bs → b.deep ≤ s.deep ∧ (s.okT ms ts → b.okT ms ts) ∧ b.bnd.isSome = true
  | .not s, b, h => by
    have := bs_in (ms := ms) (ts := ts) (s := s) h
    exact ⟨by simp only [Say.deep]; omega, this.2⟩
  | .and s t, b, h => by
    rcases List.mem_append.mp (show b ∈ s.bs ++ t.bs from h) with h | h
    · have := bs_in (ms := ms) (ts := ts) (s := s) h
      exact ⟨by simp only [Say.deep]; omega, fun k => this.2.1 k.1, this.2.2⟩
    · have := bs_in (ms := ms) (ts := ts) (s := t) h
      exact ⟨by simp only [Say.deep]; omega, fun k => this.2.1 k.2, this.2.2⟩
  | .or s t, b, h => by
    rcases List.mem_append.mp (show b ∈ s.bs ++ t.bs from h) with h | h
    · have := bs_in (ms := ms) (ts := ts) (s := s) h
      exact ⟨by simp only [Say.deep]; omega, fun k => this.2.1 k.1, this.2.2⟩
    · have := bs_in (ms := ms) (ts := ts) (s := t) h
      exact ⟨by simp only [Say.deep]; omega, fun k => this.2.1 k.2, this.2.2⟩
  | .each v s, b, h => by
    rcases List.mem_append.mp (show b ∈ s.bs ++ [.each v s] from h) with h | h
    · have := bs_in (ms := ms) (ts := ts) (s := s) h
      exact ⟨by simp only [Say.deep]; omega, this.2⟩
    · rw [List.mem_singleton.mp h]
      exact ⟨Nat.le_refl _, id, rfl⟩
  | .som v s, b, h => by
    rcases List.mem_append.mp (show b ∈ s.bs ++ [.som v s] from h) with h | h
    · have := bs_in (ms := ms) (ts := ts) (s := s) h
      exact ⟨by simp only [Say.deep]; omega, this.2⟩
    · rw [List.mem_singleton.mp h]
      exact ⟨Nat.le_refl _, id, rfl⟩
  | .tru, _, h => by cases h
  | .mark _ _, _, h => by cases h
  | .tie _ _ _, _, h => by cases h
  | .same _ _, _, h => by cases h
theorem BndAt.at {cN : Addr} {H : Hp} : ∀ {bs : List Say} {k : Nat} {ms : List Addr} {i : Nat} {m : Addr}, BndAt cN H bs k ms → ms[i]? = some m → ∃ b j, bs[i]? = some b ∧ NodeAt cN H b j m ∧ j + b.bs.length = k + i + 1
  | b :: bs, k, m :: ms, 0, _, ⟨⟨j, h, e⟩, _⟩, hm => by
    simp at hm
    subst hm
    exact ⟨b, j, rfl, h, e⟩
  | b :: bs, k, m :: ms, i + 1, _, ⟨_, t⟩, hm => by
    obtain ⟨b', j, h1, h2, h3⟩ := BndAt.at t (i := i) (by simpa using hm)
    exact ⟨b', j, by simpa using h1, h2, by omega⟩
  | [], _, [], i, _, _, hm => by simp at hm
  | [], _, _ :: _, _, _, h, _ => h.elim
  | _ :: _, _, [], _, _, h, _ => h.elim
/-- two things are like each other -/
structure Like (W : Wd) (s : Say) (one other : Nat) : Prop where
  m : ∀ m ∈ W.T.marks, decide (one ∈ W.ms m) = decide (other ∈ W.ms m)
  t : ∀ t ∈ W.T.ties, decide ((one, one) ∈ W.ts t) = decide ((other, other) ∈ W.ts t)
  b : ∀ b ∈ s.bs, b.fvN ≠ [] → ev W b one one = ev W b other other
section
variable {P : Program} {w : World} {K : PySem.W.Frag} {mg : Str → Option Value} {base : Heap} {cT cW cN cR : Addr}
def spCheckPlain (cT : Addr) : Sp := fun vs H Q _ => ∃ (t : Addr) (T : Tng), vs = [.ref t] ∧ TongueAt cT H t T ∧ Q .non H
theorem ok_check_plain (T0 : ClT K cT) (D : Def K mg "check_plain" s_check_plain) : CallOk P w K mg base 1 "check_plain" P_check_plain (spCheckPlain cT) := by
  refine callOk D sc_check_plain bd_check_plain (fun vs H Q E h => ?_) (fun f cdv A outer st H vs Q E hr h => ?_)
  · obtain ⟨t, T, rfl, _⟩ := h
    rfl
  obtain ⟨t, T, rfl, ⟨dx, am, at_, af, hI, hM, hTi, hF⟩, q⟩ := h
  refine ⟨_, pss_one (ps_if (pt_truth (pe_fld (pv 0) rfl) (by intro _; rfl)) (pss_one (ps_never)) (pss_nil)), ?_⟩
  walk_at "rd"
  refine ⟨_, _, _, _, _, rfl, hI, T0.cl, T0.nf, fT_f _ _ _, ?_⟩
  refine ⟨_, .inr (.inl ⟨_, SqT.of hF, rfl⟩), ?_⟩
  walk_at "rd"
  exact q
def spCheckThing (cT cW : Addr) : Sp := fun vs H Q _ => ∃ (wr : Addr) (i : Nat) (W : Wd), vs = [.ref wr, .int i] ∧ WorldAt cT cW H wr W ∧ i < W.n ∧ Q .non H
theorem ok_check_thing (TW : ClW K cW) (D : Def K mg "check_thing" s_check_thing) (c_is_thing : CallOk P w K mg base 3 "is_thing" P_is_thing spIsThing) : CallOk P w K mg base 4 "check_thing" P_check_thing (spCheckThing cT cW) := by
  refine callOk D sc_check_thing bd_check_thing (fun vs H Q E h => ?_) (fun f cdv A outer st H vs Q E hr h => ?_)
  · obtain ⟨t, i, W, rfl, _⟩ := h
    rfl
  obtain ⟨wr, i, W, rfl, ⟨dw, at_, am, ati, fm, ft, hI, hT, _⟩, hi, q⟩ := h
  refine ⟨_, pss_one (ps_if (pt_not (pt_val (pe_cl c_is_thing hr (by rfl) (pa_cons (pv 1) (pa_cons (pe_fld (pv 0) rfl) pa_nil))))) (pss_one (ps_never)) (pss_nil)), ?_⟩
  walk_at "rd"
  refine ⟨_, _, _, _, _, rfl, hI, TW.cl, TW.nn, fW_n _ _ _ _, ?_⟩
  refine ⟨_, _, rfl, ?_⟩
  rw [decide_eq_true (show (0 : Int) ≤ (i : Int) by omega), decide_eq_true (show (i : Int) ≤ (W.n : Int) - 1 by omega)]
  walk_at "rd"
  exact q
def spAreLike (cT cW : Addr) : Sp := fun vs H Q _ => ∃ (G : Hp) (wr a : Addr) (W : Wd) (s : Say) (one other : Nat), vs = [.ref wr, .ref a, .int one, .int other] ∧ Same G H ∧ WorldAt cT cW G wr W ∧ W.Ok ∧ Clean W.T ∧ SayAt G s a ∧ s.okT W.T.marks W.T.ties ∧ s.closed ∧ s.deep ≤ 20 ∧ s.size ≤ 100 ∧ one < W.n ∧ other < W.n ∧ Like W s one other ∧ ∀ H', Same H H' → Q (.bl true) H'
theorem ok_are_like (T0 : ClT K cT) (TW : ClW K cW) (TN : ClN K cN) (TR : ClR K cR) (D : Def K mg "are_like" s_are_like) (c_Reading : MakeOk P w K mg base cR 1 "Reading" P_Reading__init (spRInit P w cR)) (c_node_of : CallOk P w K mg base 44 "node_of" P_node_of (spNodeOf cN 20)) (c_flag : MethOk P w K mg base cR 83 "flag" P_Reading_flag (spFlag P w cT cW cN cR 20))
    (c_has : MethOk P w K mg base cW 1 "has" P_World_has (spHas cT cW)) (c_leads : MethOk P w K mg base cW 1 "leads" P_World_leads (spLeads cT cW)) (c_marks : PropOk P w K mg base cT 1 "marks" (getSp cT "kept_marks")) (c_ties : PropOk P w K mg base cT 1 "ties" (getSp cT "kept_ties")) :
    CallOk P w K mg base 84 "are_like" P_are_like (spAreLike cT cW) := by
  refine callOk D sc_are_like bd_are_like (fun vs H Q E h => ?_) (fun f cdv A outer st H vs Q E hr h => ?_)
  · obtain ⟨G, wr, a, W, s, one, other, rfl, _⟩ := h
    rfl
  obtain ⟨G, wr, a, W, s, one, other, rfl, eG, hW, ok, hcl, hS, okT, hc, hd, hz, hon, hot, hL, q⟩ := h
  have hr1 : Room 1 _ := hr.mono (by decide)
  have hr2 : Room 2 _ := hr.mono (by decide)
  have hr44 : Room 44 _ := hr.mono (by decide)
  refine ⟨_, pss_cons (ps_set (i := 4) sc_are_like.nd rfl (.inl rfl) (pe_lst (pa_nil))) (pss_cons (ps_set (i := 5) sc_are_like.nd rfl (.inl rfl) (pe_cl c_node_of hr44 (by rfl) (pa_cons (pv 1) (pa_cons (pv 4) pa_nil)))) (pss_cons (ps_set (i := 6) sc_are_like.nd rfl (.inl rfl) (pe_mk c_Reading hr2 (by rfl) (pa_cons (pv 0) pa_nil))) (pss_cons (ps_expr (pe_me c_flag TR.cl hr (pv 6) (pa_cons (pv 5) (pa_cons (pe_non) (pa_cons (pe_non) pa_nil))))) (pss_cons (ps_for PassesOwn.never rfl (pi_tup (pe_pr c_marks T0.cl hr2 (pe_fld (pv 0) rfl))) (pg_name (i := 7) sc_are_like.nd rfl (.inl rfl)) (pss_one (ps_if (pt_cmpR op_ne (pe_me c_has TW.cl hr1 (pv 0) (pa_cons (pv 7) (pa_cons (pv 2) pa_nil))) (pe_me c_has TW.cl hr1 (pv 0) (pa_cons (pv 7) (pa_cons (pv 3) pa_nil))) (nomark _)) (pss_one (ps_ret (pe_bl))) (pss_nil)))) (pss_cons (ps_for PassesOwn.never rfl (pi_tup (pe_pr c_ties T0.cl hr2 (pe_fld (pv 0) rfl))) (pg_name (i := 7) sc_are_like.nd rfl (.inl rfl)) (pss_one (ps_if (pt_cmpR op_ne (pe_me c_leads TW.cl hr1 (pv 0) (pa_cons (pv 7) (pa_cons (pv 2) (pa_cons (pv 2) pa_nil)))) (pe_me c_leads TW.cl hr1 (pv 0) (pa_cons (pv 7) (pa_cons (pv 3) (pa_cons (pv 3) pa_nil)))) (nomark _)) (pss_one (ps_ret (pe_bl))) (pss_nil)))) (pss_cons (ps_for PassesOwn.never rfl (pi_list (pv 4)) (pg_name (i := 8) sc_are_like.nd rfl (.inl rfl)) (pss_one (ps_if (PW.pt (pw_and (pt_truth (pe_fld (pv 8) rfl) (by intro _; rfl)) (pw_and1 (pt_cmpR op_ne (pe_me c_flag TR.cl hr (pv 6) (pa_cons (pv 8) (pa_cons (pv 2) (pa_cons (pv 2) pa_nil)))) (pe_me c_flag TR.cl hr (pv 6) (pa_cons (pv 8) (pa_cons (pv 3) (pa_cons (pv 3) pa_nil)))) (nomark _))))) (pss_one (ps_ret (pe_bl))) (pss_nil)))) (pss_one (ps_ret (pe_bl))))))))), ?_⟩
  walk_at "rd"
  refine ⟨sz (by simp), fun l hl0 => ?_⟩
  walk_at "rd"
  have e1 : Same H (upd H l (.lst [])) := Same.new (Same.refl _) hl0
  have hGl : G l = none := eG.free hl0
  refine ⟨G, a, l, s, [], rfl, eG.trans e1, hGl, upd_same, hS, hd, by decide, by have := s.bs_len; simp; omega, fun p ms H2 e4 hl2 hN hB => ?_⟩
  have e5 : Same H H2 := fun c u h => e4 _ _ (by rw [hide_ne (ne_of_none h hl0)]; exact e1 _ _ h)
  rw [List.nil_append] at hl2
  walk_at "rd"
  refine fun r dxr hr0 hdx0 hne => ?_
  refine ⟨r, dxr, wr, rfl, upd_same, fun d H3 e6 hR3 hd0 hT3 => ?_⟩
  have e7 : Same H2 H3 := read_fresh hr0 hdx0 hne e6
  have hdr : d ≠ r := fun y => by
    have h1 := hT3.1
    rw [y, hR3] at h1
    cases h1
  have hd2 : H2 d = none := by
    rw [upd_ne hdr] at hd0
    by_cases y : d = dxr
    · rw [y]; exact hdx0
    · rw [upd_ne y] at hd0
      exact hd0
  have e23 : Same H2 (hide d H3) := hide_base e7 hd2
  have eG3 : Same G (hide d H3) := fun c u h => e23 _ _ (e5 _ _ (eG _ _ h))
  have hN3 : NodeAt cN (hide d H3) s 0 p := (hN.mono nwL_same).mono e23
  have hB3 : BndAt cN (hide d H3) s.bs 0 ms := (hB.mono nwL_same).mono e23
  have hl3 : (hide d H3) l = some (.lst (ms.map V.ref)) := e23 _ _ hl2
  have RO : RdOk cT cW cR (hide d H3) r wr d W s.bs := ⟨⟨dxr, by rw [hide_ne (Ne.symm hdr)]; exact hR3⟩, hW.mono eG3, hide_at, ok.ndm, ok.ndt, hcl, ok.hi, by have := s.bs_len; omega⟩
  have hRr : (hide d H3) r = some (.ins cR dxr (fR wr d)) := by rw [hide_ne (Ne.symm hdr)]; exact hR3
  obtain ⟨dw, at_, am, ati, fm, ft, hI, hTg, _⟩ := id (hW.mono eG3)
  obtain ⟨dT, tm, tt, tf, hTI, hTM, hTT, hTF⟩ := id hTg
  walk_at "rd"
  refine ⟨_, _, _, rfl, hR3, fR_flag _ _, ?_⟩
  walk_at "rd"
  refine ⟨hide d H3, r, p, wr, d, W, s.bs, s, 0, none, none, [], rfl, RO, hide_same, hT3, tinv_nil W _, hN3, numOk_self s, okT, ⟨(fun h => by rw [hc.1] at h; cases h), (fun h => by rw [hc.2] at h; cases h), (fun i h => by cases h), (fun i h => by cases h)⟩, hd, fun xs4 H4 e8 hT4 hI4 _ => ?_⟩
  walk_at "rd"
  refine ⟨_, _, _, _, _, rfl, e8 _ _ hI, TW.cl, TW.nT, fW_T _ _ _ _, ?_⟩
  refine ⟨_, _, _, rfl, e8 _ _ hTI, _, _, _, _, rfl, e8 _ _ hTI, fT_m _ _ _, ?_⟩
  refine ⟨_, rfl, ⟨_, SqT.of (e8 _ _ hTM)⟩, for_tup (K := K) (xs := W.T.marks.map V.str) (fun i σ H' => Same H4 H' ∧ ∃ y7, σ = [some (.ref wr), some (.ref a), some (.int one), some (.int other), some (.ref l), some (.ref p), some (.ref r), y7, none])
    ⟨Same.refl _, _, rfl⟩ (fun i σ H' _ hP => SqT.of (hP.1 _ _ (e8 _ _ hTM))) (fun i x σ H' hx hP => ?_) (fun σ H' hP => ?_)⟩
  · obtain ⟨e9, y7, rfl⟩ := hP
    obtain ⟨m, hm, rfl⟩ := map_at hx
    have hmm := List.mem_of_getElem? hm
    have e10 : Same (hide d H3) H' := fun c u h => e9 _ _ (e8 _ _ h)
    have hWH := RO.wd.mono e10
    walk_at "rd"
    refine ⟨_, _, _, rfl, e10 _ _ hI, fW_has _ _ _ _, ?_⟩
    walk_at "rd"
    refine ⟨wr, m, one, W, rfl, hWH, ok.ndm, hmm, ?_⟩
    walk_at "rd"
    refine ⟨_, _, _, rfl, e10 _ _ hI, fW_has _ _ _ _, ?_⟩
    walk_at "rd"
    refine ⟨wr, m, other, W, rfl, hWH, ok.ndm, hmm, ?_⟩
    walk_at "rd"
    rw [hL.m m hmm, decide_eq_true rfl]
    walk_at "rd"
    exact ⟨e9, _, rfl⟩
  obtain ⟨e9, y7, rfl⟩ := hP
  have e10 : Same (hide d H3) H' := fun c u h => e9 _ _ (e8 _ _ h)
  walk_at "rd"
  refine ⟨_, _, _, _, _, rfl, e10 _ _ hI, TW.cl, TW.nT, fW_T _ _ _ _, ?_⟩
  refine ⟨_, _, _, rfl, e10 _ _ hTI, _, _, _, _, rfl, e10 _ _ hTI, fT_t _ _ _, ?_⟩
  refine ⟨_, rfl, ⟨_, SqT.of (e10 _ _ hTT)⟩, for_tup (K := K) (xs := W.T.ties.map V.str) (fun i σ H'' => Same H' H'' ∧ ∃ y7, σ = [some (.ref wr), some (.ref a), some (.int one), some (.int other), some (.ref l), some (.ref p), some (.ref r), y7, none])
    ⟨Same.refl _, _, rfl⟩ (fun i σ H' _ hP => SqT.of (hP.1 _ _ (e10 _ _ hTT))) (fun i x σ H5 hx hP => ?_) (fun σ H5 hP => ?_)⟩
  · obtain ⟨e11, y7, rfl⟩ := hP
    obtain ⟨m, hm, rfl⟩ := map_at hx
    have hmm := List.mem_of_getElem? hm
    have e12 : Same (hide d H3) H5 := fun c u h => e11 _ _ (e10 _ _ h)
    walk_at "rd"
    refine ⟨_, _, _, rfl, e12 _ _ hI, fW_leads _ _ _ _, ?_⟩
    walk_at "rd"
    refine ⟨wr, m, one, one, W, rfl, RO.wd.mono e12, ok.ndt, hmm, fun H6 e13 => ?_⟩
    have e14 : Same (hide d H3) H6 := fun c u h => e13 _ _ (e12 _ _ h)
    walk_at "rd"
    refine ⟨_, _, _, rfl, e14 _ _ hI, fW_leads _ _ _ _, ?_⟩
    walk_at "rd"
    refine ⟨wr, m, other, other, W, rfl, RO.wd.mono e14, ok.ndt, hmm, fun H7 e15 => ?_⟩
    walk_at "rd"
    rw [hL.t m hmm, decide_eq_true rfl]
    walk_at "rd"
    exact ⟨fun c u h => e15 _ _ (e13 _ _ (e11 _ _ h)), _, rfl⟩
  obtain ⟨e11, y7, rfl⟩ := hP
  have e12 : Same (hide d H3) H5 := fun c u h => e11 _ _ (e10 _ _ h)
  have hT5 : ToldAt P w H5 d xs4 := (hT4.same e9).same e11
  walk_at "rd"
  refine ⟨⟨_, SqL.of (e12 _ _ hl3)⟩, for_list (K := K) (a := l) (xs := ms.map V.ref) (fun i σ H'' => ∃ y8 xs, Same (hide d H3) H'' ∧ ToldAt P w H'' d xs ∧ TInv W s.bs xs ∧ σ = [some (.ref wr), some (.ref a), some (.int one), some (.int other), some (.ref l), some (.ref p), some (.ref r), y7, y8])
    ⟨_, xs4, e12, hT5, hI4, rfl⟩ (fun i σ H' _ hP => let ⟨_, _, h, _⟩ := hP; SqL.of (h _ _ hl3)) (fun i x σ H6 hx hP => ?_) (fun σ H6 hP => ?_)⟩
  · obtain ⟨y8, xs5, e13, hT6, hI6, rfl⟩ := hP
    obtain ⟨m, hm, rfl⟩ := map_at hx
    obtain ⟨b, j, hb1, hb2, hb3⟩ := hB3.at hm
    have hbm := List.mem_of_getElem? hb1
    obtain ⟨k1, k2, k3⟩ := bs_in (ms := W.T.marks) (ts := W.T.ties) hbm
    obtain ⟨num, ps, dy, nm, pa, fr, hn, h1, h2, h3⟩ := hb2.hd
    have hnum := bs_num s i b hb1 j (by omega)
    have env : ∀ i, i < W.n → EnvOk b W.n (some i) (some i) := fun i hi => ⟨fun _ => rfl, fun _ => rfl, fun _ e => by cases e; exact hi, fun _ e => by cases e; exact hi⟩
    walk_at "rd"
    refine ⟨_, _, _, _, _, rfl, e13 _ _ hn, TN.cl, TN.nf, fN_f _ _ _ _ _, ?_⟩
    refine ⟨_, .inr (.inl ⟨_, SqT.of (e13 _ _ h3), rfl⟩), ?_⟩
    by_cases hfe : b.fvN = []
    · rw [hfe]
      walk_at "rd"
      exact ⟨_, xs5, e13, hT6, hI6, rfl⟩
    · have hne : (!(b.fvN.map fun v => V.str v.s).isEmpty) = true := by
        cases q : b.fvN with
        | nil => exact absurd q hfe
        | cons _ _ => rfl
      rw [hne]
      walk_at "rd"
      refine ⟨_, _, _, rfl, e13 _ _ hRr, fR_flag _ _, ?_⟩
      walk_at "rd"
      refine ⟨hide d H3, r, m, wr, d, W, s.bs, b, j, some one, some one, xs5, rfl, RO, e13, hT6, hI6, hb2, hnum, k2 okT, env one hon, by omega, fun xs7 H7 e14 hT7 hI7 _ => ?_⟩
      have e15 : Same (hide d H3) H7 := fun c u h => e14 _ _ (by
        obtain ⟨nc, _⟩ := hide_some h
        rw [hide_ne nc]
        exact e13 _ _ h)
      walk_at "rd"
      refine ⟨_, _, _, rfl, e15 _ _ hRr, fR_flag _ _, ?_⟩
      walk_at "rd"
      refine ⟨hide d H3, r, m, wr, d, W, s.bs, b, j, some other, some other, xs7, rfl, RO, e15, hT7, hI7, hb2, hnum, k2 okT, env other hot, by omega, fun xs8 H8 e16 hT8 hI8 _ => ?_⟩
      have e17 : Same (hide d H3) H8 := fun c u h => e16 _ _ (by
        obtain ⟨nc, _⟩ := hide_some h
        rw [hide_ne nc]
        exact e15 _ _ h)
      walk_at "rd"
      rw [show ev W b (gx (some one)) (gx (some one)) = ev W b (gx (some other)) (gx (some other)) from hL.b b hbm hfe, decide_eq_true rfl]
      walk_at "rd"
      exact ⟨_, xs8, e17, hT8, hI8, rfl⟩
  · obtain ⟨y8, xs5, e13, hT6, hI6, rfl⟩ := hP
    walk_at "rd"
    exact q _ fun c u h => e13 _ _ (e23 _ _ (e5 _ _ h))
end
end K48
namespace K48
open PySem PySem.Spec PyProof.Rows L2
local macro_rules | `(tactic| walk_at "rd") => `(tactic| repeat (first | refine ⟨_, rfl, ?_⟩ | refine ⟨_, _, rfl, rfl, ?_⟩ | refine ⟨rfl, ?_⟩ | refine iteTk (by decide +kernel) ?_ | refine iteFk (by decide +kernel) ?_))
local macro_rules | `(tactic| walk_at "rdr") => `(tactic| repeat (first | refine ⟨_, rfl, ?_⟩ | refine ⟨_, _, rfl, rfl, ?_⟩ | refine ⟨rfl, ?_⟩ | refine iteTk (by first | decide +kernel | rfl) ?_ | refine iteFk (by first | decide +kernel | rfl) ?_))
local macro_rules | `(tactic| walk_at "tyn") => `(tactic| first | exact .int _ | exact .bl _ | exact .str _ | exact .tup (by assumption) | exact .lst (by assumption) | exact .dK (by assumption))
local macro_rules | `(tactic| walk_at "isT") => `(tactic| refine ⟨_, _, _, _, true, rfl, .ty _, TyN.x (by walk_at "tyn"), kit_ty (by decide +kernel), ?_⟩)
local macro_rules | `(tactic| walk_at "isF") => `(tactic| refine ⟨_, _, _, _, false, rfl, .ty _, TyN.x (by walk_at "tyn"), kit_ty (by decide +kernel), ?_⟩)
local macro_rules | `(tactic| walk_at "nz") => `(tactic| first | refine nzG (by simp only [List.set_cons_succ, List.set_cons_zero]; rfl) ?_ | refine reS (by simp only [List.set_cons_succ, List.set_cons_zero]; rfl) ?_)
/-! ## Growing: what one step makes -/
def kn (one other th : Nat) : Nat := if th = one then other else th
def tieA (ps : List (Nat × Nat)) (one other n : Nat) : Nat → List (Nat × Nat)
  | 0 => ps ++ (if (one, one) ∈ ps then [(n, n)] else [])
  | i + 1 => (tieA ps one other n i ++ (if (one, kn one other i) ∈ ps then [(n, i)] else [])) ++ (if (kn one other i, one) ∈ ps then [(i, n)] else [])
theorem tieA_mem (ps : List (Nat × Nat)) (one other n : Nat) (q : Nat × Nat) : ∀ i, q ∈ tieA ps one other n i ↔ q ∈ ps ∨ (q = (n, n) ∧ (one, one) ∈ ps) ∨ ∃ th, th < i ∧ ((q = (n, th) ∧ (one, kn one other th) ∈ ps) ∨ (q = (th, n) ∧ (kn one other th, one) ∈ ps))
  | 0 => by
    unfold tieA
    rw [List.mem_append]
    constructor
    · rintro (h | h)
      · exact .inl h
      · split at h
        · exact .inr (.inl ⟨List.mem_singleton.mp h, by assumption⟩)
        · cases h
    · rintro (h | ⟨h, k⟩ | ⟨th, h, _⟩)
      · exact .inl h
      · rw [if_pos k]
        exact .inr (List.mem_singleton.mpr h)
      · exact absurd h (Nat.not_lt_zero _)
  | i + 1 => by
    unfold tieA
    rw [List.mem_append, List.mem_append, tieA_mem ps one other n q i]
    constructor
    · rintro ((h | h) | h)
      · rcases h with h | h | ⟨th, h, k⟩
        · exact .inl h
        · exact .inr (.inl h)
        · exact .inr (.inr ⟨th, Nat.lt_succ_of_lt h, k⟩)
      · split at h
        · exact .inr (.inr ⟨i, Nat.lt_succ_self i, .inl ⟨List.mem_singleton.mp h, by assumption⟩⟩)
        · cases h
      · split at h
        · exact .inr (.inr ⟨i, Nat.lt_succ_self i, .inr ⟨List.mem_singleton.mp h, by assumption⟩⟩)
        · cases h
    · rintro (h | h | ⟨th, h, k⟩)
      · exact .inl (.inl (.inl h))
      · exact .inl (.inl (.inr (.inl h)))
      · rcases Nat.lt_succ_iff_lt_or_eq.mp h with h | h
        · exact .inl (.inl (.inr (.inr ⟨th, h, k⟩)))
        · subst h
          rcases k with ⟨k1, k2⟩ | ⟨k1, k2⟩
          · rw [if_pos k2]
            exact .inl (.inr (List.mem_singleton.mpr k1))
          · rw [if_pos k2]
            exact .inr (List.mem_singleton.mpr k1)
/-- what is new holds n -/
theorem tieA_new {ps : List (Nat × Nat)} {one other n i : Nat} {q : Nat × Nat} (h : q ∈ tieA ps one other n i) (h1 : q.1 ≠ n) (h2 : q.2 ≠ n) : q ∈ ps := by
  rcases (tieA_mem ps one other n q i).mp h with h | ⟨h, _⟩ | ⟨th, _, ⟨h, _⟩ | ⟨h, _⟩⟩
  · exact h
  · exact absurd (by rw [h]) h1
  · exact absurd (by rw [h]) h1
  · exact absurd (by rw [h]) h2
theorem tieA_old {ps : List (Nat × Nat)} {one other n i : Nat} {q : Nat × Nat} (h : q ∈ ps) : q ∈ tieA ps one other n i := (tieA_mem ps one other n q i).mpr (.inl h)
theorem kn_lt {one other th n : Nat} (h1 : other < n) (h2 : th < n) : kn one other th < n := by
  unfold kn
  split
  · exact h1
  · exact h2
theorem tieA_nd {ps : List (Nat × Nat)} {one other n : Nat} (hn : ps.Nodup) (hl : ∀ p ∈ ps, p.1 < n ∧ p.2 < n) : ∀ i, i ≤ n → (tieA ps one other n i).Nodup ∧ ((n, i) ∉ tieA ps one other n i ∨ i = n) ∧ ((i, n) ∉ tieA ps one other n i ∨ i = n)
  | 0, hi => by
    have out : ∀ q : Nat × Nat, q.1 = n ∨ q.2 = n → q ∉ ps := fun q h hm => by have := hl q hm; omega
    refine ⟨?_, ?_, ?_⟩
    · unfold tieA
      rw [List.nodup_append]
      refine ⟨hn, by split <;> simp, fun a ha b hb => ?_⟩
      split at hb
      · rw [List.mem_singleton.mp hb]
        intro e
        exact out a (.inl (by rw [e])) ha
      · cases hb
    · by_cases hz : 0 = n
      · exact .inr hz
      · refine .inl fun h => ?_
        rcases (tieA_mem ps one other n _ 0).mp h with h | ⟨h, _⟩ | ⟨th, h, _⟩
        · exact out _ (.inl rfl) h
        · have := congrArg Prod.snd h
          exact hz this
        · exact absurd h (Nat.not_lt_zero _)
    · by_cases hz : 0 = n
      · exact .inr hz
      · refine .inl fun h => ?_
        rcases (tieA_mem ps one other n _ 0).mp h with h | ⟨h, _⟩ | ⟨th, h, _⟩
        · exact out _ (.inr rfl) h
        · have := congrArg Prod.fst h
          exact hz this
        · exact absurd h (Nat.not_lt_zero _)
  | i + 1, hi => by
    have out : ∀ q : Nat × Nat, q.1 = n ∨ q.2 = n → q ∉ ps := fun q h hm => by have := hl q hm; omega
    obtain ⟨h1, h2, h3⟩ := tieA_nd hn hl i (by omega)
    have h2 := h2.resolve_right (by omega)
    have h3 := h3.resolve_right (by omega)
    refine ⟨?_, ?_, ?_⟩
    · unfold tieA
      rw [List.nodup_append, List.nodup_append]
      refine ⟨⟨h1, by split <;> simp, fun a ha b hb => ?_⟩, by split <;> simp, fun a ha b hb => ?_⟩
      · split at hb
        · rw [List.mem_singleton.mp hb]
          intro e
          exact h2 (e ▸ ha)
        · cases hb
      · split at hb
        · rw [List.mem_singleton.mp hb]
          intro e
          rcases List.mem_append.mp ha with ha | ha
          · exact h3 (e ▸ ha)
          · split at ha
            · rw [List.mem_singleton.mp ha] at e
              have := congrArg Prod.fst e
              have : n = i := this
              omega
            · cases ha
        · cases hb
    · by_cases hz : i + 1 = n
      · exact .inr hz
      · refine .inl fun h => ?_
        rcases (tieA_mem ps one other n _ _).mp h with h | ⟨h, _⟩ | ⟨th, ht, ⟨h, _⟩ | ⟨h, _⟩⟩
        · exact out _ (.inl rfl) h
        · have := congrArg Prod.snd h
          exact hz this
        · have : i + 1 = th := congrArg Prod.snd h
          omega
        · have : n = th := congrArg Prod.fst h
          have : i + 1 = n := congrArg Prod.snd h
          omega
    · by_cases hz : i + 1 = n
      · exact .inr hz
      · refine .inl fun h => ?_
        rcases (tieA_mem ps one other n _ _).mp h with h | ⟨h, _⟩ | ⟨th, ht, ⟨h, _⟩ | ⟨h, _⟩⟩
        · exact out _ (.inr rfl) h
        · have := congrArg Prod.fst h
          exact hz this
        · have : i + 1 = n := congrArg Prod.fst h
          omega
        · have : i + 1 = th := congrArg Prod.fst h
          omega
theorem tieA_len (ps : List (Nat × Nat)) (one other n : Nat) : ∀ i, (tieA ps one other n i).length ≤ ps.length + 1 + 2 * i
  | 0 => by
    unfold tieA
    rw [List.length_append]
    split <;> simp
  | i + 1 => by
    have := tieA_len ps one other n i
    unfold tieA
    rw [List.length_append, List.length_append]
    split <;> split <;> simp <;> omega
theorem tieA_lt {ps : List (Nat × Nat)} {one other n : Nat} (hl : ∀ p ∈ ps, p.1 < n ∧ p.2 < n) : ∀ i, i ≤ n → ∀ q ∈ tieA ps one other n i, q.1 < n + 1 ∧ q.2 < n + 1 := fun i hi q hq => by
  rcases (tieA_mem ps one other n q i).mp hq with h | ⟨h, _⟩ | ⟨th, ht, ⟨h, _⟩ | ⟨h, _⟩⟩
  · have := hl q h
    omega
  · rw [h]
    exact ⟨Nat.lt_succ_self n, Nat.lt_succ_self n⟩
  · rw [h]
    exact ⟨Nat.lt_succ_self n, show th < n + 1 by omega⟩
  · rw [h]
    exact ⟨show th < n + 1 by omega, Nat.lt_succ_self n⟩
def putW (W : Wd) (one other : Nat) : Wd := ⟨W.T, W.n + 1, fun m => if one ∈ W.ms m then W.ms m ++ [W.n] else W.ms m, fun t => tieA (W.ts t) one other W.n W.n⟩
theorem putW_ok {W : Wd} (h : W.Ok) (one other : Nat) (hn : W.n + 1 ≤ 15) : (putW W one other).Ok := by
  refine ⟨h.ndm, h.ndt, h.lm, h.lt, Nat.le_succ_of_le h.lo, hn, ⟨fun m hm => ?_, fun m hm i hi => ?_, fun m hm => ?_⟩, ⟨fun m hm => ?_, fun m hm => ?_, fun m hm => ?_⟩⟩
  · show (if one ∈ W.ms m then W.ms m ++ [W.n] else W.ms m).Nodup
    split
    · refine nd_snoc (h.m.nd m hm) fun hq => ?_
      have := h.m.lt m hm _ hq
      omega
    · exact h.m.nd m hm
  · have hi : i ∈ (if one ∈ W.ms m then W.ms m ++ [W.n] else W.ms m) := hi
    show i < W.n + 1
    split at hi
    · rcases List.mem_append.mp hi with hi | hi
      · have := h.m.lt m hm _ hi
        omega
      · rw [List.mem_singleton.mp hi]
        exact Nat.lt_succ_self _
    · have := h.m.lt m hm _ hi
      omega
  · show (if one ∈ W.ms m then W.ms m ++ [W.n] else W.ms m).length ≤ W.n + 1
    have := h.m.len m hm
    split
    · rw [List.length_append]
      simp
      omega
    · omega
  · exact (tieA_nd (h.t.nd m hm) (h.t.lt m hm) W.n (Nat.le_refl _)).1
  · exact tieA_lt (h.t.lt m hm) W.n (Nat.le_refl _)
  · have h1 := tieA_len (W.ts m) one other W.n W.n
    have h2 := h.t.len m hm
    show (tieA (W.ts m) one other W.n W.n).length ≤ (W.n + 1) * (W.n + 1)
    have e : (W.n + 1) * (W.n + 1) = W.n * W.n + W.n + (W.n + 1) := by rw [Nat.add_mul, Nat.mul_add, Nat.mul_one, Nat.one_mul]
    omega
def fG (at_ : Addr) (one other n : Nat) (am ati : Addr) : List (Str × V) := [("tongue", .ref at_), ("one", .int one), ("other", .int other), ("things", .int n), ("marked", .ref am), ("tied", .ref ati)]
section
variable (at_ : Addr) (one other n : Nat) (am ati : Addr)
theorem fG_T : (fG at_ one other n am ati).lookup ("tongue" : Str) = some (.ref at_) := by kernel_rfl
theorem fG_1 : (fG at_ one other n am ati).lookup ("one" : Str) = some (.int one) := by kernel_rfl
theorem fG_2 : (fG at_ one other n am ati).lookup ("other" : Str) = some (.int other) := by kernel_rfl
theorem fG_n : (fG at_ one other n am ati).lookup ("things" : Str) = some (.int n) := by kernel_rfl
theorem fG_m : (fG at_ one other n am ati).lookup ("marked" : Str) = some (.ref am) := by kernel_rfl
theorem fG_t : (fG at_ one other n am ati).lookup ("tied" : Str) = some (.ref ati) := by kernel_rfl
theorem fG_tie : (fG at_ one other n am ati).lookup ("tie" : Str) = none := by kernel_rfl
theorem fG_putm : (fG at_ one other n am ati).lookup ("put" : Str) = none := by kernel_rfl
theorem fG_made : (fG at_ one other n am ati).lookup ("made_world" : Str) = none := by kernel_rfl
theorem fG_next : putF "things" (.int ((n : Int) + 1)) (fG at_ one other n am ati) = fG at_ one other (n + 1) am ati := by kernel_rfl
theorem fG_put : putF "tied" (.ref ati) (putF "marked" (.ref am) (putF "things" (.int n) (putF "other" (.int other) (putF "one" (.int one) (putF "tongue" (.ref at_) []))))) = fG at_ one other n am ati := by kernel_rfl
end
structure ClG (K : PySem.W.Frag) (cG : Addr) : Prop where
  cl : Cls K cG
  nT : NoAttr K cG "tongue"
  n1 : NoAttr K cG "one"
  n2 : NoAttr K cG "other"
  nn : NoAttr K cG "things"
  nm : NoAttr K cG "marked"
  nt : NoAttr K cG "tied"
section
variable {P : Program} {w : World} {K : PySem.W.Frag} {mg : Str → Option Value} {base : Heap} {cG : Addr}
def spTie (cG : Addr) : Sp := fun vs H Q _ => ∃ (g p dx at_ am ati : Addr) (one other n : Nat) (ps : List (Nat × Nat)), vs = [.ref g, .ref p, .int n] ∧ H g = some (.ins cG dx (fG at_ one other n am ati)) ∧ H p = some (.dT (dP ps)) ∧ ps.Nodup ∧ (∀ q ∈ ps, q.1 < n ∧ q.2 < n) ∧ ps.length ≤ 300 ∧ one < n ∧ other < n ∧ n ≤ 15 ∧
  ∀ H', Same (hide p H) H' → H' p = some (.dT (dP (tieA ps one other n n))) → Q .non H'
theorem ok_tie (TG : ClG K cG) (B : Blt mg) (D : Mth K cG "tie" "Growth.tie" s_Growth_tie) : MethOk P w K mg base cG 1 "tie" P_Growth_tie (spTie cG) := by
  refine methOk D sc_Growth_tie bd_Growth_tie (fun vs H Q E h => ?_) (fun f cdv A outer st H vs Q E hr h => ?_)
  · obtain ⟨g, p, dx, at_, am, ati, one, other, n, ps, rfl, _⟩ := h
    rfl
  obtain ⟨g, p, dx, at_, am, ati, one, other, n, ps, rfl, hg, hp, hnd, hlt, hlen, hon, hot, hn, q⟩ := h
  have hu := hu_of hr
  refine ⟨_, pss_cons (ps_if (pt_cmp (pc_din hu (pe_tup (pa_cons (pe_fld (pv 0) rfl) (pa_cons (pe_fld (pv 0) rfl) pa_nil))) (pv 1))) (pss_one (ps_dput hu (pv 1) (pe_tup (pa_cons (pv 2) (pa_cons (pv 2) pa_nil))) (pe_bl) rfl)) (pss_nil)) (pss_one (ps_for PassesOwn.never rfl (pi_range1 (by rfl) B.range (pa_cons (pv 2) pa_nil)) (pg_name (i := 3) sc_Growth_tie.nd rfl (.inl rfl)) (pss_cons (ps_set (i := 4) sc_Growth_tie.nd rfl (.inl rfl) (pe_ifExp (pt_cmpR op_eq (pv 3) (pe_fld (pv 0) rfl) (nomark _)) (pe_fld (pv 0) rfl) (pv 3))) (pss_cons (ps_if (pt_cmp (pc_din hu (pe_tup (pa_cons (pe_fld (pv 0) rfl) (pa_cons (pv 4) pa_nil))) (pv 1))) (pss_one (ps_dput hu (pv 1) (pe_tup (pa_cons (pv 2) (pa_cons (pv 3) pa_nil))) (pe_bl) rfl)) (pss_nil)) (pss_one (ps_if (pt_cmp (pc_din hu (pe_tup (pa_cons (pv 4) (pa_cons (pe_fld (pv 0) rfl) pa_nil))) (pv 1))) (pss_one (ps_dput hu (pv 1) (pe_tup (pa_cons (pv 3) (pa_cons (pv 2) pa_nil))) (pe_bl) rfl)) (pss_nil))))))), ?_⟩
  have hgp : g ≠ p := ne_of hg hp (by intro z; cases z)
  walk_at "rd"
  refine ⟨_, _, _, _, _, rfl, hg, TG.cl, TG.n1, fG_1 _ _ _ _ _ _, ?_⟩
  walk_at "rd"
  refine ⟨_, _, _, _, _, rfl, hg, TG.cl, TG.n1, fG_1 _ _ _ _ _ _, ?_⟩
  refine ⟨sz (by simp), fun p1 hp1 => ?_⟩
  have e1 : Same H (upd H p1 (.tup [.int one, .int one])) := Same.new (Same.refl _) hp1
  walk_at "rd"
  refine ⟨_, _, rfl, DGet.t (k := pk (one, one)) (e1 _ _ hp) upd_same, ?_⟩
  rw [dP_mem]
  have hg0 : ∀ H', Same (hide p H) H' → H' g = some (.ins cG dx (fG at_ one other n am ati)) := fun H' e => e _ _ (by rw [hide_ne hgp]; exact hg)
  have kN : ∀ i, i < n → kn one other i < n := fun i hi => kn_lt hot hi
  have mem : ∀ i a b, a < n → b < n → decide ((a, b) ∈ tieA ps one other n i) = decide ((a, b) ∈ ps) := fun i a b ha hb => by
    by_cases h : (a, b) ∈ ps
    · rw [decide_eq_true h, decide_eq_true (tieA_old h)]
    · rw [decide_eq_false h, decide_eq_false fun k => h (tieA_new k (by show a ≠ n; omega) (by show b ≠ n; omega))]
  have mem2 : ∀ i a b, a < n → b < n → decide ((a, b) ∈ tieA ps one other n i ++ (if (one, kn one other i) ∈ ps then [(n, i)] else [])) = decide ((a, b) ∈ ps) := fun i a b ha hb => by
    rw [← mem i a b ha hb]
    by_cases h : (a, b) ∈ tieA ps one other n i
    · rw [decide_eq_true h, decide_eq_true (List.mem_append_left _ h)]
    · rw [decide_eq_false h, decide_eq_false]
      intro k
      rcases List.mem_append.mp k with k | k
      · exact h k
      · split at k
        · have := congrArg Prod.fst (List.mem_singleton.mp k)
          have : a = n := this
          omega
        · cases k
  have lenA : ∀ i, i ≤ n → (dP (tieA ps one other n i)).length + 1 < sizeLine := fun i hi => by
    have := tieA_len ps one other n i
    unfold dP
    rw [List.length_map]
    exact szl (by omega)
  have nd := fun i (hi : i ≤ n) => tieA_nd (one := one) (other := other) hnd hlt i hi
  by_cases h11 : (one, one) ∈ ps
  · rw [decide_eq_true h11]
    walk_at "rd"
    refine ⟨sz (by simp), fun p2 hp2 => ?_⟩
    have e2 : Same H (upd (upd H p1 (.tup [.int one, .int one])) p2 (.tup [.int n, .int n])) := Same.new e1 hp2
    refine ⟨_, _, rfl, DPut.t (k := pk (n, n)) (e2 _ _ hp) upd_same (szl (by unfold dP; rw [List.length_map]; omega)), ?_⟩
    have hnn : (n, n) ∉ ps := fun h => by have := hlt _ h; simp at this
    rw [dP_put hnn]
    have eA : tieA ps one other n 0 = ps ++ [(n, n)] := by unfold tieA; rw [if_pos h11]
    rw [← eA]
    have e0 : Same (hide p H) (upd (upd (upd H p1 (.tup [.int one, .int one])) p2 (.tup [.int n, .int n])) p (.dT (dP (tieA ps one other n 0)))) := Same.mut (fun c u h => e2 _ _ (hide_same _ _ h)) hide_at
    have d0 : (upd (upd (upd H p1 (.tup [.int one, .int one])) p2 (.tup [.int n, .int n])) p (.dT (dP (tieA ps one other n 0)))) p = some (.dT (dP (tieA ps one other n 0))) := upd_same
    revert e0 d0
    generalize (upd (upd (upd H p1 (.tup [.int one, .int one])) p2 (.tup [.int n, .int n])) p (.dT (dP (tieA ps one other n 0)))) = H0
    intro e0 d0
    walk_at "rd"
    refine ⟨by omega, by omega, ?_⟩
    refine for_range (lo := 0) (n := (n : Int).toNat) (fun i σ H' => ∃ y3 y4, σ = [some (.ref g), some (.ref p), some (.int n), y3, y4] ∧ Same (hide p H) H' ∧ H' p = some (.dT (dP (tieA ps one other n i)))) ⟨_, _, rfl, e0, d0⟩ (fun i σ H' hi hP => ?_) (fun σ H' hP => ?_)
    · obtain ⟨y3, y4, rfl, e3, hD⟩ := hP
      have hin : i < n := by simpa using hi
      have hk := kN i hin
      obtain ⟨nd1, nd2, nd3⟩ := nd i (by omega)
      have nd2 := nd2.resolve_right (by omega)
      have nd3 := nd3.resolve_right (by omega)
      walk_at "rd"
      refine ⟨_, _, _, _, _, rfl, hg0 _ e3, TG.cl, TG.n1, fG_1 _ _ _ _ _ _, ?_⟩
      walk_at "rd"
      have dec : decide (V.int (0 + (i : Int)) = V.int (one : Int)) = decide (i = one) := by
        rw [dec_V_int]
        by_cases h : i = one
        · rw [decide_eq_true h, decide_eq_true (by omega)]
        · rw [decide_eq_false h, decide_eq_false (by omega)]
      rw [dec]
      refine iteS (fun hc => ?_) (fun hc => ?_)
      · have hc := of_decide_eq_true hc
        have hkn : kn one other i = other := if_pos hc
        walk_at "rd"
        refine ⟨_, _, _, _, _, rfl, hg0 _ e3, TG.cl, TG.n2, fG_2 _ _ _ _ _ _, ?_⟩
        walk_at "rd"
        refine ⟨_, _, _, _, _, rfl, hg0 _ e3, TG.cl, TG.n1, fG_1 _ _ _ _ _ _, ?_⟩
        walk_at "rd"
        refine ⟨sz (by simp), fun p3 hp3 => ?_⟩
        have e4 : Same (hide p H) (upd H' p3 (.tup [.int one, .int other])) := Same.new e3 hp3
        have hD4 : (upd H' p3 (.tup [.int one, .int other])) p = some (.dT (dP (tieA ps one other n i))) := by rw [upd_ne (ne_of_none hD hp3)]; exact hD
        have hK4 : (upd H' p3 (.tup [.int one, .int other])) p3 = some (.tup ((pk (one, kn one other i)).map kV)) := by rw [upd_same, hkn]; rfl
        revert e4 hD4 hK4
        generalize (upd H' p3 (.tup [.int one, .int other])) = H4
        intro e4 hD4 hK4
        walk_at "rd"
        refine ⟨_, _, rfl, DGet.t hD4 hK4, ?_⟩
        rw [dP_mem, mem i one _ hon hk]
        skip
        by_cases hA : (one, kn one other i) ∈ ps
        · rw [decide_eq_true hA]
          walk_at "rd"
          refine ⟨sz (by simp), fun p4 hp4 => ?_⟩
          have e5 : Same (hide p H) (upd H4 p4 (.tup [.int n, .int (0 + (i : Int))])) := Same.new e4 hp4
          have hD5 : (upd H4 p4 (.tup [.int n, .int (0 + (i : Int))])) p = some (.dT (dP (tieA ps one other n i))) := by rw [upd_ne (ne_of_none hD4 hp4)]; exact hD4
          refine ⟨_, _, rfl, DPut.t (k := pk (n, i)) hD5 (by rw [upd_same, Int.zero_add]; rfl) (Nat.lt_of_succ_lt (lenA i (by omega))), ?_⟩
          rw [dP_put nd2]
          have e6 : Same (hide p H) (upd (upd H4 p4 (.tup [.int n, .int (0 + (i : Int))])) p (.dT (dP (tieA ps one other n i ++ [(n, i)])))) := Same.mut e5 hide_at
          have hD6 : (upd (upd H4 p4 (.tup [.int n, .int (0 + (i : Int))])) p (.dT (dP (tieA ps one other n i ++ [(n, i)])))) p = some (.dT (dP (tieA ps one other n i ++ (if (one, kn one other i) ∈ ps then [(n, i)] else [])))) := by rw [if_pos hA, upd_same]
          revert e6 hD6
          generalize (upd (upd H4 p4 (.tup [.int n, .int (0 + (i : Int))])) p (.dT (dP (tieA ps one other n i ++ [(n, i)])))) = H6
          intro e6 hD6
          walk_at "rd"
          refine ⟨_, _, _, _, _, rfl, hg0 _ e6, TG.cl, TG.n1, fG_1 _ _ _ _ _ _, ?_⟩
          refine ⟨sz (by simp), fun p5 hp5 => ?_⟩
          have e7 : Same (hide p H) (upd H6 p5 (.tup [.int other, .int one])) := Same.new e6 hp5
          have hD7 : (upd H6 p5 (.tup [.int other, .int one])) p = some (.dT (dP (tieA ps one other n i ++ (if (one, kn one other i) ∈ ps then [(n, i)] else [])))) := by rw [upd_ne (ne_of_none hD6 hp5)]; exact hD6
          have hK7 : (upd H6 p5 (.tup [.int other, .int one])) p5 = some (.tup ((pk (kn one other i, one)).map kV)) := by rw [upd_same, hkn]; rfl
          revert e7 hD7 hK7
          generalize (upd H6 p5 (.tup [.int other, .int one])) = H7
          intro e7 hD7 hK7
          walk_at "rd"
          refine ⟨_, _, rfl, DGet.t hD7 hK7, ?_⟩
          rw [dP_mem, mem2 i _ one hk hon]
          by_cases hB : (kn one other i, one) ∈ ps
          · rw [decide_eq_true hB]
            walk_at "rd"
            refine ⟨sz (by simp), fun p6 hp6 => ?_⟩
            have e8 : Same (hide p H) (upd H7 p6 (.tup [.int (0 + (i : Int)), .int n])) := Same.new e7 hp6
            have hD8 : (upd H7 p6 (.tup [.int (0 + (i : Int)), .int n])) p = some (.dT (dP (tieA ps one other n i ++ (if (one, kn one other i) ∈ ps then [(n, i)] else [])))) := by rw [upd_ne (ne_of_none hD7 hp6)]; exact hD7
            have nd4 : (i, n) ∉ tieA ps one other n i ++ (if (one, kn one other i) ∈ ps then [(n, i)] else []) := fun h => by
              rcases List.mem_append.mp h with h | h
              · exact nd3 h
              · by_cases hA' : (one, kn one other i) ∈ ps
                · rw [if_pos hA'] at h
                  have := congrArg Prod.fst (List.mem_singleton.mp h)
                  have : i = n := this
                  omega
                · rw [if_neg hA'] at h
                  cases h
            refine ⟨_, _, rfl, DPut.t (k := pk (i, n)) hD8 (by rw [upd_same, Int.zero_add]; rfl) (szl ?_), ?_⟩
            · have := tieA_len ps one other n i
              unfold dP
              rw [List.length_map, List.length_append]
              split <;> simp <;> omega
            rw [dP_put nd4]
            refine ⟨_, _, rfl, Same.mut e8 hide_at, ?_⟩
            rw [upd_same]
            show _ = some (HO.dT (dP ((tieA ps one other n i ++ _) ++ (if (kn one other i, one) ∈ ps then [(i, n)] else []))))
            rw [if_pos hB]
          · rw [decide_eq_false hB]
            walk_at "rd"
            refine ⟨_, _, rfl, e7, ?_⟩
            rw [hD7]
            show _ = some (HO.dT (dP ((tieA ps one other n i ++ _) ++ (if (kn one other i, one) ∈ ps then [(i, n)] else []))))
            rw [if_neg hB, List.append_nil]
        · rw [decide_eq_false hA]
          have e6 := e4
          have hD6 : H4 p = some (.dT (dP (tieA ps one other n i ++ (if (one, kn one other i) ∈ ps then [(n, i)] else [])))) := by rw [if_neg hA, List.append_nil]; exact hD4
          revert e6 hD6
          generalize H4 = H6
          intro e6 hD6
          walk_at "rd"
          refine ⟨_, _, _, _, _, rfl, hg0 _ e6, TG.cl, TG.n1, fG_1 _ _ _ _ _ _, ?_⟩
          refine ⟨sz (by simp), fun p5 hp5 => ?_⟩
          have e7 : Same (hide p H) (upd H6 p5 (.tup [.int other, .int one])) := Same.new e6 hp5
          have hD7 : (upd H6 p5 (.tup [.int other, .int one])) p = some (.dT (dP (tieA ps one other n i ++ (if (one, kn one other i) ∈ ps then [(n, i)] else [])))) := by rw [upd_ne (ne_of_none hD6 hp5)]; exact hD6
          have hK7 : (upd H6 p5 (.tup [.int other, .int one])) p5 = some (.tup ((pk (kn one other i, one)).map kV)) := by rw [upd_same, hkn]; rfl
          revert e7 hD7 hK7
          generalize (upd H6 p5 (.tup [.int other, .int one])) = H7
          intro e7 hD7 hK7
          walk_at "rd"
          refine ⟨_, _, rfl, DGet.t hD7 hK7, ?_⟩
          rw [dP_mem, mem2 i _ one hk hon]
          by_cases hB : (kn one other i, one) ∈ ps
          · rw [decide_eq_true hB]
            walk_at "rd"
            refine ⟨sz (by simp), fun p6 hp6 => ?_⟩
            have e8 : Same (hide p H) (upd H7 p6 (.tup [.int (0 + (i : Int)), .int n])) := Same.new e7 hp6
            have hD8 : (upd H7 p6 (.tup [.int (0 + (i : Int)), .int n])) p = some (.dT (dP (tieA ps one other n i ++ (if (one, kn one other i) ∈ ps then [(n, i)] else [])))) := by rw [upd_ne (ne_of_none hD7 hp6)]; exact hD7
            have nd4 : (i, n) ∉ tieA ps one other n i ++ (if (one, kn one other i) ∈ ps then [(n, i)] else []) := fun h => by
              rcases List.mem_append.mp h with h | h
              · exact nd3 h
              · by_cases hA' : (one, kn one other i) ∈ ps
                · rw [if_pos hA'] at h
                  have := congrArg Prod.fst (List.mem_singleton.mp h)
                  have : i = n := this
                  omega
                · rw [if_neg hA'] at h
                  cases h
            refine ⟨_, _, rfl, DPut.t (k := pk (i, n)) hD8 (by rw [upd_same, Int.zero_add]; rfl) (szl ?_), ?_⟩
            · have := tieA_len ps one other n i
              unfold dP
              rw [List.length_map, List.length_append]
              split <;> simp <;> omega
            rw [dP_put nd4]
            refine ⟨_, _, rfl, Same.mut e8 hide_at, ?_⟩
            rw [upd_same]
            show _ = some (HO.dT (dP ((tieA ps one other n i ++ _) ++ (if (kn one other i, one) ∈ ps then [(i, n)] else []))))
            rw [if_pos hB]
          · rw [decide_eq_false hB]
            walk_at "rd"
            refine ⟨_, _, rfl, e7, ?_⟩
            rw [hD7]
            show _ = some (HO.dT (dP ((tieA ps one other n i ++ _) ++ (if (kn one other i, one) ∈ ps then [(i, n)] else []))))
            rw [if_neg hB, List.append_nil]
      · have hc := of_decide_eq_false hc
        have hkn : kn one other i = i := if_neg hc
        walk_at "rd"
        refine ⟨_, _, _, _, _, rfl, hg0 _ e3, TG.cl, TG.n1, fG_1 _ _ _ _ _ _, ?_⟩
        walk_at "rd"
        refine ⟨sz (by simp), fun p3 hp3 => ?_⟩
        have e4 : Same (hide p H) (upd H' p3 (.tup [.int one, .int (0 + (i : Int))])) := Same.new e3 hp3
        have hD4 : (upd H' p3 (.tup [.int one, .int (0 + (i : Int))])) p = some (.dT (dP (tieA ps one other n i))) := by rw [upd_ne (ne_of_none hD hp3)]; exact hD
        have hK4 : (upd H' p3 (.tup [.int one, .int (0 + (i : Int))])) p3 = some (.tup ((pk (one, kn one other i)).map kV)) := by rw [upd_same, hkn]; rw [Int.zero_add]; rfl
        revert e4 hD4 hK4
        generalize (upd H' p3 (.tup [.int one, .int (0 + (i : Int))])) = H4
        intro e4 hD4 hK4
        walk_at "rd"
        refine ⟨_, _, rfl, DGet.t hD4 hK4, ?_⟩
        rw [dP_mem, mem i one _ hon hk]
        skip
        by_cases hA : (one, kn one other i) ∈ ps
        · rw [decide_eq_true hA]
          walk_at "rd"
          refine ⟨sz (by simp), fun p4 hp4 => ?_⟩
          have e5 : Same (hide p H) (upd H4 p4 (.tup [.int n, .int (0 + (i : Int))])) := Same.new e4 hp4
          have hD5 : (upd H4 p4 (.tup [.int n, .int (0 + (i : Int))])) p = some (.dT (dP (tieA ps one other n i))) := by rw [upd_ne (ne_of_none hD4 hp4)]; exact hD4
          refine ⟨_, _, rfl, DPut.t (k := pk (n, i)) hD5 (by rw [upd_same, Int.zero_add]; rfl) (Nat.lt_of_succ_lt (lenA i (by omega))), ?_⟩
          rw [dP_put nd2]
          have e6 : Same (hide p H) (upd (upd H4 p4 (.tup [.int n, .int (0 + (i : Int))])) p (.dT (dP (tieA ps one other n i ++ [(n, i)])))) := Same.mut e5 hide_at
          have hD6 : (upd (upd H4 p4 (.tup [.int n, .int (0 + (i : Int))])) p (.dT (dP (tieA ps one other n i ++ [(n, i)])))) p = some (.dT (dP (tieA ps one other n i ++ (if (one, kn one other i) ∈ ps then [(n, i)] else [])))) := by rw [if_pos hA, upd_same]
          revert e6 hD6
          generalize (upd (upd H4 p4 (.tup [.int n, .int (0 + (i : Int))])) p (.dT (dP (tieA ps one other n i ++ [(n, i)])))) = H6
          intro e6 hD6
          walk_at "rd"
          refine ⟨_, _, _, _, _, rfl, hg0 _ e6, TG.cl, TG.n1, fG_1 _ _ _ _ _ _, ?_⟩
          refine ⟨sz (by simp), fun p5 hp5 => ?_⟩
          have e7 : Same (hide p H) (upd H6 p5 (.tup [.int (0 + (i : Int)), .int one])) := Same.new e6 hp5
          have hD7 : (upd H6 p5 (.tup [.int (0 + (i : Int)), .int one])) p = some (.dT (dP (tieA ps one other n i ++ (if (one, kn one other i) ∈ ps then [(n, i)] else [])))) := by rw [upd_ne (ne_of_none hD6 hp5)]; exact hD6
          have hK7 : (upd H6 p5 (.tup [.int (0 + (i : Int)), .int one])) p5 = some (.tup ((pk (kn one other i, one)).map kV)) := by rw [upd_same, hkn]; rw [Int.zero_add]; rfl
          revert e7 hD7 hK7
          generalize (upd H6 p5 (.tup [.int (0 + (i : Int)), .int one])) = H7
          intro e7 hD7 hK7
          walk_at "rd"
          refine ⟨_, _, rfl, DGet.t hD7 hK7, ?_⟩
          rw [dP_mem, mem2 i _ one hk hon]
          by_cases hB : (kn one other i, one) ∈ ps
          · rw [decide_eq_true hB]
            walk_at "rd"
            refine ⟨sz (by simp), fun p6 hp6 => ?_⟩
            have e8 : Same (hide p H) (upd H7 p6 (.tup [.int (0 + (i : Int)), .int n])) := Same.new e7 hp6
            have hD8 : (upd H7 p6 (.tup [.int (0 + (i : Int)), .int n])) p = some (.dT (dP (tieA ps one other n i ++ (if (one, kn one other i) ∈ ps then [(n, i)] else [])))) := by rw [upd_ne (ne_of_none hD7 hp6)]; exact hD7
            have nd4 : (i, n) ∉ tieA ps one other n i ++ (if (one, kn one other i) ∈ ps then [(n, i)] else []) := fun h => by
              rcases List.mem_append.mp h with h | h
              · exact nd3 h
              · by_cases hA' : (one, kn one other i) ∈ ps
                · rw [if_pos hA'] at h
                  have := congrArg Prod.fst (List.mem_singleton.mp h)
                  have : i = n := this
                  omega
                · rw [if_neg hA'] at h
                  cases h
            refine ⟨_, _, rfl, DPut.t (k := pk (i, n)) hD8 (by rw [upd_same, Int.zero_add]; rfl) (szl ?_), ?_⟩
            · have := tieA_len ps one other n i
              unfold dP
              rw [List.length_map, List.length_append]
              split <;> simp <;> omega
            rw [dP_put nd4]
            refine ⟨_, _, rfl, Same.mut e8 hide_at, ?_⟩
            rw [upd_same]
            show _ = some (HO.dT (dP ((tieA ps one other n i ++ _) ++ (if (kn one other i, one) ∈ ps then [(i, n)] else []))))
            rw [if_pos hB]
          · rw [decide_eq_false hB]
            walk_at "rd"
            refine ⟨_, _, rfl, e7, ?_⟩
            rw [hD7]
            show _ = some (HO.dT (dP ((tieA ps one other n i ++ _) ++ (if (kn one other i, one) ∈ ps then [(i, n)] else []))))
            rw [if_neg hB, List.append_nil]
        · rw [decide_eq_false hA]
          have e6 := e4
          have hD6 : H4 p = some (.dT (dP (tieA ps one other n i ++ (if (one, kn one other i) ∈ ps then [(n, i)] else [])))) := by rw [if_neg hA, List.append_nil]; exact hD4
          revert e6 hD6
          generalize H4 = H6
          intro e6 hD6
          walk_at "rd"
          refine ⟨_, _, _, _, _, rfl, hg0 _ e6, TG.cl, TG.n1, fG_1 _ _ _ _ _ _, ?_⟩
          refine ⟨sz (by simp), fun p5 hp5 => ?_⟩
          have e7 : Same (hide p H) (upd H6 p5 (.tup [.int (0 + (i : Int)), .int one])) := Same.new e6 hp5
          have hD7 : (upd H6 p5 (.tup [.int (0 + (i : Int)), .int one])) p = some (.dT (dP (tieA ps one other n i ++ (if (one, kn one other i) ∈ ps then [(n, i)] else [])))) := by rw [upd_ne (ne_of_none hD6 hp5)]; exact hD6
          have hK7 : (upd H6 p5 (.tup [.int (0 + (i : Int)), .int one])) p5 = some (.tup ((pk (kn one other i, one)).map kV)) := by rw [upd_same, hkn]; rw [Int.zero_add]; rfl
          revert e7 hD7 hK7
          generalize (upd H6 p5 (.tup [.int (0 + (i : Int)), .int one])) = H7
          intro e7 hD7 hK7
          walk_at "rd"
          refine ⟨_, _, rfl, DGet.t hD7 hK7, ?_⟩
          rw [dP_mem, mem2 i _ one hk hon]
          by_cases hB : (kn one other i, one) ∈ ps
          · rw [decide_eq_true hB]
            walk_at "rd"
            refine ⟨sz (by simp), fun p6 hp6 => ?_⟩
            have e8 : Same (hide p H) (upd H7 p6 (.tup [.int (0 + (i : Int)), .int n])) := Same.new e7 hp6
            have hD8 : (upd H7 p6 (.tup [.int (0 + (i : Int)), .int n])) p = some (.dT (dP (tieA ps one other n i ++ (if (one, kn one other i) ∈ ps then [(n, i)] else [])))) := by rw [upd_ne (ne_of_none hD7 hp6)]; exact hD7
            have nd4 : (i, n) ∉ tieA ps one other n i ++ (if (one, kn one other i) ∈ ps then [(n, i)] else []) := fun h => by
              rcases List.mem_append.mp h with h | h
              · exact nd3 h
              · by_cases hA' : (one, kn one other i) ∈ ps
                · rw [if_pos hA'] at h
                  have := congrArg Prod.fst (List.mem_singleton.mp h)
                  have : i = n := this
                  omega
                · rw [if_neg hA'] at h
                  cases h
            refine ⟨_, _, rfl, DPut.t (k := pk (i, n)) hD8 (by rw [upd_same, Int.zero_add]; rfl) (szl ?_), ?_⟩
            · have := tieA_len ps one other n i
              unfold dP
              rw [List.length_map, List.length_append]
              split <;> simp <;> omega
            rw [dP_put nd4]
            refine ⟨_, _, rfl, Same.mut e8 hide_at, ?_⟩
            rw [upd_same]
            show _ = some (HO.dT (dP ((tieA ps one other n i ++ _) ++ (if (kn one other i, one) ∈ ps then [(i, n)] else []))))
            rw [if_pos hB]
          · rw [decide_eq_false hB]
            walk_at "rd"
            refine ⟨_, _, rfl, e7, ?_⟩
            rw [hD7]
            show _ = some (HO.dT (dP ((tieA ps one other n i ++ _) ++ (if (kn one other i, one) ∈ ps then [(i, n)] else []))))
            rw [if_neg hB, List.append_nil]
    · obtain ⟨y3, y4, rfl, e3, hD⟩ := hP
      exact q _ e3 (by simpa using hD)
  · rw [decide_eq_false h11]
    walk_at "rd"
    have eA : tieA ps one other n 0 = ps := by unfold tieA; rw [if_neg h11, List.append_nil]
    have e0 : Same (hide p H) (upd H p1 (.tup [.int one, .int one])) := fun c u h => e1 _ _ (hide_same _ _ h)
    have d0 : (upd H p1 (.tup [.int one, .int one])) p = some (.dT (dP (tieA ps one other n 0))) := by rw [eA]; exact e1 _ _ hp
    revert e0 d0
    generalize (upd H p1 (.tup [.int one, .int one])) = H0
    intro e0 d0
    walk_at "rd"
    refine ⟨by omega, by omega, ?_⟩
    refine for_range (lo := 0) (n := (n : Int).toNat) (fun i σ H' => ∃ y3 y4, σ = [some (.ref g), some (.ref p), some (.int n), y3, y4] ∧ Same (hide p H) H' ∧ H' p = some (.dT (dP (tieA ps one other n i)))) ⟨_, _, rfl, e0, d0⟩ (fun i σ H' hi hP => ?_) (fun σ H' hP => ?_)
    · obtain ⟨y3, y4, rfl, e3, hD⟩ := hP
      have hin : i < n := by simpa using hi
      have hk := kN i hin
      obtain ⟨nd1, nd2, nd3⟩ := nd i (by omega)
      have nd2 := nd2.resolve_right (by omega)
      have nd3 := nd3.resolve_right (by omega)
      walk_at "rd"
      refine ⟨_, _, _, _, _, rfl, hg0 _ e3, TG.cl, TG.n1, fG_1 _ _ _ _ _ _, ?_⟩
      walk_at "rd"
      have dec : decide (V.int (0 + (i : Int)) = V.int (one : Int)) = decide (i = one) := by
        rw [dec_V_int]
        by_cases h : i = one
        · rw [decide_eq_true h, decide_eq_true (by omega)]
        · rw [decide_eq_false h, decide_eq_false (by omega)]
      rw [dec]
      refine iteS (fun hc => ?_) (fun hc => ?_)
      · have hc := of_decide_eq_true hc
        have hkn : kn one other i = other := if_pos hc
        walk_at "rd"
        refine ⟨_, _, _, _, _, rfl, hg0 _ e3, TG.cl, TG.n2, fG_2 _ _ _ _ _ _, ?_⟩
        walk_at "rd"
        refine ⟨_, _, _, _, _, rfl, hg0 _ e3, TG.cl, TG.n1, fG_1 _ _ _ _ _ _, ?_⟩
        walk_at "rd"
        refine ⟨sz (by simp), fun p3 hp3 => ?_⟩
        have e4 : Same (hide p H) (upd H' p3 (.tup [.int one, .int other])) := Same.new e3 hp3
        have hD4 : (upd H' p3 (.tup [.int one, .int other])) p = some (.dT (dP (tieA ps one other n i))) := by rw [upd_ne (ne_of_none hD hp3)]; exact hD
        have hK4 : (upd H' p3 (.tup [.int one, .int other])) p3 = some (.tup ((pk (one, kn one other i)).map kV)) := by rw [upd_same, hkn]; rfl
        revert e4 hD4 hK4
        generalize (upd H' p3 (.tup [.int one, .int other])) = H4
        intro e4 hD4 hK4
        walk_at "rd"
        refine ⟨_, _, rfl, DGet.t hD4 hK4, ?_⟩
        rw [dP_mem, mem i one _ hon hk]
        skip
        by_cases hA : (one, kn one other i) ∈ ps
        · rw [decide_eq_true hA]
          walk_at "rd"
          refine ⟨sz (by simp), fun p4 hp4 => ?_⟩
          have e5 : Same (hide p H) (upd H4 p4 (.tup [.int n, .int (0 + (i : Int))])) := Same.new e4 hp4
          have hD5 : (upd H4 p4 (.tup [.int n, .int (0 + (i : Int))])) p = some (.dT (dP (tieA ps one other n i))) := by rw [upd_ne (ne_of_none hD4 hp4)]; exact hD4
          refine ⟨_, _, rfl, DPut.t (k := pk (n, i)) hD5 (by rw [upd_same, Int.zero_add]; rfl) (Nat.lt_of_succ_lt (lenA i (by omega))), ?_⟩
          rw [dP_put nd2]
          have e6 : Same (hide p H) (upd (upd H4 p4 (.tup [.int n, .int (0 + (i : Int))])) p (.dT (dP (tieA ps one other n i ++ [(n, i)])))) := Same.mut e5 hide_at
          have hD6 : (upd (upd H4 p4 (.tup [.int n, .int (0 + (i : Int))])) p (.dT (dP (tieA ps one other n i ++ [(n, i)])))) p = some (.dT (dP (tieA ps one other n i ++ (if (one, kn one other i) ∈ ps then [(n, i)] else [])))) := by rw [if_pos hA, upd_same]
          revert e6 hD6
          generalize (upd (upd H4 p4 (.tup [.int n, .int (0 + (i : Int))])) p (.dT (dP (tieA ps one other n i ++ [(n, i)])))) = H6
          intro e6 hD6
          walk_at "rd"
          refine ⟨_, _, _, _, _, rfl, hg0 _ e6, TG.cl, TG.n1, fG_1 _ _ _ _ _ _, ?_⟩
          refine ⟨sz (by simp), fun p5 hp5 => ?_⟩
          have e7 : Same (hide p H) (upd H6 p5 (.tup [.int other, .int one])) := Same.new e6 hp5
          have hD7 : (upd H6 p5 (.tup [.int other, .int one])) p = some (.dT (dP (tieA ps one other n i ++ (if (one, kn one other i) ∈ ps then [(n, i)] else [])))) := by rw [upd_ne (ne_of_none hD6 hp5)]; exact hD6
          have hK7 : (upd H6 p5 (.tup [.int other, .int one])) p5 = some (.tup ((pk (kn one other i, one)).map kV)) := by rw [upd_same, hkn]; rfl
          revert e7 hD7 hK7
          generalize (upd H6 p5 (.tup [.int other, .int one])) = H7
          intro e7 hD7 hK7
          walk_at "rd"
          refine ⟨_, _, rfl, DGet.t hD7 hK7, ?_⟩
          rw [dP_mem, mem2 i _ one hk hon]
          by_cases hB : (kn one other i, one) ∈ ps
          · rw [decide_eq_true hB]
            walk_at "rd"
            refine ⟨sz (by simp), fun p6 hp6 => ?_⟩
            have e8 : Same (hide p H) (upd H7 p6 (.tup [.int (0 + (i : Int)), .int n])) := Same.new e7 hp6
            have hD8 : (upd H7 p6 (.tup [.int (0 + (i : Int)), .int n])) p = some (.dT (dP (tieA ps one other n i ++ (if (one, kn one other i) ∈ ps then [(n, i)] else [])))) := by rw [upd_ne (ne_of_none hD7 hp6)]; exact hD7
            have nd4 : (i, n) ∉ tieA ps one other n i ++ (if (one, kn one other i) ∈ ps then [(n, i)] else []) := fun h => by
              rcases List.mem_append.mp h with h | h
              · exact nd3 h
              · by_cases hA' : (one, kn one other i) ∈ ps
                · rw [if_pos hA'] at h
                  have := congrArg Prod.fst (List.mem_singleton.mp h)
                  have : i = n := this
                  omega
                · rw [if_neg hA'] at h
                  cases h
            refine ⟨_, _, rfl, DPut.t (k := pk (i, n)) hD8 (by rw [upd_same, Int.zero_add]; rfl) (szl ?_), ?_⟩
            · have := tieA_len ps one other n i
              unfold dP
              rw [List.length_map, List.length_append]
              split <;> simp <;> omega
            rw [dP_put nd4]
            refine ⟨_, _, rfl, Same.mut e8 hide_at, ?_⟩
            rw [upd_same]
            show _ = some (HO.dT (dP ((tieA ps one other n i ++ _) ++ (if (kn one other i, one) ∈ ps then [(i, n)] else []))))
            rw [if_pos hB]
          · rw [decide_eq_false hB]
            walk_at "rd"
            refine ⟨_, _, rfl, e7, ?_⟩
            rw [hD7]
            show _ = some (HO.dT (dP ((tieA ps one other n i ++ _) ++ (if (kn one other i, one) ∈ ps then [(i, n)] else []))))
            rw [if_neg hB, List.append_nil]
        · rw [decide_eq_false hA]
          have e6 := e4
          have hD6 : H4 p = some (.dT (dP (tieA ps one other n i ++ (if (one, kn one other i) ∈ ps then [(n, i)] else [])))) := by rw [if_neg hA, List.append_nil]; exact hD4
          revert e6 hD6
          generalize H4 = H6
          intro e6 hD6
          walk_at "rd"
          refine ⟨_, _, _, _, _, rfl, hg0 _ e6, TG.cl, TG.n1, fG_1 _ _ _ _ _ _, ?_⟩
          refine ⟨sz (by simp), fun p5 hp5 => ?_⟩
          have e7 : Same (hide p H) (upd H6 p5 (.tup [.int other, .int one])) := Same.new e6 hp5
          have hD7 : (upd H6 p5 (.tup [.int other, .int one])) p = some (.dT (dP (tieA ps one other n i ++ (if (one, kn one other i) ∈ ps then [(n, i)] else [])))) := by rw [upd_ne (ne_of_none hD6 hp5)]; exact hD6
          have hK7 : (upd H6 p5 (.tup [.int other, .int one])) p5 = some (.tup ((pk (kn one other i, one)).map kV)) := by rw [upd_same, hkn]; rfl
          revert e7 hD7 hK7
          generalize (upd H6 p5 (.tup [.int other, .int one])) = H7
          intro e7 hD7 hK7
          walk_at "rd"
          refine ⟨_, _, rfl, DGet.t hD7 hK7, ?_⟩
          rw [dP_mem, mem2 i _ one hk hon]
          by_cases hB : (kn one other i, one) ∈ ps
          · rw [decide_eq_true hB]
            walk_at "rd"
            refine ⟨sz (by simp), fun p6 hp6 => ?_⟩
            have e8 : Same (hide p H) (upd H7 p6 (.tup [.int (0 + (i : Int)), .int n])) := Same.new e7 hp6
            have hD8 : (upd H7 p6 (.tup [.int (0 + (i : Int)), .int n])) p = some (.dT (dP (tieA ps one other n i ++ (if (one, kn one other i) ∈ ps then [(n, i)] else [])))) := by rw [upd_ne (ne_of_none hD7 hp6)]; exact hD7
            have nd4 : (i, n) ∉ tieA ps one other n i ++ (if (one, kn one other i) ∈ ps then [(n, i)] else []) := fun h => by
              rcases List.mem_append.mp h with h | h
              · exact nd3 h
              · by_cases hA' : (one, kn one other i) ∈ ps
                · rw [if_pos hA'] at h
                  have := congrArg Prod.fst (List.mem_singleton.mp h)
                  have : i = n := this
                  omega
                · rw [if_neg hA'] at h
                  cases h
            refine ⟨_, _, rfl, DPut.t (k := pk (i, n)) hD8 (by rw [upd_same, Int.zero_add]; rfl) (szl ?_), ?_⟩
            · have := tieA_len ps one other n i
              unfold dP
              rw [List.length_map, List.length_append]
              split <;> simp <;> omega
            rw [dP_put nd4]
            refine ⟨_, _, rfl, Same.mut e8 hide_at, ?_⟩
            rw [upd_same]
            show _ = some (HO.dT (dP ((tieA ps one other n i ++ _) ++ (if (kn one other i, one) ∈ ps then [(i, n)] else []))))
            rw [if_pos hB]
          · rw [decide_eq_false hB]
            walk_at "rd"
            refine ⟨_, _, rfl, e7, ?_⟩
            rw [hD7]
            show _ = some (HO.dT (dP ((tieA ps one other n i ++ _) ++ (if (kn one other i, one) ∈ ps then [(i, n)] else []))))
            rw [if_neg hB, List.append_nil]
      · have hc := of_decide_eq_false hc
        have hkn : kn one other i = i := if_neg hc
        walk_at "rd"
        refine ⟨_, _, _, _, _, rfl, hg0 _ e3, TG.cl, TG.n1, fG_1 _ _ _ _ _ _, ?_⟩
        walk_at "rd"
        refine ⟨sz (by simp), fun p3 hp3 => ?_⟩
        have e4 : Same (hide p H) (upd H' p3 (.tup [.int one, .int (0 + (i : Int))])) := Same.new e3 hp3
        have hD4 : (upd H' p3 (.tup [.int one, .int (0 + (i : Int))])) p = some (.dT (dP (tieA ps one other n i))) := by rw [upd_ne (ne_of_none hD hp3)]; exact hD
        have hK4 : (upd H' p3 (.tup [.int one, .int (0 + (i : Int))])) p3 = some (.tup ((pk (one, kn one other i)).map kV)) := by rw [upd_same, hkn]; rw [Int.zero_add]; rfl
        revert e4 hD4 hK4
        generalize (upd H' p3 (.tup [.int one, .int (0 + (i : Int))])) = H4
        intro e4 hD4 hK4
        walk_at "rd"
        refine ⟨_, _, rfl, DGet.t hD4 hK4, ?_⟩
        rw [dP_mem, mem i one _ hon hk]
        skip
        by_cases hA : (one, kn one other i) ∈ ps
        · rw [decide_eq_true hA]
          walk_at "rd"
          refine ⟨sz (by simp), fun p4 hp4 => ?_⟩
          have e5 : Same (hide p H) (upd H4 p4 (.tup [.int n, .int (0 + (i : Int))])) := Same.new e4 hp4
          have hD5 : (upd H4 p4 (.tup [.int n, .int (0 + (i : Int))])) p = some (.dT (dP (tieA ps one other n i))) := by rw [upd_ne (ne_of_none hD4 hp4)]; exact hD4
          refine ⟨_, _, rfl, DPut.t (k := pk (n, i)) hD5 (by rw [upd_same, Int.zero_add]; rfl) (Nat.lt_of_succ_lt (lenA i (by omega))), ?_⟩
          rw [dP_put nd2]
          have e6 : Same (hide p H) (upd (upd H4 p4 (.tup [.int n, .int (0 + (i : Int))])) p (.dT (dP (tieA ps one other n i ++ [(n, i)])))) := Same.mut e5 hide_at
          have hD6 : (upd (upd H4 p4 (.tup [.int n, .int (0 + (i : Int))])) p (.dT (dP (tieA ps one other n i ++ [(n, i)])))) p = some (.dT (dP (tieA ps one other n i ++ (if (one, kn one other i) ∈ ps then [(n, i)] else [])))) := by rw [if_pos hA, upd_same]
          revert e6 hD6
          generalize (upd (upd H4 p4 (.tup [.int n, .int (0 + (i : Int))])) p (.dT (dP (tieA ps one other n i ++ [(n, i)])))) = H6
          intro e6 hD6
          walk_at "rd"
          refine ⟨_, _, _, _, _, rfl, hg0 _ e6, TG.cl, TG.n1, fG_1 _ _ _ _ _ _, ?_⟩
          refine ⟨sz (by simp), fun p5 hp5 => ?_⟩
          have e7 : Same (hide p H) (upd H6 p5 (.tup [.int (0 + (i : Int)), .int one])) := Same.new e6 hp5
          have hD7 : (upd H6 p5 (.tup [.int (0 + (i : Int)), .int one])) p = some (.dT (dP (tieA ps one other n i ++ (if (one, kn one other i) ∈ ps then [(n, i)] else [])))) := by rw [upd_ne (ne_of_none hD6 hp5)]; exact hD6
          have hK7 : (upd H6 p5 (.tup [.int (0 + (i : Int)), .int one])) p5 = some (.tup ((pk (kn one other i, one)).map kV)) := by rw [upd_same, hkn]; rw [Int.zero_add]; rfl
          revert e7 hD7 hK7
          generalize (upd H6 p5 (.tup [.int (0 + (i : Int)), .int one])) = H7
          intro e7 hD7 hK7
          walk_at "rd"
          refine ⟨_, _, rfl, DGet.t hD7 hK7, ?_⟩
          rw [dP_mem, mem2 i _ one hk hon]
          by_cases hB : (kn one other i, one) ∈ ps
          · rw [decide_eq_true hB]
            walk_at "rd"
            refine ⟨sz (by simp), fun p6 hp6 => ?_⟩
            have e8 : Same (hide p H) (upd H7 p6 (.tup [.int (0 + (i : Int)), .int n])) := Same.new e7 hp6
            have hD8 : (upd H7 p6 (.tup [.int (0 + (i : Int)), .int n])) p = some (.dT (dP (tieA ps one other n i ++ (if (one, kn one other i) ∈ ps then [(n, i)] else [])))) := by rw [upd_ne (ne_of_none hD7 hp6)]; exact hD7
            have nd4 : (i, n) ∉ tieA ps one other n i ++ (if (one, kn one other i) ∈ ps then [(n, i)] else []) := fun h => by
              rcases List.mem_append.mp h with h | h
              · exact nd3 h
              · by_cases hA' : (one, kn one other i) ∈ ps
                · rw [if_pos hA'] at h
                  have := congrArg Prod.fst (List.mem_singleton.mp h)
                  have : i = n := this
                  omega
                · rw [if_neg hA'] at h
                  cases h
            refine ⟨_, _, rfl, DPut.t (k := pk (i, n)) hD8 (by rw [upd_same, Int.zero_add]; rfl) (szl ?_), ?_⟩
            · have := tieA_len ps one other n i
              unfold dP
              rw [List.length_map, List.length_append]
              split <;> simp <;> omega
            rw [dP_put nd4]
            refine ⟨_, _, rfl, Same.mut e8 hide_at, ?_⟩
            rw [upd_same]
            show _ = some (HO.dT (dP ((tieA ps one other n i ++ _) ++ (if (kn one other i, one) ∈ ps then [(i, n)] else []))))
            rw [if_pos hB]
          · rw [decide_eq_false hB]
            walk_at "rd"
            refine ⟨_, _, rfl, e7, ?_⟩
            rw [hD7]
            show _ = some (HO.dT (dP ((tieA ps one other n i ++ _) ++ (if (kn one other i, one) ∈ ps then [(i, n)] else []))))
            rw [if_neg hB, List.append_nil]
        · rw [decide_eq_false hA]
          have e6 := e4
          have hD6 : H4 p = some (.dT (dP (tieA ps one other n i ++ (if (one, kn one other i) ∈ ps then [(n, i)] else [])))) := by rw [if_neg hA, List.append_nil]; exact hD4
          revert e6 hD6
          generalize H4 = H6
          intro e6 hD6
          walk_at "rd"
          refine ⟨_, _, _, _, _, rfl, hg0 _ e6, TG.cl, TG.n1, fG_1 _ _ _ _ _ _, ?_⟩
          refine ⟨sz (by simp), fun p5 hp5 => ?_⟩
          have e7 : Same (hide p H) (upd H6 p5 (.tup [.int (0 + (i : Int)), .int one])) := Same.new e6 hp5
          have hD7 : (upd H6 p5 (.tup [.int (0 + (i : Int)), .int one])) p = some (.dT (dP (tieA ps one other n i ++ (if (one, kn one other i) ∈ ps then [(n, i)] else [])))) := by rw [upd_ne (ne_of_none hD6 hp5)]; exact hD6
          have hK7 : (upd H6 p5 (.tup [.int (0 + (i : Int)), .int one])) p5 = some (.tup ((pk (kn one other i, one)).map kV)) := by rw [upd_same, hkn]; rw [Int.zero_add]; rfl
          revert e7 hD7 hK7
          generalize (upd H6 p5 (.tup [.int (0 + (i : Int)), .int one])) = H7
          intro e7 hD7 hK7
          walk_at "rd"
          refine ⟨_, _, rfl, DGet.t hD7 hK7, ?_⟩
          rw [dP_mem, mem2 i _ one hk hon]
          by_cases hB : (kn one other i, one) ∈ ps
          · rw [decide_eq_true hB]
            walk_at "rd"
            refine ⟨sz (by simp), fun p6 hp6 => ?_⟩
            have e8 : Same (hide p H) (upd H7 p6 (.tup [.int (0 + (i : Int)), .int n])) := Same.new e7 hp6
            have hD8 : (upd H7 p6 (.tup [.int (0 + (i : Int)), .int n])) p = some (.dT (dP (tieA ps one other n i ++ (if (one, kn one other i) ∈ ps then [(n, i)] else [])))) := by rw [upd_ne (ne_of_none hD7 hp6)]; exact hD7
            have nd4 : (i, n) ∉ tieA ps one other n i ++ (if (one, kn one other i) ∈ ps then [(n, i)] else []) := fun h => by
              rcases List.mem_append.mp h with h | h
              · exact nd3 h
              · by_cases hA' : (one, kn one other i) ∈ ps
                · rw [if_pos hA'] at h
                  have := congrArg Prod.fst (List.mem_singleton.mp h)
                  have : i = n := this
                  omega
                · rw [if_neg hA'] at h
                  cases h
            refine ⟨_, _, rfl, DPut.t (k := pk (i, n)) hD8 (by rw [upd_same, Int.zero_add]; rfl) (szl ?_), ?_⟩
            · have := tieA_len ps one other n i
              unfold dP
              rw [List.length_map, List.length_append]
              split <;> simp <;> omega
            rw [dP_put nd4]
            refine ⟨_, _, rfl, Same.mut e8 hide_at, ?_⟩
            rw [upd_same]
            show _ = some (HO.dT (dP ((tieA ps one other n i ++ _) ++ (if (kn one other i, one) ∈ ps then [(i, n)] else []))))
            rw [if_pos hB]
          · rw [decide_eq_false hB]
            walk_at "rd"
            refine ⟨_, _, rfl, e7, ?_⟩
            rw [hD7]
            show _ = some (HO.dT (dP ((tieA ps one other n i ++ _) ++ (if (kn one other i, one) ∈ ps then [(i, n)] else []))))
            rw [if_neg hB, List.append_nil]
    · obtain ⟨y3, y4, rfl, e3, hD⟩ := hP
      exact q _ e3 (by simpa using hD)
end
end K48
namespace K48
open PySem PySem.Spec PyProof.Rows L2
local macro_rules | `(tactic| walk_at "rd") => `(tactic| repeat (first | refine ⟨_, rfl, ?_⟩ | refine ⟨_, _, rfl, rfl, ?_⟩ | refine ⟨rfl, ?_⟩ | refine iteTk (by decide +kernel) ?_ | refine iteFk (by decide +kernel) ?_))
local macro_rules | `(tactic| walk_at "rdr") => `(tactic| repeat (first | refine ⟨_, rfl, ?_⟩ | refine ⟨_, _, rfl, rfl, ?_⟩ | refine ⟨rfl, ?_⟩ | refine iteTk (by first | decide +kernel | rfl) ?_ | refine iteFk (by first | decide +kernel | rfl) ?_))
local macro_rules | `(tactic| walk_at "tyn") => `(tactic| first | exact .int _ | exact .bl _ | exact .str _ | exact .tup (by assumption) | exact .lst (by assumption) | exact .dK (by assumption))
local macro_rules | `(tactic| walk_at "isT") => `(tactic| refine ⟨_, _, _, _, true, rfl, .ty _, TyN.x (by walk_at "tyn"), kit_ty (by decide +kernel), ?_⟩)
local macro_rules | `(tactic| walk_at "isF") => `(tactic| refine ⟨_, _, _, _, false, rfl, .ty _, TyN.x (by walk_at "tyn"), kit_ty (by decide +kernel), ?_⟩)
local macro_rules | `(tactic| walk_at "nz") => `(tactic| first | refine nzG (by simp only [List.set_cons_succ, List.set_cons_zero]; rfl) ?_ | refine reS (by simp only [List.set_cons_succ, List.set_cons_zero]; rfl) ?_)
/-- the heap without these -/
def hidL (L : List Addr) (H : Hp) : Hp := fun b => if b ∈ L then none else H b
theorem hidL_ne {L : List Addr} {b : Addr} {H : Hp} (h : b ∉ L) : hidL L H b = H b := if_neg h
theorem hidL_in {L : List Addr} {b : Addr} {H : Hp} (h : b ∈ L) : hidL L H b = none := if_pos h
theorem hidL_some {L : List Addr} {b : Addr} {H : Hp} {u : HO} (h : hidL L H b = some u) : b ∉ L ∧ H b = some u := by
  unfold hidL at h
  split at h
  · cases h
  · exact ⟨by assumption, h⟩
theorem hidL_same {L : List Addr} {H : Hp} : Same (hidL L H) H := fun _ _ h => (hidL_some h).2
theorem hidL_into {L : List Addr} {H H' : Hp} (e : Same (hidL L H) H') : Same (hidL L H) (hidL L H') := fun b u h => by
  obtain ⟨n, _⟩ := hidL_some h
  rw [hidL_ne n]
  exact e _ _ h
theorem hidL_base {L : List Addr} {G H : Hp} (e : Same G H) (n : ∀ b ∈ L, G b = none) : Same G (hidL L H) := fun b u h => by
  rw [hidL_ne (fun m => by rw [n b m] at h; cases h)]
  exact e _ _ h
theorem hidL_mut {L : List Addr} {H H' : Hp} {p : Addr} {o : HO} (e : Same (hidL L H) H') (h : p ∈ L) : Same (hidL L H) (upd H' p o) := Same.mut e (hidL_in h)
theorem hidL_hide {L : List Addr} {H H' H'' : Hp} {p : Addr} (e : Same (hidL L H) H') (h : p ∈ L) (e2 : Same (hide p H') H'') : Same (hidL L H) H'' := fun b u hb => by
  have n : b ≠ p := fun z => by rw [z, hidL_in h] at hb; cases hb
  exact e2 _ _ (by rw [hide_ne n]; exact e _ _ hb)
theorem hidL_mono {L M : List Addr} {H H' : Hp} (e : Same (hidL L H) H') (h : ∀ b ∈ L, b ∈ M) : Same (hidL M H) H' := fun b u hb => by
  obtain ⟨n, hb⟩ := hidL_some hb
  exact e _ _ (by rw [hidL_ne (fun m => n (h b m))]; exact hb)
/-- a growth, its dicts apart -/
structure GrowAt (cG : Addr) (H : Hp) (g dx at_ am ati : Addr) (fm ft : Str → Addr) (W : Wd) (one other : Nat) : Prop where
  ins : H g = some (.ins cG dx (fG at_ one other W.n am ati))
  mr : MkAt H am W.T.marks fm W.ms
  tr : TiAt H ati W.T.ties ft W.ts
  im : ∀ m ∈ W.T.marks, ∀ m' ∈ W.T.marks, fm m = fm m' → m = m'
  it : ∀ m ∈ W.T.ties, ∀ m' ∈ W.T.ties, ft m = ft m' → m = m'
  nm : ∀ m ∈ W.T.marks, fm m ≠ am ∧ fm m ≠ ati
  aa : am ≠ ati
def growL (g am ati : Addr) (fm ft : Str → Addr) (T : Tng) : List Addr := g :: am :: ati :: (T.marks.map fm ++ T.ties.map ft)
section
variable {P : Program} {w : World} {K : PySem.W.Frag} {mg : Str → Option Value} {base : Heap} {cT cW cG : Addr}
def spPut (cG : Addr) : Sp := fun vs H Q _ => ∃ (g dx at_ am ati : Addr) (fm ft : Str → Addr) (W : Wd) (one other : Nat), vs = [.ref g] ∧ GrowAt cG H g dx at_ am ati fm ft W one other ∧ W.Ok ∧ W.n + 1 ≤ 15 ∧ one < W.n ∧ other < W.n ∧
  ∀ H', Same (hidL (growL g am ati fm ft W.T) H) H' → GrowAt cG H' g dx at_ am ati fm ft (putW W one other) one other → Q .non H'
theorem ok_put (TG : ClG K cG) (B : Blt mg) (D : Mth K cG "put" "Growth.put" s_Growth_put) (c_tie : MethOk P w K mg base cG 1 "tie" P_Growth_tie (spTie cG)) : MethOk P w K mg base cG 2 "put" P_Growth_put (spPut cG) := by
  refine methOk D sc_Growth_put bd_Growth_put (fun vs H Q E h => ?_) (fun f cdv A outer st H vs Q E hr h => ?_)
  · obtain ⟨g, dx, at_, am, ati, fm, ft, W, one, other, rfl, _⟩ := h
    rfl
  obtain ⟨g, dx, at_, am, ati, fm, ft, W, one, other, rfl, GA, ok, hn, hon, hot, q⟩ := h
  have hu := hu_of hr
  refine ⟨_, pss_cons (ps_set (i := 1) sc_Growth_put.nd rfl (.inl rfl) (pe_fld (pv 0) rfl)) (pss_cons (ps_lock (ps_for PassesOwn.never rfl (pi_keys (pe_fld (pv 0) rfl)) (pg_name (i := 2) sc_Growth_put.nd rfl (.inl rfl)) (pss_one (ps_if (pt_cmp (pc_din hu (pe_fld (pv 0) rfl) (pe_dget hu (pe_fld (pv 0) rfl) (pv 2) (fun _ _ => rfl)))) (pss_one (ps_dput hu (pe_dget hu (pe_fld (pv 0) rfl) (pv 2) (fun _ _ => rfl)) (pv 1) (pe_bl) rfl)) (pss_nil))))) (pss_cons (ps_lock (ps_for PassesOwn.never rfl (pi_keys (pe_fld (pv 0) rfl)) (pg_name (i := 2) sc_Growth_put.nd rfl (.inl rfl)) (pss_one (ps_expr (pe_me c_tie TG.cl hr (pv 0) (pa_cons (pe_dget hu (pe_fld (pv 0) rfl) (pv 2) (fun _ _ => rfl)) (pa_cons (pv 1) pa_nil))))))) (pss_one (ps_fldaug (pv 0) (pe_int) in_add)))), ?_⟩
  have hgam : g ≠ am := ne_of GA.ins GA.mr.1 (by intro z; cases z)
  have hgfm : ∀ m ∈ W.T.marks, g ≠ fm m := fun m hm => ne_of GA.ins (GA.mr.2 m hm) (by intro z; cases z)
  walk_at "rd"
  refine ⟨_, _, _, _, _, rfl, GA.ins, TG.cl, TG.nn, fG_n _ _ _ _ _ _, ?_⟩
  walk_at "rd"
  refine ⟨am, _, GA.mr.1, True.intro, fun od => ?_⟩
  have hgL : (upd H am (.frz od (.dK (dR (withA W.T.marks fm))))) g = some (.ins cG dx (fG at_ one other W.n am ati)) := by rw [upd_ne hgam]; exact GA.ins
  refine ⟨_, rfl, ?_⟩
  refine ⟨_, _, _, _, _, rfl, hgL, TG.cl, TG.nm, fG_m _ _ _ _ _ _, ?_⟩
  refine ⟨am, od, rfl, .inl ⟨_, upd_same, ?_⟩⟩
  refine for_it walk_keys (fun i σ H' => Same (hidL (am :: W.T.marks.map fm) H) H' ∧ H' am = some (.frz od (.dK (dR (withA W.T.marks fm)))) ∧ (∀ m ∈ W.T.marks, H' (fm m) = some (.dK (dI (if m ∈ W.T.marks.take i then (putW W one other).ms m else W.ms m)))) ∧ ∃ y, σ = [some (.ref g), some (.int W.n), y])
    ⟨hidL_mut hidL_same (by simp), upd_same, fun m hm => by rw [upd_ne (GA.nm m hm).1, GA.mr.2 m hm]; simp, _, rfl⟩ (fun i σ H' _ hP => hP.2.1) (fun i x σ H0 H' hi hP y => ?_) (fun σ H' hP => ?_)
  · obtain ⟨e1, hA, hM, y', rfl⟩ := hP
    obtain ⟨rfl, k, v, hk', rfl⟩ := y
    obtain ⟨p, hp, e⟩ := map_at hk'
    cases e
    obtain ⟨m, hm, rfl⟩ := map_at hp
    have hmm := List.mem_of_getElem? hm
    obtain ⟨n1, n2⟩ := nodup_take ok.ndm hm
    have hg' : H' g = some (.ins cG dx (fG at_ one other W.n am ati)) := e1 _ _ (by
      rw [hidL_ne]
      · exact GA.ins
      · intro z
        rcases List.mem_cons.mp z with z | z
        · exact hgam z
        · obtain ⟨m', h1, h2⟩ := List.mem_map.mp z
          exact hgfm m' h1 h2.symm)
    have hMm : H' (fm m) = some (.dK (dI (W.ms m))) := by rw [hM m hmm, if_neg n1]
    walk_at "rd"
    refine ⟨_, _, _, _, _, rfl, hg', TG.cl, TG.n1, fG_1 _ _ _ _ _ _, ?_⟩
    walk_at "rd"
    refine ⟨_, _, _, _, _, rfl, hg', TG.cl, TG.nm, fG_m _ _ _ _ _ _, ?_⟩
    walk_at "rd"
    refine ⟨_, _, rfl, .inl ⟨_, Sum.inr m, .inr ⟨_, hA⟩, rfl, (withA_val ok.ndm hmm).symm⟩, ?_⟩
    refine ⟨_, _, rfl, DGet.k (k := Sum.inl (one : Int)) hMm, ?_⟩
    rw [dI_mem]
    by_cases ho : one ∈ W.ms m
    · rw [decide_eq_true ho]
      walk_at "rd"
      refine ⟨_, _, _, _, _, rfl, hg', TG.cl, TG.nm, fG_m _ _ _ _ _ _, ?_⟩
      walk_at "rd"
      refine ⟨_, _, rfl, .inl ⟨_, Sum.inr m, .inr ⟨_, hA⟩, rfl, (withA_val ok.ndm hmm).symm⟩, ?_⟩
      walk_at "rd"
      refine ⟨_, _, rfl, DPut.k (k := Sum.inl (W.n : Int)) hMm (szl (by have := ok.m.len m hmm; unfold dI; rw [List.length_map]; omega)), ?_⟩
      have hnn : W.n ∉ W.ms m := fun h => by have := ok.m.lt m hmm _ h; omega
      rw [dI_put hnn]
      refine ⟨hidL_mut e1 (by simp; exact .inr ⟨m, hmm, rfl⟩), by rw [upd_ne (Ne.symm (GA.nm m hmm).1)]; exact hA, fun m' hm' => ?_, _, rfl⟩
      by_cases hmq : m' = m
      · subst hmq
        rw [upd_same, n2, if_pos (by simp)]
        simp [putW, ho]
      · rw [upd_ne (fun z => hmq (GA.im m' hm' m hmm z)), hM m' hm', n2]
        simp [hmq]
    · rw [decide_eq_false ho]
      walk_at "rd"
      refine ⟨e1, hA, fun m' hm' => ?_, _, rfl⟩
      rw [hM m' hm', n2]
      by_cases hmq : m' = m
      · subst hmq
        rw [if_neg n1, if_pos (by simp)]
        simp [putW, ho]
      · simp [hmq]
  · obtain ⟨e1, hA, hM, y', rfl⟩ := hP
    refine ⟨hA, ?_⟩
    have eK : W.T.marks.take (dR (withA W.T.marks fm)).length = W.T.marks := List.take_of_length_le (by simp [dR, withA])
    rw [eK] at hM
    have hM : ∀ m ∈ W.T.marks, H' (fm m) = some (.dK (dI ((putW W one other).ms m))) := fun m hm => by rw [hM m hm, if_pos hm]
    have e2 : Same (hidL (am :: W.T.marks.map fm) H) (upd H' am (.dK (dR (withA W.T.marks fm)))) := hidL_mut e1 (by simp)
    have hA2 : (upd H' am (.dK (dR (withA W.T.marks fm)))) am = some (.dK (dR (withA W.T.marks fm))) := upd_same
    have hM2 : ∀ m ∈ W.T.marks, (upd H' am (.dK (dR (withA W.T.marks fm)))) (fm m) = some (.dK (dI ((putW W one other).ms m))) := fun m hm => by rw [upd_ne (GA.nm m hm).1]; exact hM m hm
    revert e2 hA2 hM2
    generalize (upd H' am (.dK (dR (withA W.T.marks fm)))) = H1
    intro e2 hA2 hM2
    have notin : ∀ c o, H c = some o → (∀ kvs, o ≠ .dK kvs) → c ∉ am :: W.T.marks.map fm := fun c o hc ho z => by
      rcases List.mem_cons.mp z with z | z
      · rw [z, GA.mr.1] at hc
        exact ho _ (Option.some.inj hc).symm
      · obtain ⟨m, h1, h2⟩ := List.mem_map.mp z
        rw [← h2, GA.mr.2 m h1] at hc
        exact ho _ (Option.some.inj hc).symm
    have hati : ati ∉ am :: W.T.marks.map fm := fun z => by
      rcases List.mem_cons.mp z with z | z
      · exact GA.aa z.symm
      · obtain ⟨m, h1, h2⟩ := List.mem_map.mp z
        exact (GA.nm m h1).2 h2
    have hg1 : H1 g = some (.ins cG dx (fG at_ one other W.n am ati)) := e2 _ _ (by rw [hidL_ne (notin _ _ GA.ins (fun _ z => by cases z))]; exact GA.ins)
    have hB1 : H1 ati = some (.dK (dR (withA W.T.ties ft))) := e2 _ _ (by rw [hidL_ne hati]; exact GA.tr.1)
    have hT1 : ∀ t ∈ W.T.ties, H1 (ft t) = some (.dT (dP (W.ts t))) := fun t ht => e2 _ _ (by rw [hidL_ne (notin _ _ (GA.tr.2 t ht) (fun _ z => by cases z))]; exact GA.tr.2 t ht)
    have hgat : g ≠ ati := ne_of hg1 hB1 (by intro z; cases z)
    have notin2 : ∀ c o, H1 c = some o → (∀ kvs, o ≠ .dT kvs) → c ≠ ati → c ∉ ati :: W.T.ties.map ft := fun c o hc ho hne z => by
      rcases List.mem_cons.mp z with z | z
      · exact hne z
      · obtain ⟨m, h1, h2⟩ := List.mem_map.mp z
        rw [← h2, hT1 m h1] at hc
        exact ho _ (Option.some.inj hc).symm
    have hgn : g ∉ ati :: W.T.ties.map ft := notin2 _ _ hg1 (fun _ z => by cases z) hgat
    refine ⟨ati, _, hB1, True.intro, fun od2 => ?_⟩
    have hgL2 : (upd H1 ati (.frz od2 (.dK (dR (withA W.T.ties ft))))) g = some (.ins cG dx (fG at_ one other W.n am ati)) := by rw [upd_ne hgat]; exact hg1
    refine ⟨_, rfl, ?_⟩
    refine ⟨_, _, _, _, _, rfl, hgL2, TG.cl, TG.nt, fG_t _ _ _ _ _ _, ?_⟩
    refine ⟨ati, od2, rfl, .inl ⟨_, upd_same, ?_⟩⟩
    have hfa : ∀ t ∈ W.T.ties, ft t ≠ ati := fun t ht => ne_of (hT1 t ht) hB1 (by intro z; cases z)
    refine for_it walk_keys (fun i σ H' => Same (hidL (ati :: W.T.ties.map ft) H1) H' ∧ H' ati = some (.frz od2 (.dK (dR (withA W.T.ties ft)))) ∧ (∀ t ∈ W.T.ties, H' (ft t) = some (.dT (dP (if t ∈ W.T.ties.take i then (putW W one other).ts t else W.ts t)))) ∧ ∃ y, σ = [some (.ref g), some (.int W.n), y])
      ⟨hidL_mut hidL_same (by simp), upd_same, fun t ht => by rw [upd_ne (hfa t ht), hT1 t ht]; simp, _, rfl⟩ (fun i σ H' _ hP => hP.2.1) (fun i x σ H0 H' hi hP y => ?_) (fun σ H' hP => ?_)
    · obtain ⟨e3, hB, hT, y', rfl⟩ := hP
      obtain ⟨rfl, k, v, hk', rfl⟩ := y
      obtain ⟨p, hp, e⟩ := map_at hk'
      cases e
      obtain ⟨t, ht, rfl⟩ := map_at hp
      have htm := List.mem_of_getElem? ht
      obtain ⟨n1, n2⟩ := nodup_take ok.ndt ht
      have hg' : H' g = some (.ins cG dx (fG at_ one other W.n am ati)) := e3 _ _ (by rw [hidL_ne hgn]; exact hg1)
      have hTt : H' (ft t) = some (.dT (dP (W.ts t))) := by rw [hT t htm, if_neg n1]
      walk_at "rd"
      refine ⟨_, _, _, rfl, hg', fG_tie _ _ _ _ _ _, ?_⟩
      walk_at "rd"
      refine ⟨_, _, _, _, _, rfl, hg', TG.cl, TG.nt, fG_t _ _ _ _ _ _, ?_⟩
      walk_at "rd"
      refine ⟨_, _, rfl, .inl ⟨_, Sum.inr t, .inr ⟨_, hB⟩, rfl, (withA_val ok.ndt htm).symm⟩, ?_⟩
      walk_at "rd"
      refine ⟨g, ft t, dx, at_, am, ati, one, other, W.n, W.ts t, rfl, hg', hTt, ok.t.nd t htm, ok.t.lt t htm, Nat.le_trans (ok.t.len t htm) (Nat.le_trans (Nat.mul_le_mul ok.hi ok.hi) (by decide)), hon, hot, ok.hi, fun H5 e5 hT5 => ?_⟩
      walk_at "rd"
      refine ⟨hidL_hide e3 (by simp; exact .inr ⟨t, htm, rfl⟩) e5, e5 _ _ (by rw [hide_ne (Ne.symm (hfa t htm))]; exact hB), fun t' ht' => ?_, _, rfl⟩
      by_cases htq : t' = t
      · subst htq
        rw [hT5, n2, if_pos (by simp)]
        rfl
      · rw [e5 _ _ (by rw [hide_ne (fun z => htq (GA.it t' ht' t htm z))]; exact hT t' ht'), n2]
        simp [htq]
    · obtain ⟨e3, hB, hT, y', rfl⟩ := hP
      refine ⟨hB, ?_⟩
      have eK2 : W.T.ties.take (dR (withA W.T.ties ft)).length = W.T.ties := List.take_of_length_le (by simp [dR, withA])
      rw [eK2] at hT
      have hT : ∀ t ∈ W.T.ties, H' (ft t) = some (.dT (dP ((putW W one other).ts t))) := fun t ht => by rw [hT t ht, if_pos ht]
      have e4 : Same (hidL (ati :: W.T.ties.map ft) H1) (upd H' ati (.dK (dR (withA W.T.ties ft)))) := hidL_mut e3 (by simp)
      have hB2 : (upd H' ati (.dK (dR (withA W.T.ties ft)))) ati = some (.dK (dR (withA W.T.ties ft))) := upd_same
      have hT2 : ∀ t ∈ W.T.ties, (upd H' ati (.dK (dR (withA W.T.ties ft)))) (ft t) = some (.dT (dP ((putW W one other).ts t))) := fun t ht => by rw [upd_ne (hfa t ht)]; exact hT t ht
      revert e4 hB2 hT2
      generalize (upd H' ati (.dK (dR (withA W.T.ties ft)))) = H2
      intro e4 hB2 hT2
      have hg2 : H2 g = some (.ins cG dx (fG at_ one other W.n am ati)) := e4 _ _ (by rw [hidL_ne hgn]; exact hg1)
      have hA3 : H2 am = some (.dK (dR (withA W.T.marks fm))) := e4 _ _ (by rw [hidL_ne (notin2 _ _ hA2 (fun _ z => by cases z) GA.aa)]; exact hA2)
      have hM3 : ∀ m ∈ W.T.marks, H2 (fm m) = some (.dK (dI ((putW W one other).ms m))) := fun m hm => e4 _ _ (by rw [hidL_ne (notin2 _ _ (hM2 m hm) (fun _ z => by cases z) (GA.nm m hm).2)]; exact hM2 m hm)
      walk_at "rd"
      refine ⟨_, _, _, _, _, rfl, hg2, TG.cl, TG.nn, fG_n _ _ _ _ _ _, ?_⟩
      walk_at "rd"
      refine ⟨_, _, hg2, by show 6 < 1000; decide, ?_⟩
      rw [fG_next]
      have ng : ∀ c o, H2 c = some o → (∀ fs, o ≠ .ins cG dx fs) → c ≠ g := fun c o hc ho => ne_of hc hg2 (ho _)
      refine q _ ?_ ⟨upd_same, ⟨by rw [upd_ne (ng _ _ hA3 (fun _ z => by cases z))]; exact hA3, fun m hm => by rw [upd_ne (ng _ _ (hM3 m hm) (fun _ z => by cases z))]; exact hM3 m hm⟩,
        ⟨by rw [upd_ne (ng _ _ hB2 (fun _ z => by cases z))]; exact hB2, fun t ht => by rw [upd_ne (ng _ _ (hT2 t ht) (fun _ z => by cases z))]; exact hT2 t ht⟩, GA.im, GA.it, GA.nm, GA.aa⟩
      refine hidL_mut (fun c u hc => ?_) (by simp [growL])
      obtain ⟨nc, hc⟩ := hidL_some hc
      have c1 : c ∉ am :: W.T.marks.map fm := fun z => nc (by
        rcases List.mem_cons.mp z with z | z
        · simp [growL, z]
        · simp only [growL, List.mem_cons, List.mem_append]
          exact .inr (.inr (.inr (.inl z))))
      have c2 : c ∉ ati :: W.T.ties.map ft := fun z => nc (by
        rcases List.mem_cons.mp z with z | z
        · simp [growL, z]
        · simp only [growL, List.mem_cons, List.mem_append]
          exact .inr (.inr (.inr (.inr z))))
      exact e4 _ _ (by rw [hidL_ne c2]; exact e2 _ _ (by rw [hidL_ne c1]; exact hc))
end
end K48
namespace K48
open PySem PySem.Spec PyProof.Rows L2
local macro_rules | `(tactic| walk_at "rd") => `(tactic| repeat (first | refine ⟨_, rfl, ?_⟩ | refine ⟨_, _, rfl, rfl, ?_⟩ | refine ⟨rfl, ?_⟩ | refine iteTk (by decide +kernel) ?_ | refine iteFk (by decide +kernel) ?_))
local macro_rules | `(tactic| walk_at "rdr") => `(tactic| repeat (first | refine ⟨_, rfl, ?_⟩ | refine ⟨_, _, rfl, rfl, ?_⟩ | refine ⟨rfl, ?_⟩ | refine iteTk (by first | decide +kernel | rfl) ?_ | refine iteFk (by first | decide +kernel | rfl) ?_))
local macro_rules | `(tactic| walk_at "tyn") => `(tactic| first | exact .int _ | exact .bl _ | exact .str _ | exact .tup (by assumption) | exact .lst (by assumption) | exact .dK (by assumption))
local macro_rules | `(tactic| walk_at "isT") => `(tactic| refine ⟨_, _, _, _, true, rfl, .ty _, TyN.x (by walk_at "tyn"), kit_ty (by decide +kernel), ?_⟩)
local macro_rules | `(tactic| walk_at "isF") => `(tactic| refine ⟨_, _, _, _, false, rfl, .ty _, TyN.x (by walk_at "tyn"), kit_ty (by decide +kernel), ?_⟩)
local macro_rules | `(tactic| walk_at "nz") => `(tactic| first | refine nzG (by simp only [List.set_cons_succ, List.set_cons_zero]; rfl) ?_ | refine reS (by simp only [List.set_cons_succ, List.set_cons_zero]; rfl) ?_)
theorem fG_l1 (a : Addr) : (putF "tongue" (.ref a) []).length < 1000 := lt_eqN (by kernel_rfl : (putF "tongue" (.ref a) []).length = 1) (by decide)
theorem fG_l2 (a : Addr) (i : Nat) : (putF "one" (.int i) (putF "tongue" (.ref a) [])).length < 1000 := lt_eqN (by kernel_rfl : (putF "one" (.int i) (putF "tongue" (.ref a) [])).length = 2) (by decide)
theorem fG_l3 (a : Addr) (i j : Nat) : (putF "other" (.int j) (putF "one" (.int i) (putF "tongue" (.ref a) []))).length < 1000 := lt_eqN (by kernel_rfl : (putF "other" (.int j) (putF "one" (.int i) (putF "tongue" (.ref a) []))).length = 3) (by decide)
def fG4 (a : Addr) (i j n : Nat) : List (Str × V) := putF "things" (.int n) (putF "other" (.int j) (putF "one" (.int i) (putF "tongue" (.ref a) [])))
theorem fG_l4 (a : Addr) (i j n : Nat) : (fG4 a i j n).length < 1000 := lt_eqN (by kernel_rfl : (fG4 a i j n).length = 4) (by decide)
theorem fG_l5 (a : Addr) (i j n : Nat) (d : Addr) : (putF "marked" (.ref d) (fG4 a i j n)).length < 1000 := lt_eqN (by kernel_rfl : (putF "marked" (.ref d) (fG4 a i j n)).length = 5) (by decide)
section
variable {P : Program} {w : World} {K : PySem.W.Frag} {mg : Str → Option Value} {base : Heap} {cT cW cG : Addr}
def spGInit (cT cW cG : Addr) : Sp := fun vs H Q _ => ∃ (G : Hp) (x dx wr : Addr) (W : Wd) (one other : Nat), vs = [.ref x, .ref wr, .int one, .int other] ∧ Same G H ∧ G x = none ∧ H x = some (.ins cG dx []) ∧ WorldAt cT cW G wr W ∧ W.Ok ∧
  ∀ H' at_ am ati fm ft, Same (hide x H) H' → GrowAt cG H' x dx at_ am ati fm ft W one other → TongueAt cT G at_ W.T → (∀ b ∈ growL x am ati fm ft W.T, b = x ∨ H b = none) → Q .non H'
theorem ok_Growth_init (T0 : ClT K cT) (TW : ClW K cW) (TG : ClG K cG) (B : Blt mg) (D : Mth K cG "__init__" "Growth.__init__" s_Growth__init) (c_marks : PropOk P w K mg base cT 1 "marks" (getSp cT "kept_marks")) (c_ties : PropOk P w K mg base cT 1 "ties" (getSp cT "kept_ties")) :
    MethOk P w K mg base cG 3 "__init__" P_Growth__init (spGInit cT cW cG) := by
  refine methOk D sc_Growth__init bd_Growth__init (fun vs H Q E h => ?_) (fun f cdv A outer st H vs Q E hr h => ?_)
  · obtain ⟨G, x, dx, wr, W, one, other, rfl, _⟩ := h
    rfl
  obtain ⟨G, x, dx, wr, W, one, other, rfl, eG, hxG, hx, hW, ok, q⟩ := h
  obtain ⟨dw, at_, wm, wt, gm, gt, hI, hT, hMk, hTi⟩ := id hW
  obtain ⟨dT, tm, tt, tf, hTI, hTM, hTT, hTF⟩ := id hT
  have hu := hu_of hr
  refine ⟨_, pss_cons (ps_fld (pv 0) (pe_fld (pv 1) rfl) rfl) (pss_cons (ps_fld (pv 0) (pv 2) rfl) (pss_cons (ps_fld (pv 0) (pv 3) rfl) (pss_cons (ps_fld (pv 0) (pe_fld (pv 1) rfl) rfl) (pss_cons (ps_fld (pv 0) (pe_dc (own := [("name", 4)]) (g := gName 4) (tt := tYes) (by rfl) sc_Growth__init.nd (pi_tup (pe_pr c_marks T0.cl hr (pe_fld (pv 1) rfl))) (blkOk_by (own := [("name", 4)]) (N := N_Growth__init) (by kernel_rfl)) (fun _ _ _ _ _ => pg_name (i := 4) sc_Growth__init.nd rfl (Or.inl rfl)) (fun _ _ _ _ _ => pts_nil) (fun _ _ _ _ _ => pv 4) (fun _ _ _ _ _ => pe_bm0k (K := K) rfl PySem.F.plainAttrs_dict PySem.F.slot_dict_copy PySem.F.type_dict_copy mt_copy (pe_dget hu (pe_fldK (K := K) rfl (pv 1) rfl) (pv 4) (fun _ _ => rfl)))) rfl) (pss_one (ps_fld (pv 0) (pe_dc (own := [("name", 4)]) (g := gName 4) (tt := tYes) (by rfl) sc_Growth__init.nd (pi_tup (pe_pr c_ties T0.cl hr (pe_fld (pv 1) rfl))) (blkOk_by (own := [("name", 4)]) (N := N_Growth__init) (by kernel_rfl)) (fun _ _ _ _ _ => pg_name (i := 4) sc_Growth__init.nd rfl (Or.inl rfl)) (fun _ _ _ _ _ => pts_nil) (fun _ _ _ _ _ => pv 4) (fun _ _ _ _ _ => pe_bm0k (K := K) rfl PySem.F.plainAttrs_dict PySem.F.slot_dict_copy PySem.F.type_dict_copy mt_copy (pe_dget hu (pe_fldK (K := K) rfl (pv 1) rfl) (pv 4) (fun _ _ => rfl)))) rfl)))))), ?_⟩
  walk_at "rd"
  refine ⟨_, _, _, _, _, rfl, eG _ _ hI, TW.cl, TW.nT, fW_T _ _ _ _, ?_⟩
  walk_at "rd"
  refine ⟨_, _, _, _, rfl, hx, TG.cl, TG.nT, by decide, ?_⟩
  walk_at "rd"
  refine ⟨_, _, _, _, rfl, upd_same, TG.cl, TG.n1, fG_l1 _, ?_⟩
  rw [upd_upd]
  walk_at "rd"
  refine ⟨_, _, _, _, rfl, upd_same, TG.cl, TG.n2, fG_l2 _ _, ?_⟩
  rw [upd_upd]
  walk_at "rd"
  refine ⟨_, _, _, _, _, rfl, by rw [upd_ne (ne_of_none hI hxG)]; exact eG _ _ hI, TW.cl, TW.nn, fW_n _ _ _ _, ?_⟩
  walk_at "rd"
  refine ⟨_, _, _, _, rfl, upd_same, TG.cl, TG.nn, fG_l3 _ _ _, ?_⟩
  rw [upd_upd]
  have e3 : Same (hide x H) (upd H x (.ins cG dx (fG4 at_ one other W.n))) := hide_upd
  have eG3 : Same G (upd H x (.ins cG dx (fG4 at_ one other W.n))) := Same.mut eG hxG
  have hx3 : (upd H x (.ins cG dx (fG4 at_ one other W.n))) x = some (.ins cG dx (fG4 at_ one other W.n)) := upd_same
  have fr3 : ∀ b, (upd H x (.ins cG dx (fG4 at_ one other W.n))) b = none → H b = none := fun b hb => by
    by_cases z : b = x
    · rw [z, upd_same] at hb; cases hb
    · rw [upd_ne z] at hb; exact hb
  rw [show (putF "things" (.int W.n) (putF "other" (.int other) (putF "one" (.int one) (putF "tongue" (.ref at_) [])))) = fG4 at_ one other W.n from rfl]
  revert e3 eG3 hx3 fr3
  generalize upd H x (.ins cG dx (fG4 at_ one other W.n)) = H3
  intro e3 eG3 hx3 fr3
  walk_at "rd"
  refine ⟨_, _, _, _, _, rfl, eG3 _ _ hI, TW.cl, TW.nT, fW_T _ _ _ _, ?_⟩
  refine ⟨_, _, _, rfl, eG3 _ _ hTI, _, _, _, _, rfl, eG3 _ _ hTI, fT_m _ _ _, ?_⟩
  refine ⟨_, rfl, ⟨_, SqT.of (eG3 _ _ hTM)⟩, fun D hD0 => ?_⟩
  refine dc_it (walk_tup (xs := W.T.marks.map V.str)) (fun i H' => ∃ fm : Str → Addr, Same H3 H' ∧ H' D = some (.dK (dR (withA (W.T.marks.take i) fm))) ∧ (∀ m ∈ W.T.marks.take i, H' (fm m) = some (.dK (dI (W.ms m))) ∧ fm m ≠ D ∧ H3 (fm m) = none) ∧ ∀ m ∈ W.T.marks.take i, ∀ m' ∈ W.T.marks.take i, fm m = fm m' → m = m')
    ⟨fun _ => 0, Same.new (Same.refl _) hD0, upd_same, (fun m hm => by simp at hm), fun m hm => by simp at hm⟩ (fun i H' _ hP => hP.elim fun fm h => SqT.of (h.1 _ _ (eG3 _ _ hTM))) (fun i x' H0 H' hi hP y => ?_) (fun H' hP => ?_)
  · obtain ⟨fm, e4, hD, hfm, inj⟩ := hP
    obtain ⟨rfl, hx'⟩ := y
    obtain ⟨m, hm, rfl⟩ := map_at hx'
    have hmm := List.mem_of_getElem? hm
    have hml := (List.getElem?_eq_some_iff.mp hm).1
    obtain ⟨n1, n2⟩ := nodup_take ok.ndm hm
    have e5 := eG3.trans e4
    have hMm := e5 _ _ (hMk.2 m hmm)
    refine ⟨rfl, ?_⟩
    walk_at "rd"
    refine ⟨_, _, _, _, _, rfl, e5 _ _ hI, TW.cl, TW.nm, fW_m _ _ _ _, ?_⟩
    walk_at "rd"
    refine ⟨_, _, rfl, .inl ⟨_, Sum.inr m, .inl (e5 _ _ hMk.1), rfl, (withA_val ok.ndm hmm).symm⟩, ?_⟩
    refine ⟨.inr (.inr (.inl ⟨rfl, .inl ⟨_, hMm⟩⟩)), _, rfl, rfl, .inl ⟨_, hMm, fun p hp => ?_⟩⟩
    have hpD : p ≠ D := fun z => by rw [z, hD] at hp; cases hp
    have hD7 : (upd H' p (.dK (dI (W.ms m)))) D = some (.dK (dR (withA (W.T.marks.take i) fm))) := by rw [upd_ne (Ne.symm hpD)]; exact hD
    refine ⟨_, Sum.inr m, rfl, hD7, szl ?_, fun z => if z = m then p else fm z, Same.mut (Same.new e4 hp) hD0, ?_, fun m' hm' => ?_, fun m1 h1 m2 h2 => ?_⟩
    · unfold dR withA
      rw [List.length_map, List.length_map, List.length_take]
      have := ok.lm
      omega
    · rw [upd_same, dR_put ok.ndm hm]
    · rw [n2] at hm'
      by_cases q' : m' = m
      · subst q'
        simp only [if_true]
        exact ⟨by rw [upd_ne hpD, upd_same], hpD, e4.free hp⟩
      · simp only [if_neg q']
        rcases List.mem_append.mp hm' with h | h
        · obtain ⟨g1, g2, g3⟩ := hfm m' h
          exact ⟨by rw [upd_ne g2, upd_ne (ne_of_none g1 hp)]; exact g1, g2, g3⟩
        · exact absurd (by simpa using h) q'
    · rw [n2] at h1 h2
      have old : ∀ z ∈ W.T.marks.take i, fm z ≠ p := fun z hz e => by rw [← e, (hfm z hz).1] at hp; cases hp
      intro e
      by_cases q1 : m1 = m
      · by_cases q2 : m2 = m
        · rw [q1, q2]
        · simp only [if_pos q1, if_neg q2] at e
          rcases List.mem_append.mp h2 with h | h
          · exact absurd e.symm (old m2 h)
          · exact absurd (by simpa using h) q2
      · by_cases q2 : m2 = m
        · simp only [if_neg q1, if_pos q2] at e
          rcases List.mem_append.mp h1 with h | h
          · exact absurd e (old m1 h)
          · exact absurd (by simpa using h) q1
        · simp only [if_neg q1, if_neg q2] at e
          rcases List.mem_append.mp h1 with h | h
          · rcases List.mem_append.mp h2 with k | k
            · exact inj m1 h m2 k e
            · exact absurd (by simpa using k) q2
          · exact absurd (by simpa using h) q1
  · obtain ⟨fm, e4, hDm, hfm, inj⟩ := hP
    rw [List.length_map, List.take_length] at hDm hfm inj
    walk_at "rd"
    have hx4 := e4 _ _ hx3
    refine ⟨_, _, _, _, rfl, hx4, TG.cl, TG.nm, fG_l4 _ _ _ _, ?_⟩
    have nx : ∀ (c : Addr) (o : HO), H' c = some o → (∀ fs, o ≠ .ins cG dx fs) → c ≠ x := fun c o h hn => ne_of h hx4 (fun z => hn _ z)
    have e5 : Same (hide x H) (upd H' x (.ins cG dx (putF "marked" (.ref D) (fG4 at_ one other W.n)))) := fun c u hc => by
      obtain ⟨n1, _⟩ := hide_some hc
      rw [upd_ne n1]
      exact e4 _ _ (e3 _ _ hc)
    have eG5 : Same G (upd H' x (.ins cG dx (putF "marked" (.ref D) (fG4 at_ one other W.n)))) := Same.mut (eG3.trans e4) hxG
    have hx5 : (upd H' x (.ins cG dx (putF "marked" (.ref D) (fG4 at_ one other W.n)))) x = some (.ins cG dx (putF "marked" (.ref D) (fG4 at_ one other W.n))) := upd_same
    have hm5 : MkAt (upd H' x (.ins cG dx (putF "marked" (.ref D) (fG4 at_ one other W.n)))) D W.T.marks fm W.ms := ⟨by rw [upd_ne (nx _ _ hDm (fun _ z => by cases z))]; exact hDm, fun m hm => by rw [upd_ne (nx _ _ (hfm m hm).1 (fun _ z => by cases z))]; exact (hfm m hm).1⟩
    have fr5 : ∀ b, (upd H' x (.ins cG dx (putF "marked" (.ref D) (fG4 at_ one other W.n)))) b = none → H b = none := fun b hb => by
      by_cases z : b = x
      · rw [z, upd_same] at hb; cases hb
      · rw [upd_ne z] at hb
        exact fr3 b (e4.free hb)
    revert e5 eG5 hx5 hm5 fr5
    generalize (upd H' x (.ins cG dx (putF "marked" (.ref D) (fG4 at_ one other W.n)))) = H5
    intro e5 eG5 hx5 hm5 fr5
    walk_at "rd"
    refine ⟨_, _, _, _, _, rfl, eG5 _ _ hI, TW.cl, TW.nT, fW_T _ _ _ _, ?_⟩
    refine ⟨_, _, _, rfl, eG5 _ _ hTI, _, _, _, _, rfl, eG5 _ _ hTI, fT_t _ _ _, ?_⟩
    refine ⟨_, rfl, ⟨_, SqT.of (eG5 _ _ hTT)⟩, fun D2 hD20 => ?_⟩
    refine dc_it (walk_tup (xs := W.T.ties.map V.str)) (fun i H' => ∃ ft : Str → Addr, Same H5 H' ∧ H' D2 = some (.dK (dR (withA (W.T.ties.take i) ft))) ∧ (∀ m ∈ W.T.ties.take i, H' (ft m) = some (.dT (dP (W.ts m))) ∧ H5 (ft m) = none) ∧ ∀ m ∈ W.T.ties.take i, ∀ m' ∈ W.T.ties.take i, ft m = ft m' → m = m')
      ⟨fun _ => 0, Same.new (Same.refl _) hD20, upd_same, (fun m hm => by simp at hm), fun m hm => by simp at hm⟩ (fun i H' _ hP => hP.elim fun fm h => SqT.of (h.1 _ _ (eG5 _ _ hTT))) (fun i x' H0 H' hi hP y => ?_) (fun H' hP => ?_)
    · obtain ⟨ft, e6, hD, hft, inj2⟩ := hP
      obtain ⟨rfl, hx'⟩ := y
      obtain ⟨m, hm, rfl⟩ := map_at hx'
      have hmm := List.mem_of_getElem? hm
      have hml := (List.getElem?_eq_some_iff.mp hm).1
      obtain ⟨n1, n2⟩ := nodup_take ok.ndt hm
      have e7 := eG5.trans e6
      have hMm := e7 _ _ (hTi.2 m hmm)
      refine ⟨rfl, ?_⟩
      walk_at "rd"
      refine ⟨_, _, _, _, _, rfl, e7 _ _ hI, TW.cl, TW.nt, fW_t _ _ _ _, ?_⟩
      walk_at "rd"
      refine ⟨_, _, rfl, .inl ⟨_, Sum.inr m, .inl (e7 _ _ hTi.1), rfl, (withA_val ok.ndt hmm).symm⟩, ?_⟩
      refine ⟨.inr (.inr (.inl ⟨rfl, .inr ⟨_, hMm⟩⟩)), _, rfl, rfl, .inr ⟨W.ts m, hMm, fun p hp => ?_, fun p hp => ?_⟩⟩
      · have := ok.t.lt m hmm p hp
        have := ok.hi
        omega
      have hpD : p ≠ D2 := fun z => by rw [z, hD] at hp; cases hp
      have hD7 : (upd H' p (.dT (dP (W.ts m)))) D2 = some (.dK (dR (withA (W.T.ties.take i) ft))) := by rw [upd_ne (Ne.symm hpD)]; exact hD
      refine ⟨_, Sum.inr m, rfl, hD7, szl ?_, fun z => if z = m then p else ft z, Same.mut (Same.new e6 hp) hD20, ?_, fun m' hm' => ?_, fun m1 h1 m2 h2 => ?_⟩
      · unfold dR withA
        rw [List.length_map, List.length_map, List.length_take]
        have := ok.lt
        omega
      · rw [upd_same, dR_put ok.ndt hm]
      · rw [n2] at hm'
        by_cases q' : m' = m
        · subst q'
          simp only [if_true]
          exact ⟨by rw [upd_ne hpD, upd_same]; rfl, e6.free hp⟩
        · simp only [if_neg q']
          rcases List.mem_append.mp hm' with h | h
          · obtain ⟨g1, g3⟩ := hft m' h
            exact ⟨by rw [upd_ne (ne_of g1 hD (by intro z; cases z)), upd_ne (ne_of_none g1 hp)]; exact g1, g3⟩
          · exact absurd (by simpa using h) q'
      · rw [n2] at h1 h2
        have old : ∀ z ∈ W.T.ties.take i, ft z ≠ p := fun z hz e => by rw [← e, (hft z hz).1] at hp; cases hp
        intro e
        by_cases q1 : m1 = m
        · by_cases q2 : m2 = m
          · rw [q1, q2]
          · simp only [if_pos q1, if_neg q2] at e
            rcases List.mem_append.mp h2 with h | h
            · exact absurd e.symm (old m2 h)
            · exact absurd (by simpa using h) q2
        · by_cases q2 : m2 = m
          · simp only [if_neg q1, if_pos q2] at e
            rcases List.mem_append.mp h1 with h | h
            · exact absurd e (old m1 h)
            · exact absurd (by simpa using h) q1
          · simp only [if_neg q1, if_neg q2] at e
            rcases List.mem_append.mp h1 with h | h
            · rcases List.mem_append.mp h2 with k | k
              · exact inj2 m1 h m2 k e
              · exact absurd (by simpa using k) q2
            · exact absurd (by simpa using h) q1
    · obtain ⟨ft, e6, hDt, hft, inj2⟩ := hP
      rw [List.length_map, List.take_length] at hDt hft inj2
      walk_at "rd"
      have hx6 := e6 _ _ hx5
      refine ⟨_, _, _, _, rfl, hx6, TG.cl, TG.nt, fG_l5 _ _ _ _ _, ?_⟩
      rw [show putF "tied" (.ref D2) (putF "marked" (.ref D) (fG4 at_ one other W.n)) = fG at_ one other W.n D D2 from fG_put _ _ _ _ _ _]
      have nx6 : ∀ (c : Addr) (o : HO), H' c = some o → (∀ fs, o ≠ .ins cG dx fs) → c ≠ x := fun c o h hn => ne_of h hx6 (fun z => hn _ z)
      have hm6 := hm5.mono e6
      refine q _ at_ D D2 fm ft (fun c u hc => ?_) ⟨upd_same, ⟨by rw [upd_ne (nx6 _ _ hm6.1 (fun _ z => by cases z))]; exact hm6.1, fun m hm => by rw [upd_ne (nx6 _ _ (hm6.2 m hm) (fun _ z => by cases z))]; exact hm6.2 m hm⟩,
        ⟨by rw [upd_ne (nx6 _ _ hDt (fun _ z => by cases z))]; exact hDt, fun m hm => by rw [upd_ne (nx6 _ _ (hft m hm).1 (fun _ z => by cases z))]; exact (hft m hm).1⟩, inj, inj2,
        fun m hm => ⟨(hfm m hm).2.1, fun z => by have := hm5.2 m hm; rw [z, hD20] at this; cases this⟩, fun z => by have := hm5.1; rw [z, hD20] at this; cases this⟩ hT (fun b hb => ?_)
      · obtain ⟨n1, _⟩ := hide_some hc
        rw [upd_ne n1]
        exact e6 _ _ (e5 _ _ hc)
      · simp only [growL, List.mem_cons, List.mem_append, List.mem_map] at hb
        rcases hb with rfl | rfl | rfl | ⟨m, hm, rfl⟩ | ⟨m, hm, rfl⟩
        · exact .inl rfl
        · exact .inr (fr3 _ hD0)
        · exact .inr (fr5 _ hD20)
        · exact .inr (fr3 _ (hfm m hm).2.2)
        · exact .inr (fr5 _ (hft m hm).2)
end
end K48
namespace K48
open PySem PySem.Spec PyProof.Rows L2
local macro_rules | `(tactic| walk_at "rd") => `(tactic| repeat (first | refine ⟨_, rfl, ?_⟩ | refine ⟨_, _, rfl, rfl, ?_⟩ | refine ⟨rfl, ?_⟩ | refine iteTk (by decide +kernel) ?_ | refine iteFk (by decide +kernel) ?_))
local macro_rules | `(tactic| walk_at "rdr") => `(tactic| repeat (first | refine ⟨_, rfl, ?_⟩ | refine ⟨_, _, rfl, rfl, ?_⟩ | refine ⟨rfl, ?_⟩ | refine iteTk (by first | decide +kernel | rfl) ?_ | refine iteFk (by first | decide +kernel | rfl) ?_))
local macro_rules | `(tactic| walk_at "tyn") => `(tactic| first | exact .int _ | exact .bl _ | exact .str _ | exact .tup (by assumption) | exact .lst (by assumption) | exact .dK (by assumption))
local macro_rules | `(tactic| walk_at "isT") => `(tactic| refine ⟨_, _, _, _, true, rfl, .ty _, TyN.x (by walk_at "tyn"), kit_ty (by decide +kernel), ?_⟩)
local macro_rules | `(tactic| walk_at "isF") => `(tactic| refine ⟨_, _, _, _, false, rfl, .ty _, TyN.x (by walk_at "tyn"), kit_ty (by decide +kernel), ?_⟩)
local macro_rules | `(tactic| walk_at "nz") => `(tactic| first | refine nzG (by simp only [List.set_cons_succ, List.set_cons_zero]; rfl) ?_ | refine reS (by simp only [List.set_cons_succ, List.set_cons_zero]; rfl) ?_)
/-! ## name = {.. for ..} on one line -/
section
variable {X : Cx}
theorem sw_trueD {kx vx : Expr} {gs : List Comprehension} {scope : Scope} {pos py : Pos} {y : Str} {l : Nat} {env : Env} (fk : env.scope.kind = .function) (ly : env.scope.names.lookup y = some .local) (sl : (py.line == pos.line) = true)
    (no : (scope.names.any fun (n, k) => n == y && (k == .local || k == .cell)) = false) : swapsWith (.DictComp kx vx gs scope pos) (some (.Name y py)) l env = pure true := by
  have k1 : env.kindOf y = some .local := ly
  have k2 : env.blockKind = .function := by
    unfold Env.blockKind
    rw [fk]
    rfl
  unfold swapsWith
  simp only [k2, k1, no, Expr.pos, sl]
  rfl
theorem ps_setDc {i : Nat} {y : Str} {py : Pos} {kx vx tg iter : Expr} {ifs : List Expr} {scope : Scope} {own : List (Str × Nat)} {pos spos : Pos} {wi : TI} {g : TG} {tt : TT} {tk tv : TE} (calm : X.calm = true) (nd : X.N.Nodup) (hy : X.N[i]? = some y)
    (ly : X.env.scope.names.lookup y = some .local) (sw : swapsWith (.DictComp kx vx [⟨tg, iter, ifs, 0⟩] scope pos) (some (.Name y py)) spos.line X.env = pure true) (hi : PI X tg iter wi) (ok : BlkOk X.N X.env.scope scope own)
    (hg : ∀ (s : Shared) (H : Hp) (C : Addr) (cl : List (Str × Addr)) (fp : List Addr), PG (X.blk s H scope (compEnvC scope cl C X.env) fp) tg g) (ht : ∀ (s : Shared) (H : Hp) (C : Addr) (cl : List (Str × Addr)) (fp : List Addr), PTs (X.blk s H scope (compEnvC scope cl C X.env) fp) ifs tt)
    (hk : ∀ (s : Shared) (H : Hp) (C : Addr) (cl : List (Str × Addr)) (fp : List Addr), PE (X.blk s H scope (compEnvC scope cl C X.env) fp) kx tk) (he : ∀ (s : Shared) (H : Hp) (C : Addr) (cl : List (Str × Addr)) (fp : List Addr), PE (X.blk s H scope (compEnvC scope cl C X.env) fp) vx tv)
    (hs : ∀ x, foldedSetIterable iter X.env x = pure x := by intro _; rfl) :
    PS X (.Assign [.Name y py] (.DictComp kx vx [⟨tg, iter, ifs, 0⟩] scope pos) spos) (tAsg (tDc wi g tt tk tv (own.map (·.2))) (gName i)) := by
  refine ⟨fun pins s σ H D I w0 => ?_⟩
  rw [exec_Assign_Name_used _ _ _ _ sw]
  refine wpAny_bind (wpAny_standAt (wpAny_bind ?_))
  show wpAny _ X.A (do let _ ← comprehension (.DictComp kx vx [⟨tg, iter, ifs, 0⟩] scope pos) scope X.env (firstIterPos [⟨tg, iter, ifs, 0⟩] pos) newDict false (eval iter X.env) (some (assign (.Name y py) X.env))) _ _ s
  have w1 : tDc wi g tt tk tv (own.map (·.2)) σ H (fun x H1 => gName i x σ H1 D.nx) := w0
  refine wpAny_bind (thn (dc_core (Qf := fun _ s' => SP X pins D .next s') calm nd I hi ok hg ht hk he hs w1 fun d C s1 m H1 I1 q hn fp => ?_) fun _ s' hq => wpAny_pure (wpAny_pure hq))
  show wpAny _ _ (assign (.Name y py) X.env (.ref d)) _ _ _
  refine wpAny_assign_Name (store_ok2 (v := V.ref d) I1 nd hy (.inl ly) rfl (fun s2 I2 ⟨a, sb, wh⟩ => ?_) (.inr ly))
  obtain ⟨p0, p1, p2, p3, p4, p5⟩ := fp
  have ne : C ≠ a := by
    rcases wh with z | z
    · rw [z]
      exact p1
    · intro e
      exact p4 y a z e.symm
  exact ⟨m, hn.sameBut sb ne, fun h3 sb3 => ⟨_, H1, I2.turned (t' := s2.toks) (fun b o hb e => (sb3.2 b hb).trans e) p0 p1 p3 p4 p5, q⟩⟩
end
end K48
namespace K48
open PySem PySem.Spec PyProof.Rows L2
local macro_rules | `(tactic| walk_at "rd") => `(tactic| repeat (first | refine ⟨_, rfl, ?_⟩ | refine ⟨_, _, rfl, rfl, ?_⟩ | refine ⟨rfl, ?_⟩ | refine iteTk (by decide +kernel) ?_ | refine iteFk (by decide +kernel) ?_))
local macro_rules | `(tactic| walk_at "rdr") => `(tactic| repeat (first | refine ⟨_, rfl, ?_⟩ | refine ⟨_, _, rfl, rfl, ?_⟩ | refine ⟨rfl, ?_⟩ | refine iteTk (by first | decide +kernel | rfl) ?_ | refine iteFk (by first | decide +kernel | rfl) ?_))
local macro_rules | `(tactic| walk_at "tyn") => `(tactic| first | exact .int _ | exact .bl _ | exact .str _ | exact .tup (by assumption) | exact .lst (by assumption) | exact .dK (by assumption))
local macro_rules | `(tactic| walk_at "isT") => `(tactic| refine ⟨_, _, _, _, true, rfl, .ty _, TyN.x (by walk_at "tyn"), kit_ty (by decide +kernel), ?_⟩)
local macro_rules | `(tactic| walk_at "isF") => `(tactic| refine ⟨_, _, _, _, false, rfl, .ty _, TyN.x (by walk_at "tyn"), kit_ty (by decide +kernel), ?_⟩)
local macro_rules | `(tactic| walk_at "nz") => `(tactic| first | refine nzG (by simp only [List.set_cons_succ, List.set_cons_zero]; rfl) ?_ | refine reS (by simp only [List.set_cons_succ, List.set_cons_zero]; rfl) ?_)
section
variable {P : Program} {w : World} {K : PySem.W.Frag} {mg : Str → Option Value} {base : Heap} {cT cW cG : Addr}
def spMade (cT cW cG : Addr) : Sp := fun vs H Q _ => ∃ (g dx at_ am ati : Addr) (fm ft : Str → Addr) (W : Wd) (one other : Nat), vs = [.ref g] ∧ GrowAt cG H g dx at_ am ati fm ft W one other ∧ TongueAt cT H at_ W.T ∧ W.Ok ∧ ∀ p H', Same H H' → WorldAt cT cW H' p W → Q (.ref p) H'
theorem ok_made (TG : ClG K cG) (B : Blt mg) (D : Mth K cG "made_world" "Growth.made_world" s_Growth_made_world) (c_World : MakeOk P w K mg base cW 7 "World" P_World__init (spWInit cT cW)) : MethOk P w K mg base cG 9 "made_world" P_Growth_made_world (spMade cT cW cG) := by
  refine methOk D sc_Growth_made_world bd_Growth_made_world (fun vs H Q E h => ?_) (fun f cdv A outer st H vs Q E hr h => ?_)
  · obtain ⟨g, dx, at_, am, ati, fm, ft, W, one, other, rfl, _⟩ := h
    rfl
  obtain ⟨g, dx, at_, am, ati, fm, ft, W, one, other, rfl, GA, hT, ok, q⟩ := h
  have hu := hu_of hr
  refine ⟨_, pss_cons (ps_lock (ps_setDc (i := 1) (own := [("name", 2)]) (g := gName 2) (tt := tYes) (by rfl) sc_Growth_made_world.nd rfl rfl (sw_trueD rfl rfl rfl (by decide +kernel)) (pi_keys (pe_fld (pv 0) rfl)) (blkOk_by (own := [("name", 2)]) (N := N_Growth_made_world) (by kernel_rfl)) (fun _ _ _ _ _ => pg_name (i := 2) sc_Growth_made_world.nd rfl (Or.inl rfl)) (fun _ _ _ _ _ => pts_nil) (fun _ _ _ _ _ => pv 2) (fun _ _ _ _ _ => pe_callTy (call_listD rfl) (by rfl) B.list bo_list (pa_cons (pe_dget hu (pe_fldK (K := K) rfl (pv 0) rfl) (pv 2) (fun _ _ => rfl)) pa_nil)))) (pss_cons (ps_lock (ps_setDc (i := 3) (own := [("name", 2)]) (g := gName 2) (tt := tYes) (by rfl) sc_Growth_made_world.nd rfl rfl (sw_trueD rfl rfl rfl (by decide +kernel)) (pi_keys (pe_fld (pv 0) rfl)) (blkOk_by (own := [("name", 2)]) (N := N_Growth_made_world) (by kernel_rfl)) (fun _ _ _ _ _ => pg_name (i := 2) sc_Growth_made_world.nd rfl (Or.inl rfl)) (fun _ _ _ _ _ => pts_nil) (fun _ _ _ _ _ => pv 2) (fun _ _ _ _ _ => pe_callTy (call_list_dT rfl) (by rfl) B.list bo_list (pa_cons (pe_dget hu (pe_fldK (K := K) rfl (pv 0) rfl) (pv 2) (fun _ _ => rfl)) pa_nil)))) (pss_one (ps_ret (pe_mk c_World hr (by rfl) (pa_cons (pe_fld (pv 0) rfl) (pa_cons (pe_fld (pv 0) rfl) (pa_cons (pv 1) (pa_cons (pv 3) pa_nil)))))))), ?_⟩
  have hgam : g ≠ am := ne_of GA.ins GA.mr.1 (by intro z; cases z)
  refine ⟨am, _, GA.mr.1, True.intro, fun od => ?_⟩
  have eL : Same (hide am H) (upd H am (.frz od (.dK (dR (withA W.T.marks fm))))) := hide_upd
  have hgL : (upd H am (.frz od (.dK (dR (withA W.T.marks fm))))) g = some (.ins cG dx (fG at_ one other W.n am ati)) := by rw [upd_ne hgam]; exact GA.ins
  have hAL : (upd H am (.frz od (.dK (dR (withA W.T.marks fm))))) am = some (.frz od (.dK (dR (withA W.T.marks fm)))) := upd_same
  have hML : ∀ m ∈ W.T.marks, (upd H am (.frz od (.dK (dR (withA W.T.marks fm))))) (fm m) = some (.dK (dI (W.ms m))) := fun m hm => by rw [upd_ne (GA.nm m hm).1]; exact GA.mr.2 m hm
  revert eL hgL hAL hML
  generalize (upd H am (.frz od (.dK (dR (withA W.T.marks fm))))) = HL
  intro eL hgL hAL hML
  walk_at "rd"
  refine ⟨_, _, _, _, _, rfl, hgL, TG.cl, TG.nm, fG_m _ _ _ _ _ _, ?_⟩
  refine ⟨am, od, rfl, .inl ⟨_, hAL, fun D hD0 => ?_⟩⟩
  refine dc_it walk_keys (fun i H' => ∃ fl : Str → Addr, Same HL H' ∧ H' D = some (.dK (dR (withA (W.T.marks.take i) fl))) ∧ ∀ m ∈ W.T.marks.take i, H' (fl m) = some (.lst ((W.ms m).map nV)))
    ⟨fun _ => 0, Same.new (Same.refl _) hD0, upd_same, fun m hm => by simp at hm⟩ (fun i H' _ hP => hP.elim fun fl h => h.1 _ _ hAL) (fun i x' H0 H' hi hP y => ?_) (fun H' hP => ?_)
  · obtain ⟨fl, e4, hD, hfl⟩ := hP
    obtain ⟨rfl, k, v, hk', rfl⟩ := y
    obtain ⟨p, hp, e⟩ := map_at hk'
    cases e
    obtain ⟨m, hm, rfl⟩ := map_at hp
    have hmm := List.mem_of_getElem? hm
    have hml := (List.getElem?_eq_some_iff.mp hm).1
    obtain ⟨n1, n2⟩ := nodup_take ok.ndm hm
    refine ⟨rfl, ?_⟩
    walk_at "rd"
    refine ⟨_, _, _, _, _, rfl, e4 _ _ hgL, TG.cl, TG.nm, fG_m _ _ _ _ _ _, ?_⟩
    walk_at "rd"
    refine ⟨_, _, rfl, .inl ⟨_, Sum.inr m, .inr ⟨_, e4 _ _ hAL⟩, rfl, (withA_val ok.ndm hmm).symm⟩, ?_⟩
    walk_at "rd"
    refine ⟨_, _, rfl, .inl (e4 _ _ (hML m hmm)), fun p1 hp1 => ?_⟩
    have el : (dI (W.ms m)).map (fun kv => kV kv.1) = (W.ms m).map nV := by
      unfold dI
      rw [List.map_map]
      rfl
    rw [el]
    have hpD : p1 ≠ D := fun z => by rw [z, hD] at hp1; cases hp1
    refine ⟨_, Sum.inr m, rfl, by rw [upd_ne (Ne.symm hpD)]; exact hD, szl ?_, fun z => if z = m then p1 else fl z, Same.mut (Same.new e4 hp1) hD0, ?_, fun m' hm' => ?_⟩
    · unfold dR withA
      rw [List.length_map, List.length_map, List.length_take]
      have := ok.lm
      omega
    · rw [upd_same, dR_put ok.ndm hm]
    · rw [n2] at hm'
      by_cases q' : m' = m
      · subst q'
        simp only [if_true]
        rw [upd_ne hpD, upd_same]
      · simp only [if_neg q']
        rcases List.mem_append.mp hm' with h | h
        · have g1 := hfl m' h
          rw [upd_ne (ne_of g1 hD (by intro z; cases z)), upd_ne (ne_of_none g1 hp1)]
          exact g1
        · exact absurd (by simpa using h) q'
  · obtain ⟨fl, e4, hDm, hfl⟩ := hP
    rw [show (dR (withA W.T.marks fm)).length = W.T.marks.length by simp [dR, withA], List.take_length] at hDm hfl
    refine ⟨e4 _ _ hAL, ?_⟩
    have eH : Same H (upd H' am (.dK (dR (withA W.T.marks fm)))) := unhide GA.mr.1 fun c u h => e4 _ _ (eL _ _ h)
    have hDam : D ≠ am := fun z => by rw [z, hAL] at hD0; cases hD0
    have hD1 : (upd H' am (.dK (dR (withA W.T.marks fm)))) D = some (.dK (dR (withA W.T.marks fl))) := by rw [upd_ne hDam]; exact hDm
    have hF1 : ∀ m ∈ W.T.marks, (upd H' am (.dK (dR (withA W.T.marks fm)))) (fl m) = some (.lst ((W.ms m).map nV)) := fun m hm => by rw [upd_ne (ne_of (hfl m hm) (e4 _ _ hAL) (by intro z; cases z))]; exact hfl m hm
    revert eH hD1 hF1
    generalize (upd H' am (.dK (dR (withA W.T.marks fm)))) = H1
    intro eH hD1 hF1
    have hMI : MarksIn H1 D W.T.marks W.ms := ⟨_, hD1, by rw [withA_fst], fun p hp => by
      obtain ⟨m, hm, rfl⟩ := List.mem_map.mp hp
      exact .inl (hF1 m hm)⟩
    have hB1 := eH _ _ GA.tr.1
    have hT1 : ∀ t ∈ W.T.ties, H1 (ft t) = some (.dT (dP (W.ts t))) := fun t ht => eH _ _ (GA.tr.2 t ht)
    have hg1 := eH _ _ GA.ins
    have hDat : D ≠ ati := fun z => by
      have h1 : HL ati = some (.dK (dR (withA W.T.ties ft))) := eL _ _ (by rw [hide_ne (Ne.symm GA.aa)]; exact GA.tr.1)
      rw [z, h1] at hD0
      cases hD0
    refine ⟨ati, _, hB1, True.intro, fun od2 => ?_⟩
    have eL2 : Same (hide ati H1) (upd H1 ati (.frz od2 (.dK (dR (withA W.T.ties ft))))) := hide_upd
    have hgL2 : (upd H1 ati (.frz od2 (.dK (dR (withA W.T.ties ft))))) g = some (.ins cG dx (fG at_ one other W.n am ati)) := by rw [upd_ne (ne_of hg1 hB1 (by intro z; cases z))]; exact hg1
    have hAL2 : (upd H1 ati (.frz od2 (.dK (dR (withA W.T.ties ft))))) ati = some (.frz od2 (.dK (dR (withA W.T.ties ft)))) := upd_same
    have hTL2 : ∀ t ∈ W.T.ties, (upd H1 ati (.frz od2 (.dK (dR (withA W.T.ties ft))))) (ft t) = some (.dT (dP (W.ts t))) := fun t ht => by rw [upd_ne (ne_of (hT1 t ht) hB1 (by intro z; cases z))]; exact hT1 t ht
    revert eL2 hgL2 hAL2 hTL2
    generalize (upd H1 ati (.frz od2 (.dK (dR (withA W.T.ties ft))))) = HM
    intro eL2 hgL2 hAL2 hTL2
    walk_at "rd"
    refine ⟨_, _, _, _, _, rfl, hgL2, TG.cl, TG.nt, fG_t _ _ _ _ _ _, ?_⟩
    refine ⟨ati, od2, rfl, .inl ⟨_, hAL2, fun D2 hD20 => ?_⟩⟩
    refine dc_it walk_keys (fun i H' => ∃ fl : Str → Addr, Same HM H' ∧ H' D2 = some (.dK (dR (withA (W.T.ties.take i) fl))) ∧ ∀ m ∈ W.T.ties.take i, ∃ qs : List Addr, H' (fl m) = some (.lst (qs.map V.ref)) ∧ PairsAt H' qs (W.ts m))
      ⟨fun _ => 0, Same.new (Same.refl _) hD20, upd_same, fun m hm => by simp at hm⟩ (fun i H' _ hP => hP.elim fun fl h => h.1 _ _ hAL2) (fun i x' H0 H' hi hP y => ?_) (fun H' hP => ?_)
    · obtain ⟨fl2, e6, hD, hfl2⟩ := hP
      obtain ⟨rfl, k, v, hk', rfl⟩ := y
      obtain ⟨p, hp, e⟩ := map_at hk'
      cases e
      obtain ⟨m, hm, rfl⟩ := map_at hp
      have hmm := List.mem_of_getElem? hm
      have hml := (List.getElem?_eq_some_iff.mp hm).1
      obtain ⟨n1, n2⟩ := nodup_take ok.ndt hm
      refine ⟨rfl, ?_⟩
      walk_at "rd"
      refine ⟨_, _, _, _, _, rfl, e6 _ _ hgL2, TG.cl, TG.nt, fG_t _ _ _ _ _ _, ?_⟩
      walk_at "rd"
      refine ⟨_, _, rfl, .inl ⟨_, Sum.inr m, .inr ⟨_, e6 _ _ hAL2⟩, rfl, (withA_val ok.ndt hmm).symm⟩, ?_⟩
      walk_at "rd"
      refine ⟨_, _, rfl, .inl (e6 _ _ (hTL2 m hmm)), fun p1 bs hp1 hks => ?_⟩
      have hpD : p1 ≠ D2 := fun z => by rw [z, hD] at hp1; cases hp1
      have hpa : PairsAt H' bs (W.ts m) := by
        have : ∀ {ps : List (Nat × Nat)} {bs : List Addr}, IsKeys H' (dP ps) bs → PairsAt H' bs ps := fun {ps bs} h => by
          unfold PairsAt
          unfold IsKeys at h
          induction ps generalizing bs with
          | nil => cases h; exact .nil
          | cons p ps ih =>
            cases h with
            | cons h t => exact .cons h (ih t)
        exact this hks
      have kp : ∀ (o o' : HO) qs ps, PairsAt H' qs ps → PairsAt (upd (upd H' p1 o) D2 o') qs ps := fun o o' qs ps h => Paired.mapP h fun a b e => by
        rw [upd_ne (ne_of e hD (by intro z; cases z)), upd_ne (ne_of_none e hp1)]
        exact e
      refine ⟨_, Sum.inr m, rfl, by rw [upd_ne (Ne.symm hpD)]; exact hD, szl ?_, fun z => if z = m then p1 else fl2 z, Same.mut (Same.new e6 hp1) hD20, ?_, fun m' hm' => ?_⟩
      · unfold dR withA
        rw [List.length_map, List.length_map, List.length_take]
        have := ok.lt
        omega
      · rw [upd_same, dR_put ok.ndt hm]
      · rw [n2] at hm'
        by_cases q' : m' = m
        · subst q'
          simp only [if_true]
          exact ⟨bs, by rw [upd_ne hpD, upd_same], kp _ _ _ _ hpa⟩
        · simp only [if_neg q']
          rcases List.mem_append.mp hm' with h | h
          · obtain ⟨qs, g1, g2⟩ := hfl2 m' h
            exact ⟨qs, by rw [upd_ne (ne_of g1 hD (by intro z; cases z)), upd_ne (ne_of_none g1 hp1)]; exact g1, kp _ _ _ _ g2⟩
          · exact absurd (by simpa using h) q'
    · obtain ⟨fl2, e6, hDt, hfl2⟩ := hP
      rw [show (dR (withA W.T.ties ft)).length = W.T.ties.length by simp [dR, withA], List.take_length] at hDt hfl2
      refine ⟨e6 _ _ hAL2, ?_⟩
      have eH2 : Same H1 (upd H' ati (.dK (dR (withA W.T.ties ft)))) := unhide hB1 fun c u h => e6 _ _ (eL2 _ _ h)
      have hD2a : D2 ≠ ati := fun z => by rw [z, hAL2] at hD20; cases hD20
      have hTI : TiesIn (upd H' ati (.dK (dR (withA W.T.ties ft)))) D2 W.T.ties W.ts := ⟨_, by rw [upd_ne hD2a]; exact hDt, by rw [withA_fst], fun p hp => by
        obtain ⟨m, hm, rfl⟩ := List.mem_map.mp hp
        obtain ⟨qs, g1, g2⟩ := hfl2 m hm
        exact ⟨qs, .inl (by rw [upd_ne (ne_of g1 (e6 _ _ hAL2) (by intro z; cases z))]; exact g1), Paired.mapP g2 fun a b e => by rw [upd_ne (ne_of e (e6 _ _ hAL2) (by intro z; cases z))]; exact e⟩⟩
      revert eH2 hTI
      generalize (upd H' ati (.dK (dR (withA W.T.ties ft)))) = H2
      intro eH2 hTI
      have hg2 := eH2 _ _ hg1
      walk_at "rd"
      refine ⟨_, _, _, _, _, rfl, hg2, TG.cl, TG.nT, fG_T _ _ _ _ _ _, ?_⟩
      walk_at "rd"
      refine ⟨_, _, _, _, _, rfl, hg2, TG.cl, TG.nn, fG_n _ _ _ _ _ _, ?_⟩
      walk_at "rd"
      refine fun x dxw hx0 hdx0 hne => ?_
      have eM : Same H2 (upd (upd H2 dxw (.own x)) x (.ins cW dxw [])) := Same.new (Same.new (Same.refl _) hdx0) (by rw [upd_ne (Ne.symm hne)]; exact hx0)
      refine ⟨H2, x, dxw, at_, D, D2, W, rfl, eM, hx0, upd_same, (hT.mono eH).mono eH2, hMI.mono eH2, hTI, ok, fun H6 e8 hW6 => ?_⟩
      refine ⟨rfl, q x H6 (fun c u h => ?_) hW6⟩
      have h2 := eH2 _ _ (eH _ _ h)
      exact e8 _ _ (by rw [hide_ne (ne_of_none h2 hx0)]; exact eM _ _ h2)
end
end K48
namespace K48
open PySem PySem.Spec PyProof.Rows L2
local macro_rules | `(tactic| walk_at "rd") => `(tactic| repeat (first | refine ⟨_, rfl, ?_⟩ | refine ⟨_, _, rfl, rfl, ?_⟩ | refine ⟨rfl, ?_⟩ | refine iteTk (by decide +kernel) ?_ | refine iteFk (by decide +kernel) ?_))
local macro_rules | `(tactic| walk_at "rdr") => `(tactic| repeat (first | refine ⟨_, rfl, ?_⟩ | refine ⟨_, _, rfl, rfl, ?_⟩ | refine ⟨rfl, ?_⟩ | refine iteTk (by first | decide +kernel | rfl) ?_ | refine iteFk (by first | decide +kernel | rfl) ?_))
local macro_rules | `(tactic| walk_at "tyn") => `(tactic| first | exact .int _ | exact .bl _ | exact .str _ | exact .tup (by assumption) | exact .lst (by assumption) | exact .dK (by assumption))
local macro_rules | `(tactic| walk_at "isT") => `(tactic| refine ⟨_, _, _, _, true, rfl, .ty _, TyN.x (by walk_at "tyn"), kit_ty (by decide +kernel), ?_⟩)
local macro_rules | `(tactic| walk_at "isF") => `(tactic| refine ⟨_, _, _, _, false, rfl, .ty _, TyN.x (by walk_at "tyn"), kit_ty (by decide +kernel), ?_⟩)
local macro_rules | `(tactic| walk_at "nz") => `(tactic| first | refine nzG (by simp only [List.set_cons_succ, List.set_cons_zero]; rfl) ?_ | refine reS (by simp only [List.set_cons_succ, List.set_cons_zero]; rfl) ?_)
/-- so many steps -/
def growW : Nat → Wd → Nat → Nat → Wd
  | 0, W, _, _ => W
  | k + 1, W, one, other => putW (growW k W one other) one other
theorem growW_n : ∀ (k : Nat) (W : Wd) (one other : Nat), (growW k W one other).n = W.n + k
  | 0, _, _, _ => rfl
  | k + 1, W, one, other => by
    show (growW k W one other).n + 1 = _
    rw [growW_n k]
    omega
theorem growW_T : ∀ (k : Nat) (W : Wd) (one other : Nat), (growW k W one other).T = W.T
  | 0, _, _, _ => rfl
  | k + 1, W, one, other => growW_T k W one other
theorem growW_ok {W : Wd} (h : W.Ok) {one other : Nat} : ∀ k, W.n + k ≤ 15 → (growW k W one other).Ok
  | 0, _ => h
  | k + 1, hk => putW_ok (growW_ok h k (by omega)) one other (by rw [growW_n]; omega)
theorem growW_add (W : Wd) (one other : Nat) (j : Nat) : ∀ k, growW (j + k) W one other = growW k (growW j W one other) one other
  | 0 => rfl
  | k + 1 => by
    show putW (growW (j + k) W one other) one other = putW _ one other
    rw [growW_add W one other j k]
section
variable {P : Program} {w : World} {K : PySem.W.Frag} {mg : Str → Option Value} {base : Heap} {cT cW cG cN cR : Addr}
def spGrown (cT cW : Addr) : Sp := fun vs H Q _ => ∃ (G : Hp) (wr a : Addr) (W : Wd) (s : Say) (one other n : Nat), vs = [.ref wr, .ref a, .int one, .int other, .int n] ∧ Same G H ∧ WorldAt cT cW G wr W ∧ W.Ok ∧ Clean W.T ∧ SayAt G s a ∧ s.okT W.T.marks W.T.ties ∧ s.closed ∧ s.deep ≤ 20 ∧ s.size ≤ 100 ∧
  one < W.n ∧ other < W.n ∧ one ≠ other ∧ Like W s one other ∧ ev W s 0 0 = true ∧ W.n ≤ n ∧ n ≤ 15 ∧ ∀ p H', Same H H' → WorldAt cT cW H' p (growW (n - W.n) W one other) → Q (.ref p) H'
theorem ok_grown (T0 : ClT K cT) (TW : ClW K cW) (TG : ClG K cG) (TR : ClR K cR) (C : Cst K mg) (D : Def K mg "grown" s_grown) (c_check_plain : CallOk P w K mg base 1 "check_plain" P_check_plain (spCheckPlain cT)) (c_check_closed : CallOk P w K mg base 22 "check_closed" P_check_closed (spCheckClosed cT))
    (c_check_thing : CallOk P w K mg base 4 "check_thing" P_check_thing (spCheckThing cT cW)) (c_is_within : CallOk P w K mg base 2 "is_within" P_is_within spIsWithin) (c_Reading : MakeOk P w K mg base cR 1 "Reading" P_Reading__init (spRInit P w cR)) (c_node_of : CallOk P w K mg base 44 "node_of" P_node_of (spNodeOf cN 20)) (c_flag : MethOk P w K mg base cR 83 "flag" P_Reading_flag (spFlag P w cT cW cN cR 20))
    (c_are_like : CallOk P w K mg base 84 "are_like" P_are_like (spAreLike cT cW)) (c_Growth : MakeOk P w K mg base cG 3 "Growth" P_Growth__init (spGInit cT cW cG)) (c_put : MethOk P w K mg base cG 2 "put" P_Growth_put (spPut cG)) (c_made_world : MethOk P w K mg base cG 9 "made_world" P_Growth_made_world (spMade cT cW cG)) :
    CallOk P w K mg base 85 "grown" P_grown (spGrown cT cW) := by
  refine callOk D sc_grown bd_grown (fun vs H Q E h => ?_) (fun f cdv A outer st H vs Q E hr h => ?_)
  · obtain ⟨G, wr, a, W, s, one, other, n, rfl, _⟩ := h
    rfl
  obtain ⟨G, wr, a, W, s, one, other, n, rfl, eG, hW, ok, hcl, hS, okT, hc, hd, hz, hon, hot, hne1, hL, hev, hn1, hn2, q⟩ := h
  have hr1 : Room 1 _ := hr.mono (by decide)
  have hr2 : Room 2 _ := hr.mono (by decide)
  have hr4 : Room 4 _ := hr.mono (by decide)
  have hr9 : Room 9 _ := hr.mono (by decide)
  have hr22 : Room 22 _ := hr.mono (by decide)
  have hr44 : Room 44 _ := hr.mono (by decide)
  have hr83 : Room 83 _ := hr.mono (by decide)
  obtain ⟨dw, at_, am, ati, fm, ft, hI, hT, _⟩ := id hW
  refine ⟨_, pss_cons (ps_expr (pe_cl c_check_plain hr1 (by rfl) (pa_cons (pe_fld (pv 0) rfl) pa_nil))) (pss_cons (ps_expr (pe_cl c_check_closed hr22 (by rfl) (pa_cons (pe_fld (pv 0) rfl) (pa_cons (pv 1) pa_nil)))) (pss_cons (ps_if (pt_not (pt_val (pe_me c_flag TR.cl hr83 (pe_mk c_Reading hr2 (by rfl) (pa_cons (pv 0) pa_nil)) (pa_cons (pe_cl c_node_of hr44 (by rfl) (pa_cons (pv 1) (pa_cons (pe_lst (pa_nil)) pa_nil))) (pa_cons (pe_non) (pa_cons (pe_non) pa_nil)))))) (pss_one (ps_never)) (pss_nil)) (pss_cons (ps_expr (pe_cl c_check_thing hr4 (by rfl) (pa_cons (pv 0) (pa_cons (pv 2) pa_nil)))) (pss_cons (ps_expr (pe_cl c_check_thing hr4 (by rfl) (pa_cons (pv 0) (pa_cons (pv 3) pa_nil)))) (pss_cons (ps_if (PW.pt (pw_or (pt_cmpR op_eq (pv 2) (pv 3) (nomark _)) (pw_or1 (pt_not (pt_val (pe_cl c_are_like hr (by rfl) (pa_cons (pv 0) (pa_cons (pv 1) (pa_cons (pv 2) (pa_cons (pv 3) pa_nil)))))))))) (pss_one (ps_never)) (pss_nil)) (pss_cons (ps_if (pt_not (pt_val (pe_cl c_is_within hr2 (by rfl) (pa_cons (pv 4) (pa_cons (pe_fld (pv 0) rfl) (pa_cons (pe_intG C.MOST_THINGS (by rfl)) pa_nil)))))) (pss_one (ps_never)) (pss_nil)) (pss_cons (ps_set (i := 5) sc_grown.nd rfl (.inl rfl) (pe_mk c_Growth hr4 (by rfl) (pa_cons (pv 0) (pa_cons (pv 2) (pa_cons (pv 3) pa_nil))))) (pss_cons (ps_while PassesOwn.never (pt_cmpR op_lt (pe_fld (pv 5) rfl) (pv 4) (nomark _)) (pss_one (ps_expr (pe_me0 c_put TG.cl hr2 (pv 5))))) (pss_one (ps_ret (pe_me0 c_made_world TG.cl hr9 (pv 5)))))))))))), ?_⟩
  walk_at "rd"
  refine ⟨_, _, _, _, _, rfl, eG _ _ hI, TW.cl, TW.nT, fW_T _ _ _ _, ?_⟩
  refine ⟨_, W.T, rfl, hT.mono eG, ?_⟩
  walk_at "rd"
  refine ⟨_, _, _, _, _, rfl, eG _ _ hI, TW.cl, TW.nT, fW_T _ _ _ _, ?_⟩
  walk_at "rd"
  refine ⟨G, at_, a, W.T, s, rfl, eG, hT, hS, okT, hz, hd, hc, fun H0 e0 => ?_⟩
  have eG := eG.trans e0
  walk_at "rd"
  refine fun r dxr hr0 hdx0 hne => ?_
  refine ⟨r, dxr, wr, rfl, upd_same, fun d H1 e1 hR1 hd0 hT1 => ?_⟩
  have e2 : Same H0 H1 := read_fresh hr0 hdx0 hne e1
  refine ⟨rfl, ?_⟩
  refine ⟨_, _, _, rfl, hR1, fR_flag _ _, ?_⟩
  walk_at "rd"
  refine ⟨sz (by simp), fun l hl0 => ?_⟩
  have e3 : Same H1 (upd H1 l (.lst [])) := Same.new (Same.refl _) hl0
  have hGl : G l = none := eG.free (e2.free hl0)
  refine ⟨G, a, l, s, [], rfl, (eG.trans e2).trans e3, hGl, upd_same, hS, hd, by decide, by have := s.bs_len; simp; omega, fun p ms H2 e4 _ hN _ => ?_⟩
  have hT3 := hT1.same e3
  have hdl : d ≠ l := fun z => by
    have h1 := hT3.1
    rw [z, upd_same] at h1
    cases h1
  have hT4 : ToldAt P w H2 d [] := ⟨e4 _ _ (by rw [hide_ne hdl]; exact hT3.1), (fun z hz => by cases hz)⟩
  have e5 : Same H1 H2 := fun c u h => e4 _ _ (by rw [hide_ne (ne_of_none h hl0)]; exact e3 _ _ h)
  have hdr : d ≠ r := fun y => by
    have h1 := hT1.1
    rw [y, hR1] at h1
    cases h1
  have hdH : H0 d = none := by
    rw [upd_ne hdr] at hd0
    by_cases y : d = dxr
    · rw [y]; exact hdx0
    · rw [upd_ne y] at hd0
      exact hd0
  have eG2 : Same G (hide d H2) := hide_base ((eG.trans e2).trans e5) (eG.free hdH)
  walk_at "rd"
  refine ⟨hide d H2, r, p, wr, d, W, s.bs, s, 0, none, none, [], rfl, ⟨⟨dxr, by rw [hide_ne (hT4.ne (e5 _ _ hR1) (fun _ z => by cases z))]; exact e5 _ _ hR1⟩, hW.mono eG2, hide_at, ok.ndm, ok.ndt, hcl, ok.hi, by have := s.bs_len; omega⟩, hide_same, hT4, tinv_nil W _, ?_, numOk_self s, okT, ⟨(fun h => by rw [hc.1] at h; cases h), (fun h => by rw [hc.2] at h; cases h), (fun i h => by cases h), (fun i h => by cases h)⟩, hd, fun xs' H3 e6 _ _ _ => ?_⟩
  · refine NodeAt.mono (fun c u h => ?_) hN
    obtain ⟨hc', h⟩ := nwL_some h
    have hc' : upd H1 l (.lst []) c = none := hc'.elim id (fun z => by cases z)
    have ncd : c ≠ d := fun z => by rw [z, hT3.1] at hc'; cases hc'
    rw [hide_ne ncd]
    exact h
  have e7 : Same H0 H3 := fun c u h => e6 _ _ (by rw [hide_ne (ne_of_none h hdH)]; exact e5 _ _ (e2 _ _ h))
  have eG3 := eG.trans e7
  rw [show ev W s (gx none) (gx none) = true from hev]
  walk_at "rd"
  refine ⟨wr, one, W, rfl, hW.mono eG3, hon, ?_⟩
  walk_at "rd"
  refine ⟨wr, other, W, rfl, hW.mono eG3, hot, ?_⟩
  walk_at "rd"
  refine iteFk (by rw [dec_V_int]; exact decide_eq_false (by omega)) ?_
  walk_at "rd"
  refine ⟨G, wr, a, W, s, one, other, rfl, eG3, hW, ok, hcl, hS, okT, hc, hd, hz, hon, hot, hL, fun H4 e8 => ?_⟩
  have eG4 := eG3.trans e8
  walk_at "rd"
  refine ⟨_, _, _, _, _, rfl, eG4 _ _ hI, TW.cl, TW.nn, fW_n _ _ _ _, ?_⟩
  walk_at "rd"
  refine ⟨_, _, _, rfl, ?_⟩
  rw [decide_eq_true (show (W.n : Int) ≤ (n : Int) by omega), decide_eq_true (show (n : Int) ≤ 300 by omega)]
  walk_at "rd"
  refine fun g dxg hg0 hdg0 hneg => ?_
  have eM : Same H4 (upd (upd H4 dxg (.own g)) g (.ins cG dxg [])) := Same.new (Same.new (Same.refl _) hdg0) (by rw [upd_ne (Ne.symm hneg)]; exact hg0)
  refine ⟨H4, g, dxg, wr, W, one, other, rfl, eM, hg0, upd_same, hW.mono eG4, ok, fun H5 at2 am2 ati2 fm2 ft2 e9 GA hT2 hfr => ?_⟩
  refine ⟨rfl, ?_⟩
  have hL4 : ∀ b ∈ growL g am2 ati2 fm2 ft2 W.T, H4 b = none := fun b hb => by
    rcases hfr b hb with rfl | h
    · exact hg0
    · exact eM.free h
  have e10 : Same H4 H5 := fun c u h => e9 _ _ (by rw [hide_ne (ne_of_none h hg0)]; exact eM _ _ h)
  walk_at "rd"
  refine ⟨fun m σ H' => ∃ k, m = n - W.n - k ∧ k ≤ n - W.n ∧ σ = [some (.ref wr), some (.ref a), some (.int one), some (.int other), some (.int n), some (.ref g)] ∧ Same H4 H' ∧ GrowAt cG H' g dxg at2 am2 ati2 fm2 ft2 (growW k W one other) one other,
    ⟨_, 0, rfl, Nat.zero_le _, rfl, e10, GA⟩, fun m σ H' hP => ?_⟩
  obtain ⟨k, rfl, hk, rfl, e11, GK⟩ := hP
  walk_at "rd"
  refine ⟨_, _, _, _, _, rfl, GK.ins, TG.cl, TG.nn, fG_n _ _ _ _ _ _, ?_⟩
  walk_at "rd"
  have hgn := growW_n k W one other
  refine iteS (fun hlt => ?_) (fun hlt => ?_)
  · have hlt : k < n - W.n := by
      have := of_decide_eq_true hlt
      omega
    refine ⟨fun σ3 H6 => σ3 = [some (.ref wr), some (.ref a), some (.int one), some (.int other), some (.int n), some (.ref g)] ∧ Same H4 H6 ∧ GrowAt cG H6 g dxg at2 am2 ati2 fm2 ft2 (growW (k + 1) W one other) one other, fun σ3 H6 hN2 => ?_, ?_⟩
    · obtain ⟨h1, h2, h3⟩ := hN2
      exact ⟨n - W.n - (k + 1), by omega, k + 1, rfl, hlt, h1, h2, h3⟩
    walk_at "rd"
    refine ⟨_, _, _, rfl, GK.ins, fG_putm _ _ _ _ _ _, ?_⟩
    refine ⟨g, dxg, at2, am2, ati2, fm2, ft2, growW k W one other, one, other, rfl, GK, growW_ok ok k (by omega), by rw [hgn]; omega, by rw [hgn]; omega, by rw [hgn]; omega, fun H6 e12 GK2 => ?_⟩
    rw [growW_T] at e12
    exact ⟨rfl, fun c u h => e12 _ _ (by rw [hidL_ne (fun z => by rw [hL4 c z] at h; cases h)]; exact e11 _ _ h), GK2⟩
  · have hk2 : k = n - W.n := by
      have := of_decide_eq_false hlt
      omega
    subst hk2
    walk_at "rd"
    refine ⟨_, _, _, rfl, GK.ins, fG_made _ _ _ _ _ _, ?_⟩
    refine ⟨g, dxg, at2, am2, ati2, fm2, ft2, _, one, other, rfl, GK, by rw [growW_T]; exact hT2.mono e11, growW_ok ok _ (by omega), fun p6 H6 e12 hW6 => ?_⟩
    exact q p6 H6 (fun c u h => e12 _ _ (e11 _ _ (e8 _ _ (e7 _ _ (e0 _ _ h))))) hW6
end
end K48
namespace K48
open PySem PySem.Spec PyProof.Rows L2
local macro_rules | `(tactic| walk_at "rd") => `(tactic| repeat (first | refine ⟨_, rfl, ?_⟩ | refine ⟨_, _, rfl, rfl, ?_⟩ | refine ⟨rfl, ?_⟩ | refine iteTk (by decide +kernel) ?_ | refine iteFk (by decide +kernel) ?_))
local macro_rules | `(tactic| walk_at "rdr") => `(tactic| repeat (first | refine ⟨_, rfl, ?_⟩ | refine ⟨_, _, rfl, rfl, ?_⟩ | refine ⟨rfl, ?_⟩ | refine iteTk (by first | decide +kernel | rfl) ?_ | refine iteFk (by first | decide +kernel | rfl) ?_))
local macro_rules | `(tactic| walk_at "tyn") => `(tactic| first | exact .int _ | exact .bl _ | exact .str _ | exact .tup (by assumption) | exact .lst (by assumption) | exact .dK (by assumption))
local macro_rules | `(tactic| walk_at "isT") => `(tactic| refine ⟨_, _, _, _, true, rfl, .ty _, TyN.x (by walk_at "tyn"), kit_ty (by decide +kernel), ?_⟩)
local macro_rules | `(tactic| walk_at "isF") => `(tactic| refine ⟨_, _, _, _, false, rfl, .ty _, TyN.x (by walk_at "tyn"), kit_ty (by decide +kernel), ?_⟩)
local macro_rules | `(tactic| walk_at "nz") => `(tactic| first | refine nzG (by simp only [List.set_cons_succ, List.set_cons_zero]; rfl) ?_ | refine reS (by simp only [List.set_cons_succ, List.set_cons_zero]; rfl) ?_)
/-! ## A copy keeps each saying -/
def rx (one other n a b : Nat) : Nat := if a = n then one else if b = n then kn one other a else a
def ry (one other n a b : Nat) : Nat := if b = n then one else if a = n then kn one other b else b
theorem kn_one (one other : Nat) : kn one other one = other := if_pos rfl
theorem kn_ne {one other c : Nat} (h : c ≠ one) : kn one other c = c := if_neg h
theorem range_any (n : Nat) (f : Nat → Bool) : (List.range (n + 1)).any f = ((List.range n).any f || f n) := by rw [List.range_succ, List.any_append]; simp
theorem range_all (n : Nat) (f : Nat → Bool) : (List.range (n + 1)).all f = ((List.range n).all f && f n) := by rw [List.range_succ, List.all_append]; simp
theorem any_iff {n : Nat} {f : Nat → Bool} : (List.range n).any f = true ↔ ∃ c, c < n ∧ f c = true := by simp [List.any_eq_true, List.mem_range]
theorem all_iff {n : Nat} {f : Nat → Bool} : (List.range n).all f = true ↔ ∀ c, c < n → f c = true := by simp [List.all_eq_true, List.mem_range]
section
variable {W : Wd} {one other : Nat}
structure CopyOk (W : Wd) (one other : Nat) : Prop where
  ok : W.Ok
  h1 : one < W.n
  h2 : other < W.n
  ne : one ≠ other
theorem mem_mark (c : CopyOk W one other) (Lm : ∀ m ∈ W.T.marks, decide (one ∈ W.ms m) = decide (other ∈ W.ms m)) {m : Str} (hm : m ∈ W.T.marks) {a : Nat} (ha : a ≤ W.n) (x : Nat) (hx : x = (if a = W.n then one else a) ∨ (a = one ∧ x = other)) :
    decide (a ∈ (putW W one other).ms m) = decide (x ∈ W.ms m) := by
  have hn : W.n ∉ W.ms m := fun h => Nat.lt_irrefl _ (c.ok.m.lt m hm _ h)
  have base : decide (a ∈ (putW W one other).ms m) = decide ((if a = W.n then one else a) ∈ W.ms m) := by
    show decide (a ∈ (if one ∈ W.ms m then W.ms m ++ [W.n] else W.ms m)) = _
    by_cases ho : one ∈ W.ms m
    · rw [if_pos ho]
      by_cases e : a = W.n
      · rw [if_pos e, e]
        simp [ho]
      · rw [if_neg e]
        simp [e]
    · rw [if_neg ho]
      by_cases e : a = W.n
      · rw [if_pos e, e, decide_eq_false hn, decide_eq_false ho]
      · rw [if_neg e]
  rw [base]
  rcases hx with rfl | ⟨rfl, rfl⟩
  · rfl
  · rw [if_neg (by have := c.h1; omega)]
    exact Lm m hm
theorem mem_tie (c : CopyOk W one other) {t : Str} (ht : t ∈ W.T.ties) {a b : Nat} (ha : a ≤ W.n) (hb : b ≤ W.n) :
    decide ((a, b) ∈ (putW W one other).ts t) = decide ((rx one other W.n a b, ry one other W.n a b) ∈ W.ts t) := by
  have hl := c.ok.t.lt t ht
  have no : ∀ q : Nat × Nat, (q.1 = W.n ∨ q.2 = W.n) → q ∉ W.ts t := fun q h hm => by have := hl q hm; omega
  refine decide_eq_decide.mpr ?_
  show (a, b) ∈ tieA (W.ts t) one other W.n W.n ↔ _
  rw [tieA_mem]
  by_cases ea : a = W.n
  · subst ea
    by_cases eb : b = W.n
    · subst eb
      rw [show rx one other W.n W.n W.n = one by simp [rx], show ry one other W.n W.n W.n = one by simp [ry]]
      constructor
      · rintro (h | ⟨_, h⟩ | ⟨th, h, ⟨k, _⟩ | ⟨k, _⟩⟩)
        · exact absurd h (no _ (.inl rfl))
        · exact h
        · have : W.n = th := congrArg Prod.snd k
          omega
        · have : W.n = th := congrArg Prod.fst k
          omega
      · intro h
        exact .inr (.inl ⟨rfl, h⟩)
    · rw [show rx one other W.n W.n b = one by simp [rx], show ry one other W.n W.n b = kn one other b by simp [ry, eb]]
      constructor
      · rintro (h | ⟨k, _⟩ | ⟨th, h, ⟨k, h2⟩ | ⟨k, _⟩⟩)
        · exact absurd h (no _ (.inl rfl))
        · exact absurd (congrArg Prod.snd k) eb
        · have : b = th := congrArg Prod.snd k
          rw [this]
          exact h2
        · exact absurd (congrArg Prod.snd k) eb
      · intro h
        exact .inr (.inr ⟨b, by omega, .inl ⟨rfl, h⟩⟩)
  · by_cases eb : b = W.n
    · subst eb
      rw [show rx one other W.n a W.n = kn one other a by simp [rx, ea], show ry one other W.n a W.n = one by simp [ry]]
      constructor
      · rintro (h | ⟨k, _⟩ | ⟨th, h, ⟨k, h2⟩ | ⟨k, h2⟩⟩)
        · exact absurd h (no _ (.inr rfl))
        · exact absurd (congrArg Prod.fst k) ea
        · exact absurd (congrArg Prod.fst k) ea
        · have : a = th := congrArg Prod.fst k
          rw [this]
          exact h2
      · intro h
        exact .inr (.inr ⟨a, by omega, .inr ⟨rfl, h⟩⟩)
    · rw [show rx one other W.n a b = a by simp [rx, ea, eb], show ry one other W.n a b = b by simp [ry, ea, eb]]
      constructor
      · rintro (h | ⟨k, _⟩ | ⟨th, h, ⟨k, h2⟩ | ⟨k, h2⟩⟩)
        · exact h
        · exact absurd (congrArg Prod.fst k) ea
        · exact absurd (congrArg Prod.fst k) ea
        · exact absurd (congrArg Prod.snd k) eb
      · intro h
        exact .inl h
/-- the two things of one: any side -/
theorem rx_cases (c : CopyOk W one other) {a b : Nat} : rx one other W.n a b = (if a = W.n then one else a) ∨ (a = one ∧ rx one other W.n a b = other) := by
  unfold rx
  by_cases ea : a = W.n
  · rw [if_pos ea, if_pos ea]
    exact .inl rfl
  · rw [if_neg ea, if_neg ea]
    by_cases eb : b = W.n
    · rw [if_pos eb]
      by_cases e1 : a = one
      · rw [e1, kn_one]
        exact .inr ⟨rfl, rfl⟩
      · rw [kn_ne e1]
        exact .inl rfl
    · rw [if_neg eb]
      exact .inl rfl
theorem ry_eq (one other n a b : Nat) : ry one other n a b = rx one other n b a := rfl
/-- quantified over the second, the first fixed: f is what stands in the world, g in the grown one -/
theorem quant (c : CopyOk W one other) (f : Nat → Nat → Bool) (g : Nat → Bool) (a b : Nat) (ha : a ≤ W.n) (q : (Nat → Bool) → Nat → Bool) (hq : q = (fun f n => (List.range n).all f) ∨ q = (fun f n => (List.range n).any f))
    (hg : ∀ e, e ≤ W.n → g e = f (rx one other W.n a e) (ry one other W.n a e)) (like : q (f one) W.n = q (f other) W.n) : q g (W.n + 1) = q (f (rx one other W.n a b)) W.n := by
  have h1 := c.h1
  have h2 := c.h2
  have hne := c.ne
  by_cases ea : a = W.n
  · subst ea
    have er : rx one other W.n W.n b = one := if_pos rfl
    rw [er]
    have g1 : ∀ e, e < W.n → e ≠ one → g e = f one e := fun e he h => by
      rw [hg e (Nat.le_of_lt he)]
      have : ¬ e = W.n := by omega
      simp [rx, ry, this, kn_ne h]
    have g2 : g one = f one other := by
      rw [hg one (Nat.le_of_lt h1)]
      have : ¬ one = W.n := by omega
      simp [rx, ry, this, kn_one]
    have g3 : g W.n = f one one := by
      rw [hg W.n (Nat.le_refl _)]
      simp [rx, ry]
    rcases hq with rfl | rfl
    · rw [Bool.eq_iff_iff]
      show (List.range (W.n + 1)).all g = true ↔ (List.range W.n).all (f one) = true
      rw [all_iff, all_iff]
      constructor
      · intro h e he
        by_cases e1 : e = one
        · rw [e1, ← g3]
          exact h _ (Nat.lt_succ_self _)
        · rw [← g1 e he e1]
          exact h e (Nat.lt_succ_of_lt he)
      · intro h e he
        rcases Nat.lt_succ_iff_lt_or_eq.mp he with he | rfl
        · by_cases e1 : e = one
          · rw [e1, g2]
            exact h _ h2
          · rw [g1 e he e1]
            exact h e he
        · rw [g3]
          exact h _ h1
    · rw [Bool.eq_iff_iff]
      show (List.range (W.n + 1)).any g = true ↔ (List.range W.n).any (f one) = true
      rw [any_iff, any_iff]
      constructor
      · rintro ⟨e, he, h⟩
        rcases Nat.lt_succ_iff_lt_or_eq.mp he with he | rfl
        · by_cases e1 : e = one
          · rw [e1, g2] at h
            exact ⟨_, h2, h⟩
          · rw [g1 e he e1] at h
            exact ⟨e, he, h⟩
        · rw [g3] at h
          exact ⟨_, h1, h⟩
      · rintro ⟨e, he, h⟩
        by_cases e1 : e = one
        · rw [e1, ← g3] at h
          exact ⟨_, Nat.lt_succ_self _, h⟩
        · rw [← g1 e he e1] at h
          exact ⟨e, Nat.lt_succ_of_lt he, h⟩
  · have g1 : ∀ e, e < W.n → g e = f a e := fun e he => by
      rw [hg e (Nat.le_of_lt he)]
      have : ¬ e = W.n := by omega
      simp [rx, ry, this, ea]
    have g3 : g W.n = f (kn one other a) one := by
      rw [hg W.n (Nat.le_refl _)]
      simp [rx, ry, ea]
    have main : q g (W.n + 1) = q (f a) W.n := by
      by_cases e1 : a = one
      · subst e1
        rw [kn_one] at g3
        rcases hq with rfl | rfl
        · rw [Bool.eq_iff_iff]
          have like : (List.range W.n).all (f a) = (List.range W.n).all (f other) := like
          show (List.range (W.n + 1)).all g = true ↔ (List.range W.n).all (f a) = true
          constructor
          · intro h
            rw [all_iff] at h ⊢
            intro e he
            rw [← g1 e he]
            exact h e (Nat.lt_succ_of_lt he)
          · intro h
            have h' := h
            rw [like] at h'
            rw [all_iff] at h h' ⊢
            intro e he
            rcases Nat.lt_succ_iff_lt_or_eq.mp he with he | rfl
            · rw [g1 e he]
              exact h e he
            · rw [g3]
              exact h' _ h1
        · rw [Bool.eq_iff_iff]
          have like : (List.range W.n).any (f a) = (List.range W.n).any (f other) := like
          show (List.range (W.n + 1)).any g = true ↔ (List.range W.n).any (f a) = true
          constructor
          · intro h
            rw [any_iff] at h
            obtain ⟨e, he, h⟩ := h
            rcases Nat.lt_succ_iff_lt_or_eq.mp he with he | rfl
            · rw [g1 e he] at h
              exact any_iff.mpr ⟨e, he, h⟩
            · rw [g3] at h
              rw [like]
              exact any_iff.mpr ⟨_, h1, h⟩
          · intro h
            rw [any_iff] at h ⊢
            obtain ⟨e, he, h⟩ := h
            rw [← g1 e he] at h
            exact ⟨e, Nat.lt_succ_of_lt he, h⟩
      · rw [kn_ne e1] at g3
        rcases hq with rfl | rfl
        · rw [Bool.eq_iff_iff]
          show (List.range (W.n + 1)).all g = true ↔ (List.range W.n).all (f a) = true
          rw [all_iff, all_iff]
          constructor
          · intro h e he
            rw [← g1 e he]
            exact h e (Nat.lt_succ_of_lt he)
          · intro h e he
            rcases Nat.lt_succ_iff_lt_or_eq.mp he with he | rfl
            · rw [g1 e he]
              exact h e he
            · rw [g3]
              exact h _ h1
        · rw [Bool.eq_iff_iff]
          show (List.range (W.n + 1)).any g = true ↔ (List.range W.n).any (f a) = true
          rw [any_iff, any_iff]
          constructor
          · rintro ⟨e, he, h⟩
            rcases Nat.lt_succ_iff_lt_or_eq.mp he with he | rfl
            · rw [g1 e he] at h
              exact ⟨e, he, h⟩
            · rw [g3] at h
              exact ⟨_, h1, h⟩
          · rintro ⟨e, he, h⟩
            rw [← g1 e he] at h
            exact ⟨e, Nat.lt_succ_of_lt he, h⟩
    rw [main]
    rcases rx_cases c (a := a) (b := b) with e | ⟨e1, e2⟩
    · rw [e, if_neg ea]
    · rw [e2, e1]
      exact like
/-- what is asked of the parts -/
structure LikeB (W : Wd) (one other : Nat) (t : Say) : Prop where
  b : ∀ u ∈ t.bs, ev W u one one = ev W u other other
theorem copy (c : CopyOk W one other) (Lm : ∀ m ∈ W.T.marks, decide (one ∈ W.ms m) = decide (other ∈ W.ms m)) (Lt : ∀ t ∈ W.T.ties, decide ((one, one) ∈ W.ts t) = decide ((other, other) ∈ W.ts t)) :
    ∀ (t : Say), t.okT W.T.marks W.T.ties → (∀ u ∈ t.bs, ev W u one one = ev W u other other) → ∀ a b, a ≤ W.n → b ≤ W.n → ev (putW W one other) t a b = ev W t (rx one other W.n a b) (ry one other W.n a b)
  | .tru, _, _, _, _, _, _ => rfl
  | .mark m v, ok, _, a, b, ha, hb => by
    cases v with
    | x => exact mem_mark c Lm ok ha _ (rx_cases c)
    | y => exact mem_mark c Lm ok hb _ (rx_cases c)
  | .tie t v u, ok, _, a, b, ha, hb => by
    have h1 := c.h1
    have loop : ∀ e d : Nat, e ≤ W.n → decide ((e, e) ∈ (putW W one other).ts t) = decide ((rx one other W.n e d, rx one other W.n e d) ∈ W.ts t) := fun e d he => by
      rw [mem_tie c ok he he]
      have e0 : rx one other W.n e e = (if e = W.n then one else e) := by
        unfold rx
        by_cases z : e = W.n
        · rw [if_pos z, if_pos z]
        · rw [if_neg z, if_neg z, if_neg z]
      rw [ry_eq, e0]
      rcases rx_cases c (a := e) (b := d) with k | ⟨k1, k2⟩
      · rw [k]
      · rw [k2, k1, if_neg (by omega)]
        exact Lt t ok
    cases v with
    | x => cases u with
      | x => exact loop a b ha
      | y => exact mem_tie c ok ha hb
    | y => cases u with
      | x => exact mem_tie c ok hb ha
      | y => exact loop b a hb
  | .same v u, _, _, a, b, ha, hb => by
    have h1 := c.h1
    have h2 := c.h2
    have hne := c.ne
    have key : ∀ a b : Nat, a ≤ W.n → b ≤ W.n → decide (a = b) = decide (rx one other W.n a b = rx one other W.n b a) := fun a b ha hb => by
      refine decide_eq_decide.mpr ?_
      by_cases e : a = b
      · subst e
        exact ⟨fun _ => rfl, fun _ => rfl⟩
      · refine ⟨fun h => absurd h e, fun h => ?_⟩
        exfalso
        unfold rx at h
        by_cases ea : a = W.n
        · have eb : ¬ b = W.n := fun z => e (by rw [ea, z])
          rw [if_pos ea, if_neg eb, if_pos ea] at h
          unfold kn at h
          split at h <;> omega
        · by_cases eb : b = W.n
          · rw [if_neg ea, if_pos eb, if_pos eb] at h
            unfold kn at h
            split at h <;> omega
          · rw [if_neg ea, if_neg eb, if_neg eb, if_neg ea] at h
            exact e h
    cases v with
    | x => cases u with
      | x => simp [ev, Nm.at_]
      | y => exact key a b ha hb
    | y => cases u with
      | x => exact key b a hb ha
      | y => simp [ev, Nm.at_]
  | .not s, ok, L, a, b, ha, hb => by
    simp only [ev]
    rw [copy c Lm Lt s ok L a b ha hb]
  | .and s t, ok, L, a, b, ha, hb => by
    simp only [ev]
    rw [copy c Lm Lt s ok.1 (fun u hu => L u (List.mem_append_left _ hu)) a b ha hb, copy c Lm Lt t ok.2 (fun u hu => L u (List.mem_append_right _ hu)) a b ha hb]
  | .or s t, ok, L, a, b, ha, hb => by
    simp only [ev]
    rw [copy c Lm Lt s ok.1 (fun u hu => L u (List.mem_append_left _ hu)) a b ha hb, copy c Lm Lt t ok.2 (fun u hu => L u (List.mem_append_right _ hu)) a b ha hb]
  | .each .y s, ok, L, a, b, ha, hb => quant c (fun x e => ev W s x e) (fun e => ev (putW W one other) s a e) a b ha (fun f n => (List.range n).all f) (.inl rfl)
      (fun e he => copy c Lm Lt s ok (fun u hu => L u (List.mem_append_left _ hu)) a e ha he) (L _ (List.mem_append_right _ (List.mem_singleton.mpr rfl)))
  | .som .y s, ok, L, a, b, ha, hb => quant c (fun x e => ev W s x e) (fun e => ev (putW W one other) s a e) a b ha (fun f n => (List.range n).any f) (.inr rfl)
      (fun e he => copy c Lm Lt s ok (fun u hu => L u (List.mem_append_left _ hu)) a e ha he) (L _ (List.mem_append_right _ (List.mem_singleton.mpr rfl)))
  | .each .x s, ok, L, a, b, ha, hb => quant c (fun x e => ev W s e x) (fun e => ev (putW W one other) s e b) b a hb (fun f n => (List.range n).all f) (.inl rfl)
      (fun e he => copy c Lm Lt s ok (fun u hu => L u (List.mem_append_left _ hu)) e b he hb) (L _ (List.mem_append_right _ (List.mem_singleton.mpr rfl)))
  | .som .x s, ok, L, a, b, ha, hb => quant c (fun x e => ev W s e x) (fun e => ev (putW W one other) s e b) b a hb (fun f n => (List.range n).any f) (.inr rfl)
      (fun e he => copy c Lm Lt s ok (fun u hu => L u (List.mem_append_left _ hu)) e b he hb) (L _ (List.mem_append_right _ (List.mem_singleton.mpr rfl)))
end
theorem fvN_nil {s : Say} (h : s.fvN = []) : s.fr .x = false ∧ s.fr .y = false := by
  unfold Say.fvN at h
  cases hx : s.fr .x <;> cases hy : s.fr .y <;> simp [hx, hy] at h ⊢
theorem Like.all {W : Wd} {s : Say} {one other : Nat} (L : Like W s one other) : ∀ u ∈ s.bs, ev W u one one = ev W u other other := fun u hu => by
  by_cases h : u.fvN = []
  · obtain ⟨h1, h2⟩ := fvN_nil h
    exact ev_free W u _ _ _ _ (fun k => by rw [h1] at k; cases k) (fun k => by rw [h2] at k; cases k)
  · exact L.b u hu h
/-- one step more: as true as it was, and like as it was -/
theorem copy_like {W : Wd} {s : Say} {one other : Nat} (c : CopyOk W one other) (ok : s.okT W.T.marks W.T.ties) (L : Like W s one other) : Like (putW W one other) s one other := by
  have h1 := c.h1
  have h2 := c.h2
  have r1 : ∀ a b, a < W.n → b < W.n → rx one other W.n a b = a ∧ ry one other W.n a b = b := fun a b ha hb => by
    have ea : ¬ a = W.n := by omega
    have eb : ¬ b = W.n := by omega
    simp [rx, ry, ea, eb]
  have sub : ∀ u ∈ s.bs, u.okT W.T.marks W.T.ties ∧ ∀ v ∈ u.bs, v ∈ s.bs := fun u hu => ⟨(bs_in hu).2.1 ok, fun v hv => by
    obtain ⟨i, hi⟩ := List.getElem?_of_mem hu
    have he := bs_num.bs_end 0 u 0 s i u hi
    have hn := bs_num s i u hi (i + 1 - u.bs.length) (by omega)
    obtain ⟨j, hj⟩ := List.getElem?_of_mem hv
    exact List.mem_of_getElem? (hn j v hj)⟩
  refine ⟨fun m hm => ?_, fun t ht => ?_, fun u hu _ => ?_⟩
  · rw [mem_mark c L.m hm (Nat.le_of_lt h1) one (.inl (by rw [if_neg (by omega)])), mem_mark c L.m hm (Nat.le_of_lt h2) other (.inl (by rw [if_neg (by omega)]))]
    exact L.m m hm
  · rw [mem_tie c ht (Nat.le_of_lt h1) (Nat.le_of_lt h1), mem_tie c ht (Nat.le_of_lt h2) (Nat.le_of_lt h2), (r1 one one h1 h1).1, (r1 one one h1 h1).2, (r1 other other h2 h2).1, (r1 other other h2 h2).2]
    exact L.t t ht
  · obtain ⟨k1, k2⟩ := sub u hu
    have Lu : ∀ v ∈ u.bs, ev W v one one = ev W v other other := fun v hv => L.all v (k2 v hv)
    rw [copy c L.m L.t u k1 Lu one one (Nat.le_of_lt h1) (Nat.le_of_lt h1), copy c L.m L.t u k1 Lu other other (Nat.le_of_lt h2) (Nat.le_of_lt h2), (r1 one one h1 h1).1, (r1 one one h1 h1).2, (r1 other other h2 h2).1, (r1 other other h2 h2).2]
    exact L.all u hu
theorem copy_ev {W : Wd} {s : Say} {one other : Nat} (c : CopyOk W one other) (ok : s.okT W.T.marks W.T.ties) (L : Like W s one other) : ev (putW W one other) s 0 0 = ev W s 0 0 := by
  have h0 : ¬ 0 = W.n := by have := c.h1; omega
  rw [copy c L.m L.t s ok L.all 0 0 (Nat.zero_le _) (Nat.zero_le _)]
  simp [rx, ry, h0]
theorem grow_like {W : Wd} {s : Say} {one other : Nat} (c : CopyOk W one other) (ok : s.okT W.T.marks W.T.ties) (L : Like W s one other) :
    ∀ k, W.n + k ≤ 15 → Like (growW k W one other) s one other ∧ ev (growW k W one other) s 0 0 = ev W s 0 0
  | 0, _ => ⟨L, rfl⟩
  | k + 1, hk => by
    obtain ⟨h1, h2⟩ := grow_like c ok L k (by omega)
    have ck : CopyOk (growW k W one other) one other := ⟨growW_ok c.ok k (by omega), by rw [growW_n]; have := c.h1; omega, by rw [growW_n]; have := c.h2; omega, c.ne⟩
    have okk : s.okT (growW k W one other).T.marks (growW k W one other).T.ties := by rw [growW_T]; exact ok
    exact ⟨copy_like ck okk h1, by rw [show growW (k + 1) W one other = putW (growW k W one other) one other from rfl, copy_ev ck okk h1, h2]⟩
theorem Like.symm {W : Wd} {s : Say} {one other : Nat} (L : Like W s one other) : Like W s other one := ⟨fun m hm => (L.m m hm).symm, fun t ht => (L.t t ht).symm, fun b hb hf => (L.b b hb hf).symm⟩
end K48
namespace K48
open PySem PySem.Spec PyProof.Rows L2
local macro_rules | `(tactic| walk_at "rd") => `(tactic| repeat (first | refine ⟨_, rfl, ?_⟩ | refine ⟨_, _, rfl, rfl, ?_⟩ | refine ⟨rfl, ?_⟩ | refine iteTk (by decide +kernel) ?_ | refine iteFk (by decide +kernel) ?_))
local macro_rules | `(tactic| walk_at "rdr") => `(tactic| repeat (first | refine ⟨_, rfl, ?_⟩ | refine ⟨_, _, rfl, rfl, ?_⟩ | refine ⟨rfl, ?_⟩ | refine iteTk (by first | decide +kernel | rfl) ?_ | refine iteFk (by first | decide +kernel | rfl) ?_))
local macro_rules | `(tactic| walk_at "tyn") => `(tactic| first | exact .int _ | exact .bl _ | exact .str _ | exact .tup (by assumption) | exact .lst (by assumption) | exact .dK (by assumption))
local macro_rules | `(tactic| walk_at "isT") => `(tactic| refine ⟨_, _, _, _, true, rfl, .ty _, TyN.x (by walk_at "tyn"), kit_ty (by decide +kernel), ?_⟩)
local macro_rules | `(tactic| walk_at "isF") => `(tactic| refine ⟨_, _, _, _, false, rfl, .ty _, TyN.x (by walk_at "tyn"), kit_ty (by decide +kernel), ?_⟩)
local macro_rules | `(tactic| walk_at "nz") => `(tactic| first | refine nzG (by simp only [List.set_cons_succ, List.set_cons_zero]; rfl) ?_ | refine reS (by simp only [List.set_cons_succ, List.set_cons_zero]; rfl) ?_)
/-! ## The pool of draws -/
def PoolAt (H : Hp) (p c : Addr) : Prop := ∃ (seed count : Int) (cells : List Int), H p = some (.lst [.int seed, .int count, .ref c]) ∧ H c = some (.lst (cells.map V.int))
theorem pool_ne {H : Hp} {p c : Addr} (h : PoolAt H p c) : p ≠ c := by
  obtain ⟨seed, count, cells, h1, h2⟩ := h
  refine ne_of h1 h2 fun z => ?_
  have z := HO.lst.inj z
  match cells, z with
  | [], z => cases z
  | [_], z => cases z
  | [_, _], z => cases z
  | [_, _, _], z => cases z
  | _ :: _ :: _ :: _ :: _, z => cases z
/-- the heap without the pool -/
abbrev noP (p c : Addr) (H : Hp) : Hp := hidL [p, c] H
theorem noP_p {p c : Addr} {H : Hp} : noP p c H p = none := hidL_in (by simp)
theorem noP_c {p c : Addr} {H : Hp} : noP p c H c = none := hidL_in (by simp)
theorem noP_ne {p c b : Addr} {H : Hp} (h1 : b ≠ p) (h2 : b ≠ c) : noP p c H b = H b := hidL_ne (by simp [h1, h2])
theorem noP_some {p c b : Addr} {H : Hp} {u : HO} (h : noP p c H b = some u) : b ≠ p ∧ b ≠ c ∧ H b = some u := by
  obtain ⟨n, h⟩ := hidL_some h
  simp at n
  exact ⟨n.1, n.2, h⟩
theorem noP_base {p c : Addr} {G H : Hp} (e : Same G H) (n1 : G p = none) (n2 : G c = none) : Same G (noP p c H) := hidL_base e fun b hb => by
  simp at hb
  rcases hb with rfl | rfl
  · exact n1
  · exact n2
theorem PoolAt.same {p c : Addr} {H H' : Hp} (h : PoolAt H p c) (e : Same H H') : PoolAt H' p c := by
  obtain ⟨s, k, cells, h1, h2⟩ := h
  exact ⟨s, k, cells, e _ _ h1, e _ _ h2⟩
theorem PoolAt.new {p c q : Addr} {H : Hp} {o : HO} (h : PoolAt H p c) (hq : H q = none) : PoolAt (upd H q o) p c := h.same (Same.new (Same.refl _) hq)
section
variable {P : Program} {w : World} {K : PySem.W.Frag} {mg : Str → Option Value} {base : Heap}
def spDraw : Sp := fun vs H Q _ => ∃ (p c : Addr) (many : Nat), vs = [.ref p, .int many] ∧ PoolAt H p c ∧ 0 < many ∧ many < 1000 ∧ ∀ (d : Nat) H', d < many → Same (noP p c H) H' → PoolAt H' p c → Q (.int d) H'
theorem emod_nat {i : Int} {n : Nat} (h : 0 < n) : ∃ d : Nat, d < n ∧ i % (n : Int) = (d : Int) := by
  have h1 := Int.emod_nonneg i (show (n : Int) ≠ 0 by omega)
  have h2 := Int.emod_lt_of_pos i (show (0 : Int) < n by omega)
  exact ⟨(i % (n : Int)).toNat, by omega, by omega⟩
theorem emod_small (i : Int) {m : Int} (h1 : 0 < m) (h2 : m < 2 ^ 64) : -(2 ^ 64) < i % m ∧ i % m < 2 ^ 64 := by
  have h3 := Int.emod_nonneg i (show m ≠ 0 by omega)
  have h4 := Int.emod_lt_of_pos i h1
  omega
theorem ok_draw (B : Blt mg) (D : Def K mg "_law_draw" s_law_draw) : CallOk P w K mg base 1 "_law_draw" P_law_draw spDraw := by
  refine callOk D sc_law_draw bd_law_draw (fun vs H Q E h => ?_) (fun f cdv A outer st H vs Q E hr h => ?_)
  · obtain ⟨p, c, many, rfl, _⟩ := h
    rfl
  obtain ⟨p, c, many, rfl, hp, hm, hm2, q⟩ := h
  have hpc := pool_ne hp
  obtain ⟨seed, count, cells, hp, hc⟩ := hp
  refine ⟨_, pss_cons (ps_asg (pe_op op_add (pe_ix ix_list (pv 0) (pe_int) (fun _ _ => rfl)) (pe_int)) (pg_sub (pv 0) (pe_int) set_list)) (pss_cons (ps_set (i := 2) sc_law_draw.nd rfl (.inl rfl) (pe_ix ix_list (pv 0) (pe_int) (fun _ _ => rfl))) (pss_cons (ps_if (pt_cmpR op_gt (pe_callB call_len_seq (by rfl) B.len bo_len (pa_cons (pv 2) pa_nil)) (pe_int) (nomark _)) (pss_cons (ps_set (i := 3) sc_law_draw.nd rfl (.inl rfl) (pe_op op_mod (pe_callTy call_int1 (by rfl) B.int bo_int (pa_cons (pe_ix ix_list (pv 2) (pe_int) (fun _ _ => rfl)) pa_nil)) (pv 1))) (pss_cons (ps_asg (pe_op op_fdiv (pe_callTy call_int1 (by rfl) B.int bo_int (pa_cons (pe_ix ix_list (pv 2) (pe_int) (fun _ _ => rfl)) pa_nil)) (pv 1)) (pg_sub (pv 2) (pe_int) set_list)) (pss_cons (ps_if (pt_cmpR op_eq (pe_ix ix_list (pv 2) (pe_int) (fun _ _ => rfl)) (pe_int) (nomark _)) (pss_one (ps_expr (pe_bm PySem.F.plainAttrs_list PySem.F.slot_list_pop PySem.F.type_list_pop mt_popAt (pv 2) (pa_cons (pe_int) pa_nil)))) (pss_nil)) (pss_one (ps_ret (pv 3)))))) (pss_nil)) (pss_cons (ps_set (i := 4) sc_law_draw.nd rfl (.inl rfl) (pe_op op_mod (pe_callTy call_int1 (by rfl) B.int bo_int (pa_cons (pe_op op_mul (pe_op op_add (pe_ix ix_list (pv 0) (pe_int) (fun _ _ => rfl)) (pe_op op_mul (pe_int) (pe_ix ix_list (pv 0) (pe_int) (fun _ _ => rfl)))) (pe_int)) pa_nil)) (pe_int))) (pss_cons (ps_set (i := 4) sc_law_draw.nd rfl (.inl rfl) (pe_op op_mod (pe_callTy call_int1 (by rfl) B.int bo_int (pa_cons (pe_op op_mul (pv 4) (pe_op op_add (pe_op op_fdiv (pv 4) (pe_int)) (pe_int))) pa_nil)) (pe_int))) (pss_cons (ps_set (i := 4) sc_law_draw.nd rfl (.inl rfl) (pe_op op_mod (pe_callTy call_int1 (by rfl) B.int bo_int (pa_cons (pe_op op_mul (pv 4) (pe_op op_add (pe_op op_fdiv (pv 4) (pe_int)) (pe_int))) pa_nil)) (pe_int))) (pss_one (ps_ret (pe_op op_mod (pe_callTy call_int1 (by rfl) B.int bo_int (pa_cons (pe_op op_fdiv (pv 4) (pe_int)) pa_nil)) (pv 1))))))))), ?_⟩
  walk_at "rd"
  refine ⟨_, _, _, _, rfl, rfl, SqL.of hp, atI_nat (j := 1) rfl, ?_⟩
  walk_at "rd"
  refine ⟨_, _, _, _, rfl, rfl, hp, rfl, ?_⟩
  have e1 : Same (noP p c H) (upd H p (.lst [.int seed, .int (count + 1), .ref c])) := hidL_mut hidL_same (by simp)
  have hp1 : (upd H p (.lst [.int seed, .int (count + 1), .ref c])) p = some (.lst [.int seed, .int (count + 1), .ref c]) := upd_same
  have hc1 : (upd H p (.lst [.int seed, .int (count + 1), .ref c])) c = some (.lst (cells.map V.int)) := by rw [upd_ne (Ne.symm hpc)]; exact hc
  generalize hX : upd H p _ = H1
  have e1 : Same (noP p c H) H1 := by rw [← hX]; exact e1
  have hp1 : H1 p = some (.lst [.int seed, .int (count + 1), .ref c]) := by rw [← hX]; exact hp1
  have hc1 : H1 c = some (.lst (cells.map V.int)) := by rw [← hX]; exact hc1
  clear hX
  walk_at "rd"
  refine ⟨_, _, _, _, rfl, rfl, SqL.of hp1, atI_nat (j := 2) rfl, ?_⟩
  walk_at "rd"
  refine ⟨_, _, rfl, .inl (SqL.of hc1), ?_⟩
  walk_at "rd"
  cases cells with
  | cons i0 cells =>
    refine iteTk (decide_eq_true (by simp)) ?_
    walk_at "rd"
    refine ⟨_, _, _, _, rfl, rfl, SqL.of hc1, atI_nat (j := 0) rfl, ?_⟩
    walk_at "rd"
    refine .inl ⟨_, rfl, ?_⟩
    walk_at "rd"
    refine ⟨by omega, ?_⟩
    obtain ⟨d, hd, ed⟩ := emod_nat (i := i0) hm
    walk_at "rd"
    refine ⟨_, _, _, _, rfl, rfl, SqL.of hc1, atI_nat (j := 0) rfl, ?_⟩
    walk_at "rd"
    refine .inl ⟨_, rfl, ?_⟩
    walk_at "rd"
    refine ⟨⟨by omega, by omega⟩, ?_⟩
    walk_at "rd"
    refine ⟨_, _, _, 0, rfl, rfl, hc1, by simp [ixN], ?_⟩
    have e2 : Same (noP p c H) (upd H1 c (.lst (V.int (i0 / (many : Int)) :: cells.map V.int))) := hidL_mut e1 (by simp)
    have hp2 : (upd H1 c (.lst (V.int (i0 / (many : Int)) :: cells.map V.int))) p = some (.lst [.int seed, .int (count + 1), .ref c]) := by rw [upd_ne hpc]; exact hp1
    have hc2 : (upd H1 c (.lst (V.int (i0 / (many : Int)) :: cells.map V.int))) c = some (.lst (V.int (i0 / (many : Int)) :: cells.map V.int)) := upd_same
    generalize hX : upd H1 c _ = H2
    have e2 : Same (noP p c H) H2 := by rw [← hX]; exact e2
    have hp2 : H2 p = some (.lst [.int seed, .int (count + 1), .ref c]) := by rw [← hX]; exact hp2
    have hc2 : H2 c = some (.lst (V.int (i0 / (many : Int)) :: cells.map V.int)) := by rw [← hX]; exact hc2
    clear hX
    walk_at "rd"
    refine ⟨_, _, _, _, rfl, rfl, SqL.of hc2, atI_nat (j := 0) rfl, ?_⟩
    walk_at "rd"
    refine iteS (fun h => ?_) (fun h => ?_)
    · walk_at "rd"
      refine ⟨.inl ⟨rfl, _, SqL.of hc2⟩, ?_⟩
      walk_at "rd"
      refine ⟨_, _, _, 0, _, rfl, rfl, hc2, by decide, by decide, ?_, rfl, ?_⟩
      · rw [seqIndex_of (by decide) (by simp)]
        rfl
      walk_at "rd"
      have z := q d _ hd (hidL_mut (p := c) (o := .lst (cells.map V.int)) e2 (by simp)) ⟨seed, count + 1, cells, by rw [upd_ne hpc]; exact hp2, by rw [upd_same]⟩
      rw [← ed] at z
      exact z
    · walk_at "rd"
      have z := q d _ hd e2 ⟨seed, count + 1, (i0 / (many : Int)) :: cells, hp2, hc2⟩
      rw [← ed] at z
      exact z
  | nil =>
    refine iteFk (decide_eq_false (by simp)) ?_
    walk_at "rd"
    refine ⟨_, _, _, _, rfl, rfl, SqL.of hp1, atI_nat (j := 0) rfl, ?_⟩
    walk_at "rd"
    refine ⟨_, _, _, _, rfl, rfl, SqL.of hp1, atI_nat (j := 1) rfl, ?_⟩
    walk_at "rd"
    refine ⟨.inl ⟨by decide, by decide⟩, ?_⟩
    walk_at "rd"
    refine ⟨.inr ⟨by decide, by decide⟩, ?_⟩
    refine .inl ⟨_, rfl, ?_⟩
    walk_at "rd"
    refine ⟨show (0 : Int) < 2147483647 by decide, ?_⟩
    walk_at "rd"
    refine ⟨⟨by decide, by decide⟩, ?_⟩
    walk_at "rd"
    refine ⟨.inl (emod_small _ (by decide) (by decide)), ?_⟩
    refine .inl ⟨_, rfl, ?_⟩
    walk_at "rd"
    refine ⟨show (0 : Int) < 2147483647 by decide, ?_⟩
    walk_at "rd"
    refine ⟨⟨by decide, by decide⟩, ?_⟩
    walk_at "rd"
    refine ⟨.inl (emod_small _ (by decide) (by decide)), ?_⟩
    refine .inl ⟨_, rfl, ?_⟩
    walk_at "rd"
    refine ⟨show (0 : Int) < 2147483399 by decide, ?_⟩
    walk_at "rd"
    refine ⟨⟨by decide, by decide⟩, ?_⟩
    refine .inl ⟨_, rfl, ?_⟩
    walk_at "rd"
    refine ⟨by omega, ?_⟩
    have all : ∀ m3 : Int, Q (.int (m3 % (many : Int))) H1 := fun m3 => by
      obtain ⟨d, hd, ed⟩ := emod_nat (i := m3) hm
      rw [ed]
      exact q d _ hd e1 ⟨seed, count + 1, [], hp1, hc1⟩
    exact all _
end
end K48
namespace K48
open PySem PySem.Spec PyProof.Rows L2
local macro_rules | `(tactic| walk_at "rd") => `(tactic| repeat (first | refine ⟨_, rfl, ?_⟩ | refine ⟨_, _, rfl, rfl, ?_⟩ | refine ⟨rfl, ?_⟩ | refine iteTk (by decide +kernel) ?_ | refine iteFk (by decide +kernel) ?_))
local macro_rules | `(tactic| walk_at "rdr") => `(tactic| repeat (first | refine ⟨_, rfl, ?_⟩ | refine ⟨_, _, rfl, rfl, ?_⟩ | refine ⟨rfl, ?_⟩ | refine iteTk (by first | decide +kernel | rfl) ?_ | refine iteFk (by first | decide +kernel | rfl) ?_))
local macro_rules | `(tactic| walk_at "tyn") => `(tactic| first | exact .int _ | exact .bl _ | exact .str _ | exact .tup (by assumption) | exact .lst (by assumption) | exact .dK (by assumption))
local macro_rules | `(tactic| walk_at "isT") => `(tactic| refine ⟨_, _, _, _, true, rfl, .ty _, TyN.x (by walk_at "tyn"), kit_ty (by decide +kernel), ?_⟩)
local macro_rules | `(tactic| walk_at "isF") => `(tactic| refine ⟨_, _, _, _, false, rfl, .ty _, TyN.x (by walk_at "tyn"), kit_ty (by decide +kernel), ?_⟩)
local macro_rules | `(tactic| walk_at "nz") => `(tactic| first | refine nzG (by simp only [List.set_cons_succ, List.set_cons_zero]; rfl) ?_ | refine reS (by simp only [List.set_cons_succ, List.set_cons_zero]; rfl) ?_)
section
variable {P : Program} {w : World} {K : PySem.W.Frag} {mg : Str → Option Value} {base : Heap} {cT cW : Addr}
def spMixed : Sp := fun vs H Q _ => ∃ (G : Hp) (p c a : Addr) (xs : List V), vs = [.ref p, .ref a] ∧ Same G H ∧ G p = none ∧ G c = none ∧ PoolAt H p c ∧ G a = some (.lst xs) ∧ xs.length < 900 ∧
  ∀ l ys H', Same (noP p c H) H' → PoolAt H' p c → noP p c H' l = some (.lst ys) → ys.Perm xs → Q (.ref l) H'
theorem perm_erase : ∀ {xs : List V} {k : Nat} {y : V}, xs[k]? = some y → (y :: xs.eraseIdx k).Perm xs
  | [], k, y, h => by simp at h
  | x :: xs, 0, y, h => by
    have e : x = y := by simpa using h
    subst e
    exact List.Perm.refl _
  | x :: xs, k + 1, y, h => by
    have ih := perm_erase (xs := xs) (k := k) (y := y) (by simpa using h)
    exact (List.Perm.swap x y _).trans (ih.cons x)
theorem ok_mixed (B : Blt mg) (D : Def K mg "_law_mixed" s_law_mixed) (c_law_draw : CallOk P w K mg base 1 "_law_draw" P_law_draw spDraw) : CallOk P w K mg base 2 "_law_mixed" P_law_mixed spMixed := by
  refine callOk D sc_law_mixed bd_law_mixed (fun vs H Q E h => ?_) (fun f cdv A outer st H vs Q E hr h => ?_)
  · obtain ⟨G, p, c, a, xs, rfl, _⟩ := h
    rfl
  obtain ⟨G, p, c, a, xs, rfl, eG, hGp, hGc, hp, ha, hl, q⟩ := h
  refine ⟨_, pss_cons (ps_set (i := 2) sc_law_mixed.nd rfl (.inl rfl) (pe_callTy call_list_of (by rfl) B.list bo_list (pa_cons (pv 1) pa_nil))) (pss_cons (ps_set (i := 3) sc_law_mixed.nd rfl (.inl rfl) (pe_lst (pa_nil))) (pss_cons (ps_for PassesOwn.never rfl (pi_range1 (by rfl) B.range (pa_cons (pe_callB call_len_seq (by rfl) B.len bo_len (pa_cons (pv 1) pa_nil)) pa_nil)) (pg_name (i := 4) sc_law_mixed.nd rfl (.inl rfl)) (pss_one (ps_expr (pe_bm PySem.F.plainAttrs_list PySem.F.slot_list_append PySem.F.type_list_append mt_append (pv 3) (pa_cons (pe_bm PySem.F.plainAttrs_list PySem.F.slot_list_pop PySem.F.type_list_pop mt_popAt (pv 2) (pa_cons (pe_cl c_law_draw hr (by rfl) (pa_cons (pv 0) (pa_cons (pe_callB call_len_seq (by rfl) B.len bo_len (pa_cons (pv 2) pa_nil)) pa_nil))) pa_nil)) pa_nil))))) (pss_one (ps_ret (pv 3))))), ?_⟩
  have pp : H p ≠ none ∧ H c ≠ none := by
    obtain ⟨s, k, cells, h1, h2⟩ := hp
    exact ⟨(fun z => by rw [h1] at z; cases z), (fun z => by rw [h2] at z; cases z)⟩
  walk_at "rd"
  refine ⟨_, _, rfl, .inl (SqL.of (eG _ _ ha)), fun lf hlf => ?_⟩
  walk_at "rd"
  refine ⟨sz (by simp), fun md hmd => ?_⟩
  have e1 : Same H (upd (upd H lf (.lst xs)) md (.lst [])) := Same.new (Same.new (Same.refl _) hlf) hmd
  have hmdH : H md = none := (Same.new (o := .lst xs) (Same.refl H) hlf).free hmd
  have nlm : lf ≠ md := fun z => by rw [← z, upd_same] at hmd; cases hmd
  have n1 : lf ≠ p ∧ lf ≠ c := ⟨fun z => pp.1 (z ▸ hlf), fun z => pp.2 (z ▸ hlf)⟩
  have n2 : md ≠ p ∧ md ≠ c := ⟨fun z => pp.1 (z ▸ hmdH), fun z => pp.2 (z ▸ hmdH)⟩
  walk_at "rd"
  refine ⟨_, _, rfl, .inl (SqL.of (e1 _ _ (eG _ _ ha))), ?_⟩
  refine ⟨_, rfl, by omega, by omega, ?_⟩
  refine for_range (lo := 0) (n := (xs.length : Int).toNat) (fun i σ H' => ∃ ls ms y, σ = [some (.ref p), some (.ref a), some (.ref lf), some (.ref md), y] ∧ Same (noP p c H) H' ∧ PoolAt H' p c ∧ H' lf = some (.lst ls) ∧ H' md = some (.lst ms) ∧ (ms ++ ls).Perm xs ∧ ls.length + i = xs.length)
    ⟨xs, [], _, rfl, fun c u h => e1 _ _ (hidL_same _ _ h), hp.same e1, by rw [upd_ne nlm, upd_same], upd_same, by simp, rfl⟩ (fun i σ H' hi hP => ?_) (fun σ H' hP => ?_)
  · obtain ⟨ls, ms, y, rfl, e2, hp2, hlf2, hmd2, hpm, hln⟩ := hP
    have hil : i < xs.length := by simpa using hi
    have hpl := hpm.length_eq
    rw [List.length_append] at hpl
    walk_at "rd"
    refine ⟨.inl ⟨rfl, _, SqL.of hmd2⟩, ?_⟩
    walk_at "rd"
    refine ⟨.inl ⟨rfl, _, SqL.of hlf2⟩, ?_⟩
    walk_at "rd"
    refine ⟨_, _, rfl, .inl (SqL.of hlf2), ?_⟩
    refine ⟨p, c, ls.length, rfl, hp2, by omega, by omega, fun d H3 hd e3 hp3 => ?_⟩
    have hlf3 : H3 lf = some (.lst ls) := e3 _ _ (by rw [noP_ne n1.1 n1.2]; exact hlf2)
    have hmd3 : H3 md = some (.lst ms) := e3 _ _ (by rw [noP_ne n2.1 n2.2]; exact hmd2)
    have e4 : Same (noP p c H) H3 := fun b u h => e3 _ _ (hidL_into e2 _ _ h)
    obtain ⟨z, hz⟩ : ∃ z, ls[d]? = some z := ⟨_, List.getElem?_eq_getElem hd⟩
    refine ⟨_, _, (d : Int), d, z, rfl, rfl, hlf3, by omega, by omega, by rw [seqIndex_of (by omega) (by omega)]; simp, hz, ?_⟩
    have hmd4 : (upd H3 lf (.lst (ls.eraseIdx d))) md = some (.lst ms) := by rw [upd_ne (Ne.symm nlm)]; exact hmd3
    refine ⟨md, ms, _, rfl, rfl, hmd4, szl (by omega), ?_⟩
    refine ⟨ls.eraseIdx d, ms ++ [z], _, rfl, Same.mut (Same.mut e4 (by rw [noP_ne n1.1 n1.2]; exact hlf)) (by rw [noP_ne n2.1 n2.2]; exact hmdH), ?_, by rw [upd_ne nlm, upd_same], upd_same, ?_, ?_⟩
    · obtain ⟨s, k, cells, h1, h2⟩ := hp3
      exact ⟨s, k, cells, by rw [upd_ne (Ne.symm n2.1), upd_ne (Ne.symm n1.1)]; exact h1, by rw [upd_ne (Ne.symm n2.2), upd_ne (Ne.symm n1.2)]; exact h2⟩
    · rw [List.append_assoc]
      exact ((perm_erase hz).append_left ms).trans hpm
    · rw [List.length_eraseIdx_of_lt hd]
      omega
  · obtain ⟨ls, ms, y, rfl, e2, hp2, hlf2, hmd2, hpm, hln⟩ := hP
    have hz : ls = [] := List.eq_nil_of_length_eq_zero (by rw [Int.toNat_natCast] at hln; omega)
    subst hz
    rw [List.append_nil] at hpm
    walk_at "rd"
    exact q md ms H' e2 hp2 (by rw [noP_ne n2.1 n2.2]; exact hmd2) hpm
def spQuantor : Sp := fun vs H Q _ => ∃ (p c : Addr), vs = [.ref p] ∧ PoolAt H p c ∧ ∀ (b : Bool) H', Same (noP p c H) H' → PoolAt H' p c → Q (.str (if b = true then "some" else "each")) H'
theorem ok_quantor (D : Def K mg "_law_quantor" s_law_quantor) (c_law_draw : CallOk P w K mg base 1 "_law_draw" P_law_draw spDraw) : CallOk P w K mg base 2 "_law_quantor" P_law_quantor spQuantor := by
  refine callOk D sc_law_quantor bd_law_quantor (fun vs H Q E h => ?_) (fun f cdv A outer st H vs Q E hr h => ?_)
  · obtain ⟨p, c, rfl, _⟩ := h
    rfl
  obtain ⟨p, c, rfl, hp, q⟩ := h
  refine ⟨_, pss_one (ps_ret (pe_ix ix_list (pe_lst (pa_cons (pe_str) (pa_cons (pe_str) pa_nil))) (pe_cl c_law_draw hr (by rfl) (pa_cons (pv 0) (pa_cons (pe_int) pa_nil))) (fun _ _ => rfl))), ?_⟩
  walk_at "rd"
  refine ⟨sz (by simp), fun l hl => ?_⟩
  have e1 : Same H (upd H l (.lst [.str "each", .str "some"])) := Same.new (Same.refl _) hl
  have pl : l ≠ p ∧ l ≠ c := by
    obtain ⟨s, k, cells, h1, h2⟩ := hp
    exact ⟨(fun z => by rw [z, h1] at hl; cases hl), (fun z => by rw [z, h2] at hl; cases hl)⟩
  walk_at "rd"
  refine ⟨p, c, 2, rfl, hp.same e1, by decide, by decide, fun d H2 hd e2 hp2 => ?_⟩
  have hl2 : H2 l = some (.lst [.str "each", .str "some"]) := e2 _ _ (by rw [noP_ne pl.1 pl.2, upd_same])
  have e3 : Same (noP p c H) H2 := fun b u h => e2 _ _ (by
    obtain ⟨n1, n2, h⟩ := noP_some h
    rw [noP_ne n1 n2]
    exact e1 _ _ h)
  match d, hd with
  | 0, _ => exact ⟨_, _, _, _, rfl, rfl, SqL.of hl2, atI_nat (j := 0) rfl, q false _ e3 hp2⟩
  | 1, _ => exact ⟨_, _, _, _, rfl, rfl, SqL.of hl2, atI_nat (j := 1) rfl, q true _ e3 hp2⟩
end
end K48
namespace K48
open PySem PySem.Spec PyProof.Rows L2
local macro_rules | `(tactic| walk_at "rd") => `(tactic| repeat (first | refine ⟨_, rfl, ?_⟩ | refine ⟨_, _, rfl, rfl, ?_⟩ | refine ⟨rfl, ?_⟩ | refine iteTk (by decide +kernel) ?_ | refine iteFk (by decide +kernel) ?_))
local macro_rules | `(tactic| walk_at "rdr") => `(tactic| repeat (first | refine ⟨_, rfl, ?_⟩ | refine ⟨_, _, rfl, rfl, ?_⟩ | refine ⟨rfl, ?_⟩ | refine iteTk (by first | decide +kernel | rfl) ?_ | refine iteFk (by first | decide +kernel | rfl) ?_))
local macro_rules | `(tactic| walk_at "tyn") => `(tactic| first | exact .int _ | exact .bl _ | exact .str _ | exact .tup (by assumption) | exact .lst (by assumption) | exact .dK (by assumption))
local macro_rules | `(tactic| walk_at "isT") => `(tactic| refine ⟨_, _, _, _, true, rfl, .ty _, TyN.x (by walk_at "tyn"), kit_ty (by decide +kernel), ?_⟩)
local macro_rules | `(tactic| walk_at "isF") => `(tactic| refine ⟨_, _, _, _, false, rfl, .ty _, TyN.x (by walk_at "tyn"), kit_ty (by decide +kernel), ?_⟩)
local macro_rules | `(tactic| walk_at "nz") => `(tactic| first | refine nzG (by simp only [List.set_cons_succ, List.set_cons_zero]; rfl) ?_ | refine reS (by simp only [List.set_cons_succ, List.set_cons_zero]; rfl) ?_)
/-! ## Names drawn -/
def ch1 (c : Nat) : Str := ⟨#[c]⟩
theorem foldl_cps {g : Array Nat} (hg : g = #[]) : ∀ (cs : List Nat) (acc : Array Nat), ((cs.map ch1).foldl (fun acc p => acc ++ g ++ p.cps) acc).toList = acc.toList ++ cs
  | [], acc => by simp
  | c :: cs, acc => by
    rw [List.map_cons, List.foldl_cons, foldl_cps hg cs]
    subst hg
    simp [ch1]
theorem join_cps (cs : List Nat) : (Txt.join "" (cs.map ch1)).cps.toList = cs := by
  have e0 : ("" : Str).cps = #[] := by decide +kernel
  cases cs with
  | nil => rfl
  | cons c cs =>
    show (((cs.map ch1).foldl (fun acc p => acc ++ ("" : Str).cps ++ p.cps) (ch1 c).cps)).toList = _
    rw [foldl_cps e0]
    rfl
def LTRS : Str := "abcdefghijklmnopqrstuvwxyz"
theorem ltr_at {i : Nat} (h : i < 26) : atI LTRS.cps.toList (i : Int) = some (97 + i) := by
  have : ∀ k : Fin 26, atI LTRS.cps.toList ((k.val : Nat) : Int) = some (97 + k.val) := by decide +kernel
  exact this ⟨i, h⟩
def bad5 : List Str := ["x", "y", "not", "and", "or"]
def stepsL : List Nat := [1, 3, 5, 7, 9, 11, 15, 17, 19, 21, 23, 25]
theorem steps_apart : ∀ s : Fin 26, ∀ t ∈ stepsL, ∀ i j : Fin 5, (s.val + t * i.val) % 26 = (s.val + t * j.val) % 26 → i = j := by decide +kernel
/-- a name whose sign at the place is v -/
structure NameAt (place v : Nat) (z : Str) : Prop where
  good : GoodName z
  kept : z ∉ keptL
  at_ : z.cps.toList[place]? = some v
theorem str_len (z : Str) : z.length = z.cps.toList.length := by simp [Str.length]
theorem cat_cps (a b : Str) : (a ++ b).cps.toList = a.cps.toList ++ b.cps.toList := by
  show (a.cps ++ b.cps).toList = _
  simp
theorem name_of {cs : List Nat} {place v : Nat} {z : Str} (hz : z.cps.toList = cs) (h1 : 1 ≤ cs.length) (h3 : cs.length ≤ 3) (hl : ∀ c ∈ cs, 97 ≤ c ∧ c ≤ 122) (hp : cs[place]? = some v) : NameAt place v (if decide (z ∈ bad5) = true then z ++ "q" else z) := by
  have eq : ("q" : Str).cps.toList = [113] := by decide +kernel
  by_cases hb : z ∈ bad5
  · rw [if_pos (decide_eq_true hb)]
    refine ⟨⟨?_, ?_, fun c hc => ?_⟩, ?_, ?_⟩
    · rw [str_len, cat_cps, hz, List.length_append]
      omega
    · rw [str_len, cat_cps, hz, List.length_append, eq]
      simp
      omega
    · rw [cat_cps, hz, eq] at hc
      rcases List.mem_append.mp hc with hc | hc
      · exact hl c hc
      · rw [List.mem_singleton.mp hc]
        decide
    · have : ∀ u ∈ bad5, u ++ "q" ∉ keptL := by decide +kernel
      exact this z hb
    · rw [cat_cps, hz, List.getElem?_append_left (List.getElem?_eq_some_iff.mp hp).1]
      exact hp
  · rw [if_neg (by simp [hb])]
    refine ⟨⟨by rw [str_len, hz]; exact h1, by rw [str_len, hz]; omega, by rw [hz]; exact hl⟩, fun hk => ?_, by rw [hz]; exact hp⟩
    have : ∀ u ∈ keptL, u ∈ bad5 ∨ u.cps.toList.length = 4 := by decide +kernel
    rcases this z hk with k | k
    · exact hb k
    · rw [hz] at k
      omega
theorem mod_nat (s t k : Nat) : ((s : Int) + (t : Int) * (0 + (k : Int))) % 26 = (((s + t * k) % 26 : Nat) : Int) := by
  rw [Int.zero_add]
  simp
section
variable {P : Program} {w : World} {K : PySem.W.Frag} {mg : Str → Option Value} {base : Heap} {cT cW : Addr}
def spNames : Sp := fun vs H Q _ => ∃ (p c : Addr), vs = [.ref p, .int 5] ∧ PoolAt H p c ∧ ∀ (l : Addr) (zs : List Str) (H' : Hp), Same (noP p c H) H' → PoolAt H' p c → noP p c H' l = some (.lst (zs.map V.str)) → zs.length = 5 → zs.Nodup → (∀ z ∈ zs, GoodName z ∧ z ∉ keptL) → Q (.ref l) H'
theorem pool_off {H : Hp} {p c b : Addr} (h : PoolAt H p c) (hb : H b = none) : b ≠ p ∧ b ≠ c := by
  obtain ⟨s, k, cells, h1, h2⟩ := h
  exact ⟨(fun z => by rw [z, h1] at hb; cases hb), (fun z => by rw [z, h2] at hb; cases hb)⟩
theorem noP_step {p c : Addr} {H H1 H2 : Hp} (e1 : Same H H1) (e2 : Same (noP p c H1) H2) : Same (noP p c H) H2 := fun b u h => e2 _ _ (by
  obtain ⟨n1, n2, h⟩ := noP_some h
  rw [noP_ne n1 n2]
  exact e1 _ _ h)
theorem noP_trans {p c : Addr} {H H1 H2 : Hp} (e1 : Same (noP p c H) H1) (e2 : Same (noP p c H1) H2) : Same (noP p c H) H2 := fun b u h => e2 _ _ (hidL_into e1 _ _ h)
theorem noP_then {p c : Addr} {H H1 H2 : Hp} (e1 : Same (noP p c H) H1) (e2 : Same H1 H2) : Same (noP p c H) H2 := fun b u h => e2 _ _ (e1 _ _ h)
theorem ixN_nat {n j : Nat} (h : j < n) : ixN n (j : Int) = some j := by
  unfold ixN
  rw [if_pos (by omega), if_pos (by omega), Int.toNat_natCast]
theorem sum_ones (cs : List Nat) : ((cs.map ch1).map (·.length)).sum = cs.length := by
  induction cs with
  | nil => rfl
  | cons c cs ih =>
    rw [List.map_cons, List.map_cons, List.sum_cons, ih, List.length_cons]
    show 1 + cs.length = _
    omega
theorem ok_names (B : Blt mg) (D : Def K mg "_law_names" s_law_names) (c_law_draw : CallOk P w K mg base 1 "_law_draw" P_law_draw spDraw) : CallOk P w K mg base 2 "_law_names" P_law_names spNames := by
  refine callOk D sc_law_names bd_law_names (fun vs H Q E h => ?_) (fun f cdv A outer st H vs Q E hr h => ?_)
  · obtain ⟨p, c, rfl, _⟩ := h
    rfl
  obtain ⟨p, c, rfl, hp, q⟩ := h
  refine ⟨_, pss_cons (ps_set (i := 2) sc_law_names.nd rfl (.inl rfl) (pe_cl c_law_draw hr (by rfl) (pa_cons (pv 0) (pa_cons (pe_int) pa_nil)))) (pss_cons (ps_set (i := 3) sc_law_names.nd rfl (.inl rfl) (pe_cl c_law_draw hr (by rfl) (pa_cons (pv 0) (pa_cons (pe_int) pa_nil)))) (pss_cons (ps_set (i := 4) sc_law_names.nd rfl (.inl rfl) (pe_ix ix_list (pe_lst (pa_cons (pe_int) (pa_cons (pe_int) (pa_cons (pe_int) (pa_cons (pe_int) (pa_cons (pe_int) (pa_cons (pe_int) (pa_cons (pe_int) (pa_cons (pe_int) (pa_cons (pe_int) (pa_cons (pe_int) (pa_cons (pe_int) (pa_cons (pe_int) pa_nil))))))))))))) (pe_cl c_law_draw hr (by rfl) (pa_cons (pv 0) (pa_cons (pe_int) pa_nil))) (fun _ _ => rfl))) (pss_cons (ps_set (i := 5) sc_law_names.nd rfl (.inr rfl) (pe_str)) (pss_cons (ps_set (i := 6) sc_law_names.nd rfl (.inl rfl) (pe_lst (pa_nil))) (pss_cons (ps_for PassesOwn.never rfl (pi_range1 (by rfl) B.range (pa_cons (pv 1) pa_nil)) (pg_name (i := 7) sc_law_names.nd rfl (.inl rfl)) (pss_cons (ps_setLc (i := 8) (own := [("_law_at", 9)]) (g := gName 9) (tt := tYes) (by rfl) sc_law_names.nd rfl rfl (sw_true rfl rfl rfl (by decide +kernel)) (pi_range1 (by rfl) B.range (pa_cons (pe_op op_add (pe_op op_add (pv 2) (pe_int)) (pe_cl c_law_draw hr (by rfl) (pa_cons (pv 0) (pa_cons (pe_op op_sub (pe_int) (pv 2)) pa_nil)))) pa_nil)) (blkOk_by (own := [("_law_at", 9)]) (N := N_law_names) (by kernel_rfl)) (fun _ _ _ _ _ => pg_name (i := 9) sc_law_names.nd rfl (Or.inl rfl)) (fun _ _ _ _ _ => pts_nil) (fun _ _ _ _ _ => pe_ix ix_str (pv 5) (pe_cl c_law_draw hr (by rfl) (pa_cons (pv 0) (pa_cons (pe_int) pa_nil))) (fun _ _ => rfl))) (pss_cons (ps_asg (pe_ix ix_str (pv 5) (pe_op op_mod (pe_callTy call_int1 (by rfl) B.int bo_int (pa_cons (pe_op op_add (pv 3) (pe_op op_mul (pv 4) (pv 7))) pa_nil)) (pe_int)) (fun _ _ => rfl)) (pg_sub (pv 8) (pv 2) set_list)) (pss_cons (ps_set (i := 10) sc_law_names.nd rfl (.inl rfl) (pe_join (pe_str) (pv 8))) (pss_cons (ps_if (pt_cmpR op_in_seq (pv 10) (pe_lst (pa_cons (pe_str) (pa_cons (pe_str) (pa_cons (pe_str) (pa_cons (pe_str) (pa_cons (pe_str) pa_nil)))))) (by rfl)) (pss_one (ps_set (i := 10) sc_law_names.nd rfl (.inl rfl) (pe_op op_add_str (pv 10) (pe_str)))) (pss_nil)) (pss_one (ps_expr (pe_bm PySem.F.plainAttrs_list PySem.F.slot_list_append PySem.F.type_list_append mt_append (pv 6) (pa_cons (pv 10) pa_nil))))))))) (pss_one (ps_ret (pv 6)))))))), ?_⟩
  walk_at "rd"
  refine ⟨p, c, 3, rfl, hp, by decide, by decide, fun place H1 hpl e1 hp1 => ?_⟩
  walk_at "rd"
  refine ⟨p, c, 26, rfl, hp1, by decide, by decide, fun start H2 hst e2 hp2 => ?_⟩
  have e2 := noP_trans e1 e2
  walk_at "rd"
  refine ⟨sz (by simp), fun sl hsl => ?_⟩
  have nsl := pool_off hp2 hsl
  walk_at "rd"
  refine ⟨p, c, 12, rfl, hp2.new hsl, by decide, by decide, fun di H3 hdi e3 hp3 => ?_⟩
  have hsl3 : H3 sl = some (.lst (stepsL.map nV)) := e3 _ _ (by rw [noP_ne nsl.1 nsl.2, upd_same]; rfl)
  have e3 := noP_trans e2 (noP_step (Same.new (Same.refl _) hsl) e3)
  obtain ⟨step, hstep⟩ : ∃ t, stepsL[di]? = some t := ⟨_, List.getElem?_eq_getElem (show di < stepsL.length from hdi)⟩
  have hsm := List.mem_of_getElem? hstep
  have hs25 : step ≤ 25 := by
    have : ∀ t ∈ stepsL, t ≤ 25 := by decide
    exact this step hsm
  refine ⟨_, _, _, nV step, rfl, rfl, SqL.of hsl3, atI_nat (j := di) (by rw [List.getElem?_map, hstep]; rfl), ?_⟩
  walk_at "rd"
  refine ⟨sz (by simp), fun nl hnl => ?_⟩
  have nnl := pool_off hp3 hnl
  walk_at "rd"
  refine ⟨by decide, by decide, ?_⟩
  have e4 : Same (noP p c H) (upd H3 nl (.lst [])) := noP_then e3 (Same.new (Same.refl _) hnl)
  refine for_range (lo := 0) (n := (5 : Int).toNat) (fun i σ H' => ∃ zs y7 y8 y9 y10, σ = [some (.ref p), some (.int 5), some (nV place), some (nV start), some (nV step), some (.str LTRS), some (.ref nl), y7, y8, y9, y10] ∧ Same (noP p c H) H' ∧ PoolAt H' p c ∧ H' nl = some (.lst (zs.map V.str)) ∧ zs.length = i ∧ ∀ (j : Nat) (z : Str), zs[j]? = some z → NameAt place (97 + (start + step * j) % 26) z)
    ⟨[], _, _, _, _, rfl, e4, hp3.new hnl, upd_same, rfl, fun j z h => by simp at h⟩ (fun i σ H' hi hP => ?_) (fun σ H' hP => ?_)
  · obtain ⟨zs, y7, y8, y9, y10, rfl, e5, hp5, hL5, hzl, hzs⟩ := hP
    have hi5 : i < 5 := hi
    walk_at "rd"
    refine ⟨p, c, 3 - place, ?_, hp5, by omega, by omega, fun d H6 hd e6 hp6 => ?_⟩
    · show [V.ref p, V.int (3 - (place : Int))] = _
      rw [show (3 : Int) - (place : Int) = ((3 - place : Nat) : Int) by omega]
    have e6' := noP_trans e5 e6
    have hL6 : H6 nl = some (.lst (zs.map V.str)) := e6 _ _ (by rw [noP_ne nnl.1 nnl.2]; exact hL5)
    walk_at "rd"
    refine ⟨by omega, by omega, fun Dw hDw => ?_⟩
    have nDw := pool_off hp6 hDw
    have nDl : Dw ≠ nl := fun z => by rw [z, hL6] at hDw; cases hDw
    have hj : ((place : Int) + 1 + (d : Int)).toNat = place + 1 + d := by omega
    refine lc_range (lo := 0) (n := ((place : Int) + 1 + (d : Int)).toNat) (fun j H' => ∃ cs : List Nat, Same (noP p c H6) H' ∧ PoolAt H' p c ∧ H' Dw = some (.lst (cs.map fun c => V.str (ch1 c))) ∧ cs.length = j ∧ ∀ c ∈ cs, 97 ≤ c ∧ c ≤ 122)
      ⟨[], fun b u h => Same.new (Same.refl _) hDw _ _ (hidL_same _ _ h), hp6.new hDw, upd_same, rfl, fun c hc => by cases hc⟩ (fun j H' hjlt hP => ?_) (fun H' hP => ?_)
    · obtain ⟨cs, e7, hp7, hD7, hcl, hcs⟩ := hP
      refine ⟨rfl, ?_⟩
      walk_at "rd"
      refine ⟨p, c, 26, rfl, hp7, by decide, by decide, fun d2 H8 hd2 e8 hp8 => ?_⟩
      have hD8 : H8 Dw = some (.lst (cs.map fun c => V.str (ch1 c))) := e8 _ _ (by rw [noP_ne nDw.1 nDw.2]; exact hD7)
      refine ⟨LTRS, _, 97 + d2, rfl, rfl, by decide +kernel, ltr_at hd2, ?_⟩
      refine ⟨_, hD8, szl (by rw [List.length_map, hcl]; omega), cs ++ [97 + d2], Same.mut (noP_trans e7 e8) (by rw [noP_ne nDw.1 nDw.2]; exact hDw), ?_, ?_, by simp [hcl], fun c hc => ?_⟩
      · obtain ⟨s, k, cells, h1, h2⟩ := hp8
        exact ⟨s, k, cells, by rw [upd_ne (Ne.symm nDw.1)]; exact h1, by rw [upd_ne (Ne.symm nDw.2)]; exact h2⟩
      · rw [upd_same, List.map_append]
        rfl
      · rcases List.mem_append.mp hc with hc | hc
        · exact hcs c hc
        · rw [List.mem_singleton.mp hc]
          omega
    · obtain ⟨cs, e7, hp7, hD7, hcl, hcs⟩ := hP
      rw [hj] at hcl
      walk_at "rd"
      refine ⟨.inl ⟨by omega, by omega⟩, ?_⟩
      walk_at "rd"
      refine .inl ⟨_, rfl, ?_⟩
      walk_at "rd"
      refine ⟨show (0 : Int) < 26 by decide, ?_⟩
      refine ⟨LTRS, _, 97 + (start + step * i) % 26, rfl, rfl, by decide +kernel, by rw [mod_nat]; exact ltr_at (Nat.mod_lt _ (by decide)), ?_⟩
      walk_at "rd"
      have hpl2 : place < (cs.map fun c => V.str (ch1 c)).length := by rw [List.length_map, hcl]; omega
      refine ⟨_, _, _, place, rfl, rfl, hD7, ixN_nat hpl2, ?_⟩
      have ew : (cs.map fun c => V.str (ch1 c)).set place (.str (ch1 (97 + (start + step * i) % 26))) = ((cs.set place (97 + (start + step * i) % 26)).map ch1).map V.str := by
        rw [List.map_map, List.map_set]
        rfl
      generalize hX : upd H' Dw _ = H9
      have hp9 : PoolAt H9 p c := by
        rw [← hX]
        obtain ⟨s, k, cells, h1, h2⟩ := hp7
        exact ⟨s, k, cells, by rw [upd_ne (Ne.symm nDw.1)]; exact h1, by rw [upd_ne (Ne.symm nDw.2)]; exact h2⟩
      have hD9 : H9 Dw = some (.lst (((cs.set place (97 + (start + step * i) % 26)).map ch1).map V.str)) := by rw [← hX, upd_same, ← ew]; rfl
      have e9 : Same (noP p c H6) H9 := by rw [← hX]; exact Same.mut e7 (by rw [noP_ne nDw.1 nDw.2]; exact hDw)
      clear hX
      have hL9 : H9 nl = some (.lst (zs.map V.str)) := e9 _ _ (by rw [noP_ne nnl.1 nnl.2]; exact hL6)
      have hcl2 : (cs.set place (97 + (start + step * i) % 26)).length = place + 1 + d := by rw [List.length_set]; exact hcl
      have hat2 : (cs.set place (97 + (start + step * i) % 26))[place]? = some (97 + (start + step * i) % 26) := by
        rw [List.getElem?_set_self (by omega)]
      have hlt2 : ∀ c ∈ cs.set place (97 + (start + step * i) % 26), 97 ≤ c ∧ c ≤ 122 := fun c hc => by
        rcases List.mem_or_eq_of_mem_set hc with h | h
        · exact hcs c h
        · rw [h]
          have := Nat.mod_lt (start + step * i) (show 0 < 26 by decide)
          omega
      revert hD9 hcl2 hat2 hlt2
      generalize cs.set place (97 + (start + step * i) % 26) = ds
      intro hD9 hcl2 hat2 hlt2
      have hjoin := join_cps ds
      walk_at "rd"
      refine ⟨⟨_, rfl⟩, ?_⟩
      refine ⟨_, rfl, ?_⟩
      refine ⟨_, _, ds.map ch1, rfl, rfl, .inl (SqL.of hD9), ?_, ?_⟩
      · rw [sum_ones, List.length_map, hcl2, show ("" : Str).length = 0 by decide +kernel]
        omega
      revert hjoin
      generalize Txt.join "" (ds.map ch1) = z
      intro hjoin
      have hna := name_of (z := z) hjoin (by omega) (by omega) hlt2 hat2
      walk_at "rd"
      refine ⟨sz (by simp), fun lb hlb => ?_⟩
      have nlb := pool_off hp9 hlb
      have nlbl : lb ≠ nl := fun y => by rw [y, hL9] at hlb; cases hlb
      refine ⟨_, _, rfl, .inl (SqL.of upd_same), rfl, rfl, ?_⟩
      rw [show inV (.str z) [.str "x", .str "y", .str "not", .str "and", .str "or"] = decide (z ∈ bad5) from inV_strs z bad5]
      have hp10 : PoolAt (upd H9 lb (.lst [.str "x", .str "y", .str "not", .str "and", .str "or"])) p c := hp9.new hlb
      have hL10 : (upd H9 lb (.lst [.str "x", .str "y", .str "not", .str "and", .str "or"])) nl = some (.lst (zs.map V.str)) := by rw [upd_ne (Ne.symm nlbl)]; exact hL9
      have e10 : Same (noP p c H6) (upd H9 lb (.lst [.str "x", .str "y", .str "not", .str "and", .str "or"])) := noP_then e9 (Same.new (Same.refl _) hlb)
      revert hp10 hL10 e10
      generalize (upd H9 lb (.lst [.str "x", .str "y", .str "not", .str "and", .str "or"])) = HA
      intro hp10 hL10 e10
      have fin : ∀ nm : Str, NameAt place (97 + (start + step * i) % 26) nm → PoolAt (upd HA nl (.lst (zs.map V.str ++ [.str nm]))) p c ∧ Same (noP p c H) (upd HA nl (.lst (zs.map V.str ++ [.str nm]))) ∧ ∀ (j : Nat) (u : Str), (zs ++ [nm])[j]? = some u → NameAt place (97 + (start + step * j) % 26) u := fun nm hnm => by
        refine ⟨?_, Same.mut (noP_trans e6' e10) ?_, fun j u hu => ?_⟩
        · obtain ⟨s, k, cells, h1, h2⟩ := hp10
          exact ⟨s, k, cells, by rw [upd_ne (Ne.symm nnl.1)]; exact h1, by rw [upd_ne (Ne.symm nnl.2)]; exact h2⟩
        · cases q' : noP p c H nl with
          | none => rfl
          | some u => rw [e3 _ _ q'] at hnl; cases hnl
        · by_cases hjz : j < zs.length
          · rw [List.getElem?_append_left hjz] at hu
            exact hzs j u hu
          · rw [List.getElem?_append_right (by omega)] at hu
            have hj0 : j - zs.length = 0 := by
              have := (List.getElem?_eq_some_iff.mp hu).1
              simp at this
              omega
            rw [hj0] at hu
            have e : nm = u := by simpa using hu
            subst e
            rw [show j = i by omega]
            exact hnm
      refine ⟨_, rfl, ?_⟩
      refine iteS (fun hb => ?_) (fun hb => ?_)
      · have hb : decide (z ∈ bad5) = true := hb
        rw [if_pos hb] at hna
        walk_at "rd"
        refine ⟨?_, ?_⟩
        · have : z.length ≤ 3 := by rw [str_len, hjoin]; omega
          exact Nat.le_trans (Nat.add_le_add this (show ("q" : Str).length ≤ 1 by decide +kernel)) (by decide)
        walk_at "rd"
        refine ⟨.inl ⟨rfl, _, SqL.of hL10⟩, ?_⟩
        walk_at "rd"
        refine ⟨nl, _, _, rfl, rfl, hL10, szl (by rw [List.length_map]; omega), ?_⟩
        obtain ⟨f1, f2, f3⟩ := fin _ hna
        exact ⟨zs ++ [z ++ "q"], _, _, _, _, rfl, f2, f1, by rw [upd_same, List.map_append]; rfl, by simp [hzl], f3⟩
      · have hb : decide (z ∈ bad5) = false := hb
        rw [if_neg (by rw [hb]; decide)] at hna
        walk_at "rd"
        refine ⟨.inl ⟨rfl, _, SqL.of hL10⟩, ?_⟩
        walk_at "rd"
        refine ⟨nl, _, _, rfl, rfl, hL10, szl (by rw [List.length_map]; omega), ?_⟩
        obtain ⟨f1, f2, f3⟩ := fin _ hna
        exact ⟨zs ++ [z], _, _, _, _, rfl, f2, f1, by rw [upd_same, List.map_append]; rfl, by simp [hzl], f3⟩
  · obtain ⟨zs, y7, y8, y9, y10, rfl, e5, hp5, hL5, hzl, hzs⟩ := hP
    walk_at "rd"
    refine q nl zs H' e5 hp5 (by rw [noP_ne nnl.1 nnl.2]; exact hL5) hzl ?_ fun z hz => ?_
    · have hzl5 : zs.length = 5 := hzl
      rw [List.Nodup, List.pairwise_iff_getElem]
      intro i j h1 h2 hij e
      have a1 := hzs i _ (List.getElem?_eq_getElem h1)
      have a2 := hzs j _ (List.getElem?_eq_getElem h2)
      rw [e] at a1
      have e3 := Option.some.inj (a1.at_.symm.trans a2.at_)
      have e4 := steps_apart ⟨start, hst⟩ step hsm ⟨i, by omega⟩ ⟨j, by omega⟩ (by show (start + step * i) % 26 = (start + step * j) % 26; omega)
      have : i = j := congrArg Fin.val e4
      omega
    · obtain ⟨j, hj⟩ := List.getElem?_of_mem hz
      have := hzs j z hj
      exact ⟨this.good, this.kept⟩
end
end K48
namespace K48
open PySem PySem.Spec PyProof.Rows L2
local macro_rules | `(tactic| walk_at "rd") => `(tactic| repeat (first | refine ⟨_, rfl, ?_⟩ | refine ⟨_, _, rfl, rfl, ?_⟩ | refine ⟨rfl, ?_⟩ | refine iteTk (by decide +kernel) ?_ | refine iteFk (by decide +kernel) ?_))
local macro_rules | `(tactic| walk_at "rdr") => `(tactic| repeat (first | refine ⟨_, rfl, ?_⟩ | refine ⟨_, _, rfl, rfl, ?_⟩ | refine ⟨rfl, ?_⟩ | refine iteTk (by first | decide +kernel | rfl) ?_ | refine iteFk (by first | decide +kernel | rfl) ?_))
local macro_rules | `(tactic| walk_at "tyn") => `(tactic| first | exact .int _ | exact .bl _ | exact .str _ | exact .tup (by assumption) | exact .lst (by assumption) | exact .dK (by assumption))
local macro_rules | `(tactic| walk_at "isT") => `(tactic| refine ⟨_, _, _, _, true, rfl, .ty _, TyN.x (by walk_at "tyn"), kit_ty (by decide +kernel), ?_⟩)
local macro_rules | `(tactic| walk_at "isF") => `(tactic| refine ⟨_, _, _, _, false, rfl, .ty _, TyN.x (by walk_at "tyn"), kit_ty (by decide +kernel), ?_⟩)
local macro_rules | `(tactic| walk_at "nz") => `(tactic| first | refine nzG (by simp only [List.set_cons_succ, List.set_cons_zero]; rfl) ?_ | refine reS (by simp only [List.set_cons_succ, List.set_cons_zero]; rfl) ?_)
/-- a drawn shape: the names -/
def ShapeAt (H : Hp) (r : Addr) (T : Tng) : Prop := ∃ am at_ af, H r = some (.tup [.ref am, .ref at_, .ref af]) ∧ H am = some (.tup (T.marks.map V.str)) ∧ H at_ = some (.tup (T.ties.map V.str)) ∧ H af = some (.tup [])
theorem ShapeAt.mono {G H : Hp} {r : Addr} {T : Tng} (h : ShapeAt G r T) (e : Same G H) : ShapeAt H r T := by
  obtain ⟨a, b, c, h1, h2, h3, h4⟩ := h
  exact ⟨a, b, c, e _ _ h1, e _ _ h2, e _ _ h3, e _ _ h4⟩
theorem cut_to (xs : List V) (m : Nat) : cutV xs none (some (m : Int)) = xs.take m := by
  unfold cutV
  rw [HT.sIx_none, HT.sIx_nat, List.drop_zero, Nat.sub_zero]
  by_cases h : m ≤ xs.length
  · rw [Nat.min_eq_left h]
  · rw [Nat.min_eq_right (by omega), List.take_of_length_le (Nat.le_refl _), List.take_of_length_le (by omega)]
theorem cut_mid (xs : List V) (a b : Nat) (h : a + b ≤ xs.length) : cutV xs (some (a : Int)) (some ((a : Int) + (b : Int))) = (xs.drop a).take b := by
  unfold cutV
  rw [show (a : Int) + (b : Int) = ((a + b : Nat) : Int) by omega, HT.sIx_nat, HT.sIx_nat, Nat.min_eq_left (show a ≤ xs.length by omega), Nat.min_eq_left h, show a + b - a = b by omega]
theorem tng_ok {zs : List Str} (hl : zs.length = 5) (hn : zs.Nodup) (hg : ∀ z ∈ zs, GoodName z ∧ z ∉ keptL) {m t : Nat} (hm : m ≤ 3) (ht : t ≤ 2) : (Tng.mk (zs.take m) ((zs.drop 3).take t)).Ok := by
  refine ⟨hn.sublist (List.take_sublist _ _), hn.sublist ((List.take_sublist _ _).trans (List.drop_sublist _ _)), ?_, ?_, fun z hz => hg z (List.mem_of_mem_take hz), fun z hz => ⟨(hg z (List.mem_of_mem_drop (List.mem_of_mem_take hz))).1, (hg z (List.mem_of_mem_drop (List.mem_of_mem_take hz))).2, fun hz2 => ?_⟩⟩
  · show (zs.take m).length ≤ 3
    rw [List.length_take]
    omega
  · show ((zs.drop 3).take t).length ≤ 2
    rw [List.length_take]
    omega
  · have h1 := List.mem_of_mem_take hz
    obtain ⟨i, hi⟩ := List.getElem?_of_mem hz2
    obtain ⟨j, hj⟩ := List.getElem?_of_mem h1
    have hi' : i < m ∧ zs[i]? = some z := by
      rw [List.getElem?_take] at hi
      split at hi
      · exact ⟨by assumption, hi⟩
      · cases hi
    rw [List.getElem?_drop] at hj
    have := nd_ix hn hi'.2 hj
    omega
section
variable {P : Program} {w : World} {K : PySem.W.Frag} {mg : Str → Option Value} {base : Heap} {cT cW : Addr}
def spShape : Sp := fun vs H Q _ => ∃ (G : Hp) (p c sl : Addr) (as : List Addr) (ks : List (Nat × Nat)), vs = [.ref p, .ref sl] ∧ Same G H ∧ G p = none ∧ G c = none ∧ PoolAt H p c ∧ G sl = some (.lst (as.map V.ref)) ∧ PairsAt G as ks ∧ (∀ k ∈ ks, k.1 ≤ 3 ∧ k.2 ≤ 2) ∧ 0 < as.length ∧ as.length < 900 ∧
  ∀ (r : Addr) (T : Tng) (H' : Hp), Same (noP p c H) H' → PoolAt H' p c → ShapeAt (noP p c H') r T → T.Ok → Q (.ref r) H'
theorem noP_get {p c b : Addr} {H : Hp} {u : HO} (h : H b = some u) (h1 : b ≠ p) (h2 : b ≠ c) : noP p c H b = some u := by rw [noP_ne h1 h2]; exact h
/-- the pool holds no tuple -/
theorem pool_tup {H : Hp} {p c b : Addr} {xs : List V} (h : PoolAt H p c) (hb : H b = some (.tup xs)) : b ≠ p ∧ b ≠ c := by
  obtain ⟨s, k, cells, h1, h2⟩ := h
  exact ⟨(fun z => by rw [z, h1] at hb; cases hb), (fun z => by rw [z, h2] at hb; cases hb)⟩
theorem noP_tup {H : Hp} {p c b : Addr} {xs : List V} (h : PoolAt H p c) (hb : H b = some (.tup xs)) : noP p c H b = some (.tup xs) := noP_get hb (pool_tup h hb).1 (pool_tup h hb).2
theorem ok_shape (B : Blt mg) (D : Def K mg "_law_shape" s_law_shape) (c_law_draw : CallOk P w K mg base 1 "_law_draw" P_law_draw spDraw) (c_law_names : CallOk P w K mg base 2 "_law_names" P_law_names spNames) : CallOk P w K mg base 3 "_law_shape" P_law_shape spShape := by
  refine callOk D sc_law_shape bd_law_shape (fun vs H Q E h => ?_) (fun f cdv A outer st H vs Q E hr h => ?_)
  · obtain ⟨G, p, c, sl, as, ks, rfl, _⟩ := h
    rfl
  obtain ⟨G, p, c, sl, as, ks, rfl, eG, hGp, hGc, hp, hsl, hpa, hks, hpos, hlen, q⟩ := h
  have hr1 : Room 1 _ := hr.mono (by decide)
  refine ⟨_, pss_cons (ps_set (i := 2) sc_law_shape.nd rfl (.inl rfl) (pe_ix ix_list (pv 1) (pe_cl c_law_draw hr1 (by rfl) (pa_cons (pv 0) (pa_cons (pe_callB call_len_seq (by rfl) B.len bo_len (pa_cons (pv 1) pa_nil)) pa_nil))) (fun _ _ => rfl))) (pss_cons (ps_set (i := 3) sc_law_shape.nd rfl (.inl rfl) (pe_cl c_law_names hr (by rfl) (pa_cons (pv 0) (pa_cons (pe_int) pa_nil)))) (pss_cons (ps_set (i := 4) sc_law_shape.nd rfl (.inl rfl) (pe_callTy call_tuple_of (by rfl) B.tuple bo_tuple (pa_cons (pe_slice sl_list (pv 3) (po_some (pe_int)) (po_some (pe_op op_add (pe_int) (pe_ix ix_tup (pv 2) (pe_int) (fun _ _ => rfl))))) pa_nil))) (pss_cons (ps_set (i := 5) sc_law_shape.nd rfl (.inl rfl) (pe_tup (pa_nil))) (pss_cons (ps_if (pt_cmpR op_gt (pe_callB call_len_seq (by rfl) B.len bo_len (pa_cons (pv 2) pa_nil)) (pe_int) (nomark _)) (pss_one (ps_set (i := 5) sc_law_shape.nd rfl (.inl rfl) (pe_slice sl_tup (pv 4) po_none (po_some (pe_ix ix_tup (pv 2) (pe_int) (fun _ _ => rfl)))))) (pss_nil)) (pss_one (ps_ret (pe_tup (pa_cons (pe_callTy call_tuple_of (by rfl) B.tuple bo_tuple (pa_cons (pe_slice sl_list (pv 3) po_none (po_some (pe_ix ix_tup (pv 2) (pe_int) (fun _ _ => rfl)))) pa_nil)) (pa_cons (pv 4) (pa_cons (pv 5) pa_nil)))))))))), ?_⟩
  walk_at "rd"
  refine ⟨_, _, rfl, .inl (SqL.of (eG _ _ hsl)), ?_⟩
  refine ⟨p, c, as.length, by rw [List.length_map]; rfl, hp, hpos, by omega, fun d H1 hd e1 hp1 => ?_⟩
  have eG1 : Same G H1 := fun b u h => e1 _ _ (noP_base eG hGp hGc _ _ h)
  obtain ⟨b, hb⟩ : ∃ b, as[d]? = some b := ⟨_, List.getElem?_eq_getElem hd⟩
  obtain ⟨k, hk⟩ : ∃ k, ks[d]? = some k := ⟨_, List.getElem?_eq_getElem (by have := Paired.length hpa; omega)⟩
  obtain ⟨b', hb', hbk⟩ := Paired.at hpa hk
  rw [hb] at hb'
  cases hb'
  obtain ⟨hk1, hk2⟩ := hks k (List.mem_of_getElem? hk)
  refine ⟨_, _, _, .ref b, rfl, rfl, SqL.of (eG1 _ _ hsl), atI_nat (j := d) (by rw [List.getElem?_map, hb]; rfl), ?_⟩
  walk_at "rd"
  refine ⟨p, c, rfl, hp1, fun nl zs H2 e2 hp2 hnl hzl hznd hzg => ?_⟩
  have eG2 : Same G H2 := fun b u h => e2 _ _ (noP_base eG1 hGp hGc _ _ h)
  obtain ⟨np, nc, hnl⟩ := noP_some hnl
  have e12 := noP_trans e1 e2
  walk_at "rd"
  refine ⟨_, _, _, _, rfl, rfl, SqT.of (eG2 _ _ hbk), atI_nat (j := 1) rfl, ?_⟩
  walk_at "rd"
  refine ⟨_, _, rfl, SqL.of hnl, fun p3 hp3 => ?_⟩
  rw [show (3 : Int) + ((k.2 : Nat) : Int) = ((3 : Nat) : Int) + ((k.2 : Nat) : Int) from rfl, show some (3 : Int) = some ((3 : Nat) : Int) from rfl, cut_mid _ 3 k.2 (by rw [List.length_map]; omega), ← List.map_drop, ← List.map_take]
  refine ⟨_, _, rfl, .inl ⟨SqL.of upd_same, fun p4 hp4 => ?_⟩⟩
  have e3 : Same H2 (upd (upd H2 p3 (.lst (((zs.drop 3).take k.2).map V.str))) p4 (.tup (((zs.drop 3).take k.2).map V.str))) := Same.new (Same.new (Same.refl _) hp3) hp4
  have h4 : (upd (upd H2 p3 (.lst (((zs.drop 3).take k.2).map V.str))) p4 (.tup (((zs.drop 3).take k.2).map V.str))) p4 = some (.tup (((zs.drop 3).take k.2).map V.str)) := upd_same
  revert e3 h4
  generalize (upd (upd H2 p3 (.lst (((zs.drop 3).take k.2).map V.str))) p4 (.tup (((zs.drop 3).take k.2).map V.str))) = H4
  intro e3 h4
  walk_at "rd"
  refine ⟨sz (by simp), fun p5 hp5 => ?_⟩
  have e5 : Same H4 (upd H4 p5 (.tup [])) := Same.new (Same.refl _) hp5
  have h5 : (upd H4 p5 (.tup [])) p5 = some (.tup []) := upd_same
  have h45 := e5 _ _ h4
  have e35 := e3.trans e5
  revert e5 h5 h45 e35
  generalize (upd H4 p5 (.tup [])) = H5
  intro e5 h5 h45 e35
  have hb5 := e35 _ _ (eG2 _ _ hbk)
  walk_at "rd"
  refine ⟨_, _, rfl, .inr (SqT.of hb5), ?_⟩
  walk_at "rd"
  refine ⟨_, _, _, _, rfl, rfl, SqT.of hb5, atI_nat (j := 0) rfl, ?_⟩
  walk_at "rd"
  refine ⟨_, _, rfl, SqL.of (e35 _ _ hnl), fun p6 hp6 => ?_⟩
  rw [cut_to, ← List.map_take]
  refine ⟨_, _, rfl, .inl ⟨SqL.of upd_same, fun p7 hp7 => ?_⟩⟩
  have e7 : Same H5 (upd (upd H5 p6 (.lst ((zs.take k.1).map V.str))) p7 (.tup ((zs.take k.1).map V.str))) := Same.new (Same.new (Same.refl _) hp6) hp7
  have h7 : (upd (upd H5 p6 (.lst ((zs.take k.1).map V.str))) p7 (.tup ((zs.take k.1).map V.str))) p7 = some (.tup ((zs.take k.1).map V.str)) := upd_same
  revert e7 h7
  generalize (upd (upd H5 p6 (.lst ((zs.take k.1).map V.str))) p7 (.tup ((zs.take k.1).map V.str))) = H7
  intro e7 h7
  walk_at "rd"
  refine ⟨sz (by simp), fun p8 hp8 => ?_⟩
  have e8 : Same H7 (upd H7 p8 (.tup [.ref p7, .ref p4, .ref p5])) := Same.new (Same.refl _) hp8
  have eall : Same H2 (upd H7 p8 (.tup [.ref p7, .ref p4, .ref p5])) := (e35.trans e7).trans e8
  have hpF := hp2.same eall
  exact q p8 ⟨zs.take k.1, (zs.drop 3).take k.2⟩ _ (noP_then e12 eall) hpF ⟨p7, p4, p5, noP_tup hpF upd_same, noP_tup hpF (e8 _ _ h7), noP_tup hpF (e8 _ _ (e7 _ _ h45)), noP_tup hpF (e8 _ _ (e7 _ _ h5))⟩ (tng_ok hzl hznd hzg hk1 hk2)
def spTongue (cT : Addr) : Sp := fun vs H Q _ => ∃ (r : Addr) (T : Tng), vs = [.ref r] ∧ ShapeAt H r T ∧ T.Ok ∧ ∀ p H', Same H H' → TongueAt cT H' p T → Q (.ref p) H'
theorem ok_tongue (D : Def K mg "_law_tongue" s_law_tongue) (c_Tongue : MakeOk P w K mg base cT 3 "Tongue" P_Tongue__init (spTInit cT)) : CallOk P w K mg base 5 "_law_tongue" P_law_tongue (spTongue cT) := by
  refine callOk D sc_law_tongue bd_law_tongue (fun vs H Q E h => ?_) (fun f cdv A outer st H vs Q E hr h => ?_)
  · obtain ⟨r, T, rfl, _⟩ := h
    rfl
  obtain ⟨r, T, rfl, ⟨am, at_, af, hS, hM, hTi, hF⟩, ok, q⟩ := h
  refine ⟨_, pss_one (ps_ret (pe_mk c_Tongue hr (by rfl) (pa_cons (pe_ix ix_tup (pv 0) (pe_int) (fun _ _ => rfl)) (pa_cons (pe_ix ix_tup (pv 0) (pe_int) (fun _ _ => rfl)) (pa_cons (pe_ix ix_tup (pv 0) (pe_int) (fun _ _ => rfl)) pa_nil))))), ?_⟩
  walk_at "rd"
  refine ⟨_, _, _, _, rfl, rfl, SqT.of hS, atI_nat (j := 0) rfl, ?_⟩
  walk_at "rd"
  refine ⟨_, _, _, _, rfl, rfl, SqT.of hS, atI_nat (j := 1) rfl, ?_⟩
  walk_at "rd"
  refine ⟨_, _, _, _, rfl, rfl, SqT.of hS, atI_nat (j := 2) rfl, ?_⟩
  refine fun x dx hx0 hdx0 hne => ?_
  have eM : Same H (upd (upd H dx (.own x)) x (.ins cT dx [])) := Same.new (Same.new (Same.refl _) hdx0) (by rw [upd_ne (Ne.symm hne)]; exact hx0)
  refine ⟨x, dx, am, at_, af, T, rfl, upd_same, eM _ _ hM, eM _ _ hTi, eM _ _ hF, ok, fun H1 e1 hT1 => ?_⟩
  exact ⟨rfl, q x H1 (fun c u h => e1 _ _ (by rw [hide_ne (ne_of_none h hx0)]; exact eM _ _ h)) hT1⟩
end
end K48
namespace K48
open PySem PySem.Spec PyProof.Rows L2
local macro_rules | `(tactic| walk_at "rd") => `(tactic| repeat (first | refine ⟨_, rfl, ?_⟩ | refine ⟨_, _, rfl, rfl, ?_⟩ | refine ⟨rfl, ?_⟩ | refine iteTk (by decide +kernel) ?_ | refine iteFk (by decide +kernel) ?_))
local macro_rules | `(tactic| walk_at "rdr") => `(tactic| repeat (first | refine ⟨_, rfl, ?_⟩ | refine ⟨_, _, rfl, rfl, ?_⟩ | refine ⟨rfl, ?_⟩ | refine iteTk (by first | decide +kernel | rfl) ?_ | refine iteFk (by first | decide +kernel | rfl) ?_))
local macro_rules | `(tactic| walk_at "tyn") => `(tactic| first | exact .int _ | exact .bl _ | exact .str _ | exact .tup (by assumption) | exact .lst (by assumption) | exact .dK (by assumption))
local macro_rules | `(tactic| walk_at "isT") => `(tactic| refine ⟨_, _, _, _, true, rfl, .ty _, TyN.x (by walk_at "tyn"), kit_ty (by decide +kernel), ?_⟩)
local macro_rules | `(tactic| walk_at "isF") => `(tactic| refine ⟨_, _, _, _, false, rfl, .ty _, TyN.x (by walk_at "tyn"), kit_ty (by decide +kernel), ?_⟩)
local macro_rules | `(tactic| walk_at "nz") => `(tactic| first | refine nzG (by simp only [List.set_cons_succ, List.set_cons_zero]; rfl) ?_ | refine reS (by simp only [List.set_cons_succ, List.set_cons_zero]; rfl) ?_)
section
variable {P : Program} {w : World} {K : PySem.W.Frag} {mg : Str → Option Value} {base : Heap} {cT cW : Addr}
abbrev nmV' (v : Nm) : V := .str v.s
def spLTest : Sp := fun vs H Q _ => ∃ (G : Hp) (p c sh nl : Addr) (T : Tng) (ns : List Nm), vs = [.ref p, .ref sh, .ref nl] ∧ Same G H ∧ G p = none ∧ G c = none ∧ PoolAt H p c ∧ ShapeAt G sh T ∧ T.Ok ∧ G nl = some (.lst (ns.map nmV')) ∧ 0 < ns.length ∧ ns.length ≤ 2 ∧
  ∀ (a : Addr) (s : Say) (H' : Hp), Same (noP p c H) H' → PoolAt H' p c → SayAt (noP p c H') s a → s.okT T.marks T.ties → s.kids = [] → (∀ v, s.fr v = true → v ∈ ns) → Q (.ref a) H'
theorem ok_ltest (B : Blt mg) (D : Def K mg "_law_test" s_law_test) (c_law_draw : CallOk P w K mg base 1 "_law_draw" P_law_draw spDraw) : CallOk P w K mg base 2 "_law_test" P_law_test spLTest := by
  refine callOk D sc_law_test bd_law_test (fun vs H Q E h => ?_) (fun f cdv A outer st H vs Q E hr h => ?_)
  · obtain ⟨G, p, c, sh, nl, T, ns, rfl, _⟩ := h
    rfl
  obtain ⟨G, p, c, sh, nl, T, ns, rfl, eG, hGp, hGc, hp, ⟨am, at_, af, hS, hM, hTi, hF⟩, okT, hnl, hn1, hn2, q⟩ := h
  refine ⟨_, pss_cons (ps_asg (pv 1) (pg_tup rfl (pgs_cons (pg_name (i := 3) sc_law_test.nd rfl (.inl rfl)) (pgs_cons (pg_name (i := 4) sc_law_test.nd rfl (.inl rfl)) (pgs_cons (pg_name (i := 5) sc_law_test.nd rfl (.inl rfl)) pgs_nil))))) (pss_cons (ps_set (i := 6) sc_law_test.nd rfl (.inl rfl) (pe_ix ix_list (pv 2) (pe_cl c_law_draw hr (by rfl) (pa_cons (pv 0) (pa_cons (pe_callB call_len_seq (by rfl) B.len bo_len (pa_cons (pv 2) pa_nil)) pa_nil))) (fun _ _ => rfl))) (pss_cons (ps_set (i := 7) sc_law_test.nd rfl (.inl rfl) (pe_ix ix_list (pv 2) (pe_cl c_law_draw hr (by rfl) (pa_cons (pv 0) (pa_cons (pe_callB call_len_seq (by rfl) B.len bo_len (pa_cons (pv 2) pa_nil)) pa_nil))) (fun _ _ => rfl))) (pss_cons (ps_set (i := 8) sc_law_test.nd rfl (.inl rfl) (pe_cl c_law_draw hr (by rfl) (pa_cons (pv 0) (pa_cons (pe_int) pa_nil)))) (pss_cons (ps_if (PW.pt (pw_and (pt_cmpR op_lt (pv 8) (pe_int) (nomark _)) (pw_and1 (pt_cmpR op_gt (pe_callB call_len_seq (by rfl) B.len bo_len (pa_cons (pv 3) pa_nil)) (pe_int) (nomark _))))) (pss_one (ps_ret (pe_tup (pa_cons (pe_str) (pa_cons (pe_ix ix_tup (pv 3) (pe_cl c_law_draw hr (by rfl) (pa_cons (pv 0) (pa_cons (pe_callB call_len_seq (by rfl) B.len bo_len (pa_cons (pv 3) pa_nil)) pa_nil))) (fun _ _ => rfl)) (pa_cons (pv 6) pa_nil)))))) (pss_nil)) (pss_cons (ps_if (PW.pt (pw_and (pt_cmpR op_lt (pv 8) (pe_int) (nomark _)) (pw_and1 (pt_cmpR op_gt (pe_callB call_len_seq (by rfl) B.len bo_len (pa_cons (pv 4) pa_nil)) (pe_int) (nomark _))))) (pss_one (ps_ret (pe_tup (pa_cons (pe_str) (pa_cons (pe_ix ix_tup (pv 4) (pe_cl c_law_draw hr (by rfl) (pa_cons (pv 0) (pa_cons (pe_callB call_len_seq (by rfl) B.len bo_len (pa_cons (pv 4) pa_nil)) pa_nil))) (fun _ _ => rfl)) (pa_cons (pv 6) (pa_cons (pv 7) pa_nil))))))) (pss_nil)) (pss_cons (ps_if (PW.pt (pw_and (pt_cmpR op_eq (pv 8) (pe_int) (nomark _)) (pw_and1 (pt_cmpR op_gt (pe_callB call_len_seq (by rfl) B.len bo_len (pa_cons (pv 2) pa_nil)) (pe_int) (nomark _))))) (pss_one (ps_ret (pe_tup (pa_cons (pe_str) (pa_cons (pv 6) (pa_cons (pv 7) pa_nil)))))) (pss_nil)) (pss_cons (ps_if (pt_cmpR op_eq (pv 8) (pe_int) (nomark _)) (pss_one (ps_ret (pe_tup (pa_cons (pe_str) pa_nil)))) (pss_nil)) (pss_cons (ps_if (pt_cmpR op_gt (pe_callB call_len_seq (by rfl) B.len bo_len (pa_cons (pv 3) pa_nil)) (pe_int) (nomark _)) (pss_one (ps_ret (pe_tup (pa_cons (pe_str) (pa_cons (pe_ix ix_tup (pv 3) (pe_int) (fun _ _ => rfl)) (pa_cons (pv 6) pa_nil)))))) (pss_nil)) (pss_cons (ps_if (pt_cmpR op_gt (pe_callB call_len_seq (by rfl) B.len bo_len (pa_cons (pv 4) pa_nil)) (pe_int) (nomark _)) (pss_one (ps_ret (pe_tup (pa_cons (pe_str) (pa_cons (pe_ix ix_tup (pv 4) (pe_int) (fun _ _ => rfl)) (pa_cons (pv 6) (pa_cons (pv 7) pa_nil))))))) (pss_nil)) (pss_one (ps_ret (pe_tup (pa_cons (pe_str) (pa_cons (pv 6) (pa_cons (pv 7) pa_nil))))))))))))))), ?_⟩
  refine reS (σ' := [some (.ref p), some (.ref sh), some (.ref nl), none, none, none, none, none, none]) rfl ?_
  walk_at "rd"
  refine ⟨sh, _, rfl, SqT.of (eG _ _ hS), rfl, _, _, rfl, _, _, rfl, _, _, rfl, rfl, ?_⟩
  walk_at "nz"
  walk_at "rd"
  refine ⟨_, _, rfl, .inl (SqL.of (eG _ _ hnl)), ?_⟩
  refine ⟨p, c, ns.length, by rw [List.length_map]; rfl, hp, hn1, by omega, fun d1 H1 hd1 e1 hp1 => ?_⟩
  have eG1 : Same G H1 := fun b u h => e1 _ _ (noP_base eG hGp hGc _ _ h)
  obtain ⟨u, hu⟩ : ∃ u, ns[d1]? = some u := ⟨_, List.getElem?_eq_getElem hd1⟩
  have hum := List.mem_of_getElem? hu
  refine ⟨_, _, _, nmV' u, rfl, rfl, SqL.of (eG1 _ _ hnl), atI_nat (j := d1) (by rw [List.getElem?_map, hu]; rfl), ?_⟩
  walk_at "nz"
  walk_at "rd"
  refine ⟨_, _, rfl, .inl (SqL.of (eG1 _ _ hnl)), ?_⟩
  refine ⟨p, c, ns.length, by rw [List.length_map]; rfl, hp1, hn1, by omega, fun d2 H2 hd2 e2 hp2 => ?_⟩
  have eG2 : Same G H2 := fun b u h => e2 _ _ (noP_base eG1 hGp hGc _ _ h)
  obtain ⟨v, hv⟩ : ∃ u, ns[d2]? = some u := ⟨_, List.getElem?_eq_getElem hd2⟩
  have hvm := List.mem_of_getElem? hv
  refine ⟨_, _, _, nmV' v, rfl, rfl, SqL.of (eG2 _ _ hnl), atI_nat (j := d2) (by rw [List.getElem?_map, hv]; rfl), ?_⟩
  walk_at "nz"
  walk_at "rd"
  refine ⟨p, c, 8, rfl, hp2, by decide, by decide, fun kd H3 hkd e3 hp3 => ?_⟩
  have eG3 : Same G H3 := fun b u h => e3 _ _ (noP_base eG2 hGp hGc _ _ h)
  have e03 := noP_trans (noP_trans e1 e2) e3
  have atom : ∀ (s : Say) (H4 : Hp) (xs : List V), Same (noP p c H3) H4 → PoolAt H4 p c → (∀ (H : Hp) (a : Addr), H a = some (.tup xs) → SayAt H s a) → s.okT T.marks T.ties → s.kids = [] → (∀ v, s.fr v = true → v ∈ ns) → ∀ a, H4 a = none → Q (.ref a) (upd H4 a (.tup xs)) :=
    fun s H4 xs e4 hp4 hs h1 h2 h3 a ha => q a s _ (noP_then (noP_trans e03 e4) (Same.new (Same.refl _) ha)) (hp4.new ha) (hs _ _ (noP_tup (hp4.new ha) upd_same)) h1 h2 h3
  have atom0 : ∀ (s : Say) (xs : List V), (∀ (H : Hp) (a : Addr), H a = some (.tup xs) → SayAt H s a) → s.okT T.marks T.ties → s.kids = [] → (∀ v, s.fr v = true → v ∈ ns) → ∀ a, H3 a = none → Q (.ref a) (upd H3 a (.tup xs)) := fun s xs => atom s H3 xs hidL_same hp3
  have hsM : SqT K H3 am (T.marks.map V.str) := SqT.of (eG3 _ _ hM)
  have hsT : SqT K H3 at_ (T.ties.map V.str) := SqT.of (eG3 _ _ hTi)
  have fr1 : ∀ (m : Str) (z : Nm), (Say.mark m u).fr z = true → z ∈ ns := fun m z hz => by
    have e : z = u := of_decide_eq_true hz
    rw [e]; exact hum
  have fr2s : ∀ (z : Nm), (Say.same u v).fr z = true → z ∈ ns := fun z hz => by
    rcases Bool.or_eq_true_iff.mp hz with e | e
    · rw [of_decide_eq_true e]; exact hum
    · rw [of_decide_eq_true e]; exact hvm
  have fr2t : ∀ (t : Str) (z : Nm), (Say.tie t u v).fr z = true → z ∈ ns := fun t z hz => fr2s z hz
  walk_at "nz"
  walk_at "rd"
  refine iteS (fun hk3 => ?_) (fun hk3 => ?_)
  · walk_at "rd"
    refine ⟨_, _, rfl, .inr hsM, ?_⟩
    walk_at "rd"
    refine iteS (fun hlm => ?_) (fun hlm => ?_)
    · have hpos : 0 < T.marks.length := by have := of_decide_eq_true hlm; rw [List.length_map] at this; omega
      walk_at "rd"
      refine ⟨_, _, rfl, .inr hsM, ?_⟩
      refine ⟨p, c, T.marks.length, by rw [List.length_map]; rfl, hp3, hpos, by have := okT.lm; omega, fun d4 H4 hd4 e4 hp4 => ?_⟩
      have eG4 : Same G H4 := fun b u h => e4 _ _ (noP_base eG3 hGp hGc _ _ h)
      obtain ⟨m, hm⟩ : ∃ m, T.marks[d4]? = some m := ⟨_, List.getElem?_eq_getElem hd4⟩
      refine ⟨_, _, _, .str m, rfl, rfl, SqT.of (eG4 _ _ hM), atI_nat (j := d4) (by rw [List.getElem?_map, hm]; rfl), ?_⟩
      walk_at "rd"
      refine ⟨sz (by simp), fun a ha => ?_⟩
      exact atom (.mark m u) H4 _ e4 hp4 (fun H a h => h) (List.mem_of_getElem? hm) rfl (fr1 m) a ha
    · walk_at "rd"
      refine iteS (fun hk6 => ?_) (fun hk6 => ?_)
      · walk_at "rd"
        refine ⟨_, _, rfl, .inr hsT, ?_⟩
        walk_at "rd"
        refine iteS (fun hlt => ?_) (fun hlt => ?_)
        · have hpos : 0 < T.ties.length := by have := of_decide_eq_true hlt; rw [List.length_map] at this; omega
          walk_at "rd"
          refine ⟨_, _, rfl, .inr hsT, ?_⟩
          refine ⟨p, c, T.ties.length, by rw [List.length_map]; rfl, hp3, hpos, by have := okT.lt; omega, fun d4 H4 hd4 e4 hp4 => ?_⟩
          have eG4 : Same G H4 := fun b u h => e4 _ _ (noP_base eG3 hGp hGc _ _ h)
          obtain ⟨t, ht⟩ : ∃ t, T.ties[d4]? = some t := ⟨_, List.getElem?_eq_getElem hd4⟩
          refine ⟨_, _, _, .str t, rfl, rfl, SqT.of (eG4 _ _ hTi), atI_nat (j := d4) (by rw [List.getElem?_map, ht]; rfl), ?_⟩
          walk_at "rd"
          refine ⟨sz (by simp), fun a ha => ?_⟩
          exact atom (.tie t u v) H4 _ e4 hp4 (fun H a h => h) (List.mem_of_getElem? ht) rfl (fr2t t) a ha
        · walk_at "rd"
          refine iteS (fun h6 => ?_) (fun h6 => ?_)
          · walk_at "rd"
            refine ⟨_, _, rfl, .inl (SqL.of (eG3 _ _ hnl)), ?_⟩
            walk_at "rd"
            refine iteS (fun hln => ?_) (fun hln => ?_)
            · walk_at "rd"
              refine ⟨sz (by simp), fun a ha => ?_⟩
              exact atom0 (.same u v) _ (fun H a h => h) True.intro rfl fr2s a ha
            · walk_at "rd"
              refine iteS (fun h7 => ?_) (fun h7 => ?_)
              · walk_at "rd"
                refine ⟨sz (by simp), fun a ha => ?_⟩
                exact atom0 .tru _ (fun H a h => h) True.intro rfl (fun z hz => by cases hz) a ha
              · walk_at "rd"
                refine ⟨_, _, rfl, .inr hsM, ?_⟩
                walk_at "rd"
                refine iteS (fun hlm => ?_) (fun hlm => ?_)
                · obtain ⟨m, hm⟩ : ∃ m, T.marks[0]? = some m := ⟨_, List.getElem?_eq_getElem (by have := of_decide_eq_true hlm; rw [List.length_map] at this; omega)⟩
                  walk_at "rd"
                  refine ⟨_, _, _, .str m, rfl, rfl, hsM, atI_nat (j := 0) (by rw [List.getElem?_map, hm]; rfl), ?_⟩
                  walk_at "rd"
                  refine ⟨sz (by simp), fun a ha => ?_⟩
                  exact atom0 (.mark m u) _ (fun H a h => h) (List.mem_of_getElem? hm) rfl (fr1 m) a ha
                · walk_at "rd"
                  refine ⟨_, _, rfl, .inr hsT, ?_⟩
                  walk_at "rd"
                  refine iteS (fun hlt => ?_) (fun hlt => ?_)
                  · obtain ⟨t, ht⟩ : ∃ t, T.ties[0]? = some t := ⟨_, List.getElem?_eq_getElem (by have := of_decide_eq_true hlt; rw [List.length_map] at this; omega)⟩
                    walk_at "rd"
                    refine ⟨_, _, _, .str t, rfl, rfl, hsT, atI_nat (j := 0) (by rw [List.getElem?_map, ht]; rfl), ?_⟩
                    walk_at "rd"
                    refine ⟨sz (by simp), fun a ha => ?_⟩
                    exact atom0 (.tie t u v) _ (fun H a h => h) (List.mem_of_getElem? ht) rfl (fr2t t) a ha
                  · walk_at "rd"
                    refine ⟨sz (by simp), fun a ha => ?_⟩
                    exact atom0 (.same u v) _ (fun H a h => h) True.intro rfl fr2s a ha
          · walk_at "rd"
            refine iteS (fun h7 => ?_) (fun h7 => ?_)
            · walk_at "rd"
              refine ⟨sz (by simp), fun a ha => ?_⟩
              exact atom0 .tru _ (fun H a h => h) True.intro rfl (fun z hz => by cases hz) a ha
            · walk_at "rd"
              refine ⟨_, _, rfl, .inr hsM, ?_⟩
              walk_at "rd"
              refine iteS (fun hlm => ?_) (fun hlm => ?_)
              · obtain ⟨m, hm⟩ : ∃ m, T.marks[0]? = some m := ⟨_, List.getElem?_eq_getElem (by have := of_decide_eq_true hlm; rw [List.length_map] at this; omega)⟩
                walk_at "rd"
                refine ⟨_, _, _, .str m, rfl, rfl, hsM, atI_nat (j := 0) (by rw [List.getElem?_map, hm]; rfl), ?_⟩
                walk_at "rd"
                refine ⟨sz (by simp), fun a ha => ?_⟩
                exact atom0 (.mark m u) _ (fun H a h => h) (List.mem_of_getElem? hm) rfl (fr1 m) a ha
              · walk_at "rd"
                refine ⟨_, _, rfl, .inr hsT, ?_⟩
                walk_at "rd"
                refine iteS (fun hlt => ?_) (fun hlt => ?_)
                · obtain ⟨t, ht⟩ : ∃ t, T.ties[0]? = some t := ⟨_, List.getElem?_eq_getElem (by have := of_decide_eq_true hlt; rw [List.length_map] at this; omega)⟩
                  walk_at "rd"
                  refine ⟨_, _, _, .str t, rfl, rfl, hsT, atI_nat (j := 0) (by rw [List.getElem?_map, ht]; rfl), ?_⟩
                  walk_at "rd"
                  refine ⟨sz (by simp), fun a ha => ?_⟩
                  exact atom0 (.tie t u v) _ (fun H a h => h) (List.mem_of_getElem? ht) rfl (fr2t t) a ha
                · walk_at "rd"
                  refine ⟨sz (by simp), fun a ha => ?_⟩
                  exact atom0 (.same u v) _ (fun H a h => h) True.intro rfl fr2s a ha
      · walk_at "rd"
        refine iteS (fun h6 => ?_) (fun h6 => ?_)
        · walk_at "rd"
          refine ⟨_, _, rfl, .inl (SqL.of (eG3 _ _ hnl)), ?_⟩
          walk_at "rd"
          refine iteS (fun hln => ?_) (fun hln => ?_)
          · walk_at "rd"
            refine ⟨sz (by simp), fun a ha => ?_⟩
            exact atom0 (.same u v) _ (fun H a h => h) True.intro rfl fr2s a ha
          · walk_at "rd"
            refine iteS (fun h7 => ?_) (fun h7 => ?_)
            · walk_at "rd"
              refine ⟨sz (by simp), fun a ha => ?_⟩
              exact atom0 .tru _ (fun H a h => h) True.intro rfl (fun z hz => by cases hz) a ha
            · walk_at "rd"
              refine ⟨_, _, rfl, .inr hsM, ?_⟩
              walk_at "rd"
              refine iteS (fun hlm => ?_) (fun hlm => ?_)
              · obtain ⟨m, hm⟩ : ∃ m, T.marks[0]? = some m := ⟨_, List.getElem?_eq_getElem (by have := of_decide_eq_true hlm; rw [List.length_map] at this; omega)⟩
                walk_at "rd"
                refine ⟨_, _, _, .str m, rfl, rfl, hsM, atI_nat (j := 0) (by rw [List.getElem?_map, hm]; rfl), ?_⟩
                walk_at "rd"
                refine ⟨sz (by simp), fun a ha => ?_⟩
                exact atom0 (.mark m u) _ (fun H a h => h) (List.mem_of_getElem? hm) rfl (fr1 m) a ha
              · walk_at "rd"
                refine ⟨_, _, rfl, .inr hsT, ?_⟩
                walk_at "rd"
                refine iteS (fun hlt => ?_) (fun hlt => ?_)
                · obtain ⟨t, ht⟩ : ∃ t, T.ties[0]? = some t := ⟨_, List.getElem?_eq_getElem (by have := of_decide_eq_true hlt; rw [List.length_map] at this; omega)⟩
                  walk_at "rd"
                  refine ⟨_, _, _, .str t, rfl, rfl, hsT, atI_nat (j := 0) (by rw [List.getElem?_map, ht]; rfl), ?_⟩
                  walk_at "rd"
                  refine ⟨sz (by simp), fun a ha => ?_⟩
                  exact atom0 (.tie t u v) _ (fun H a h => h) (List.mem_of_getElem? ht) rfl (fr2t t) a ha
                · walk_at "rd"
                  refine ⟨sz (by simp), fun a ha => ?_⟩
                  exact atom0 (.same u v) _ (fun H a h => h) True.intro rfl fr2s a ha
        · walk_at "rd"
          refine iteS (fun h7 => ?_) (fun h7 => ?_)
          · walk_at "rd"
            refine ⟨sz (by simp), fun a ha => ?_⟩
            exact atom0 .tru _ (fun H a h => h) True.intro rfl (fun z hz => by cases hz) a ha
          · walk_at "rd"
            refine ⟨_, _, rfl, .inr hsM, ?_⟩
            walk_at "rd"
            refine iteS (fun hlm => ?_) (fun hlm => ?_)
            · obtain ⟨m, hm⟩ : ∃ m, T.marks[0]? = some m := ⟨_, List.getElem?_eq_getElem (by have := of_decide_eq_true hlm; rw [List.length_map] at this; omega)⟩
              walk_at "rd"
              refine ⟨_, _, _, .str m, rfl, rfl, hsM, atI_nat (j := 0) (by rw [List.getElem?_map, hm]; rfl), ?_⟩
              walk_at "rd"
              refine ⟨sz (by simp), fun a ha => ?_⟩
              exact atom0 (.mark m u) _ (fun H a h => h) (List.mem_of_getElem? hm) rfl (fr1 m) a ha
            · walk_at "rd"
              refine ⟨_, _, rfl, .inr hsT, ?_⟩
              walk_at "rd"
              refine iteS (fun hlt => ?_) (fun hlt => ?_)
              · obtain ⟨t, ht⟩ : ∃ t, T.ties[0]? = some t := ⟨_, List.getElem?_eq_getElem (by have := of_decide_eq_true hlt; rw [List.length_map] at this; omega)⟩
                walk_at "rd"
                refine ⟨_, _, _, .str t, rfl, rfl, hsT, atI_nat (j := 0) (by rw [List.getElem?_map, ht]; rfl), ?_⟩
                walk_at "rd"
                refine ⟨sz (by simp), fun a ha => ?_⟩
                exact atom0 (.tie t u v) _ (fun H a h => h) (List.mem_of_getElem? ht) rfl (fr2t t) a ha
              · walk_at "rd"
                refine ⟨sz (by simp), fun a ha => ?_⟩
                exact atom0 (.same u v) _ (fun H a h => h) True.intro rfl fr2s a ha
  · walk_at "rd"
    refine iteS (fun hk6 => ?_) (fun hk6 => ?_)
    · walk_at "rd"
      refine ⟨_, _, rfl, .inr hsT, ?_⟩
      walk_at "rd"
      refine iteS (fun hlt => ?_) (fun hlt => ?_)
      · have hpos : 0 < T.ties.length := by have := of_decide_eq_true hlt; rw [List.length_map] at this; omega
        walk_at "rd"
        refine ⟨_, _, rfl, .inr hsT, ?_⟩
        refine ⟨p, c, T.ties.length, by rw [List.length_map]; rfl, hp3, hpos, by have := okT.lt; omega, fun d4 H4 hd4 e4 hp4 => ?_⟩
        have eG4 : Same G H4 := fun b u h => e4 _ _ (noP_base eG3 hGp hGc _ _ h)
        obtain ⟨t, ht⟩ : ∃ t, T.ties[d4]? = some t := ⟨_, List.getElem?_eq_getElem hd4⟩
        refine ⟨_, _, _, .str t, rfl, rfl, SqT.of (eG4 _ _ hTi), atI_nat (j := d4) (by rw [List.getElem?_map, ht]; rfl), ?_⟩
        walk_at "rd"
        refine ⟨sz (by simp), fun a ha => ?_⟩
        exact atom (.tie t u v) H4 _ e4 hp4 (fun H a h => h) (List.mem_of_getElem? ht) rfl (fr2t t) a ha
      · walk_at "rd"
        refine iteS (fun h6 => ?_) (fun h6 => ?_)
        · walk_at "rd"
          refine ⟨_, _, rfl, .inl (SqL.of (eG3 _ _ hnl)), ?_⟩
          walk_at "rd"
          refine iteS (fun hln => ?_) (fun hln => ?_)
          · walk_at "rd"
            refine ⟨sz (by simp), fun a ha => ?_⟩
            exact atom0 (.same u v) _ (fun H a h => h) True.intro rfl fr2s a ha
          · walk_at "rd"
            refine iteS (fun h7 => ?_) (fun h7 => ?_)
            · walk_at "rd"
              refine ⟨sz (by simp), fun a ha => ?_⟩
              exact atom0 .tru _ (fun H a h => h) True.intro rfl (fun z hz => by cases hz) a ha
            · walk_at "rd"
              refine ⟨_, _, rfl, .inr hsM, ?_⟩
              walk_at "rd"
              refine iteS (fun hlm => ?_) (fun hlm => ?_)
              · obtain ⟨m, hm⟩ : ∃ m, T.marks[0]? = some m := ⟨_, List.getElem?_eq_getElem (by have := of_decide_eq_true hlm; rw [List.length_map] at this; omega)⟩
                walk_at "rd"
                refine ⟨_, _, _, .str m, rfl, rfl, hsM, atI_nat (j := 0) (by rw [List.getElem?_map, hm]; rfl), ?_⟩
                walk_at "rd"
                refine ⟨sz (by simp), fun a ha => ?_⟩
                exact atom0 (.mark m u) _ (fun H a h => h) (List.mem_of_getElem? hm) rfl (fr1 m) a ha
              · walk_at "rd"
                refine ⟨_, _, rfl, .inr hsT, ?_⟩
                walk_at "rd"
                refine iteS (fun hlt => ?_) (fun hlt => ?_)
                · obtain ⟨t, ht⟩ : ∃ t, T.ties[0]? = some t := ⟨_, List.getElem?_eq_getElem (by have := of_decide_eq_true hlt; rw [List.length_map] at this; omega)⟩
                  walk_at "rd"
                  refine ⟨_, _, _, .str t, rfl, rfl, hsT, atI_nat (j := 0) (by rw [List.getElem?_map, ht]; rfl), ?_⟩
                  walk_at "rd"
                  refine ⟨sz (by simp), fun a ha => ?_⟩
                  exact atom0 (.tie t u v) _ (fun H a h => h) (List.mem_of_getElem? ht) rfl (fr2t t) a ha
                · walk_at "rd"
                  refine ⟨sz (by simp), fun a ha => ?_⟩
                  exact atom0 (.same u v) _ (fun H a h => h) True.intro rfl fr2s a ha
        · walk_at "rd"
          refine iteS (fun h7 => ?_) (fun h7 => ?_)
          · walk_at "rd"
            refine ⟨sz (by simp), fun a ha => ?_⟩
            exact atom0 .tru _ (fun H a h => h) True.intro rfl (fun z hz => by cases hz) a ha
          · walk_at "rd"
            refine ⟨_, _, rfl, .inr hsM, ?_⟩
            walk_at "rd"
            refine iteS (fun hlm => ?_) (fun hlm => ?_)
            · obtain ⟨m, hm⟩ : ∃ m, T.marks[0]? = some m := ⟨_, List.getElem?_eq_getElem (by have := of_decide_eq_true hlm; rw [List.length_map] at this; omega)⟩
              walk_at "rd"
              refine ⟨_, _, _, .str m, rfl, rfl, hsM, atI_nat (j := 0) (by rw [List.getElem?_map, hm]; rfl), ?_⟩
              walk_at "rd"
              refine ⟨sz (by simp), fun a ha => ?_⟩
              exact atom0 (.mark m u) _ (fun H a h => h) (List.mem_of_getElem? hm) rfl (fr1 m) a ha
            · walk_at "rd"
              refine ⟨_, _, rfl, .inr hsT, ?_⟩
              walk_at "rd"
              refine iteS (fun hlt => ?_) (fun hlt => ?_)
              · obtain ⟨t, ht⟩ : ∃ t, T.ties[0]? = some t := ⟨_, List.getElem?_eq_getElem (by have := of_decide_eq_true hlt; rw [List.length_map] at this; omega)⟩
                walk_at "rd"
                refine ⟨_, _, _, .str t, rfl, rfl, hsT, atI_nat (j := 0) (by rw [List.getElem?_map, ht]; rfl), ?_⟩
                walk_at "rd"
                refine ⟨sz (by simp), fun a ha => ?_⟩
                exact atom0 (.tie t u v) _ (fun H a h => h) (List.mem_of_getElem? ht) rfl (fr2t t) a ha
              · walk_at "rd"
                refine ⟨sz (by simp), fun a ha => ?_⟩
                exact atom0 (.same u v) _ (fun H a h => h) True.intro rfl fr2s a ha
    · walk_at "rd"
      refine iteS (fun h6 => ?_) (fun h6 => ?_)
      · walk_at "rd"
        refine ⟨_, _, rfl, .inl (SqL.of (eG3 _ _ hnl)), ?_⟩
        walk_at "rd"
        refine iteS (fun hln => ?_) (fun hln => ?_)
        · walk_at "rd"
          refine ⟨sz (by simp), fun a ha => ?_⟩
          exact atom0 (.same u v) _ (fun H a h => h) True.intro rfl fr2s a ha
        · walk_at "rd"
          refine iteS (fun h7 => ?_) (fun h7 => ?_)
          · walk_at "rd"
            refine ⟨sz (by simp), fun a ha => ?_⟩
            exact atom0 .tru _ (fun H a h => h) True.intro rfl (fun z hz => by cases hz) a ha
          · walk_at "rd"
            refine ⟨_, _, rfl, .inr hsM, ?_⟩
            walk_at "rd"
            refine iteS (fun hlm => ?_) (fun hlm => ?_)
            · obtain ⟨m, hm⟩ : ∃ m, T.marks[0]? = some m := ⟨_, List.getElem?_eq_getElem (by have := of_decide_eq_true hlm; rw [List.length_map] at this; omega)⟩
              walk_at "rd"
              refine ⟨_, _, _, .str m, rfl, rfl, hsM, atI_nat (j := 0) (by rw [List.getElem?_map, hm]; rfl), ?_⟩
              walk_at "rd"
              refine ⟨sz (by simp), fun a ha => ?_⟩
              exact atom0 (.mark m u) _ (fun H a h => h) (List.mem_of_getElem? hm) rfl (fr1 m) a ha
            · walk_at "rd"
              refine ⟨_, _, rfl, .inr hsT, ?_⟩
              walk_at "rd"
              refine iteS (fun hlt => ?_) (fun hlt => ?_)
              · obtain ⟨t, ht⟩ : ∃ t, T.ties[0]? = some t := ⟨_, List.getElem?_eq_getElem (by have := of_decide_eq_true hlt; rw [List.length_map] at this; omega)⟩
                walk_at "rd"
                refine ⟨_, _, _, .str t, rfl, rfl, hsT, atI_nat (j := 0) (by rw [List.getElem?_map, ht]; rfl), ?_⟩
                walk_at "rd"
                refine ⟨sz (by simp), fun a ha => ?_⟩
                exact atom0 (.tie t u v) _ (fun H a h => h) (List.mem_of_getElem? ht) rfl (fr2t t) a ha
              · walk_at "rd"
                refine ⟨sz (by simp), fun a ha => ?_⟩
                exact atom0 (.same u v) _ (fun H a h => h) True.intro rfl fr2s a ha
      · walk_at "rd"
        refine iteS (fun h7 => ?_) (fun h7 => ?_)
        · walk_at "rd"
          refine ⟨sz (by simp), fun a ha => ?_⟩
          exact atom0 .tru _ (fun H a h => h) True.intro rfl (fun z hz => by cases hz) a ha
        · walk_at "rd"
          refine ⟨_, _, rfl, .inr hsM, ?_⟩
          walk_at "rd"
          refine iteS (fun hlm => ?_) (fun hlm => ?_)
          · obtain ⟨m, hm⟩ : ∃ m, T.marks[0]? = some m := ⟨_, List.getElem?_eq_getElem (by have := of_decide_eq_true hlm; rw [List.length_map] at this; omega)⟩
            walk_at "rd"
            refine ⟨_, _, _, .str m, rfl, rfl, hsM, atI_nat (j := 0) (by rw [List.getElem?_map, hm]; rfl), ?_⟩
            walk_at "rd"
            refine ⟨sz (by simp), fun a ha => ?_⟩
            exact atom0 (.mark m u) _ (fun H a h => h) (List.mem_of_getElem? hm) rfl (fr1 m) a ha
          · walk_at "rd"
            refine ⟨_, _, rfl, .inr hsT, ?_⟩
            walk_at "rd"
            refine iteS (fun hlt => ?_) (fun hlt => ?_)
            · obtain ⟨t, ht⟩ : ∃ t, T.ties[0]? = some t := ⟨_, List.getElem?_eq_getElem (by have := of_decide_eq_true hlt; rw [List.length_map] at this; omega)⟩
              walk_at "rd"
              refine ⟨_, _, _, .str t, rfl, rfl, hsT, atI_nat (j := 0) (by rw [List.getElem?_map, ht]; rfl), ?_⟩
              walk_at "rd"
              refine ⟨sz (by simp), fun a ha => ?_⟩
              exact atom0 (.tie t u v) _ (fun H a h => h) (List.mem_of_getElem? ht) rfl (fr2t t) a ha
            · walk_at "rd"
              refine ⟨sz (by simp), fun a ha => ?_⟩
              exact atom0 (.same u v) _ (fun H a h => h) True.intro rfl fr2s a ha
end
end K48
namespace K48
open PySem PySem.Spec PyProof.Rows L2
local macro_rules | `(tactic| walk_at "rd") => `(tactic| repeat (first | refine ⟨_, rfl, ?_⟩ | refine ⟨_, _, rfl, rfl, ?_⟩ | refine ⟨rfl, ?_⟩ | refine iteTk (by decide +kernel) ?_ | refine iteFk (by decide +kernel) ?_))
local macro_rules | `(tactic| walk_at "rdr") => `(tactic| repeat (first | refine ⟨_, rfl, ?_⟩ | refine ⟨_, _, rfl, rfl, ?_⟩ | refine ⟨rfl, ?_⟩ | refine iteTk (by first | decide +kernel | rfl) ?_ | refine iteFk (by first | decide +kernel | rfl) ?_))
local macro_rules | `(tactic| walk_at "tyn") => `(tactic| first | exact .int _ | exact .bl _ | exact .str _ | exact .tup (by assumption) | exact .lst (by assumption) | exact .dK (by assumption))
local macro_rules | `(tactic| walk_at "isT") => `(tactic| refine ⟨_, _, _, _, true, rfl, .ty _, TyN.x (by walk_at "tyn"), kit_ty (by decide +kernel), ?_⟩)
local macro_rules | `(tactic| walk_at "isF") => `(tactic| refine ⟨_, _, _, _, false, rfl, .ty _, TyN.x (by walk_at "tyn"), kit_ty (by decide +kernel), ?_⟩)
local macro_rules | `(tactic| walk_at "nz") => `(tactic| first | refine nzG (by simp only [List.set_cons_succ, List.set_cons_zero]; rfl) ?_ | refine reS (by simp only [List.set_cons_succ, List.set_cons_zero]; rfl) ?_)
def msz : Nat → Nat
  | 0 => 1
  | n + 1 => 1 + (msz n + msz n)
theorem msz_pos : ∀ n, 1 ≤ msz n
  | 0 => Nat.le_refl _
  | n + 1 => by unfold msz; omega
theorem noP_inv {p c a : Addr} {H H' : Hp} (e : Same (noP p c H) H') : Same (noP p c H) (noP p c H') := hidL_into e
section
variable {P : Program} {w : World} {K : PySem.W.Frag} {mg : Str → Option Value} {base : Heap} {cT cW : Addr}
def spMatrix (n : Nat) : Sp := fun vs H Q _ => ∃ (G : Hp) (p c sh nl : Addr) (T : Tng) (ns : List Nm), vs = [.ref p, .ref sh, .ref nl, .int n] ∧ Same G H ∧ G p = none ∧ G c = none ∧ PoolAt H p c ∧ ShapeAt G sh T ∧ T.Ok ∧ G nl = some (.lst (ns.map nmV')) ∧ 0 < ns.length ∧ ns.length ≤ 2 ∧
  ∀ (a : Addr) (s : Say) (H' : Hp), Same (noP p c H) H' → PoolAt H' p c → SayAt (noP p c H') s a → s.okT T.marks T.ties → s.size ≤ msz n → s.deep ≤ n + 1 → (∀ v, s.fr v = true → v ∈ ns) → Q (.ref a) H'
theorem atom_small {s : Say} (h : s.kids = []) : s.size = 1 ∧ s.deep = 1 := by cases s <;> simp [Say.kids] at h <;> exact ⟨rfl, rfl⟩
theorem ok_matrix (B : Blt mg) (D : Def K mg "_law_matrix" s_law_matrix) (c_draw : CallOk P w K mg base 1 "_law_draw" P_law_draw spDraw) (c_test : CallOk P w K mg base 2 "_law_test" P_law_test spLTest) :
    ∀ n, CallOk P w K mg base (n + 3) "_law_matrix" P_law_matrix (spMatrix n) := by
  intro n
  have c_law_draw := c_draw
  have c_law_test := c_test
  induction n with
  | zero =>
    have c_law_matrix : CallOk P w K mg base 2 "_law_matrix" P_law_matrix (fun _ _ _ _ => False) := callOk_none D bd_law_matrix fun _ _ _ _ h => h
    refine callOk D sc_law_matrix bd_law_matrix (fun vs H Q E h => ?_) (fun f cdv A outer st H vs Q E hr h => ?_)
    · obtain ⟨G, p, c, sh, nl, T, ns, rfl, _⟩ := h
      rfl
    obtain ⟨G, p, c, sh, nl, T, ns, rfl, eG, hGp, hGc, hp, hS, okT, hnl, hn1, hn2, q⟩ := h
    have hr1 : Room 1 _ := hr.mono (by decide)
    refine ⟨_, pss_cons (ps_set (i := 4) sc_law_matrix.nd rfl (.inl rfl) (pe_cl c_law_draw hr1 (by rfl) (pa_cons (pv 0) (pa_cons (pe_int) pa_nil)))) (pss_cons (ps_if (PW.pt (pw_or (pt_cmpR op_eq (pv 3) (pe_int) (nomark _)) (pw_or1 (pt_cmpR op_lt (pv 4) (pe_int) (nomark _))))) (pss_one (ps_ret (pe_cl c_law_test hr (by rfl) (pa_cons (pv 0) (pa_cons (pv 1) (pa_cons (pv 2) pa_nil)))))) (pss_nil)) (pss_cons (ps_if (pt_cmpR op_eq (pv 4) (pe_int) (nomark _)) (pss_one (ps_ret (pe_tup (pa_cons (pe_str) (pa_cons (pe_cl c_law_matrix hr (by rfl) (pa_cons (pv 0) (pa_cons (pv 1) (pa_cons (pv 2) (pa_cons (pe_op op_sub (pv 3) (pe_int)) pa_nil))))) pa_nil))))) (pss_nil)) (pss_cons (ps_set (i := 5) sc_law_matrix.nd rfl (.inl rfl) (pe_cl c_law_matrix hr (by rfl) (pa_cons (pv 0) (pa_cons (pv 1) (pa_cons (pv 2) (pa_cons (pe_op op_sub (pv 3) (pe_int)) pa_nil)))))) (pss_one (ps_ret (pe_tup (pa_cons (pe_ix ix_list (pe_lst (pa_cons (pe_str) (pa_cons (pe_str) (pa_cons (pe_str) pa_nil)))) (pe_op op_sub (pv 4) (pe_int)) (fun _ _ => rfl)) (pa_cons (pv 5) (pa_cons (pe_cl c_law_matrix hr (by rfl) (pa_cons (pv 0) (pa_cons (pv 1) (pa_cons (pv 2) (pa_cons (pe_op op_sub (pv 3) (pe_int)) pa_nil))))) pa_nil))))))))), ?_⟩
    walk_at "rd"
    refine ⟨p, c, 6, rfl, hp, by decide, by decide, fun kd H1 hkd e1 hp1 => ?_⟩
    have eG1 : Same G H1 := fun b u h => e1 _ _ (noP_base eG hGp hGc _ _ h)
    walk_at "rd"
    refine ⟨G, p, c, sh, nl, T, ns, rfl, eG1, hGp, hGc, hp1, hS, okT, hnl, hn1, hn2, fun a s H2 e2 hp2 hs h1 h2 h3 => ?_⟩
    exact q a s H2 (noP_trans e1 e2) hp2 hs h1 (by rw [(atom_small h2).1]; exact Nat.le_refl _) (by rw [(atom_small h2).2]; exact Nat.le_refl _) h3
  | succ n ih =>
    have c_law_matrix := ih
    refine callOk D sc_law_matrix bd_law_matrix (fun vs H Q E h => ?_) (fun f cdv A outer st H vs Q E hr h => ?_)
    · obtain ⟨G, p, c, sh, nl, T, ns, rfl, _⟩ := h
      rfl
    obtain ⟨G, p, c, sh, nl, T, ns, rfl, eG, hGp, hGc, hp, hS, okT, hnl, hn1, hn2, q⟩ := h
    have hr1 : Room 1 _ := hr.mono (by omega)
    have hr2 : Room 2 _ := hr.mono (by omega)
    have hrn : Room (n + 3) _ := hr.mono (by omega)
    refine ⟨_, pss_cons (ps_set (i := 4) sc_law_matrix.nd rfl (.inl rfl) (pe_cl c_law_draw hr1 (by rfl) (pa_cons (pv 0) (pa_cons (pe_int) pa_nil)))) (pss_cons (ps_if (PW.pt (pw_or (pt_cmpR op_eq (pv 3) (pe_int) (nomark _)) (pw_or1 (pt_cmpR op_lt (pv 4) (pe_int) (nomark _))))) (pss_one (ps_ret (pe_cl c_law_test hr2 (by rfl) (pa_cons (pv 0) (pa_cons (pv 1) (pa_cons (pv 2) pa_nil)))))) (pss_nil)) (pss_cons (ps_if (pt_cmpR op_eq (pv 4) (pe_int) (nomark _)) (pss_one (ps_ret (pe_tup (pa_cons (pe_str) (pa_cons (pe_cl c_law_matrix hrn (by rfl) (pa_cons (pv 0) (pa_cons (pv 1) (pa_cons (pv 2) (pa_cons (pe_op op_sub (pv 3) (pe_int)) pa_nil))))) pa_nil))))) (pss_nil)) (pss_cons (ps_set (i := 5) sc_law_matrix.nd rfl (.inl rfl) (pe_cl c_law_matrix hrn (by rfl) (pa_cons (pv 0) (pa_cons (pv 1) (pa_cons (pv 2) (pa_cons (pe_op op_sub (pv 3) (pe_int)) pa_nil)))))) (pss_one (ps_ret (pe_tup (pa_cons (pe_ix ix_list (pe_lst (pa_cons (pe_str) (pa_cons (pe_str) (pa_cons (pe_str) pa_nil)))) (pe_op op_sub (pv 4) (pe_int)) (fun _ _ => rfl)) (pa_cons (pv 5) (pa_cons (pe_cl c_law_matrix hrn (by rfl) (pa_cons (pv 0) (pa_cons (pv 1) (pa_cons (pv 2) (pa_cons (pe_op op_sub (pv 3) (pe_int)) pa_nil))))) pa_nil))))))))), ?_⟩
    walk_at "rd"
    refine ⟨p, c, 6, rfl, hp, by decide, by decide, fun kd H1 hkd e1 hp1 => ?_⟩
    have eG1 : Same G H1 := fun b u h => e1 _ _ (noP_base eG hGp hGc _ _ h)
    walk_at "rd"
    refine iteS (fun hk => ?_) (fun hk => ?_)
    · walk_at "rd"
      refine ⟨G, p, c, sh, nl, T, ns, rfl, eG1, hGp, hGc, hp1, hS, okT, hnl, hn1, hn2, fun a s H2 e2 hp2 hs h1 h2 h3 => ?_⟩
      exact q a s H2 (noP_trans e1 e2) hp2 hs h1 (by rw [(atom_small h2).1]; exact msz_pos _) (by rw [(atom_small h2).2]; omega) h3
    · walk_at "rd"
      have earg : [V.ref p, V.ref sh, V.ref nl, V.int (((n + 1 : Nat) : Int) - 1)] = [V.ref p, V.ref sh, V.ref nl, V.int (n : Int)] := by rw [show (((n + 1 : Nat) : Int) - 1) = (n : Int) by omega]
      refine iteS (fun hk2 => ?_) (fun hk2 => ?_)
      · walk_at "rd"
        refine ⟨G, p, c, sh, nl, T, ns, earg, eG1, hGp, hGc, hp1, hS, okT, hnl, hn1, hn2, fun a s H2 e2 hp2 hs h1 h2 h3 h4 => ?_⟩
        refine ⟨sz (by simp), fun b hb => ?_⟩
        have e3 : Same H2 (upd H2 b (.tup [.str "not", .ref a])) := Same.new (Same.refl _) hb
        have hp3 := hp2.same e3
        refine q b (.not s) _ (noP_then (noP_trans e1 e2) e3) hp3 ⟨a, noP_tup hp3 upd_same, hs.mono (noP_base (fun z u h => e3 _ _ (hidL_same _ _ h)) noP_p noP_c)⟩ h1 ?_ ?_ h4
        · show 1 + s.size ≤ 1 + (msz n + msz n)
          omega
        · show 1 + s.deep ≤ n + 1 + 1
          omega
      · walk_at "rd"
        refine ⟨G, p, c, sh, nl, T, ns, earg, eG1, hGp, hGc, hp1, hS, okT, hnl, hn1, hn2, fun a s H2 e2 hp2 hs h1 h2 h3 h4 => ?_⟩
        have eG2 : Same G H2 := fun b u h => e2 _ _ (noP_base eG1 hGp hGc _ _ h)
        walk_at "rd"
        refine ⟨sz (by simp), fun lb hlb => ?_⟩
        have e3 : Same H2 (upd H2 lb (.lst [.str "and", .str "or", .str "or"])) := Same.new (Same.refl _) hlb
        have hp3 := hp2.same e3
        have hk3 : 3 ≤ kd := by
          have a1 := of_decide_eq_false hk
          have a2 : ¬ (kd : Int) = 2 := fun z => by
            have : decide (V.int (kd : Int) = V.int 2) = true := by rw [z, decide_eq_true rfl]
            rw [hk2] at this
            cases this
          omega
        obtain ⟨b, hb⟩ : ∃ b : Bool, ([V.str "and", V.str "or", V.str "or"] : List V)[kd - 3]? = some (.str (if b = true then "and" else "or")) := by
          rcases (show kd = 3 ∨ kd = 4 ∨ kd = 5 by omega) with rfl | rfl | rfl
          · exact ⟨true, rfl⟩
          · exact ⟨false, rfl⟩
          · exact ⟨false, rfl⟩
        walk_at "rd"
        refine ⟨_, _, _, .str (if b = true then "and" else "or"), rfl, rfl, SqL.of upd_same, by rw [show ((kd : Int) - 3) = ((kd - 3 : Nat) : Int) by omega]; exact atI_nat hb, ?_⟩
        walk_at "rd"
        refine ⟨G, p, c, sh, nl, T, ns, earg, eG2.trans e3, hGp, hGc, hp3, hS, okT, hnl, hn1, hn2, fun a2 s2 H4 e4 hp4 hs2 g1 g2 g3 g4 => ?_⟩
        refine ⟨sz (by simp), fun r hr => ?_⟩
        have e24 : Same (noP p c H2) H4 := noP_step e3 e4
        have e5 : Same H4 (upd H4 r (.tup [.str (if b = true then "and" else "or"), .ref a, .ref a2])) := Same.new (Same.refl _) hr
        have hp5 := hp4.same e5
        have hsa : SayAt (noP p c (upd H4 r (.tup [.str (if b = true then "and" else "or"), .ref a, .ref a2]))) s a := hs.mono (noP_base (noP_then e24 e5) noP_p noP_c)
        have hsb : SayAt (noP p c (upd H4 r (.tup [.str (if b = true then "and" else "or"), .ref a, .ref a2]))) s2 a2 := hs2.mono (noP_base (fun z u h => e5 _ _ (hidL_same _ _ h)) noP_p noP_c)
        have htp := noP_tup hp5 (upd_same (H := H4) (a := r) (o := .tup [.str (if b = true then "and" else "or"), .ref a, .ref a2]))
        have eall := noP_then (noP_trans (noP_trans e1 e2) e24) e5
        have hfr : ∀ v, (s.fr v || s2.fr v) = true → v ∈ ns := fun v hv => (Bool.or_eq_true_iff.mp hv).elim (h4 v) (g4 v)
        cases b with
        | true => exact q r (.and s s2) _ eall hp5 ⟨a, a2, htp, hsa, hsb⟩ ⟨h1, g1⟩ (by show 1 + (s.size + s2.size) ≤ 1 + (msz n + msz n); omega) (by show 1 + max s.deep s2.deep ≤ n + 1 + 1; omega) hfr
        | false => exact q r (.or s s2) _ eall hp5 ⟨a, a2, htp, hsa, hsb⟩ ⟨h1, g1⟩ (by show 1 + (s.size + s2.size) ≤ 1 + (msz n + msz n); omega) (by show 1 + max s.deep s2.deep ≤ n + 1 + 1; omega) hfr
end
end K48
namespace K48
open PySem PySem.Spec PyProof.Rows L2
local macro_rules | `(tactic| walk_at "rd") => `(tactic| repeat (first | refine ⟨_, rfl, ?_⟩ | refine ⟨_, _, rfl, rfl, ?_⟩ | refine ⟨rfl, ?_⟩ | refine iteTk (by decide +kernel) ?_ | refine iteFk (by decide +kernel) ?_))
local macro_rules | `(tactic| walk_at "rdr") => `(tactic| repeat (first | refine ⟨_, rfl, ?_⟩ | refine ⟨_, _, rfl, rfl, ?_⟩ | refine ⟨rfl, ?_⟩ | refine iteTk (by first | decide +kernel | rfl) ?_ | refine iteFk (by first | decide +kernel | rfl) ?_))
local macro_rules | `(tactic| walk_at "tyn") => `(tactic| first | exact .int _ | exact .bl _ | exact .str _ | exact .tup (by assumption) | exact .lst (by assumption) | exact .dK (by assumption))
local macro_rules | `(tactic| walk_at "isT") => `(tactic| refine ⟨_, _, _, _, true, rfl, .ty _, TyN.x (by walk_at "tyn"), kit_ty (by decide +kernel), ?_⟩)
local macro_rules | `(tactic| walk_at "isF") => `(tactic| refine ⟨_, _, _, _, false, rfl, .ty _, TyN.x (by walk_at "tyn"), kit_ty (by decide +kernel), ?_⟩)
local macro_rules | `(tactic| walk_at "nz") => `(tactic| first | refine nzG (by simp only [List.set_cons_succ, List.set_cons_zero]; rfl) ?_ | refine reS (by simp only [List.set_cons_succ, List.set_cons_zero]; rfl) ?_)
def osz (parts : Nat) : Nat := if parts ≤ 1 then 13 else 18
theorem x_is : decide (V.str Nm.x.s = V.str "x") = true := decide_eq_true rfl
theorem y_isnt : decide (V.str Nm.y.s = V.str "x") = false := decide_eq_false (fun z => y_ne_x (V.str.inj z))
theorem flip_idx (v : Nm) : atI ([V.str "x", V.str "y"] : List V) (if decide (V.str v.s = V.str "x") = true then 1 else 0) = some (.str v.flip.s) := by
  cases v with
  | x => rw [if_pos x_is]; rfl
  | y => rw [if_neg (by rw [y_isnt]; decide)]; rfl
theorem flip_ne (v u : Nm) : u ≠ v.flip → u = v := by cases v <;> cases u <;> simp [Nm.flip]
theorem say_qn {H : Hp} {b : Bool} {v : Nm} {s : Say} {r a : Addr} (h : H r = some (.tup [.str (if b = true then "some" else "each"), .str v.s, .ref a])) (hs : SayAt H s a) : SayAt H (qn b v s) r := by
  cases b with
  | true => exact ⟨a, h, hs⟩
  | false => exact ⟨a, h, hs⟩
theorem qn_okI {b : Bool} {v : Nm} {s : Say} {ms ts : List Str} (h : s.okT ms ts) : (qn b v s).okT ms ts := by cases b <;> exact h
theorem qn_size (b : Bool) (v : Nm) (s : Say) : (qn b v s).size = 1 + s.size := by cases b <;> rfl
/-- and (true), or (false) -/
def jn : Bool → Say → Say → Say
  | true, s, t => .and s t
  | false, s, t => .or s t
theorem say_jn {H : Hp} {b : Bool} {s t : Say} {r a a2 : Addr} (h : H r = some (.tup [.str (if b = true then "and" else "or"), .ref a, .ref a2])) (hs : SayAt H s a) (ht : SayAt H t a2) : SayAt H (jn b s t) r := by
  cases b with
  | true => exact ⟨a, a2, h, hs, ht⟩
  | false => exact ⟨a, a2, h, hs, ht⟩
theorem jn_ok {b : Bool} {s t : Say} {ms ts : List Str} (h : s.okT ms ts) (k : t.okT ms ts) : (jn b s t).okT ms ts := by cases b <;> exact ⟨h, k⟩
theorem jn_size (b : Bool) (s t : Say) : (jn b s t).size = 1 + (s.size + t.size) := by cases b <;> rfl
theorem jn_deep (b : Bool) (s t : Say) : (jn b s t).deep = 1 + max s.deep t.deep := by cases b <;> rfl
theorem jn_fr (b : Bool) (s t : Say) (v : Nm) : (jn b s t).fr v = (s.fr v || t.fr v) := by cases b <;> rfl
theorem SayAt.noP {p c : Addr} {H H' : Hp} {s : Say} {a : Addr} (h : SayAt (noP p c H) s a) (e : Same (noP p c H) H') : SayAt (noP p c H') s a := h.mono (hidL_into e)
theorem jn_at {d : Nat} (hd : d < 2) : ∃ b : Bool, ([V.str "and", V.str "or"] : List V)[d]? = some (.str (if b = true then "and" else "or")) := by
  rcases (show d = 0 ∨ d = 1 by omega) with rfl | rfl
  · exact ⟨true, rfl⟩
  · exact ⟨false, rfl⟩
section
variable {P : Program} {w : World} {K : PySem.W.Frag} {mg : Str → Option Value} {base : Heap} {cT cW : Addr}
def spOne : Sp := fun vs H Q _ => ∃ (G : Hp) (p c sh : Addr) (T : Tng) (v : Nm) (parts : Nat), vs = [.ref p, .ref sh, .str v.s, .int parts] ∧ Same G H ∧ G p = none ∧ G c = none ∧ PoolAt H p c ∧ ShapeAt G sh T ∧ T.Ok ∧
  ∀ (a : Addr) (s : Say) (H' : Hp), Same (noP p c H) H' → PoolAt H' p c → SayAt (noP p c H') s a → s.okT T.marks T.ties → s.size ≤ osz parts → s.deep ≤ 7 → (∀ u, s.fr u = true → u = v) → Q (.ref a) H'
theorem ok_one (B : Blt mg) (D : Def K mg "_law_one" s_law_one) (c_law_draw : CallOk P w K mg base 1 "_law_draw" P_law_draw spDraw) (c_law_quantor : CallOk P w K mg base 2 "_law_quantor" P_law_quantor spQuantor) (c_m2 : CallOk P w K mg base 5 "_law_matrix" P_law_matrix (spMatrix 2)) (c_m1 : CallOk P w K mg base 4 "_law_matrix" P_law_matrix (spMatrix 1)) :
    CallOk P w K mg base 6 "_law_one" P_law_one spOne := by
  refine callOk D sc_law_one bd_law_one (fun vs H Q E h => ?_) (fun f cdv A outer st H vs Q E hr h => ?_)
  · obtain ⟨G, p, c, sh, T, v, parts, rfl, _⟩ := h
    rfl
  obtain ⟨G, p, c, sh, T, v, parts, rfl, eG, hGp, hGc, hp, hS, okT, q⟩ := h
  have hr1 : Room 1 _ := hr.mono (by decide)
  have hr2 : Room 2 _ := hr.mono (by decide)
  have hr4 : Room 4 _ := hr.mono (by decide)
  refine ⟨_, pss_cons (ps_set (i := 4) sc_law_one.nd rfl (.inl rfl) (pe_ix ix_list (pe_lst (pa_cons (pe_str) (pa_cons (pe_str) pa_nil))) (pe_callTy call_int1 (by rfl) B.int bo_int (pa_cons (pe_cmpR op_eq (pv 2) (pe_str) (nomark _)) pa_nil)) (fun _ _ => rfl))) (pss_cons (ps_if (PW.pt (pw_or (pt_cmpR op_eq (pv 3) (pe_int) (nomark _)) (pw_or1 (pt_cmpR op_eq (pe_cl c_law_draw hr1 (by rfl) (pa_cons (pv 0) (pa_cons (pe_int) pa_nil))) (pe_int) (nomark _))))) (pss_one (ps_ret (pe_cl c_m2 hr (by rfl) (pa_cons (pv 0) (pa_cons (pv 1) (pa_cons (pe_lst (pa_cons (pv 2) pa_nil)) (pa_cons (pe_int) pa_nil))))))) (pss_nil)) (pss_cons (ps_set (i := 5) sc_law_one.nd rfl (.inl rfl) (pe_cl c_m2 hr (by rfl) (pa_cons (pv 0) (pa_cons (pv 1) (pa_cons (pe_lst (pa_cons (pv 2) (pa_cons (pv 4) pa_nil))) (pa_cons (pe_int) pa_nil)))))) (pss_cons (ps_if (PW.pt (pw_and (pt_cmpR op_gt (pv 3) (pe_int) (nomark _)) (pw_and1 (pt_cmpR op_gt (pe_cl c_law_draw hr1 (by rfl) (pa_cons (pv 0) (pa_cons (pe_int) pa_nil))) (pe_int) (nomark _))))) (pss_cons (ps_set (i := 6) sc_law_one.nd rfl (.inl rfl) (pe_tup (pa_cons (pe_cl c_law_quantor hr2 (by rfl) (pa_cons (pv 0) pa_nil)) (pa_cons (pv 2) (pa_cons (pe_cl c_m1 hr4 (by rfl) (pa_cons (pv 0) (pa_cons (pv 1) (pa_cons (pe_lst (pa_cons (pv 2) (pa_cons (pv 4) pa_nil))) (pa_cons (pe_int) pa_nil))))) pa_nil))))) (pss_one (ps_set (i := 5) sc_law_one.nd rfl (.inl rfl) (pe_tup (pa_cons (pe_ix ix_list (pe_lst (pa_cons (pe_str) (pa_cons (pe_str) pa_nil))) (pe_cl c_law_draw hr1 (by rfl) (pa_cons (pv 0) (pa_cons (pe_int) pa_nil))) (fun _ _ => rfl)) (pa_cons (pv 5) (pa_cons (pv 6) pa_nil))))))) (pss_nil)) (pss_cons (ps_set (i := 5) sc_law_one.nd rfl (.inl rfl) (pe_tup (pa_cons (pe_cl c_law_quantor hr2 (by rfl) (pa_cons (pv 0) pa_nil)) (pa_cons (pv 4) (pa_cons (pv 5) pa_nil))))) (pss_cons (ps_if (pt_cmpR op_eq (pe_cl c_law_draw hr1 (by rfl) (pa_cons (pv 0) (pa_cons (pe_int) pa_nil))) (pe_int) (nomark _)) (pss_one (ps_ret (pv 5))) (pss_nil)) (pss_cons (ps_if (pt_cmpR op_eq (pe_cl c_law_draw hr1 (by rfl) (pa_cons (pv 0) (pa_cons (pe_int) pa_nil))) (pe_int) (nomark _)) (pss_one (ps_set (i := 5) sc_law_one.nd rfl (.inl rfl) (pe_tup (pa_cons (pe_str) (pa_cons (pv 5) pa_nil))))) (pss_nil)) (pss_one (ps_ret (pe_tup (pa_cons (pe_ix ix_list (pe_lst (pa_cons (pe_str) (pa_cons (pe_str) pa_nil))) (pe_cl c_law_draw hr1 (by rfl) (pa_cons (pv 0) (pa_cons (pe_int) pa_nil))) (fun _ _ => rfl)) (pa_cons (pe_cl c_m1 hr4 (by rfl) (pa_cons (pv 0) (pa_cons (pv 1) (pa_cons (pe_lst (pa_cons (pv 2) pa_nil)) (pa_cons (pe_int) pa_nil))))) (pa_cons (pv 5) pa_nil)))))))))))), ?_⟩
  walk_at "rd"
  refine ⟨sz (by simp), fun l0 hl0 => ?_⟩
  have e0 : Same H (upd H l0 (.lst [.str "x", .str "y"])) := Same.new (Same.refl _) hl0
  have hp0 := hp.same e0
  walk_at "rd"
  refine .inr ⟨_, rfl, ?_⟩
  refine ⟨_, _, _, .str v.flip.s, rfl, rfl, SqL.of upd_same, flip_idx v, ?_⟩
  have eG0 := eG.trans e0
  walk_at "rd"
  have eS0 : Same (noP p c H) (upd H l0 (.lst [.str "x", .str "y"])) := noP_then hidL_same e0
  have hS0 : ShapeAt (noP p c (upd H l0 (.lst [.str "x", .str "y"]))) sh T := hS.mono (noP_base eG0 hGp hGc)
  revert eS0 hS0 hp0
  generalize (upd H l0 (.lst [.str "x", .str "y"])) = H0
  intro hp0 eS0 hS0
  have e0 := eS0
  refine iteS (fun hz => ?_) (fun hz => ?_)
  · walk_at "rd"
    refine ⟨sz (by simp), fun l1 hl1 => ?_⟩
    have nl1 := pool_off hp0 hl1
    have eL1 : Same H0 (upd H0 l1 (.lst [.str v.s])) := Same.new (Same.refl _) hl1
    have hpL1 := hp0.same eL1
    walk_at "rd"
    refine ⟨noP p c (upd H0 l1 (.lst [.str v.s])), p, c, sh, l1, T, [v], rfl, hidL_same, noP_p, noP_c, hpL1, hS0.mono (hidL_into (noP_then hidL_same eL1)), okT, by rw [noP_ne nl1.1 nl1.2, upd_same]; rfl, by simp, by simp, fun a1 s1 H1 e'1 hp1 hs1 ok1 z1 d1 f1 => ?_⟩
    have e''1 : Same (noP p c H0) H1 := noP_step eL1 e'1
    have e1 : Same (noP p c H) H1 := noP_trans e0 e''1
    have hS1 : ShapeAt (noP p c H1) sh T := hS0.mono (hidL_into e''1)
    exact q a1 s1 H1 e1 hp1 hs1 ok1 (Nat.le_trans z1 (by unfold osz; split <;> decide)) (Nat.le_trans d1 (by decide)) fun u hu => by simpa using f1 u hu
  · walk_at "rd"
    refine ⟨p, c, 5, rfl, hp0, by decide, by decide, fun dd H1 hdd e'1 hp1 => ?_⟩
    have e1 : Same (noP p c H) H1 := noP_trans e0 e'1
    have hS1 : ShapeAt (noP p c H1) sh T := hS0.mono (hidL_into e'1)
    walk_at "rd"
    refine iteS (fun hd5 => ?_) (fun hd5 => ?_)
    · walk_at "rd"
      refine ⟨sz (by simp), fun l2 hl2 => ?_⟩
      have nl2 := pool_off hp1 hl2
      have eL2 : Same H1 (upd H1 l2 (.lst [.str v.s])) := Same.new (Same.refl _) hl2
      have hpL2 := hp1.same eL2
      walk_at "rd"
      refine ⟨noP p c (upd H1 l2 (.lst [.str v.s])), p, c, sh, l2, T, [v], rfl, hidL_same, noP_p, noP_c, hpL2, hS1.mono (hidL_into (noP_then hidL_same eL2)), okT, by rw [noP_ne nl2.1 nl2.2, upd_same]; rfl, by simp, by simp, fun a2 s2 H2 e'2 hp2 hs2 ok2 z2 d2 f2 => ?_⟩
      have e''2 : Same (noP p c H1) H2 := noP_step eL2 e'2
      have e2 : Same (noP p c H) H2 := noP_trans e1 e''2
      have hS2 : ShapeAt (noP p c H2) sh T := hS1.mono (hidL_into e''2)
      exact q a2 s2 H2 e2 hp2 hs2 ok2 (Nat.le_trans z2 (by unfold osz; split <;> decide)) (Nat.le_trans d2 (by decide)) fun u hu => by simpa using f2 u hu
    · walk_at "rd"
      refine ⟨sz (by simp), fun l2 hl2 => ?_⟩
      have nl2 := pool_off hp1 hl2
      have eL2 : Same H1 (upd H1 l2 (.lst [.str v.s, .str v.flip.s])) := Same.new (Same.refl _) hl2
      have hpL2 := hp1.same eL2
      walk_at "rd"
      refine ⟨noP p c (upd H1 l2 (.lst [.str v.s, .str v.flip.s])), p, c, sh, l2, T, [v, v.flip], rfl, hidL_same, noP_p, noP_c, hpL2, hS1.mono (hidL_into (noP_then hidL_same eL2)), okT, by rw [noP_ne nl2.1 nl2.2, upd_same]; rfl, by simp, by simp, fun a2 s2 H2 e'2 hp2 hs2 ok2 z2 d2 f2 => ?_⟩
      have e''2 : Same (noP p c H1) H2 := noP_step eL2 e'2
      have e2 : Same (noP p c H) H2 := noP_trans e1 e''2
      have hS2 : ShapeAt (noP p c H2) sh T := hS1.mono (hidL_into e''2)
      walk_at "rd"
      refine iteS (fun hp1' => ?_) (fun hp1' => ?_)
      · have hparts : 1 < parts := by have := of_decide_eq_true hp1'; omega
        walk_at "rd"
        refine ⟨p, c, 3, rfl, hp2, by decide, by decide, fun d3 H3 hd3 e'3 hp3 => ?_⟩
        have e3 : Same (noP p c H) H3 := noP_trans e2 e'3
        have hS3 : ShapeAt (noP p c H3) sh T := hS2.mono (hidL_into e'3)
        have hs23 := hs2.noP e'3
        walk_at "rd"
        refine iteS (fun hd3' => ?_) (fun hd3' => ?_)
        · walk_at "rd"
          refine ⟨p, c, rfl, hp3, fun bm HM e'M hpM => ?_⟩
          have eM : Same (noP p c H) HM := noP_trans e3 e'M
          have hSM : ShapeAt (noP p c HM) sh T := hS3.mono (hidL_into e'M)
          have hs2M := hs23.noP e'M
          walk_at "rd"
          refine ⟨sz (by simp), fun l7 hl7 => ?_⟩
          have nl7 := pool_off hpM hl7
          have eL7 : Same HM (upd HM l7 (.lst [.str v.s, .str v.flip.s])) := Same.new (Same.refl _) hl7
          have hpL7 := hpM.same eL7
          walk_at "rd"
          refine ⟨noP p c (upd HM l7 (.lst [.str v.s, .str v.flip.s])), p, c, sh, l7, T, [v, v.flip], rfl, hidL_same, noP_p, noP_c, hpL7, hSM.mono (hidL_into (noP_then hidL_same eL7)), okT, by rw [noP_ne nl7.1 nl7.2, upd_same]; rfl, by simp, by simp, fun a7 s7 H7 e'7 hp7 hs7 ok7 z7 d7 f7 => ?_⟩
          have e''7 : Same (noP p c HM) H7 := noP_step eL7 e'7
          have e7 : Same (noP p c H) H7 := noP_trans eM e''7
          have hS7 : ShapeAt (noP p c H7) sh T := hSM.mono (hidL_into e''7)
          have hs27 := hs2M.noP e''7
          refine ⟨sz (by simp), fun rm hrm => ?_⟩
          have eT0 : Same H7 (upd H7 rm (.tup [.str (if bm = true then "some" else "each"), .str v.s, .ref a7])) := Same.new (Same.refl _) hrm
          have hpT := hp7.same eT0
          have hsT : SayAt (noP p c (upd H7 rm (.tup [.str (if bm = true then "some" else "each"), .str v.s, .ref a7]))) (qn bm v s7) rm := say_qn (noP_tup hpT upd_same) (hs7.noP (noP_then hidL_same eT0))
          have hs2T := hs27.noP (noP_then hidL_same eT0)
          have eT : Same (noP p c H) (upd H7 rm (.tup [.str (if bm = true then "some" else "each"), .str v.s, .ref a7])) := noP_then e7 eT0
          have hST : ShapeAt (noP p c (upd H7 rm (.tup [.str (if bm = true then "some" else "each"), .str v.s, .ref a7]))) sh T := hS7.mono (hidL_into (noP_then hidL_same eT0))
          clear eT0
          revert hpT hsT hs2T eT hST
          generalize (upd H7 rm (.tup [.str (if bm = true then "some" else "each"), .str v.s, .ref a7])) = HT
          intro hpT hsT hs2T eT hST
          walk_at "rd"
          refine ⟨sz (by simp), fun lk hlk => ?_⟩
          have nlk := pool_off hpT hlk
          have eK0 : Same HT (upd HT lk (.lst [.str "and", .str "or"])) := Same.new (Same.refl _) hlk
          have hpK := hpT.same eK0
          have eK : Same (noP p c H) (upd HT lk (.lst [.str "and", .str "or"])) := noP_then eT eK0
          have hSK : ShapeAt (noP p c (upd HT lk (.lst [.str "and", .str "or"]))) sh T := hST.mono (hidL_into (noP_then hidL_same eK0))
          have hsTK := hsT.noP (noP_then hidL_same eK0)
          have hs2K := hs2T.noP (noP_then hidL_same eK0)
          walk_at "rd"
          refine ⟨p, c, 2, rfl, hpK, by decide, by decide, fun dk H8 hdk e'8 hp8 => ?_⟩
          have e8 : Same (noP p c H) H8 := noP_trans eK e'8
          have hS8 : ShapeAt (noP p c H8) sh T := hSK.mono (hidL_into e'8)
          have hl8 : H8 lk = some (.lst [.str "and", .str "or"]) := e'8 _ _ (by rw [noP_ne nlk.1 nlk.2, upd_same])
          have hsT8 := hsTK.noP e'8
          have hs28 := hs2K.noP e'8
          obtain ⟨bk, hbk⟩ := jn_at hdk
          refine ⟨_, _, _, .str (if bk = true then "and" else "or"), rfl, rfl, SqL.of hl8, atI_nat hbk, ?_⟩
          walk_at "rd"
          refine ⟨sz (by simp), fun rg hrg => ?_⟩
          have eG9 : Same H8 (upd H8 rg (.tup [.str (if bk = true then "and" else "or"), .ref a2, .ref rm])) := Same.new (Same.refl _) hrg
          have hpI := hp8.same eG9
          have eI : Same (noP p c H) (upd H8 rg (.tup [.str (if bk = true then "and" else "or"), .ref a2, .ref rm])) := noP_then e8 eG9
          have hSI : ShapeAt (noP p c (upd H8 rg (.tup [.str (if bk = true then "and" else "or"), .ref a2, .ref rm]))) sh T := hS8.mono (hidL_into (noP_then hidL_same eG9))
          have hsI : SayAt (noP p c (upd H8 rg (.tup [.str (if bk = true then "and" else "or"), .ref a2, .ref rm]))) (jn bk s2 (qn bm v s7)) rg := say_jn (noP_tup hpI upd_same) (hs28.noP (noP_then hidL_same eG9)) (hsT8.noP (noP_then hidL_same eG9))
          clear eG9
          have okI : (jn bk s2 (qn bm v s7)).okT T.marks T.ties := jn_ok ok2 (qn_okI ok7)
          have zI : (jn bk s2 (qn bm v s7)).size ≤ osz parts - 6 := by
            rw [jn_size, qn_size]
            have h1 : msz 2 = 7 := rfl
            have h2 : msz 1 = 3 := rfl
            have h3 : osz parts = 18 := by unfold osz; rw [if_neg (by omega)]
            omega
          have dI : (jn bk s2 (qn bm v s7)).deep ≤ 4 := by rw [jn_deep, qn_deep]; omega
          revert eI hpI hSI hsI okI zI dI
          generalize (upd H8 rg (.tup [.str (if bk = true then "and" else "or"), .ref a2, .ref rm])) = HI
          generalize jn bk s2 (qn bm v s7) = sI
          generalize rg = aI
          intro hpI eI hSI hsI okI zI dI
          have h13 : 13 ≤ osz parts := by unfold osz; split <;> decide
          walk_at "rd"
          refine ⟨p, c, rfl, hpI, fun bq HQ e'Q hpQ => ?_⟩
          have eQ : Same (noP p c H) HQ := noP_trans eI e'Q
          have hSQ : ShapeAt (noP p c HQ) sh T := hSI.mono (hidL_into e'Q)
          have hsQ := hsI.noP e'Q
          walk_at "rd"
          refine ⟨sz (by simp), fun rq hrq => ?_⟩
          have eR0 : Same HQ (upd HQ rq (.tup [.str (if bq = true then "some" else "each"), .str v.flip.s, .ref aI])) := Same.new (Same.refl _) hrq
          have hpR := hpQ.same eR0
          have htR := noP_tup hpR (upd_same (H := HQ) (a := rq) (o := .tup [.str (if bq = true then "some" else "each"), .str v.flip.s, .ref aI]))
          have hsR : SayAt (noP p c (upd HQ rq (.tup [.str (if bq = true then "some" else "each"), .str v.flip.s, .ref aI]))) (qn bq v.flip sI) rq := say_qn htR (hsQ.noP (noP_then hidL_same eR0))
          have eR : Same (noP p c H) (upd HQ rq (.tup [.str (if bq = true then "some" else "each"), .str v.flip.s, .ref aI])) := noP_then eQ eR0
          have hSR : ShapeAt (noP p c (upd HQ rq (.tup [.str (if bq = true then "some" else "each"), .str v.flip.s, .ref aI]))) sh T := hSQ.mono (hidL_into (noP_then hidL_same eR0))
          clear htR eR0
          revert hpR hsR eR hSR
          generalize (upd HQ rq (.tup [.str (if bq = true then "some" else "each"), .str v.flip.s, .ref aI])) = HR
          intro hpR hsR eR hSR
          have okR : (qn bq v.flip sI).okT T.marks T.ties := qn_okI okI
          have zR : (qn bq v.flip sI).size ≤ 1 + (osz parts - 6) := by rw [qn_size]; omega
          have dR : (qn bq v.flip sI).deep ≤ 5 := by rw [qn_deep]; omega
          have fR : ∀ u, (qn bq v.flip sI).fr u = true → u = v := fun u hu => by
            rw [qn_fr] at hu
            exact flip_ne v u (fun z => by rw [z] at hu; simp at hu)
          revert okR zR dR fR hsR
          generalize qn bq v.flip sI = sR
          intro hsR okR zR dR fR
          walk_at "rd"
          refine ⟨p, c, 2, rfl, hpR, by decide, by decide, fun d2x H2x hd2x e'2x hp2x => ?_⟩
          have e2x : Same (noP p c H) H2x := noP_trans eR e'2x
          have hS2x : ShapeAt (noP p c H2x) sh T := hSR.mono (hidL_into e'2x)
          have hsX := hsR.noP e'2x
          walk_at "rd"
          refine iteS (fun hdz => ?_) (fun hdz => ?_)
          · walk_at "rd"
            exact q rq sR H2x e2x hp2x hsX okR (by omega) (by omega) fR
          · walk_at "rd"
            refine ⟨p, c, 4, rfl, hp2x, by decide, by decide, fun d4x H4x hd4x e'4x hp4x => ?_⟩
            have e4x : Same (noP p c H) H4x := noP_trans e2x e'4x
            have hS4x : ShapeAt (noP p c H4x) sh T := hS2x.mono (hidL_into e'4x)
            have hsY := hsX.noP e'4x
            walk_at "rd"
            refine iteS (fun hd4 => ?_) (fun hd4 => ?_)
            · walk_at "rd"
              refine ⟨sz (by simp), fun rn hrn => ?_⟩
              have eN0 : Same H4x (upd H4x rn (.tup [.str "not", .ref rq])) := Same.new (Same.refl _) hrn
              have hpZ := hp4x.same eN0
              have hsZ : SayAt (noP p c (upd H4x rn (.tup [.str "not", .ref rq]))) (.not sR) rn := ⟨rq, noP_tup hpZ upd_same, hsY.noP (noP_then hidL_same eN0)⟩
              have eZ : Same (noP p c H) (upd H4x rn (.tup [.str "not", .ref rq])) := noP_then e4x eN0
              have hSZ : ShapeAt (noP p c (upd H4x rn (.tup [.str "not", .ref rq]))) sh T := hS4x.mono (hidL_into (noP_then hidL_same eN0))
              clear eN0
              revert hpZ hsZ eZ hSZ
              generalize (upd H4x rn (.tup [.str "not", .ref rq])) = HZ
              intro hpZ hsZ eZ hSZ
              have zZ : (Say.not sR).size ≤ 2 + (osz parts - 6) := by show 1 + sR.size ≤ _; omega
              have dZ : (Say.not sR).deep ≤ 6 := by show 1 + sR.deep ≤ _; omega
              have okZ : (Say.not sR).okT T.marks T.ties := okR
              have fZ : ∀ u, (Say.not sR).fr u = true → u = v := fR
              revert zZ dZ okZ fZ hsZ
              generalize Say.not sR = sZ
              generalize rn = aZ
              intro hsZ zZ dZ okZ fZ
              walk_at "rd"
              refine ⟨sz (by simp), fun lj hlj => ?_⟩
              have nlj := pool_off hpZ hlj
              have eJ0 : Same HZ (upd HZ lj (.lst [.str "and", .str "or"])) := Same.new (Same.refl _) hlj
              have hpJ := hpZ.same eJ0
              have eJ : Same (noP p c H) (upd HZ lj (.lst [.str "and", .str "or"])) := noP_then eZ eJ0
              have hSJ : ShapeAt (noP p c (upd HZ lj (.lst [.str "and", .str "or"]))) sh T := hSZ.mono (hidL_into (noP_then hidL_same eJ0))
              have hsJ := hsZ.noP (noP_then hidL_same eJ0)
              walk_at "rd"
              refine ⟨p, c, 2, rfl, hpJ, by decide, by decide, fun dj H5 hdj e'5 hp5 => ?_⟩
              have e5 : Same (noP p c H) H5 := noP_trans eJ e'5
              have hS5 : ShapeAt (noP p c H5) sh T := hSJ.mono (hidL_into e'5)
              have hl5 : H5 lj = some (.lst [.str "and", .str "or"]) := e'5 _ _ (by rw [noP_ne nlj.1 nlj.2, upd_same])
              have hs5 := hsJ.noP e'5
              obtain ⟨bj, hbj⟩ := jn_at hdj
              refine ⟨_, _, _, .str (if bj = true then "and" else "or"), rfl, rfl, SqL.of hl5, atI_nat hbj, ?_⟩
              walk_at "rd"
              refine ⟨sz (by simp), fun l6 hl6 => ?_⟩
              have nl6 := pool_off hp5 hl6
              have eL6 : Same H5 (upd H5 l6 (.lst [.str v.s])) := Same.new (Same.refl _) hl6
              have hpL6 := hp5.same eL6
              walk_at "rd"
              refine ⟨noP p c (upd H5 l6 (.lst [.str v.s])), p, c, sh, l6, T, [v], rfl, hidL_same, noP_p, noP_c, hpL6, hS5.mono (hidL_into (noP_then hidL_same eL6)), okT, by rw [noP_ne nl6.1 nl6.2, upd_same]; rfl, by simp, by simp, fun a6 s6 H6 e'6 hp6 hs6 ok6 z6 d6 f6 => ?_⟩
              have e''6 : Same (noP p c H5) H6 := noP_step eL6 e'6
              have e6 : Same (noP p c H) H6 := noP_trans e5 e''6
              have hS6 : ShapeAt (noP p c H6) sh T := hS5.mono (hidL_into e''6)
              have hs56 := hs5.noP e''6
              walk_at "rd"
              refine ⟨sz (by simp), fun rf hrf => ?_⟩
              have eF0 : Same H6 (upd H6 rf (.tup [.str (if bj = true then "and" else "or"), .ref a6, .ref aZ])) := Same.new (Same.refl _) hrf
              have hpF := hp6.same eF0
              refine q rf (jn bj s6 sZ) _ (noP_then e6 eF0) hpF (say_jn (noP_tup hpF upd_same) (hs6.noP (noP_then hidL_same eF0)) (hs56.noP (noP_then hidL_same eF0))) (jn_ok ok6 okZ) ?_ ?_ fun u hu => ?_
              · rw [jn_size]
                have : msz 1 = 3 := rfl
                have : 13 ≤ osz parts := by unfold osz; split <;> decide
                omega
              · rw [jn_deep]
                omega
              · rw [jn_fr] at hu
                rcases Bool.or_eq_true_iff.mp hu with h | h
                · simpa using f6 u h
                · exact fZ u h
            · have hpZ := hp4x
              have hsZ := hsY
              have eZ := e4x
              have hSZ := hS4x
              have zZ : sR.size ≤ 2 + (osz parts - 6) := by omega
              have dZ : sR.deep ≤ 6 := by omega
              have okZ := okR
              have fZ := fR
              revert hpZ hsZ eZ hSZ zZ dZ okZ fZ
              generalize sR = sZ
              generalize rq = aZ
              generalize H4x = HZ
              intro hpZ hsZ eZ hSZ zZ dZ okZ fZ
              walk_at "rd"
              refine ⟨sz (by simp), fun lj hlj => ?_⟩
              have nlj := pool_off hpZ hlj
              have eJ0 : Same HZ (upd HZ lj (.lst [.str "and", .str "or"])) := Same.new (Same.refl _) hlj
              have hpJ := hpZ.same eJ0
              have eJ : Same (noP p c H) (upd HZ lj (.lst [.str "and", .str "or"])) := noP_then eZ eJ0
              have hSJ : ShapeAt (noP p c (upd HZ lj (.lst [.str "and", .str "or"]))) sh T := hSZ.mono (hidL_into (noP_then hidL_same eJ0))
              have hsJ := hsZ.noP (noP_then hidL_same eJ0)
              walk_at "rd"
              refine ⟨p, c, 2, rfl, hpJ, by decide, by decide, fun dj H5 hdj e'5 hp5 => ?_⟩
              have e5 : Same (noP p c H) H5 := noP_trans eJ e'5
              have hS5 : ShapeAt (noP p c H5) sh T := hSJ.mono (hidL_into e'5)
              have hl5 : H5 lj = some (.lst [.str "and", .str "or"]) := e'5 _ _ (by rw [noP_ne nlj.1 nlj.2, upd_same])
              have hs5 := hsJ.noP e'5
              obtain ⟨bj, hbj⟩ := jn_at hdj
              refine ⟨_, _, _, .str (if bj = true then "and" else "or"), rfl, rfl, SqL.of hl5, atI_nat hbj, ?_⟩
              walk_at "rd"
              refine ⟨sz (by simp), fun l6 hl6 => ?_⟩
              have nl6 := pool_off hp5 hl6
              have eL6 : Same H5 (upd H5 l6 (.lst [.str v.s])) := Same.new (Same.refl _) hl6
              have hpL6 := hp5.same eL6
              walk_at "rd"
              refine ⟨noP p c (upd H5 l6 (.lst [.str v.s])), p, c, sh, l6, T, [v], rfl, hidL_same, noP_p, noP_c, hpL6, hS5.mono (hidL_into (noP_then hidL_same eL6)), okT, by rw [noP_ne nl6.1 nl6.2, upd_same]; rfl, by simp, by simp, fun a6 s6 H6 e'6 hp6 hs6 ok6 z6 d6 f6 => ?_⟩
              have e''6 : Same (noP p c H5) H6 := noP_step eL6 e'6
              have e6 : Same (noP p c H) H6 := noP_trans e5 e''6
              have hS6 : ShapeAt (noP p c H6) sh T := hS5.mono (hidL_into e''6)
              have hs56 := hs5.noP e''6
              walk_at "rd"
              refine ⟨sz (by simp), fun rf hrf => ?_⟩
              have eF0 : Same H6 (upd H6 rf (.tup [.str (if bj = true then "and" else "or"), .ref a6, .ref aZ])) := Same.new (Same.refl _) hrf
              have hpF := hp6.same eF0
              refine q rf (jn bj s6 sZ) _ (noP_then e6 eF0) hpF (say_jn (noP_tup hpF upd_same) (hs6.noP (noP_then hidL_same eF0)) (hs56.noP (noP_then hidL_same eF0))) (jn_ok ok6 okZ) ?_ ?_ fun u hu => ?_
              · rw [jn_size]
                have : msz 1 = 3 := rfl
                have : 13 ≤ osz parts := by unfold osz; split <;> decide
                omega
              · rw [jn_deep]
                omega
              · rw [jn_fr] at hu
                rcases Bool.or_eq_true_iff.mp hu with h | h
                · simpa using f6 u h
                · exact fZ u h
        · have eI := e3
          have hpI := hp3
          have hSI := hS3
          have hsI := hs23
          have okI := ok2
          have zI : s2.size ≤ osz parts - 6 := Nat.le_trans z2 (by unfold osz; split <;> decide)
          have dI : s2.deep ≤ 4 := Nat.le_trans d2 (by decide)
          revert eI hpI hSI hsI okI zI dI
          generalize s2 = sI
          generalize a2 = aI
          generalize H3 = HI
          intro eI hpI hSI hsI okI zI dI
          have h13 : 13 ≤ osz parts := by unfold osz; split <;> decide
          walk_at "rd"
          refine ⟨p, c, rfl, hpI, fun bq HQ e'Q hpQ => ?_⟩
          have eQ : Same (noP p c H) HQ := noP_trans eI e'Q
          have hSQ : ShapeAt (noP p c HQ) sh T := hSI.mono (hidL_into e'Q)
          have hsQ := hsI.noP e'Q
          walk_at "rd"
          refine ⟨sz (by simp), fun rq hrq => ?_⟩
          have eR0 : Same HQ (upd HQ rq (.tup [.str (if bq = true then "some" else "each"), .str v.flip.s, .ref aI])) := Same.new (Same.refl _) hrq
          have hpR := hpQ.same eR0
          have htR := noP_tup hpR (upd_same (H := HQ) (a := rq) (o := .tup [.str (if bq = true then "some" else "each"), .str v.flip.s, .ref aI]))
          have hsR : SayAt (noP p c (upd HQ rq (.tup [.str (if bq = true then "some" else "each"), .str v.flip.s, .ref aI]))) (qn bq v.flip sI) rq := say_qn htR (hsQ.noP (noP_then hidL_same eR0))
          have eR : Same (noP p c H) (upd HQ rq (.tup [.str (if bq = true then "some" else "each"), .str v.flip.s, .ref aI])) := noP_then eQ eR0
          have hSR : ShapeAt (noP p c (upd HQ rq (.tup [.str (if bq = true then "some" else "each"), .str v.flip.s, .ref aI]))) sh T := hSQ.mono (hidL_into (noP_then hidL_same eR0))
          clear htR eR0
          revert hpR hsR eR hSR
          generalize (upd HQ rq (.tup [.str (if bq = true then "some" else "each"), .str v.flip.s, .ref aI])) = HR
          intro hpR hsR eR hSR
          have okR : (qn bq v.flip sI).okT T.marks T.ties := qn_okI okI
          have zR : (qn bq v.flip sI).size ≤ 1 + (osz parts - 6) := by rw [qn_size]; omega
          have dR : (qn bq v.flip sI).deep ≤ 5 := by rw [qn_deep]; omega
          have fR : ∀ u, (qn bq v.flip sI).fr u = true → u = v := fun u hu => by
            rw [qn_fr] at hu
            exact flip_ne v u (fun z => by rw [z] at hu; simp at hu)
          revert okR zR dR fR hsR
          generalize qn bq v.flip sI = sR
          intro hsR okR zR dR fR
          walk_at "rd"
          refine ⟨p, c, 2, rfl, hpR, by decide, by decide, fun d2x H2x hd2x e'2x hp2x => ?_⟩
          have e2x : Same (noP p c H) H2x := noP_trans eR e'2x
          have hS2x : ShapeAt (noP p c H2x) sh T := hSR.mono (hidL_into e'2x)
          have hsX := hsR.noP e'2x
          walk_at "rd"
          refine iteS (fun hdz => ?_) (fun hdz => ?_)
          · walk_at "rd"
            exact q rq sR H2x e2x hp2x hsX okR (by omega) (by omega) fR
          · walk_at "rd"
            refine ⟨p, c, 4, rfl, hp2x, by decide, by decide, fun d4x H4x hd4x e'4x hp4x => ?_⟩
            have e4x : Same (noP p c H) H4x := noP_trans e2x e'4x
            have hS4x : ShapeAt (noP p c H4x) sh T := hS2x.mono (hidL_into e'4x)
            have hsY := hsX.noP e'4x
            walk_at "rd"
            refine iteS (fun hd4 => ?_) (fun hd4 => ?_)
            · walk_at "rd"
              refine ⟨sz (by simp), fun rn hrn => ?_⟩
              have eN0 : Same H4x (upd H4x rn (.tup [.str "not", .ref rq])) := Same.new (Same.refl _) hrn
              have hpZ := hp4x.same eN0
              have hsZ : SayAt (noP p c (upd H4x rn (.tup [.str "not", .ref rq]))) (.not sR) rn := ⟨rq, noP_tup hpZ upd_same, hsY.noP (noP_then hidL_same eN0)⟩
              have eZ : Same (noP p c H) (upd H4x rn (.tup [.str "not", .ref rq])) := noP_then e4x eN0
              have hSZ : ShapeAt (noP p c (upd H4x rn (.tup [.str "not", .ref rq]))) sh T := hS4x.mono (hidL_into (noP_then hidL_same eN0))
              clear eN0
              revert hpZ hsZ eZ hSZ
              generalize (upd H4x rn (.tup [.str "not", .ref rq])) = HZ
              intro hpZ hsZ eZ hSZ
              have zZ : (Say.not sR).size ≤ 2 + (osz parts - 6) := by show 1 + sR.size ≤ _; omega
              have dZ : (Say.not sR).deep ≤ 6 := by show 1 + sR.deep ≤ _; omega
              have okZ : (Say.not sR).okT T.marks T.ties := okR
              have fZ : ∀ u, (Say.not sR).fr u = true → u = v := fR
              revert zZ dZ okZ fZ hsZ
              generalize Say.not sR = sZ
              generalize rn = aZ
              intro hsZ zZ dZ okZ fZ
              walk_at "rd"
              refine ⟨sz (by simp), fun lj hlj => ?_⟩
              have nlj := pool_off hpZ hlj
              have eJ0 : Same HZ (upd HZ lj (.lst [.str "and", .str "or"])) := Same.new (Same.refl _) hlj
              have hpJ := hpZ.same eJ0
              have eJ : Same (noP p c H) (upd HZ lj (.lst [.str "and", .str "or"])) := noP_then eZ eJ0
              have hSJ : ShapeAt (noP p c (upd HZ lj (.lst [.str "and", .str "or"]))) sh T := hSZ.mono (hidL_into (noP_then hidL_same eJ0))
              have hsJ := hsZ.noP (noP_then hidL_same eJ0)
              walk_at "rd"
              refine ⟨p, c, 2, rfl, hpJ, by decide, by decide, fun dj H5 hdj e'5 hp5 => ?_⟩
              have e5 : Same (noP p c H) H5 := noP_trans eJ e'5
              have hS5 : ShapeAt (noP p c H5) sh T := hSJ.mono (hidL_into e'5)
              have hl5 : H5 lj = some (.lst [.str "and", .str "or"]) := e'5 _ _ (by rw [noP_ne nlj.1 nlj.2, upd_same])
              have hs5 := hsJ.noP e'5
              obtain ⟨bj, hbj⟩ := jn_at hdj
              refine ⟨_, _, _, .str (if bj = true then "and" else "or"), rfl, rfl, SqL.of hl5, atI_nat hbj, ?_⟩
              walk_at "rd"
              refine ⟨sz (by simp), fun l6 hl6 => ?_⟩
              have nl6 := pool_off hp5 hl6
              have eL6 : Same H5 (upd H5 l6 (.lst [.str v.s])) := Same.new (Same.refl _) hl6
              have hpL6 := hp5.same eL6
              walk_at "rd"
              refine ⟨noP p c (upd H5 l6 (.lst [.str v.s])), p, c, sh, l6, T, [v], rfl, hidL_same, noP_p, noP_c, hpL6, hS5.mono (hidL_into (noP_then hidL_same eL6)), okT, by rw [noP_ne nl6.1 nl6.2, upd_same]; rfl, by simp, by simp, fun a6 s6 H6 e'6 hp6 hs6 ok6 z6 d6 f6 => ?_⟩
              have e''6 : Same (noP p c H5) H6 := noP_step eL6 e'6
              have e6 : Same (noP p c H) H6 := noP_trans e5 e''6
              have hS6 : ShapeAt (noP p c H6) sh T := hS5.mono (hidL_into e''6)
              have hs56 := hs5.noP e''6
              walk_at "rd"
              refine ⟨sz (by simp), fun rf hrf => ?_⟩
              have eF0 : Same H6 (upd H6 rf (.tup [.str (if bj = true then "and" else "or"), .ref a6, .ref aZ])) := Same.new (Same.refl _) hrf
              have hpF := hp6.same eF0
              refine q rf (jn bj s6 sZ) _ (noP_then e6 eF0) hpF (say_jn (noP_tup hpF upd_same) (hs6.noP (noP_then hidL_same eF0)) (hs56.noP (noP_then hidL_same eF0))) (jn_ok ok6 okZ) ?_ ?_ fun u hu => ?_
              · rw [jn_size]
                have : msz 1 = 3 := rfl
                have : 13 ≤ osz parts := by unfold osz; split <;> decide
                omega
              · rw [jn_deep]
                omega
              · rw [jn_fr] at hu
                rcases Bool.or_eq_true_iff.mp hu with h | h
                · simpa using f6 u h
                · exact fZ u h
            · have hpZ := hp4x
              have hsZ := hsY
              have eZ := e4x
              have hSZ := hS4x
              have zZ : sR.size ≤ 2 + (osz parts - 6) := by omega
              have dZ : sR.deep ≤ 6 := by omega
              have okZ := okR
              have fZ := fR
              revert hpZ hsZ eZ hSZ zZ dZ okZ fZ
              generalize sR = sZ
              generalize rq = aZ
              generalize H4x = HZ
              intro hpZ hsZ eZ hSZ zZ dZ okZ fZ
              walk_at "rd"
              refine ⟨sz (by simp), fun lj hlj => ?_⟩
              have nlj := pool_off hpZ hlj
              have eJ0 : Same HZ (upd HZ lj (.lst [.str "and", .str "or"])) := Same.new (Same.refl _) hlj
              have hpJ := hpZ.same eJ0
              have eJ : Same (noP p c H) (upd HZ lj (.lst [.str "and", .str "or"])) := noP_then eZ eJ0
              have hSJ : ShapeAt (noP p c (upd HZ lj (.lst [.str "and", .str "or"]))) sh T := hSZ.mono (hidL_into (noP_then hidL_same eJ0))
              have hsJ := hsZ.noP (noP_then hidL_same eJ0)
              walk_at "rd"
              refine ⟨p, c, 2, rfl, hpJ, by decide, by decide, fun dj H5 hdj e'5 hp5 => ?_⟩
              have e5 : Same (noP p c H) H5 := noP_trans eJ e'5
              have hS5 : ShapeAt (noP p c H5) sh T := hSJ.mono (hidL_into e'5)
              have hl5 : H5 lj = some (.lst [.str "and", .str "or"]) := e'5 _ _ (by rw [noP_ne nlj.1 nlj.2, upd_same])
              have hs5 := hsJ.noP e'5
              obtain ⟨bj, hbj⟩ := jn_at hdj
              refine ⟨_, _, _, .str (if bj = true then "and" else "or"), rfl, rfl, SqL.of hl5, atI_nat hbj, ?_⟩
              walk_at "rd"
              refine ⟨sz (by simp), fun l6 hl6 => ?_⟩
              have nl6 := pool_off hp5 hl6
              have eL6 : Same H5 (upd H5 l6 (.lst [.str v.s])) := Same.new (Same.refl _) hl6
              have hpL6 := hp5.same eL6
              walk_at "rd"
              refine ⟨noP p c (upd H5 l6 (.lst [.str v.s])), p, c, sh, l6, T, [v], rfl, hidL_same, noP_p, noP_c, hpL6, hS5.mono (hidL_into (noP_then hidL_same eL6)), okT, by rw [noP_ne nl6.1 nl6.2, upd_same]; rfl, by simp, by simp, fun a6 s6 H6 e'6 hp6 hs6 ok6 z6 d6 f6 => ?_⟩
              have e''6 : Same (noP p c H5) H6 := noP_step eL6 e'6
              have e6 : Same (noP p c H) H6 := noP_trans e5 e''6
              have hS6 : ShapeAt (noP p c H6) sh T := hS5.mono (hidL_into e''6)
              have hs56 := hs5.noP e''6
              walk_at "rd"
              refine ⟨sz (by simp), fun rf hrf => ?_⟩
              have eF0 : Same H6 (upd H6 rf (.tup [.str (if bj = true then "and" else "or"), .ref a6, .ref aZ])) := Same.new (Same.refl _) hrf
              have hpF := hp6.same eF0
              refine q rf (jn bj s6 sZ) _ (noP_then e6 eF0) hpF (say_jn (noP_tup hpF upd_same) (hs6.noP (noP_then hidL_same eF0)) (hs56.noP (noP_then hidL_same eF0))) (jn_ok ok6 okZ) ?_ ?_ fun u hu => ?_
              · rw [jn_size]
                have : msz 1 = 3 := rfl
                have : 13 ≤ osz parts := by unfold osz; split <;> decide
                omega
              · rw [jn_deep]
                omega
              · rw [jn_fr] at hu
                rcases Bool.or_eq_true_iff.mp hu with h | h
                · simpa using f6 u h
                · exact fZ u h
      · have eI := e2
        have hpI := hp2
        have hSI := hS2
        have hsI := hs2
        have okI := ok2
        have zI : s2.size ≤ osz parts - 6 := Nat.le_trans z2 (by unfold osz; split <;> decide)
        have dI : s2.deep ≤ 4 := Nat.le_trans d2 (by decide)
        revert eI hpI hSI hsI okI zI dI
        generalize s2 = sI
        generalize a2 = aI
        generalize H2 = HI
        intro eI hpI hSI hsI okI zI dI
        have h13 : 13 ≤ osz parts := by unfold osz; split <;> decide
        walk_at "rd"
        refine ⟨p, c, rfl, hpI, fun bq HQ e'Q hpQ => ?_⟩
        have eQ : Same (noP p c H) HQ := noP_trans eI e'Q
        have hSQ : ShapeAt (noP p c HQ) sh T := hSI.mono (hidL_into e'Q)
        have hsQ := hsI.noP e'Q
        walk_at "rd"
        refine ⟨sz (by simp), fun rq hrq => ?_⟩
        have eR0 : Same HQ (upd HQ rq (.tup [.str (if bq = true then "some" else "each"), .str v.flip.s, .ref aI])) := Same.new (Same.refl _) hrq
        have hpR := hpQ.same eR0
        have htR := noP_tup hpR (upd_same (H := HQ) (a := rq) (o := .tup [.str (if bq = true then "some" else "each"), .str v.flip.s, .ref aI]))
        have hsR : SayAt (noP p c (upd HQ rq (.tup [.str (if bq = true then "some" else "each"), .str v.flip.s, .ref aI]))) (qn bq v.flip sI) rq := say_qn htR (hsQ.noP (noP_then hidL_same eR0))
        have eR : Same (noP p c H) (upd HQ rq (.tup [.str (if bq = true then "some" else "each"), .str v.flip.s, .ref aI])) := noP_then eQ eR0
        have hSR : ShapeAt (noP p c (upd HQ rq (.tup [.str (if bq = true then "some" else "each"), .str v.flip.s, .ref aI]))) sh T := hSQ.mono (hidL_into (noP_then hidL_same eR0))
        clear htR eR0
        revert hpR hsR eR hSR
        generalize (upd HQ rq (.tup [.str (if bq = true then "some" else "each"), .str v.flip.s, .ref aI])) = HR
        intro hpR hsR eR hSR
        have okR : (qn bq v.flip sI).okT T.marks T.ties := qn_okI okI
        have zR : (qn bq v.flip sI).size ≤ 1 + (osz parts - 6) := by rw [qn_size]; omega
        have dR : (qn bq v.flip sI).deep ≤ 5 := by rw [qn_deep]; omega
        have fR : ∀ u, (qn bq v.flip sI).fr u = true → u = v := fun u hu => by
          rw [qn_fr] at hu
          exact flip_ne v u (fun z => by rw [z] at hu; simp at hu)
        revert okR zR dR fR hsR
        generalize qn bq v.flip sI = sR
        intro hsR okR zR dR fR
        walk_at "rd"
        refine ⟨p, c, 2, rfl, hpR, by decide, by decide, fun d2x H2x hd2x e'2x hp2x => ?_⟩
        have e2x : Same (noP p c H) H2x := noP_trans eR e'2x
        have hS2x : ShapeAt (noP p c H2x) sh T := hSR.mono (hidL_into e'2x)
        have hsX := hsR.noP e'2x
        walk_at "rd"
        refine iteS (fun hdz => ?_) (fun hdz => ?_)
        · walk_at "rd"
          exact q rq sR H2x e2x hp2x hsX okR (by omega) (by omega) fR
        · walk_at "rd"
          refine ⟨p, c, 4, rfl, hp2x, by decide, by decide, fun d4x H4x hd4x e'4x hp4x => ?_⟩
          have e4x : Same (noP p c H) H4x := noP_trans e2x e'4x
          have hS4x : ShapeAt (noP p c H4x) sh T := hS2x.mono (hidL_into e'4x)
          have hsY := hsX.noP e'4x
          walk_at "rd"
          refine iteS (fun hd4 => ?_) (fun hd4 => ?_)
          · walk_at "rd"
            refine ⟨sz (by simp), fun rn hrn => ?_⟩
            have eN0 : Same H4x (upd H4x rn (.tup [.str "not", .ref rq])) := Same.new (Same.refl _) hrn
            have hpZ := hp4x.same eN0
            have hsZ : SayAt (noP p c (upd H4x rn (.tup [.str "not", .ref rq]))) (.not sR) rn := ⟨rq, noP_tup hpZ upd_same, hsY.noP (noP_then hidL_same eN0)⟩
            have eZ : Same (noP p c H) (upd H4x rn (.tup [.str "not", .ref rq])) := noP_then e4x eN0
            have hSZ : ShapeAt (noP p c (upd H4x rn (.tup [.str "not", .ref rq]))) sh T := hS4x.mono (hidL_into (noP_then hidL_same eN0))
            clear eN0
            revert hpZ hsZ eZ hSZ
            generalize (upd H4x rn (.tup [.str "not", .ref rq])) = HZ
            intro hpZ hsZ eZ hSZ
            have zZ : (Say.not sR).size ≤ 2 + (osz parts - 6) := by show 1 + sR.size ≤ _; omega
            have dZ : (Say.not sR).deep ≤ 6 := by show 1 + sR.deep ≤ _; omega
            have okZ : (Say.not sR).okT T.marks T.ties := okR
            have fZ : ∀ u, (Say.not sR).fr u = true → u = v := fR
            revert zZ dZ okZ fZ hsZ
            generalize Say.not sR = sZ
            generalize rn = aZ
            intro hsZ zZ dZ okZ fZ
            walk_at "rd"
            refine ⟨sz (by simp), fun lj hlj => ?_⟩
            have nlj := pool_off hpZ hlj
            have eJ0 : Same HZ (upd HZ lj (.lst [.str "and", .str "or"])) := Same.new (Same.refl _) hlj
            have hpJ := hpZ.same eJ0
            have eJ : Same (noP p c H) (upd HZ lj (.lst [.str "and", .str "or"])) := noP_then eZ eJ0
            have hSJ : ShapeAt (noP p c (upd HZ lj (.lst [.str "and", .str "or"]))) sh T := hSZ.mono (hidL_into (noP_then hidL_same eJ0))
            have hsJ := hsZ.noP (noP_then hidL_same eJ0)
            walk_at "rd"
            refine ⟨p, c, 2, rfl, hpJ, by decide, by decide, fun dj H5 hdj e'5 hp5 => ?_⟩
            have e5 : Same (noP p c H) H5 := noP_trans eJ e'5
            have hS5 : ShapeAt (noP p c H5) sh T := hSJ.mono (hidL_into e'5)
            have hl5 : H5 lj = some (.lst [.str "and", .str "or"]) := e'5 _ _ (by rw [noP_ne nlj.1 nlj.2, upd_same])
            have hs5 := hsJ.noP e'5
            obtain ⟨bj, hbj⟩ := jn_at hdj
            refine ⟨_, _, _, .str (if bj = true then "and" else "or"), rfl, rfl, SqL.of hl5, atI_nat hbj, ?_⟩
            walk_at "rd"
            refine ⟨sz (by simp), fun l6 hl6 => ?_⟩
            have nl6 := pool_off hp5 hl6
            have eL6 : Same H5 (upd H5 l6 (.lst [.str v.s])) := Same.new (Same.refl _) hl6
            have hpL6 := hp5.same eL6
            walk_at "rd"
            refine ⟨noP p c (upd H5 l6 (.lst [.str v.s])), p, c, sh, l6, T, [v], rfl, hidL_same, noP_p, noP_c, hpL6, hS5.mono (hidL_into (noP_then hidL_same eL6)), okT, by rw [noP_ne nl6.1 nl6.2, upd_same]; rfl, by simp, by simp, fun a6 s6 H6 e'6 hp6 hs6 ok6 z6 d6 f6 => ?_⟩
            have e''6 : Same (noP p c H5) H6 := noP_step eL6 e'6
            have e6 : Same (noP p c H) H6 := noP_trans e5 e''6
            have hS6 : ShapeAt (noP p c H6) sh T := hS5.mono (hidL_into e''6)
            have hs56 := hs5.noP e''6
            walk_at "rd"
            refine ⟨sz (by simp), fun rf hrf => ?_⟩
            have eF0 : Same H6 (upd H6 rf (.tup [.str (if bj = true then "and" else "or"), .ref a6, .ref aZ])) := Same.new (Same.refl _) hrf
            have hpF := hp6.same eF0
            refine q rf (jn bj s6 sZ) _ (noP_then e6 eF0) hpF (say_jn (noP_tup hpF upd_same) (hs6.noP (noP_then hidL_same eF0)) (hs56.noP (noP_then hidL_same eF0))) (jn_ok ok6 okZ) ?_ ?_ fun u hu => ?_
            · rw [jn_size]
              have : msz 1 = 3 := rfl
              have : 13 ≤ osz parts := by unfold osz; split <;> decide
              omega
            · rw [jn_deep]
              omega
            · rw [jn_fr] at hu
              rcases Bool.or_eq_true_iff.mp hu with h | h
              · simpa using f6 u h
              · exact fZ u h
          · have hpZ := hp4x
            have hsZ := hsY
            have eZ := e4x
            have hSZ := hS4x
            have zZ : sR.size ≤ 2 + (osz parts - 6) := by omega
            have dZ : sR.deep ≤ 6 := by omega
            have okZ := okR
            have fZ := fR
            revert hpZ hsZ eZ hSZ zZ dZ okZ fZ
            generalize sR = sZ
            generalize rq = aZ
            generalize H4x = HZ
            intro hpZ hsZ eZ hSZ zZ dZ okZ fZ
            walk_at "rd"
            refine ⟨sz (by simp), fun lj hlj => ?_⟩
            have nlj := pool_off hpZ hlj
            have eJ0 : Same HZ (upd HZ lj (.lst [.str "and", .str "or"])) := Same.new (Same.refl _) hlj
            have hpJ := hpZ.same eJ0
            have eJ : Same (noP p c H) (upd HZ lj (.lst [.str "and", .str "or"])) := noP_then eZ eJ0
            have hSJ : ShapeAt (noP p c (upd HZ lj (.lst [.str "and", .str "or"]))) sh T := hSZ.mono (hidL_into (noP_then hidL_same eJ0))
            have hsJ := hsZ.noP (noP_then hidL_same eJ0)
            walk_at "rd"
            refine ⟨p, c, 2, rfl, hpJ, by decide, by decide, fun dj H5 hdj e'5 hp5 => ?_⟩
            have e5 : Same (noP p c H) H5 := noP_trans eJ e'5
            have hS5 : ShapeAt (noP p c H5) sh T := hSJ.mono (hidL_into e'5)
            have hl5 : H5 lj = some (.lst [.str "and", .str "or"]) := e'5 _ _ (by rw [noP_ne nlj.1 nlj.2, upd_same])
            have hs5 := hsJ.noP e'5
            obtain ⟨bj, hbj⟩ := jn_at hdj
            refine ⟨_, _, _, .str (if bj = true then "and" else "or"), rfl, rfl, SqL.of hl5, atI_nat hbj, ?_⟩
            walk_at "rd"
            refine ⟨sz (by simp), fun l6 hl6 => ?_⟩
            have nl6 := pool_off hp5 hl6
            have eL6 : Same H5 (upd H5 l6 (.lst [.str v.s])) := Same.new (Same.refl _) hl6
            have hpL6 := hp5.same eL6
            walk_at "rd"
            refine ⟨noP p c (upd H5 l6 (.lst [.str v.s])), p, c, sh, l6, T, [v], rfl, hidL_same, noP_p, noP_c, hpL6, hS5.mono (hidL_into (noP_then hidL_same eL6)), okT, by rw [noP_ne nl6.1 nl6.2, upd_same]; rfl, by simp, by simp, fun a6 s6 H6 e'6 hp6 hs6 ok6 z6 d6 f6 => ?_⟩
            have e''6 : Same (noP p c H5) H6 := noP_step eL6 e'6
            have e6 : Same (noP p c H) H6 := noP_trans e5 e''6
            have hS6 : ShapeAt (noP p c H6) sh T := hS5.mono (hidL_into e''6)
            have hs56 := hs5.noP e''6
            walk_at "rd"
            refine ⟨sz (by simp), fun rf hrf => ?_⟩
            have eF0 : Same H6 (upd H6 rf (.tup [.str (if bj = true then "and" else "or"), .ref a6, .ref aZ])) := Same.new (Same.refl _) hrf
            have hpF := hp6.same eF0
            refine q rf (jn bj s6 sZ) _ (noP_then e6 eF0) hpF (say_jn (noP_tup hpF upd_same) (hs6.noP (noP_then hidL_same eF0)) (hs56.noP (noP_then hidL_same eF0))) (jn_ok ok6 okZ) ?_ ?_ fun u hu => ?_
            · rw [jn_size]
              have : msz 1 = 3 := rfl
              have : 13 ≤ osz parts := by unfold osz; split <;> decide
              omega
            · rw [jn_deep]
              omega
            · rw [jn_fr] at hu
              rcases Bool.or_eq_true_iff.mp hu with h | h
              · simpa using f6 u h
              · exact fZ u h
end
end K48
namespace K48
open PySem PySem.Spec PyProof.Rows L2
local macro_rules | `(tactic| walk_at "rd") => `(tactic| repeat (first | refine ⟨_, rfl, ?_⟩ | refine ⟨_, _, rfl, rfl, ?_⟩ | refine ⟨rfl, ?_⟩ | refine iteTk (by decide +kernel) ?_ | refine iteFk (by decide +kernel) ?_))
local macro_rules | `(tactic| walk_at "rdr") => `(tactic| repeat (first | refine ⟨_, rfl, ?_⟩ | refine ⟨_, _, rfl, rfl, ?_⟩ | refine ⟨rfl, ?_⟩ | refine iteTk (by first | decide +kernel | rfl) ?_ | refine iteFk (by first | decide +kernel | rfl) ?_))
local macro_rules | `(tactic| walk_at "tyn") => `(tactic| first | exact .int _ | exact .bl _ | exact .str _ | exact .tup (by assumption) | exact .lst (by assumption) | exact .dK (by assumption))
local macro_rules | `(tactic| walk_at "isT") => `(tactic| refine ⟨_, _, _, _, true, rfl, .ty _, TyN.x (by walk_at "tyn"), kit_ty (by decide +kernel), ?_⟩)
local macro_rules | `(tactic| walk_at "isF") => `(tactic| refine ⟨_, _, _, _, false, rfl, .ty _, TyN.x (by walk_at "tyn"), kit_ty (by decide +kernel), ?_⟩)
local macro_rules | `(tactic| walk_at "nz") => `(tactic| first | refine nzG (by simp only [List.set_cons_succ, List.set_cons_zero]; rfl) ?_ | refine reS (by simp only [List.set_cons_succ, List.set_cons_zero]; rfl) ?_)
theorem nm_at {d : Nat} (hd : d < 2) : ∃ v : Nm, ([V.str "x", V.str "y"] : List V)[d]? = some (.str v.s) := by
  rcases (show d = 0 ∨ d = 1 by omega) with rfl | rfl
  · exact ⟨.x, rfl⟩
  · exact ⟨.y, rfl⟩
section
variable {P : Program} {w : World} {K : PySem.W.Frag} {mg : Str → Option Value} {base : Heap} {cT cW : Addr}
def spClosed (ok : Nat → Nat → Prop) (size deep : Nat → Nat) : Sp := fun vs H Q _ => ∃ (G : Hp) (p c sh : Addr) (T : Tng) (parts room : Nat), vs = [.ref p, .ref sh, .int parts, .int room] ∧ Same G H ∧ G p = none ∧ G c = none ∧ PoolAt H p c ∧ ShapeAt G sh T ∧ T.Ok ∧ ok parts room ∧
  ∀ (a : Addr) (s : Say) (H' : Hp), Same (noP p c H) H' → PoolAt H' p c → SayAt (noP p c H') s a → s.okT T.marks T.ties → s.size ≤ size parts → s.deep ≤ deep parts → s.closed → Q (.ref a) H'
abbrev spClosed0 : Sp := spClosed (fun _ room => room = 0) (fun parts => 1 + osz parts) (fun _ => 8)
abbrev spClosed1 : Sp := spClosed (fun parts room => parts = 2 ∧ room = 1) (fun _ => 29) (fun _ => 9)
theorem closed_qn {b : Bool} {v : Nm} {s : Say} (h : ∀ u, s.fr u = true → u = v) : (qn b v s).closed := by
  have key : ∀ u, (qn b v s).fr u = false := fun u => by
    rw [qn_fr]
    cases q : s.fr u with
    | false => rfl
    | true => rw [h u q]; simp
  exact ⟨key .x, key .y⟩
theorem ok_closed0 (B : Blt mg) (D : Def K mg "_law_closed" s_law_closed) (c_law_draw : CallOk P w K mg base 1 "_law_draw" P_law_draw spDraw) (c_law_quantor : CallOk P w K mg base 2 "_law_quantor" P_law_quantor spQuantor) (c_law_one : CallOk P w K mg base 6 "_law_one" P_law_one spOne) :
    CallOk P w K mg base 7 "_law_closed" P_law_closed spClosed0 := by
  have c_law_closed : CallOk P w K mg base 6 "_law_closed" P_law_closed (fun _ _ _ _ => False) := callOk_none D bd_law_closed fun _ _ _ _ h => h
  refine callOk D sc_law_closed bd_law_closed (fun vs H Q E h => ?_) (fun f cdv A outer st H vs Q E hr h => ?_)
  · obtain ⟨G, p, c, sh, T, parts, room, rfl, _⟩ := h
    rfl
  obtain ⟨G, p, c, sh, T, parts, room, rfl, eG, hGp, hGc, hp, hS, okT, rfl, q⟩ := h
  have hr1 : Room 1 _ := hr.mono (by decide)
  have hr2 : Room 2 _ := hr.mono (by decide)
  refine ⟨_, pss_cons (ps_set (i := 4) sc_law_closed.nd rfl (.inl rfl) (pe_cl c_law_draw hr1 (by rfl) (pa_cons (pv 0) (pa_cons (pe_int) pa_nil)))) (pss_cons (ps_if (PW.pt (pw_and (pt_cmpR op_eq (pv 4) (pe_int) (nomark _)) (pw_and1 (pt_cmpR op_gt (pv 3) (pe_int) (nomark _))))) (pss_one (ps_ret (pe_tup (pa_cons (pe_str) (pa_cons (pe_cl c_law_closed hr (by rfl) (pa_cons (pv 0) (pa_cons (pv 1) (pa_cons (pv 2) (pa_cons (pe_op op_sub (pv 3) (pe_int)) pa_nil))))) pa_nil))))) (pss_nil)) (pss_cons (ps_if (PW.pt (pw_and (pt_cmpR op_lt (pv 4) (pe_int) (nomark _)) (pw_and1 (pt_cmpR op_gt (pv 3) (pe_int) (nomark _))))) (pss_cons (ps_set (i := 5) sc_law_closed.nd rfl (.inl rfl) (pe_cl c_law_closed hr (by rfl) (pa_cons (pv 0) (pa_cons (pv 1) (pa_cons (pe_op op_fdiv (pv 2) (pe_int)) (pa_cons (pe_op op_sub (pv 3) (pe_int)) pa_nil)))))) (pss_one (ps_ret (pe_tup (pa_cons (pe_ix ix_list (pe_lst (pa_cons (pe_str) (pa_cons (pe_str) pa_nil))) (pe_cl c_law_draw hr1 (by rfl) (pa_cons (pv 0) (pa_cons (pe_int) pa_nil))) (fun _ _ => rfl)) (pa_cons (pv 5) (pa_cons (pe_cl c_law_closed hr (by rfl) (pa_cons (pv 0) (pa_cons (pv 1) (pa_cons (pe_op op_sub (pv 2) (pe_op op_fdiv (pv 2) (pe_int))) (pa_cons (pe_int) pa_nil))))) pa_nil))))))) (pss_nil)) (pss_cons (ps_set (i := 6) sc_law_closed.nd rfl (.inl rfl) (pe_ix ix_list (pe_lst (pa_cons (pe_str) (pa_cons (pe_str) pa_nil))) (pe_cl c_law_draw hr1 (by rfl) (pa_cons (pv 0) (pa_cons (pe_int) pa_nil))) (fun _ _ => rfl))) (pss_one (ps_ret (pe_tup (pa_cons (pe_cl c_law_quantor hr2 (by rfl) (pa_cons (pv 0) pa_nil)) (pa_cons (pv 6) (pa_cons (pe_cl c_law_one hr (by rfl) (pa_cons (pv 0) (pa_cons (pv 1) (pa_cons (pv 6) (pa_cons (pv 2) pa_nil))))) pa_nil))))))))), ?_⟩
  walk_at "rd"
  refine ⟨p, c, 7, rfl, hp, by decide, by decide, fun kd H1 hkd e1 hp1 => ?_⟩
  have hS0 : ShapeAt (noP p c H) sh T := hS.mono (noP_base eG hGp hGc)
  have hS1 : ShapeAt (noP p c H1) sh T := hS0.mono (hidL_into e1)
  walk_at "rd"
  refine iteS (fun hk => ?_) (fun hk => ?_)
  · walk_at "rd"
    refine iteS (fun hk3 => ?_) (fun hk3 => ?_)
    · walk_at "rd"
      walk_at "rd"
      refine ⟨sz (by simp), fun lx hlx => ?_⟩
      have nlx := pool_off hp1 hlx
      have eX0 : Same H1 (upd H1 lx (.lst [.str "x", .str "y"])) := Same.new (Same.refl _) hlx
      have hpX := hp1.same eX0
      walk_at "rd"
      refine ⟨p, c, 2, rfl, hpX, by decide, by decide, fun dn H2 hdn e2 hp2 => ?_⟩
      have hl2 : H2 lx = some (.lst [.str "x", .str "y"]) := e2 _ _ (by rw [noP_ne nlx.1 nlx.2, upd_same])
      have e12 : Same (noP p c H1) H2 := noP_step eX0 e2
      have hS2 : ShapeAt (noP p c H2) sh T := hS1.mono (hidL_into e12)
      obtain ⟨v, hv⟩ := nm_at hdn
      refine ⟨_, _, _, .str v.s, rfl, rfl, SqL.of hl2, atI_nat hv, ?_⟩
      walk_at "rd"
      refine ⟨p, c, rfl, hp2, fun bq H3 e3 hp3 => ?_⟩
      have hS3 : ShapeAt (noP p c H3) sh T := hS2.mono (hidL_into e3)
      walk_at "rd"
      refine ⟨noP p c H3, p, c, sh, T, v, parts, rfl, hidL_same, noP_p, noP_c, hp3, hS3, okT, fun a s H4 e4 hp4 hs ok4 z4 d4 f4 => ?_⟩
      refine ⟨sz (by simp), fun r hr => ?_⟩
      have e5 : Same H4 (upd H4 r (.tup [.str (if bq = true then "some" else "each"), .str v.s, .ref a])) := Same.new (Same.refl _) hr
      have hp5 := hp4.same e5
      refine q r (qn bq v s) _ (noP_then (noP_trans (noP_trans (noP_trans e1 e12) e3) e4) e5) hp5 (say_qn (noP_tup hp5 upd_same) (hs.noP (noP_then hidL_same e5))) (qn_okI ok4) ?_ ?_ (closed_qn f4)
      · rw [qn_size]
        show 1 + s.size ≤ 1 + osz parts
        omega
      · rw [qn_deep]
        show 1 + s.deep ≤ 8
        omega
    · walk_at "rd"
      walk_at "rd"
      refine ⟨sz (by simp), fun lx hlx => ?_⟩
      have nlx := pool_off hp1 hlx
      have eX0 : Same H1 (upd H1 lx (.lst [.str "x", .str "y"])) := Same.new (Same.refl _) hlx
      have hpX := hp1.same eX0
      walk_at "rd"
      refine ⟨p, c, 2, rfl, hpX, by decide, by decide, fun dn H2 hdn e2 hp2 => ?_⟩
      have hl2 : H2 lx = some (.lst [.str "x", .str "y"]) := e2 _ _ (by rw [noP_ne nlx.1 nlx.2, upd_same])
      have e12 : Same (noP p c H1) H2 := noP_step eX0 e2
      have hS2 : ShapeAt (noP p c H2) sh T := hS1.mono (hidL_into e12)
      obtain ⟨v, hv⟩ := nm_at hdn
      refine ⟨_, _, _, .str v.s, rfl, rfl, SqL.of hl2, atI_nat hv, ?_⟩
      walk_at "rd"
      refine ⟨p, c, rfl, hp2, fun bq H3 e3 hp3 => ?_⟩
      have hS3 : ShapeAt (noP p c H3) sh T := hS2.mono (hidL_into e3)
      walk_at "rd"
      refine ⟨noP p c H3, p, c, sh, T, v, parts, rfl, hidL_same, noP_p, noP_c, hp3, hS3, okT, fun a s H4 e4 hp4 hs ok4 z4 d4 f4 => ?_⟩
      refine ⟨sz (by simp), fun r hr => ?_⟩
      have e5 : Same H4 (upd H4 r (.tup [.str (if bq = true then "some" else "each"), .str v.s, .ref a])) := Same.new (Same.refl _) hr
      have hp5 := hp4.same e5
      refine q r (qn bq v s) _ (noP_then (noP_trans (noP_trans (noP_trans e1 e12) e3) e4) e5) hp5 (say_qn (noP_tup hp5 upd_same) (hs.noP (noP_then hidL_same e5))) (qn_okI ok4) ?_ ?_ (closed_qn f4)
      · rw [qn_size]
        show 1 + s.size ≤ 1 + osz parts
        omega
      · rw [qn_deep]
        show 1 + s.deep ≤ 8
        omega
  · walk_at "rd"
    refine iteS (fun hk3 => ?_) (fun hk3 => ?_)
    · walk_at "rd"
      walk_at "rd"
      refine ⟨sz (by simp), fun lx hlx => ?_⟩
      have nlx := pool_off hp1 hlx
      have eX0 : Same H1 (upd H1 lx (.lst [.str "x", .str "y"])) := Same.new (Same.refl _) hlx
      have hpX := hp1.same eX0
      walk_at "rd"
      refine ⟨p, c, 2, rfl, hpX, by decide, by decide, fun dn H2 hdn e2 hp2 => ?_⟩
      have hl2 : H2 lx = some (.lst [.str "x", .str "y"]) := e2 _ _ (by rw [noP_ne nlx.1 nlx.2, upd_same])
      have e12 : Same (noP p c H1) H2 := noP_step eX0 e2
      have hS2 : ShapeAt (noP p c H2) sh T := hS1.mono (hidL_into e12)
      obtain ⟨v, hv⟩ := nm_at hdn
      refine ⟨_, _, _, .str v.s, rfl, rfl, SqL.of hl2, atI_nat hv, ?_⟩
      walk_at "rd"
      refine ⟨p, c, rfl, hp2, fun bq H3 e3 hp3 => ?_⟩
      have hS3 : ShapeAt (noP p c H3) sh T := hS2.mono (hidL_into e3)
      walk_at "rd"
      refine ⟨noP p c H3, p, c, sh, T, v, parts, rfl, hidL_same, noP_p, noP_c, hp3, hS3, okT, fun a s H4 e4 hp4 hs ok4 z4 d4 f4 => ?_⟩
      refine ⟨sz (by simp), fun r hr => ?_⟩
      have e5 : Same H4 (upd H4 r (.tup [.str (if bq = true then "some" else "each"), .str v.s, .ref a])) := Same.new (Same.refl _) hr
      have hp5 := hp4.same e5
      refine q r (qn bq v s) _ (noP_then (noP_trans (noP_trans (noP_trans e1 e12) e3) e4) e5) hp5 (say_qn (noP_tup hp5 upd_same) (hs.noP (noP_then hidL_same e5))) (qn_okI ok4) ?_ ?_ (closed_qn f4)
      · rw [qn_size]
        show 1 + s.size ≤ 1 + osz parts
        omega
      · rw [qn_deep]
        show 1 + s.deep ≤ 8
        omega
    · walk_at "rd"
      walk_at "rd"
      refine ⟨sz (by simp), fun lx hlx => ?_⟩
      have nlx := pool_off hp1 hlx
      have eX0 : Same H1 (upd H1 lx (.lst [.str "x", .str "y"])) := Same.new (Same.refl _) hlx
      have hpX := hp1.same eX0
      walk_at "rd"
      refine ⟨p, c, 2, rfl, hpX, by decide, by decide, fun dn H2 hdn e2 hp2 => ?_⟩
      have hl2 : H2 lx = some (.lst [.str "x", .str "y"]) := e2 _ _ (by rw [noP_ne nlx.1 nlx.2, upd_same])
      have e12 : Same (noP p c H1) H2 := noP_step eX0 e2
      have hS2 : ShapeAt (noP p c H2) sh T := hS1.mono (hidL_into e12)
      obtain ⟨v, hv⟩ := nm_at hdn
      refine ⟨_, _, _, .str v.s, rfl, rfl, SqL.of hl2, atI_nat hv, ?_⟩
      walk_at "rd"
      refine ⟨p, c, rfl, hp2, fun bq H3 e3 hp3 => ?_⟩
      have hS3 : ShapeAt (noP p c H3) sh T := hS2.mono (hidL_into e3)
      walk_at "rd"
      refine ⟨noP p c H3, p, c, sh, T, v, parts, rfl, hidL_same, noP_p, noP_c, hp3, hS3, okT, fun a s H4 e4 hp4 hs ok4 z4 d4 f4 => ?_⟩
      refine ⟨sz (by simp), fun r hr => ?_⟩
      have e5 : Same H4 (upd H4 r (.tup [.str (if bq = true then "some" else "each"), .str v.s, .ref a])) := Same.new (Same.refl _) hr
      have hp5 := hp4.same e5
      refine q r (qn bq v s) _ (noP_then (noP_trans (noP_trans (noP_trans e1 e12) e3) e4) e5) hp5 (say_qn (noP_tup hp5 upd_same) (hs.noP (noP_then hidL_same e5))) (qn_okI ok4) ?_ ?_ (closed_qn f4)
      · rw [qn_size]
        show 1 + s.size ≤ 1 + osz parts
        omega
      · rw [qn_deep]
        show 1 + s.deep ≤ 8
        omega
theorem ok_closed1 (B : Blt mg) (D : Def K mg "_law_closed" s_law_closed) (c_law_draw : CallOk P w K mg base 1 "_law_draw" P_law_draw spDraw) (c_law_quantor : CallOk P w K mg base 2 "_law_quantor" P_law_quantor spQuantor) (c_law_one : CallOk P w K mg base 6 "_law_one" P_law_one spOne) (c_law_closed : CallOk P w K mg base 7 "_law_closed" P_law_closed spClosed0) :
    CallOk P w K mg base 8 "_law_closed" P_law_closed spClosed1 := by
  refine callOk D sc_law_closed bd_law_closed (fun vs H Q E h => ?_) (fun f cdv A outer st H vs Q E hr h => ?_)
  · obtain ⟨G, p, c, sh, T, parts, room, rfl, _⟩ := h
    rfl
  obtain ⟨G, p, c, sh, T, parts, room, rfl, eG, hGp, hGc, hp, hS, okT, ⟨rfl, rfl⟩, q⟩ := h
  have hr1 : Room 1 _ := hr.mono (by decide)
  have hr2 : Room 2 _ := hr.mono (by decide)
  have hr6 : Room 6 _ := hr.mono (by decide)
  refine ⟨_, pss_cons (ps_set (i := 4) sc_law_closed.nd rfl (.inl rfl) (pe_cl c_law_draw hr1 (by rfl) (pa_cons (pv 0) (pa_cons (pe_int) pa_nil)))) (pss_cons (ps_if (PW.pt (pw_and (pt_cmpR op_eq (pv 4) (pe_int) (nomark _)) (pw_and1 (pt_cmpR op_gt (pv 3) (pe_int) (nomark _))))) (pss_one (ps_ret (pe_tup (pa_cons (pe_str) (pa_cons (pe_cl c_law_closed hr (by rfl) (pa_cons (pv 0) (pa_cons (pv 1) (pa_cons (pv 2) (pa_cons (pe_op op_sub (pv 3) (pe_int)) pa_nil))))) pa_nil))))) (pss_nil)) (pss_cons (ps_if (PW.pt (pw_and (pt_cmpR op_lt (pv 4) (pe_int) (nomark _)) (pw_and1 (pt_cmpR op_gt (pv 3) (pe_int) (nomark _))))) (pss_cons (ps_set (i := 5) sc_law_closed.nd rfl (.inl rfl) (pe_cl c_law_closed hr (by rfl) (pa_cons (pv 0) (pa_cons (pv 1) (pa_cons (pe_op op_fdiv (pv 2) (pe_int)) (pa_cons (pe_op op_sub (pv 3) (pe_int)) pa_nil)))))) (pss_one (ps_ret (pe_tup (pa_cons (pe_ix ix_list (pe_lst (pa_cons (pe_str) (pa_cons (pe_str) pa_nil))) (pe_cl c_law_draw hr1 (by rfl) (pa_cons (pv 0) (pa_cons (pe_int) pa_nil))) (fun _ _ => rfl)) (pa_cons (pv 5) (pa_cons (pe_cl c_law_closed hr (by rfl) (pa_cons (pv 0) (pa_cons (pv 1) (pa_cons (pe_op op_sub (pv 2) (pe_op op_fdiv (pv 2) (pe_int))) (pa_cons (pe_int) pa_nil))))) pa_nil))))))) (pss_nil)) (pss_cons (ps_set (i := 6) sc_law_closed.nd rfl (.inl rfl) (pe_ix ix_list (pe_lst (pa_cons (pe_str) (pa_cons (pe_str) pa_nil))) (pe_cl c_law_draw hr1 (by rfl) (pa_cons (pv 0) (pa_cons (pe_int) pa_nil))) (fun _ _ => rfl))) (pss_one (ps_ret (pe_tup (pa_cons (pe_cl c_law_quantor hr2 (by rfl) (pa_cons (pv 0) pa_nil)) (pa_cons (pv 6) (pa_cons (pe_cl c_law_one hr6 (by rfl) (pa_cons (pv 0) (pa_cons (pv 1) (pa_cons (pv 6) (pa_cons (pv 2) pa_nil))))) pa_nil))))))))), ?_⟩
  walk_at "rd"
  refine ⟨p, c, 7, rfl, hp, by decide, by decide, fun kd H1 hkd e1 hp1 => ?_⟩
  have hS0 : ShapeAt (noP p c H) sh T := hS.mono (noP_base eG hGp hGc)
  have hS1 : ShapeAt (noP p c H1) sh T := hS0.mono (hidL_into e1)
  walk_at "rd"
  refine iteS (fun hk => ?_) (fun hk => ?_)
  · walk_at "rd"
    refine ⟨noP p c H1, p, c, sh, T, 2, 0, rfl, hidL_same, noP_p, noP_c, hp1, hS1, okT, rfl, fun a s H2 e2 hp2 hs ok2 z2 d2 c2 => ?_⟩
    refine ⟨sz (by simp), fun r hr => ?_⟩
    have e3 : Same H2 (upd H2 r (.tup [.str "not", .ref a])) := Same.new (Same.refl _) hr
    have hp3 := hp2.same e3
    refine q r (.not s) _ (noP_then (noP_trans e1 e2) e3) hp3 ⟨a, noP_tup hp3 upd_same, hs.noP (noP_then hidL_same e3)⟩ ok2 ?_ ?_ c2
    · have : osz 2 = 18 := rfl
      have z2 : s.size ≤ 1 + osz 2 := z2
      show 1 + s.size ≤ 29
      omega
    · have d2 : s.deep ≤ 8 := d2
      show 1 + s.deep ≤ 9
      omega
  · walk_at "rd"
    refine iteS (fun hk3 => ?_) (fun hk3 => ?_)
    · walk_at "rd"
      refine ⟨⟨by decide, by decide⟩, ?_⟩
      walk_at "rd"
      refine ⟨noP p c H1, p, c, sh, T, 1, 0, rfl, hidL_same, noP_p, noP_c, hp1, hS1, okT, rfl, fun a s H2 e2 hp2 hs ok2 z2 d2 c2 => ?_⟩
      have hS2 : ShapeAt (noP p c H2) sh T := hS1.mono (hidL_into e2)
      walk_at "rd"
      refine ⟨sz (by simp), fun lx hlx => ?_⟩
      have nlx := pool_off hp2 hlx
      have eX0 : Same H2 (upd H2 lx (.lst [.str "and", .str "or"])) := Same.new (Same.refl _) hlx
      have hpX := hp2.same eX0
      walk_at "rd"
      refine ⟨p, c, 2, rfl, hpX, by decide, by decide, fun dn H3 hdn e3 hp3 => ?_⟩
      have hl3 : H3 lx = some (.lst [.str "and", .str "or"]) := e3 _ _ (by rw [noP_ne nlx.1 nlx.2, upd_same])
      have e23 : Same (noP p c H2) H3 := noP_step eX0 e3
      have hS3 : ShapeAt (noP p c H3) sh T := hS2.mono (hidL_into e23)
      have hs3 := hs.noP e23
      obtain ⟨bj, hbj⟩ := jn_at hdn
      refine ⟨_, _, _, .str (if bj = true then "and" else "or"), rfl, rfl, SqL.of hl3, atI_nat hbj, ?_⟩
      walk_at "rd"
      refine ⟨⟨by decide, by decide⟩, ?_⟩
      walk_at "rd"
      refine ⟨noP p c H3, p, c, sh, T, 1, 0, rfl, hidL_same, noP_p, noP_c, hp3, hS3, okT, rfl, fun a2 s2 H4 e4 hp4 hs4 ok4 z4 d4 c4 => ?_⟩
      have hs5 := hs3.noP e4
      refine ⟨sz (by simp), fun r hr => ?_⟩
      have e5 : Same H4 (upd H4 r (.tup [.str (if bj = true then "and" else "or"), .ref a, .ref a2])) := Same.new (Same.refl _) hr
      have hp5 := hp4.same e5
      refine q r (jn bj s s2) _ (noP_then (noP_trans (noP_trans (noP_trans e1 e2) e23) e4) e5) hp5 (say_jn (noP_tup hp5 upd_same) (hs5.noP (noP_then hidL_same e5)) (hs4.noP (noP_then hidL_same e5))) (jn_ok ok2 ok4) ?_ ?_ ⟨by rw [jn_fr, c2.1, c4.1]; rfl, by rw [jn_fr, c2.2, c4.2]; rfl⟩
      · have : osz 1 = 13 := rfl
        have z2 : s.size ≤ 1 + osz 1 := z2
        have z4 : s2.size ≤ 1 + osz 1 := z4
        rw [jn_size]
        show 1 + (s.size + s2.size) ≤ 29
        omega
      · have d2 : s.deep ≤ 8 := d2
        have d4 : s2.deep ≤ 8 := d4
        rw [jn_deep]
        show 1 + max s.deep s2.deep ≤ 9
        omega
    · walk_at "rd"
      walk_at "rd"
      refine ⟨sz (by simp), fun lx hlx => ?_⟩
      have nlx := pool_off hp1 hlx
      have eX0 : Same H1 (upd H1 lx (.lst [.str "x", .str "y"])) := Same.new (Same.refl _) hlx
      have hpX := hp1.same eX0
      walk_at "rd"
      refine ⟨p, c, 2, rfl, hpX, by decide, by decide, fun dn H2 hdn e2 hp2 => ?_⟩
      have hl2 : H2 lx = some (.lst [.str "x", .str "y"]) := e2 _ _ (by rw [noP_ne nlx.1 nlx.2, upd_same])
      have e12 : Same (noP p c H1) H2 := noP_step eX0 e2
      have hS2 : ShapeAt (noP p c H2) sh T := hS1.mono (hidL_into e12)
      obtain ⟨v, hv⟩ := nm_at hdn
      refine ⟨_, _, _, .str v.s, rfl, rfl, SqL.of hl2, atI_nat hv, ?_⟩
      walk_at "rd"
      refine ⟨p, c, rfl, hp2, fun bq H3 e3 hp3 => ?_⟩
      have hS3 : ShapeAt (noP p c H3) sh T := hS2.mono (hidL_into e3)
      walk_at "rd"
      refine ⟨noP p c H3, p, c, sh, T, v, 2, rfl, hidL_same, noP_p, noP_c, hp3, hS3, okT, fun a s H4 e4 hp4 hs ok4 z4 d4 f4 => ?_⟩
      refine ⟨sz (by simp), fun r hr => ?_⟩
      have e5 : Same H4 (upd H4 r (.tup [.str (if bq = true then "some" else "each"), .str v.s, .ref a])) := Same.new (Same.refl _) hr
      have hp5 := hp4.same e5
      refine q r (qn bq v s) _ (noP_then (noP_trans (noP_trans (noP_trans e1 e12) e3) e4) e5) hp5 (say_qn (noP_tup hp5 upd_same) (hs.noP (noP_then hidL_same e5))) (qn_okI ok4) ?_ ?_ (closed_qn f4)
      · rw [qn_size]
        have : osz 2 = 18 := rfl
        show 1 + s.size ≤ 29
        omega
      · rw [qn_deep]
        show 1 + s.deep ≤ 9
        omega
end
end K48
namespace K48
open PySem PySem.Spec PyProof.Rows L2
local macro_rules | `(tactic| walk_at "rd") => `(tactic| repeat (first | refine ⟨_, rfl, ?_⟩ | refine ⟨_, _, rfl, rfl, ?_⟩ | refine ⟨rfl, ?_⟩ | refine iteTk (by decide +kernel) ?_ | refine iteFk (by decide +kernel) ?_))
local macro_rules | `(tactic| walk_at "rdr") => `(tactic| repeat (first | refine ⟨_, rfl, ?_⟩ | refine ⟨_, _, rfl, rfl, ?_⟩ | refine ⟨rfl, ?_⟩ | refine iteTk (by first | decide +kernel | rfl) ?_ | refine iteFk (by first | decide +kernel | rfl) ?_))
local macro_rules | `(tactic| walk_at "tyn") => `(tactic| first | exact .int _ | exact .bl _ | exact .str _ | exact .tup (by assumption) | exact .lst (by assumption) | exact .dK (by assumption))
local macro_rules | `(tactic| walk_at "isT") => `(tactic| refine ⟨_, _, _, _, true, rfl, .ty _, TyN.x (by walk_at "tyn"), kit_ty (by decide +kernel), ?_⟩)
local macro_rules | `(tactic| walk_at "isF") => `(tactic| refine ⟨_, _, _, _, false, rfl, .ty _, TyN.x (by walk_at "tyn"), kit_ty (by decide +kernel), ?_⟩)
local macro_rules | `(tactic| walk_at "nz") => `(tactic| first | refine nzG (by simp only [List.set_cons_succ, List.set_cons_zero]; rfl) ?_ | refine reS (by simp only [List.set_cons_succ, List.set_cons_zero]; rfl) ?_)
/-- the parts that stand behind the word, each a text or the saying of a kid -/
def Items (G : Hp) (s : Say) (rest : List V) : Prop := ∃ ks : List (Sum Str (Say × Addr)), rest = (ks.map fun k => match k with | .inl z => V.str z | .inr q => V.ref q.2) ∧ (ks.filterMap fun k => match k with | .inl _ => none | .inr q => some q.1) = s.kids ∧ (∀ q, Sum.inr q ∈ ks → SayAt G q.1 q.2) ∧ ks.length ≤ 3
theorem SayAt.items {G : Hp} {s : Say} {a : Addr} (h : SayAt G s a) : ∃ rest, G a = some (.tup (.str s.word :: rest)) ∧ Items G s rest := by
  cases s with
  | tru => exact ⟨[], h, [], rfl, rfl, (fun q hq => by cases hq), by simp⟩
  | mark m v => exact ⟨_, h, [.inl m, .inl v.s], rfl, rfl, (fun q hq => by simp at hq), by simp⟩
  | tie m v u => exact ⟨_, h, [.inl m, .inl v.s, .inl u.s], rfl, rfl, (fun q hq => by simp at hq), by simp⟩
  | same v u => exact ⟨_, h, [.inl v.s, .inl u.s], rfl, rfl, (fun q hq => by simp at hq), by simp⟩
  | not s =>
    obtain ⟨b, h, h1⟩ := h
    exact ⟨_, h, [.inr (s, b)], rfl, rfl, (fun q hq => by simp at hq; subst hq; exact h1), by simp⟩
  | and s t =>
    obtain ⟨b, c, h, h1, h2⟩ := h
    exact ⟨_, h, [.inr (s, b), .inr (t, c)], rfl, rfl, (fun q hq => by
      simp at hq
      rcases hq with rfl | rfl
      · exact h1
      · exact h2), by simp⟩
  | or s t =>
    obtain ⟨b, c, h, h1, h2⟩ := h
    exact ⟨_, h, [.inr (s, b), .inr (t, c)], rfl, rfl, (fun q hq => by
      simp at hq
      rcases hq with rfl | rfl
      · exact h1
      · exact h2), by simp⟩
  | each v s =>
    obtain ⟨b, h, h1⟩ := h
    exact ⟨_, h, [.inl v.s, .inr (s, b)], rfl, rfl, (fun q hq => by simp at hq; subst hq; exact h1), by simp⟩
  | som v s =>
    obtain ⟨b, h, h1⟩ := h
    exact ⟨_, h, [.inl v.s, .inr (s, b)], rfl, rfl, (fun q hq => by simp at hq; subst hq; exact h1), by simp⟩
def xyV : List V := [.str "x", .str "y"]
theorem inV_nms (u : Nm) (xs : List Nm) : inV (.str u.s) (xs.map nmV') = xs.any fun v => decide (u = v) := by
  induction xs with
  | nil => rfl
  | cons x xs ih =>
    show (eqV (.str x.s) (.str u.s) || inV (.str u.s) (xs.map nmV')) = _
    rw [ih, List.any_cons]
    congr 1
    cases x <;> cases u <;> decide +kernel
theorem flat_nms : ∀ xs : List Nm, (xs.map nmV').all flatV = true
  | [] => rfl
  | _ :: xs => flat_nms xs
section
variable {P : Program} {w : World} {K : PySem.W.Frag} {mg : Str → Option Value} {base : Heap} {cT cW : Addr}
def spLFree (n : Nat) : Sp := fun vs H Q _ => ∃ (G : Hp) (a : Addr) (s : Say), vs = [.ref a] ∧ Same G H ∧ SayAt G s a ∧ s.deep ≤ n ∧ ∀ l H', Same H H' → H' l = some (.lst (s.fvN.map nmV')) → Q (.ref l) H'
theorem ok_lfree (B : Blt mg) (D : Def K mg "_law_free" s_law_free) : ∀ n, CallOk P w K mg base (n + 1) "_law_free" P_law_free (spLFree n) := by
  intro n
  induction n with
  | zero => exact callOk_none D bd_law_free fun vs H Q E ⟨G, a, s, _, _, _, h, _⟩ => by have := s.deep_pos; omega
  | succ n ih =>
  have c_law_free := ih
  refine callOk D sc_law_free bd_law_free (fun vs H Q E h => ?_) (fun f cdv A outer st H vs Q E hr h => ?_)
  · obtain ⟨G, a, s, rfl, _⟩ := h
    rfl
  obtain ⟨G, a, s, rfl, eG, hS, hd, q⟩ := h
  refine ⟨_, pss_cons (ps_if (pt_cmpR op_eq (pe_ix ix_tup (pv 0) (pe_int) (fun _ _ => rfl)) (pe_str) (nomark _)) (pss_one (ps_ret (pe_lst (pa_cons (pe_ix ix_tup (pv 0) (pe_int) (fun _ _ => rfl)) pa_nil)))) (pss_nil)) (pss_cons (ps_if (pt_cmpR op_in_seq (pe_ix ix_tup (pv 0) (pe_int) (fun _ _ => rfl)) (pe_lst (pa_cons (pe_str) (pa_cons (pe_str) pa_nil))) (by rfl)) (pss_one (ps_ret (pe_lc (own := [("_law_name", 1)]) (g := gName 1) (by rfl) sc_law_free.nd (pi_list (pe_lst (pa_cons (pe_str) (pa_cons (pe_str) pa_nil)))) (blkOk_by (own := [("_law_name", 1)]) (N := N_law_free) (by kernel_rfl)) (fun _ _ _ _ _ => pg_name (i := 1) sc_law_free.nd rfl (Or.inl rfl)) (fun _ _ _ _ _ => pts_one (pt_cmpR (op_in_seqK (K := K) rfl) (pv 1) (pe_slice (sl_tupK (K := K) rfl) (pv 0) (po_some (pe_op op_sub (pe_callB (call_len_seqK (K := K) rfl) (by rfl) B.len bo_len (pa_cons (pv 0) pa_nil)) (pe_int))) po_none) (by rfl))) (fun _ _ _ _ _ => pv 1)))) (pss_nil)) (pss_cons (ps_set (i := 2) sc_law_free.nd rfl (.inr rfl) (pe_lst (pa_nil))) (pss_cons (ps_for PassesOwn.never rfl (pi_tup (pe_slice sl_tup (pv 0) (po_some (pe_int)) po_none)) (pg_name (i := 3) sc_law_free.nd rfl (.inl rfl)) (pss_one (ps_if (pt_val (pe_callB call_isi (by rfl) B.isinstance bo_isinstance (pa_cons (pv 3) (pa_cons (pe_bltn (v := .ty "tuple") (by rfl) B.tuple bo_tuple rfl) pa_nil)))) (pss_cons (ps_set (i := 4) sc_law_free.nd rfl (.inl rfl) (pe_cl c_law_free hr (by rfl) (pa_cons (pv 3) pa_nil))) (pss_cons (ps_if (pt_cmpR op_in_seq (pe_ix ix_tup (pv 0) (pe_int) (fun _ _ => rfl)) (pe_lst (pa_cons (pe_str) (pa_cons (pe_str) pa_nil))) (by rfl)) (pss_one (ps_setLc (i := 4) (own := [("_law_name", 1)]) (g := gName 1) (by rfl) sc_law_free.nd rfl rfl (sw_true rfl rfl rfl (by decide +kernel)) (pi_list (pv 4)) (blkOk_by (own := [("_law_name", 1)]) (N := N_law_free) (by kernel_rfl)) (fun _ _ _ _ _ => pg_name (i := 1) sc_law_free.nd rfl (Or.inl rfl)) (fun _ _ _ _ _ => pts_one (pt_cmpR op_ne (pv 1) (pe_ix (ix_tupK (K := K) rfl) (pv 0) (pe_int) (fun _ _ => rfl)) (nomark _))) (fun _ _ _ _ _ => pv 1))) (pss_nil)) (pss_one (ps_set (i := 2) sc_law_free.nd rfl (.inr rfl) (pe_op op_cat (pv 2) (pv 4)))))) (pss_nil)))) (pss_one (ps_ret (pe_lc (own := [("_law_name", 1)]) (g := gName 1) (by rfl) sc_law_free.nd (pi_list (pe_lst (pa_cons (pe_str) (pa_cons (pe_str) pa_nil)))) (blkOk_by (own := [("_law_name", 1)]) (N := N_law_free) (by kernel_rfl)) (fun _ _ _ _ _ => pg_name (i := 1) sc_law_free.nd rfl (Or.inl rfl)) (fun _ _ _ _ _ => pts_one (pt_cmpR (op_in_seqK (K := K) rfl) (pv 1) (pv 2) (by rfl))) (fun _ _ _ _ _ => pv 1))))))), ?_⟩
  obtain ⟨rest, hw, hit⟩ := hS.items
  walk_at "rd"
  refine ⟨_, _, _, _, rfl, rfl, SqT.of (eG _ _ hw), atI_nat (j := 0) rfl, ?_⟩
  by_cases hown : s.own = []
  · have w1 : decide (V.str s.word = V.str "mark") = false := by
      rw [dec_V_str]
      cases s <;> simp [Say.own] at hown <;> exact decide_eq_false (by simp only [Say.word]; decide +kernel)
    have w2 : inV (.str s.word) [.str "tie", .str "same"] = false := by
      cases s <;> simp [Say.own] at hown <;> (simp only [Say.word]; decide +kernel)
    have w3 : inV (.str s.word) [.str "each", .str "some"] = s.bnd.isSome := bnd_word hS
    walk_at "rd"
    refine iteFk w1 ?_
    walk_at "rd"
    refine ⟨_, _, _, _, rfl, rfl, SqT.of (eG _ _ hw), atI_nat (j := 0) rfl, ?_⟩
    walk_at "rd"
    refine ⟨sz (by simp), fun l1 hl1 => ?_⟩
    have e1 : Same H (upd H l1 (.lst [.str "tie", .str "same"])) := Same.new (Same.refl _) hl1
    refine ⟨_, _, rfl, .inl (SqL.of upd_same), rfl, rfl, ?_⟩
    rw [w2]
    walk_at "rd"
    refine ⟨sz (by simp), fun l2 hl2 => ?_⟩
    have e2 : Same H (upd (upd H l1 (.lst [.str "tie", .str "same"])) l2 (.lst [])) := Same.new e1 hl2
    have hF2 : (upd (upd H l1 (.lst [.str "tie", .str "same"])) l2 (.lst [])) l2 = some (.lst []) := upd_same
    revert e2 hF2
    generalize (upd (upd H l1 (.lst [.str "tie", .str "same"])) l2 (.lst [])) = H2
    intro e2 hF2
    walk_at "rd"
    refine ⟨_, _, rfl, SqT.of (e2 _ _ (eG _ _ hw)), cut1_not _ _, fun p1 hp1 => ?_⟩
    rw [cut1]
    have hl2H : H l2 = none := e1.free hl2
    have e3 : Same H (upd H2 p1 (.tup rest)) := Same.new e2 hp1
    have hF3 : (upd H2 p1 (.tup rest)) l2 = some (.lst ([].map nmV')) := by rw [upd_ne (ne_of_none hF2 hp1)]; exact hF2
    have hR3 : (upd H2 p1 (.tup rest)) p1 = some (.tup rest) := upd_same
    revert e3 hF3 hR3
    generalize (upd H2 p1 (.tup rest)) = H3
    intro e3 hF3 hR3
    obtain ⟨ks, hks1, hks2, hks3, hks4⟩ := hit
    refine ⟨_, rfl, ⟨_, SqT.of hR3⟩, for_tup (K := K) (a := p1) (xs := rest)
      (fun i σ H' => ∃ fd xs y1 y3 y4, σ = [some (.ref a), y1, some (.ref fd), y3, y4] ∧ Same H3 H' ∧ H' fd = some (.lst (xs.map nmV')) ∧ xs.length ≤ 2 * i ∧ ∀ u, (xs.any fun v => decide (u = v)) = ((ks.take i).any fun k => match k with | .inl _ => false | .inr q => q.1.fr u && !decide (s.bnd = some u)))
      ⟨l2, [], _, _, _, rfl, Same.refl _, hF3, Nat.zero_le _, fun u => rfl⟩ (fun i σ H' _ hP => let ⟨_, _, _, _, _, _, h, _⟩ := hP; SqT.of (h _ _ hR3)) (fun i x σ H' hx hP => ?_) (fun σ H' hP => ?_)⟩
    · obtain ⟨fd, xs, y1, y3, y4, rfl, e4, hF4, hxl, hxa⟩ := hP
      rw [hks1] at hx
      obtain ⟨k, hk, hkx⟩ := map_at hx
      have hkm := List.mem_of_getElem? hk
      have hil := (List.getElem?_eq_some_iff.mp hk).1
      have tk : ∀ g : Sum Str (Say × Addr) → Bool, (ks.take (i + 1)).any g = ((ks.take i).any g || g k) := fun g => take_any hk g
      have eG4 : Same G H' := (eG.trans e3).trans e4
      cases k with
      | inl z =>
        subst hkx
        walk_at "rd"
        walk_at "isF"
        walk_at "rd"
        refine ⟨fd, xs, _, _, _, rfl, e4, hF4, by omega, fun u => ?_⟩
        rw [tk, hxa u]
        simp
      | inr qd =>
        subst hkx
        have hqS := hks3 qd hkm
        obtain ⟨qx, hqt⟩ := hqS.tup
        have hqt := eG4 _ _ hqt
        walk_at "rd"
        walk_at "isT"
        walk_at "rd"
        have hkk : qd.1 ∈ s.kids := by
          rw [← hks2]
          exact List.mem_filterMap.mpr ⟨_, hkm, rfl⟩
        refine ⟨G, qd.2, qd.1, rfl, eG4, hqS, by have := Say.deep_kids hkk; omega, fun nl H5 e5 hnl => ?_⟩
        have eG5 := eG4.trans e5
        have hF5 := e5 _ _ hF4
        have e35 := e4.trans e5
        have hlf := qd.1.len_fvN
        have hbv : ∀ v0, s.bnd = some v0 → rest[0]? = some (.str v0.s) := fun v0 hb => by
          obtain ⟨z, xs', h1, _, h3⟩ := hS.word
          rw [hw] at h1
          have := h3 v0 hb
          cases h1
          exact this
        walk_at "rd"
        refine ⟨_, _, _, _, rfl, rfl, SqT.of (eG5 _ _ hw), atI_nat (j := 0) rfl, ?_⟩
        walk_at "rd"
        refine ⟨sz (by simp), fun l6 hl6 => ?_⟩
        have e6 : Same H5 (upd H5 l6 (.lst [.str "each", .str "some"])) := Same.new (Same.refl _) hl6
        refine ⟨_, _, rfl, .inl (SqL.of upd_same), rfl, rfl, ?_⟩
        rw [w3]
        have hF6 := e6 _ _ hF5
        have hN6 := e6 _ _ hnl
        have e36 := e35.trans e6
        have eG6 := eG5.trans e6
        revert hF6 hN6 e36 eG6
        generalize (upd H5 l6 (.lst [.str "each", .str "some"])) = H6
        intro hF6 hN6 e36 eG6
        obtain hb | ⟨v0, hb⟩ : s.bnd = none ∨ ∃ v0, s.bnd = some v0 := by
          cases s.bnd with
          | none => exact .inl rfl
          | some v0 => exact .inr ⟨v0, rfl⟩
        · rw [show s.bnd.isSome = false by rw [hb]; rfl]
          have hFN := hF6
          have hNN := hN6
          have e3N := e36
          have hys : ∀ u, (qd.1.fvN.any fun v => decide (u = v)) = (qd.1.fr u && !decide (s.bnd = some u)) := fun u => by
            have := Say.mem_fvN qd.1 (fun _ => true) u
            simp only [Bool.and_true] at this
            rw [this, hb]
            simp
          revert hFN hNN e3N hys hlf
          generalize qd.1.fvN = ys
          generalize H6 = HN
          intro hlf hFN hNN e3N hys
          walk_at "rd"
          refine ⟨_, _, _, _, rfl, rfl, hFN, hNN, by rw [List.length_map, List.length_map]; exact sz (by omega), fun fc hfc => ?_⟩
          have e7 : Same H3 (upd HN fc (.lst (xs.map nmV' ++ ys.map nmV'))) := Same.new e3N hfc
          refine ⟨fc, xs ++ ys, _, _, _, rfl, e7, by rw [upd_same, List.map_append], by rw [List.length_append]; omega, fun u => ?_⟩
          rw [tk, List.any_append, hxa u, hys u]
        · rw [show s.bnd.isSome = true by rw [hb]; rfl]
          walk_at "rd"
          refine ⟨⟨_, SqL.of hN6⟩, fun Dn hDn => ?_⟩
          refine lc_list (K := K) (xs := qd.1.fvN.map nmV') (fun j H' => Same H6 H' ∧ H' Dn = some (.lst ((((qd.1.fvN.take j).filter fun u => !decide (u = v0))).map nmV'))) ⟨Same.new (Same.refl _) hDn, upd_same⟩ (fun j H' _ hP => SqL.of (hP.1 _ _ hN6)) (fun j x H' hx hP => ?_) (fun H' hP => ?_)
          · obtain ⟨e7, hL⟩ := hP
            obtain ⟨u, hu, rfl⟩ := map_at hx
            have tk2 : (qd.1.fvN.take (j + 1)).filter (fun u => !decide (u = v0)) = (qd.1.fvN.take j).filter (fun u => !decide (u = v0)) ++ (if (!decide (u = v0)) = true then [u] else []) := by
              rw [List.take_add_one, hu, List.filter_append]
              cases h : (!decide (u = v0)) <;> simp [List.filter_cons, h]
            refine ⟨rfl, ?_⟩
            walk_at "rd"
            refine ⟨_, _, _, _, rfl, rfl, SqT.of (e7 _ _ (eG6 _ _ hw)), atI_nat (j := 1) (hbv v0 hb), ?_⟩
            walk_at "rd"
            rw [dec_V_str, Nm.s_inj]
            refine iteS (fun hc => ?_) (fun hc => ?_)
            · refine ⟨_, rfl, _, hL, szl ?_, Same.mut e7 hDn, ?_⟩
              · rw [List.length_map]
                have := List.length_filter_le (fun u => !decide (u = v0)) (qd.1.fvN.take j)
                rw [List.length_take] at this
                omega
              · rw [upd_same, tk2, if_pos hc, List.map_append]
                rfl
            · refine ⟨e7, ?_⟩
              rw [tk2, if_neg (by rw [hc]; decide), List.append_nil]
              exact hL
          · obtain ⟨e7, hL⟩ := hP
            rw [List.length_map, List.take_length] at hL
            have hFN := e7 _ _ hF6
            have hNN := hL
            have e3N := e36.trans e7
            have hys : ∀ u, ((qd.1.fvN.filter fun u => !decide (u = v0)).any fun v => decide (u = v)) = (qd.1.fr u && !decide (s.bnd = some u)) := fun u => by
              have h1 := Say.mem_fvN qd.1 (fun z => !decide (z = v0)) u
              rw [List.any_filter, hb]
              rw [show (fun x => (!decide (x = v0)) && decide (u = x)) = (fun x => decide (u = x) && !decide (x = v0)) from funext fun x => Bool.and_comm _ _, h1]
              congr 2
              by_cases h : u = v0
              · subst h
                simp
              · have : ¬ v0 = u := fun z => h z.symm
                simp [h, this]
            have hlf2 : (qd.1.fvN.filter fun u => !decide (u = v0)).length ≤ 2 := Nat.le_trans (List.length_filter_le _ _) hlf
            clear hlf
            have hlf := hlf2
            clear hlf2
            walk_at "rd"
            refine ⟨_, _, _, _, rfl, rfl, hFN, hNN, by rw [List.length_map, List.length_map]; exact sz (by omega), fun fc hfc => ?_⟩
            have e7 : Same H3 (upd H' fc (.lst (xs.map nmV' ++ (qd.1.fvN.filter fun u => !decide (u = v0)).map nmV'))) := Same.new e3N hfc
            refine ⟨fc, xs ++ (qd.1.fvN.filter fun u => !decide (u = v0)), _, _, _, rfl, e7, by rw [upd_same, List.map_append], by rw [List.length_append]; omega, fun u => ?_⟩
            rw [tk, List.any_append, hxa u, hys u]
    · obtain ⟨fd, xs, y1, y3, y4, rfl, e4, hF4, hxl, hxa⟩ := hP
      have hfr : ∀ u, (xs.any fun v => decide (u = v)) = s.fr u := fun u => by
        rw [hxa u, s.fr_eq u, hown]
        have hl : rest.length = ks.length := by rw [hks1, List.length_map]
        rw [hl, List.take_length, ← hks2]
        simp only [List.any_nil, Bool.false_or]
        clear hks1 hks2 hks3 hks4 hxa hl
        induction ks with
        | nil => rfl
        | cons k ks ih =>
          cases k with
          | inl z => simpa using ih
          | inr qd => simp only [List.any_cons, List.filterMap_cons]; rw [ih]
      have e34 := e3.trans e4
      walk_at "rd"
      refine ⟨sz (by simp), fun lx hlx => ?_⟩
      have e5 : Same H' (upd H' lx (.lst [.str "x", .str "y"])) := Same.new (Same.refl _) hlx
      have hF5 := e5 _ _ hF4
      have hX5 : (upd H' lx (.lst [.str "x", .str "y"])) lx = some (.lst ([Nm.x, Nm.y].map nmV')) := upd_same
      have e35 := e34.trans e5
      revert hF5 hX5 e35
      generalize (upd H' lx (.lst [.str "x", .str "y"])) = H5
      intro hF5 hX5 e35
      refine ⟨_, rfl, ⟨_, SqL.of hX5⟩, fun Dn hDn => ?_⟩
      refine lc_list (K := K) (xs := [Nm.x, Nm.y].map nmV') (fun j H' => Same H5 H' ∧ H' Dn = some (.lst ((([Nm.x, Nm.y].take j).filter s.fr).map nmV'))) ⟨Same.new (Same.refl _) hDn, upd_same⟩ (fun j H' _ hP => SqL.of (hP.1 _ _ hX5)) (fun j x H' hx hP => ?_) (fun H' hP => ?_)
      · obtain ⟨e7, hL⟩ := hP
        obtain ⟨u, hu, rfl⟩ := map_at hx
        have tk2 : ([Nm.x, Nm.y].take (j + 1)).filter s.fr = ([Nm.x, Nm.y].take j).filter s.fr ++ (if s.fr u = true then [u] else []) := by
          rw [List.take_add_one, hu, List.filter_append]
          cases h : s.fr u <;> simp [List.filter_cons, h]
        refine ⟨rfl, ?_⟩
        walk_at "rd"
        refine ⟨_, _, rfl, .inl (SqL.of (e7 _ _ hF5)), rfl, flat_nms xs, ?_⟩
        rw [inV_nms, hfr]
        refine ⟨_, rfl, ?_⟩
        refine iteS (fun hc => ?_) (fun hc => ?_)
        · have hc : s.fr u = true := hc
          refine ⟨_, rfl, _, hL, szl ?_, Same.mut e7 hDn, ?_⟩
          · rw [List.length_map]
            have : (([Nm.x, Nm.y].take j).filter s.fr).length ≤ 2 := Nat.le_trans (List.length_filter_le _ _) (by rw [List.length_take]; exact Nat.min_le_right _ _)
            omega
          · rw [upd_same, tk2, if_pos hc, List.map_append]
            rfl
        · have hc : s.fr u = false := hc
          refine ⟨e7, ?_⟩
          rw [tk2, if_neg (by rw [hc]; decide), List.append_nil]
          exact hL
      · obtain ⟨e7, hL⟩ := hP
        refine q Dn H' (e35.trans e7) ?_
        rw [hL]
        unfold Say.fvN
        cases hx : s.fr .x <;> cases hy : s.fr .y <;> simp [hx, hy]
  · cases s with
    | mark m v =>
      have hS : G a = some (.tup [.str "mark", .str m, .str v.s]) := hS
      walk_at "rd"
      refine ⟨_, _, _, _, rfl, rfl, SqT.of (eG _ _ hS), atI_nat (j := 2) rfl, ?_⟩
      walk_at "rd"
      refine ⟨sz (by simp), fun l hl => ?_⟩
      refine q l _ (Same.new (Same.refl _) hl) ?_
      rw [upd_same]
      cases v <;> rfl
    | tie m v u =>
      have hS : G a = some (.tup [.str "tie", .str m, .str v.s, .str u.s]) := hS
      walk_at "rd"
      refine ⟨_, _, _, _, rfl, rfl, SqT.of (eG _ _ hS), atI_nat (j := 0) rfl, ?_⟩
      walk_at "rd"
      refine ⟨sz (by simp), fun l1 hl1 => ?_⟩
      have e1 : Same H (upd H l1 (.lst [.str "tie", .str "same"])) := Same.new (Same.refl _) hl1
      refine ⟨_, _, rfl, .inl (SqL.of upd_same), rfl, rfl, ?_⟩
      rw [show inV (.str "tie") [.str "tie", .str "same"] = true by decide +kernel]
      walk_at "rd"
      refine ⟨sz (by simp), fun lx hlx => ?_⟩
      have e2 : Same H (upd (upd H l1 (.lst [.str "tie", .str "same"])) lx (.lst [.str "x", .str "y"])) := Same.new e1 hlx
      have hX : (upd (upd H l1 (.lst [.str "tie", .str "same"])) lx (.lst [.str "x", .str "y"])) lx = some (.lst ([Nm.x, Nm.y].map nmV')) := upd_same
      revert e2 hX
      generalize (upd (upd H l1 (.lst [.str "tie", .str "same"])) lx (.lst [.str "x", .str "y"])) = H2
      intro e2 hX
      refine ⟨_, rfl, ⟨_, SqL.of hX⟩, fun Dn hDn => ?_⟩
      refine lc_list (K := K) (xs := [Nm.x, Nm.y].map nmV') (fun j H' => Same H2 H' ∧ H' Dn = some (.lst ((([Nm.x, Nm.y].take j).filter (Say.tie m v u).fr).map nmV'))) ⟨Same.new (Same.refl _) hDn, upd_same⟩ (fun j H' _ hP => SqL.of (hP.1 _ _ hX)) (fun j x H' hx hP => ?_) (fun H' hP => ?_)
      · obtain ⟨e7, hL⟩ := hP
        obtain ⟨z, hz, rfl⟩ := map_at hx
        have tk2 : ([Nm.x, Nm.y].take (j + 1)).filter (Say.tie m v u).fr = ([Nm.x, Nm.y].take j).filter (Say.tie m v u).fr ++ (if (Say.tie m v u).fr z = true then [z] else []) := by
          rw [List.take_add_one, hz, List.filter_append]
          cases h : (Say.tie m v u).fr z <;> simp [List.filter_cons, h]
        refine ⟨rfl, ?_⟩
        walk_at "rd"
        have hS7 := e7 _ _ (e2 _ _ (eG _ _ hS))
        refine ⟨_, _, rfl, .inr (SqT.of hS7), ?_⟩
        walk_at "rd"
        refine ⟨_, _, rfl, SqT.of hS7, by simp [HT.sIx], fun p8 hp8 => ?_⟩
        rw [show cutV [.str "tie", .str m, .str v.s, .str u.s] (some ((([V.str "tie", .str m, .str v.s, .str u.s] : List V).length : Int) - 2)) none = [v, u].map nmV' from rfl]
        have e8 : Same H2 (upd H' p8 (.tup ([v, u].map nmV'))) := Same.new e7 hp8
        have hL8 : (upd H' p8 (.tup ([v, u].map nmV'))) Dn = some (.lst ((([Nm.x, Nm.y].take j).filter (Say.tie m v u).fr).map nmV')) := by rw [upd_ne (ne_of_none hL hp8)]; exact hL
        refine ⟨_, _, rfl, .inr (SqT.of upd_same), rfl, flat_nms _, ?_⟩
        rw [inV_nms, show ([v, u].any fun y => decide (z = y)) = (Say.tie m v u).fr z by simp [Say.fr]]
        refine ⟨_, rfl, ?_⟩
        refine iteS (fun hc => ?_) (fun hc => ?_)
        · have hc : (Say.tie m v u).fr z = true := hc
          refine ⟨_, rfl, _, hL8, szl ?_, Same.mut e8 hDn, ?_⟩
          · rw [List.length_map]
            have : (([Nm.x, Nm.y].take j).filter (Say.tie m v u).fr).length ≤ 2 := Nat.le_trans (List.length_filter_le _ _) (by rw [List.length_take]; exact Nat.min_le_right _ _)
            omega
          · rw [upd_same, tk2, if_pos hc, List.map_append]
            rfl
        · have hc : (Say.tie m v u).fr z = false := hc
          refine ⟨e8, ?_⟩
          rw [tk2, if_neg (by rw [hc]; decide), List.append_nil]
          exact hL8
      · obtain ⟨e7, hL⟩ := hP
        refine q Dn H' (e2.trans e7) ?_
        rw [hL]
        unfold Say.fvN
        cases hx : (Say.tie m v u).fr .x <;> cases hy : (Say.tie m v u).fr .y <;> simp [hx, hy]
    | same v u =>
      have hS : G a = some (.tup [.str "same", .str v.s, .str u.s]) := hS
      walk_at "rd"
      refine ⟨_, _, _, _, rfl, rfl, SqT.of (eG _ _ hS), atI_nat (j := 0) rfl, ?_⟩
      walk_at "rd"
      refine ⟨sz (by simp), fun l1 hl1 => ?_⟩
      have e1 : Same H (upd H l1 (.lst [.str "tie", .str "same"])) := Same.new (Same.refl _) hl1
      refine ⟨_, _, rfl, .inl (SqL.of upd_same), rfl, rfl, ?_⟩
      rw [show inV (.str "same") [.str "tie", .str "same"] = true by decide +kernel]
      walk_at "rd"
      refine ⟨sz (by simp), fun lx hlx => ?_⟩
      have e2 : Same H (upd (upd H l1 (.lst [.str "tie", .str "same"])) lx (.lst [.str "x", .str "y"])) := Same.new e1 hlx
      have hX : (upd (upd H l1 (.lst [.str "tie", .str "same"])) lx (.lst [.str "x", .str "y"])) lx = some (.lst ([Nm.x, Nm.y].map nmV')) := upd_same
      revert e2 hX
      generalize (upd (upd H l1 (.lst [.str "tie", .str "same"])) lx (.lst [.str "x", .str "y"])) = H2
      intro e2 hX
      refine ⟨_, rfl, ⟨_, SqL.of hX⟩, fun Dn hDn => ?_⟩
      refine lc_list (K := K) (xs := [Nm.x, Nm.y].map nmV') (fun j H' => Same H2 H' ∧ H' Dn = some (.lst ((([Nm.x, Nm.y].take j).filter (Say.same v u).fr).map nmV'))) ⟨Same.new (Same.refl _) hDn, upd_same⟩ (fun j H' _ hP => SqL.of (hP.1 _ _ hX)) (fun j x H' hx hP => ?_) (fun H' hP => ?_)
      · obtain ⟨e7, hL⟩ := hP
        obtain ⟨z, hz, rfl⟩ := map_at hx
        have tk2 : ([Nm.x, Nm.y].take (j + 1)).filter (Say.same v u).fr = ([Nm.x, Nm.y].take j).filter (Say.same v u).fr ++ (if (Say.same v u).fr z = true then [z] else []) := by
          rw [List.take_add_one, hz, List.filter_append]
          cases h : (Say.same v u).fr z <;> simp [List.filter_cons, h]
        refine ⟨rfl, ?_⟩
        walk_at "rd"
        have hS7 := e7 _ _ (e2 _ _ (eG _ _ hS))
        refine ⟨_, _, rfl, .inr (SqT.of hS7), ?_⟩
        walk_at "rd"
        refine ⟨_, _, rfl, SqT.of hS7, by simp [HT.sIx], fun p8 hp8 => ?_⟩
        rw [show cutV [.str "same", .str v.s, .str u.s] (some ((([V.str "same", .str v.s, .str u.s] : List V).length : Int) - 2)) none = [v, u].map nmV' from rfl]
        have e8 : Same H2 (upd H' p8 (.tup ([v, u].map nmV'))) := Same.new e7 hp8
        have hL8 : (upd H' p8 (.tup ([v, u].map nmV'))) Dn = some (.lst ((([Nm.x, Nm.y].take j).filter (Say.same v u).fr).map nmV')) := by rw [upd_ne (ne_of_none hL hp8)]; exact hL
        refine ⟨_, _, rfl, .inr (SqT.of upd_same), rfl, flat_nms _, ?_⟩
        rw [inV_nms, show ([v, u].any fun y => decide (z = y)) = (Say.same v u).fr z by simp [Say.fr]]
        refine ⟨_, rfl, ?_⟩
        refine iteS (fun hc => ?_) (fun hc => ?_)
        · have hc : (Say.same v u).fr z = true := hc
          refine ⟨_, rfl, _, hL8, szl ?_, Same.mut e8 hDn, ?_⟩
          · rw [List.length_map]
            have : (([Nm.x, Nm.y].take j).filter (Say.same v u).fr).length ≤ 2 := Nat.le_trans (List.length_filter_le _ _) (by rw [List.length_take]; exact Nat.min_le_right _ _)
            omega
          · rw [upd_same, tk2, if_pos hc, List.map_append]
            rfl
        · have hc : (Say.same v u).fr z = false := hc
          refine ⟨e8, ?_⟩
          rw [tk2, if_neg (by rw [hc]; decide), List.append_nil]
          exact hL8
      · obtain ⟨e7, hL⟩ := hP
        refine q Dn H' (e2.trans e7) ?_
        rw [hL]
        unfold Say.fvN
        cases hx : (Say.same v u).fr .x <;> cases hy : (Say.same v u).fr .y <;> simp [hx, hy]
    | _ => exact absurd rfl hown
end
end K48
namespace K48
open PySem PySem.Spec PyProof.Rows L2
local macro_rules | `(tactic| walk_at "rd") => `(tactic| repeat (first | refine ⟨_, rfl, ?_⟩ | refine ⟨_, _, rfl, rfl, ?_⟩ | refine ⟨rfl, ?_⟩ | refine iteTk (by decide +kernel) ?_ | refine iteFk (by decide +kernel) ?_))
local macro_rules | `(tactic| walk_at "rdr") => `(tactic| repeat (first | refine ⟨_, rfl, ?_⟩ | refine ⟨_, _, rfl, rfl, ?_⟩ | refine ⟨rfl, ?_⟩ | refine iteTk (by first | decide +kernel | rfl) ?_ | refine iteFk (by first | decide +kernel | rfl) ?_))
local macro_rules | `(tactic| walk_at "tyn") => `(tactic| first | exact .int _ | exact .bl _ | exact .str _ | exact .tup (by assumption) | exact .lst (by assumption) | exact .dK (by assumption))
local macro_rules | `(tactic| walk_at "isT") => `(tactic| refine ⟨_, _, _, _, true, rfl, .ty _, TyN.x (by walk_at "tyn"), kit_ty (by decide +kernel), ?_⟩)
local macro_rules | `(tactic| walk_at "isF") => `(tactic| refine ⟨_, _, _, _, false, rfl, .ty _, TyN.x (by walk_at "tyn"), kit_ty (by decide +kernel), ?_⟩)
local macro_rules | `(tactic| walk_at "nz") => `(tactic| first | refine nzG (by simp only [List.set_cons_succ, List.set_cons_zero]; rfl) ?_ | refine reS (by simp only [List.set_cons_succ, List.set_cons_zero]; rfl) ?_)
/-! ## Comprehensions by what each item gives -/
theorem hide_put {D : Addr} {H : Hp} {o : HO} : Same (hide D H) (hide D (upd H D o)) := fun b u h => by
  obtain ⟨n, h⟩ := hide_some h
  rw [hide_ne n, upd_ne n]
  exact h
theorem yesI {σ : L2.St} {H : Hp} {A B : Hp → Prop} (h : A H) : tYes σ H (fun b H3 => if b = true then A H3 else B H3) := by
  show (if true = true then A H else B H)
  rw [if_pos rfl]
  exact h
theorem wipe_own {σ : L2.St} {vs : List Nat} {j : Nat} (hv : vs = [j]) (x : V) : wipe ((wipe σ vs).set j (some x)) vs = wipe σ vs := by
  subst hv
  show ((σ.set j none).set j (some x)).set j none = σ.set j none
  rw [List.set_set, List.set_set]
/-- what the items so far gave -/
def Gave (R : Nat → V → Hp → Prop) (f : Nat → Bool) (H1 : Hp) (D : Addr) (i : Nat) (H : Hp) : Prop := Same H1 H ∧ ∃ ys, H D = some (.lst ys) ∧ Paired (fun k y => R k y (hide D H)) ((List.range i).filter f) ys
section
variable {D : Addr} {H1 : Hp} {R : Nat → V → Hp → Prop} {f : Nat → Bool}
theorem Gave.start (hD : H1 D = none) : Gave R f H1 D 0 (upd H1 D (.lst [])) := ⟨Same.new (Same.refl _) hD, [], upd_same, .nil⟩
theorem Gave.len {i : Nat} {ys : List V} {H : Hp} (hp : Paired (fun k y => R k y (hide D H)) ((List.range i).filter f) ys) : ys.length ≤ i := by
  have h1 := Paired.length hp
  have h2 := List.length_filter_le f (List.range i)
  rw [List.length_range] at h2
  omega
theorem Gave.no {i : Nat} {ys : List V} {H H3 : Hp} (mono : ∀ k y H H', Same H H' → R k y H → R k y H') (e : Same H1 H) (hY : H D = some (.lst ys)) (hp : Paired (fun k y => R k y (hide D H)) ((List.range i).filter f) ys) (e3 : Same H H3) (hf : f i = false) : Gave R f H1 D (i + 1) H3 := by
  refine ⟨e.trans e3, ys, e3 _ _ hY, ?_⟩
  rw [List.range_succ, List.filter_append, show List.filter f [i] = [] by simp [hf], List.append_nil]
  exact Paired.mapP hp fun k y q => mono _ _ _ _ (hide_mono e3) q
theorem Gave.yes {i : Nat} {ys : List V} {H H4 : Hp} {y : V} (mono : ∀ k y H H', Same H H' → R k y H → R k y H') (hD : H1 D = none) (e : Same H1 H) (hp : Paired (fun k y => R k y (hide D H)) ((List.range i).filter f) ys) (e4 : Same H H4) (hf : f i = true) (hr : R i y (hide D H4)) : Gave R f H1 D (i + 1) (upd H4 D (.lst (ys ++ [y]))) := by
  refine ⟨Same.mut (e.trans e4) hD, ys ++ [y], upd_same, ?_⟩
  rw [List.range_succ, List.filter_append, show List.filter f [i] = [i] by simp [hf]]
  exact Paired.snoc (Paired.mapP hp fun k y q => mono _ _ _ _ ((hide_mono e4).trans hide_put) q) (mono _ _ _ _ hide_put hr)
end
section
variable {K : PySem.W.Frag} {D : Addr} {H1 : Hp} {te : TE} {tt : TT} {vs : List Nat} {j : Nat} {σ : L2.St} {Qd : Hp → Prop} {a : Addr} {xs : List V}
theorem lc_listF (R : Nat → V → Hp → Prop) (f : Nat → Bool) (hD : H1 D = none) (hl : H1 a = some (.lst xs)) (hn : xs.length ≤ 1000) (mono : ∀ k y H H', Same H H' → R k y H → R k y H') (hv : vs = [j])
    (hs : ∀ i x H acc, xs[i]? = some x → Same H1 H → H D = some (.lst acc) → ∀ N : Hp → Prop, (∀ H3, Same H H3 → f i = false → N H3) → (∀ y H4, Same H H4 → f i = true → R i y (hide D H4) → ∃ acc, H4 D = some (.lst acc) ∧ acc.length < sizeLine ∧ N (upd H4 D (.lst (acc ++ [y])))) →
      tt ((wipe σ vs).set j (some x)) H fun b H3 => if b = true then te ((wipe σ vs).set j (some x)) H3 fun y H4 => ∃ acc, H4 D = some (.lst acc) ∧ acc.length < sizeLine ∧ N (upd H4 D (.lst (acc ++ [y]))) else N H3)
    (hd : ∀ H ys, Same H1 H → H D = some (.lst ys) → Paired (fun k y => R k y (hide D H)) ((List.range xs.length).filter f) ys → Qd H) :
    ∃ W : Nat → Nat → Hp → Prop, (∃ m, W 0 m (upd H1 D (.lst []))) ∧ ∀ i m H, W i m H →
      ((Itl K a).stop i H ∧ Qd H) ∨ ((Itl K a).go i H ∧ ∃ Nx : Hp → Prop, (∀ H', Nx H' → ∃ m', m' < m ∧ W (i + 1) m' H') ∧ ∀ x H', (Itl K a).yld i H x H' → gName j x (wipe σ vs) H' fun σ2 H2 => wipe σ2 vs = wipe σ vs ∧ tt σ2 H2 fun b H3 =>
        if b = true then te σ2 H3 fun y H4 => ∃ acc, H4 D = some (.lst acc) ∧ acc.length < sizeLine ∧ Nx (upd H4 D (.lst (acc ++ [y]))) else Nx H3) := by
  refine lc_list (K := K) (xs := xs) (Gave R f H1 D) (Gave.start hD) (fun i H _ hP => SqL.of (hP.1 _ _ hl)) (fun i x H hx hP => ?_) (fun H hP => ?_)
  · obtain ⟨e, ys, hY, hp⟩ := hP
    have hyl := Gave.len hp
    have hil := (List.getElem?_eq_some_iff.mp hx).1
    refine ⟨wipe_own hv x, hs i x H ys hx e hY _ (fun H3 e3 hf => Gave.no mono e hY hp e3 hf) (fun y H4 e4 hf hr => ⟨ys, e4 _ _ hY, szl (by omega), Gave.yes mono hD e hp e4 hf hr⟩)⟩
  · obtain ⟨e, ys, hY, hp⟩ := hP
    exact hd H ys e hY hp
theorem lc_tupF (R : Nat → V → Hp → Prop) (f : Nat → Bool) (hD : H1 D = none) (hl : H1 a = some (.tup xs)) (hn : xs.length ≤ 1000) (mono : ∀ k y H H', Same H H' → R k y H → R k y H') (hv : vs = [j])
    (hs : ∀ i x H acc, xs[i]? = some x → Same H1 H → H D = some (.lst acc) → ∀ N : Hp → Prop, (∀ H3, Same H H3 → f i = false → N H3) → (∀ y H4, Same H H4 → f i = true → R i y (hide D H4) → ∃ acc, H4 D = some (.lst acc) ∧ acc.length < sizeLine ∧ N (upd H4 D (.lst (acc ++ [y])))) →
      tt ((wipe σ vs).set j (some x)) H fun b H3 => if b = true then te ((wipe σ vs).set j (some x)) H3 fun y H4 => ∃ acc, H4 D = some (.lst acc) ∧ acc.length < sizeLine ∧ N (upd H4 D (.lst (acc ++ [y]))) else N H3)
    (hd : ∀ H ys, Same H1 H → H D = some (.lst ys) → Paired (fun k y => R k y (hide D H)) ((List.range xs.length).filter f) ys → Qd H) :
    ∃ W : Nat → Nat → Hp → Prop, (∃ m, W 0 m (upd H1 D (.lst []))) ∧ ∀ i m H, W i m H →
      ((Itt K a).stop i H ∧ Qd H) ∨ ((Itt K a).go i H ∧ ∃ Nx : Hp → Prop, (∀ H', Nx H' → ∃ m', m' < m ∧ W (i + 1) m' H') ∧ ∀ x H', (Itt K a).yld i H x H' → gName j x (wipe σ vs) H' fun σ2 H2 => wipe σ2 vs = wipe σ vs ∧ tt σ2 H2 fun b H3 =>
        if b = true then te σ2 H3 fun y H4 => ∃ acc, H4 D = some (.lst acc) ∧ acc.length < sizeLine ∧ Nx (upd H4 D (.lst (acc ++ [y]))) else Nx H3) := by
  refine lc_tup (K := K) (xs := xs) (Gave R f H1 D) (Gave.start hD) (fun i H _ hP => SqT.of (hP.1 _ _ hl)) (fun i x H hx hP => ?_) (fun H hP => ?_)
  · obtain ⟨e, ys, hY, hp⟩ := hP
    have hyl := Gave.len hp
    have hil := (List.getElem?_eq_some_iff.mp hx).1
    refine ⟨wipe_own hv x, hs i x H ys hx e hY _ (fun H3 e3 hf => Gave.no mono e hY hp e3 hf) (fun y H4 e4 hf hr => ⟨ys, e4 _ _ hY, szl (by omega), Gave.yes mono hD e hp e4 hf hr⟩)⟩
  · obtain ⟨e, ys, hY, hp⟩ := hP
    exact hd H ys e hY hp
theorem lc_rangeF {n : Nat} (R : Nat → V → Hp → Prop) (f : Nat → Bool) (hD : H1 D = none) (hn : n ≤ 1000) (mono : ∀ k y H H', Same H H' → R k y H → R k y H') (hv : vs = [j])
    (hs : ∀ i H acc, i < n → Same H1 H → H D = some (.lst acc) → ∀ N : Hp → Prop, (∀ H3, Same H H3 → f i = false → N H3) → (∀ y H4, Same H H4 → f i = true → R i y (hide D H4) → ∃ acc, H4 D = some (.lst acc) ∧ acc.length < sizeLine ∧ N (upd H4 D (.lst (acc ++ [y])))) →
      tt ((wipe σ vs).set j (some (nV i))) H fun b H3 => if b = true then te ((wipe σ vs).set j (some (nV i))) H3 fun y H4 => ∃ acc, H4 D = some (.lst acc) ∧ acc.length < sizeLine ∧ N (upd H4 D (.lst (acc ++ [y]))) else N H3)
    (hd : ∀ H ys, Same H1 H → H D = some (.lst ys) → Paired (fun k y => R k y (hide D H)) ((List.range n).filter f) ys → Qd H) :
    ∃ W : Nat → Nat → Hp → Prop, (∃ m, W 0 m (upd H1 D (.lst []))) ∧ ∀ i m H, W i m H →
      ((Itr 0 n).stop i H ∧ Qd H) ∨ ((Itr 0 n).go i H ∧ ∃ Nx : Hp → Prop, (∀ H', Nx H' → ∃ m', m' < m ∧ W (i + 1) m' H') ∧ ∀ x H', (Itr 0 n).yld i H x H' → gName j x (wipe σ vs) H' fun σ2 H2 => wipe σ2 vs = wipe σ vs ∧ tt σ2 H2 fun b H3 =>
        if b = true then te σ2 H3 fun y H4 => ∃ acc, H4 D = some (.lst acc) ∧ acc.length < sizeLine ∧ Nx (upd H4 D (.lst (acc ++ [y]))) else Nx H3) := by
  refine lc_range (lo := 0) (n := n) (Gave R f H1 D) (Gave.start hD) (fun i H hi hP => ?_) (fun H hP => ?_)
  · obtain ⟨e, ys, hY, hp⟩ := hP
    have hyl := Gave.len hp
    rw [Int.zero_add]
    refine ⟨wipe_own hv _, hs i H ys hi e hY _ (fun H3 e3 hf => Gave.no mono e hY hp e3 hf) (fun y H4 e4 hf hr => ⟨ys, e4 _ _ hY, szl (by omega), Gave.yes mono hD e hp e4 hf hr⟩)⟩
  · obtain ⟨e, ys, hY, hp⟩ := hP
    exact hd H ys e hY hp
end
theorem filter_yes (n : Nat) : (List.range n).filter (fun _ => true) = List.range n := by simp
theorem paired_eq {α : Type} {F : α → V} : ∀ {l : List α} {ys : List V}, Paired (fun i y => y = F i) l ys → ys = l.map F
  | [], [], .nil => rfl
  | _ :: _, _ :: _, .cons h t => by rw [h, paired_eq t]; rfl
theorem paired_refs {R : Nat → Addr → Prop} : ∀ {l : List Nat} {ys : List V}, Paired (fun i y => ∃ b, y = .ref b ∧ R i b) l ys → ∃ r : List Addr, ys = r.map V.ref ∧ Paired R l r
  | [], [], .nil => ⟨[], rfl, .nil⟩
  | _ :: _, _ :: _, .cons ⟨b, h, hr⟩ t => by
    obtain ⟨r, h1, h2⟩ := paired_refs t
    exact ⟨b :: r, by rw [h, h1]; rfl, .cons hr h2⟩
/-! ## The law's worlds and rows -/
/-- whether each thing has a mark, whether each tie leads -/
structure PW where
  n : Nat
  mb : Str → Nat → Bool
  tb : Str → Nat → Nat → Bool
def bls (n : Nat) (f : Nat → Bool) : List V := (List.range n).map fun i => .bl (f i)
theorem bls_len {n : Nat} {f : Nat → Bool} : (bls n f).length = n := by simp [bls]
theorem bls_at {n i : Nat} {f : Nat → Bool} (h : i < n) : (bls n f)[i]? = some (.bl (f i)) := by simp [bls, h]
theorem bls_congr {n : Nat} {f g : Nat → Bool} (h : ∀ i, i < n → f i = g i) : bls n f = bls n g := List.map_congr_left fun i hi => by rw [h i (List.mem_range.mp hi)]
def GridAt (H : Hp) (a : Addr) (n : Nat) (f : Nat → Nat → Bool) : Prop := ∃ r : List Addr, H a = some (.lst (r.map V.ref)) ∧ Paired (fun i b => H b = some (.lst (bls n (f i)))) (List.range n) r
theorem GridAt.mono {G H : Hp} {a : Addr} {n : Nat} {f : Nat → Nat → Bool} (h : GridAt G a n f) (e : Same G H) : GridAt H a n f := let ⟨r, h1, h2⟩ := h; ⟨r, e _ _ h1, Paired.mapP h2 fun _ _ q => e _ _ q⟩
theorem paired_mem {α β : Type} {F G : α → β → Prop} : ∀ {l : List α} {r : List β}, Paired F l r → (∀ a b, a ∈ l → F a b → G a b) → Paired G l r
  | [], [], .nil, _ => .nil
  | _ :: _, _ :: _, .cons h t, k => .cons (k _ _ (List.mem_cons_self ..) h) (paired_mem t fun a b ha => k a b (List.mem_cons_of_mem _ ha))
theorem GridAt.congr {H : Hp} {a : Addr} {n : Nat} {f g : Nat → Nat → Bool} (h : GridAt H a n f) (k : ∀ i j, i < n → j < n → f i j = g i j) : GridAt H a n g := by
  obtain ⟨r, h1, h2⟩ := h
  refine ⟨r, h1, paired_mem h2 fun i b hi q => ?_⟩
  rw [q, bls_congr fun j hj => k i j (List.mem_range.mp hi) hj]
theorem GridAt.row {H : Hp} {a : Addr} {n : Nat} {f : Nat → Nat → Bool} (h : GridAt H a n f) : ∃ r : List Addr, H a = some (.lst (r.map V.ref)) ∧ r.length = n ∧ ∀ i, i < n → ∃ b, r[i]? = some b ∧ H b = some (.lst (bls n (f i))) := by
  obtain ⟨r, h1, h2⟩ := h
  have hl := Paired.length h2
  rw [List.length_range] at hl
  refine ⟨r, h1, hl.symm, fun i hi => ?_⟩
  have hb := List.getElem?_eq_getElem (show i < r.length by omega)
  obtain ⟨k, hk, q⟩ := Paired.at h2 hb
  rw [List.getElem?_range hi] at hk
  cases hk
  exact ⟨_, hb, q⟩
def PlainAt (H : Hp) (a : Addr) (T : Tng) (W : PW) : Prop := ∃ (am at_ : Addr) (fm ft : Str → Addr), H a = some (.tup [nV W.n, .ref am, .ref at_]) ∧ H am = some (.dK (dR (withA T.marks fm))) ∧ (∀ m ∈ T.marks, H (fm m) = some (.lst (bls W.n (W.mb m)))) ∧ H at_ = some (.dK (dR (withA T.ties ft))) ∧ ∀ t ∈ T.ties, GridAt H (ft t) W.n (W.tb t)
theorem PlainAt.mono {G H : Hp} {a : Addr} {T : Tng} {W : PW} (h : PlainAt G a T W) (e : Same G H) : PlainAt H a T W := by
  obtain ⟨am, at_, fm, ft, h1, h2, h3, h4, h5⟩ := h
  exact ⟨am, at_, fm, ft, e _ _ h1, e _ _ h2, fun m hm => e _ _ (h3 m hm), e _ _ h4, fun t ht => (h5 t ht).mono e⟩
def prs (n : Nat) (f : Nat → Nat → Bool) : List (Nat × Nat) := (List.range n).flatMap fun i => ((List.range n).filter (f i)).map fun j => (i, j)
theorem prs_mem {n : Nat} {f : Nat → Nat → Bool} {i j : Nat} : (i, j) ∈ prs n f ↔ i < n ∧ j < n ∧ f i j = true := by
  unfold prs
  simp only [List.mem_flatMap, List.mem_map, List.mem_filter, List.mem_range, Prod.mk.injEq]
  constructor
  · rintro ⟨a, ha, b, ⟨hb, hf⟩, rfl, rfl⟩
    exact ⟨ha, hb, hf⟩
  · rintro ⟨ha, hb, hf⟩
    exact ⟨i, ha, j, ⟨hb, hf⟩, rfl, rfl⟩
def PW.wd (W : PW) (T : Tng) : Wd := ⟨T, W.n, fun m => (List.range W.n).filter (W.mb m), fun t => prs W.n (W.tb t)⟩
theorem wd_m {W : PW} {T : Tng} {m : Str} {i : Nat} (h : i < W.n) : decide (i ∈ (W.wd T).ms m) = W.mb m i := by
  show decide (i ∈ (List.range W.n).filter (W.mb m)) = _
  cases q : W.mb m i with
  | true => exact decide_eq_true (List.mem_filter.mpr ⟨List.mem_range.mpr h, q⟩)
  | false => exact decide_eq_false fun z => by rw [(List.mem_filter.mp z).2] at q; cases q
theorem wd_t {W : PW} {T : Tng} {t : Str} {i j : Nat} (hi : i < W.n) (hj : j < W.n) : decide ((i, j) ∈ (W.wd T).ts t) = W.tb t i j := by
  show decide ((i, j) ∈ prs W.n (W.tb t)) = _
  cases q : W.tb t i j with
  | true => exact decide_eq_true (prs_mem.mpr ⟨hi, hj, q⟩)
  | false => exact decide_eq_false fun z => by rw [(prs_mem.mp z).2.2] at q; cases q
/-- a span of a number of things -/
def spn (n : Nat) : List V := (List.range n).map nV
theorem spn_len {n : Nat} : (spn n).length = n := by simp [spn]
theorem spn_at {n i : Nat} {x : V} (h : (spn n)[i]? = some x) : i < n ∧ x = nV i := by
  unfold spn at h
  obtain ⟨k, hk, rfl⟩ := map_at h
  have hi := (List.getElem?_eq_some_iff.mp hk).1
  rw [List.length_range] at hi
  rw [List.getElem?_range hi] at hk
  cases hk
  exact ⟨hi, rfl⟩
theorem rgV_spn (n : Nat) : rgV 0 (n : Int) = spn n := by
  unfold rgV spn
  rw [show ((n : Int) - 0).toNat = n by omega]
  exact List.map_congr_left fun i _ => by rw [Int.zero_add]
section
variable {K : PySem.W.Frag} {D sp : Addr} {H1 : Hp} {te : TE} {wi : TI} {vs1 vs2 : List Nat} {j1 j2 n : Nat} {σ : L2.St} {Qd : Hp → Prop}
/-- a grid of bools, over a span of things twice -/
theorem grid_list (h : Nat → Nat → Bool) (hD : H1 D = none) (hsp : H1 sp = some (.lst (spn n))) (hn : n ≤ 1000) (hv1 : vs1 = [j1])
    (hv2 : vs2 = [j2])
    (hwi : ∀ i H, Same H1 H → ∀ R : It → Hp → Prop, R (Itl K sp) H → wi ((wipe σ vs1).set j1 (some (nV i))) H R)
    (hs : ∀ i j H, i < n → j < n → Same H1 H → ∀ Q' : VK, (∀ H4, Same H H4 → Q' (.bl (h i j)) H4) → te ((wipe ((wipe σ vs1).set j1 (some (nV i))) vs2).set j2 (some (nV j))) H Q')
    (hd : ∀ H, Same H1 H → GridAt H D n h → Qd H) :
    ∃ W : Nat → Nat → Hp → Prop, (∃ m, W 0 m (upd H1 D (.lst []))) ∧ ∀ i m H, W i m H →
      ((Itl K sp).stop i H ∧ Qd H) ∨ ((Itl K sp).go i H ∧ ∃ Nx : Hp → Prop, (∀ H', Nx H' → ∃ m', m' < m ∧ W (i + 1) m' H') ∧ ∀ x H', (Itl K sp).yld i H x H' → gName j1 x (wipe σ vs1) H' fun σ2 H2 => wipe σ2 vs1 = wipe σ vs1 ∧ tYes σ2 H2 fun b H3 =>
        if b = true then tLc wi (gName j2) tYes te vs2 σ2 H3 fun y H4 => ∃ acc, H4 D = some (.lst acc) ∧ acc.length < sizeLine ∧ Nx (upd H4 D (.lst (acc ++ [y]))) else Nx H3) := by
  refine lc_listF (fun i y H => ∃ b, y = .ref b ∧ H b = some (.lst (bls n (h i)))) (fun _ => true) hD hsp (by rw [spn_len]; exact hn) (fun k y H H' e ⟨b, h1, h2⟩ => ⟨b, h1, e _ _ h2⟩) hv1 (fun i x H acc hx e hY N k1 k2 => ?_) (fun H ys e hY hp => ?_)
  · obtain ⟨hi, rfl⟩ := spn_at hx
    refine yesI ?_
    refine hwi i H e _ fun D2 hD2 => ?_
    refine lc_listF (fun j y _ => y = .bl (h i j)) (fun _ => true) hD2 (e _ _ hsp) (by rw [spn_len]; exact hn) (fun _ _ _ _ _ q => q) hv2 (fun j x2 H2 acc2 hx2 e2 hY2 N2 k3 k4 => ?_) (fun H2 ys2 e2 hY2 hp2 => ?_)
    · obtain ⟨hj, rfl⟩ := spn_at hx2
      refine yesI ?_
      exact hs i j H2 hi hj (e.trans e2) _ fun H4 e4 => k4 _ H4 e4 rfl rfl
    · rw [filter_yes, spn_len] at hp2
      have hz := paired_eq hp2
      refine k2 (.ref D2) H2 e2 rfl ⟨D2, rfl, ?_⟩
      rw [hide_ne (fun z => by rw [z, hY] at hD2; cases hD2), hY2, hz]
      rfl
  · rw [filter_yes, spn_len] at hp
    obtain ⟨r, h1, h2⟩ := paired_refs hp
    exact hd H e ⟨r, by rw [hY, h1], Paired.mapP h2 fun i b q => hide_same _ _ q⟩
theorem grid_range (h : Nat → Nat → Bool) (hD : H1 D = none) (hn : n ≤ 1000) (hv1 : vs1 = [j1])
    (hv2 : vs2 = [j2])
    (hwi : ∀ i H, Same H1 H → ∀ R : It → Hp → Prop, R (Itr 0 n) H → wi ((wipe σ vs1).set j1 (some (nV i))) H R)
    (hs : ∀ i j H, i < n → j < n → Same H1 H → ∀ Q' : VK, (∀ H4, Same H H4 → Q' (.bl (h i j)) H4) → te ((wipe ((wipe σ vs1).set j1 (some (nV i))) vs2).set j2 (some (nV j))) H Q')
    (hd : ∀ H, Same H1 H → GridAt H D n h → Qd H) :
    ∃ W : Nat → Nat → Hp → Prop, (∃ m, W 0 m (upd H1 D (.lst []))) ∧ ∀ i m H, W i m H →
      ((Itr 0 n).stop i H ∧ Qd H) ∨ ((Itr 0 n).go i H ∧ ∃ Nx : Hp → Prop, (∀ H', Nx H' → ∃ m', m' < m ∧ W (i + 1) m' H') ∧ ∀ x H', (Itr 0 n).yld i H x H' → gName j1 x (wipe σ vs1) H' fun σ2 H2 => wipe σ2 vs1 = wipe σ vs1 ∧ tYes σ2 H2 fun b H3 =>
        if b = true then tLc wi (gName j2) tYes te vs2 σ2 H3 fun y H4 => ∃ acc, H4 D = some (.lst acc) ∧ acc.length < sizeLine ∧ Nx (upd H4 D (.lst (acc ++ [y]))) else Nx H3) := by
  refine lc_rangeF (fun i y H => ∃ b, y = .ref b ∧ H b = some (.lst (bls n (h i)))) (fun _ => true) hD hn (fun k y H H' e ⟨b, h1, h2⟩ => ⟨b, h1, e _ _ h2⟩) hv1 (fun i H acc hi e hY N k1 k2 => ?_) (fun H ys e hY hp => ?_)
  · refine yesI ?_
    refine hwi i H e _ fun D2 hD2 => ?_
    refine lc_rangeF (fun j y _ => y = .bl (h i j)) (fun _ => true) hD2 hn (fun _ _ _ _ _ q => q) hv2 (fun j H2 acc2 hj e2 hY2 N2 k3 k4 => ?_) (fun H2 ys2 e2 hY2 hp2 => ?_)
    · refine yesI ?_
      exact hs i j H2 hi hj (e.trans e2) _ fun H4 e4 => k4 _ H4 e4 rfl rfl
    · rw [filter_yes] at hp2
      have hz := paired_eq hp2
      refine k2 (.ref D2) H2 e2 rfl ⟨D2, rfl, ?_⟩
      rw [hide_ne (fun z => by rw [z, hY] at hD2; cases hD2), hY2, hz]
      rfl
  · rw [filter_yes] at hp
    obtain ⟨r, h1, h2⟩ := paired_refs hp
    exact hd H e ⟨r, by rw [hY, h1], Paired.mapP h2 fun i b q => hide_same _ _ q⟩
end
end K48
namespace K48
open PySem PySem.Spec PyProof.Rows L2
local macro_rules | `(tactic| walk_at "rd") => `(tactic| repeat (first | refine ⟨_, rfl, ?_⟩ | refine ⟨_, _, rfl, rfl, ?_⟩ | refine ⟨rfl, ?_⟩ | refine iteTk (by decide +kernel) ?_ | refine iteFk (by decide +kernel) ?_))
local macro_rules | `(tactic| walk_at "rdr") => `(tactic| repeat (first | refine ⟨_, rfl, ?_⟩ | refine ⟨_, _, rfl, rfl, ?_⟩ | refine ⟨rfl, ?_⟩ | refine iteTk (by first | decide +kernel | rfl) ?_ | refine iteFk (by first | decide +kernel | rfl) ?_))
local macro_rules | `(tactic| walk_at "tyn") => `(tactic| first | exact .int _ | exact .bl _ | exact .str _ | exact .tup (by assumption) | exact .lst (by assumption) | exact .dK (by assumption))
local macro_rules | `(tactic| walk_at "isT") => `(tactic| refine ⟨_, _, _, _, true, rfl, .ty _, TyN.x (by walk_at "tyn"), kit_ty (by decide +kernel), ?_⟩)
local macro_rules | `(tactic| walk_at "isF") => `(tactic| refine ⟨_, _, _, _, false, rfl, .ty _, TyN.x (by walk_at "tyn"), kit_ty (by decide +kernel), ?_⟩)
local macro_rules | `(tactic| walk_at "nz") => `(tactic| first | refine nzG (by simp only [List.set_cons_succ, List.set_cons_zero]; rfl) ?_ | refine reS (by simp only [List.set_cons_succ, List.set_cons_zero]; rfl) ?_)
theorem flat_bls {n : Nat} {f : Nat → Bool} : (bls n f).all flatV = true := by
  rw [List.all_eq_true]
  intro x hx
  obtain ⟨i, _, rfl⟩ := List.mem_map.mp hx
  rfl
theorem inV_false {n : Nat} {f : Nat → Bool} : (!inV (.bl false) (bls n f)) = (List.range n).all f := by
  unfold inV bls
  rw [List.any_map]
  induction List.range n with
  | nil => rfl
  | cons i l ih =>
    rw [List.any_cons, List.all_cons, ← ih, Bool.not_or]
    congr 1
    show (!(f i == false)) = f i
    cases f i <;> rfl
theorem inV_true {n : Nat} {f : Nat → Bool} : inV (.bl true) (bls n f) = (List.range n).any f := by
  unfold inV bls
  rw [List.any_map]
  induction List.range n with
  | nil => rfl
  | cons i l ih =>
    rw [List.any_cons, List.any_cons, ← ih]
    congr 1
    show (f i == true) = f i
    cases f i <;> rfl
/-- some (true), or each (false) -/
def bndf (b : Bool) (n : Nat) (g : Nat → Bool) : Bool := if b = true then (List.range n).any g else (List.range n).all g
def bndg (b : Bool) (v : Nm) (n : Nat) (f : Nat → Nat → Bool) (i j : Nat) : Bool := match v with
  | .x => bndf b n fun k => f k j
  | .y => bndf b n fun k => f i k
section
variable {P : Program} {w : World} {K : PySem.W.Frag} {mg : Str → Option Value} {base : Heap} {cT cW : Addr}
def spJoined : Sp := fun vs H Q _ => ∃ (G : Hp) (a b : Addr) (n : Nat) (f g : Nat → Nat → Bool) (j : Bool), vs = [.str (if j = true then "and" else "or"), .ref a, .ref b] ∧ Same G H ∧ GridAt G a n f ∧ GridAt G b n g ∧ n ≤ 15 ∧ ∀ l H', Same H H' → GridAt H' l n (fun i k => if j = true then f i k && g i k else f i k || g i k) → Q (.ref l) H'
theorem ok_joined (B : Blt mg) (D : Def K mg "_law_joined" s_law_joined) : CallOk P w K mg base 1 "_law_joined" P_law_joined spJoined := by
  refine callOk D sc_law_joined bd_law_joined (fun vs H Q E h => ?_) (fun f cdv A outer st H vs Q E hr h => ?_)
  · obtain ⟨G, a, b, n, f, g, j, rfl, _⟩ := h
    rfl
  obtain ⟨G, a, b, n, fa, fb, j, rfl, eG, hA, hB, hn, q⟩ := h
  refine ⟨_, pss_cons (ps_if (pt_cmpR op_eq (pv 0) (pe_str) (nomark _)) (pss_one (ps_ret (pe_lc (own := [("_law_x", 4)]) (g := gName 4) (tt := tYes) (by rfl) sc_law_joined.nd (pi_range1 (by rfl) B.range (pa_cons (pe_callB call_len_seq (by rfl) B.len bo_len (pa_cons (pv 1) pa_nil)) pa_nil)) (blkOk_by (own := [("_law_x", 4)]) (N := N_law_joined) (by kernel_rfl)) (fun _ _ _ _ _ => pg_name (i := 4) sc_law_joined.nd rfl (Or.inr rfl)) (fun _ _ _ _ _ => pts_nil) (fun _ _ _ _ _ => pe_lc (own := [("_law_y", 3)]) (g := gName 3) (tt := tYes) (by rfl) sc_law_joined.nd (pi_range1 (by rfl) B.range (pa_cons (pe_callB (call_len_seqK (K := K) rfl) (by rfl) B.len bo_len (pa_cons (pv 1) pa_nil)) pa_nil)) (blkOk_by (own := [("_law_y", 3)]) (N := N_law_joined) (by kernel_rfl)) (fun _ _ _ _ _ => pg_name (i := 3) sc_law_joined.nd rfl (Or.inl rfl)) (fun _ _ _ _ _ => pts_nil) (fun _ _ _ _ _ => pe_and (pe_ix (ix_listK (K := K) rfl) (pe_ix (ix_listK (K := K) rfl) (pv 1) (pv 4) (fun _ _ => rfl)) (pv 3) (fun _ _ => rfl)) (pe_one (pe_ix (ix_listK (K := K) rfl) (pe_ix (ix_listK (K := K) rfl) (pv 2) (pv 4) (fun _ _ => rfl)) (pv 3) (fun _ _ => rfl)))))))) (pss_nil)) (pss_one (ps_ret (pe_lc (own := [("_law_x", 4)]) (g := gName 4) (tt := tYes) (by rfl) sc_law_joined.nd (pi_range1 (by rfl) B.range (pa_cons (pe_callB call_len_seq (by rfl) B.len bo_len (pa_cons (pv 1) pa_nil)) pa_nil)) (blkOk_by (own := [("_law_x", 4)]) (N := N_law_joined) (by kernel_rfl)) (fun _ _ _ _ _ => pg_name (i := 4) sc_law_joined.nd rfl (Or.inr rfl)) (fun _ _ _ _ _ => pts_nil) (fun _ _ _ _ _ => pe_lc (own := [("_law_y", 3)]) (g := gName 3) (tt := tYes) (by rfl) sc_law_joined.nd (pi_range1 (by rfl) B.range (pa_cons (pe_callB (call_len_seqK (K := K) rfl) (by rfl) B.len bo_len (pa_cons (pv 1) pa_nil)) pa_nil)) (blkOk_by (own := [("_law_y", 3)]) (N := N_law_joined) (by kernel_rfl)) (fun _ _ _ _ _ => pg_name (i := 3) sc_law_joined.nd rfl (Or.inl rfl)) (fun _ _ _ _ _ => pts_nil) (fun _ _ _ _ _ => pe_or (pe_ix (ix_listK (K := K) rfl) (pe_ix (ix_listK (K := K) rfl) (pv 1) (pv 4) (fun _ _ => rfl)) (pv 3) (fun _ _ => rfl)) (pe_one (pe_ix (ix_listK (K := K) rfl) (pe_ix (ix_listK (K := K) rfl) (pv 2) (pv 4) (fun _ _ => rfl)) (pv 3) (fun _ _ => rfl)))))))), ?_⟩
  obtain ⟨ra, ha, hla, hra⟩ := hA.row
  obtain ⟨rb, hb, hlb, hrb⟩ := hB.row
  walk_at "rd"
  cases j with
  | true =>
    refine iteTk (by decide +kernel) ?_
    walk_at "rd"
    refine ⟨_, _, rfl, .inl (SqL.of (eG _ _ ha)), ?_⟩
    rw [List.length_map, hla]
    walk_at "rd"
    refine ⟨by omega, by omega, fun Dn hDn => ?_⟩
    refine grid_range (n := n) (fun i k => fa i k && fb i k) hDn (by omega) rfl rfl (fun i H2 e R hR => ?_) (fun i k H2 hi hk e Q' kq => ?_) (fun H2 e hg => ?_)
    · walk_at "rd"
      refine ⟨_, _, rfl, .inl (SqL.of (e _ _ (eG _ _ ha))), ?_⟩
      rw [List.length_map, hla]
      walk_at "rd"
      exact ⟨by omega, by omega, hR⟩
    · have eH := eG.trans e
      obtain ⟨xa, hxa, hxa2⟩ := hra i hi
      obtain ⟨xb, hxb, hxb2⟩ := hrb i hi
      walk_at "rd"
      refine ⟨_, _, _, .ref xa, rfl, rfl, SqL.of (eH _ _ ha), atI_nat (j := i) (by rw [List.getElem?_map, hxa]; rfl), ?_⟩
      walk_at "rd"
      refine ⟨_, _, _, .bl (fa i k), rfl, rfl, SqL.of (eH _ _ hxa2), atI_nat (j := k) (bls_at hk), ?_⟩
      walk_at "rd"
      refine iteS (fun hc => ?_) (fun hc => ?_)
      · have hc : fa i k = true := hc
        walk_at "rd"
        refine ⟨_, _, _, .ref xb, rfl, rfl, SqL.of (eH _ _ hb), atI_nat (j := i) (by rw [List.getElem?_map, hxb]; rfl), ?_⟩
        walk_at "rd"
        refine ⟨_, _, _, .bl (fb i k), rfl, rfl, SqL.of (eH _ _ hxb2), atI_nat (j := k) (bls_at hk), ?_⟩
        have := kq H2 (Same.refl _)
        rw [hc, Bool.true_and] at this
        exact this
      · have hc : fa i k = false := hc
        have := kq H2 (Same.refl _)
        rw [hc, Bool.false_and] at this
        exact this
    · exact q _ H2 e (hg.congr fun i k _ _ => rfl)
  | false =>
    refine iteFk (by decide +kernel) ?_
    walk_at "rd"
    refine ⟨_, _, rfl, .inl (SqL.of (eG _ _ ha)), ?_⟩
    rw [List.length_map, hla]
    walk_at "rd"
    refine ⟨by omega, by omega, fun Dn hDn => ?_⟩
    refine grid_range (n := n) (fun i k => fa i k || fb i k) hDn (by omega) rfl rfl (fun i H2 e R hR => ?_) (fun i k H2 hi hk e Q' kq => ?_) (fun H2 e hg => ?_)
    · walk_at "rd"
      refine ⟨_, _, rfl, .inl (SqL.of (e _ _ (eG _ _ ha))), ?_⟩
      rw [List.length_map, hla]
      walk_at "rd"
      exact ⟨by omega, by omega, hR⟩
    · have eH := eG.trans e
      obtain ⟨xa, hxa, hxa2⟩ := hra i hi
      obtain ⟨xb, hxb, hxb2⟩ := hrb i hi
      walk_at "rd"
      refine ⟨_, _, _, .ref xa, rfl, rfl, SqL.of (eH _ _ ha), atI_nat (j := i) (by rw [List.getElem?_map, hxa]; rfl), ?_⟩
      walk_at "rd"
      refine ⟨_, _, _, .bl (fa i k), rfl, rfl, SqL.of (eH _ _ hxa2), atI_nat (j := k) (bls_at hk), ?_⟩
      walk_at "rd"
      refine iteS (fun hc => ?_) (fun hc => ?_)
      · have hc : fa i k = true := hc
        have := kq H2 (Same.refl _)
        rw [hc, Bool.true_or] at this
        exact this
      · have hc : fa i k = false := hc
        walk_at "rd"
        refine ⟨_, _, _, .ref xb, rfl, rfl, SqL.of (eH _ _ hb), atI_nat (j := i) (by rw [List.getElem?_map, hxb]; rfl), ?_⟩
        walk_at "rd"
        refine ⟨_, _, _, .bl (fb i k), rfl, rfl, SqL.of (eH _ _ hxb2), atI_nat (j := k) (bls_at hk), ?_⟩
        have := kq H2 (Same.refl _)
        rw [hc, Bool.false_or] at this
        exact this
    · exact q _ H2 e (hg.congr fun i k _ _ => rfl)
def spLBound : Sp := fun vs H Q _ => ∃ (G : Hp) (sp a : Addr) (n : Nat) (f : Nat → Nat → Bool) (b : Bool) (v : Nm), vs = [.ref sp, .str (if b = true then "some" else "each"), .str v.s, .ref a] ∧ Same G H ∧ G sp = some (.lst (spn n)) ∧ GridAt G a n f ∧ n ≤ 15 ∧ ∀ l H', Same H H' → GridAt H' l n (bndg b v n f) → Q (.ref l) H'
theorem ok_lbound (B : Blt mg) (D : Def K mg "_law_bound" s_law_bound) : CallOk P w K mg base 1 "_law_bound" P_law_bound spLBound := by
  refine callOk D sc_law_bound bd_law_bound (fun vs H Q E h => ?_) (fun f cdv A outer st H vs Q E hr h => ?_)
  · obtain ⟨G, sp, a, n, f, b, v, rfl, _⟩ := h
    rfl
  obtain ⟨G, sp, a, n, fa, b, v, rfl, eG, hsp, hA, hn, q⟩ := h
  refine ⟨_, pss_cons (ps_if (pt_cmpR op_eq (pv 2) (pe_str) (nomark _)) (pss_cons (ps_if (pt_cmpR op_eq (pv 1) (pe_str) (nomark _)) (pss_one (ps_set (i := 4) sc_law_bound.nd rfl (.inr rfl) (pe_lc (own := [("_law_x", 5)]) (g := gName 5) (tt := tYes) (by rfl) sc_law_bound.nd (pi_list (pv 0)) (blkOk_by (own := [("_law_x", 5)]) (N := N_law_bound) (by kernel_rfl)) (fun _ _ _ _ _ => pg_name (i := 5) sc_law_bound.nd rfl (Or.inl rfl)) (fun _ _ _ _ _ => pts_nil) (fun _ _ _ _ _ => pe_cmpR (op_notIn_seqK (K := K) rfl) (pe_bl) (pe_ix (ix_listK (K := K) rfl) (pv 3) (pv 5) (fun _ _ => rfl)) (by rfl))))) (pss_one (ps_set (i := 4) sc_law_bound.nd rfl (.inr rfl) (pe_lc (own := [("_law_x", 5)]) (g := gName 5) (tt := tYes) (by rfl) sc_law_bound.nd (pi_list (pv 0)) (blkOk_by (own := [("_law_x", 5)]) (N := N_law_bound) (by kernel_rfl)) (fun _ _ _ _ _ => pg_name (i := 5) sc_law_bound.nd rfl (Or.inl rfl)) (fun _ _ _ _ _ => pts_nil) (fun _ _ _ _ _ => pe_cmpR (op_in_seqK (K := K) rfl) (pe_bl) (pe_ix (ix_listK (K := K) rfl) (pv 3) (pv 5) (fun _ _ => rfl)) (by rfl)))))) (pss_one (ps_ret (pe_lc (own := [("_law_x", 5)]) (g := gName 5) (tt := tYes) (by rfl) sc_law_bound.nd (pi_list (pv 0)) (blkOk_by (own := [("_law_x", 5)]) (N := N_law_bound) (by kernel_rfl)) (fun _ _ _ _ _ => pg_name (i := 5) sc_law_bound.nd rfl (Or.inr rfl)) (fun _ _ _ _ _ => pts_nil) (fun _ _ _ _ _ => pe_lc (own := [("_law_y", 6)]) (g := gName 6) (tt := tYes) (by rfl) sc_law_bound.nd ((pi_listK (K := K) rfl) (pv 0)) (blkOk_by (own := [("_law_y", 6)]) (N := N_law_bound) (by kernel_rfl)) (fun _ _ _ _ _ => pg_name (i := 6) sc_law_bound.nd rfl (Or.inl rfl)) (fun _ _ _ _ _ => pts_nil) (fun _ _ _ _ _ => pe_ix (ix_listK (K := K) rfl) (pv 4) (pv 5) (fun _ _ => rfl))))))) (pss_nil)) (pss_cons (ps_set (i := 7) sc_law_bound.nd rfl (.inr rfl) (pe_lc (own := [("_law_y", 6)]) (g := gName 6) (tt := tYes) (by rfl) sc_law_bound.nd (pi_list (pv 0)) (blkOk_by (own := [("_law_y", 6)]) (N := N_law_bound) (by kernel_rfl)) (fun _ _ _ _ _ => pg_name (i := 6) sc_law_bound.nd rfl (Or.inr rfl)) (fun _ _ _ _ _ => pts_nil) (fun _ _ _ _ _ => pe_lc (own := [("_law_x", 5)]) (g := gName 5) (tt := tYes) (by rfl) sc_law_bound.nd ((pi_listK (K := K) rfl) (pv 0)) (blkOk_by (own := [("_law_x", 5)]) (N := N_law_bound) (by kernel_rfl)) (fun _ _ _ _ _ => pg_name (i := 5) sc_law_bound.nd rfl (Or.inl rfl)) (fun _ _ _ _ _ => pts_nil) (fun _ _ _ _ _ => pe_ix (ix_listK (K := K) rfl) (pe_ix (ix_listK (K := K) rfl) (pv 3) (pv 5) (fun _ _ => rfl)) (pv 6) (fun _ _ => rfl))))) (pss_cons (ps_if (pt_cmpR op_eq (pv 1) (pe_str) (nomark _)) (pss_one (ps_set (i := 4) sc_law_bound.nd rfl (.inr rfl) (pe_lc (own := [("_law_y", 6)]) (g := gName 6) (tt := tYes) (by rfl) sc_law_bound.nd (pi_list (pv 0)) (blkOk_by (own := [("_law_y", 6)]) (N := N_law_bound) (by kernel_rfl)) (fun _ _ _ _ _ => pg_name (i := 6) sc_law_bound.nd rfl (Or.inl rfl)) (fun _ _ _ _ _ => pts_nil) (fun _ _ _ _ _ => pe_cmpR (op_notIn_seqK (K := K) rfl) (pe_bl) (pe_ix (ix_listK (K := K) rfl) (pv 7) (pv 6) (fun _ _ => rfl)) (by rfl))))) (pss_one (ps_set (i := 4) sc_law_bound.nd rfl (.inr rfl) (pe_lc (own := [("_law_y", 6)]) (g := gName 6) (tt := tYes) (by rfl) sc_law_bound.nd (pi_list (pv 0)) (blkOk_by (own := [("_law_y", 6)]) (N := N_law_bound) (by kernel_rfl)) (fun _ _ _ _ _ => pg_name (i := 6) sc_law_bound.nd rfl (Or.inl rfl)) (fun _ _ _ _ _ => pts_nil) (fun _ _ _ _ _ => pe_cmpR (op_in_seqK (K := K) rfl) (pe_bl) (pe_ix (ix_listK (K := K) rfl) (pv 7) (pv 6) (fun _ _ => rfl)) (by rfl)))))) (pss_one (ps_ret (pe_lc (own := [("_law_x", 5)]) (g := gName 5) (tt := tYes) (by rfl) sc_law_bound.nd (pi_list (pv 0)) (blkOk_by (own := [("_law_x", 5)]) (N := N_law_bound) (by kernel_rfl)) (fun _ _ _ _ _ => pg_name (i := 5) sc_law_bound.nd rfl (Or.inl rfl)) (fun _ _ _ _ _ => pts_nil) (fun _ _ _ _ _ => pe_lc (own := [("_law_y", 6)]) (g := gName 6) (tt := tYes) (by rfl) sc_law_bound.nd ((pi_listK (K := K) rfl) (pv 0)) (blkOk_by (own := [("_law_y", 6)]) (N := N_law_bound) (by kernel_rfl)) (fun _ _ _ _ _ => pg_name (i := 6) sc_law_bound.nd rfl (Or.inl rfl)) (fun _ _ _ _ _ => pts_nil) (fun _ _ _ _ _ => pe_ix (ix_listK (K := K) rfl) (pv 4) (pv 6) (fun _ _ => rfl)))))))), ?_⟩
  obtain ⟨ra, ha, hla, hra⟩ := hA.row
  cases v with
  | y =>
    walk_at "rd"
    cases b with
    | false =>
      refine iteTk (by decide +kernel) ?_
      walk_at "rd"
      refine ⟨⟨_, SqL.of (eG _ _ hsp)⟩, fun D1 hD1 => ?_⟩
      refine lc_listF (fun i y _ => y = .bl (bndf false n (fa i))) (fun _ => true) hD1 (eG _ _ hsp) (by rw [spn_len]; omega) (fun _ _ _ _ _ h => h) rfl (fun i x H2 acc hx e2 hY N k1 k2 => ?_) (fun H2 ys e2 hY hp => ?_)
      · obtain ⟨hi, rfl⟩ := spn_at hx
        obtain ⟨xb, hxb, hxb2⟩ := hra i hi
        walk_at "rd"
        refine ⟨_, _, _, .ref xb, rfl, rfl, SqL.of (e2 _ _ (eG _ _ ha)), atI_nat (j := i) (by rw [List.getElem?_map, hxb]; rfl), ?_⟩
        refine ⟨_, _, rfl, .inl (SqL.of (e2 _ _ (eG _ _ hxb2))), rfl, flat_bls, ?_⟩
        exact k2 _ H2 (Same.refl _) rfl (congrArg V.bl inV_false)
      · rw [filter_yes, spn_len] at hp
        have hz := paired_eq hp
        rw [hz] at hY
        walk_at "rd"
        refine ⟨⟨_, SqL.of (e2 _ _ (eG _ _ hsp))⟩, fun D2 hD2 => ?_⟩
        refine grid_list (K := K) (sp := sp) (n := n) (fun i _ => bndf false n (fa i)) hD2 (e2 _ _ (eG _ _ hsp)) (by omega) rfl rfl (fun i H3 e3 R hR => ⟨_, rfl, _, rfl, ⟨_, SqL.of (e3 _ _ (e2 _ _ (eG _ _ hsp)))⟩, hR⟩) (fun i j H3 hi hj e3 Q' kq => ?_) (fun H3 e3 hg => ?_)
        · walk_at "rd"
          refine ⟨_, _, _, .bl (bndf false n (fa i)), rfl, rfl, SqL.of (e3 _ _ hY), atI_nat (j := i) (by rw [List.getElem?_map, List.getElem?_range hi]; rfl), ?_⟩
          exact kq H3 (Same.refl _)
        · exact q _ H3 (e2.trans e3) (hg.congr fun i j _ _ => rfl)
    | true =>
      refine iteFk (by decide +kernel) ?_
      walk_at "rd"
      refine ⟨⟨_, SqL.of (eG _ _ hsp)⟩, fun D1 hD1 => ?_⟩
      refine lc_listF (fun i y _ => y = .bl (bndf true n (fa i))) (fun _ => true) hD1 (eG _ _ hsp) (by rw [spn_len]; omega) (fun _ _ _ _ _ h => h) rfl (fun i x H2 acc hx e2 hY N k1 k2 => ?_) (fun H2 ys e2 hY hp => ?_)
      · obtain ⟨hi, rfl⟩ := spn_at hx
        obtain ⟨xb, hxb, hxb2⟩ := hra i hi
        walk_at "rd"
        refine ⟨_, _, _, .ref xb, rfl, rfl, SqL.of (e2 _ _ (eG _ _ ha)), atI_nat (j := i) (by rw [List.getElem?_map, hxb]; rfl), ?_⟩
        refine ⟨_, _, rfl, .inl (SqL.of (e2 _ _ (eG _ _ hxb2))), rfl, flat_bls, ?_⟩
        exact k2 _ H2 (Same.refl _) rfl (congrArg V.bl inV_true)
      · rw [filter_yes, spn_len] at hp
        have hz := paired_eq hp
        rw [hz] at hY
        walk_at "rd"
        refine ⟨⟨_, SqL.of (e2 _ _ (eG _ _ hsp))⟩, fun D2 hD2 => ?_⟩
        refine grid_list (K := K) (sp := sp) (n := n) (fun i _ => bndf true n (fa i)) hD2 (e2 _ _ (eG _ _ hsp)) (by omega) rfl rfl (fun i H3 e3 R hR => ⟨_, rfl, _, rfl, ⟨_, SqL.of (e3 _ _ (e2 _ _ (eG _ _ hsp)))⟩, hR⟩) (fun i j H3 hi hj e3 Q' kq => ?_) (fun H3 e3 hg => ?_)
        · walk_at "rd"
          refine ⟨_, _, _, .bl (bndf true n (fa i)), rfl, rfl, SqL.of (e3 _ _ hY), atI_nat (j := i) (by rw [List.getElem?_map, List.getElem?_range hi]; rfl), ?_⟩
          exact kq H3 (Same.refl _)
        · exact q _ H3 (e2.trans e3) (hg.congr fun i j _ _ => rfl)
  | x =>
    walk_at "rd"
    refine ⟨⟨_, SqL.of (eG _ _ hsp)⟩, fun D0 hD0 => ?_⟩
    refine grid_list (K := K) (sp := sp) (n := n) (fun i j => fa j i) hD0 (eG _ _ hsp) (by omega) rfl rfl (fun i H3 e3 R hR => ⟨_, rfl, _, rfl, ⟨_, SqL.of (e3 _ _ (eG _ _ hsp))⟩, hR⟩) (fun i j H3 hi hj e3 Q' kq => ?_) (fun H0 e0 hg => ?_)
    · obtain ⟨xb, hxb, hxb2⟩ := hra j hj
      walk_at "rd"
      refine ⟨_, _, _, .ref xb, rfl, rfl, SqL.of (e3 _ _ (eG _ _ ha)), atI_nat (j := j) (by rw [List.getElem?_map, hxb]; rfl), ?_⟩
      walk_at "rd"
      refine ⟨_, _, _, .bl (fa j i), rfl, rfl, SqL.of (e3 _ _ (eG _ _ hxb2)), atI_nat (j := i) (bls_at hi), ?_⟩
      exact kq H3 (Same.refl _)
    obtain ⟨rc, hc, hlc, hrc⟩ := hg.row
    walk_at "rd"
    cases b with
    | false =>
      refine iteTk (by decide +kernel) ?_
      walk_at "rd"
      refine ⟨⟨_, SqL.of (e0 _ _ (eG _ _ hsp))⟩, fun D1 hD1 => ?_⟩
      refine lc_listF (fun i y _ => y = .bl (bndf false n fun k => fa k i)) (fun _ => true) hD1 (e0 _ _ (eG _ _ hsp)) (by rw [spn_len]; omega) (fun _ _ _ _ _ h => h) rfl (fun i x H2 acc hx e2 hY N k1 k2 => ?_) (fun H2 ys e2 hY hp => ?_)
      · obtain ⟨hi, rfl⟩ := spn_at hx
        obtain ⟨xb, hxb, hxb2⟩ := hrc i hi
        walk_at "rd"
        refine ⟨_, _, _, .ref xb, rfl, rfl, SqL.of (e2 _ _ hc), atI_nat (j := i) (by rw [List.getElem?_map, hxb]; rfl), ?_⟩
        refine ⟨_, _, rfl, .inl (SqL.of (e2 _ _ hxb2)), rfl, flat_bls, ?_⟩
        exact k2 _ H2 (Same.refl _) rfl (congrArg V.bl inV_false)
      · rw [filter_yes, spn_len] at hp
        have hz := paired_eq hp
        rw [hz] at hY
        walk_at "rd"
        refine ⟨⟨_, SqL.of (e2 _ _ (e0 _ _ (eG _ _ hsp)))⟩, fun D2 hD2 => ?_⟩
        refine grid_list (K := K) (sp := sp) (n := n) (fun _ j => bndf false n fun k => fa k j) hD2 (e2 _ _ (e0 _ _ (eG _ _ hsp))) (by omega) rfl rfl (fun i H3 e3 R hR => ⟨_, rfl, _, rfl, ⟨_, SqL.of (e3 _ _ (e2 _ _ (e0 _ _ (eG _ _ hsp))))⟩, hR⟩) (fun i j H3 hi hj e3 Q' kq => ?_) (fun H3 e3 hg => ?_)
        · walk_at "rd"
          refine ⟨_, _, _, .bl (bndf false n fun k => fa k j), rfl, rfl, SqL.of (e3 _ _ hY), atI_nat (j := j) (by rw [List.getElem?_map, List.getElem?_range hj]; rfl), ?_⟩
          exact kq H3 (Same.refl _)
        · exact q _ H3 ((e0.trans e2).trans e3) (hg.congr fun i j _ _ => rfl)
    | true =>
      refine iteFk (by decide +kernel) ?_
      walk_at "rd"
      refine ⟨⟨_, SqL.of (e0 _ _ (eG _ _ hsp))⟩, fun D1 hD1 => ?_⟩
      refine lc_listF (fun i y _ => y = .bl (bndf true n fun k => fa k i)) (fun _ => true) hD1 (e0 _ _ (eG _ _ hsp)) (by rw [spn_len]; omega) (fun _ _ _ _ _ h => h) rfl (fun i x H2 acc hx e2 hY N k1 k2 => ?_) (fun H2 ys e2 hY hp => ?_)
      · obtain ⟨hi, rfl⟩ := spn_at hx
        obtain ⟨xb, hxb, hxb2⟩ := hrc i hi
        walk_at "rd"
        refine ⟨_, _, _, .ref xb, rfl, rfl, SqL.of (e2 _ _ hc), atI_nat (j := i) (by rw [List.getElem?_map, hxb]; rfl), ?_⟩
        refine ⟨_, _, rfl, .inl (SqL.of (e2 _ _ hxb2)), rfl, flat_bls, ?_⟩
        exact k2 _ H2 (Same.refl _) rfl (congrArg V.bl inV_true)
      · rw [filter_yes, spn_len] at hp
        have hz := paired_eq hp
        rw [hz] at hY
        walk_at "rd"
        refine ⟨⟨_, SqL.of (e2 _ _ (e0 _ _ (eG _ _ hsp)))⟩, fun D2 hD2 => ?_⟩
        refine grid_list (K := K) (sp := sp) (n := n) (fun _ j => bndf true n fun k => fa k j) hD2 (e2 _ _ (e0 _ _ (eG _ _ hsp))) (by omega) rfl rfl (fun i H3 e3 R hR => ⟨_, rfl, _, rfl, ⟨_, SqL.of (e3 _ _ (e2 _ _ (e0 _ _ (eG _ _ hsp))))⟩, hR⟩) (fun i j H3 hi hj e3 Q' kq => ?_) (fun H3 e3 hg => ?_)
        · walk_at "rd"
          refine ⟨_, _, _, .bl (bndf true n fun k => fa k j), rfl, rfl, SqL.of (e3 _ _ hY), atI_nat (j := j) (by rw [List.getElem?_map, List.getElem?_range hj]; rfl), ?_⟩
          exact kq H3 (Same.refl _)
        · exact q _ H3 ((e0.trans e2).trans e3) (hg.congr fun i j _ _ => rfl)
end
end K48
namespace K48
open PySem PySem.Spec PyProof.Rows L2
local macro_rules | `(tactic| walk_at "rd") => `(tactic| repeat (first | refine ⟨_, rfl, ?_⟩ | refine ⟨_, _, rfl, rfl, ?_⟩ | refine ⟨rfl, ?_⟩ | refine iteTk (by decide +kernel) ?_ | refine iteFk (by decide +kernel) ?_))
local macro_rules | `(tactic| walk_at "rdr") => `(tactic| repeat (first | refine ⟨_, rfl, ?_⟩ | refine ⟨_, _, rfl, rfl, ?_⟩ | refine ⟨rfl, ?_⟩ | refine iteTk (by first | decide +kernel | rfl) ?_ | refine iteFk (by first | decide +kernel | rfl) ?_))
local macro_rules | `(tactic| walk_at "tyn") => `(tactic| first | exact .int _ | exact .bl _ | exact .str _ | exact .tup (by assumption) | exact .lst (by assumption) | exact .dK (by assumption))
local macro_rules | `(tactic| walk_at "isT") => `(tactic| refine ⟨_, _, _, _, true, rfl, .ty _, TyN.x (by walk_at "tyn"), kit_ty (by decide +kernel), ?_⟩)
local macro_rules | `(tactic| walk_at "isF") => `(tactic| refine ⟨_, _, _, _, false, rfl, .ty _, TyN.x (by walk_at "tyn"), kit_ty (by decide +kernel), ?_⟩)
local macro_rules | `(tactic| walk_at "nz") => `(tactic| first | refine nzG (by simp only [List.set_cons_succ, List.set_cons_zero]; rfl) ?_ | refine reS (by simp only [List.set_cons_succ, List.set_cons_zero]; rfl) ?_)
theorem noP_upd {p c b : Addr} {H : Hp} {o : HO} (h1 : b ≠ p) (h2 : b ≠ c) : noP p c (upd H b o) = upd (noP p c H) b o := funext fun z => by
  by_cases q : z = b
  · subst q
    rw [noP_ne h1 h2, upd_same, upd_same]
  · by_cases q2 : z = p ∨ z = c
    · rw [upd_ne q]
      rcases q2 with rfl | rfl
      · rw [noP_p, noP_p]
      · rw [noP_c, noP_c]
    · rw [not_or] at q2
      rw [upd_ne q, noP_ne q2.1 q2.2, noP_ne q2.1 q2.2, upd_ne q]
section
variable {p c D : Addr} {H1 : Hp} {te : TE} {vs : List Nat} {j n : Nat} {σ : L2.St} {Qd : Hp → Prop}
/-- a row of drawn flags -/
theorem lc_draws (hD : H1 D = none) (hp : PoolAt H1 p c) (hn : n ≤ 1000) (hv : vs = [j])
    (hs : ∀ i H, i < n → Same (noP p c H1) H → PoolAt H p c → ∀ Q' : VK, (∀ b H4, Same (noP p c H) H4 → PoolAt H4 p c → Q' (.bl b) H4) → te ((wipe σ vs).set j (some (nV i))) H Q')
    (hd : ∀ H F, Same (noP p c H1) H → PoolAt H p c → H D = some (.lst (bls n F)) → Qd H) :
    ∃ W : Nat → Nat → Hp → Prop, (∃ m, W 0 m (upd H1 D (.lst []))) ∧ ∀ i m H, W i m H →
      ((Itr 0 n).stop i H ∧ Qd H) ∨ ((Itr 0 n).go i H ∧ ∃ Nx : Hp → Prop, (∀ H', Nx H' → ∃ m', m' < m ∧ W (i + 1) m' H') ∧ ∀ x H', (Itr 0 n).yld i H x H' → gName j x (wipe σ vs) H' fun σ2 H2 => wipe σ2 vs = wipe σ vs ∧ tYes σ2 H2 fun b H3 =>
        if b = true then te σ2 H3 fun y H4 => ∃ acc, H4 D = some (.lst acc) ∧ acc.length < sizeLine ∧ Nx (upd H4 D (.lst (acc ++ [y]))) else Nx H3) := by
  have nD := pool_off hp hD
  refine lc_range (lo := 0) (n := n) (fun i H => ∃ F, Same (noP p c H1) H ∧ PoolAt H p c ∧ H D = some (.lst (bls i F))) ⟨fun _ => true, noP_then hidL_same (Same.new (Same.refl _) hD), hp.new hD, upd_same⟩ (fun i H hi hP => ?_) (fun H hP => ?_)
  · obtain ⟨F, e, hp2, hL⟩ := hP
    rw [Int.zero_add]
    refine ⟨wipe_own hv _, ?_⟩
    refine yesI ?_
    refine hs i H hi e hp2 _ fun b H4 e4 hp4 => ?_
    have hL4 : H4 D = some (.lst (bls i F)) := e4 _ _ (by rw [noP_ne nD.1 nD.2]; exact hL)
    refine ⟨_, hL4, szl (by rw [bls_len]; omega), fun k => if k = i then b else F k, Same.mut (noP_trans e e4) ?_, ?_, ?_⟩
    · cases q' : noP p c H1 D with
      | none => rfl
      | some u => rw [noP_ne nD.1 nD.2, hD] at q'; cases q'
    · obtain ⟨s, k, cells, h1, h2⟩ := hp4
      exact ⟨s, k, cells, by rw [upd_ne (Ne.symm nD.1)]; exact h1, by rw [upd_ne (Ne.symm nD.2)]; exact h2⟩
    · rw [upd_same]
      unfold bls
      rw [List.range_succ, List.map_append]
      congr 3
      · refine List.map_congr_left fun k hk => ?_
        have := List.mem_range.mp hk
        show V.bl (F k) = V.bl (if k = i then b else F k)
        rw [if_neg (by omega)]
      · simp
  · obtain ⟨F, e, hp2, hL⟩ := hP
    exact hd H F e hp2 hL
end
section
variable {P : Program} {w : World} {K : PySem.W.Frag} {mg : Str → Option Value} {base : Heap} {cT cW : Addr}
def spDrawn : Sp := fun vs H Q _ => ∃ (G : Hp) (p c sh : Addr) (T : Tng) (n : Nat), vs = [.ref p, .ref sh, .int n] ∧ Same G H ∧ G p = none ∧ G c = none ∧ PoolAt H p c ∧ ShapeAt G sh T ∧ T.Ok ∧ n ≤ 15 ∧
  ∀ (a : Addr) (W : PW) (H' : Hp), Same (noP p c H) H' → PoolAt H' p c → PlainAt (noP p c H') a T W → W.n = n → Q (.ref a) H'
theorem ok_drawn (B : Blt mg) (D : Def K mg "_law_drawn_world" s_law_drawn_world) (c_law_draw : CallOk P w K mg base 1 "_law_draw" P_law_draw spDraw) : CallOk P w K mg base 2 "_law_drawn_world" P_law_drawn_world spDrawn := by
  refine callOk D sc_law_drawn_world bd_law_drawn_world (fun vs H Q E h => ?_) (fun f cdv A outer st H vs Q E hr h => ?_)
  · obtain ⟨G, p, c, sh, T, n, rfl, _⟩ := h
    rfl
  obtain ⟨G, p, c, sh, T, n, rfl, eG, hGp, hGc, hp, ⟨am, at_, af, hS, hM, hTi, hF⟩, okT, hn, q⟩ := h
  have hu := hu_of hr
  refine ⟨_, pss_cons (ps_set (i := 3) sc_law_drawn_world.nd rfl (.inl rfl) (pe_dnewK)) (pss_cons (ps_set (i := 4) sc_law_drawn_world.nd rfl (.inl rfl) (pe_dnewK)) (pss_cons (ps_set (i := 5) sc_law_drawn_world.nd rfl (.inr rfl) (pe_op op_add (pe_int) (pe_cl c_law_draw hr (by rfl) (pa_cons (pv 0) (pa_cons (pe_int) pa_nil))))) (pss_cons (ps_for PassesOwn.never rfl (pi_tup (pe_ix ix_tup (pv 1) (pe_int) (fun _ _ => rfl))) (pg_name (i := 6) sc_law_drawn_world.nd rfl (.inl rfl)) (pss_one (ps_dput hu (pv 3) (pv 6) (pe_lc (own := [("_law_thing", 7)]) (g := gName 7) (tt := tYes) (by rfl) sc_law_drawn_world.nd (pi_range1 (by rfl) B.range (pa_cons (pv 2) pa_nil)) (blkOk_by (own := [("_law_thing", 7)]) (N := N_law_drawn_world) (by kernel_rfl)) (fun _ _ _ _ _ => pg_name (i := 7) sc_law_drawn_world.nd rfl (Or.inl rfl)) (fun _ _ _ _ _ => pts_nil) (fun _ _ _ _ _ => pe_cmpR op_lt (pe_cl c_law_draw hr (by rfl) (pa_cons (pv 0) (pa_cons (pe_int) pa_nil))) (pv 5) (nomark _))) rfl))) (pss_cons (ps_for PassesOwn.never rfl (pi_tup (pe_ix ix_tup (pv 1) (pe_int) (fun _ _ => rfl))) (pg_name (i := 6) sc_law_drawn_world.nd rfl (.inl rfl)) (pss_one (ps_if (pt_cmpR op_in_seq (pv 6) (pe_ix ix_tup (pv 1) (pe_int) (fun _ _ => rfl)) (by rfl)) (pss_cons (ps_set (i := 8) sc_law_drawn_world.nd rfl (.inr rfl) (pe_lc (own := [("_law_thing", 7)]) (g := gName 7) (tt := tYes) (by rfl) sc_law_drawn_world.nd (pi_range1 (by rfl) B.range (pa_cons (pv 2) pa_nil)) (blkOk_by (own := [("_law_thing", 7)]) (N := N_law_drawn_world) (by kernel_rfl)) (fun _ _ _ _ _ => pg_name (i := 7) sc_law_drawn_world.nd rfl (Or.inl rfl)) (fun _ _ _ _ _ => pts_nil) (fun _ _ _ _ _ => pe_cl c_law_draw hr (by rfl) (pa_cons (pv 0) (pa_cons (pv 2) pa_nil))))) (pss_one (ps_dput hu (pv 4) (pv 6) (pe_lc (own := [("_law_one_here", 10)]) (g := gName 10) (tt := tYes) (by rfl) sc_law_drawn_world.nd (pi_range1 (by rfl) B.range (pa_cons (pv 2) pa_nil)) (blkOk_by (own := [("_law_one_here", 10)]) (N := N_law_drawn_world) (by kernel_rfl)) (fun _ _ _ _ _ => pg_name (i := 10) sc_law_drawn_world.nd rfl (Or.inr rfl)) (fun _ _ _ _ _ => pts_nil) (fun _ _ _ _ _ => pe_lc (own := [("_law_two", 9)]) (g := gName 9) (tt := tYes) (by rfl) sc_law_drawn_world.nd (pi_range1 (by rfl) B.range (pa_cons (pv 2) pa_nil)) (blkOk_by (own := [("_law_two", 9)]) (N := N_law_drawn_world) (by kernel_rfl)) (fun _ _ _ _ _ => pg_name (i := 9) sc_law_drawn_world.nd rfl (Or.inl rfl)) (fun _ _ _ _ _ => pts_nil) (fun _ _ _ _ _ => pe_cmpR op_eq (pe_ix (ix_listK (K := K) rfl) (pv 8) (pv 10) (fun _ _ => rfl)) (pv 9) (nomark _)))) rfl))) (pss_one (ps_dput hu (pv 4) (pv 6) (pe_lc (own := [("_law_one_here", 10)]) (g := gName 10) (tt := tYes) (by rfl) sc_law_drawn_world.nd (pi_range1 (by rfl) B.range (pa_cons (pv 2) pa_nil)) (blkOk_by (own := [("_law_one_here", 10)]) (N := N_law_drawn_world) (by kernel_rfl)) (fun _ _ _ _ _ => pg_name (i := 10) sc_law_drawn_world.nd rfl (Or.inl rfl)) (fun _ _ _ _ _ => pts_nil) (fun _ _ _ _ _ => pe_lc (own := [("_law_two", 9)]) (g := gName 9) (tt := tYes) (by rfl) sc_law_drawn_world.nd (pi_range1 (by rfl) B.range (pa_cons (pv 2) pa_nil)) (blkOk_by (own := [("_law_two", 9)]) (N := N_law_drawn_world) (by kernel_rfl)) (fun _ _ _ _ _ => pg_name (i := 9) sc_law_drawn_world.nd rfl (Or.inl rfl)) (fun _ _ _ _ _ => pts_nil) (fun _ _ _ _ _ => pe_cmpR op_lt (pe_cl c_law_draw hr (by rfl) (pa_cons (pv 0) (pa_cons (pe_int) pa_nil))) (pv 5) (nomark _)))) rfl))))) (pss_one (ps_ret (pe_tup (pa_cons (pv 2) (pa_cons (pv 3) (pa_cons (pv 4) pa_nil)))))))))), ?_⟩
  intro dm hdm
  have ndm := pool_off hp hdm
  have hp1 : PoolAt (upd H dm (.dK [])) p c := hp.new hdm
  have e1 : Same H (upd H dm (.dK [])) := Same.new (Same.refl _) hdm
  intro dt hdt
  have ndt := pool_off hp1 hdt
  have hp2 : PoolAt (upd (upd H dm (.dK [])) dt (.dK [])) p c := hp1.new hdt
  have e2 : Same H (upd (upd H dm (.dK [])) dt (.dK [])) := Same.new e1 hdt
  have ndd : dm ≠ dt := fun z => by rw [← z, upd_same] at hdt; cases hdt
  have hm2 : noP p c (upd (upd H dm (.dK [])) dt (.dK [])) dm = some (.dK []) := noP_get (by rw [upd_ne ndd, upd_same]) ndm.1 ndm.2
  have ht2 : noP p c (upd (upd H dm (.dK [])) dt (.dK [])) dt = some (.dK []) := noP_get upd_same ndt.1 ndt.2
  have hdtH : H dt = none := e1.free hdt
  have E2 : Same (noP p c H) (noP p c (upd (upd H dm (.dK [])) dt (.dK []))) := hidL_into (noP_then hidL_same e2)
  have hS0 : noP p c H sh = some (.tup [.ref am, .ref at_, .ref af]) := noP_base eG hGp hGc _ _ hS
  have hM0 : noP p c H am = some (.tup (T.marks.map V.str)) := noP_base eG hGp hGc _ _ hM
  have hT0 : noP p c H at_ = some (.tup (T.ties.map V.str)) := noP_base eG hGp hGc _ _ hTi
  have hF0 : noP p c H af = some (.tup []) := noP_base eG hGp hGc _ _ hF
  have hdm0 : noP p c H dm = none := by rw [noP_ne ndm.1 ndm.2]; exact hdm
  have hdt0 : noP p c H dt = none := by rw [noP_ne ndt.1 ndt.2]; exact hdtH
  revert hp2 hm2 ht2 E2
  generalize (upd (upd H dm (.dK [])) dt (.dK [])) = H2
  intro hp2 hm2 ht2 E2
  walk_at "rd"
  refine ⟨p, c, 4, rfl, hp2, by decide, by decide, fun d H3 hd e3 hp3 => ?_⟩
  have hm3 := hidL_into e3 _ _ hm2
  have ht3 := hidL_into e3 _ _ ht2
  have E3 : Same (noP p c H) (noP p c H3) := E2.trans (hidL_into e3)
  walk_at "rd"
  obtain ⟨sv, hsv⟩ : ∃ z : Int, z = 1 + (d : Int) := ⟨_, rfl⟩
  refine ⟨_, _, _, _, rfl, rfl, SqT.of (hidL_same _ _ (E3 _ _ hS0)), atI_nat (j := 0) rfl, ?_⟩
  refine ⟨_, rfl, ⟨_, SqT.of (hidL_same _ _ (E3 _ _ hM0))⟩, for_tup (K := K) (a := am) (xs := T.marks.map V.str)
    (fun i σ H' => ∃ (mb : Str → Nat → Bool) (fl : Str → Addr) (y : Option V), σ = [some (.ref p), some (.ref sh), some (.int n), some (.ref dm), some (.ref dt), some (.int sv), y, none, none, none, none] ∧ PoolAt H' p c ∧ Same (noP p c H) (noP p c H') ∧ noP p c H' dm = some (.dK (dR (withA (T.marks.take i) fl))) ∧ noP p c H' dt = some (.dK []) ∧ ∀ m ∈ T.marks.take i, noP p c H' (fl m) = some (.lst (bls n (mb m))))
    ⟨fun _ _ => true, fun _ => 0, none, by rw [hsv]; rfl, hp3, E3, hm3, ht3, fun m hm => by simp at hm⟩ (fun i σ H' _ hP => ?_) (fun i x σ H' hx hP => ?_) (fun σ H' hP => ?_)⟩
  · obtain ⟨_, _, _, _, _, E, _⟩ := hP
    exact SqT.of (hidL_same _ _ (E _ _ hM0))
  · obtain ⟨mb, fl, y, rfl, hp4, E4, hm4, ht4, hfl4⟩ := hP
    obtain ⟨m, hm, rfl⟩ := map_at hx
    obtain ⟨n1, n2⟩ := nodup_take okT.ndm hm
    have hml := (List.getElem?_eq_some_iff.mp hm).1
    walk_at "rd"
    refine ⟨by omega, by omega, fun Dn hDn => ?_⟩
    have nDn := pool_off hp4 hDn
    refine lc_draws (p := p) (c := c) (n := n) hDn hp4 (by omega) rfl (fun i H5 hi e5 hp5 Q' k => ?_) (fun H5 F e5 hp5 hL5 => ?_)
    · walk_at "rd"
      refine ⟨p, c, 5, rfl, hp5, by decide, by decide, fun d2 H6 hd2 e6 hp6 => ?_⟩
      walk_at "rd"
      exact k _ H6 e6 hp6
    · have E5 : Same (noP p c H') (noP p c H5) := hidL_into e5
      have hm5 := E5 _ _ hm4
      have hL5 : noP p c H5 Dn = some (.lst (bls n F)) := noP_get hL5 nDn.1 nDn.2
      have hDm : Dn ≠ dm := ne_of hL5 hm5 (by intro z; cases z)
      walk_at "rd"
      refine ⟨_, _, rfl, DPut.k (k := Sum.inr m) (hidL_same _ _ hm5) (szl ?_), ?_⟩
      · unfold dR withA
        rw [List.length_map, List.length_map, List.length_take]
        have := okT.lm
        omega
      rw [dR_put okT.ndm hm]
      refine ⟨fun z => if z = m then F else mb z, fun z => if z = m then Dn else fl z, _, rfl, ?_, ?_, ?_, ?_, fun m' hm' => ?_⟩
      · obtain ⟨s, k, cells, h1, h2⟩ := hp5
        exact ⟨s, k, cells, by rw [upd_ne (Ne.symm ndm.1)]; exact h1, by rw [upd_ne (Ne.symm ndm.2)]; exact h2⟩
      · rw [noP_upd ndm.1 ndm.2]
        exact Same.mut (E4.trans E5) hdm0
      · rw [noP_upd ndm.1 ndm.2, upd_same]
      · rw [noP_upd ndm.1 ndm.2, upd_ne (Ne.symm ndd)]
        exact E5 _ _ ht4
      · rw [noP_upd ndm.1 ndm.2]
        rw [n2] at hm'
        by_cases q' : m' = m
        · subst q'
          simp only [if_true]
          rw [upd_ne hDm]
          exact hL5
        · simp only [if_neg q']
          rcases List.mem_append.mp hm' with h | h
          · have g1 := E5 _ _ (hfl4 m' h)
            rw [upd_ne (ne_of g1 hm5 (by intro z; cases z))]
            exact g1
          · exact absurd (by simpa using h) q'
  · obtain ⟨mb, fm, y, rfl, hp4, E4, hm4, ht4, hfm⟩ := hP
    rw [List.length_map, List.take_length] at hm4 hfm
    have ht4 : noP p c H' dt = some (.dK (dR (withA (T.ties.take 0) fun _ => 0))) := ht4
    walk_at "rd"
    refine ⟨_, _, _, _, rfl, rfl, SqT.of (hidL_same _ _ (E4 _ _ hS0)), atI_nat (j := 1) rfl, ?_⟩
    refine ⟨_, rfl, ⟨_, SqT.of (hidL_same _ _ (E4 _ _ hT0))⟩, for_tup (K := K) (a := at_) (xs := T.ties.map V.str)
      (fun i σ H' => ∃ (tb : Str → Nat → Nat → Bool) (fl : Str → Addr) (y : Option V), σ = [some (.ref p), some (.ref sh), some (.int n), some (.ref dm), some (.ref dt), some (.int sv), y, none, none, none, none] ∧ PoolAt H' p c ∧ Same (noP p c H) (noP p c H') ∧ noP p c H' dm = some (.dK (dR (withA T.marks fm))) ∧ (∀ m ∈ T.marks, noP p c H' (fm m) = some (.lst (bls n (mb m)))) ∧ noP p c H' dt = some (.dK (dR (withA (T.ties.take i) fl))) ∧ ∀ t ∈ T.ties.take i, GridAt (hide dt (noP p c H')) (fl t) n (tb t))
      ⟨fun _ _ _ => true, fun _ => 0, _, rfl, hp4, E4, hm4, hfm, ht4, fun m hm => by simp at hm⟩ (fun i σ H' _ hP => ?_) (fun i x σ H' hx hP => ?_) (fun σ H' hP => ?_)⟩
    · obtain ⟨_, _, _, _, _, E, _⟩ := hP
      exact SqT.of (hidL_same _ _ (E _ _ hT0))
    · obtain ⟨tb, fl, y, rfl, hp5, E5, hm5, hfm5, ht5, hfl5⟩ := hP
      obtain ⟨t, ht, rfl⟩ := map_at hx
      obtain ⟨n1, n2⟩ := nodup_take okT.ndt ht
      have htl := (List.getElem?_eq_some_iff.mp ht).1
      walk_at "rd"
      refine ⟨_, _, _, _, rfl, rfl, SqT.of (hidL_same _ _ (E5 _ _ hS0)), atI_nat (j := 2) rfl, ?_⟩
      walk_at "rd"
      refine ⟨_, _, rfl, .inr (SqT.of (hidL_same _ _ (E5 _ _ hF0))), rfl, rfl, ?_⟩
      walk_at "rd"
      refine ⟨by omega, by omega, fun D hD => ?_⟩
      have nD := pool_off hp5 hD
      have hD0 : noP p c H' D = none := by rw [noP_ne nD.1 nD.2]; exact hD
      have hDdt : D ≠ dt := fun z => by rw [z, ht5] at hD0; cases hD0
      refine lc_range (lo := 0) (n := n) (fun i H5 => ∃ (tf : Nat → Nat → Bool) (r : List Addr), PoolAt H5 p c ∧ Same (noP p c H') (noP p c H5) ∧ noP p c H5 D = some (.lst (r.map V.ref)) ∧ Paired (fun i b => hide D (noP p c H5) b = some (.lst (bls n (tf i)))) (List.range i) r)
        ⟨fun _ _ => true, [], hp5.new hD, hidL_into (noP_then hidL_same (Same.new (Same.refl _) hD)), noP_get upd_same nD.1 nD.2, .nil⟩ (fun i H6 hi hP => ?_) (fun H6 hP => ?_)
      · obtain ⟨tf, r, hp6, E6, hD6, hr6⟩ := hP
        have hrl := Paired.length hr6
        rw [List.length_range] at hrl
        refine ⟨rfl, ?_⟩
        walk_at "rd"
        refine ⟨by omega, by omega, fun Dn hDn => ?_⟩
        have nDn := pool_off hp6 hDn
        have hDn0 : noP p c H6 Dn = none := by rw [noP_ne nDn.1 nDn.2]; exact hDn
        refine lc_draws (p := p) (c := c) (n := n) hDn hp6 (by omega) rfl (fun i H7 hi e7 hp7 Q' k => ?_) (fun H7 F e7 hp7 hL7 => ?_)
        · walk_at "rd"
          refine ⟨p, c, 5, rfl, hp7, by decide, by decide, fun d2 H8 hd2 e8 hp8 => ?_⟩
          walk_at "rd"
          exact k _ H8 e8 hp8
        · have E7 : Same (noP p c H6) (noP p c H7) := hidL_into e7
          have hL7 : noP p c H7 Dn = some (.lst (bls n F)) := noP_get hL7 nDn.1 nDn.2
          have hD7 := E7 _ _ hD6
          have hDnD : Dn ≠ D := fun z => by rw [z, hD6] at hDn0; cases hDn0
          refine ⟨_, hidL_same _ _ hD7, szl (by rw [List.length_map]; omega), fun a b => if a = i then F b else tf a b, r ++ [Dn], ?_, ?_, ?_, ?_⟩
          · obtain ⟨s, k, cells, h1, h2⟩ := hp7
            exact ⟨s, k, cells, by rw [upd_ne (Ne.symm nD.1)]; exact h1, by rw [upd_ne (Ne.symm nD.2)]; exact h2⟩
          · rw [noP_upd nD.1 nD.2]
            exact Same.mut (E6.trans E7) hD0
          · rw [noP_upd nD.1 nD.2, upd_same, List.map_append]
            rfl
          · rw [noP_upd nD.1 nD.2, List.range_succ]
            refine Paired.snoc (paired_mem hr6 fun a b ha h => ?_) ?_
            · have := List.mem_range.mp ha
              have h2 := hide_put (o := .lst (r.map V.ref ++ [V.ref Dn])) _ _ (hide_mono E7 _ _ h)
              simp only [if_neg (show ¬ a = i by omega)]
              exact h2
            · simp only [if_true]
              rw [hide_ne hDnD, upd_ne hDnD]
              exact hL7
      · obtain ⟨tf, r, hp6, E6, hD6, hr6⟩ := hP
        have ht6 := E6 _ _ ht5
        have hDg : GridAt (noP p c H6) D n tf := ⟨r, hD6, Paired.mapP hr6 fun _ _ h => hide_same _ _ h⟩
        have hDg : GridAt (hide dt (noP p c H6)) D n tf := ⟨r, by rw [hide_ne hDdt]; exact hD6, Paired.mapP hr6 fun _ b h => by
          have h := hide_same _ _ h
          rw [hide_ne (ne_of h ht6 (by intro z; cases z))]
          exact h⟩
        walk_at "rd"
        refine ⟨_, _, rfl, DPut.k (k := Sum.inr t) (hidL_same _ _ ht6) (szl ?_), ?_⟩
        · unfold dR withA
          rw [List.length_map, List.length_map, List.length_take]
          have := okT.lt
          omega
        rw [dR_put okT.ndt ht]
        refine ⟨fun z => if z = t then tf else tb z, fun z => if z = t then D else fl z, _, rfl, ?_, ?_, ?_, fun m hm => ?_, ?_, fun t' ht' => ?_⟩
        · obtain ⟨s, k, cells, h1, h2⟩ := hp6
          exact ⟨s, k, cells, by rw [upd_ne (Ne.symm ndt.1)]; exact h1, by rw [upd_ne (Ne.symm ndt.2)]; exact h2⟩
        · rw [noP_upd ndt.1 ndt.2]
          exact Same.mut (E5.trans E6) hdt0
        · rw [noP_upd ndt.1 ndt.2, upd_ne ndd]
          exact E6 _ _ hm5
        · rw [noP_upd ndt.1 ndt.2, upd_ne (ne_of (E6 _ _ (hfm5 m hm)) ht6 (by intro z; cases z))]
          exact E6 _ _ (hfm5 m hm)
        · rw [noP_upd ndt.1 ndt.2, upd_same]
        · rw [noP_upd ndt.1 ndt.2]
          rw [n2] at ht'
          by_cases q' : t' = t
          · subst q'
            simp only [if_true]
            exact hDg.mono hide_put
          · simp only [if_neg q']
            rcases List.mem_append.mp ht' with h | h
            · exact (hfl5 t' h).mono ((hide_mono E6).trans hide_put)
            · exact absurd (by simpa using h) q'
    · obtain ⟨tb, ft, y, rfl, hp5, E5, hm5, hfm5, ht5, hft5⟩ := hP
      rw [List.length_map, List.take_length] at ht5 hft5
      walk_at "rd"
      refine ⟨sz (by simp), fun a ha => ?_⟩
      have na := pool_off hp5 ha
      have E6 : Same (noP p c H') (noP p c (upd H' a (.tup [.int n, .ref dm, .ref dt]))) := hidL_into (noP_then hidL_same (Same.new (Same.refl _) ha))
      exact q a ⟨n, mb, tb⟩ _ (fun b u h => hidL_same _ _ ((E5.trans E6) _ _ h)) (hp5.new ha) ⟨dm, dt, fm, ft, noP_get upd_same na.1 na.2, E6 _ _ hm5, fun m hm => E6 _ _ (hfm5 m hm), E6 _ _ ht5, fun t ht => (hft5 t ht).mono (hide_same.trans E6)⟩ rfl
end
end K48
namespace K48
open PySem PySem.Spec PyProof.Rows L2
local macro_rules | `(tactic| walk_at "rd") => `(tactic| repeat (first | refine ⟨_, rfl, ?_⟩ | refine ⟨_, _, rfl, rfl, ?_⟩ | refine ⟨rfl, ?_⟩ | refine iteTk (by decide +kernel) ?_ | refine iteFk (by decide +kernel) ?_))
local macro_rules | `(tactic| walk_at "rdr") => `(tactic| repeat (first | refine ⟨_, rfl, ?_⟩ | refine ⟨_, _, rfl, rfl, ?_⟩ | refine ⟨rfl, ?_⟩ | refine iteTk (by first | decide +kernel | rfl) ?_ | refine iteFk (by first | decide +kernel | rfl) ?_))
local macro_rules | `(tactic| walk_at "tyn") => `(tactic| first | exact .int _ | exact .bl _ | exact .str _ | exact .tup (by assumption) | exact .lst (by assumption) | exact .dK (by assumption))
local macro_rules | `(tactic| walk_at "isT") => `(tactic| refine ⟨_, _, _, _, true, rfl, .ty _, TyN.x (by walk_at "tyn"), kit_ty (by decide +kernel), ?_⟩)
local macro_rules | `(tactic| walk_at "isF") => `(tactic| refine ⟨_, _, _, _, false, rfl, .ty _, TyN.x (by walk_at "tyn"), kit_ty (by decide +kernel), ?_⟩)
local macro_rules | `(tactic| walk_at "nz") => `(tactic| first | refine nzG (by simp only [List.set_cons_succ, List.set_cons_zero]; rfl) ?_ | refine reS (by simp only [List.set_cons_succ, List.set_cons_zero]; rfl) ?_)
theorem paired_append {α β : Type} {F : α → β → Prop} : ∀ {a : List α} {b : List β} {c : List α} {d : List β}, Paired F a b → Paired F c d → Paired F (a ++ c) (b ++ d)
  | [], [], _, _, .nil, h => h
  | _ :: _, _ :: _, _, _, .cons h t, k => .cons h (paired_append t k)
theorem paired_pairs {H : Hp} {i : Nat} : ∀ {l : List Nat} {r : List Addr}, Paired (fun k b => H b = some (.tup [nV i, nV k])) l r → PairsAt H r (l.map fun k => (i, k))
  | [], [], .nil => .nil
  | _ :: _, _ :: _, .cons h t => .cons h (paired_pairs t)
theorem free_of {a D : Addr} {H H' : Hp} {u : HO} (e : Same (hide a H) H') (ha : H' a = some u) (hD : H' D = none) : H D = none := by
  have n : D ≠ a := fun z => by rw [z, ha] at hD; cases hD
  cases q : H D with
  | none => rfl
  | some o =>
    have := e D o (by rw [hide_ne n]; exact q)
    rw [hD] at this
    cases this
section
variable {P : Program} {w : World} {K : PySem.W.Frag} {mg : Str → Option Value} {base : Heap} {cT cW : Addr}
def spLists : Sp := fun vs H Q _ => ∃ (G : Hp) (a : Addr) (T : Tng) (W : PW), vs = [.ref a] ∧ Same G H ∧ PlainAt G a T W ∧ T.Ok ∧ W.n ≤ 15 ∧
  ∀ (r am at_ : Addr) (fm ft : Str → Addr) (H' : Hp), Same H H' → H' r = some (.tup [.ref am, .ref at_]) → H' am = some (.dK (dR (withA T.marks fm))) → (∀ m ∈ T.marks, H (fm m) = none ∧ H' (fm m) = some (.lst (((W.wd T).ms m).map nV))) →
    H' at_ = some (.dK (dR (withA T.ties ft))) → (∀ t ∈ T.ties, H (ft t) = none ∧ ∃ qs : List Addr, H' (ft t) = some (.lst (qs.map V.ref)) ∧ PairsAt H' qs ((W.wd T).ts t)) → Q (.ref r) H'
theorem ok_lists (B : Blt mg) (D : Def K mg "_law_lists" s_law_lists) : CallOk P w K mg base 1 "_law_lists" P_law_lists spLists := by
  refine callOk D sc_law_lists bd_law_lists (fun vs H Q E h => ?_) (fun f cdv A outer st H vs Q E hr h => ?_)
  · obtain ⟨G, a, T, W, rfl, _⟩ := h
    rfl
  obtain ⟨G, a, T, W, rfl, eG, ⟨wm, wt, wfm, wft, hA, hM, hMv, hT, hTv⟩, okT, hn, q⟩ := h
  have hu := hu_of hr
  have hA := eG _ _ hA
  have hM := eG _ _ hM
  have hMv : ∀ m ∈ T.marks, H (wfm m) = some (.lst (bls W.n (W.mb m))) := fun m hm => eG _ _ (hMv m hm)
  have hT := eG _ _ hT
  have hTv : ∀ t ∈ T.ties, GridAt H (wft t) W.n (W.tb t) := fun t ht => (hTv t ht).mono eG
  refine ⟨_, pss_cons (ps_set (i := 1) sc_law_lists.nd rfl (.inl rfl) (pe_dnewK)) (pss_cons (ps_set (i := 2) sc_law_lists.nd rfl (.inl rfl) (pe_dnewK)) (pss_cons (ps_lock (ps_for PassesOwn.never rfl (pi_keys (pe_ix ix_tup (pv 0) (pe_int) (fun _ _ => rfl))) (pg_name (i := 3) sc_law_lists.nd rfl (.inr rfl)) (pss_one (ps_dput hu (pv 1) (pv 3) (pe_lc (own := [("_law_thing", 4)]) (g := gName 4) (by rfl) sc_law_lists.nd (pi_range1 (by rfl) B.range (pa_cons (pe_ix ix_tup (pv 0) (pe_int) (fun _ _ => rfl)) pa_nil)) (blkOk_by (own := [("_law_thing", 4)]) (N := N_law_lists) (by kernel_rfl)) (fun _ _ _ _ _ => pg_name (i := 4) sc_law_lists.nd rfl (Or.inl rfl)) (fun _ _ _ _ _ => pts_one (pt_val (pe_ix (ix_listK (K := K) rfl) (pe_dget hu (pe_ix (ix_tupK (K := K) rfl) (pv 0) (pe_int) (fun _ _ => rfl)) (pv 3) (fun _ _ => rfl)) (pv 4) (fun _ _ => rfl)))) (fun _ _ _ _ _ => pv 4)) rfl)))) (pss_cons (ps_lock (ps_for PassesOwn.never rfl (pi_keys (pe_ix ix_tup (pv 0) (pe_int) (fun _ _ => rfl))) (pg_name (i := 3) sc_law_lists.nd rfl (.inr rfl)) (pss_cons (ps_set (i := 5) sc_law_lists.nd rfl (.inl rfl) (pe_lst (pa_nil))) (pss_cons (ps_for PassesOwn.never rfl (pi_range1 (by rfl) B.range (pa_cons (pe_ix ix_tup (pv 0) (pe_int) (fun _ _ => rfl)) pa_nil)) (pg_name (i := 6) sc_law_lists.nd rfl (.inr rfl)) (pss_one (ps_set (i := 5) sc_law_lists.nd rfl (.inl rfl) (pe_op op_cat (pv 5) (pe_lc (own := [("_law_two", 7)]) (g := gName 7) (by rfl) sc_law_lists.nd (pi_range1 (by rfl) B.range (pa_cons (pe_ix ix_tup (pv 0) (pe_int) (fun _ _ => rfl)) pa_nil)) (blkOk_by (own := [("_law_two", 7)]) (N := N_law_lists) (by kernel_rfl)) (fun _ _ _ _ _ => pg_name (i := 7) sc_law_lists.nd rfl (Or.inl rfl)) (fun _ _ _ _ _ => pts_one (pt_val (pe_ix (ix_listK (K := K) rfl) (pe_ix (ix_listK (K := K) rfl) (pe_dget hu (pe_ix (ix_tupK (K := K) rfl) (pv 0) (pe_int) (fun _ _ => rfl)) (pv 3) (fun _ _ => rfl)) (pv 6) (fun _ _ => rfl)) (pv 7) (fun _ _ => rfl)))) (fun _ _ _ _ _ => pe_tup (pa_cons (pv 6) (pa_cons (pv 7) pa_nil)))))))) (pss_one (ps_dput hu (pv 2) (pv 3) (pv 5) rfl)))))) (pss_one (ps_ret (pe_tup (pa_cons (pv 1) (pa_cons (pv 2) pa_nil)))))))), ?_⟩
  intro dm hdm
  have e1 : Same H (upd H dm (.dK [])) := Same.new (Same.refl _) hdm
  intro dt hdt
  have e2 : Same H (upd (upd H dm (.dK [])) dt (.dK [])) := Same.new e1 hdt
  have ndd : dm ≠ dt := fun z => by rw [← z, upd_same] at hdt; cases hdt
  have hm2 : (upd (upd H dm (.dK [])) dt (.dK [])) dm = some (.dK (dR (withA (T.marks.take 0) fun _ => 0))) := by rw [upd_ne ndd, upd_same]; rfl
  have ht2 : (upd (upd H dm (.dK [])) dt (.dK [])) dt = some (.dK []) := upd_same
  have hdtH : H dt = none := e1.free hdt
  have ndm : dm ≠ wm := fun z => by rw [z, hM] at hdm; cases hdm
  have ndt : dt ≠ wm := fun z => by rw [z, hM] at hdtH; cases hdtH
  have ndm2 : dm ≠ wt := fun z => by rw [z, hT] at hdm; cases hdm
  have ndt2 : dt ≠ wt := fun z => by rw [z, hT] at hdtH; cases hdtH
  revert e2 hm2 ht2
  generalize (upd (upd H dm (.dK [])) dt (.dK [])) = H2
  intro e2 hm2 ht2
  walk_at "rd"
  refine ⟨wm, _, e2 _ _ hM, True.intro, fun od => ?_⟩
  have eL : Same (hide wm H) (upd H2 wm (.frz od (.dK (dR (withA T.marks wfm))))) := (hide_mono e2).trans hide_upd
  have hAL : (upd H2 wm (.frz od (.dK (dR (withA T.marks wfm))))) wm = some (.frz od (.dK (dR (withA T.marks wfm)))) := upd_same
  have hmL : (upd H2 wm (.frz od (.dK (dR (withA T.marks wfm))))) dm = some (.dK (dR (withA (T.marks.take 0) fun _ => 0))) := by rw [upd_ne ndm]; exact hm2
  have htL : (upd H2 wm (.frz od (.dK (dR (withA T.marks wfm))))) dt = some (.dK []) := by rw [upd_ne ndt]; exact ht2
  have hAw : a ≠ wm := ne_of hA hM (by intro z; cases z)
  have hAh : hide wm H a = some (.tup [nV W.n, .ref wm, .ref wt]) := by rw [hide_ne hAw]; exact hA
  have hMh : ∀ m ∈ T.marks, hide wm H (wfm m) = some (.lst (bls W.n (W.mb m))) := fun m hm => by rw [hide_ne (ne_of (hMv m hm) hM (by intro z; cases z))]; exact hMv m hm
  have hdmh : hide wm H dm = none := by rw [hide_ne ndm]; exact hdm
  revert eL hAL hmL htL
  generalize (upd H2 wm (.frz od (.dK (dR (withA T.marks wfm))))) = HL
  intro eL hAL hmL htL
  walk_at "rd"
  refine ⟨_, _, _, _, rfl, rfl, SqT.of (eL _ _ hAh), atI_nat (j := 1) rfl, ?_⟩
  refine ⟨wm, od, rfl, .inl ⟨_, hAL, ?_⟩⟩
  refine for_it walk_keys (fun i σ H' => ∃ (fl : Str → Addr) (y : Option V), σ = [some (.ref a), some (.ref dm), some (.ref dt), y, none, none, none, none] ∧ Same (hide wm H) H' ∧ H' wm = some (.frz od (.dK (dR (withA T.marks wfm)))) ∧ H' dm = some (.dK (dR (withA (T.marks.take i) fl))) ∧ H' dt = some (.dK []) ∧ ∀ m ∈ T.marks.take i, H (fl m) = none ∧ H' (fl m) = some (.lst (((W.wd T).ms m).map nV)))
    ⟨_, _, rfl, eL, hAL, hmL, htL, fun m hm => by simp at hm⟩ (fun i σ H' _ hP => hP.elim fun _ h => h.elim fun _ h => h.2.2.1) (fun i x σ H0 H' hi hP y => ?_) (fun σ H' hP => ?_)
  · obtain ⟨fl, y', rfl, e3, hA3, hm3, ht3, hfl3⟩ := hP
    obtain ⟨rfl, k, v, hk', rfl⟩ := y
    obtain ⟨p, hp, e⟩ := map_at hk'
    cases e
    obtain ⟨m, hm, rfl⟩ := map_at hp
    have hmm := List.mem_of_getElem? hm
    have hml := (List.getElem?_eq_some_iff.mp hm).1
    obtain ⟨n1, n2⟩ := nodup_take okT.ndm hm
    walk_at "rd"
    refine ⟨_, _, _, _, rfl, rfl, SqT.of (e3 _ _ hAh), atI_nat (j := 0) rfl, ?_⟩
    walk_at "rd"
    refine ⟨by omega, by omega, fun Dn hDn => ?_⟩
    refine lc_rangeF (n := W.n) (fun i y _ => y = nV i) (W.mb m) hDn (by omega) (fun _ _ _ _ _ h => h) rfl (fun i H4 acc hi e4 hY N k1 k2 => ?_) (fun H4 ys e4 hY hp4 => ?_)
    · walk_at "rd"
      refine ⟨_, _, _, _, rfl, rfl, SqT.of (e4 _ _ (e3 _ _ hAh)), atI_nat (j := 1) rfl, ?_⟩
      walk_at "rd"
      refine ⟨_, _, rfl, .inl ⟨_, Sum.inr m, .inr ⟨_, e4 _ _ hA3⟩, rfl, (withA_val okT.ndm hmm).symm⟩, ?_⟩
      walk_at "rd"
      refine ⟨_, _, _, .bl (W.mb m i), rfl, rfl, SqL.of (e4 _ _ (e3 _ _ (hMh m hmm))), atI_nat (j := i) (bls_at hi), ?_⟩
      walk_at "rd"
      refine iteS (fun hc => ?_) (fun hc => ?_)
      · walk_at "rd"
        exact k2 _ H4 (Same.refl _) hc rfl
      · exact k1 H4 (Same.refl _) hc
    · have hys : ys = ((W.wd T).ms m).map nV := paired_eq hp4
      rw [hys] at hY
      have hm4 := e4 _ _ hm3
      have hDm : Dn ≠ dm := ne_of hY hm4 (by intro z; cases z)
      walk_at "rd"
      refine ⟨_, _, rfl, DPut.k (k := Sum.inr m) hm4 (szl ?_), ?_⟩
      · unfold dR withA
        rw [List.length_map, List.length_map, List.length_take]
        have := okT.lm
        omega
      rw [dR_put okT.ndm hm]
      refine ⟨fun z => if z = m then Dn else fl z, _, rfl, Same.mut (e3.trans e4) hdmh, by rw [upd_ne (Ne.symm ndm)]; exact e4 _ _ hA3, upd_same, by rw [upd_ne (Ne.symm ndd)]; exact e4 _ _ ht3, fun m' hm' => ?_⟩
      rw [n2] at hm'
      by_cases q' : m' = m
      · subst q'
        simp only [if_true]
        rw [upd_ne hDm]
        exact ⟨free_of e3 hA3 hDn, hY⟩
      · simp only [if_neg q']
        rcases List.mem_append.mp hm' with h | h
        · have g1 := e4 _ _ (hfl3 m' h).2
          rw [upd_ne (ne_of g1 hm4 (by intro z; cases z))]
          exact ⟨(hfl3 m' h).1, g1⟩
        · exact absurd (by simpa using h) q'
  · obtain ⟨fm, y', rfl, e3, hA3, hm3, ht3, hfm3⟩ := hP
    rw [show (dR (withA T.marks wfm)).length = T.marks.length by simp [dR, withA], List.take_length] at hm3 hfm3
    refine ⟨hA3, ?_⟩
    have eH : Same H (upd H' wm (.dK (dR (withA T.marks wfm)))) := unhide hM e3
    have hm4 : (upd H' wm (.dK (dR (withA T.marks wfm)))) dm = some (.dK (dR (withA T.marks fm))) := by rw [upd_ne ndm]; exact hm3
    have ht4 : (upd H' wm (.dK (dR (withA T.marks wfm)))) dt = some (.dK (dR (withA (T.ties.take 0) fun _ => 0))) := by rw [upd_ne ndt]; exact ht3
    have hfmN : ∀ m ∈ T.marks, H (fm m) = none := fun m hm => (hfm3 m hm).1
    have hfm4 : ∀ m ∈ T.marks, (upd H' wm (.dK (dR (withA T.marks wfm)))) (fm m) = some (.lst (((W.wd T).ms m).map nV)) := fun m hm => by rw [upd_ne (ne_of (hfm3 m hm).2 hA3 (by intro z; cases z))]; exact (hfm3 m hm).2
    revert eH hm4 ht4 hfm4
    generalize (upd H' wm (.dK (dR (withA T.marks wfm)))) = H4
    intro eH hm4 ht4 hfm4
    walk_at "rd"
    refine ⟨wt, _, eH _ _ hT, True.intro, fun od2 => ?_⟩
    have eL2 : Same (hide wt H) (upd H4 wt (.frz od2 (.dK (dR (withA T.ties wft))))) := (hide_mono eH).trans hide_upd
    have hAL2 : (upd H4 wt (.frz od2 (.dK (dR (withA T.ties wft))))) wt = some (.frz od2 (.dK (dR (withA T.ties wft)))) := upd_same
    have hmL2 : (upd H4 wt (.frz od2 (.dK (dR (withA T.ties wft))))) dm = some (.dK (dR (withA T.marks fm))) := by rw [upd_ne ndm2]; exact hm4
    have htL2 : (upd H4 wt (.frz od2 (.dK (dR (withA T.ties wft))))) dt = some (.dK (dR (withA (T.ties.take 0) fun _ => 0))) := by rw [upd_ne ndt2]; exact ht4
    have hfL2 : ∀ m ∈ T.marks, (upd H4 wt (.frz od2 (.dK (dR (withA T.ties wft))))) (fm m) = some (.lst (((W.wd T).ms m).map nV)) := fun m hm => by rw [upd_ne (ne_of (hfm4 m hm) (eH _ _ hT) (by intro z; cases z))]; exact hfm4 m hm
    have hAw2 : a ≠ wt := ne_of hA hT (by intro z; cases z)
    have hAh2 : hide wt H a = some (.tup [nV W.n, .ref wm, .ref wt]) := by rw [hide_ne hAw2]; exact hA
    have hTh2 : ∀ t ∈ T.ties, GridAt (hide wt H) (wft t) W.n (W.tb t) := fun t ht => by
      obtain ⟨r, h1, h2⟩ := hTv t ht
      refine ⟨r, by rw [hide_ne (ne_of h1 hT (by intro z; cases z))]; exact h1, Paired.mapP h2 fun i b h => ?_⟩
      rw [hide_ne (ne_of h hT (by intro z; cases z))]
      exact h
    have hdth2 : hide wt H dt = none := by rw [hide_ne ndt2]; exact hdtH
    revert eL2 hAL2 hmL2 htL2 hfL2
    generalize (upd H4 wt (.frz od2 (.dK (dR (withA T.ties wft))))) = HM
    intro eL2 hAL2 hmL2 htL2 hfL2
    walk_at "rd"
    refine ⟨_, _, _, _, rfl, rfl, SqT.of (eL2 _ _ hAh2), atI_nat (j := 2) rfl, ?_⟩
    refine ⟨wt, od2, rfl, .inl ⟨_, hAL2, ?_⟩⟩
    refine for_it walk_keys (fun i σ H' => ∃ (fl : Str → Addr) (y3 y5 y6 : Option V), σ = [some (.ref a), some (.ref dm), some (.ref dt), y3, none, y5, y6, none] ∧ Same (hide wt H) H' ∧ H' wt = some (.frz od2 (.dK (dR (withA T.ties wft)))) ∧ H' dm = some (.dK (dR (withA T.marks fm))) ∧ (∀ m ∈ T.marks, H' (fm m) = some (.lst (((W.wd T).ms m).map nV))) ∧ H' dt = some (.dK (dR (withA (T.ties.take i) fl))) ∧ ∀ t ∈ T.ties.take i, H (fl t) = none ∧ ∃ qs : List Addr, H' (fl t) = some (.lst (qs.map V.ref)) ∧ PairsAt H' qs ((W.wd T).ts t))
      ⟨_, _, _, _, rfl, eL2, hAL2, hmL2, hfL2, htL2, fun m hm => by simp at hm⟩ (fun i σ H' _ hP => by obtain ⟨_, _, _, _, _, _, h, _⟩ := hP; exact h) (fun i x σ H0 H' hi hP y => ?_) (fun σ H' hP => ?_)
    · obtain ⟨fl, y3, y5, y6, rfl, e5, hA5, hm5, hfm5, ht5, hfl5⟩ := hP
      obtain ⟨rfl, k, v, hk', rfl⟩ := y
      obtain ⟨p, hp, e⟩ := map_at hk'
      cases e
      obtain ⟨t, ht, rfl⟩ := map_at hp
      have htm := List.mem_of_getElem? ht
      have htl := (List.getElem?_eq_some_iff.mp ht).1
      obtain ⟨n1, n2⟩ := nodup_take okT.ndt ht
      walk_at "rd"
      refine ⟨sz (by simp), fun pd hpd => ?_⟩
      have e6 : Same H' (upd H' pd (.lst [])) := Same.new (Same.refl _) hpd
      have hpN := free_of e5 hA5 hpd
      have hp6 : (upd H' pd (.lst [])) pd = some (.lst ([].map V.ref)) := upd_same
      revert e6 hp6
      generalize (upd H' pd (.lst [])) = H6
      intro e6 hp6
      walk_at "rd"
      refine ⟨_, _, _, _, rfl, rfl, SqT.of (e6 _ _ (e5 _ _ hAh2)), atI_nat (j := 0) rfl, ?_⟩
      walk_at "rd"
      refine ⟨by omega, by omega, ?_⟩
      refine for_range (lo := 0) (n := W.n) (fun i σ H' => ∃ (pd : Addr) (qs : List Addr) (y6 : Option V), σ = [some (.ref a), some (.ref dm), some (.ref dt), some (.str t), none, some (.ref pd), y6, none] ∧ H pd = none ∧ Same H6 H' ∧ H' pd = some (.lst (qs.map V.ref)) ∧ PairsAt H' qs ((List.range i).flatMap fun a => ((List.range W.n).filter (W.tb t a)).map fun j => (a, j)) ∧ qs.length ≤ i * W.n)
        ⟨pd, [], _, rfl, hpN, Same.refl _, hp6, .nil, Nat.zero_le _⟩ (fun i σ H' hi hP => ?_) (fun σ H' hP => ?_)
      · obtain ⟨pd, qs, y6, rfl, hpN, e7, hp7, hq7, hl7⟩ := hP
        rw [Int.zero_add]
        obtain ⟨r, hr1, hr2, hr3⟩ := (hTh2 t htm).row
        obtain ⟨b, hb1, hb2⟩ := hr3 i hi
        have E7 := (e5.trans e6).trans e7
        walk_at "rd"
        refine ⟨_, _, _, _, rfl, rfl, SqT.of (E7 _ _ hAh2), atI_nat (j := 0) rfl, ?_⟩
        walk_at "rd"
        refine ⟨by omega, by omega, fun Dn hDn => ?_⟩
        refine lc_rangeF (n := W.n) (fun j y H => ∃ b, y = .ref b ∧ H b = some (.tup [nV i, nV j])) (W.tb t i) hDn (by omega) (fun k y H H' e ⟨b, h1, h2⟩ => ⟨b, h1, e _ _ h2⟩) rfl (fun j H8 acc hj e8 hY N k1 k2 => ?_) (fun H8 ys e8 hY hp8 => ?_)
        · walk_at "rd"
          refine ⟨_, _, _, _, rfl, rfl, SqT.of (e8 _ _ (E7 _ _ hAh2)), atI_nat (j := 2) rfl, ?_⟩
          walk_at "rd"
          refine ⟨_, _, rfl, .inl ⟨_, Sum.inr t, .inr ⟨_, e8 _ _ (e7 _ _ (e6 _ _ hA5))⟩, rfl, (withA_val okT.ndt htm).symm⟩, ?_⟩
          walk_at "rd"
          refine ⟨_, _, _, .ref b, rfl, rfl, SqL.of (e8 _ _ (E7 _ _ hr1)), atI_nat (j := i) (by rw [List.getElem?_map, hb1]; rfl), ?_⟩
          walk_at "rd"
          refine ⟨_, _, _, .bl (W.tb t i j), rfl, rfl, SqL.of (e8 _ _ (E7 _ _ hb2)), atI_nat (j := j) (bls_at hj), ?_⟩
          walk_at "rd"
          refine iteS (fun hc => ?_) (fun hc => ?_)
          · walk_at "rd"
            refine ⟨sz (by simp), fun pp hpp => ?_⟩
            refine k2 _ _ (Same.new (Same.refl _) hpp) hc ⟨pp, rfl, ?_⟩
            rw [hide_ne (fun z => by rw [z, hY] at hpp; cases hpp), upd_same]
          · exact k1 H8 (Same.refl _) hc
        · obtain ⟨rr, hrr1, hrr2⟩ := paired_refs hp8
          rw [hrr1] at hY
          have hpr : PairsAt H8 rr (((List.range W.n).filter (W.tb t i)).map fun k => (i, k)) := paired_pairs (Paired.mapP hrr2 fun _ _ h => hide_same _ _ h)
          have hrl : rr.length ≤ W.n := by
            have h1 := Paired.length hrr2
            have h2 := List.length_filter_le (W.tb t i) (List.range W.n)
            rw [List.length_range] at h2
            omega
          have him : i * W.n ≤ 15 * 15 := Nat.mul_le_mul (by omega) hn
          walk_at "rd"
          refine ⟨_, _, _, _, rfl, rfl, e8 _ _ hp7, hY, by rw [List.length_map, List.length_map]; exact sz (by omega), fun fc hfc => ?_⟩
          have e9 : Same H8 (upd H8 fc (.lst (qs.map V.ref ++ rr.map V.ref))) := Same.new (Same.refl _) hfc
          refine ⟨fc, qs ++ rr, _, rfl, free_of ((((e5.trans e6).trans e7)).trans e8) (e8 _ _ (e7 _ _ (e6 _ _ hA5))) hfc, (e7.trans e8).trans e9, by rw [upd_same, List.map_append], ?_, ?_⟩
          · rw [List.range_succ, List.flatMap_append]
            refine paired_append (hq7.mono (e8.trans e9)) ?_
            simp only [List.flatMap_cons, List.flatMap_nil, List.append_nil]
            exact hpr.mono e9
          · rw [List.length_append, Nat.succ_mul]
            omega
      · obtain ⟨pd, qs, y6, rfl, hpN, e7, hp7, hq7, hl7⟩ := hP
        have ht7 := e7 _ _ (e6 _ _ ht5)
        have E7 := (e5.trans e6).trans e7
        have hpd : pd ≠ dt := ne_of hp7 ht7 (by intro z; cases z)
        have tup : ∀ {qs : List Addr} {ps : List (Nat × Nat)} {o : HO}, PairsAt H' qs ps → PairsAt (upd H' dt o) qs ps := fun h => Paired.mapP h fun _ _ h => by
          rw [upd_ne (ne_of h ht7 (by intro z; cases z))]
          exact h
        walk_at "rd"
        refine ⟨_, _, rfl, DPut.k (k := Sum.inr t) ht7 (szl ?_), ?_⟩
        · unfold dR withA
          rw [List.length_map, List.length_map, List.length_take]
          have := okT.lt
          omega
        rw [dR_put okT.ndt ht]
        refine ⟨fun z => if z = t then pd else fl z, _, _, _, rfl, Same.mut E7 hdth2, by rw [upd_ne (Ne.symm ndt2)]; exact e7 _ _ (e6 _ _ hA5), by rw [upd_ne ndd]; exact e7 _ _ (e6 _ _ hm5), fun m hm => ?_, upd_same, fun t' ht' => ?_⟩
        · have g1 := e7 _ _ (e6 _ _ (hfm5 m hm))
          rw [upd_ne (ne_of g1 ht7 (by intro z; cases z))]
          exact g1
        · rw [n2] at ht'
          by_cases q' : t' = t
          · subst q'
            simp only [if_true]
            exact ⟨hpN, qs, by rw [upd_ne hpd]; exact hp7, tup hq7⟩
          · simp only [if_neg q']
            rcases List.mem_append.mp ht' with h | h
            · obtain ⟨h0, qs', h1, h2⟩ := hfl5 t' h
              have g1 := e7 _ _ (e6 _ _ h1)
              exact ⟨h0, qs', by rw [upd_ne (ne_of g1 ht7 (by intro z; cases z))]; exact g1, tup (h2.mono (e6.trans e7))⟩
            · exact absurd (by simpa using h) q'
    · obtain ⟨ft, y3, y5, y6, rfl, e5, hA5, hm5, hfm5, ht5, hft5⟩ := hP
      rw [show (dR (withA T.ties wft)).length = T.ties.length by simp [dR, withA], List.take_length] at ht5 hft5
      refine ⟨hA5, ?_⟩
      have eH2 : Same H (upd H' wt (.dK (dR (withA T.ties wft)))) := unhide hT e5
      have hm6 : (upd H' wt (.dK (dR (withA T.ties wft)))) dm = some (.dK (dR (withA T.marks fm))) := by rw [upd_ne ndm2]; exact hm5
      have ht6 : (upd H' wt (.dK (dR (withA T.ties wft)))) dt = some (.dK (dR (withA T.ties ft))) := by rw [upd_ne ndt2]; exact ht5
      have hfm6 : ∀ m ∈ T.marks, (upd H' wt (.dK (dR (withA T.ties wft)))) (fm m) = some (.lst (((W.wd T).ms m).map nV)) := fun m hm => by rw [upd_ne (ne_of (hfm5 m hm) hA5 (by intro z; cases z))]; exact hfm5 m hm
      have hft6 : ∀ t ∈ T.ties, H (ft t) = none ∧ ∃ qs : List Addr, (upd H' wt (.dK (dR (withA T.ties wft)))) (ft t) = some (.lst (qs.map V.ref)) ∧ PairsAt (upd H' wt (.dK (dR (withA T.ties wft)))) qs ((W.wd T).ts t) := fun t ht => by
        obtain ⟨h0, qs, h1, h2⟩ := hft5 t ht
        refine ⟨h0, qs, by rw [upd_ne (ne_of h1 hA5 (by intro z; cases z))]; exact h1, Paired.mapP h2 fun _ _ h => ?_⟩
        rw [upd_ne (ne_of h hA5 (by intro z; cases z))]
        exact h
      revert eH2 hm6 ht6 hfm6 hft6
      generalize (upd H' wt (.dK (dR (withA T.ties wft)))) = H6
      intro eH2 hm6 ht6 hfm6 hft6
      walk_at "rd"
      refine ⟨sz (by simp), fun r hr => ?_⟩
      have e7 : Same H6 (upd H6 r (.tup [.ref dm, .ref dt])) := Same.new (Same.refl _) hr
      exact q r dm dt fm ft _ (eH2.trans e7) upd_same (e7 _ _ hm6) (fun m hm => ⟨hfmN m hm, e7 _ _ (hfm6 m hm)⟩) (e7 _ _ ht6) (fun t ht => by
        obtain ⟨h0, qs, h1, h2⟩ := hft6 t ht
        exact ⟨h0, qs, e7 _ _ h1, h2.mono e7⟩)
end
end K48
namespace K48
open PySem PySem.Spec PyProof.Rows L2
local macro_rules | `(tactic| walk_at "rd") => `(tactic| repeat (first | refine ⟨_, rfl, ?_⟩ | refine ⟨_, _, rfl, rfl, ?_⟩ | refine ⟨rfl, ?_⟩ | refine iteTk (by decide +kernel) ?_ | refine iteFk (by decide +kernel) ?_))
local macro_rules | `(tactic| walk_at "rdr") => `(tactic| repeat (first | refine ⟨_, rfl, ?_⟩ | refine ⟨_, _, rfl, rfl, ?_⟩ | refine ⟨rfl, ?_⟩ | refine iteTk (by first | decide +kernel | rfl) ?_ | refine iteFk (by first | decide +kernel | rfl) ?_))
local macro_rules | `(tactic| walk_at "tyn") => `(tactic| first | exact .int _ | exact .bl _ | exact .str _ | exact .tup (by assumption) | exact .lst (by assumption) | exact .dK (by assumption))
local macro_rules | `(tactic| walk_at "isT") => `(tactic| refine ⟨_, _, _, _, true, rfl, .ty _, TyN.x (by walk_at "tyn"), kit_ty (by decide +kernel), ?_⟩)
local macro_rules | `(tactic| walk_at "isF") => `(tactic| refine ⟨_, _, _, _, false, rfl, .ty _, TyN.x (by walk_at "tyn"), kit_ty (by decide +kernel), ?_⟩)
local macro_rules | `(tactic| walk_at "nz") => `(tactic| first | refine nzG (by simp only [List.set_cons_succ, List.set_cons_zero]; rfl) ?_ | refine reS (by simp only [List.set_cons_succ, List.set_cons_zero]; rfl) ?_)
section
variable {P : Program} {w : World} {K : PySem.W.Frag} {mg : Str → Option Value} {base : Heap} {cT cW : Addr}
def spPlaces (n : Nat) : Sp := fun vs H Q _ => ∃ (G : Hp) (a : Addr) (s : Say), vs = [.ref a] ∧ Same G H ∧ SayAt G s a ∧ s.deep ≤ n ∧ ∀ p (i j : Int) H', Same H H' → H' p = some (.tup [.int i, .int j]) → Q (.ref p) H'
theorem ok_places (B : Blt mg) (D : Def K mg "_law_places" s_law_places) (c_free : ∀ n, CallOk P w K mg base (n + 1) "_law_free" P_law_free (spLFree n)) : ∀ n, CallOk P w K mg base (n + 2) "_law_places" P_law_places (spPlaces n) := by
  intro n
  induction n with
  | zero => exact callOk_none D bd_law_places fun vs H Q E ⟨G, a, s, _, _, _, h, _⟩ => by have := s.deep_pos; omega
  | succ n ih =>
  have c_law_places := ih
  have c_law_free := c_free (n + 1)
  refine callOk D sc_law_places bd_law_places (fun vs H Q E h => ?_) (fun f cdv A outer st H vs Q E hr h => ?_)
  · obtain ⟨G, a, s, rfl, _⟩ := h
    rfl
  obtain ⟨G, a, s, rfl, eG, hS, hd, q⟩ := h
  obtain ⟨rest, hw, hit⟩ := hS.items
  obtain ⟨tR, hT, hR⟩ : ∃ t, PSs (cxOf CX0 P w K mg base N_law_places "_law_places" (defScope s_law_places) f cdv A outer st H E).nox ((defBody s_law_places).drop 3) t ∧
      ∀ (i j : Int) (H2 : Hp), Same H H2 → t { nx := fun _ H' => Q .non H', rt := Q } [some (.ref a), some (.int i), some (.int j), none, none] H2 := by
    refine ⟨_, pss_cons (ps_for PassesOwn.never rfl (pi_tup (pe_slice sl_tup (pv 0) (po_some (pe_int)) po_none)) (pg_name (i := 3) sc_law_places.nd rfl (.inl rfl)) (pss_one (ps_if (pt_val (pe_callB call_isi (by rfl) B.isinstance bo_isinstance (pa_cons (pv 3) (pa_cons (pe_bltn (v := .ty "tuple") (by rfl) B.tuple bo_tuple rfl) pa_nil)))) (pss_cons (ps_set (i := 4) sc_law_places.nd rfl (.inl rfl) (pe_cl c_law_places hr (by rfl) (pa_cons (pv 3) pa_nil))) (pss_cons (ps_set (i := 1) sc_law_places.nd rfl (.inl rfl) (pe_op op_add (pv 1) (pe_ix ix_tup (pv 4) (pe_int) (fun _ _ => rfl)))) (pss_one (ps_set (i := 2) sc_law_places.nd rfl (.inl rfl) (pe_op op_add (pv 2) (pe_ix ix_tup (pv 4) (pe_int) (fun _ _ => rfl))))))) (pss_nil)))) (pss_one (ps_ret (pe_tup (pa_cons (pv 1) (pa_cons (pv 2) pa_nil))))), fun i j H2 e2 => ?_⟩
    walk_at "rd"
    refine ⟨_, _, rfl, SqT.of (e2 _ _ (eG _ _ hw)), cut1_not _ _, fun p1 hp1 => ?_⟩
    rw [cut1]
    have e3 : Same H (upd H2 p1 (.tup rest)) := Same.new e2 hp1
    have hR3 : (upd H2 p1 (.tup rest)) p1 = some (.tup rest) := upd_same
    revert e3 hR3
    generalize (upd H2 p1 (.tup rest)) = H3
    intro e3 hR3
    obtain ⟨ks, hks1, hks2, hks3, hks4⟩ := hit
    refine ⟨_, rfl, ⟨_, SqT.of hR3⟩, for_tup (K := K) (a := p1) (xs := rest)
      (fun _ σ H' => ∃ (i j : Int) (y3 y4 : Option V), σ = [some (.ref a), some (.int i), some (.int j), y3, y4] ∧ Same H3 H')
      ⟨i, j, _, _, rfl, Same.refl _⟩ (fun _ σ H' _ hP => let ⟨_, _, _, _, _, h⟩ := hP; SqT.of (h _ _ hR3)) (fun m x σ H' hx hP => ?_) (fun σ H' hP => ?_)⟩
    · obtain ⟨i, j, y3, y4, rfl, e4⟩ := hP
      rw [hks1] at hx
      obtain ⟨k, hk, hkx⟩ := map_at hx
      have hkm := List.mem_of_getElem? hk
      have eG4 : Same G H' := (eG.trans e3).trans e4
      cases k with
      | inl z =>
        subst hkx
        walk_at "rd"
        walk_at "isF"
        walk_at "rd"
        exact ⟨i, j, _, _, rfl, e4⟩
      | inr qd =>
        subst hkx
        have hqS := hks3 qd hkm
        obtain ⟨qx, hqt⟩ := hqS.tup
        have hqt := eG4 _ _ hqt
        walk_at "rd"
        walk_at "isT"
        walk_at "rd"
        have hkk : qd.1 ∈ s.kids := by
          rw [← hks2]
          exact List.mem_filterMap.mpr ⟨_, hkm, rfl⟩
        refine ⟨G, qd.2, qd.1, rfl, eG4, hqS, by have := Say.deep_kids hkk; omega, fun pp i2 j2 H5 e5 hpp => ?_⟩
        walk_at "rd"
        refine ⟨_, _, _, _, rfl, rfl, SqT.of hpp, atI_nat (j := 0) rfl, ?_⟩
        walk_at "rd"
        refine ⟨_, _, _, _, rfl, rfl, SqT.of hpp, atI_nat (j := 1) rfl, ?_⟩
        walk_at "rd"
        exact ⟨_, _, _, _, rfl, e4.trans e5⟩
    · obtain ⟨i, j, y3, y4, rfl, e4⟩ := hP
      walk_at "rd"
      refine ⟨sz (by simp), fun p9 hp9 => ?_⟩
      exact q p9 i j _ (Same.new (e3.trans e4) hp9) upd_same
  refine ⟨_, pss_cons (ps_set (i := 1) sc_law_places.nd rfl (.inl rfl) (pe_int)) (pss_cons (ps_set (i := 2) sc_law_places.nd rfl (.inl rfl) (pe_int)) (pss_cons (ps_if (pt_cmpR op_in_seq (pe_ix ix_tup (pv 0) (pe_int) (fun _ _ => rfl)) (pe_lst (pa_cons (pe_str) (pa_cons (pe_str) pa_nil))) (by rfl)) (pss_one (ps_if (pt_cmpR op_eq (pe_callB call_len_seq (by rfl) B.len bo_len (pa_cons (pe_cl c_law_free hr (by rfl) (pa_cons (pv 0) pa_nil)) pa_nil)) (pe_int) (nomark _)) (pss_one (ps_set (i := 2) sc_law_places.nd rfl (.inl rfl) (pe_int))) (pss_one (ps_set (i := 1) sc_law_places.nd rfl (.inl rfl) (pe_int))))) (pss_nil)) (hT))), ?_⟩
  walk_at "rd"
  refine ⟨_, _, _, _, rfl, rfl, SqT.of (eG _ _ hw), atI_nat (j := 0) rfl, ?_⟩
  have w3 : inV (.str s.word) [.str "each", .str "some"] = s.bnd.isSome := bnd_word hS
  walk_at "rd"
  refine ⟨sz (by simp), fun l1 hl1 => ?_⟩
  have e1 : Same H (upd H l1 (.lst [.str "each", .str "some"])) := Same.new (Same.refl _) hl1
  refine ⟨_, _, rfl, .inl (SqL.of upd_same), rfl, rfl, ?_⟩
  rw [w3]
  refine ⟨_, rfl, ?_⟩
  refine iteS (fun hb => ?_) (fun hb => ?_)
  · walk_at "rd"
    refine ⟨G, a, s, rfl, eG.trans e1, hS, hd, fun l H2 e2 hl => ?_⟩
    refine ⟨_, _, rfl, .inl (SqL.of hl), ?_⟩
    walk_at "rd"
    refine iteS (fun hc => ?_) (fun hc => ?_)
    · walk_at "rd"
      exact hR _ _ _ (e1.trans e2)
    · walk_at "rd"
      exact hR _ _ _ (e1.trans e2)
  · exact hR _ _ _ e1
def spSaid : Sp := fun vs H Q _ => ∃ (G : Hp) (p c sh : Addr) (T : Tng), vs = [.ref p, .ref sh, .int 2] ∧ Same G H ∧ G p = none ∧ G c = none ∧ PoolAt H p c ∧ ShapeAt G sh T ∧ T.Ok ∧
  ∀ (a : Addr) (s : Say) (H' : Hp), Same (noP p c H) H' → PoolAt H' p c → SayAt (noP p c H') s a → s.okT T.marks T.ties → s.size ≤ 29 → s.deep ≤ 9 → s.closed → Q (.ref a) H'
theorem ok_said (B : Blt mg) (D : Def K mg "_law_said" s_law_said) (c_law_quantor : CallOk P w K mg base 2 "_law_quantor" P_law_quantor spQuantor) (c_law_test : CallOk P w K mg base 2 "_law_test" P_law_test spLTest) (c_law_closed : CallOk P w K mg base 8 "_law_closed" P_law_closed spClosed1) (c_law_places : CallOk P w K mg base 11 "_law_places" P_law_places (spPlaces 9)) :
    CallOk P w K mg base 12 "_law_said" P_law_said spSaid := by
  refine callOk D sc_law_said bd_law_said (fun vs H Q E h => ?_) (fun f cdv A outer st H vs Q E hr h => ?_)
  · obtain ⟨G, p, c, sh, T, rfl, _⟩ := h
    rfl
  obtain ⟨G, p, c, sh, T, rfl, eG, hGp, hGc, hp, hS, okT, q⟩ := h
  have hr2 : Room 2 _ := hr.mono (by decide)
  have hr8 : Room 8 _ := hr.mono (by decide)
  have hS0 : ShapeAt (noP p c H) sh T := hS.mono (noP_base eG hGp hGc)
  refine ⟨_, pss_cons (ps_for PassesOwn.never rfl (pi_range1 (by rfl) B.range (pa_cons (pe_int) pa_nil)) (pg_name (i := 3) sc_law_said.nd rfl (.inl rfl)) (pss_cons (ps_set (i := 4) sc_law_said.nd rfl (.inl rfl) (pe_cl c_law_closed hr8 (by rfl) (pa_cons (pv 0) (pa_cons (pv 1) (pa_cons (pv 2) (pa_cons (pe_int) pa_nil)))))) (pss_cons (ps_set (i := 5) sc_law_said.nd rfl (.inl rfl) (pe_cl c_law_places hr (by rfl) (pa_cons (pv 4) pa_nil))) (pss_one (ps_if (PW.pt (pw_and (pt_cmpR op_le (pe_ix ix_tup (pv 5) (pe_int) (fun _ _ => rfl)) (pv 2) (nomark _)) (pw_and1 (pt_cmpR op_le (pe_ix ix_tup (pv 5) (pe_int) (fun _ _ => rfl)) (pe_int) (nomark _))))) (pss_one (ps_ret (pv 4))) (pss_nil)))))) (pss_one (ps_ret (pe_tup (pa_cons (pe_cl c_law_quantor hr2 (by rfl) (pa_cons (pv 0) pa_nil)) (pa_cons (pe_str) (pa_cons (pe_cl c_law_test hr2 (by rfl) (pa_cons (pv 0) (pa_cons (pv 1) (pa_cons (pe_lst (pa_cons (pe_str) pa_nil)) pa_nil)))) pa_nil)))))), ?_⟩
  walk_at "rd"
  refine ⟨by decide, by decide, ?_⟩
  refine for_range (lo := 0) (n := (4 : Int).toNat) (fun i σ H' => ∃ y3 y4 y5, σ = [some (.ref p), some (.ref sh), some (.int 2), y3, y4, y5] ∧ Same (noP p c H) H' ∧ PoolAt H' p c)
    ⟨_, _, _, rfl, hidL_same, hp⟩ (fun i σ H' hi hP => ?_) (fun σ H' hP => ?_)
  · obtain ⟨y3, y4, y5, rfl, e1, hp1⟩ := hP
    have hS1 : ShapeAt (noP p c H') sh T := hS0.mono (hidL_into e1)
    walk_at "rd"
    refine ⟨noP p c H', p, c, sh, T, 2, 1, rfl, hidL_same, noP_p, noP_c, hp1, hS1, okT, ⟨rfl, rfl⟩, fun a s H2 e2 hp2 hs ok z d cl => ?_⟩
    walk_at "rd"
    refine ⟨noP p c H2, a, s, rfl, hidL_same, hs, d, fun pr i2 j2 H3 e3 hpr => ?_⟩
    have hp3 := hp2.same e3
    have e03 := noP_then (noP_trans e1 e2) e3
    walk_at "rd"
    refine ⟨_, _, _, _, rfl, rfl, SqT.of hpr, atI_nat (j := 0) rfl, ?_⟩
    walk_at "rd"
    refine iteS (fun hc => ?_) (fun hc => ?_)
    · walk_at "rd"
      refine ⟨_, _, _, _, rfl, rfl, SqT.of hpr, atI_nat (j := 1) rfl, ?_⟩
      walk_at "rd"
      refine iteS (fun hc => ?_) (fun hc => ?_)
      · walk_at "rd"
        exact q a s H3 e03 hp3 (hs.noP (noP_then hidL_same e3)) ok z d cl
      · exact ⟨_, _, _, rfl, e03, hp3⟩
    · exact ⟨_, _, _, rfl, e03, hp3⟩
  · obtain ⟨y3, y4, y5, rfl, e1, hp1⟩ := hP
    have hS1 : ShapeAt (noP p c H') sh T := hS0.mono (hidL_into e1)
    walk_at "rd"
    refine ⟨p, c, rfl, hp1, fun b H2 e2 hp2 => ?_⟩
    have hS2 : ShapeAt (noP p c H2) sh T := hS1.mono (hidL_into e2)
    walk_at "rd"
    refine ⟨sz (by simp), fun lx hlx => ?_⟩
    have nlx := pool_off hp2 hlx
    have e3 : Same H2 (upd H2 lx (.lst [.str "x"])) := Same.new (Same.refl _) hlx
    have hp3 := hp2.same e3
    refine ⟨noP p c (upd H2 lx (.lst [.str "x"])), p, c, sh, lx, T, [.x], rfl, hidL_same, noP_p, noP_c, hp3, hS2.mono (hidL_into (noP_then hidL_same e3)), okT, by rw [noP_ne nlx.1 nlx.2, upd_same]; rfl, by decide, by decide, fun a s H4 e4 hp4 hs ok4 k4 f4 => ?_⟩
    refine ⟨sz (by simp), fun r hr => ?_⟩
    have e5 : Same H4 (upd H4 r (.tup [.str (if b = true then "some" else "each"), .str "x", .ref a])) := Same.new (Same.refl _) hr
    have hp5 := hp4.same e5
    refine q r (qn b .x s) _ (noP_then (noP_trans (noP_trans e1 e2) (noP_step e3 e4)) e5) hp5 (say_qn (noP_tup hp5 upd_same) (hs.noP (noP_then hidL_same e5))) (qn_okI ok4) ?_ ?_ (closed_qn fun u hu => by simpa using f4 u hu)
    · rw [qn_size, (atom_small k4).1]
      decide
    · rw [qn_deep, (atom_small k4).2]
      decide
end
end K48
namespace K48
open PySem PySem.Spec PyProof.Rows L2
local macro_rules | `(tactic| walk_at "rd") => `(tactic| repeat (first | refine ⟨_, rfl, ?_⟩ | refine ⟨_, _, rfl, rfl, ?_⟩ | refine ⟨rfl, ?_⟩ | refine iteTk (by decide +kernel) ?_ | refine iteFk (by decide +kernel) ?_))
local macro_rules | `(tactic| walk_at "rdr") => `(tactic| repeat (first | refine ⟨_, rfl, ?_⟩ | refine ⟨_, _, rfl, rfl, ?_⟩ | refine ⟨rfl, ?_⟩ | refine iteTk (by first | decide +kernel | rfl) ?_ | refine iteFk (by first | decide +kernel | rfl) ?_))
local macro_rules | `(tactic| walk_at "tyn") => `(tactic| first | exact .int _ | exact .bl _ | exact .str _ | exact .tup (by assumption) | exact .lst (by assumption) | exact .dK (by assumption))
local macro_rules | `(tactic| walk_at "isT") => `(tactic| refine ⟨_, _, _, _, true, rfl, .ty _, TyN.x (by walk_at "tyn"), kit_ty (by decide +kernel), ?_⟩)
local macro_rules | `(tactic| walk_at "isF") => `(tactic| refine ⟨_, _, _, _, false, rfl, .ty _, TyN.x (by walk_at "tyn"), kit_ty (by decide +kernel), ?_⟩)
local macro_rules | `(tactic| walk_at "nz") => `(tactic| first | refine nzG (by simp only [List.set_cons_succ, List.set_cons_zero]; rfl) ?_ | refine reS (by simp only [List.set_cons_succ, List.set_cons_zero]; rfl) ?_)
section
variable {P : Program} {w : World} {K : PySem.W.Frag} {mg : Str → Option Value} {base : Heap} {cT cW : Addr}
theorem ev_qn (W : Wd) (b : Bool) (v : Nm) (s : Say) (i j : Nat) : ev W (qn b v s) i j = bndg b v W.n (ev W s) i j := by cases b <;> cases v <;> rfl
def spRows (n : Nat) : Sp := fun vs H Q _ => ∃ (G : Hp) (a b : Addr) (T : Tng) (W : PW) (s : Say), vs = [.ref a, .ref b] ∧ Same G H ∧ PlainAt G a T W ∧ SayAt G s b ∧ s.okT T.marks T.ties ∧ T.marks.Nodup ∧ T.ties.Nodup ∧ s.deep ≤ n ∧ W.n ≤ 15 ∧
  ∀ l H', Same H H' → GridAt H' l W.n (ev (W.wd T) s) → Q (.ref l) H'
theorem ok_rows (B : Blt mg) (D : Def K mg "_law_rows" s_law_rows) (c_joined : CallOk P w K mg base 1 "_law_joined" P_law_joined spJoined) (c_bound : CallOk P w K mg base 1 "_law_bound" P_law_bound spLBound) : ∀ n, CallOk P w K mg base (n + 1) "_law_rows" P_law_rows (spRows n) := by
  intro n
  induction n with
  | zero => exact callOk_none D bd_law_rows fun vs H Q E ⟨G, a, b, T, W, s, _, _, _, _, _, _, _, h, _⟩ => by have := s.deep_pos; omega
  | succ n ih =>
  have c_law_rows := ih
  have c_law_joined := c_joined
  have c_law_bound := c_bound
  refine callOk D sc_law_rows bd_law_rows (fun vs H Q E h => ?_) (fun f cdv A outer st H vs Q E hr h => ?_)
  · obtain ⟨G, a, b, T, W, s, rfl, _⟩ := h
    rfl
  obtain ⟨G, a, b, T, W, s, rfl, eG, hP, hS, ok, ndm, ndt, hd, hn, q⟩ := h
  have hu := hu_of hr
  have hr1 : Room 1 _ := hr.mono (by omega)
  refine ⟨_, pss_cons (ps_asg (pv 0) (pg_tup rfl (pgs_cons (pg_name (i := 2) sc_law_rows.nd rfl (.inl rfl)) (pgs_cons (pg_name (i := 3) sc_law_rows.nd rfl (.inl rfl)) (pgs_cons (pg_name (i := 4) sc_law_rows.nd rfl (.inl rfl)) pgs_nil))))) (pss_cons (ps_set (i := 5) sc_law_rows.nd rfl (.inr rfl) (pe_listRg rfl (by rfl) B.list (prg_1 (by rfl) B.range (pv 2)))) (pss_cons (ps_set (i := 6) sc_law_rows.nd rfl (.inl rfl) (pe_ix ix_tup (pv 1) (pe_int) (fun _ _ => rfl))) (pss_cons (ps_if (pt_cmpR op_eq (pv 6) (pe_str) (nomark _)) (pss_one (ps_ret (pe_lc (own := [("_law_x", 8)]) (g := gName 8) (tt := tYes) (by rfl) sc_law_rows.nd (pi_list (pv 5)) (blkOk_by (own := [("_law_x", 8)]) (N := N_law_rows) (by kernel_rfl)) (fun _ _ _ _ _ => pg_name (i := 8) sc_law_rows.nd rfl (Or.inl rfl)) (fun _ _ _ _ _ => pts_nil) (fun _ _ _ _ _ => pe_lc (own := [("_law_y", 7)]) (g := gName 7) (tt := tYes) (by rfl) sc_law_rows.nd ((pi_listK (K := K) rfl) (pv 5)) (blkOk_by (own := [("_law_y", 7)]) (N := N_law_rows) (by kernel_rfl)) (fun _ _ _ _ _ => pg_name (i := 7) sc_law_rows.nd rfl (Or.inl rfl)) (fun _ _ _ _ _ => pts_nil) (fun _ _ _ _ _ => pe_bl))))) (pss_nil)) (pss_cons (ps_if (pt_cmpR op_eq (pv 6) (pe_str) (nomark _)) (pss_cons (ps_set (i := 9) sc_law_rows.nd rfl (.inr rfl) (pe_dget hu (pv 3) (pe_ix ix_tup (pv 1) (pe_int) (fun _ _ => rfl)) (fun _ _ => rfl))) (pss_cons (ps_if (pt_cmpR op_eq (pe_ix ix_tup (pv 1) (pe_int) (fun _ _ => rfl)) (pe_str) (nomark _)) (pss_one (ps_ret (pe_lc (own := [("_law_x", 8)]) (g := gName 8) (tt := tYes) (by rfl) sc_law_rows.nd (pi_list (pv 5)) (blkOk_by (own := [("_law_x", 8)]) (N := N_law_rows) (by kernel_rfl)) (fun _ _ _ _ _ => pg_name (i := 8) sc_law_rows.nd rfl (Or.inr rfl)) (fun _ _ _ _ _ => pts_nil) (fun _ _ _ _ _ => pe_lc (own := [("_law_y", 7)]) (g := gName 7) (tt := tYes) (by rfl) sc_law_rows.nd ((pi_listK (K := K) rfl) (pv 5)) (blkOk_by (own := [("_law_y", 7)]) (N := N_law_rows) (by kernel_rfl)) (fun _ _ _ _ _ => pg_name (i := 7) sc_law_rows.nd rfl (Or.inl rfl)) (fun _ _ _ _ _ => pts_nil) (fun _ _ _ _ _ => pe_ix (ix_listK (K := K) rfl) (pv 9) (pv 8) (fun _ _ => rfl)))))) (pss_nil)) (pss_one (ps_ret (pe_lc (own := [("_law_x", 8)]) (g := gName 8) (tt := tYes) (by rfl) sc_law_rows.nd (pi_list (pv 5)) (blkOk_by (own := [("_law_x", 8)]) (N := N_law_rows) (by kernel_rfl)) (fun _ _ _ _ _ => pg_name (i := 8) sc_law_rows.nd rfl (Or.inl rfl)) (fun _ _ _ _ _ => pts_nil) (fun _ _ _ _ _ => pe_lc (own := [("_law_y", 7)]) (g := gName 7) (tt := tYes) (by rfl) sc_law_rows.nd ((pi_listK (K := K) rfl) (pv 5)) (blkOk_by (own := [("_law_y", 7)]) (N := N_law_rows) (by kernel_rfl)) (fun _ _ _ _ _ => pg_name (i := 7) sc_law_rows.nd rfl (Or.inl rfl)) (fun _ _ _ _ _ => pts_nil) (fun _ _ _ _ _ => pe_ix (ix_listK (K := K) rfl) (pv 9) (pv 7) (fun _ _ => rfl)))))))) (pss_nil)) (pss_cons (ps_if (pt_cmpR op_eq (pv 6) (pe_str) (nomark _)) (pss_cons (ps_set (i := 10) sc_law_rows.nd rfl (.inr rfl) (pe_dget hu (pv 4) (pe_ix ix_tup (pv 1) (pe_int) (fun _ _ => rfl)) (fun _ _ => rfl))) (pss_cons (ps_if (pt_cmpR op_eq (pe_ix ix_tup (pv 1) (pe_int) (fun _ _ => rfl)) (pe_ix ix_tup (pv 1) (pe_int) (fun _ _ => rfl)) (nomark _)) (pss_cons (ps_set (i := 11) sc_law_rows.nd rfl (.inr rfl) (pe_lc (own := [("_law_thing", 12)]) (g := gName 12) (tt := tYes) (by rfl) sc_law_rows.nd (pi_list (pv 5)) (blkOk_by (own := [("_law_thing", 12)]) (N := N_law_rows) (by kernel_rfl)) (fun _ _ _ _ _ => pg_name (i := 12) sc_law_rows.nd rfl (Or.inl rfl)) (fun _ _ _ _ _ => pts_nil) (fun _ _ _ _ _ => pe_ix (ix_listK (K := K) rfl) (pe_ix (ix_listK (K := K) rfl) (pv 10) (pv 12) (fun _ _ => rfl)) (pv 12) (fun _ _ => rfl)))) (pss_cons (ps_if (pt_cmpR op_eq (pe_ix ix_tup (pv 1) (pe_int) (fun _ _ => rfl)) (pe_str) (nomark _)) (pss_one (ps_ret (pe_lc (own := [("_law_x", 8)]) (g := gName 8) (tt := tYes) (by rfl) sc_law_rows.nd (pi_list (pv 5)) (blkOk_by (own := [("_law_x", 8)]) (N := N_law_rows) (by kernel_rfl)) (fun _ _ _ _ _ => pg_name (i := 8) sc_law_rows.nd rfl (Or.inr rfl)) (fun _ _ _ _ _ => pts_nil) (fun _ _ _ _ _ => pe_lc (own := [("_law_y", 7)]) (g := gName 7) (tt := tYes) (by rfl) sc_law_rows.nd ((pi_listK (K := K) rfl) (pv 5)) (blkOk_by (own := [("_law_y", 7)]) (N := N_law_rows) (by kernel_rfl)) (fun _ _ _ _ _ => pg_name (i := 7) sc_law_rows.nd rfl (Or.inl rfl)) (fun _ _ _ _ _ => pts_nil) (fun _ _ _ _ _ => pe_ix (ix_listK (K := K) rfl) (pv 11) (pv 8) (fun _ _ => rfl)))))) (pss_nil)) (pss_one (ps_ret (pe_lc (own := [("_law_x", 8)]) (g := gName 8) (tt := tYes) (by rfl) sc_law_rows.nd (pi_list (pv 5)) (blkOk_by (own := [("_law_x", 8)]) (N := N_law_rows) (by kernel_rfl)) (fun _ _ _ _ _ => pg_name (i := 8) sc_law_rows.nd rfl (Or.inl rfl)) (fun _ _ _ _ _ => pts_nil) (fun _ _ _ _ _ => pe_lc (own := [("_law_y", 7)]) (g := gName 7) (tt := tYes) (by rfl) sc_law_rows.nd ((pi_listK (K := K) rfl) (pv 5)) (blkOk_by (own := [("_law_y", 7)]) (N := N_law_rows) (by kernel_rfl)) (fun _ _ _ _ _ => pg_name (i := 7) sc_law_rows.nd rfl (Or.inl rfl)) (fun _ _ _ _ _ => pts_nil) (fun _ _ _ _ _ => pe_ix (ix_listK (K := K) rfl) (pv 11) (pv 7) (fun _ _ => rfl)))))))) (pss_nil)) (pss_cons (ps_if (pt_cmpR op_eq (pe_ix ix_tup (pv 1) (pe_int) (fun _ _ => rfl)) (pe_str) (nomark _)) (pss_one (ps_ret (pe_lc (own := [("_law_x", 8)]) (g := gName 8) (tt := tYes) (by rfl) sc_law_rows.nd (pi_list (pv 5)) (blkOk_by (own := [("_law_x", 8)]) (N := N_law_rows) (by kernel_rfl)) (fun _ _ _ _ _ => pg_name (i := 8) sc_law_rows.nd rfl (Or.inr rfl)) (fun _ _ _ _ _ => pts_nil) (fun _ _ _ _ _ => pe_lc (own := [("_law_y", 7)]) (g := gName 7) (tt := tYes) (by rfl) sc_law_rows.nd ((pi_listK (K := K) rfl) (pv 5)) (blkOk_by (own := [("_law_y", 7)]) (N := N_law_rows) (by kernel_rfl)) (fun _ _ _ _ _ => pg_name (i := 7) sc_law_rows.nd rfl (Or.inl rfl)) (fun _ _ _ _ _ => pts_nil) (fun _ _ _ _ _ => pe_ix (ix_listK (K := K) rfl) (pe_ix (ix_listK (K := K) rfl) (pv 10) (pv 8) (fun _ _ => rfl)) (pv 7) (fun _ _ => rfl)))))) (pss_nil)) (pss_one (ps_ret (pe_lc (own := [("_law_x", 8)]) (g := gName 8) (tt := tYes) (by rfl) sc_law_rows.nd (pi_list (pv 5)) (blkOk_by (own := [("_law_x", 8)]) (N := N_law_rows) (by kernel_rfl)) (fun _ _ _ _ _ => pg_name (i := 8) sc_law_rows.nd rfl (Or.inr rfl)) (fun _ _ _ _ _ => pts_nil) (fun _ _ _ _ _ => pe_lc (own := [("_law_y", 7)]) (g := gName 7) (tt := tYes) (by rfl) sc_law_rows.nd ((pi_listK (K := K) rfl) (pv 5)) (blkOk_by (own := [("_law_y", 7)]) (N := N_law_rows) (by kernel_rfl)) (fun _ _ _ _ _ => pg_name (i := 7) sc_law_rows.nd rfl (Or.inl rfl)) (fun _ _ _ _ _ => pts_nil) (fun _ _ _ _ _ => pe_ix (ix_listK (K := K) rfl) (pe_ix (ix_listK (K := K) rfl) (pv 10) (pv 7) (fun _ _ => rfl)) (pv 8) (fun _ _ => rfl))))))))) (pss_nil)) (pss_cons (ps_if (pt_cmpR op_eq (pv 6) (pe_str) (nomark _)) (pss_one (ps_ret (pe_lc (own := [("_law_x", 8)]) (g := gName 8) (tt := tYes) (by rfl) sc_law_rows.nd (pi_list (pv 5)) (blkOk_by (own := [("_law_x", 8)]) (N := N_law_rows) (by kernel_rfl)) (fun _ _ _ _ _ => pg_name (i := 8) sc_law_rows.nd rfl (Or.inr rfl)) (fun _ _ _ _ _ => pts_nil) (fun _ _ _ _ _ => pe_lc (own := [("_law_y", 7)]) (g := gName 7) (tt := tYes) (by rfl) sc_law_rows.nd ((pi_listK (K := K) rfl) (pv 5)) (blkOk_by (own := [("_law_y", 7)]) (N := N_law_rows) (by kernel_rfl)) (fun _ _ _ _ _ => pg_name (i := 7) sc_law_rows.nd rfl (Or.inl rfl)) (fun _ _ _ _ _ => pts_nil) (fun _ _ _ _ _ => pe_or (pe_cmpR op_eq (pv 8) (pv 7) (nomark _)) (pe_one (pe_cmpR op_eq (pe_ix (ix_tupK (K := K) rfl) (pv 1) (pe_int) (fun _ _ => rfl)) (pe_ix (ix_tupK (K := K) rfl) (pv 1) (pe_int) (fun _ _ => rfl)) (nomark _)))))))) (pss_nil)) (pss_cons (ps_if (pt_cmpR op_eq (pv 6) (pe_str) (nomark _)) (pss_one (ps_ret (pe_lc (own := [("_law_line", 14)]) (g := gName 14) (tt := tYes) (by rfl) sc_law_rows.nd (pi_list (pe_cl c_law_rows hr (by rfl) (pa_cons (pv 0) (pa_cons (pe_ix ix_tup (pv 1) (pe_int) (fun _ _ => rfl)) pa_nil)))) (blkOk_by (own := [("_law_line", 14)]) (N := N_law_rows) (by kernel_rfl)) (fun _ _ _ _ _ => pg_name (i := 14) sc_law_rows.nd rfl (Or.inl rfl)) (fun _ _ _ _ _ => pts_nil) (fun _ _ _ _ _ => pe_lc (own := [("_law_flag", 13)]) (g := gName 13) (tt := tYes) (by rfl) sc_law_rows.nd ((pi_listK (K := K) rfl) (pv 14)) (blkOk_by (own := [("_law_flag", 13)]) (N := N_law_rows) (by kernel_rfl)) (fun _ _ _ _ _ => pg_name (i := 13) sc_law_rows.nd rfl (Or.inl rfl)) (fun _ _ _ _ _ => pts_nil) (fun _ _ _ _ _ => pe_not (pv 13)))))) (pss_nil)) (pss_cons (ps_if (pt_cmpR op_in_seq (pv 6) (pe_lst (pa_cons (pe_str) (pa_cons (pe_str) pa_nil))) (by rfl)) (pss_one (ps_ret (pe_cl c_law_joined hr1 (by rfl) (pa_cons (pv 6) (pa_cons (pe_cl c_law_rows hr (by rfl) (pa_cons (pv 0) (pa_cons (pe_ix ix_tup (pv 1) (pe_int) (fun _ _ => rfl)) pa_nil))) (pa_cons (pe_cl c_law_rows hr (by rfl) (pa_cons (pv 0) (pa_cons (pe_ix ix_tup (pv 1) (pe_int) (fun _ _ => rfl)) pa_nil))) pa_nil)))))) (pss_nil)) (pss_one (ps_ret (pe_cl c_law_bound hr1 (by rfl) (pa_cons (pv 5) (pa_cons (pv 6) (pa_cons (pe_ix ix_tup (pv 1) (pe_int) (fun _ _ => rfl)) (pa_cons (pe_cl c_law_rows hr (by rfl) (pa_cons (pv 0) (pa_cons (pe_ix ix_tup (pv 1) (pe_int) (fun _ _ => rfl)) pa_nil))) pa_nil))))))))))))))), ?_⟩
  obtain ⟨am, at_, fm, ft, hA, hM, hMv, hT, hTv⟩ := hP
  refine reS (σ' := [some (.ref a), some (.ref b), none, none, none, none, none, none, none, none, none, none, none, none, none]) rfl ?_
  walk_at "rd"
  refine ⟨a, _, rfl, SqT.of (eG _ _ hA), rfl, _, _, rfl, _, _, rfl, _, _, rfl, rfl, ?_⟩
  walk_at "nz"
  walk_at "rd"
  refine ⟨RgOk.of_le (by omega) (by omega) (by omega) (by omega), fun sp hsp => ?_⟩
  rw [rgV_spn]
  have e1 : Same H (upd H sp (.lst (spn W.n))) := Same.new (Same.refl _) hsp
  have hsp1 : (upd H sp (.lst (spn W.n))) sp = some (.lst (spn W.n)) := upd_same
  revert e1 hsp1
  generalize (upd H sp (.lst (spn W.n))) = H1
  intro e1 hsp1
  have eG1 := eG.trans e1
  have hP1 : PlainAt H1 a T W := PlainAt.mono ⟨am, at_, fm, ft, hA, hM, hMv, hT, hTv⟩ eG1
  walk_at "nz"
  walk_at "rd"
  cases s with
  | tru =>
    have hS : G b = some (.tup [.str "true"]) := hS
    refine ⟨_, _, _, _, rfl, rfl, SqT.of (eG1 _ _ hS), atI_nat (j := 0) rfl, ?_⟩
    walk_at "nz"
    walk_at "rd"
    walk_at "rd"
    refine ⟨⟨_, SqL.of hsp1⟩, fun D1 hD1 => ?_⟩
    refine grid_list (K := K) (sp := sp) (n := W.n) (fun _ _ => true) hD1 (hsp1) (by omega) rfl rfl (fun i H3 e3 R hR => ⟨_, rfl, _, rfl, ⟨_, SqL.of (e3 _ _ (hsp1))⟩, hR⟩) (fun i j H3 hi hj e3 Q' kq => ?_) (fun H3 e3 hg => q _ H3 ((e1).trans e3) (hg.congr fun i j hi hj => rfl))
    · walk_at "rd"
      exact kq H3 (Same.refl _)
  | mark m v =>
    have hS : G b = some (.tup [.str "mark", .str m, .str v.s]) := hS
    refine ⟨_, _, _, _, rfl, rfl, SqT.of (eG1 _ _ hS), atI_nat (j := 0) rfl, ?_⟩
    walk_at "nz"
    walk_at "rd"
    refine ⟨_, _, _, _, rfl, rfl, SqT.of (eG1 _ _ hS), atI_nat (j := 1) rfl, ?_⟩
    refine ⟨_, _, rfl, .inl ⟨_, Sum.inr m, .inl (eG1 _ _ hM), rfl, (withA_val ndm ok).symm⟩, ?_⟩
    walk_at "nz"
    walk_at "rd"
    refine ⟨_, _, _, _, rfl, rfl, SqT.of (eG1 _ _ hS), atI_nat (j := 2) rfl, ?_⟩
    cases v with
    | x =>
      walk_at "rd"
      refine ⟨⟨_, SqL.of hsp1⟩, fun D1 hD1 => ?_⟩
      refine grid_list (K := K) (sp := sp) (n := W.n) (fun i _ => W.mb m i) hD1 (hsp1) (by omega) rfl rfl (fun i H3 e3 R hR => ⟨_, rfl, _, rfl, ⟨_, SqL.of (e3 _ _ (hsp1))⟩, hR⟩) (fun i j H3 hi hj e3 Q' kq => ?_) (fun H3 e3 hg => q _ H3 ((e1).trans e3) (hg.congr fun i j hi hj => (wd_m hi).symm))
      · walk_at "rd"
        refine ⟨_, _, _, .bl (W.mb m i), rfl, rfl, SqL.of (e3 _ _ (eG1 _ _ (hMv m ok))), atI_nat (j := i) (bls_at hi), ?_⟩
        exact kq H3 (Same.refl _)
    | y =>
      walk_at "rd"
      refine ⟨⟨_, SqL.of hsp1⟩, fun D1 hD1 => ?_⟩
      refine grid_list (K := K) (sp := sp) (n := W.n) (fun _ j => W.mb m j) hD1 (hsp1) (by omega) rfl rfl (fun i H3 e3 R hR => ⟨_, rfl, _, rfl, ⟨_, SqL.of (e3 _ _ (hsp1))⟩, hR⟩) (fun i j H3 hi hj e3 Q' kq => ?_) (fun H3 e3 hg => q _ H3 ((e1).trans e3) (hg.congr fun i j hi hj => (wd_m hj).symm))
      · walk_at "rd"
        refine ⟨_, _, _, .bl (W.mb m j), rfl, rfl, SqL.of (e3 _ _ (eG1 _ _ (hMv m ok))), atI_nat (j := j) (bls_at hj), ?_⟩
        exact kq H3 (Same.refl _)
  | tie t v u =>
    have hS : G b = some (.tup [.str "tie", .str t, .str v.s, .str u.s]) := hS
    refine ⟨_, _, _, _, rfl, rfl, SqT.of (eG1 _ _ hS), atI_nat (j := 0) rfl, ?_⟩
    walk_at "nz"
    walk_at "rd"
    refine ⟨_, _, _, _, rfl, rfl, SqT.of (eG1 _ _ hS), atI_nat (j := 1) rfl, ?_⟩
    refine ⟨_, _, rfl, .inl ⟨_, Sum.inr t, .inl (eG1 _ _ hT), rfl, (withA_val ndt ok).symm⟩, ?_⟩
    walk_at "nz"
    walk_at "rd"
    refine ⟨_, _, _, _, rfl, rfl, SqT.of (eG1 _ _ hS), atI_nat (j := 2) rfl, ?_⟩
    walk_at "rd"
    refine ⟨_, _, _, _, rfl, rfl, SqT.of (eG1 _ _ hS), atI_nat (j := 3) rfl, ?_⟩
    cases v with
    | x =>
      cases u with
      | x =>
        walk_at "rd"
        refine ⟨⟨_, SqL.of hsp1⟩, fun D0 hD0 => ?_⟩
        refine lc_listF (fun k y _ => y = .bl (W.tb t k k)) (fun _ => true) hD0 hsp1 (by rw [spn_len]; omega) (fun _ _ _ _ _ h => h) rfl (fun k x H2 acc hx e2 hY N k1 k2 => ?_) (fun H2 ys e2 hY hp => ?_)
        · obtain ⟨hk, rfl⟩ := spn_at hx
          obtain ⟨rr, hr1', hr2', hr3'⟩ := (hTv t ok).row
          obtain ⟨b1, hb1, hb2⟩ := hr3' k hk
          walk_at "rd"
          refine ⟨_, _, _, .ref b1, rfl, rfl, SqL.of (e2 _ _ (eG1 _ _ hr1')), atI_nat (j := k) (by rw [List.getElem?_map, hb1]; rfl), ?_⟩
          walk_at "rd"
          refine ⟨_, _, _, .bl (W.tb t k k), rfl, rfl, SqL.of (e2 _ _ (eG1 _ _ hb2)), atI_nat (j := k) (bls_at hk), ?_⟩
          exact k2 _ H2 (Same.refl _) rfl rfl
        · rw [filter_yes, spn_len] at hp
          have hz := paired_eq hp
          rw [hz] at hY
          walk_at "rd"
          refine ⟨_, _, _, _, rfl, rfl, SqT.of (e2 _ _ (eG1 _ _ hS)), atI_nat (j := 2) rfl, ?_⟩
          walk_at "rd"
          refine ⟨⟨_, SqL.of (e2 _ _ hsp1)⟩, fun D1 hD1 => ?_⟩
          refine grid_list (K := K) (sp := sp) (n := W.n) (fun i j => W.tb t i i) hD1 ((e2 _ _ hsp1)) (by omega) rfl rfl (fun i H3 e3 R hR => ⟨_, rfl, _, rfl, ⟨_, SqL.of (e3 _ _ ((e2 _ _ hsp1)))⟩, hR⟩) (fun i j H3 hi hj e3 Q' kq => ?_) (fun H3 e3 hg => q _ H3 ((e1.trans e2).trans e3) (hg.congr fun i j hi hj => (wd_t hi hi).symm))
          · walk_at "rd"
            refine ⟨_, _, _, .bl (W.tb t i i), rfl, rfl, SqL.of (e3 _ _ hY), atI_nat (j := i) (by rw [List.getElem?_map, List.getElem?_range hi]; rfl), ?_⟩
            exact kq H3 (Same.refl _)
      | y =>
        walk_at "rd"
        refine ⟨_, _, _, _, rfl, rfl, SqT.of (eG1 _ _ hS), atI_nat (j := 2) rfl, ?_⟩
        walk_at "rd"
        walk_at "rd"
        refine ⟨⟨_, SqL.of hsp1⟩, fun D1 hD1 => ?_⟩
        refine grid_list (K := K) (sp := sp) (n := W.n) (fun i j => W.tb t i j) hD1 (hsp1) (by omega) rfl rfl (fun i H3 e3 R hR => ⟨_, rfl, _, rfl, ⟨_, SqL.of (e3 _ _ (hsp1))⟩, hR⟩) (fun i j H3 hi hj e3 Q' kq => ?_) (fun H3 e3 hg => q _ H3 ((e1).trans e3) (hg.congr fun i j hi hj => (wd_t hi hj).symm))
        · obtain ⟨rr, hr1', hr2', hr3'⟩ := (hTv t ok).row
          obtain ⟨b1, hb1, hb2⟩ := hr3' i hi
          walk_at "rd"
          refine ⟨_, _, _, .ref b1, rfl, rfl, SqL.of (e3 _ _ (eG1 _ _ hr1')), atI_nat (j := i) (by rw [List.getElem?_map, hb1]; rfl), ?_⟩
          walk_at "rd"
          refine ⟨_, _, _, .bl (W.tb t i j), rfl, rfl, SqL.of (e3 _ _ (eG1 _ _ hb2)), atI_nat (j := j) (bls_at hj), ?_⟩
          exact kq H3 (Same.refl _)
    | y =>
      cases u with
      | y =>
        walk_at "rd"
        refine ⟨⟨_, SqL.of hsp1⟩, fun D0 hD0 => ?_⟩
        refine lc_listF (fun k y _ => y = .bl (W.tb t k k)) (fun _ => true) hD0 hsp1 (by rw [spn_len]; omega) (fun _ _ _ _ _ h => h) rfl (fun k x H2 acc hx e2 hY N k1 k2 => ?_) (fun H2 ys e2 hY hp => ?_)
        · obtain ⟨hk, rfl⟩ := spn_at hx
          obtain ⟨rr, hr1', hr2', hr3'⟩ := (hTv t ok).row
          obtain ⟨b1, hb1, hb2⟩ := hr3' k hk
          walk_at "rd"
          refine ⟨_, _, _, .ref b1, rfl, rfl, SqL.of (e2 _ _ (eG1 _ _ hr1')), atI_nat (j := k) (by rw [List.getElem?_map, hb1]; rfl), ?_⟩
          walk_at "rd"
          refine ⟨_, _, _, .bl (W.tb t k k), rfl, rfl, SqL.of (e2 _ _ (eG1 _ _ hb2)), atI_nat (j := k) (bls_at hk), ?_⟩
          exact k2 _ H2 (Same.refl _) rfl rfl
        · rw [filter_yes, spn_len] at hp
          have hz := paired_eq hp
          rw [hz] at hY
          walk_at "rd"
          refine ⟨_, _, _, _, rfl, rfl, SqT.of (e2 _ _ (eG1 _ _ hS)), atI_nat (j := 2) rfl, ?_⟩
          walk_at "rd"
          refine ⟨⟨_, SqL.of (e2 _ _ hsp1)⟩, fun D1 hD1 => ?_⟩
          refine grid_list (K := K) (sp := sp) (n := W.n) (fun i j => W.tb t j j) hD1 ((e2 _ _ hsp1)) (by omega) rfl rfl (fun i H3 e3 R hR => ⟨_, rfl, _, rfl, ⟨_, SqL.of (e3 _ _ ((e2 _ _ hsp1)))⟩, hR⟩) (fun i j H3 hi hj e3 Q' kq => ?_) (fun H3 e3 hg => q _ H3 ((e1.trans e2).trans e3) (hg.congr fun i j hi hj => (wd_t hj hj).symm))
          · walk_at "rd"
            refine ⟨_, _, _, .bl (W.tb t j j), rfl, rfl, SqL.of (e3 _ _ hY), atI_nat (j := j) (by rw [List.getElem?_map, List.getElem?_range hj]; rfl), ?_⟩
            exact kq H3 (Same.refl _)
      | x =>
        walk_at "rd"
        refine ⟨_, _, _, _, rfl, rfl, SqT.of (eG1 _ _ hS), atI_nat (j := 2) rfl, ?_⟩
        walk_at "rd"
        walk_at "rd"
        refine ⟨⟨_, SqL.of hsp1⟩, fun D1 hD1 => ?_⟩
        refine grid_list (K := K) (sp := sp) (n := W.n) (fun i j => W.tb t j i) hD1 (hsp1) (by omega) rfl rfl (fun i H3 e3 R hR => ⟨_, rfl, _, rfl, ⟨_, SqL.of (e3 _ _ (hsp1))⟩, hR⟩) (fun i j H3 hi hj e3 Q' kq => ?_) (fun H3 e3 hg => q _ H3 ((e1).trans e3) (hg.congr fun i j hi hj => (wd_t hj hi).symm))
        · obtain ⟨rr, hr1', hr2', hr3'⟩ := (hTv t ok).row
          obtain ⟨b1, hb1, hb2⟩ := hr3' j hj
          walk_at "rd"
          refine ⟨_, _, _, .ref b1, rfl, rfl, SqL.of (e3 _ _ (eG1 _ _ hr1')), atI_nat (j := j) (by rw [List.getElem?_map, hb1]; rfl), ?_⟩
          walk_at "rd"
          refine ⟨_, _, _, .bl (W.tb t j i), rfl, rfl, SqL.of (e3 _ _ (eG1 _ _ hb2)), atI_nat (j := i) (bls_at hi), ?_⟩
          exact kq H3 (Same.refl _)
  | same v u =>
    have hS : G b = some (.tup [.str "same", .str v.s, .str u.s]) := hS
    refine ⟨_, _, _, _, rfl, rfl, SqT.of (eG1 _ _ hS), atI_nat (j := 0) rfl, ?_⟩
    walk_at "nz"
    walk_at "rd"
    walk_at "rd"
    refine ⟨⟨_, SqL.of hsp1⟩, fun D1 hD1 => ?_⟩
    refine grid_list (K := K) (sp := sp) (n := W.n) (ev (W.wd T) (.same v u)) hD1 (hsp1) (by omega) rfl rfl (fun i H3 e3 R hR => ⟨_, rfl, _, rfl, ⟨_, SqL.of (e3 _ _ (hsp1))⟩, hR⟩) (fun i j H3 hi hj e3 Q' kq => ?_) (fun H3 e3 hg => q _ H3 ((e1).trans e3) (hg.congr fun i j hi hj => rfl))
    · have hS3 := e3 _ _ (eG1 _ _ hS)
      have he : ev (W.wd T) (.same v u) i j = (decide (i = j) || decide (v = u)) := by
        by_cases hij : i = j
        · subst hij
          cases v <;> cases u <;> simp [ev, Nm.at_]
        · have hij2 : ¬ j = i := fun z => hij z.symm
          cases v <;> cases u <;> simp [ev, Nm.at_, hij, hij2]
      have z := kq H3 (Same.refl _)
      rw [he] at z
      walk_at "rd"
      refine iteS (fun hc => ?_) (fun hc => ?_)
      · have hij : i = j := by
          have := V.int.inj (of_decide_eq_true hc)
          omega
        rw [decide_eq_true hij, Bool.true_or] at z
        exact z
      · have hij : ¬ i = j := fun y => by
          rw [y, decide_eq_true rfl] at hc
          cases hc
        walk_at "rd"
        refine ⟨_, _, _, _, rfl, rfl, SqT.of hS3, atI_nat (j := 1) rfl, ?_⟩
        walk_at "rd"
        refine ⟨_, _, _, _, rfl, rfl, SqT.of hS3, atI_nat (j := 2) rfl, ?_⟩
        walk_at "rd"
        rw [dec_V_str, Nm.s_inj]
        rw [decide_eq_false hij, Bool.false_or] at z
        exact z
  | not s =>
    obtain ⟨b1, hS, hS1⟩ := hS
    refine ⟨_, _, _, _, rfl, rfl, SqT.of (eG1 _ _ hS), atI_nat (j := 0) rfl, ?_⟩
    walk_at "nz"
    walk_at "rd"
    refine ⟨_, _, _, _, rfl, rfl, SqT.of (eG1 _ _ hS), atI_nat (j := 1) rfl, ?_⟩
    refine ⟨G, a, b1, T, W, s, rfl, eG1, ⟨am, at_, fm, ft, hA, hM, hMv, hT, hTv⟩, hS1, ok, ndm, ndt, by have : (Say.not s).deep = 1 + s.deep := rfl; omega, hn, fun l H2 e2 hg => ?_⟩
    obtain ⟨rr, hl, hrl, hrr⟩ := hg.row
    walk_at "rd"
    refine ⟨⟨_, SqL.of hl⟩, fun D1 hD1 => ?_⟩
    refine lc_listF (fun i y H => ∃ b, y = .ref b ∧ H b = some (.lst (bls W.n fun j => !ev (W.wd T) s i j))) (fun _ => true) hD1 hl (by rw [List.length_map]; omega) (fun k y H H' e ⟨b, h1, h2⟩ => ⟨b, h1, e _ _ h2⟩) rfl (fun i x H3 acc hx e3 hY N k1 k2 => ?_) (fun H3 ys e3 hY hp => ?_)
    · obtain ⟨b2, hb2, rfl⟩ := map_at hx
      have hi : i < W.n := by have := (List.getElem?_eq_some_iff.mp hb2).1; omega
      obtain ⟨b3, hb3, hb4⟩ := hrr i hi
      rw [hb2] at hb3
      cases hb3
      walk_at "rd"
      refine ⟨⟨_, SqL.of (e3 _ _ hb4)⟩, fun D2 hD2 => ?_⟩
      refine lc_listF (fun j y _ => y = .bl (!ev (W.wd T) s i j)) (fun _ => true) hD2 (e3 _ _ hb4) (by rw [bls_len]; omega) (fun _ _ _ _ _ h => h) rfl (fun j x H4 acc2 hx2 e4 hY2 N2 k3 k4 => ?_) (fun H4 ys2 e4 hY2 hp2 => ?_)
      · have hj : j < W.n := by have := (List.getElem?_eq_some_iff.mp hx2).1; rw [bls_len] at this; exact this
        rw [bls_at hj] at hx2
        cases hx2
        walk_at "rd"
        exact k4 _ H4 (Same.refl _) rfl rfl
      · rw [filter_yes, bls_len] at hp2
        have hz := paired_eq hp2
        refine k2 (.ref D2) H4 e4 rfl ⟨D2, rfl, ?_⟩
        rw [hide_ne (fun z => by rw [z, hY] at hD2; cases hD2), hY2, hz]
        rfl
    · rw [filter_yes, List.length_map, hrl] at hp
      obtain ⟨r, h1, h2⟩ := paired_refs hp
      exact q _ H3 ((e1.trans e2).trans e3) ⟨r, by rw [hY, h1], Paired.mapP h2 fun i b q => hide_same _ _ q⟩
  | and s t =>
    obtain ⟨b1, b2, hS, hS1, hS2⟩ := hS
    refine ⟨_, _, _, _, rfl, rfl, SqT.of (eG1 _ _ hS), atI_nat (j := 0) rfl, ?_⟩
    walk_at "nz"
    walk_at "rd"
    refine ⟨sz (by simp), fun lw hlw => ?_⟩
    have e2 : Same H1 (upd H1 lw (.lst [.str "and", .str "or"])) := Same.new (Same.refl _) hlw
    refine ⟨_, _, rfl, .inl (SqL.of upd_same), rfl, rfl, ?_⟩
    refine ⟨_, rfl, ?_⟩
    refine iteTk (by decide +kernel) ?_
    have eG2 := eG1.trans e2
    have e12 := e1.trans e2
    revert eG2 e12
    generalize (upd H1 lw (.lst [.str "and", .str "or"])) = H2
    intro eG2 e12
    walk_at "rd"
    refine ⟨_, _, _, _, rfl, rfl, SqT.of (eG2 _ _ hS), atI_nat (j := 1) rfl, ?_⟩
    refine ⟨G, a, b1, T, W, s, rfl, eG2, ⟨am, at_, fm, ft, hA, hM, hMv, hT, hTv⟩, hS1, ok.1, ndm, ndt, by have : (Say.and s t).deep = 1 + max s.deep t.deep := rfl; omega, hn, fun l1 H3 e3 hg1 => ?_⟩
    walk_at "rd"
    refine ⟨_, _, _, _, rfl, rfl, SqT.of (e3 _ _ (eG2 _ _ hS)), atI_nat (j := 2) rfl, ?_⟩
    refine ⟨G, a, b2, T, W, t, rfl, eG2.trans e3, ⟨am, at_, fm, ft, hA, hM, hMv, hT, hTv⟩, hS2, ok.2, ndm, ndt, by have : (Say.and s t).deep = 1 + max s.deep t.deep := rfl; omega, hn, fun l2 H4 e4 hg2 => ?_⟩
    refine ⟨H4, l1, l2, W.n, _, _, true, rfl, Same.refl _, hg1.mono e4, hg2, hn, fun l H5 e5 hg => ?_⟩
    exact q l H5 (((e12.trans e3).trans e4).trans e5) (hg.congr fun i j _ _ => rfl)
  | or s t =>
    obtain ⟨b1, b2, hS, hS1, hS2⟩ := hS
    refine ⟨_, _, _, _, rfl, rfl, SqT.of (eG1 _ _ hS), atI_nat (j := 0) rfl, ?_⟩
    walk_at "nz"
    walk_at "rd"
    refine ⟨sz (by simp), fun lw hlw => ?_⟩
    have e2 : Same H1 (upd H1 lw (.lst [.str "and", .str "or"])) := Same.new (Same.refl _) hlw
    refine ⟨_, _, rfl, .inl (SqL.of upd_same), rfl, rfl, ?_⟩
    refine ⟨_, rfl, ?_⟩
    refine iteTk (by decide +kernel) ?_
    have eG2 := eG1.trans e2
    have e12 := e1.trans e2
    revert eG2 e12
    generalize (upd H1 lw (.lst [.str "and", .str "or"])) = H2
    intro eG2 e12
    walk_at "rd"
    refine ⟨_, _, _, _, rfl, rfl, SqT.of (eG2 _ _ hS), atI_nat (j := 1) rfl, ?_⟩
    refine ⟨G, a, b1, T, W, s, rfl, eG2, ⟨am, at_, fm, ft, hA, hM, hMv, hT, hTv⟩, hS1, ok.1, ndm, ndt, by have : (Say.or s t).deep = 1 + max s.deep t.deep := rfl; omega, hn, fun l1 H3 e3 hg1 => ?_⟩
    walk_at "rd"
    refine ⟨_, _, _, _, rfl, rfl, SqT.of (e3 _ _ (eG2 _ _ hS)), atI_nat (j := 2) rfl, ?_⟩
    refine ⟨G, a, b2, T, W, t, rfl, eG2.trans e3, ⟨am, at_, fm, ft, hA, hM, hMv, hT, hTv⟩, hS2, ok.2, ndm, ndt, by have : (Say.or s t).deep = 1 + max s.deep t.deep := rfl; omega, hn, fun l2 H4 e4 hg2 => ?_⟩
    refine ⟨H4, l1, l2, W.n, _, _, false, rfl, Same.refl _, hg1.mono e4, hg2, hn, fun l H5 e5 hg => ?_⟩
    exact q l H5 (((e12.trans e3).trans e4).trans e5) (hg.congr fun i j _ _ => rfl)
  | each v s =>
    obtain ⟨b1, hS, hS1⟩ := hS
    refine ⟨_, _, _, _, rfl, rfl, SqT.of (eG1 _ _ hS), atI_nat (j := 0) rfl, ?_⟩
    walk_at "nz"
    walk_at "rd"
    refine ⟨sz (by simp), fun lw hlw => ?_⟩
    have e2 : Same H1 (upd H1 lw (.lst [.str "and", .str "or"])) := Same.new (Same.refl _) hlw
    refine ⟨_, _, rfl, .inl (SqL.of upd_same), rfl, rfl, ?_⟩
    refine ⟨_, rfl, ?_⟩
    refine iteFk (by decide +kernel) ?_
    have eG2 := eG1.trans e2
    have e12 := e1.trans e2
    have hsp2 := e2 _ _ hsp1
    revert eG2 e12 hsp2
    generalize (upd H1 lw (.lst [.str "and", .str "or"])) = H2
    intro eG2 e12 hsp2
    walk_at "rd"
    refine ⟨_, _, _, _, rfl, rfl, SqT.of (eG2 _ _ hS), atI_nat (j := 1) rfl, ?_⟩
    walk_at "rd"
    refine ⟨_, _, _, _, rfl, rfl, SqT.of (eG2 _ _ hS), atI_nat (j := 2) rfl, ?_⟩
    refine ⟨G, a, b1, T, W, s, rfl, eG2, ⟨am, at_, fm, ft, hA, hM, hMv, hT, hTv⟩, hS1, ok, ndm, ndt, by have : (Say.each v s).deep = 1 + s.deep := rfl; omega, hn, fun l1 H3 e3 hg1 => ?_⟩
    refine ⟨H3, sp, l1, W.n, _, false, v, rfl, Same.refl _, e3 _ _ hsp2, hg1, hn, fun l H5 e5 hg => ?_⟩
    exact q l H5 ((e12.trans e3).trans e5) (hg.congr fun i j _ _ => (ev_qn (W.wd T) false v s i j).symm)
  | som v s =>
    obtain ⟨b1, hS, hS1⟩ := hS
    refine ⟨_, _, _, _, rfl, rfl, SqT.of (eG1 _ _ hS), atI_nat (j := 0) rfl, ?_⟩
    walk_at "nz"
    walk_at "rd"
    refine ⟨sz (by simp), fun lw hlw => ?_⟩
    have e2 : Same H1 (upd H1 lw (.lst [.str "and", .str "or"])) := Same.new (Same.refl _) hlw
    refine ⟨_, _, rfl, .inl (SqL.of upd_same), rfl, rfl, ?_⟩
    refine ⟨_, rfl, ?_⟩
    refine iteFk (by decide +kernel) ?_
    have eG2 := eG1.trans e2
    have e12 := e1.trans e2
    have hsp2 := e2 _ _ hsp1
    revert eG2 e12 hsp2
    generalize (upd H1 lw (.lst [.str "and", .str "or"])) = H2
    intro eG2 e12 hsp2
    walk_at "rd"
    refine ⟨_, _, _, _, rfl, rfl, SqT.of (eG2 _ _ hS), atI_nat (j := 1) rfl, ?_⟩
    walk_at "rd"
    refine ⟨_, _, _, _, rfl, rfl, SqT.of (eG2 _ _ hS), atI_nat (j := 2) rfl, ?_⟩
    refine ⟨G, a, b1, T, W, s, rfl, eG2, ⟨am, at_, fm, ft, hA, hM, hMv, hT, hTv⟩, hS1, ok, ndm, ndt, by have : (Say.som v s).deep = 1 + s.deep := rfl; omega, hn, fun l1 H3 e3 hg1 => ?_⟩
    refine ⟨H3, sp, l1, W.n, _, true, v, rfl, Same.refl _, e3 _ _ hsp2, hg1, hn, fun l H5 e5 hg => ?_⟩
    exact q l H5 ((e12.trans e3).trans e5) (hg.congr fun i j _ _ => (ev_qn (W.wd T) true v s i j).symm)
end
end K48
namespace K48
open PySem PySem.Spec PyProof.Rows L2
local macro_rules | `(tactic| walk_at "rd") => `(tactic| repeat (first | refine ⟨_, rfl, ?_⟩ | refine ⟨_, _, rfl, rfl, ?_⟩ | refine ⟨rfl, ?_⟩ | refine iteTk (by decide +kernel) ?_ | refine iteFk (by decide +kernel) ?_))
local macro_rules | `(tactic| walk_at "rdr") => `(tactic| repeat (first | refine ⟨_, rfl, ?_⟩ | refine ⟨_, _, rfl, rfl, ?_⟩ | refine ⟨rfl, ?_⟩ | refine iteTk (by first | decide +kernel | rfl) ?_ | refine iteFk (by first | decide +kernel | rfl) ?_))
local macro_rules | `(tactic| walk_at "tyn") => `(tactic| first | exact .int _ | exact .bl _ | exact .str _ | exact .tup (by assumption) | exact .lst (by assumption) | exact .dK (by assumption))
local macro_rules | `(tactic| walk_at "isT") => `(tactic| refine ⟨_, _, _, _, true, rfl, .ty _, TyN.x (by walk_at "tyn"), kit_ty (by decide +kernel), ?_⟩)
local macro_rules | `(tactic| walk_at "isF") => `(tactic| refine ⟨_, _, _, _, false, rfl, .ty _, TyN.x (by walk_at "tyn"), kit_ty (by decide +kernel), ?_⟩)
local macro_rules | `(tactic| walk_at "nz") => `(tactic| first | refine nzG (by simp only [List.set_cons_succ, List.set_cons_zero]; rfl) ?_ | refine reS (by simp only [List.set_cons_succ, List.set_cons_zero]; rfl) ?_)
theorem perm_map {α β : Type} {f : α → β} : ∀ {xs : List α} {ys : List β}, ys.Perm (xs.map f) → ∃ zs : List α, ys = zs.map f ∧ zs.Perm xs := by
  intro xs ys h
  generalize hz : xs.map f = us at h
  induction h generalizing xs with
  | nil => exact ⟨[], rfl, by rw [List.map_eq_nil_iff.mp hz]⟩
  | @cons x l1 l2 hp ih =>
    cases xs with
    | nil => cases hz
    | cons a as =>
      rw [List.map_cons] at hz
      obtain ⟨g1, g2⟩ := List.cons.inj hz
      subst g1
      obtain ⟨zs, h1, h2⟩ := ih g2
      exact ⟨a :: zs, by rw [h1]; rfl, h2.cons a⟩
  | @swap x y l =>
    cases xs with
    | nil => cases hz
    | cons a as =>
      cases as with
      | nil => cases hz
      | cons b bs =>
        rw [List.map_cons, List.map_cons] at hz
        obtain ⟨g1, g2⟩ := List.cons.inj hz
        obtain ⟨g3, g4⟩ := List.cons.inj g2
        subst g1 g3 g4
        exact ⟨b :: a :: bs, rfl, List.Perm.swap _ _ _⟩
  | @trans l1 l2 l3 h1 h2 ih1 ih2 =>
    obtain ⟨zs, g1, g2⟩ := ih2 hz
    obtain ⟨ws, g3, g4⟩ := ih1 g1.symm
    exact ⟨ws, g3, g4.trans g2⟩
theorem paired_perm {α β : Type} {F : α → β → Prop} {r r' : List α} {l : List β} (h : Paired F r l) (p : r'.Perm r) : ∃ l', l'.Perm l ∧ Paired F r' l' := by
  induction p generalizing l with
  | nil => exact ⟨l, List.Perm.refl _, h⟩
  | @cons x l1 l2 hp ih =>
    cases h with
    | cons h t =>
      obtain ⟨l', h1, h2⟩ := ih t
      exact ⟨_ :: l', h1.cons _, .cons h h2⟩
  | @swap x y l =>
    cases h with
    | cons h t =>
      cases t with
      | cons h2 t => exact ⟨_ :: _ :: _, List.Perm.swap _ _ _, .cons h2 (.cons h t)⟩
  | @trans l1 l2 l3 h1 h2 ih1 ih2 =>
    obtain ⟨l', g1, g2⟩ := ih2 h
    obtain ⟨l'', g3, g4⟩ := ih1 g2
    exact ⟨l'', g3.trans g1, g4⟩
theorem dR_new {ks : List (Str × Addr)} {m : Str} {b : Addr} (h : m ∉ ks.map (·.1)) : putK (dR ks) (Sum.inr m) (.ref b) = dR (ks ++ [(m, b)]) := by
  have e : valV (dR ks) (Sum.inr m) = none := by
    unfold valV
    rw [List.find?_eq_none.mpr]
    · rfl
    · intro x hx q
      obtain ⟨y, hy, rfl⟩ := List.mem_map.mp hx
      exact h (List.mem_map.mpr ⟨y, hy, Sum.inr.inj (of_decide_eq_true q)⟩)
  rw [putK_new _ e]
  unfold dR
  rw [List.map_append]
  rfl
theorem prs_nodup {n : Nat} {f : Nat → Nat → Bool} : (prs n f).Nodup := by
  unfold prs
  rw [List.Nodup, List.pairwise_flatMap]
  refine ⟨fun i _ => ?_, ?_⟩
  · refine List.Pairwise.map (R := fun a b => a ≠ b) _ (fun a b h z => h (Prod.mk.inj z).2) ?_
    exact List.nodup_range.sublist List.filter_sublist
  · refine List.Pairwise.imp ?_ List.nodup_range
    intro a b hab x hx y hy z
    obtain ⟨_, _, rfl⟩ := List.mem_map.mp hx
    obtain ⟨_, _, rfl⟩ := List.mem_map.mp hy
    exact hab (Prod.mk.inj z).1
theorem prs_len {n : Nat} {f : Nat → Nat → Bool} : (prs n f).length ≤ n * n := by
  unfold prs
  rw [List.length_flatMap]
  have : ∀ l : List Nat, (l.map fun i => (((List.range n).filter (f i)).map fun j => (i, j)).length).sum ≤ l.length * n := fun l => by
    induction l with
    | nil => simp
    | cons a l ih =>
      rw [List.map_cons, List.sum_cons, List.length_cons, Nat.succ_mul, List.length_map]
      have h2 := List.length_filter_le (f a) (List.range n)
      rw [List.length_range] at h2
      omega
  have h := this (List.range n)
  rw [List.length_range] at h
  exact h
/-- the lists in other orders -/
structure Mixed (W : PW) (T : Tng) (W2 : Wd) : Prop where
  hT : W2.T = T
  hn : W2.n = W.n
  ms : ∀ m ∈ T.marks, (W2.ms m).Perm ((W.wd T).ms m)
  ts : ∀ t ∈ T.ties, (W2.ts t).Perm ((W.wd T).ts t)
theorem Mixed.ok {W : PW} {T : Tng} {W2 : Wd} (h : Mixed W T W2) (okT : T.Ok) (lo : 1 ≤ W.n) (hi : W.n ≤ 15) : W2.Ok := by
  obtain ⟨hT, hn, hm, ht⟩ := h
  refine ⟨by rw [hT]; exact okT.ndm, by rw [hT]; exact okT.ndt, by rw [hT]; exact okT.lm, by rw [hT]; have := okT.lt; omega, by rw [hn]; exact lo, by rw [hn]; exact hi, ⟨fun m hmm => ?_, fun m hmm i hi => ?_, fun m hmm => ?_⟩, ⟨fun m hmm => ?_, fun m hmm i hi => ?_, fun m hmm => ?_⟩⟩
  · rw [hT] at hmm
    exact (hm m hmm).nodup_iff.mpr (List.nodup_range.sublist List.filter_sublist)
  · rw [hT] at hmm
    have := (hm m hmm).mem_iff.mp hi
    rw [hn]
    exact List.mem_range.mp (List.mem_filter.mp this).1
  · rw [hT] at hmm
    rw [(hm m hmm).length_eq, hn]
    have h2 := List.length_filter_le (W.mb m) (List.range W.n)
    rw [List.length_range] at h2
    exact h2
  · rw [hT] at hmm
    exact (ht m hmm).nodup_iff.mpr prs_nodup
  · rw [hT] at hmm
    have := (ht m hmm).mem_iff.mp hi
    rw [hn]
    exact ⟨(prs_mem.mp this).1, (prs_mem.mp this).2.1⟩
  · rw [hT] at hmm
    rw [(ht m hmm).length_eq, hn]
    exact prs_len
theorem WorldAt.noP {cT cW : Addr} {H : Hp} {p c a : Addr} {W : Wd} (hp : PoolAt H p c) (h : WorldAt cT cW H a W) : WorldAt cT cW (noP p c H) a W := by
  have key : ∀ b u, H b = some u → (∀ xs, u ≠ .lst xs) → K48.noP p c H b = some u := fun b u hb hu => by
    obtain ⟨s, k, cells, h1, h2⟩ := hp
    refine noP_get hb (fun z => ?_) (fun z => ?_)
    · rw [z, h1] at hb
      exact hu _ (Option.some.inj hb).symm
    · rw [z, h2] at hb
      exact hu _ (Option.some.inj hb).symm
  obtain ⟨dx, at_, am, ati, fm, ft, h1, ⟨dt, bm, bt, bf, h2, h3, h4, h5⟩, ⟨h6, h7⟩, ⟨h8, h9⟩⟩ := h
  exact ⟨dx, at_, am, ati, fm, ft, key _ _ h1 (by intro _ z; cases z), ⟨dt, bm, bt, bf, key _ _ h2 (by intro _ z; cases z), key _ _ h3 (by intro _ z; cases z), key _ _ h4 (by intro _ z; cases z), key _ _ h5 (by intro _ z; cases z)⟩,
    ⟨key _ _ h6 (by intro _ z; cases z), fun m hm => key _ _ (h7 m hm) (by intro _ z; cases z)⟩, ⟨key _ _ h8 (by intro _ z; cases z), fun m hm => key _ _ (h9 m hm) (by intro _ z; cases z)⟩⟩
theorem key_dK {H : Hp} {p c b : Addr} {kvs : List (Key × V)} (hp : PoolAt H p c) (hb : H b = some (.dK kvs)) : noP p c H b = some (.dK kvs) := by
  obtain ⟨s, k, cells, h1, h2⟩ := hp
  exact noP_get hb (fun z => by rw [z, h1] at hb; cases hb) (fun z => by rw [z, h2] at hb; cases hb)
section
variable {P : Program} {w : World} {K : PySem.W.Frag} {mg : Str → Option Value} {base : Heap} {cT cW : Addr}
def spLWorld (cT cW : Addr) : Sp := fun vs H Q _ => ∃ (G : Hp) (p c sh a : Addr) (T : Tng) (W : PW), vs = [.ref p, .ref sh, .ref a] ∧ Same G H ∧ G p = none ∧ G c = none ∧ PoolAt H p c ∧ ShapeAt G sh T ∧ T.Ok ∧ PlainAt G a T W ∧ 1 ≤ W.n ∧ W.n ≤ 15 ∧
  ∀ (r : Addr) (W2 : Wd) (H' : Hp), Same (noP p c H) H' → PoolAt H' p c → WorldAt cT cW (noP p c H') r W2 → W2.Ok → Mixed W T W2 → Q (.ref r) H'
theorem ok_lworld (B : Blt mg) (D : Def K mg "_law_world" s_law_world) (c_law_lists : CallOk P w K mg base 1 "_law_lists" P_law_lists spLists) (c_law_mixed : CallOk P w K mg base 2 "_law_mixed" P_law_mixed spMixed) (c_law_tongue : CallOk P w K mg base 5 "_law_tongue" P_law_tongue (spTongue cT)) (c_World : MakeOk P w K mg base cW 7 "World" P_World__init (spWInit cT cW)) :
    CallOk P w K mg base 9 "_law_world" P_law_world (spLWorld cT cW) := by
  refine callOk D sc_law_world bd_law_world (fun vs H Q E h => ?_) (fun f cdv A outer st H vs Q E hr h => ?_)
  · obtain ⟨G, p, c, sh, a, T, W, rfl, _⟩ := h
    rfl
  obtain ⟨G, p, c, sh, a, T, W, rfl, eG, hGp, hGc, hp, hS, okT, hPl, hlo, hn, q⟩ := h
  have hu := hu_of hr
  have hr1 : Room 1 _ := hr.mono (by decide)
  have hr2 : Room 2 _ := hr.mono (by decide)
  have hr5 : Room 5 _ := hr.mono (by decide)
  refine ⟨_, pss_cons (ps_asg (pe_cl c_law_lists hr1 (by rfl) (pa_cons (pv 2) pa_nil)) (pg_tup rfl (pgs_cons (pg_name (i := 3) sc_law_world.nd rfl (.inl rfl)) (pgs_cons (pg_name (i := 4) sc_law_world.nd rfl (.inl rfl)) pgs_nil)))) (pss_cons (ps_set (i := 5) sc_law_world.nd rfl (.inl rfl) (pe_dnewK)) (pss_cons (ps_set (i := 6) sc_law_world.nd rfl (.inl rfl) (pe_dnewK)) (pss_cons (ps_for PassesOwn.never rfl (pi_list (pe_cl c_law_mixed hr2 (by rfl) (pa_cons (pv 0) (pa_cons (pe_callTy (call_listD rfl) (by rfl) B.list bo_list (pa_cons (pv 3) pa_nil)) pa_nil)))) (pg_name (i := 7) sc_law_world.nd rfl (.inl rfl)) (pss_one (ps_dput hu (pv 5) (pv 7) (pe_cl c_law_mixed hr2 (by rfl) (pa_cons (pv 0) (pa_cons (pe_dget hu (pv 3) (pv 7) (fun _ _ => rfl)) pa_nil))) rfl))) (pss_cons (ps_for PassesOwn.never rfl (pi_list (pe_cl c_law_mixed hr2 (by rfl) (pa_cons (pv 0) (pa_cons (pe_callTy (call_listD rfl) (by rfl) B.list bo_list (pa_cons (pv 4) pa_nil)) pa_nil)))) (pg_name (i := 7) sc_law_world.nd rfl (.inl rfl)) (pss_one (ps_dput hu (pv 6) (pv 7) (pe_callTy call_tuple_of (by rfl) B.tuple bo_tuple (pa_cons (pe_cl c_law_mixed hr2 (by rfl) (pa_cons (pv 0) (pa_cons (pe_dget hu (pv 4) (pv 7) (fun _ _ => rfl)) pa_nil))) pa_nil)) rfl))) (pss_one (ps_ret (pe_mk c_World hr (by rfl) (pa_cons (pe_cl c_law_tongue hr5 (by rfl) (pa_cons (pv 1) pa_nil)) (pa_cons (pe_ix ix_tup (pv 2) (pe_int) (fun _ _ => rfl)) (pa_cons (pv 5) (pa_cons (pv 6) pa_nil))))))))))), ?_⟩
  have hS0 : ShapeAt (noP p c H) sh T := hS.mono (noP_base eG hGp hGc)
  have hA0 : PlainAt (noP p c H) a T W := hPl.mono (noP_base eG hGp hGc)
  walk_at "rd"
  refine ⟨G, a, T, W, rfl, eG, hPl, okT, hn, fun r0 am at_ fm ft H1 e1 hr0 ham hfm hat hft => ?_⟩
  have hp1 := hp.same e1
  have E1 : Same (noP p c H) (noP p c H1) := hidL_into (noP_then hidL_same e1)
  walk_at "rd"
  refine ⟨r0, _, rfl, SqT.of hr0, rfl, _, _, rfl, _, _, rfl, rfl, ?_⟩
  have ham0 : noP p c H1 am = some (.dK (dR (withA T.marks fm))) := key_dK hp1 ham
  have hat0 : noP p c H1 at_ = some (.dK (dR (withA T.ties ft))) := key_dK hp1 hat
  intro d1 hd1
  have nd1 := pool_off hp1 hd1
  have hp2 : PoolAt (upd H1 d1 (.dK [])) p c := hp1.new hd1
  have e2 : Same H1 (upd H1 d1 (.dK [])) := Same.new (Same.refl _) hd1
  intro d2 hd2
  have nd2 := pool_off hp2 hd2
  have hp3 : PoolAt (upd (upd H1 d1 (.dK [])) d2 (.dK [])) p c := hp2.new hd2
  have e3 : Same H1 (upd (upd H1 d1 (.dK [])) d2 (.dK [])) := Same.new e2 hd2
  have ndd : d1 ≠ d2 := fun z => by rw [← z, upd_same] at hd2; cases hd2
  have h13 : noP p c (upd (upd H1 d1 (.dK [])) d2 (.dK [])) d1 = some (.dK (dR [])) := noP_get (by rw [upd_ne ndd, upd_same]; rfl) nd1.1 nd1.2
  have h23 : noP p c (upd (upd H1 d1 (.dK [])) d2 (.dK [])) d2 = some (.dK (dR [])) := noP_get (by rw [upd_same]; rfl) nd2.1 nd2.2
  have hd20 : noP p c H1 d2 = none := by rw [noP_ne nd2.1 nd2.2]; exact e2.free hd2
  have hd10 : noP p c H1 d1 = none := by rw [noP_ne nd1.1 nd1.2]; exact hd1
  have E3 : Same (noP p c H1) (noP p c (upd (upd H1 d1 (.dK [])) d2 (.dK []))) := hidL_into (noP_then hidL_same e3)
  revert hp3 h13 h23 E3
  generalize (upd (upd H1 d1 (.dK [])) d2 (.dK [])) = H3
  intro hp3 h13 h23 E3
  have hfmE : ∀ m ∈ T.marks, noP p c H1 (fm m) = some (.lst (((W.wd T).ms m).map nV)) := fun m hm => noP_get (hfm m hm).2 (pool_off hp (hfm m hm).1).1 (pool_off hp (hfm m hm).1).2
  have hftE : ∀ t ∈ T.ties, ∃ qs : List Addr, noP p c H1 (ft t) = some (.lst (qs.map V.ref)) ∧ PairsAt (noP p c H1) qs ((W.wd T).ts t) := fun t ht => by
    obtain ⟨h0, qs, h1, h2⟩ := hft t ht
    exact ⟨qs, noP_get h1 (pool_off hp h0).1 (pool_off hp h0).2, Paired.mapP h2 fun _ _ h => noP_tup hp1 h⟩
  have el : ∀ (ns : List Str) (g : Str → Addr), (dR (withA ns g)).map (fun kv => kV kv.1) = ns.map V.str := fun ns g => by
    unfold dR withA
    rw [List.map_map, List.map_map]
    rfl
  walk_at "rd"
  refine ⟨_, _, rfl, .inl (hidL_same _ _ (E3 _ _ ham0)), fun la hla => ?_⟩
  rw [el]
  have nla := pool_off hp3 hla
  have hp4 : PoolAt (upd H3 la (.lst (T.marks.map V.str))) p c := hp3.new hla
  have hla4 : noP p c (upd H3 la (.lst (T.marks.map V.str))) la = some (.lst (T.marks.map V.str)) := noP_get upd_same nla.1 nla.2
  have E4 : Same (noP p c H3) (noP p c (upd H3 la (.lst (T.marks.map V.str)))) := hidL_into (noP_then hidL_same (Same.new (Same.refl _) hla))
  revert hp4 hla4 E4
  generalize (upd H3 la (.lst (T.marks.map V.str))) = H4
  intro hp4 hla4 E4
  refine ⟨noP p c H4, p, c, la, _, rfl, hidL_same, noP_p, noP_c, hp4, hla4, by rw [List.length_map]; have := okT.lm; omega, fun lb ys H5 e5 hp5 hlb hperm => ?_⟩
  obtain ⟨ns, rfl, hns⟩ := perm_map hperm
  have E5 : Same (noP p c H4) (noP p c H5) := hidL_into e5
  have E35 := E4.trans E5
  have hnd : ns.Nodup := hns.nodup_iff.mpr okT.ndm
  refine ⟨_, rfl, ⟨_, SqL.of (hidL_same _ _ hlb)⟩, for_list (K := K) (a := lb) (xs := ns.map V.str)
    (fun i σ H' => ∃ (ks : List (Str × Addr)) (mk : Str → List Nat) (y : Option V), σ = [some (.ref p), some (.ref sh), some (.ref a), some (.ref am), some (.ref at_), some (.ref d1), some (.ref d2), y] ∧ PoolAt H' p c ∧ Same (noP p c H1) (noP p c H') ∧ noP p c H' lb = some (.lst (ns.map V.str)) ∧ noP p c H' d1 = some (.dK (dR ks)) ∧ noP p c H' d2 = some (.dK (dR [])) ∧ ks.map (·.1) = ns.take i ∧
      ∀ q ∈ ks, noP p c H' q.2 = some (.lst ((mk q.1).map nV)) ∧ (mk q.1).Perm ((W.wd T).ms q.1))
    ⟨[], fun _ => [], none, rfl, hp5, E3.trans E35, hlb, E35 _ _ h13, E35 _ _ h23, rfl, fun q hq => by cases hq⟩ (fun i σ H' _ hP => ?_) (fun i x σ H' hx hP => ?_) (fun σ H' hP => ?_)⟩
  · obtain ⟨_, _, _, _, _, _, h, _⟩ := hP
    exact SqL.of (hidL_same _ _ h)
  · obtain ⟨ks, mk, y, rfl, hp6, E6, hlb6, h16, h26, hks, hkv⟩ := hP
    obtain ⟨m, hm, rfl⟩ := map_at hx
    obtain ⟨n1, n2⟩ := nodup_take hnd hm
    have hml := (List.getElem?_eq_some_iff.mp hm).1
    have hmm : m ∈ T.marks := hns.mem_iff.mp (List.mem_of_getElem? hm)
    have hnsl := hns.length_eq
    walk_at "rd"
    refine ⟨_, _, rfl, .inl ⟨_, Sum.inr m, .inl (hidL_same _ _ (E6 _ _ ham0)), rfl, (withA_val okT.ndm hmm).symm⟩, ?_⟩
    refine ⟨noP p c H', p, c, fm m, _, rfl, hidL_same, noP_p, noP_c, hp6, E6 _ _ (hfmE m hmm), ?_, fun lc ys7 H7 e7 hp7 hlc hperm7 => ?_⟩
    · rw [List.length_map]
      have h2 := List.length_filter_le (W.mb m) (List.range W.n)
      rw [List.length_range] at h2
      show ((List.range W.n).filter (W.mb m)).length < 900
      omega
    obtain ⟨zs, rfl, hzs⟩ := perm_map hperm7
    have E7 : Same (noP p c H') (noP p c H7) := hidL_into e7
    have h17 := E7 _ _ h16
    have hcd : lc ≠ d1 := ne_of hlc h17 (by intro z; cases z)
    have hmk : m ∉ ks.map (·.1) := by rw [hks]; exact n1
    walk_at "rd"
    refine ⟨_, _, rfl, DPut.k (k := Sum.inr m) (hidL_same _ _ h17) (szl ?_), ?_⟩
    · unfold dR
      have : (ks.map (·.1)).length ≤ ns.length := by rw [hks, List.length_take]; omega
      rw [List.length_map] at this
      rw [List.length_map]
      have := okT.lm
      omega
    rw [dR_new hmk]
    have hup : noP p c (upd H7 d1 (.dK (dR (ks ++ [(m, lc)])))) = upd (noP p c H7) d1 (.dK (dR (ks ++ [(m, lc)]))) := noP_upd nd1.1 nd1.2
    refine ⟨ks ++ [(m, lc)], fun z => if z = m then zs else mk z, _, rfl, ?_, ?_, ?_, ?_, ?_, ?_, fun q hq => ?_⟩
    · obtain ⟨s, k, cells, h1, h2⟩ := hp7
      exact ⟨s, k, cells, by rw [upd_ne (Ne.symm nd1.1)]; exact h1, by rw [upd_ne (Ne.symm nd1.2)]; exact h2⟩
    · rw [hup]
      exact Same.mut (E6.trans E7) hd10
    · rw [hup, upd_ne (ne_of (E7 _ _ hlb6) h17 (by intro z; cases z))]
      exact E7 _ _ hlb6
    · rw [hup, upd_same]
    · rw [hup, upd_ne (Ne.symm ndd)]
      exact E7 _ _ h26
    · rw [List.map_append, hks, n2]
      rfl
    · rw [hup]
      rcases List.mem_append.mp hq with h | h
      · have hqm : ¬ q.1 = m := fun z => hmk (z ▸ List.mem_map.mpr ⟨q, h, rfl⟩)
        simp only [if_neg hqm]
        obtain ⟨g1, g2⟩ := hkv q h
        have g1 := E7 _ _ g1
        exact ⟨by rw [upd_ne (ne_of g1 h17 (by intro z; cases z))]; exact g1, g2⟩
      · rw [List.mem_singleton] at h
        subst h
        simp only [if_true]
        exact ⟨by rw [upd_ne hcd]; exact hlc, hzs⟩
  · obtain ⟨ks, mk, y, rfl, hp6, E6, hlb6, h16, h26, hks, hkv⟩ := hP
    rw [List.length_map, List.take_length] at hks
    walk_at "rd"
    refine ⟨_, _, rfl, .inl (hidL_same _ _ (E6 _ _ hat0)), fun lc hlc => ?_⟩
    rw [el]
    have nlc := pool_off hp6 hlc
    have hp7 : PoolAt (upd H' lc (.lst (T.ties.map V.str))) p c := hp6.new hlc
    have hlc7 : noP p c (upd H' lc (.lst (T.ties.map V.str))) lc = some (.lst (T.ties.map V.str)) := noP_get upd_same nlc.1 nlc.2
    have E7 : Same (noP p c H') (noP p c (upd H' lc (.lst (T.ties.map V.str)))) := hidL_into (noP_then hidL_same (Same.new (Same.refl _) hlc))
    revert hp7 hlc7 E7
    generalize (upd H' lc (.lst (T.ties.map V.str))) = H7
    intro hp7 hlc7 E7
    refine ⟨noP p c H7, p, c, lc, _, rfl, hidL_same, noP_p, noP_c, hp7, hlc7, by rw [List.length_map]; have := okT.lt; omega, fun ld ys8 H8 e8 hp8 hld hperm8 => ?_⟩
    obtain ⟨nt, rfl, hnt⟩ := perm_map hperm8
    have E8 : Same (noP p c H7) (noP p c H8) := hidL_into e8
    have E78 := E7.trans E8
    have hndt : nt.Nodup := hnt.nodup_iff.mpr okT.ndt
    refine ⟨_, rfl, ⟨_, SqL.of (hidL_same _ _ hld)⟩, for_list (K := K) (a := ld) (xs := nt.map V.str)
      (fun i σ H' => ∃ (kt : List (Str × Addr)) (tk : Str → List (Nat × Nat)) (y : Option V), σ = [some (.ref p), some (.ref sh), some (.ref a), some (.ref am), some (.ref at_), some (.ref d1), some (.ref d2), y] ∧ PoolAt H' p c ∧ Same (noP p c H1) (noP p c H') ∧ noP p c H' ld = some (.lst (nt.map V.str)) ∧ noP p c H' d1 = some (.dK (dR ks)) ∧ (∀ q ∈ ks, noP p c H' q.2 = some (.lst ((mk q.1).map nV))) ∧ noP p c H' d2 = some (.dK (dR kt)) ∧ kt.map (·.1) = nt.take i ∧
        ∀ q ∈ kt, (∃ qs : List Addr, noP p c H' q.2 = some (.tup (qs.map V.ref)) ∧ PairsAt (noP p c H') qs (tk q.1)) ∧ (tk q.1).Perm ((W.wd T).ts q.1))
      ⟨[], fun _ => [], _, rfl, hp8, E6.trans E78, hld, E78 _ _ h16, fun q hq => E78 _ _ (hkv q hq).1, E78 _ _ h26, rfl, fun q hq => by cases hq⟩ (fun i σ H' _ hP => ?_) (fun i x σ H' hx hP => ?_) (fun σ H' hP => ?_)⟩
    · obtain ⟨_, _, _, _, _, _, h, _⟩ := hP
      exact SqL.of (hidL_same _ _ h)
    · obtain ⟨kt, tk, y, rfl, hp9, E9, hld9, h19, hkv9, h29, hkt, hkw⟩ := hP
      obtain ⟨t, ht, rfl⟩ := map_at hx
      obtain ⟨n1, n2⟩ := nodup_take hndt ht
      have htl := (List.getElem?_eq_some_iff.mp ht).1
      have htm : t ∈ T.ties := hnt.mem_iff.mp (List.mem_of_getElem? ht)
      have hntl := hnt.length_eq
      obtain ⟨qs, hq1, hq2⟩ := hftE t htm
      walk_at "rd"
      refine ⟨_, _, rfl, .inl ⟨_, Sum.inr t, .inl (hidL_same _ _ (E9 _ _ hat0)), rfl, (withA_val okT.ndt htm).symm⟩, ?_⟩
      refine ⟨noP p c H', p, c, ft t, _, rfl, hidL_same, noP_p, noP_c, hp9, E9 _ _ hq1, ?_, fun le ys10 H10 e10 hp10 hle hperm10 => ?_⟩
      · rw [List.length_map, Paired.length hq2]
        have h1 : (prs W.n (W.tb t)).length ≤ W.n * W.n := prs_len
        have h2 : W.n * W.n ≤ 15 * 15 := Nat.mul_le_mul hn hn
        show (prs W.n (W.tb t)).length < 900
        omega
      obtain ⟨rs, rfl, hrs⟩ := perm_map hperm10
      have E10 : Same (noP p c H') (noP p c H10) := hidL_into e10
      obtain ⟨ps, hps, hrp⟩ := paired_perm ((hq2.mono E9).mono E10) hrs
      refine ⟨_, _, rfl, .inl ⟨SqL.of (hidL_same _ _ hle), fun lf hlf => ?_⟩⟩
      have nlf := pool_off hp10 hlf
      have hp11 : PoolAt (upd H10 lf (.tup (rs.map V.ref))) p c := hp10.new hlf
      have hlf11 : noP p c (upd H10 lf (.tup (rs.map V.ref))) lf = some (.tup (rs.map V.ref)) := noP_get upd_same nlf.1 nlf.2
      have E11 : Same (noP p c H10) (noP p c (upd H10 lf (.tup (rs.map V.ref)))) := hidL_into (noP_then hidL_same (Same.new (Same.refl _) hlf))
      revert hp11 hlf11 E11
      generalize (upd H10 lf (.tup (rs.map V.ref))) = H11
      intro hp11 hlf11 E11
      have E12 := E10.trans E11
      have h2B := E12 _ _ h29
      have hmt : t ∉ kt.map (·.1) := by rw [hkt]; exact n1
      have tup : ∀ {qs : List Addr} {ps : List (Nat × Nat)} {o : HO}, PairsAt (noP p c H11) qs ps → PairsAt (upd (noP p c H11) d2 o) qs ps := fun h => Paired.mapP h fun _ _ h => by
        rw [upd_ne (ne_of h h2B (by intro z; cases z))]
        exact h
      walk_at "rd"
      refine ⟨_, _, rfl, DPut.k (k := Sum.inr t) (hidL_same _ _ h2B) (szl ?_), ?_⟩
      · unfold dR
        have : (kt.map (·.1)).length ≤ nt.length := by rw [hkt, List.length_take]; omega
        rw [List.length_map] at this
        rw [List.length_map]
        have := okT.lt
        omega
      rw [dR_new hmt]
      have hup : noP p c (upd H11 d2 (.dK (dR (kt ++ [(t, lf)])))) = upd (noP p c H11) d2 (.dK (dR (kt ++ [(t, lf)]))) := noP_upd nd2.1 nd2.2
      refine ⟨kt ++ [(t, lf)], fun z => if z = t then ps else tk z, _, rfl, ?_, ?_, ?_, ?_, fun q hq => ?_, ?_, ?_, fun q hq => ?_⟩
      · obtain ⟨s, k, cells, h1, h2⟩ := hp11
        exact ⟨s, k, cells, by rw [upd_ne (Ne.symm nd2.1)]; exact h1, by rw [upd_ne (Ne.symm nd2.2)]; exact h2⟩
      · rw [hup]
        exact Same.mut (E9.trans E12) hd20
      · rw [hup, upd_ne (ne_of (E12 _ _ hld9) h2B (by intro z; cases z))]
        exact E12 _ _ hld9
      · rw [hup, upd_ne ndd]
        exact E12 _ _ h19
      · have g1 := E12 _ _ (hkv9 q hq)
        rw [hup, upd_ne (ne_of g1 h2B (by intro z; cases z))]
        exact g1
      · rw [hup, upd_same]
      · rw [List.map_append, hkt, n2]
        rfl
      · rw [hup]
        rcases List.mem_append.mp hq with h | h
        · have hqm : ¬ q.1 = t := fun z => hmt (z ▸ List.mem_map.mpr ⟨q, h, rfl⟩)
          simp only [if_neg hqm]
          obtain ⟨⟨qs', g1, g2⟩, g3⟩ := hkw q h
          have g1 := E12 _ _ g1
          exact ⟨⟨qs', by rw [upd_ne (ne_of g1 h2B (by intro z; cases z))]; exact g1, tup (g2.mono E12)⟩, g3⟩
        · rw [List.mem_singleton] at h
          subst h
          simp only [if_true]
          exact ⟨⟨rs, by rw [upd_ne (ne_of hlf11 h2B (by intro z; cases z))]; exact hlf11, tup (PairsAt.mono (show PairsAt (noP p c H10) rs ps from hrp) E11)⟩, hps⟩
    · obtain ⟨kt, tk, y, rfl, hp9, E9, hld9, h19, hkv9, h29, hkt, hkw⟩ := hP
      rw [List.length_map, List.take_length] at hkt
      have E09 := E1.trans E9
      obtain ⟨wm, wt, wfm, wft, hA, _⟩ := id hA0
      walk_at "rd"
      refine ⟨sh, T, rfl, (hS0.mono E09).mono hidL_same, okT, fun tp H10 e10 hT10 => ?_⟩
      have hp10 := hp9.same e10
      have E10 : Same (noP p c H') H10 := noP_then hidL_same e10
      walk_at "rd"
      refine ⟨_, _, _, _, rfl, rfl, SqT.of (E10 _ _ (E09 _ _ hA)), atI_nat (j := 0) rfl, ?_⟩
      walk_at "rd"
      refine fun x dx hx0 hdx0 hne => ?_
      have eM : Same H10 (upd (upd H10 dx (.own x)) x (.ins cW dx [])) := Same.new (Same.new (Same.refl _) hdx0) (by rw [upd_ne (Ne.symm hne)]; exact hx0)
      have hmix : Mixed W T ⟨T, W.n, mk, tk⟩ := ⟨rfl, rfl, fun m hm => by
        have h : m ∈ ks.map (·.1) := by rw [hks]; exact hns.mem_iff.mpr hm
        obtain ⟨q, h1, h2⟩ := List.mem_map.mp h
        subst h2
        exact (hkv q h1).2, fun t ht => by
        have h : t ∈ kt.map (·.1) := by rw [hkt]; exact hnt.mem_iff.mpr ht
        obtain ⟨q, h1, h2⟩ := List.mem_map.mp h
        subst h2
        exact (hkw q h1).2⟩
      refine ⟨H10, x, dx, tp, d1, d2, ⟨T, W.n, mk, tk⟩, rfl, eM, hx0, upd_same, hT10, ⟨ks, E10 _ _ h19, by rw [hks]; exact hns, fun q hq => .inl (E10 _ _ (hkv9 q hq))⟩, ⟨kt, E10 _ _ h29, by rw [hkt]; exact hnt, fun q hq => ?_⟩, hmix.ok okT hlo hn, fun H11 e11 hW11 => ?_⟩
      · obtain ⟨⟨qs, g1, g2⟩, _⟩ := hkw q hq
        exact ⟨qs, .inr (E10 _ _ g1), g2.mono E10⟩
      · have eA : Same H10 H11 := fun b u h => e11 _ _ (by rw [hide_ne (ne_of_none h hx0)]; exact eM _ _ h)
        have hp11 := hp10.same eA
        exact ⟨rfl, q x _ H11 (fun b u h => eA _ _ (E10 _ _ (E09 _ _ h))) hp11 (WorldAt.noP hp11 hW11) (hmix.ok okT hlo hn) hmix⟩
end
end K48
namespace K48
open PySem PySem.Spec PyProof.Rows L2
local macro_rules | `(tactic| walk_at "rd") => `(tactic| repeat (first | refine ⟨_, rfl, ?_⟩ | refine ⟨_, _, rfl, rfl, ?_⟩ | refine ⟨rfl, ?_⟩ | refine iteTk (by decide +kernel) ?_ | refine iteFk (by decide +kernel) ?_))
local macro_rules | `(tactic| walk_at "rdr") => `(tactic| repeat (first | refine ⟨_, rfl, ?_⟩ | refine ⟨_, _, rfl, rfl, ?_⟩ | refine ⟨rfl, ?_⟩ | refine iteTk (by first | decide +kernel | rfl) ?_ | refine iteFk (by first | decide +kernel | rfl) ?_))
local macro_rules | `(tactic| walk_at "tyn") => `(tactic| first | exact .int _ | exact .bl _ | exact .str _ | exact .tup (by assumption) | exact .lst (by assumption) | exact .dK (by assumption))
local macro_rules | `(tactic| walk_at "isT") => `(tactic| refine ⟨_, _, _, _, true, rfl, .ty _, TyN.x (by walk_at "tyn"), kit_ty (by decide +kernel), ?_⟩)
local macro_rules | `(tactic| walk_at "isF") => `(tactic| refine ⟨_, _, _, _, false, rfl, .ty _, TyN.x (by walk_at "tyn"), kit_ty (by decide +kernel), ?_⟩)
local macro_rules | `(tactic| walk_at "nz") => `(tactic| first | refine nzG (by simp only [List.set_cons_succ, List.set_cons_zero]; rfl) ?_ | refine reS (by simp only [List.set_cons_succ, List.set_cons_zero]; rfl) ?_)
/-- the parts that bind and have one free name -/
def Say.inn (s : Say) : List Say := s.bs.filter fun b => decide (b.fvN.length = 1)
theorem inn_kids (s : Say) : s.inn = s.kids.flatMap Say.inn ++ (if (s.bnd.isSome && decide (s.fvN.length = 1)) = true then [s] else []) := by
  unfold Say.inn
  rw [Say.bs_kids, List.filter_append]
  congr 1
  · unfold Say.kbs
    rw [List.filter_flatMap]
  · cases s.bnd.isSome with
    | false => rfl
    | true =>
      rw [Bool.true_and, if_pos rfl]
      by_cases h : s.fvN.length = 1
      · simp [h]
      · simp [h]
theorem inn_len (s : Say) : s.inn.length ≤ s.size := Nat.le_trans (List.length_filter_le _ _) s.bs_len
theorem size_kid {s k : Say} (hk : k ∈ s.kids) : k.size ≤ s.size := by
  cases s <;> simp [Say.kids] at hk
  · subst hk; simp [Say.size]
  · rcases hk with rfl | rfl <;> simp [Say.size] <;> omega
  · rcases hk with rfl | rfl <;> simp [Say.size] <;> omega
  · subst hk; simp [Say.size]
  · subst hk; simp [Say.size]
theorem getD_map {α β : Type} (l : List α) (d : α) (F : α → β) : (List.range l.length).map (fun k => F (l.getD k d)) = l.map F := by
  refine List.ext_getElem? fun k => ?_
  rw [List.getElem?_map, List.getElem?_map]
  by_cases h : k < l.length
  · rw [List.getElem?_range h, List.getElem?_eq_getElem h]
    simp [List.getD, List.getElem?_eq_getElem h]
  · rw [List.getElem?_eq_none (by simpa using h), List.getElem?_eq_none (by omega)]
    rfl
section
variable {P : Program} {w : World} {K : PySem.W.Frag} {mg : Str → Option Value} {base : Heap} {cT cW : Addr}
def spLSo : Sp := fun vs H Q _ => ∃ (G : Hp) (a b : Addr) (T : Tng) (W : PW) (s : Say), vs = [.ref a, .ref b] ∧ Same G H ∧ PlainAt G a T W ∧ SayAt G s b ∧ s.okT T.marks T.ties ∧ T.Ok ∧ s.deep ≤ 10 ∧ 1 ≤ W.n ∧ W.n ≤ 15 ∧
  ∀ H', Same H H' → Q (.bl (ev (W.wd T) s 0 0)) H'
theorem ok_lso (B : Blt mg) (D : Def K mg "_law_so" s_law_so) (c_law_rows : CallOk P w K mg base 11 "_law_rows" P_law_rows (spRows 10)) : CallOk P w K mg base 12 "_law_so" P_law_so spLSo := by
  refine callOk D sc_law_so bd_law_so (fun vs H Q E h => ?_) (fun f cdv A outer st H vs Q E hr h => ?_)
  · obtain ⟨G, a, b, T, W, s, rfl, _⟩ := h
    rfl
  obtain ⟨G, a, b, T, W, s, rfl, eG, hP, hS, ok, okT, hd, hlo, hn, q⟩ := h
  refine ⟨_, pss_one (ps_ret (pe_ix ix_list (pe_ix ix_list (pe_cl c_law_rows hr (by rfl) (pa_cons (pv 0) (pa_cons (pv 1) pa_nil))) (pe_int) (fun _ _ => rfl)) (pe_int) (fun _ _ => rfl))), ?_⟩
  walk_at "rd"
  refine ⟨G, a, b, T, W, s, rfl, eG, hP, hS, ok, okT.ndm, okT.ndt, hd, hn, fun l H1 e1 hg => ?_⟩
  obtain ⟨r, h1, h2, h3⟩ := hg.row
  obtain ⟨x, hx, hx2⟩ := h3 0 hlo
  walk_at "rd"
  refine ⟨_, _, _, .ref x, rfl, rfl, SqL.of h1, atI_nat (j := 0) (by rw [List.getElem?_map, hx]; rfl), ?_⟩
  walk_at "rd"
  refine ⟨_, _, _, .bl (ev (W.wd T) s 0 0), rfl, rfl, SqL.of hx2, atI_nat (j := 0) (bls_at hlo), ?_⟩
  exact q H1 e1
def spLInner (n : Nat) : Sp := fun vs H Q _ => ∃ (G : Hp) (a : Addr) (s : Say), vs = [.ref a] ∧ Same G H ∧ SayAt G s a ∧ s.deep ≤ n ∧ s.size ≤ 100 ∧ ∀ l as H', Same H H' → H l = none → H' l = some (.lst (as.map V.ref)) → Paired (fun k b => SayAt G k b) s.inn as → Q (.ref l) H'
theorem ok_linner (B : Blt mg) (D : Def K mg "_law_inner" s_law_inner) (c_free : ∀ n, CallOk P w K mg base (n + 1) "_law_free" P_law_free (spLFree n)) : ∀ n, CallOk P w K mg base (n + 2) "_law_inner" P_law_inner (spLInner n) := by
  intro n
  induction n with
  | zero => exact callOk_none D bd_law_inner fun vs H Q E ⟨G, a, s, _, _, _, h, _⟩ => by have := s.deep_pos; omega
  | succ n ih =>
  have c_law_inner := ih
  have c_law_free := c_free (n + 1)
  refine callOk D sc_law_inner bd_law_inner (fun vs H Q E h => ?_) (fun f cdv A outer st H vs Q E hr h => ?_)
  · obtain ⟨G, a, s, rfl, _⟩ := h
    rfl
  obtain ⟨G, a, s, rfl, eG, hS, hd, hsz, q⟩ := h
  obtain ⟨rest, hw, hit⟩ := hS.items
  refine ⟨_, pss_cons (ps_set (i := 1) sc_law_inner.nd rfl (.inl rfl) (pe_lst (pa_nil))) (pss_cons (ps_for PassesOwn.never rfl (pi_tup (pe_slice sl_tup (pv 0) (po_some (pe_int)) po_none)) (pg_name (i := 2) sc_law_inner.nd rfl (.inl rfl)) (pss_one (ps_if (pt_val (pe_callB call_isi (by rfl) B.isinstance bo_isinstance (pa_cons (pv 2) (pa_cons (pe_bltn (v := .ty "tuple") (by rfl) B.tuple bo_tuple rfl) pa_nil)))) (pss_one (ps_set (i := 1) sc_law_inner.nd rfl (.inl rfl) (pe_op op_cat (pv 1) (pe_cl c_law_inner hr (by rfl) (pa_cons (pv 2) pa_nil))))) (pss_nil)))) (pss_cons (ps_if (PW.pt (pw_and (pt_cmpR op_in_seq (pe_ix ix_tup (pv 0) (pe_int) (fun _ _ => rfl)) (pe_lst (pa_cons (pe_str) (pa_cons (pe_str) pa_nil))) (by rfl)) (pw_and1 (pt_cmpR op_eq (pe_callB call_len_seq (by rfl) B.len bo_len (pa_cons (pe_cl c_law_free hr (by rfl) (pa_cons (pv 0) pa_nil)) pa_nil)) (pe_int) (nomark _))))) (pss_one (ps_expr (pe_bm PySem.F.plainAttrs_list PySem.F.slot_list_append PySem.F.type_list_append mt_append (pv 1) (pa_cons (pv 0) pa_nil)))) (pss_nil)) (pss_one (ps_ret (pv 1))))), ?_⟩
  walk_at "rd"
  refine ⟨sz (by simp), fun l0 hl0 => ?_⟩
  have e0 : Same H (upd H l0 (.lst [])) := Same.new (Same.refl _) hl0
  have hF0 : (upd H l0 (.lst [])) l0 = some (.lst ([].map V.ref)) := upd_same
  revert e0 hF0
  generalize (upd H l0 (.lst [])) = H0
  intro e0 hF0
  walk_at "rd"
  refine ⟨_, _, rfl, SqT.of (e0 _ _ (eG _ _ hw)), cut1_not _ _, fun p1 hp1 => ?_⟩
  rw [cut1]
  have e3 : Same H (upd H0 p1 (.tup rest)) := Same.new e0 hp1
  have hF3 : (upd H0 p1 (.tup rest)) l0 = some (.lst ([].map V.ref)) := by rw [upd_ne (ne_of_none hF0 hp1)]; exact hF0
  have hR3 : (upd H0 p1 (.tup rest)) p1 = some (.tup rest) := upd_same
  revert e3 hF3 hR3
  generalize (upd H0 p1 (.tup rest)) = H3
  intro e3 hF3 hR3
  obtain ⟨ks, hks1, hks2, hks3, hks4⟩ := hit
  let kd : Sum Str (Say × Addr) → Option Say := fun k => match k with | .inl _ => none | .inr q => some q.1
  refine ⟨_, rfl, ⟨_, SqT.of hR3⟩, for_tup (K := K) (a := p1) (xs := rest)
    (fun i σ H' => ∃ (fd : Addr) (as : List Addr) (y : Option V), σ = [some (.ref a), some (.ref fd), y] ∧ Same H3 H' ∧ H fd = none ∧ H' fd = some (.lst (as.map V.ref)) ∧ Paired (fun k b => SayAt G k b) (((ks.take i).filterMap kd).flatMap Say.inn) as ∧ as.length ≤ 100 * i)
    ⟨l0, [], _, rfl, Same.refl _, hl0, hF3, .nil, Nat.zero_le _⟩ (fun i σ H' _ hP => let ⟨_, _, _, _, h, _⟩ := hP; SqT.of (h _ _ hR3)) (fun i x σ H' hx hP => ?_) (fun σ H' hP => ?_)⟩
  · obtain ⟨fd, as, y, rfl, e4, hfN, hF4, hpa, hal⟩ := hP
    rw [hks1] at hx
    obtain ⟨k, hk, hkx⟩ := map_at hx
    have hkm := List.mem_of_getElem? hk
    have hil := (List.getElem?_eq_some_iff.mp hk).1
    have tk : (ks.take (i + 1)).filterMap kd = (ks.take i).filterMap kd ++ (kd k).toList := by
      rw [List.take_add_one, hk, List.filterMap_append]
      cases k <;> rfl
    have eG4 : Same G H' := (eG.trans e3).trans e4
    cases k with
    | inl z =>
      subst hkx
      walk_at "rd"
      walk_at "isF"
      walk_at "rd"
      refine ⟨fd, as, _, rfl, e4, hfN, hF4, ?_, by omega⟩
      rw [tk]
      simpa [kd] using hpa
    | inr qd =>
      subst hkx
      have hqS := hks3 qd hkm
      obtain ⟨qx, hqt⟩ := hqS.tup
      have hqt := eG4 _ _ hqt
      walk_at "rd"
      walk_at "isT"
      walk_at "rd"
      have hkk : qd.1 ∈ s.kids := by
        rw [← hks2]
        exact List.mem_filterMap.mpr ⟨_, hkm, rfl⟩
      have hksz : qd.1.size ≤ s.size := by
        exact size_kid hkk
      refine ⟨G, qd.2, qd.1, rfl, eG4, hqS, by have := Say.deep_kids hkk; omega, by omega, fun l bs H5 e5 hlN hl hpb => ?_⟩
      have hbl : bs.length ≤ 100 := by
        have h1 := Paired.length hpb
        have h2 := inn_len qd.1
        omega
      refine ⟨_, _, _, _, rfl, rfl, e5 _ _ hF4, hl, by rw [List.length_map, List.length_map]; exact sz (by omega), fun fc hfc => ?_⟩
      have e6 : Same H3 (upd H5 fc (.lst (as.map V.ref ++ bs.map V.ref))) := Same.new (e4.trans e5) hfc
      refine ⟨fc, as ++ bs, _, rfl, e6, ((e3.trans e4).trans e5).free hfc, by rw [upd_same, List.map_append], ?_, by rw [List.length_append]; omega⟩
      rw [tk, List.flatMap_append]
      refine paired_append hpa ?_
      simpa [kd] using hpb
  · obtain ⟨fd, as, y, rfl, e4, hfN, hF4, hpa, hal⟩ := hP
    have hpa : Paired (fun k b => SayAt G k b) (s.kids.flatMap Say.inn) as := by
      rw [hks1, List.length_map, List.take_length] at hpa
      rw [← hks2]
      exact hpa
    have hasl : as.length ≤ 300 := by
      rw [hks1, List.length_map] at hal
      omega
    have e34 := e3.trans e4
    have w3 : inV (.str s.word) [.str "each", .str "some"] = s.bnd.isSome := bnd_word hS
    have hnotin : s.inn = s.kids.flatMap Say.inn ++ (if (s.bnd.isSome && decide (s.fvN.length = 1)) = true then [s] else []) := inn_kids s
    walk_at "rd"
    refine ⟨_, _, _, _, rfl, rfl, SqT.of (e34 _ _ (eG _ _ hw)), atI_nat (j := 0) rfl, ?_⟩
    walk_at "rd"
    refine ⟨sz (by simp), fun l1 hl1 => ?_⟩
    have e5 : Same H' (upd H' l1 (.lst [.str "each", .str "some"])) := Same.new (Same.refl _) hl1
    refine ⟨_, _, rfl, .inl (SqL.of upd_same), rfl, rfl, ?_⟩
    rw [w3]
    have hF5 := e5 _ _ hF4
    have e35 := e34.trans e5
    revert hF5 e35
    generalize (upd H' l1 (.lst [.str "each", .str "some"])) = H5
    intro hF5 e35
    refine ⟨_, rfl, ?_⟩
    refine iteS (fun hb => ?_) (fun hb => ?_)
    · have hb : s.bnd.isSome = true := hb
      rw [hb, Bool.true_and] at hnotin
      walk_at "rd"
      refine ⟨G, a, s, rfl, eG.trans e35, hS, hd, fun l H6 e6 hl => ?_⟩
      refine ⟨_, _, rfl, .inl (SqL.of hl), ?_⟩
      rw [List.length_map]
      have hF6 := e6 _ _ hF5
      have e36 := e35.trans e6
      walk_at "rd"
      refine iteS (fun hc => ?_) (fun hc => ?_)
      · have hc : s.fvN.length = 1 := by
          have := V.int.inj (of_decide_eq_true hc)
          omega
        rw [if_pos (decide_eq_true hc)] at hnotin
        walk_at "rd"
        refine ⟨.inl ⟨rfl, _, SqL.of hF6⟩, ?_⟩
        walk_at "rd"
        refine ⟨fd, _, _, rfl, rfl, hF6, szl (by rw [List.length_map]; omega), ?_⟩
        walk_at "rd"
        refine q fd (as ++ [a]) _ (Same.mut e36 hfN) hfN (by rw [upd_same, List.map_append]; rfl) ?_
        rw [hnotin]
        exact Paired.snoc hpa hS
      · have hc : ¬ s.fvN.length = 1 := fun z => by
          rw [z] at hc
          rw [show decide (V.int ((1 : Nat) : Int) = V.int 1) = true from decide_eq_true rfl] at hc
          cases hc
        rw [if_neg (by rw [decide_eq_false hc]; decide), List.append_nil] at hnotin
        walk_at "rd"
        refine q fd as _ e36 hfN hF6 ?_
        rw [hnotin]
        exact hpa
    · have hb : s.bnd.isSome = false := hb
      rw [hb, Bool.false_and, if_neg (by decide), List.append_nil] at hnotin
      walk_at "rd"
      refine q fd as _ e35 hfN hF5 ?_
      rw [hnotin]
      exact hpa
end
end K48
namespace K48
open PySem PySem.Spec PyProof.Rows L2
local macro_rules | `(tactic| walk_at "rd") => `(tactic| repeat (first | refine ⟨_, rfl, ?_⟩ | refine ⟨_, _, rfl, rfl, ?_⟩ | refine ⟨rfl, ?_⟩ | refine iteTk (by decide +kernel) ?_ | refine iteFk (by decide +kernel) ?_))
local macro_rules | `(tactic| walk_at "rdr") => `(tactic| repeat (first | refine ⟨_, rfl, ?_⟩ | refine ⟨_, _, rfl, rfl, ?_⟩ | refine ⟨rfl, ?_⟩ | refine iteTk (by first | decide +kernel | rfl) ?_ | refine iteFk (by first | decide +kernel | rfl) ?_))
local macro_rules | `(tactic| walk_at "tyn") => `(tactic| first | exact .int _ | exact .bl _ | exact .str _ | exact .tup (by assumption) | exact .lst (by assumption) | exact .dK (by assumption))
local macro_rules | `(tactic| walk_at "isT") => `(tactic| refine ⟨_, _, _, _, true, rfl, .ty _, TyN.x (by walk_at "tyn"), kit_ty (by decide +kernel), ?_⟩)
local macro_rules | `(tactic| walk_at "isF") => `(tactic| refine ⟨_, _, _, _, false, rfl, .ty _, TyN.x (by walk_at "tyn"), kit_ty (by decide +kernel), ?_⟩)
local macro_rules | `(tactic| walk_at "nz") => `(tactic| first | refine nzG (by simp only [List.set_cons_succ, List.set_cons_zero]; rfl) ?_ | refine reS (by simp only [List.set_cons_succ, List.set_cons_zero]; rfl) ?_)
theorem lay_bools : ∀ bs : List Bool, PyData.canLayAll0 (bs.map PyData.bool) = true
  | [] => rfl
  | _ :: r => by simp [PyData.canLayAll0, PyData.canLay0, lay_bools r]
theorem depth_bools : ∀ bs : List Bool, PyData.depthAll (bs.map PyData.bool) = 0
  | [] => rfl
  | _ :: r => by simp [PyData.depthAll, PyData.depth, depth_bools r]
theorem shaped_bools (bs : List Bool) : SeqAt.shaped (.list (bs.map PyData.bool)) = true := by simp [SeqAt.shaped, PyData.canLay0, PyData.depth, lay_bools, depth_bools]
theorem eqv_boolsA : ∀ bs cs : List Bool, PyData.eqvAll (bs.map PyData.bool) (cs.map PyData.bool) = decide (bs = cs)
  | [], [] => by simp [PyData.eqvAll]
  | [], _ :: _ => by simp [PyData.eqvAll]
  | _ :: _, [] => by simp [PyData.eqvAll]
  | a :: r, b :: t => by
    simp only [List.map_cons, PyData.eqvAll, PyData.eqv, eqv_boolsA r t]
    cases a <;> cases b <;> by_cases h : r = t <;> simp [h]
theorem eqv_bools (bs cs : List Bool) : PyData.eqv (.list (bs.map PyData.bool)) (.list (cs.map PyData.bool)) = decide (bs = cs) := by
  rw [PyData.eqv]
  exact eqv_boolsA bs cs
theorem dp_bools {K : PySem.W.Frag} {H : Hp} : ∀ bs : List Bool, DpAll K H (bs.map V.bl) (bs.map PyData.bool)
  | [] => .nil
  | b :: r => .cons (.bl b) (dp_bools r)
theorem op_eqDK {X : Cx} {K : PySem.W.Frag} (hK : X.K = K) (hu : X.A.units + 64 < cLine) : OpR X (compareOp .Eq) (rEqD K) := by
  subst hK
  exact op_eqD hu
/-- what tells like things -/
def kindB (W : PW) (T : Tng) (s : Say) (i : Nat) : List Bool := ((T.marks.map fun m => W.mb m i) ++ (T.ties.map fun t => W.tb t i i)) ++ s.inn.map fun b => ev (W.wd T) b i i
theorem kind_len (W : PW) (T : Tng) (s : Say) (i : Nat) : (kindB W T s i).length = T.marks.length + T.ties.length + s.inn.length := by simp [kindB]; omega
theorem fvN_bnd {b : Say} (h : b.bnd.isSome = true) (h2 : b.fvN ≠ []) : b.fvN.length = 1 := by
  have key : ∀ v (s : Say), (Say.each v s).fvN ≠ [] → (Say.each v s).fvN.length = 1 := fun v s h2 => by
    unfold Say.fvN at h2 ⊢
    cases v with
    | x =>
      rw [show (Say.each .x s).fr .x = false by simp [Say.fr]] at h2 ⊢
      cases hy : (Say.each .x s).fr .y with
      | true => rfl
      | false => rw [hy] at h2; exact absurd rfl h2
    | y =>
      rw [show (Say.each .y s).fr .y = false by simp [Say.fr]] at h2 ⊢
      cases hy : (Say.each .y s).fr .x with
      | true => rfl
      | false => rw [hy] at h2; exact absurd rfl h2
  cases b with
  | each v s => exact key v s h2
  | som v s =>
    have e : (Say.som v s).fvN = (Say.each v s).fvN := rfl
    rw [e] at h2 ⊢
    exact key v s h2
  | _ => cases h
theorem map_eq_at {α β : Type} {f g : α → β} : ∀ {l : List α}, l.map f = l.map g → ∀ x ∈ l, f x = g x
  | [], _, _, h => by cases h
  | a :: l, e, x, h => by
    rw [List.map_cons, List.map_cons] at e
    obtain ⟨e1, e2⟩ := List.cons.inj e
    rcases List.mem_cons.mp h with rfl | h
    · exact e1
    · exact map_eq_at e2 x h
/-- like things by what tells them -/
theorem like_of {W : PW} {T : Tng} {s : Say} {i j : Nat} (hi : i < W.n) (hj : j < W.n) (h : kindB W T s i = kindB W T s j) : Like (W.wd T) s i j := by
  unfold kindB at h
  obtain ⟨h1, h2⟩ := List.append_inj h (by simp)
  obtain ⟨h3, h4⟩ := List.append_inj h1 (by simp)
  refine ⟨fun m hm => ?_, fun t ht => ?_, fun b hb hf => ?_⟩
  · rw [wd_m hi, wd_m hj]
    exact map_eq_at h3 m hm
  · rw [wd_t hi hi, wd_t hj hj]
    exact map_eq_at h4 t ht
  · refine map_eq_at h2 b (List.mem_filter.mpr ⟨hb, decide_eq_true ?_⟩)
    exact fvN_bnd (bs_in (ms := []) (ts := []) hb).2.2 hf
section
variable {P : Program} {w : World} {K : PySem.W.Frag} {mg : Str → Option Value} {base : Heap} {cT cW : Addr}
def spLKind : Sp := fun vs H Q _ => ∃ (G : Hp) (sh a b : Addr) (T : Tng) (W : PW) (s : Say) (i : Nat), vs = [.ref sh, .ref a, .ref b, .int i] ∧ Same G H ∧ ShapeAt G sh T ∧ PlainAt G a T W ∧ SayAt G s b ∧ s.okT T.marks T.ties ∧ T.Ok ∧ s.deep ≤ 10 ∧ s.size ≤ 100 ∧ i < W.n ∧ W.n ≤ 15 ∧
  ∀ l H', Same H H' → H l = none → H' l = some (.lst ((kindB W T s i).map V.bl)) → Q (.ref l) H'
theorem ok_lkind (B : Blt mg) (D : Def K mg "_law_kind" s_law_kind) (c_law_inner : CallOk P w K mg base 12 "_law_inner" P_law_inner (spLInner 10)) (c_law_rows : CallOk P w K mg base 11 "_law_rows" P_law_rows (spRows 10)) : CallOk P w K mg base 13 "_law_kind" P_law_kind spLKind := by
  refine callOk D sc_law_kind bd_law_kind (fun vs H Q E h => ?_) (fun f cdv A outer st H vs Q E hr h => ?_)
  · obtain ⟨G, sh, a, b, T, W, s, i, rfl, _⟩ := h
    rfl
  obtain ⟨G, sh, a, b, T, W, s, i, rfl, eG, ⟨sm, sti, sf, hS, hSm, hSt, hSf⟩, hP, hSay, ok, okT, hd, hsz, hi, hn, q⟩ := h
  have hu := hu_of hr
  have hr11 : Room 11 _ := hr.mono (by decide)
  refine ⟨_, pss_cons (ps_set (i := 4) sc_law_kind.nd rfl (.inl rfl) (pe_op op_cat (pe_lc (own := [("_law_name", 5)]) (g := gName 5) (tt := tYes) (by rfl) sc_law_kind.nd (pi_tup (pe_ix ix_tup (pv 0) (pe_int) (fun _ _ => rfl))) (blkOk_by (own := [("_law_name", 5)]) (N := N_law_kind) (by kernel_rfl)) (fun _ _ _ _ _ => pg_name (i := 5) sc_law_kind.nd rfl (Or.inl rfl)) (fun _ _ _ _ _ => pts_nil) (fun _ _ _ _ _ => pe_ix (ix_listK (K := K) rfl) (pe_dget hu (pe_ix (ix_tupK (K := K) rfl) (pv 1) (pe_int) (fun _ _ => rfl)) (pv 5) (fun _ _ => rfl)) (pv 3) (fun _ _ => rfl))) (pe_lc (own := [("_law_name", 5)]) (g := gName 5) (tt := tYes) (by rfl) sc_law_kind.nd (pi_tup (pe_ix ix_tup (pv 0) (pe_int) (fun _ _ => rfl))) (blkOk_by (own := [("_law_name", 5)]) (N := N_law_kind) (by kernel_rfl)) (fun _ _ _ _ _ => pg_name (i := 5) sc_law_kind.nd rfl (Or.inl rfl)) (fun _ _ _ _ _ => pts_nil) (fun _ _ _ _ _ => pe_ix (ix_listK (K := K) rfl) (pe_ix (ix_listK (K := K) rfl) (pe_dget hu (pe_ix (ix_tupK (K := K) rfl) (pv 1) (pe_int) (fun _ _ => rfl)) (pv 5) (fun _ _ => rfl)) (pv 3) (fun _ _ => rfl)) (pv 3) (fun _ _ => rfl))))) (pss_cons (ps_for PassesOwn.never rfl (pi_list (pe_cl c_law_inner hr (by rfl) (pa_cons (pv 2) pa_nil))) (pg_name (i := 6) sc_law_kind.nd rfl (.inl rfl)) (pss_one (ps_expr (pe_bm PySem.F.plainAttrs_list PySem.F.slot_list_append PySem.F.type_list_append mt_append (pv 4) (pa_cons (pe_ix ix_list (pe_ix ix_list (pe_cl c_law_rows hr11 (by rfl) (pa_cons (pv 1) (pa_cons (pv 6) pa_nil))) (pv 3) (fun _ _ => rfl)) (pv 3) (fun _ _ => rfl)) pa_nil))))) (pss_one (ps_ret (pv 4)))), ?_⟩
  obtain ⟨wm, wt, wfm, wft, hA, hM, hMv, hT, hTv⟩ := id hP
  walk_at "rd"
  refine ⟨_, _, _, _, rfl, rfl, SqT.of (eG _ _ hS), atI_nat (j := 0) rfl, ?_⟩
  refine ⟨_, rfl, ⟨_, SqT.of (eG _ _ hSm)⟩, fun D1 hD1 => ?_⟩
  refine lc_tupF (fun k y _ => y = .bl (W.mb (T.marks.getD k "") i)) (fun _ => true) hD1 (eG _ _ hSm) (by rw [List.length_map]; have := okT.lm; omega) (fun _ _ _ _ _ h => h) rfl (fun k x H2 acc hx e2 hY N k1 k2 => ?_) (fun H2 ys e2 hY hp => ?_)
  · obtain ⟨m, hm, rfl⟩ := map_at hx
    have hmm := List.mem_of_getElem? hm
    have eG2 := eG.trans e2
    walk_at "rd"
    refine ⟨_, _, _, _, rfl, rfl, SqT.of (eG2 _ _ hA), atI_nat (j := 1) rfl, ?_⟩
    walk_at "rd"
    refine ⟨_, _, rfl, .inl ⟨_, Sum.inr m, .inl (eG2 _ _ hM), rfl, (withA_val okT.ndm hmm).symm⟩, ?_⟩
    walk_at "rd"
    refine ⟨_, _, _, .bl (W.mb m i), rfl, rfl, SqL.of (eG2 _ _ (hMv m hmm)), atI_nat (j := i) (bls_at hi), ?_⟩
    exact k2 _ H2 (Same.refl _) rfl (by rw [List.getD, hm]; rfl)
  · rw [filter_yes, List.length_map] at hp
    have hz := paired_eq hp
    rw [getD_map T.marks "" (fun m => V.bl (W.mb m i))] at hz
    rw [hz] at hY
    have eG2 := eG.trans e2
    walk_at "rd"
    refine ⟨_, _, _, _, rfl, rfl, SqT.of (eG2 _ _ hS), atI_nat (j := 1) rfl, ?_⟩
    refine ⟨_, rfl, ⟨_, SqT.of (eG2 _ _ hSt)⟩, fun D2 hD2 => ?_⟩
    refine lc_tupF (fun k y _ => y = .bl (W.tb (T.ties.getD k "") i i)) (fun _ => true) hD2 (eG2 _ _ hSt) (by rw [List.length_map]; have := okT.lt; omega) (fun _ _ _ _ _ h => h) rfl (fun k x H3 acc hx e3 hY3 N k1 k2 => ?_) (fun H3 ys3 e3 hY3 hp3 => ?_)
    · obtain ⟨t, ht, rfl⟩ := map_at hx
      have htm := List.mem_of_getElem? ht
      have eG3 := eG2.trans e3
      obtain ⟨r, h1, h2, h3⟩ := (hTv t htm).row
      obtain ⟨b1, hb1, hb2⟩ := h3 i hi
      walk_at "rd"
      refine ⟨_, _, _, _, rfl, rfl, SqT.of (eG3 _ _ hA), atI_nat (j := 2) rfl, ?_⟩
      walk_at "rd"
      refine ⟨_, _, rfl, .inl ⟨_, Sum.inr t, .inl (eG3 _ _ hT), rfl, (withA_val okT.ndt htm).symm⟩, ?_⟩
      walk_at "rd"
      refine ⟨_, _, _, .ref b1, rfl, rfl, SqL.of (eG3 _ _ h1), atI_nat (j := i) (by rw [List.getElem?_map, hb1]; rfl), ?_⟩
      walk_at "rd"
      refine ⟨_, _, _, .bl (W.tb t i i), rfl, rfl, SqL.of (eG3 _ _ hb2), atI_nat (j := i) (bls_at hi), ?_⟩
      exact k2 _ H3 (Same.refl _) rfl (by rw [List.getD, ht]; rfl)
    · rw [filter_yes, List.length_map] at hp3
      have hz3 := paired_eq hp3
      rw [getD_map T.ties "" (fun t => V.bl (W.tb t i i))] at hz3
      rw [hz3] at hY3
      have e23 := e2.trans e3
      refine ⟨_, _, _, _, rfl, rfl, e3 _ _ hY, hY3, by rw [List.length_map, List.length_map]; have := okT.lm; have := okT.lt; exact sz (by omega), fun fl hfl => ?_⟩
      have hfN : H fl = none := e23.free hfl
      have hF4 : (upd H3 fl (.lst ((T.marks.map fun m => V.bl (W.mb m i)) ++ (T.ties.map fun t => V.bl (W.tb t i i))))) fl = some (.lst (((((T.marks.map fun m => W.mb m i) ++ (T.ties.map fun t => W.tb t i i)) ++ ([] : List Bool))).map V.bl)) := by
        rw [upd_same]
        simp [List.map_append, List.map_map, Function.comp_def]
      have e4 : Same H (upd H3 fl (.lst ((T.marks.map fun m => V.bl (W.mb m i)) ++ (T.ties.map fun t => V.bl (W.tb t i i))))) := Same.new e23 hfl
      revert hF4 e4
      generalize (upd H3 fl (.lst ((T.marks.map fun m => V.bl (W.mb m i)) ++ (T.ties.map fun t => V.bl (W.tb t i i))))) = H4
      intro hF4 e4
      walk_at "rd"
      refine ⟨G, b, s, rfl, eG.trans e4, hSay, hd, hsz, fun l as H5 e5 hlN hl hpa => ?_⟩
      have hlf : l ≠ fl := fun z => by rw [z, hF4] at hlN; cases hlN
      have hasl := Paired.length hpa
      have hil := inn_len s
      refine ⟨_, rfl, ⟨_, SqL.of hl⟩, for_list (K := K) (a := l) (xs := as.map V.ref)
        (fun j σ H' => ∃ y : Option V, σ = [some (.ref sh), some (.ref a), some (.ref b), some (.int i), some (.ref fl), none, y] ∧ Same H H' ∧ H' l = some (.lst (as.map V.ref)) ∧ H' fl = some (.lst ((((T.marks.map fun m => W.mb m i) ++ (T.ties.map fun t => W.tb t i i)) ++ ((s.inn.take j).map fun b => ev (W.wd T) b i i)).map V.bl)))
        ⟨_, rfl, e4.trans e5, hl, e5 _ _ hF4⟩ (fun j σ H' _ hP => let ⟨_, _, _, h, _⟩ := hP; SqL.of h) (fun j x σ H' hx hP => ?_) (fun σ H' hP => ?_)⟩
      · obtain ⟨y, rfl, e6, hl6, hF6⟩ := hP
        obtain ⟨b1, hb1, rfl⟩ := map_at hx
        obtain ⟨k, hk, hkS⟩ := Paired.at hpa hb1
        have hjl := (List.getElem?_eq_some_iff.mp hk).1
        have hkm : k ∈ s.bs := (List.mem_filter.mp (List.mem_of_getElem? hk)).1
        obtain ⟨g1, g2, _⟩ := bs_in (ms := T.marks) (ts := T.ties) hkm
        walk_at "rd"
        refine ⟨.inl ⟨rfl, _, SqL.of hF6⟩, ?_⟩
        walk_at "rd"
        refine ⟨G, a, b1, T, W, k, rfl, eG.trans e6, hP, hkS, g2 ok, okT.ndm, okT.ndt, by omega, hn, fun l7 H7 e7 hg7 => ?_⟩
        obtain ⟨r, h1, h2, h3⟩ := hg7.row
        obtain ⟨x, hx, hx2⟩ := h3 i hi
        walk_at "rd"
        refine ⟨_, _, _, .ref x, rfl, rfl, SqL.of h1, atI_nat (j := i) (by rw [List.getElem?_map, hx]; rfl), ?_⟩
        walk_at "rd"
        refine ⟨_, _, _, .bl (ev (W.wd T) k i i), rfl, rfl, SqL.of hx2, atI_nat (j := i) (bls_at hi), ?_⟩
        refine ⟨fl, _, _, rfl, rfl, e7 _ _ hF6, szl ?_, ?_⟩
        · simp only [List.length_map, List.length_append, List.length_take]
          have := okT.lm
          have := okT.lt
          omega
        refine ⟨_, rfl, Same.mut (e6.trans e7) hfN, by rw [upd_ne hlf]; exact e7 _ _ hl6, ?_⟩
        rw [upd_same, List.take_add_one, hk]
        simp [List.map_append, List.map_map]
      · obtain ⟨y, rfl, e6, hl6, hF6⟩ := hP
        rw [List.take_of_length_le (by rw [List.length_map]; omega)] at hF6
        walk_at "rd"
        exact q fl H' e6 hfN hF6
end
end K48
namespace K48
open PySem PySem.Spec PyProof.Rows L2
local macro_rules | `(tactic| walk_at "rd") => `(tactic| repeat (first | refine ⟨_, rfl, ?_⟩ | refine ⟨_, _, rfl, rfl, ?_⟩ | refine ⟨rfl, ?_⟩ | refine iteTk (by decide +kernel) ?_ | refine iteFk (by decide +kernel) ?_))
local macro_rules | `(tactic| walk_at "rdr") => `(tactic| repeat (first | refine ⟨_, rfl, ?_⟩ | refine ⟨_, _, rfl, rfl, ?_⟩ | refine ⟨rfl, ?_⟩ | refine iteTk (by first | decide +kernel | rfl) ?_ | refine iteFk (by first | decide +kernel | rfl) ?_))
local macro_rules | `(tactic| walk_at "tyn") => `(tactic| first | exact .int _ | exact .bl _ | exact .str _ | exact .tup (by assumption) | exact .lst (by assumption) | exact .dK (by assumption))
local macro_rules | `(tactic| walk_at "isT") => `(tactic| refine ⟨_, _, _, _, true, rfl, .ty _, TyN.x (by walk_at "tyn"), kit_ty (by decide +kernel), ?_⟩)
local macro_rules | `(tactic| walk_at "isF") => `(tactic| refine ⟨_, _, _, _, false, rfl, .ty _, TyN.x (by walk_at "tyn"), kit_ty (by decide +kernel), ?_⟩)
local macro_rules | `(tactic| walk_at "nz") => `(tactic| first | refine nzG (by simp only [List.set_cons_succ, List.set_cons_zero]; rfl) ?_ | refine reS (by simp only [List.set_cons_succ, List.set_cons_zero]; rfl) ?_)
section
variable {P : Program} {w : World} {K : PySem.W.Frag} {mg : Str → Option Value} {base : Heap} {cT cW : Addr}
/-- two unlike things that are like -/
def Twn (W : PW) (T : Tng) (s : Say) (q : Nat × Nat) : Prop := q.1 < W.n ∧ q.2 < W.n ∧ q.1 ≠ q.2 ∧ kindB W T s q.1 = kindB W T s q.2
def spLTwins : Sp := fun vs H Q _ => ∃ (G : Hp) (p c sh a b : Addr) (T : Tng) (W : PW) (s : Say), vs = [.ref p, .ref sh, .ref a, .ref b] ∧ Same G H ∧ G p = none ∧ G c = none ∧ PoolAt H p c ∧ ShapeAt G sh T ∧ PlainAt G a T W ∧ SayAt G s b ∧ s.okT T.marks T.ties ∧ T.Ok ∧ s.deep ≤ 10 ∧ s.size ≤ 100 ∧ W.n ≤ 15 ∧
  (∀ H', Same (noP p c H) H' → PoolAt H' p c → Q .non H') ∧ ∀ (r : Addr) (q : Nat × Nat) (H' : Hp), Same (noP p c H) H' → PoolAt H' p c → noP p c H' r = some (.tup [nV q.1, nV q.2]) → Twn W T s q → Q (.ref r) H'
theorem ok_ltwins (B : Blt mg) (D : Def K mg "_law_twins" s_law_twins) (c_law_draw : CallOk P w K mg base 1 "_law_draw" P_law_draw spDraw) (c_law_kind : CallOk P w K mg base 13 "_law_kind" P_law_kind spLKind) : CallOk P w K mg base 14 "_law_twins" P_law_twins spLTwins := by
  refine callOk D sc_law_twins bd_law_twins (fun vs H Q E h => ?_) (fun f cdv A outer st H vs Q E hr h => ?_)
  · obtain ⟨G, p, c, sh, a, b, T, W, s, rfl, _⟩ := h
    rfl
  obtain ⟨G, p, c, sh, a, b, T, W, s, rfl, eG, hGp, hGc, hp, hS, hP, hSay, ok, okT, hd, hsz, hn, q0, q⟩ := h
  have hr1 : Room 1 _ := hr.mono (by decide)
  refine ⟨_, pss_cons (ps_set (i := 4) sc_law_twins.nd rfl (.inr rfl) (pe_lc (own := [("_law_thing", 5)]) (g := gName 5) (tt := tYes) (by rfl) sc_law_twins.nd (pi_range1 (by rfl) B.range (pa_cons (pe_ix ix_tup (pv 2) (pe_int) (fun _ _ => rfl)) pa_nil)) (blkOk_by (own := [("_law_thing", 5)]) (N := N_law_twins) (by kernel_rfl)) (fun _ _ _ _ _ => pg_name (i := 5) sc_law_twins.nd rfl (Or.inl rfl)) (fun _ _ _ _ _ => pts_nil) (fun _ _ _ _ _ => pe_cl c_law_kind hr (by rfl) (pa_cons (pv 1) (pa_cons (pv 2) (pa_cons (pv 3) (pa_cons (pv 5) pa_nil))))))) (pss_cons (ps_set (i := 6) sc_law_twins.nd rfl (.inl rfl) (pe_lst (pa_nil))) (pss_cons (ps_for PassesOwn.never rfl (pi_range1 (by rfl) B.range (pa_cons (pe_ix ix_tup (pv 2) (pe_int) (fun _ _ => rfl)) pa_nil)) (pg_name (i := 7) sc_law_twins.nd rfl (.inr rfl)) (pss_one (ps_set (i := 6) sc_law_twins.nd rfl (.inl rfl) (pe_op op_cat (pv 6) (pe_lc (own := [("_law_two", 8)]) (g := gName 8) (by rfl) sc_law_twins.nd (pi_range1 (by rfl) B.range (pa_cons (pe_ix ix_tup (pv 2) (pe_int) (fun _ _ => rfl)) pa_nil)) (blkOk_by (own := [("_law_two", 8)]) (N := N_law_twins) (by kernel_rfl)) (fun _ _ _ _ _ => pg_name (i := 8) sc_law_twins.nd rfl (Or.inl rfl)) (fun _ _ _ _ _ => pts_one (PW.pt (pw_and (pt_cmpR op_ne (pv 7) (pv 8) (nomark _)) (pw_and1 (pt_cmpR (op_eqDK (K := K) rfl hr.units) (pe_ix (ix_listK (K := K) rfl) (pv 4) (pv 7) (fun _ _ => rfl)) (pe_ix (ix_listK (K := K) rfl) (pv 4) (pv 8) (fun _ _ => rfl)) (nomark _)))))) (fun _ _ _ _ _ => pe_tup (pa_cons (pv 7) (pa_cons (pv 8) pa_nil)))))))) (pss_cons (ps_if (pt_cmpR op_eq (pe_callB call_len_seq (by rfl) B.len bo_len (pa_cons (pv 6) pa_nil)) (pe_int) (nomark _)) (pss_one (ps_ret (pe_non))) (pss_nil)) (pss_one (ps_ret (pe_ix ix_list (pv 6) (pe_cl c_law_draw hr1 (by rfl) (pa_cons (pv 0) (pa_cons (pe_callB call_len_seq (by rfl) B.len bo_len (pa_cons (pv 6) pa_nil)) pa_nil))) (fun _ _ => rfl))))))), ?_⟩
  obtain ⟨wm, wt, wfm, wft, hA, _⟩ := id hP
  walk_at "rd"
  refine ⟨_, _, _, _, rfl, rfl, SqT.of (eG _ _ hA), atI_nat (j := 0) rfl, ?_⟩
  walk_at "rd"
  refine ⟨by omega, by omega, fun D1 hD1 => ?_⟩
  refine lc_rangeF (n := W.n) (fun k y H => ∃ b, y = .ref b ∧ H b = some (.lst ((kindB W T s k).map V.bl))) (fun _ => true) hD1 (by omega) (fun k y H H' e ⟨b, h1, h2⟩ => ⟨b, h1, e _ _ h2⟩) rfl (fun k H2 acc hk e2 hY N k1 k2 => ?_) (fun H2 ys e2 hY hp2 => ?_)
  · walk_at "rd"
    refine ⟨G, sh, a, b, T, W, s, k, rfl, eG.trans e2, hS, hP, hSay, ok, okT, hd, hsz, hk, hn, fun l H3 e3 hlN hl => ?_⟩
    refine k2 (.ref l) H3 e3 rfl ⟨l, rfl, ?_⟩
    rw [hide_ne (fun z => by rw [z, hY] at hlN; cases hlN)]
    exact hl
  · rw [filter_yes] at hp2
    obtain ⟨kr, h1, h2⟩ := paired_refs hp2
    rw [h1] at hY
    have hkl := Paired.length h2
    rw [List.length_range] at hkl
    have hkr : ∀ k, k < W.n → ∃ x, kr[k]? = some x ∧ H2 x = some (.lst ((kindB W T s k).map V.bl)) := fun k hk => by
      have hb := List.getElem?_eq_getElem (show k < kr.length by omega)
      obtain ⟨j, hj, q⟩ := Paired.at h2 hb
      rw [List.getElem?_range hk] at hj
      cases hj
      exact ⟨_, hb, hide_same _ _ q⟩
    clear h1 h2 hp2
    walk_at "rd"
    refine ⟨sz (by simp), fun pd hpd => ?_⟩
    have e3 : Same H2 (upd H2 pd (.lst [])) := Same.new (Same.refl _) hpd
    have hF3 : (upd H2 pd (.lst [])) pd = some (.lst ([].map V.ref)) := upd_same
    have hpN := e2.free hpd
    revert e3 hF3
    generalize (upd H2 pd (.lst [])) = H3
    intro e3 hF3
    have eG3 := (eG.trans e2).trans e3
    walk_at "rd"
    refine ⟨_, _, _, _, rfl, rfl, SqT.of (eG3 _ _ hA), atI_nat (j := 0) rfl, ?_⟩
    walk_at "rd"
    refine ⟨by omega, by omega, ?_⟩
    refine for_range (lo := 0) (n := W.n) (fun i σ H' => ∃ (pd : Addr) (qs : List Addr) (ps : List (Nat × Nat)) (y7 : Option V), σ = [some (.ref p), some (.ref sh), some (.ref a), some (.ref b), some (.ref D1), none, some (.ref pd), y7, none] ∧ Same H3 H' ∧ H pd = none ∧ H' pd = some (.lst (qs.map V.ref)) ∧ PairsAt H' qs ps ∧ (∀ q ∈ ps, Twn W T s q) ∧ qs.length ≤ i * W.n)
      ⟨pd, [], [], none, rfl, Same.refl _, hpN, hF3, .nil, (fun q hq => by cases hq), Nat.zero_le _⟩ (fun i σ H' hi hP => ?_) (fun σ H' hP => ?_)
    · obtain ⟨pd, qs, ps, y7, rfl, e7, hpN, hp7, hq7, hg7, hl7⟩ := hP
      rw [Int.zero_add]
      have e37 := e3.trans e7
      have eG7 := eG3.trans e7
      walk_at "rd"
      refine ⟨_, _, _, _, rfl, rfl, SqT.of (eG7 _ _ hA), atI_nat (j := 0) rfl, ?_⟩
      walk_at "rd"
      refine ⟨by omega, by omega, fun Dn hDn => ?_⟩
      refine lc_rangeF (n := W.n) (fun j y H => ∃ b, y = .ref b ∧ H b = some (.tup [nV i, nV j])) (fun j => !decide (i = j) && decide (kindB W T s i = kindB W T s j)) hDn (by omega) (fun k y H H' e ⟨b, h1, h2⟩ => ⟨b, h1, e _ _ h2⟩) rfl (fun j H8 acc hj e8 hY8 N k1 k2 => ?_) (fun H8 ys e8 hY8 hp8 => ?_)
      · have e38 := e37.trans e8
        obtain ⟨xi, hxi, hxi2⟩ := hkr i hi
        obtain ⟨xj, hxj, hxj2⟩ := hkr j hj
        walk_at "rd"
        refine iteS (fun hc => ?_) (fun hc => ?_)
        · have hij : ¬ i = j := fun y => by
            rw [y, decide_eq_true rfl] at hc
            cases hc
          walk_at "rd"
          refine ⟨_, _, _, .ref xi, rfl, rfl, SqL.of (e38 _ _ hY), atI_nat (j := i) (by rw [List.getElem?_map, hxi]; rfl), ?_⟩
          walk_at "rd"
          refine ⟨_, _, _, .ref xj, rfl, rfl, SqL.of (e38 _ _ hY), atI_nat (j := j) (by rw [List.getElem?_map, hxj]; rfl), ?_⟩
          refine ⟨_, _, .lst (SqL.of (e38 _ _ hxi2)) (dp_bools _), .lst (SqL.of (e38 _ _ hxj2)) (dp_bools _), shaped_bools _, shaped_bools _, ?_⟩
          rw [eqv_bools]
          refine ⟨_, rfl, ?_⟩
          refine iteS (fun hk => ?_) (fun hk => ?_)
          · walk_at "rd"
            refine ⟨sz (by simp), fun pp hpp => ?_⟩
            refine k2 _ _ (Same.new (Same.refl _) hpp) (by rw [hk, decide_eq_false hij]; rfl) ⟨pp, rfl, ?_⟩
            rw [hide_ne (fun z => by rw [z, hY8] at hpp; cases hpp), upd_same]
          · exact k1 H8 (Same.refl _) (by rw [hk, Bool.and_false])
        · have hij : i = j := by
            have hc : (!decide (V.int (i : Int) = V.int (j : Int))) = false := hc
            rw [Bool.not_eq_false'] at hc
            have := V.int.inj (of_decide_eq_true hc)
            omega
          exact k1 H8 (Same.refl _) (by rw [decide_eq_true hij]; rfl)
      · obtain ⟨rr, hrr1, hrr2⟩ := paired_refs hp8
        rw [hrr1] at hY8
        have hpr := paired_pairs (Paired.mapP hrr2 fun _ _ h => hide_same _ _ h)
        have hrl : rr.length ≤ W.n := by
          have h1 := Paired.length hrr2
          have h2 := List.length_filter_le (fun j => !decide (i = j) && decide (kindB W T s i = kindB W T s j)) (List.range W.n)
          rw [List.length_range] at h2
          omega
        have him : i * W.n ≤ 15 * 15 := Nat.mul_le_mul (by omega) hn
        refine ⟨_, _, _, _, rfl, rfl, e8 _ _ hp7, hY8, by rw [List.length_map, List.length_map]; exact sz (by omega), fun fc hfc => ?_⟩
        have e9 : Same H8 (upd H8 fc (.lst (qs.map V.ref ++ rr.map V.ref))) := Same.new (Same.refl _) hfc
        refine ⟨fc, qs ++ rr, _, _, rfl, (e7.trans e8).trans e9, (((e2.trans e3).trans e7).trans e8).free hfc, by rw [upd_same, List.map_append], paired_append (hq7.mono (e8.trans e9)) (hpr.mono e9), fun z hz => ?_, ?_⟩
        · rcases List.mem_append.mp hz with h | h
          · exact hg7 z h
          · obtain ⟨j, hj, rfl⟩ := List.mem_map.mp h
            obtain ⟨hj1, hj2⟩ := List.mem_filter.mp hj
            obtain ⟨g1, g2⟩ := Bool.and_eq_true_iff.mp hj2
            exact ⟨hi, List.mem_range.mp hj1, (fun z : i = j => by rw [z, decide_eq_true rfl] at g1; cases g1), of_decide_eq_true g2⟩
        · rw [List.length_append, Nat.succ_mul]
          omega
    · obtain ⟨pd, qs, ps, y7, rfl, e7, hpN, hp7, hq7, hg7, hl7⟩ := hP
      have e07 := (e2.trans e3).trans e7
      have hl225 : qs.length ≤ 15 * 15 := Nat.le_trans hl7 (Nat.mul_le_mul hn hn)
      have hp8 := hp.same e07
      walk_at "rd"
      refine ⟨_, _, rfl, .inl (SqL.of hp7), ?_⟩
      rw [List.length_map]
      walk_at "rd"
      refine iteS (fun hc => ?_) (fun hc => ?_)
      · walk_at "rd"
        exact q0 H' (noP_then hidL_same e07) hp8
      · have hpos : 0 < qs.length := by
          refine Nat.pos_of_ne_zero fun z => ?_
          rw [z, show decide (V.int ((0 : Nat) : Int) = V.int 0) = true from decide_eq_true rfl] at hc
          cases hc
        walk_at "rd"
        refine ⟨_, _, rfl, .inl (SqL.of hp7), ?_⟩
        refine ⟨p, c, qs.length, by rw [List.length_map]; rfl, hp8, hpos, by omega, fun d H9 hd9 e9 hp9 => ?_⟩
        have npd := pool_off hp hpN
        have hp10 : H9 pd = some (.lst (qs.map V.ref)) := e9 _ _ (noP_get hp7 npd.1 npd.2)
        obtain ⟨x, hx⟩ : ∃ x, qs[d]? = some x := ⟨_, List.getElem?_eq_getElem hd9⟩
        have hqp := Paired.length hq7
        obtain ⟨z, hz⟩ : ∃ z, ps[d]? = some z := ⟨_, List.getElem?_eq_getElem (by omega)⟩
        obtain ⟨x', hx', hxz⟩ := Paired.at hq7 hz
        rw [hx] at hx'
        cases hx'
        refine ⟨_, _, _, .ref x, rfl, rfl, SqL.of hp10, atI_nat (j := d) (by rw [List.getElem?_map, hx]; rfl), ?_⟩
        exact q x z H9 (noP_trans (noP_then hidL_same e07) e9) hp9 (hidL_into e9 _ _ (noP_tup hp8 hxz)) (hg7 z (List.mem_of_getElem? hz))
def spTwinWorld : Sp := fun vs H Q _ => ∃ (G : Hp) (p c sh b : Addr) (T : Tng) (s : Say), vs = [.ref p, .ref sh, .ref b] ∧ Same G H ∧ G p = none ∧ G c = none ∧ PoolAt H p c ∧ ShapeAt G sh T ∧ SayAt G s b ∧ s.okT T.marks T.ties ∧ T.Ok ∧ s.deep ≤ 9 ∧ s.size ≤ 29 ∧ s.closed ∧
  (∀ H', Same (noP p c H) H' → PoolAt H' p c → Q .non H') ∧ ∀ (r a b tw : Addr) (W : PW) (s2 : Say) (q : Nat × Nat) (H' : Hp), Same (noP p c H) H' → PoolAt H' p c → noP p c H' r = some (.tup [.ref a, .ref b, .ref tw]) → PlainAt (noP p c H') a T W → 2 ≤ W.n → W.n ≤ 5 → SayAt (noP p c H') s2 b → s2.okT T.marks T.ties → s2.deep ≤ 10 → s2.size ≤ 30 → s2.closed → ev (W.wd T) s2 0 0 = true →
    noP p c H' tw = some (.tup [nV q.1, nV q.2]) → Twn W T s2 q → Q (.ref r) H'
theorem ok_twin_world (B : Blt mg) (D : Def K mg "_law_twin_world" s_law_twin_world) (c_law_draw : CallOk P w K mg base 1 "_law_draw" P_law_draw spDraw) (c_law_drawn_world : CallOk P w K mg base 2 "_law_drawn_world" P_law_drawn_world spDrawn) (c_law_so : CallOk P w K mg base 12 "_law_so" P_law_so spLSo) (c_law_twins : CallOk P w K mg base 14 "_law_twins" P_law_twins spLTwins) :
    CallOk P w K mg base 15 "_law_twin_world" P_law_twin_world spTwinWorld := by
  refine callOk D sc_law_twin_world bd_law_twin_world (fun vs H Q E h => ?_) (fun f cdv A outer st H vs Q E hr h => ?_)
  · obtain ⟨G, p, c, sh, b, T, s, rfl, _⟩ := h
    rfl
  obtain ⟨G, p, c, sh, b, T, s, rfl, eG, hGp, hGc, hp, hS, hSay, ok, okT, hd, hsz, hcl, q0, q⟩ := h
  have hr1 : Room 1 _ := hr.mono (by decide)
  have hr2 : Room 2 _ := hr.mono (by decide)
  have hr12 : Room 12 _ := hr.mono (by decide)
  refine ⟨_, pss_cons (ps_for PassesOwn.never rfl (pi_range1 (by rfl) B.range (pa_cons (pe_int) pa_nil)) (pg_name (i := 3) sc_law_twin_world.nd rfl (.inl rfl)) (pss_cons (ps_set (i := 4) sc_law_twin_world.nd rfl (.inl rfl) (pe_cl c_law_drawn_world hr2 (by rfl) (pa_cons (pv 0) (pa_cons (pv 1) (pa_cons (pe_op op_add (pe_int) (pe_cl c_law_draw hr1 (by rfl) (pa_cons (pv 0) (pa_cons (pe_int) pa_nil)))) pa_nil))))) (pss_cons (ps_set (i := 5) sc_law_twin_world.nd rfl (.inl rfl) (pv 2)) (pss_cons (ps_if (pt_not (pt_val (pe_cl c_law_so hr12 (by rfl) (pa_cons (pv 4) (pa_cons (pv 2) pa_nil))))) (pss_one (ps_set (i := 5) sc_law_twin_world.nd rfl (.inl rfl) (pe_tup (pa_cons (pe_str) (pa_cons (pv 2) pa_nil))))) (pss_nil)) (pss_cons (ps_set (i := 6) sc_law_twin_world.nd rfl (.inl rfl) (pe_cl c_law_twins hr (by rfl) (pa_cons (pv 0) (pa_cons (pv 1) (pa_cons (pv 4) (pa_cons (pv 5) pa_nil)))))) (pss_one (ps_if (pt_cmp (pc_notN (pv 6))) (pss_one (ps_ret (pe_tup (pa_cons (pv 4) (pa_cons (pv 5) (pa_cons (pv 6) pa_nil)))))) (pss_nil)))))))) (pss_one (ps_ret (pe_non))), ?_⟩
  have hS0 : ShapeAt (noP p c H) sh T := hS.mono (noP_base eG hGp hGc)
  have hSay0 : SayAt (noP p c H) s b := hSay.mono (noP_base eG hGp hGc)
  walk_at "rd"
  refine ⟨by decide, by decide, ?_⟩
  refine for_range (lo := 0) (n := (6 : Int).toNat) (fun i σ H' => ∃ y3 y4 y5 y6, σ = [some (.ref p), some (.ref sh), some (.ref b), y3, y4, y5, y6] ∧ Same (noP p c H) H' ∧ PoolAt H' p c)
    ⟨_, _, _, _, rfl, hidL_same, hp⟩ (fun i σ H' hi hP => ?_) (fun σ H' hP => ?_)
  · obtain ⟨y3, y4, y5, y6, rfl, e1, hp1⟩ := hP
    walk_at "rd"
    refine ⟨p, c, 4, rfl, hp1, by decide, by decide, fun d H2 hd2 e2 hp2 => ?_⟩
    have E2 := noP_trans e1 e2
    walk_at "rd"
    refine ⟨noP p c H2, p, c, sh, T, 2 + d, ?_, hidL_same, noP_p, noP_c, hp2, hS0.mono (hidL_into E2), okT, by omega, fun a W H3 e3 hp3 hP3 hW => ?_⟩
    · show [V.ref p, V.ref sh, V.int (2 + (d : Int))] = _
      rw [show (2 : Int) + (d : Int) = ((2 + d : Nat) : Int) by omega]
    have E3 := noP_trans E2 e3
    have hSay3 : SayAt (noP p c H3) s b := hSay0.mono (hidL_into E3)
    walk_at "rd"
    refine ⟨noP p c H3, a, b, T, W, s, rfl, hidL_same, hP3, hSay3, ok, okT, by omega, by omega, by omega, fun H4 e4 => ?_⟩
    have hp4 := hp3.same e4
    have E4 := noP_then E3 e4
    have E34 : Same (noP p c H3) (noP p c H4) := hidL_into (noP_then hidL_same e4)
    walk_at "rd"
    refine iteS (fun hc => ?_) (fun hc => ?_)
    · have hev : ev (W.wd T) s 0 0 = false := by simpa using hc
      walk_at "rd"
      refine ⟨sz (by simp), fun nb hnb => ?_⟩
      have e5 : Same H4 (upd H4 nb (.tup [.str "not", .ref b])) := Same.new (Same.refl _) hnb
      have hp5 := hp4.same e5
      have E5 := noP_then E4 e5
      have E45 : Same (noP p c H4) (noP p c (upd H4 nb (.tup [.str "not", .ref b]))) := hidL_into (noP_then hidL_same e5)
      have hSay5 : SayAt (noP p c (upd H4 nb (.tup [.str "not", .ref b]))) (.not s) nb := ⟨b, noP_tup hp5 upd_same, hSay3.mono (E34.trans E45)⟩
      have hP5 := hP3.mono (E34.trans E45)
      revert hp5 E5 hSay5 hP5
      generalize (upd H4 nb (.tup [.str "not", .ref b])) = H5
      intro hp5 E5 hSay5 hP5
      have hd2 : (Say.not s).deep ≤ 10 := by show 1 + s.deep ≤ 10; omega
      have hz2 : (Say.not s).size ≤ 30 := by show 1 + s.size ≤ 30; omega
      have hev2 : ev (W.wd T) (.not s) 0 0 = true := by show (!ev (W.wd T) s 0 0) = true; rw [hev]; rfl
      have ok2 : (Say.not s).okT T.marks T.ties := ok
      have hcl2 : (Say.not s).closed := hcl
      clear hev hSay3
      revert hSay5 hd2 hz2 hev2 ok2 hcl2
      generalize Say.not s = s2
      intro hSay5 hd2 hz2 hev2 ok2 hcl2
      walk_at "rd"
      refine ⟨noP p c H5, p, c, sh, a, nb, T, W, s2, rfl, hidL_same, noP_p, noP_c, hp5, hS0.mono (hidL_into E5), hP5, hSay5, ok2, okT, hd2, by omega, by omega, fun H6 e6 hp6 => ?_, fun tw z H6 e6 hp6 htw hz => ?_⟩
      · walk_at "rd"
        exact ⟨_, _, _, _, rfl, noP_trans E5 e6, hp6⟩
      · walk_at "rd"
        refine ⟨sz (by simp), fun r hr => ?_⟩
        have e7 : Same H6 (upd H6 r (.tup [.ref a, .ref nb, .ref tw])) := Same.new (Same.refl _) hr
        have hp7 := hp6.same e7
        have E67 : Same (noP p c H6) (noP p c (upd H6 r (.tup [.ref a, .ref nb, .ref tw]))) := hidL_into (noP_then hidL_same e7)
        have E56 : Same (noP p c H5) (noP p c H6) := hidL_into e6
        exact q r a nb tw W s2 z _ (noP_then (noP_trans E5 e6) e7) hp7 (noP_tup hp7 upd_same) (hP5.mono (E56.trans E67)) (by omega) (by omega) (hSay5.mono (E56.trans E67)) ok2 hd2 hz2 hcl2 hev2 (E67 _ _ htw) hz
    · have hev : ev (W.wd T) s 0 0 = true := by simpa using hc
      have hP5 := hP3.mono E34
      have hSay5 := hSay3.mono E34
      have hp5 := hp4
      have E5 := E4
      have hd2 : s.deep ≤ 10 := by omega
      have hz2 : s.size ≤ 30 := by omega
      have hev2 := hev
      have ok2 := ok
      have hcl2 := hcl
      walk_at "rd"
      refine ⟨noP p c H4, p, c, sh, a, b, T, W, s, rfl, hidL_same, noP_p, noP_c, hp5, hS0.mono (hidL_into E5), hP5, hSay5, ok2, okT, hd2, by omega, by omega, fun H6 e6 hp6 => ?_, fun tw z H6 e6 hp6 htw hz => ?_⟩
      · walk_at "rd"
        exact ⟨_, _, _, _, rfl, noP_trans E5 e6, hp6⟩
      · walk_at "rd"
        refine ⟨sz (by simp), fun r hr => ?_⟩
        have e7 : Same H6 (upd H6 r (.tup [.ref a, .ref b, .ref tw])) := Same.new (Same.refl _) hr
        have hp7 := hp6.same e7
        have E67 : Same (noP p c H6) (noP p c (upd H6 r (.tup [.ref a, .ref b, .ref tw]))) := hidL_into (noP_then hidL_same e7)
        have E56 : Same (noP p c H4) (noP p c H6) := hidL_into e6
        exact q r a b tw W s z _ (noP_then (noP_trans E5 e6) e7) hp7 (noP_tup hp7 upd_same) (hP5.mono (E56.trans E67)) (by omega) (by omega) (hSay5.mono (E56.trans E67)) ok2 hd2 hz2 hcl2 hev2 (E67 _ _ htw) hz
  · obtain ⟨y3, y4, y5, y6, rfl, e1, hp1⟩ := hP
    walk_at "rd"
    exact q0 H' e1 hp1
end
end K48
namespace K48
open PySem PySem.Spec PyProof.Rows L2
local macro_rules | `(tactic| walk_at "rd") => `(tactic| repeat (first | refine ⟨_, rfl, ?_⟩ | refine ⟨_, _, rfl, rfl, ?_⟩ | refine ⟨rfl, ?_⟩ | refine iteTk (by decide +kernel) ?_ | refine iteFk (by decide +kernel) ?_))
local macro_rules | `(tactic| walk_at "rdr") => `(tactic| repeat (first | refine ⟨_, rfl, ?_⟩ | refine ⟨_, _, rfl, rfl, ?_⟩ | refine ⟨rfl, ?_⟩ | refine iteTk (by first | decide +kernel | rfl) ?_ | refine iteFk (by first | decide +kernel | rfl) ?_))
local macro_rules | `(tactic| walk_at "tyn") => `(tactic| first | exact .int _ | exact .bl _ | exact .str _ | exact .tup (by assumption) | exact .lst (by assumption) | exact .dK (by assumption))
local macro_rules | `(tactic| walk_at "isT") => `(tactic| refine ⟨_, _, _, _, true, rfl, .ty _, TyN.x (by walk_at "tyn"), kit_ty (by decide +kernel), ?_⟩)
local macro_rules | `(tactic| walk_at "isF") => `(tactic| refine ⟨_, _, _, _, false, rfl, .ty _, TyN.x (by walk_at "tyn"), kit_ty (by decide +kernel), ?_⟩)
local macro_rules | `(tactic| walk_at "nz") => `(tactic| first | refine nzG (by simp only [List.set_cons_succ, List.set_cons_zero]; rfl) ?_ | refine reS (by simp only [List.set_cons_succ, List.set_cons_zero]; rfl) ?_)
section
variable {P : Program} {w : World} {K : PySem.W.Frag} {mg : Str → Option Value} {base : Heap} {cT cW : Addr}
theorem sqL_mono {H H' : Hp} {a : Addr} {xs : List V} (e : Same H H') (h : SqL K H a xs) : SqL K H' a xs := by
  rcases h with (h | ⟨o, h⟩) | h
  · exact .inl (.inl (e _ _ h))
  · exact .inl (.inr ⟨o, e _ _ h⟩)
  · exact .inr h
def spPool (K : PySem.W.Frag) : Sp := fun vs H Q _ => ∃ (a : Addr) (ns : List Int), vs = [.ref a] ∧ SqL K H a (ns.map V.int) ∧ ns.length ≤ 63 ∧ ∀ p c H', Same H H' → H p = none → H c = none → PoolAt H' p c → Q (.ref p) H'
theorem ok_pool (B : Blt mg) (D : Def K mg "_law_pool" s_law_pool) : CallOk P w K mg base 1 "_law_pool" P_law_pool (spPool K) := by
  refine callOk D sc_law_pool bd_law_pool (fun vs H Q E h => ?_) (fun f cdv A outer st H vs Q E hr h => ?_)
  · obtain ⟨a, ns, rfl, _⟩ := h
    rfl
  obtain ⟨a, ns, rfl, hS, hl, q⟩ := h
  refine ⟨_, pss_cons (ps_set (i := 1) sc_law_pool.nd rfl (.inl rfl) (pe_op op_add (pe_op op_add (pe_op op_mod (pe_callTy call_int1 (by rfl) B.int bo_int (pa_cons (pe_callB (cr_sum rfl) (by rfl) B.sum bo_sum (pa_cons (pe_slice sl_list (pv 0) po_none (po_some (pe_int))) pa_nil)) pa_nil)) (pe_int)) (pe_callB call_len_seq (by rfl) B.len bo_len (pa_cons (pv 0) pa_nil))) (pe_int))) (pss_cons (ps_for PassesOwn.never rfl (pi_list (pe_slice sl_list (pv 0) po_none (po_some (pe_int)))) (pg_name (i := 2) sc_law_pool.nd rfl (.inl rfl)) (pss_one (ps_set (i := 1) sc_law_pool.nd rfl (.inl rfl) (pe_op op_mod (pe_callTy call_int1 (by rfl) B.int bo_int (pa_cons (pe_op op_add (pe_op op_add (pe_op op_mul (pv 1) (pe_int)) (pe_op op_mod (pe_callTy call_int1 (by rfl) B.int bo_int (pa_cons (pv 2) pa_nil)) (pe_int))) (pe_int)) pa_nil)) (pe_int))))) (pss_one (ps_ret (pe_lst (pa_cons (pv 1) (pa_cons (pe_int) (pa_cons (pe_lc (own := [("_law_cell", 2)]) (g := gName 2) (by rfl) sc_law_pool.nd (pi_list (pe_slice sl_list (pv 0) po_none (po_some (pe_int)))) (blkOk_by (own := [("_law_cell", 2)]) (N := N_law_pool) (by kernel_rfl)) (fun _ _ _ _ _ => pg_name (i := 2) sc_law_pool.nd rfl (Or.inl rfl)) (fun _ _ _ _ _ => pts_one (pt_cmpR op_ge (pe_callB call_abs (by rfl) B.abs bo_abs (pa_cons (pv 2) pa_nil)) (pe_op op_pow (pe_int) (pe_int)) (nomark _))) (fun _ _ _ _ _ => pe_callB call_abs (by rfl) B.abs bo_abs (pa_cons (pv 2) pa_nil))) pa_nil))))))), ?_⟩
  walk_at "rd"
  refine ⟨_, _, rfl, hS, fun p1 hp1 => ?_⟩
  rw [show some (1 : Int) = some ((1 : Nat) : Int) from rfl, cut_to, ← List.map_take]
  refine ⟨_, ns.take 1, rfl, SqL.of upd_same, ?_⟩
  have e1 : Same H (upd H p1 (.lst ((ns.take 1).map V.int))) := Same.new (Same.refl _) hp1
  revert e1
  generalize (upd H p1 (.lst ((ns.take 1).map V.int))) = H1
  intro e1
  refine .inl ⟨_, rfl, ?_⟩
  walk_at "rd"
  refine ⟨show (0 : Int) < 1000003 by decide, ?_⟩
  walk_at "rd"
  refine ⟨_, _, rfl, .inl (sqL_mono e1 hS), ?_⟩
  walk_at "rd"
  refine ⟨_, _, rfl, sqL_mono e1 hS, fun p2 hp2 => ?_⟩
  rw [show some (63 : Int) = some ((63 : Nat) : Int) from rfl, cut_to, List.take_of_length_le (l := ns.map V.int) (by rw [List.length_map]; exact hl)]
  have e2 : Same H (upd H1 p2 (.lst (ns.map V.int))) := Same.new e1 hp2
  have h2 : (upd H1 p2 (.lst (ns.map V.int))) p2 = some (.lst (ns.map V.int)) := upd_same
  revert e2 h2
  generalize (upd H1 p2 (.lst (ns.map V.int))) = H2
  intro e2 h2
  refine ⟨_, rfl, ⟨_, SqL.of h2⟩, for_list (K := K) (a := p2) (xs := ns.map V.int)
    (fun i σ H' => ∃ (sd : Int) (y : Option V), σ = [some (.ref a), some (.int sd), y] ∧ H' = H2)
    ⟨_, _, rfl, rfl⟩ (fun i σ H' _ hP => by obtain ⟨_, _, _, rfl⟩ := hP; exact SqL.of h2) (fun i x σ H' hx hP => ?_) (fun σ H' hP => ?_)⟩
  · obtain ⟨sd, y, rfl, rfl⟩ := hP
    obtain ⟨n, hn, rfl⟩ := map_at hx
    walk_at "rd"
    refine ⟨.inr ⟨by decide, by decide⟩, ?_⟩
    walk_at "rd"
    refine .inl ⟨_, rfl, ?_⟩
    walk_at "rd"
    refine ⟨show (0 : Int) < 2147483629 by decide, ?_⟩
    walk_at "rd"
    refine .inl ⟨_, rfl, ?_⟩
    walk_at "rd"
    refine ⟨show (0 : Int) < 2147483647 by decide, ?_⟩
    walk_at "rd"
    exact ⟨_, _, rfl, rfl⟩
  · obtain ⟨sd, y, rfl, rfl⟩ := hP
    walk_at "rd"
    refine ⟨_, _, rfl, sqL_mono e2 hS, fun p3 hp3 => ?_⟩
    rw [show some (63 : Int) = some ((63 : Nat) : Int) from rfl, cut_to, List.take_of_length_le (l := ns.map V.int) (by rw [List.length_map]; exact hl)]
    have e3 : Same H (upd H' p3 (.lst (ns.map V.int))) := Same.new e2 hp3
    have h3 : (upd H' p3 (.lst (ns.map V.int))) p3 = some (.lst (ns.map V.int)) := upd_same
    revert e3 h3
    generalize (upd H' p3 (.lst (ns.map V.int))) = H3
    intro e3 h3
    refine ⟨_, rfl, ⟨_, SqL.of h3⟩, fun D hD => ?_⟩
    refine lc_list (K := K) (xs := ns.map V.int) (fun i H4 => Same H3 H4 ∧ ∃ cs : List Int, H4 D = some (.lst (cs.map V.int)) ∧ cs.length ≤ i) ⟨Same.new (Same.refl _) hD, [], upd_same, Nat.le_refl _⟩ (fun i H4 _ hP => SqL.of (hP.1 _ _ h3)) (fun i x H4 hx hP => ?_) (fun H4 hP => ?_)
    · obtain ⟨e4, cs, hL, hcl⟩ := hP
      obtain ⟨n, hn, rfl⟩ := map_at hx
      have hil : i < (ns.map V.int).length := (List.getElem?_eq_some_iff.mp hx).1
      refine ⟨rfl, ?_⟩
      walk_at "rd"
      refine ⟨⟨by decide, by decide, by decide⟩, ?_⟩
      generalize (10 : Int) ^ (18 : Int).toNat = big
      refine ⟨_, _, rfl, rfl, ?_⟩
      refine ⟨_, rfl, ?_⟩
      refine iteS (fun hc => ?_) (fun hc => ?_)
      · walk_at "rd"
        refine ⟨_, hL, szl (by rw [List.length_map] at hil; rw [List.length_map]; omega), Same.mut e4 hD, cs ++ [_], by rw [upd_same, List.map_append]; rfl, by rw [List.length_append]; exact Nat.succ_le_succ hcl⟩
      · exact ⟨e4, cs, hL, Nat.le_succ_of_le hcl⟩
    · obtain ⟨e4, cs, hL, hcl⟩ := hP
      walk_at "rd"
      refine ⟨sz (by simp), fun p hp => ?_⟩
      have hDp : D ≠ p := ne_of_none hL hp
      refine q p D _ (Same.new (e3.trans e4) hp) ((e3.trans e4).free hp) (e3.free hD) ⟨sd, 0, cs, upd_same, by rw [upd_ne hDp]; exact hL⟩
end
end K48
namespace K48
open PySem PySem.Spec PyProof.Rows L2
local macro_rules | `(tactic| walk_at "rd") => `(tactic| repeat (first | refine ⟨_, rfl, ?_⟩ | refine ⟨_, _, rfl, rfl, ?_⟩ | refine ⟨rfl, ?_⟩ | refine iteTk (by decide +kernel) ?_ | refine iteFk (by decide +kernel) ?_))
local macro_rules | `(tactic| walk_at "rdr") => `(tactic| repeat (first | refine ⟨_, rfl, ?_⟩ | refine ⟨_, _, rfl, rfl, ?_⟩ | refine ⟨rfl, ?_⟩ | refine iteTk (by first | decide +kernel | rfl) ?_ | refine iteFk (by first | decide +kernel | rfl) ?_))
local macro_rules | `(tactic| walk_at "tyn") => `(tactic| first | exact .int _ | exact .bl _ | exact .str _ | exact .tup (by assumption) | exact .lst (by assumption) | exact .dK (by assumption))
local macro_rules | `(tactic| walk_at "isT") => `(tactic| refine ⟨_, _, _, _, true, rfl, .ty _, TyN.x (by walk_at "tyn"), kit_ty (by decide +kernel), ?_⟩)
local macro_rules | `(tactic| walk_at "isF") => `(tactic| refine ⟨_, _, _, _, false, rfl, .ty _, TyN.x (by walk_at "tyn"), kit_ty (by decide +kernel), ?_⟩)
local macro_rules | `(tactic| walk_at "nz") => `(tactic| first | refine nzG (by simp only [List.set_cons_succ, List.set_cons_zero]; rfl) ?_ | refine reS (by simp only [List.set_cons_succ, List.set_cons_zero]; rfl) ?_)
/-! ## What stays as it was -/
theorem ev_mixed {W : PW} {T : Tng} {W2 : Wd} (h : Mixed W T W2) : ∀ (s : Say), s.okT T.marks T.ties → ∀ a b, ev W2 s a b = ev (W.wd T) s a b
  | .tru, _, _, _ => rfl
  | .mark m v, ok, a, b => decide_eq_decide.mpr (h.ms m ok).mem_iff
  | .tie t v u, ok, a, b => decide_eq_decide.mpr (h.ts t ok).mem_iff
  | .same v u, _, _, _ => rfl
  | .not s, ok, a, b => by simp only [ev]; rw [ev_mixed h s ok]
  | .and s t, ok, a, b => by simp only [ev]; rw [ev_mixed h s ok.1, ev_mixed h t ok.2]
  | .or s t, ok, a, b => by simp only [ev]; rw [ev_mixed h s ok.1, ev_mixed h t ok.2]
  | .each .x s, ok, a, b => by
    simp only [ev]
    rw [h.hn]
    exact congrArg (List.range W.n).all (funext fun i => ev_mixed h s ok i b)
  | .each .y s, ok, a, b => by
    simp only [ev]
    rw [h.hn]
    exact congrArg (List.range W.n).all (funext fun i => ev_mixed h s ok a i)
  | .som .x s, ok, a, b => by
    simp only [ev]
    rw [h.hn]
    exact congrArg (List.range W.n).any (funext fun i => ev_mixed h s ok i b)
  | .som .y s, ok, a, b => by
    simp only [ev]
    rw [h.hn]
    exact congrArg (List.range W.n).any (funext fun i => ev_mixed h s ok a i)
theorem like_mixed {W : PW} {T : Tng} {W2 : Wd} {s : Say} {i j : Nat} (h : Mixed W T W2) (ok : s.okT T.marks T.ties) (L : Like (W.wd T) s i j) : Like W2 s i j := by
  refine ⟨fun m hm => ?_, fun t ht => ?_, fun b hb hf => ?_⟩
  · rw [h.hT] at hm
    have := L.m m hm
    rw [decide_eq_decide.mpr (h.ms m hm).mem_iff, decide_eq_decide.mpr (h.ms m hm).mem_iff]
    exact this
  · rw [h.hT] at ht
    have := L.t t ht
    rw [decide_eq_decide.mpr (h.ts t ht).mem_iff, decide_eq_decide.mpr (h.ts t ht).mem_iff]
    exact this
  · have okb := (bs_in (ms := T.marks) (ts := T.ties) hb).2.1 ok
    rw [ev_mixed h b okb, ev_mixed h b okb]
    exact L.b b hb hf
section
variable {W : Wd} {s : Say} {one other : Nat}
theorem grow_ok {k : Nat} (c : CopyOk W one other) (hk : W.n + k ≤ 15) : CopyOk (growW k W one other) one other := ⟨growW_ok c.ok k hk, by rw [growW_n]; have := c.h1; omega, by rw [growW_n]; have := c.h2; omega, c.ne⟩
theorem grow_mem_m {m : Str} {i : Nat} (hi : i < W.n) : ∀ k, i ∈ (growW k W one other).ms m ↔ i ∈ W.ms m
  | 0 => Iff.rfl
  | k + 1 => by
    have ih := grow_mem_m (m := m) hi k
    have hn : ¬ i = (growW k W one other).n := by rw [growW_n]; omega
    show i ∈ (if one ∈ (growW k W one other).ms m then (growW k W one other).ms m ++ [(growW k W one other).n] else (growW k W one other).ms m) ↔ _
    rw [← ih]
    split
    · simp [hn]
    · exact Iff.rfl
theorem grow_mem_t (c : CopyOk W one other) (ok : s.okT W.T.marks W.T.ties) (L : Like W s one other) {t : Str} (ht : t ∈ W.T.ties) {i j : Nat} (hi : i < W.n) (hj : j < W.n) : ∀ k, W.n + k ≤ 15 → ((i, j) ∈ (growW k W one other).ts t ↔ (i, j) ∈ W.ts t)
  | 0, _ => Iff.rfl
  | k + 1, hk => by
    have ih := grow_mem_t c ok L ht hi hj k (by omega)
    have h := mem_tie (grow_ok c (k := k) (by omega)) (t := t) (by rw [growW_T]; exact ht) (a := i) (b := j) (by rw [growW_n]; omega) (by rw [growW_n]; omega)
    have hx : rx one other (growW k W one other).n i j = i := by
      unfold rx
      rw [growW_n, if_neg (by omega), if_neg (by omega)]
    have hy : ry one other (growW k W one other).n i j = j := by
      unfold ry
      rw [growW_n, if_neg (by omega), if_neg (by omega)]
    rw [hx, hy] at h
    rw [← ih]
    exact decide_eq_decide.mp h
end
theorem perm_eq {α : Type} {r : α → α → Prop} (anti : ∀ a b, r a b → r b a → a = b) : ∀ {l1 l2 : List α}, l1.Perm l2 → l1.Pairwise r → l2.Pairwise r → l1 = l2
  | [], l2, h, _, _ => h.nil_eq
  | a :: as, [], h, _, _ => by
    have := h.length_eq
    cases this
  | a :: as, b :: bs, h, p1, p2 => by
    have e : a = b := by
      have ha : a ∈ b :: bs := h.mem_iff.mp (List.mem_cons_self ..)
      have hb : b ∈ a :: as := h.mem_iff.mpr (List.mem_cons_self ..)
      rcases List.mem_cons.mp ha with e | ha
      · exact e
      rcases List.mem_cons.mp hb with e | hb
      · exact e.symm
      exact anti _ _ ((List.pairwise_cons.mp p1).1 _ hb) ((List.pairwise_cons.mp p2).1 _ ha)
    subst e
    rw [perm_eq anti (List.Perm.cons_inv h) (List.pairwise_cons.mp p1).2 (List.pairwise_cons.mp p2).2]
theorem sorted_back {is1 is2 : List Int} {xs1 xs2 : List Nat} {n : Nat} (h1 : SortedI is1 xs1) (h2 : SortedI is2 xs2) (nd1 : xs1.Nodup) (nd2 : xs2.Nodup) (mem : ∀ i, i < n → (i ∈ xs1 ↔ i ∈ xs2)) (lt2 : ∀ i ∈ xs2, i < n) : is1.filter (fun z => decide (z < (n : Int))) = is2 := by
  refine perm_eq (r := fun a b => a ≤ b) (fun a b h k => Int.le_antisymm h k) ?_ (h1.2.filter _) h2.2
  refine (h1.1.filter _).trans (List.Perm.trans ?_ h2.1.symm)
  rw [List.filter_map]
  refine List.Perm.map _ ?_
  refine (List.perm_ext_iff_of_nodup (nd1.sublist List.filter_sublist) nd2).mpr fun i => ?_
  rw [List.mem_filter]
  constructor
  · rintro ⟨h, k⟩
    have k : decide ((i : Int) < (n : Int)) = true := k
    exact (mem i (by have := of_decide_eq_true k; omega)).mp h
  · intro h
    have hl := lt2 i h
    refine ⟨(mem i hl).mpr h, ?_⟩
    show decide ((i : Int) < (n : Int)) = true
    exact decide_eq_true (by omega)
theorem sorted_backP {rs1 rs2 : List (Int × Int)} {ps1 ps2 : List (Nat × Nat)} {n : Nat} (h1 : SortedP rs1 ps1) (h2 : SortedP rs2 ps2) (nd1 : ps1.Nodup) (nd2 : ps2.Nodup) (mem : ∀ i j, i < n → j < n → ((i, j) ∈ ps1 ↔ (i, j) ∈ ps2)) (lt2 : ∀ p ∈ ps2, p.1 < n ∧ p.2 < n) : rs1.filter (fun z => decide (z.1 < (n : Int)) && decide (z.2 < (n : Int))) = rs2 := by
  refine perm_eq (r := fun a b => SrtO.lexB b a = false) (fun a b h k => ?_) ?_ (h1.2.filter _) h2.2
  · have h := SrtO.lexB_no.mp h
    have k := SrtO.lexB_no.mp k
    exact Prod.ext (by omega) (by omega)
  refine (h1.1.filter _).trans (List.Perm.trans ?_ h2.1.symm)
  rw [List.filter_map]
  refine List.Perm.map _ ?_
  refine (List.perm_ext_iff_of_nodup (nd1.sublist List.filter_sublist) nd2).mpr fun q => ?_
  obtain ⟨i, j⟩ := q
  rw [List.mem_filter]
  constructor
  · rintro ⟨h, k⟩
    have k : (decide ((i : Int) < (n : Int)) && decide ((j : Int) < (n : Int))) = true := k
    obtain ⟨k1, k2⟩ := Bool.and_eq_true_iff.mp k
    exact (mem i j (by have := of_decide_eq_true k1; omega) (by have := of_decide_eq_true k2; omega)).mp h
  · intro h
    obtain ⟨hl1, hl2⟩ := lt2 (i, j) h
    have hl1 : i < n := hl1
    have hl2 : j < n := hl2
    refine ⟨(mem i j hl1 hl2).mpr h, ?_⟩
    show (decide ((i : Int) < (n : Int)) && decide ((j : Int) < (n : Int))) = true
    rw [decide_eq_true (by omega), decide_eq_true (by omega)]
    rfl
theorem getD_range {α : Type} (l : List α) (d : α) : (List.range l.length).map (fun k => l.getD k d) = l := by
  rw [getD_map l d (fun x => x), List.map_id']
theorem getD_filter {α β : Type} (l : List α) (d : α) (p : α → Bool) (F : α → β) : ((List.range l.length).filter fun k => p (l.getD k d)).map (fun k => F (l.getD k d)) = (l.filter p).map F := by
  have h : (List.map F (List.filter p ((List.range l.length).map fun k => l.getD k d))) = (l.filter p).map F := by rw [getD_range]
  rw [List.filter_map, List.map_map] at h
  exact h
theorem paired_maps {α β : Type} {F : α → β → Prop} {f : Nat → α} {g : Nat → β} : ∀ {l : List Nat}, (∀ k ∈ l, F (f k) (g k)) → Paired F (l.map f) (l.map g)
  | [], _ => .nil
  | k :: l, h => .cons (h k (List.mem_cons_self ..)) (paired_maps fun j hj => h j (List.mem_cons_of_mem _ hj))
/-! data -/
theorem lay_ints : ∀ ns : List Int, PyData.canLayAll0 (ns.map PyData.int) = true
  | [] => rfl
  | _ :: r => by simp [PyData.canLayAll0, PyData.canLay0, lay_ints r]
theorem depth_ints : ∀ ns : List Int, PyData.depthAll (ns.map PyData.int) = 0
  | [] => rfl
  | _ :: r => by simp [PyData.depthAll, PyData.depth, depth_ints r]
theorem shaped_tints (ns : List Int) : SeqAt.shaped (.tuple (ns.map PyData.int)) = true := by simp [SeqAt.shaped, PyData.canLay0, PyData.depth, lay_ints, depth_ints]
theorem dp_ints {K : PySem.W.Frag} {H : Hp} : ∀ ns : List Int, DpAll K H (ns.map V.int) (ns.map PyData.int)
  | [] => .nil
  | n :: r => .cons (.int n) (dp_ints r)
def prT (r : Int × Int) : PyData := .tuple [.int r.1, .int r.2]
theorem lay_prs : ∀ rs : List (Int × Int), PyData.canLayAll0 (rs.map prT) = true
  | [] => rfl
  | _ :: r => by simp [PyData.canLayAll0, PyData.canLay0, prT, lay_prs r]
theorem depth_prs : ∀ rs : List (Int × Int), PyData.depthAll (rs.map prT) ≤ 1
  | [] => Nat.zero_le _
  | _ :: r => by
    have := depth_prs r
    simp only [List.map_cons, PyData.depthAll, PyData.depth, prT]
    omega
theorem shaped_tprs (rs : List (Int × Int)) : SeqAt.shaped (.tuple (rs.map prT)) = true := by
  have h1 := depth_prs rs
  have h2 : PyData.depth (.tuple (rs.map prT)) ≤ 64 := by
    simp only [PyData.depth]
    omega
  show (PyData.canLay0 (.tuple (rs.map prT)) && decide (PyData.depth (.tuple (rs.map prT)) ≤ 64)) = true
  rw [decide_eq_true h2, Bool.and_true]
  simp only [PyData.canLay0]
  exact lay_prs rs
theorem dp_prs {K : PySem.W.Frag} {H : Hp} : ∀ {ys : List V} {rs : List (Int × Int)}, Paired (PrAt H) ys rs → DpAll K H ys (rs.map prT)
  | [], [], .nil => .nil
  | _ :: _, r :: _, .cons ⟨t, e, ht⟩ h => by
    subst e
    exact .cons (.tup (SqT.of ht) (.cons (.int _) (.cons (.int _) .nil))) (dp_prs h)
theorem eqv_self {d : PyData} (h : SeqAt.shaped d = true) : PyData.eqv d d = true := SeqAt.eqv_refl d (SeqAt.canLay_of_shaped h)
end K48
namespace K48
open PySem PySem.Spec PyProof.Rows L2
local macro_rules | `(tactic| walk_at "rd") => `(tactic| repeat (first | refine ⟨_, rfl, ?_⟩ | refine ⟨_, _, rfl, rfl, ?_⟩ | refine ⟨rfl, ?_⟩ | refine iteTk (by decide +kernel) ?_ | refine iteFk (by decide +kernel) ?_))
local macro_rules | `(tactic| walk_at "rdr") => `(tactic| repeat (first | refine ⟨_, rfl, ?_⟩ | refine ⟨_, _, rfl, rfl, ?_⟩ | refine ⟨rfl, ?_⟩ | refine iteTk (by first | decide +kernel | rfl) ?_ | refine iteFk (by first | decide +kernel | rfl) ?_))
local macro_rules | `(tactic| walk_at "tyn") => `(tactic| first | exact .int _ | exact .bl _ | exact .str _ | exact .tup (by assumption) | exact .lst (by assumption) | exact .dK (by assumption))
local macro_rules | `(tactic| walk_at "isT") => `(tactic| refine ⟨_, _, _, _, true, rfl, .ty _, TyN.x (by walk_at "tyn"), kit_ty (by decide +kernel), ?_⟩)
local macro_rules | `(tactic| walk_at "isF") => `(tactic| refine ⟨_, _, _, _, false, rfl, .ty _, TyN.x (by walk_at "tyn"), kit_ty (by decide +kernel), ?_⟩)
local macro_rules | `(tactic| walk_at "nz") => `(tactic| first | refine nzG (by simp only [List.set_cons_succ, List.set_cons_zero]; rfl) ?_ | refine reS (by simp only [List.set_cons_succ, List.set_cons_zero]; rfl) ?_)
theorem clean_of {T : Tng} (h : T.Ok) : Clean T := by
  have hk : ("x" : Str) ∈ keptL ∧ ("y" : Str) ∈ keptL := by decide +kernel
  exact ⟨fun z hz => ⟨fun e => (h.gm z hz).2 (e ▸ hk.1), fun e => (h.gm z hz).2 (e ▸ hk.2)⟩, fun z hz => ⟨fun e => (h.gt z hz).2.1 (e ▸ hk.1), fun e => (h.gt z hz).2.1 (e ▸ hk.2)⟩⟩
theorem fnOk_of {P : Program} {w : World} {K : PySem.W.Frag} {mg : Str → Option Value} {base : Heap} {k : Nat} {x : Str} {st : Stmt} {N ps : List Str} {sp : Sp} {f : Addr} {fd : FuncData} (F : FunD K x x (defArgs st) (defBody st) (defScope st) [] [] f fd) (S : FnScope N ps (defScope st)) (len : ∀ vs H Q E, sp vs H Q E → vs.length = ps.length)
    (hb : BodyOk P w K mg base N x st k sp) : FnOk P w K mg base CX0 (k + 1) f fd ps sp := F.ok S len fun cdv A outer s H vs Q E hr h => by
  obtain ⟨t, h1, h2⟩ := hb f cdv A outer s H vs Q E hr h
  exact ⟨t, h1.nox, h2⟩
def ks6 : List (Nat × Nat) := [(1, 0), (2, 0), (0, 1), (1, 1), (0, 1), (0, 2)]
section
variable {P : Program} {w : World} {K : PySem.W.Frag} {mg : Str → Option Value} {base : Heap} {cT cW : Addr}
def spLaw (K : PySem.W.Frag) : Sp := fun vs H Q _ => ∃ (a : Addr) (ns : List Int), vs = [.ref a] ∧ SqL K H a (ns.map V.int) ∧ ns.length ≤ 63 ∧ ∀ H', Q (.bl true) H'
theorem ok_law (B : Blt mg) (TW : ClW K cW) (NW : NeF K cW) {f0 : Addr} {fd0 : FuncData} (F0 : FunD K "law" "law" (defArgs s_law) (defBody s_law) (defScope s_law) [] [] f0 fd0) (c_law_pool : CallOk P w K mg base 1 "_law_pool" P_law_pool (spPool K)) (c_law_draw : CallOk P w K mg base 1 "_law_draw" P_law_draw spDraw) (c_law_shape : CallOk P w K mg base 3 "_law_shape" P_law_shape spShape)
    (c_law_said : CallOk P w K mg base 12 "_law_said" P_law_said spSaid) (c_law_twin_world : CallOk P w K mg base 15 "_law_twin_world" P_law_twin_world spTwinWorld) (c_law_world : CallOk P w K mg base 9 "_law_world" P_law_world (spLWorld cT cW))
    (c_grown : CallOk P w K mg base 85 "grown" P_grown (spGrown cT cW)) (c_holds : CallOk P w K mg base 85 "holds" P_holds (spHolds cT cW)) (c_weq : MethOk P w K mg base cW 5 "__eq__" P_World__eq (spEq (RW cT cW)))
    (c_wmarks : PropOk P w K mg base cW 3 "marks" (spWmarks cT cW)) (c_wties : PropOk P w K mg base cW 3 "ties" (spWties cT cW)) : FnOk P w K mg base CX0 86 f0 fd0 P_law (spLaw K) := by
  refine fnOk_of F0 sc_law (fun vs H Q E h => ?_) (fun f cdv A outer st H vs Q E hr h => ?_)
  · obtain ⟨a, ns, rfl, _⟩ := h
    rfl
  obtain ⟨a, ns, rfl, hS, hl, q⟩ := h
  have hu := hu_of hr
  have hr1 : Room 1 _ := hr.mono (by decide)
  have hr3 : Room 3 _ := hr.mono (by decide)
  have hr4 : Room 4 _ := hr.mono (by decide)
  have hr6 : Room 6 _ := hr.mono (by decide)
  have hr9 : Room 9 _ := hr.mono (by decide)
  have hr12 : Room 12 _ := hr.mono (by decide)
  have hr15 : Room 15 _ := hr.mono (by decide)
  refine ⟨_, pss_cons (ps_set (i := 1) sc_law.nd rfl (.inl rfl) (pe_cl c_law_pool hr1 (by rfl) (pa_cons (pv 0) pa_nil))) (pss_cons (ps_set (i := 2) sc_law.nd rfl (.inl rfl) (pe_cl c_law_shape hr3 (by rfl) (pa_cons (pv 1) (pa_cons (pe_lst (pa_cons (pe_tup (pa_cons (pe_int) (pa_cons (pe_int) pa_nil))) (pa_cons (pe_tup (pa_cons (pe_int) (pa_cons (pe_int) pa_nil))) (pa_cons (pe_tup (pa_cons (pe_int) (pa_cons (pe_int) pa_nil))) (pa_cons (pe_tup (pa_cons (pe_int) (pa_cons (pe_int) pa_nil))) (pa_cons (pe_tup (pa_cons (pe_int) (pa_cons (pe_int) pa_nil))) (pa_cons (pe_tup (pa_cons (pe_int) (pa_cons (pe_int) pa_nil))) pa_nil))))))) pa_nil)))) (pss_cons (ps_set (i := 3) sc_law.nd rfl (.inl rfl) (pe_cl c_law_twin_world hr15 (by rfl) (pa_cons (pv 1) (pa_cons (pv 2) (pa_cons (pe_cl c_law_said hr12 (by rfl) (pa_cons (pv 1) (pa_cons (pv 2) (pa_cons (pe_int) pa_nil)))) pa_nil))))) (pss_cons (ps_if (pt_cmp (pc_isN (pv 3))) (pss_one (ps_ret (pe_bl))) (pss_nil)) (pss_cons (ps_asg (pv 3) (pg_tup rfl (pgs_cons (pg_name (i := 4) sc_law.nd rfl (.inr rfl)) (pgs_cons (pg_name (i := 5) sc_law.nd rfl (.inl rfl)) (pgs_cons (pg_name (i := 6) sc_law.nd rfl (.inl rfl)) pgs_nil))))) (pss_cons (ps_asg (pv 6) (pg_tup rfl (pgs_cons (pg_name (i := 7) sc_law.nd rfl (.inl rfl)) (pgs_cons (pg_name (i := 8) sc_law.nd rfl (.inl rfl)) pgs_nil)))) (pss_cons (ps_set (i := 9) sc_law.nd rfl (.inl rfl) (pe_cl c_law_world hr9 (by rfl) (pa_cons (pv 1) (pa_cons (pv 2) (pa_cons (pv 4) pa_nil))))) (pss_cons (ps_set (i := 10) sc_law.nd rfl (.inl rfl) (pe_op op_add (pe_op op_add (pe_ix ix_tup (pv 4) (pe_int) (fun _ _ => rfl)) (pe_int)) (pe_cl c_law_draw hr1 (by rfl) (pa_cons (pv 1) (pa_cons (pe_int) pa_nil))))) (pss_cons (ps_set (i := 11) sc_law.nd rfl (.inl rfl) (pe_op op_add (pe_op op_add (pv 10) (pe_int)) (pe_cl c_law_draw hr1 (by rfl) (pa_cons (pv 1) (pa_cons (pe_int) pa_nil))))) (pss_cons (ps_set (i := 12) sc_law.nd rfl (.inl rfl) (pe_cl c_grown hr (by rfl) (pa_cons (pv 9) (pa_cons (pv 5) (pa_cons (pv 7) (pa_cons (pv 8) (pa_cons (pv 10) pa_nil))))))) (pss_cons (ps_set (i := 13) sc_law.nd rfl (.inl rfl) (pe_cl c_grown hr (by rfl) (pa_cons (pv 9) (pa_cons (pv 5) (pa_cons (pv 7) (pa_cons (pv 8) (pa_cons (pv 11) pa_nil))))))) (pss_cons (ps_if (PW.pt (pw_or (pt_cmpR (op_neM c_weq NW hr6) (pe_cl c_grown hr (by rfl) (pa_cons (pv 12) (pa_cons (pv 5) (pa_cons (pv 7) (pa_cons (pv 8) (pa_cons (pv 11) pa_nil)))))) (pv 13) (nomark _)) (pw_or (pt_cmpR op_ne (pe_fld (pv 13) rfl) (pv 11) (nomark _)) (pw_or1 (pt_cmpR op_ne (pe_fld (pv 12) rfl) (pv 10) (nomark _)))))) (pss_one (ps_ret (pe_bl))) (pss_nil)) (pss_cons (ps_for PassesOwn.never rfl (pi_tup (pe_ix ix_tup (pv 2) (pe_int) (fun _ _ => rfl))) (pg_name (i := 14) sc_law.nd rfl (.inl rfl)) (pss_one (ps_if (pt_cmpR (op_neD hr.units) (pe_callTy call_tuple_of (by rfl) B.tuple bo_tuple (pa_cons (pe_lc (own := [("_law_thing", 15)]) (g := gName 15) (by rfl) sc_law.nd (pi_tup (pe_dget hu (pe_pr c_wmarks TW.cl hr4 (pv 13)) (pv 14) (fun _ _ => rfl))) (blkOk_by (own := [("_law_thing", 15)]) (N := N_law) (by kernel_rfl)) (fun _ _ _ _ _ => pg_name (i := 15) sc_law.nd rfl (Or.inl rfl)) (fun _ _ _ _ _ => pts_one (pt_cmpR op_lt (pv 15) (pe_ix (ix_tupK (K := K) rfl) (pv 4) (pe_int) (fun _ _ => rfl)) (nomark _))) (fun _ _ _ _ _ => pv 15)) pa_nil)) (pe_dget hu (pe_pr c_wmarks TW.cl hr4 (pv 9)) (pv 14) (fun _ _ => rfl)) (nomark _)) (pss_one (ps_ret (pe_bl))) (pss_nil)))) (pss_cons (ps_for PassesOwn.never rfl (pi_tup (pe_ix ix_tup (pv 2) (pe_int) (fun _ _ => rfl))) (pg_name (i := 14) sc_law.nd rfl (.inl rfl)) (pss_one (ps_if (pt_cmpR (op_neD hr.units) (pe_callTy call_tuple_of (by rfl) B.tuple bo_tuple (pa_cons (pe_lc (own := [("_law_pair", 16)]) (g := gName 16) (by rfl) sc_law.nd (pi_tup (pe_dget hu (pe_pr c_wties TW.cl hr4 (pv 13)) (pv 14) (fun _ _ => rfl))) (blkOk_by (own := [("_law_pair", 16)]) (N := N_law) (by kernel_rfl)) (fun _ _ _ _ _ => pg_name (i := 16) sc_law.nd rfl (Or.inl rfl)) (fun _ _ _ _ _ => pts_one (pt_cmpR op_lt (pe_callB (cr_maxK (K := K) rfl rfl) (by rfl) B.max bo_max (pa_cons (pe_callTy (call_list_ofK (K := K) rfl) (by rfl) B.list bo_list (pa_cons (pv 16) pa_nil)) pa_nil)) (pe_ix (ix_tupK (K := K) rfl) (pv 4) (pe_int) (fun _ _ => rfl)) (nomark _))) (fun _ _ _ _ _ => pv 16)) pa_nil)) (pe_dget hu (pe_pr c_wties TW.cl hr4 (pv 9)) (pv 14) (fun _ _ => rfl)) (nomark _)) (pss_one (ps_ret (pe_bl))) (pss_nil)))) (pss_cons (ps_set (i := 17) sc_law.nd rfl (.inl rfl) (pe_cl c_grown hr (by rfl) (pa_cons (pv 9) (pa_cons (pv 5) (pa_cons (pv 8) (pa_cons (pv 7) (pa_cons (pv 11) pa_nil))))))) (pss_cons (ps_for PassesOwn.never rfl (pi_list (pe_lst (pa_cons (pv 12) (pa_cons (pv 13) (pa_cons (pv 17) pa_nil))))) (pg_name (i := 18) sc_law.nd rfl (.inl rfl)) (pss_one (ps_if (PW.pt (pw_or (pt_cmpR op_notBl (pe_cl c_holds hr (by rfl) (pa_cons (pv 18) (pa_cons (pe_tup (pa_cons (pe_str) (pa_cons (pe_tup (pa_cons (pe_str) (pa_cons (pv 5) pa_nil))) pa_nil))) pa_nil))) (pe_bl) (nomark _)) (pw_or1 (pt_cmpR op_notBl (pe_cl c_holds hr (by rfl) (pa_cons (pv 18) (pa_cons (pe_tup (pa_cons (pe_str) (pa_cons (pv 5) (pa_cons (pe_tup (pa_cons (pe_str) (pa_cons (pv 5) (pa_cons (pv 5) pa_nil)))) pa_nil)))) pa_nil))) (pe_bl) (nomark _))))) (pss_one (ps_ret (pe_bl))) (pss_nil)))) (pss_one (ps_ret (pe_bl)))))))))))))))))), ?_⟩
  refine reS (σ' := [some (.ref a), none, none, none, none, none, none, none, none, none, none, none, none, none, none, none, none, none, none]) rfl ?_
  walk_at "rd"
  refine ⟨a, ns, rfl, hS, hl, fun p c H1 e1 hpN hcN hp1 => ?_⟩
  walk_at "nz"
  walk_at "rd"
  refine ⟨sz (by simp), fun t1 ht1 => ?_⟩
  have ej1 : Same H1 (upd H1 t1 (.tup [.int 1, .int 0])) := Same.new (Same.refl _) ht1
  have ht1 : (upd H1 t1 (.tup [.int 1, .int 0])) t1 = some (.tup [.int 1, .int 0]) := upd_same
  revert ej1 ht1
  generalize (upd H1 t1 (.tup [.int 1, .int 0])) = J1
  intro ej1 ht1
  have hpj1 := hp1.same ej1
  refine ⟨sz (by simp), fun t2 ht2 => ?_⟩
  have ej2 : Same J1 (upd J1 t2 (.tup [.int 2, .int 0])) := Same.new (Same.refl _) ht2
  have ht2 : (upd J1 t2 (.tup [.int 2, .int 0])) t2 = some (.tup [.int 2, .int 0]) := upd_same
  revert ej2 ht2
  generalize (upd J1 t2 (.tup [.int 2, .int 0])) = J2
  intro ej2 ht2
  have ht1 := ej2 _ _ ht1
  have hpj2 := hpj1.same ej2
  refine ⟨sz (by simp), fun t3 ht3 => ?_⟩
  have ej3 : Same J2 (upd J2 t3 (.tup [.int 0, .int 1])) := Same.new (Same.refl _) ht3
  have ht3 : (upd J2 t3 (.tup [.int 0, .int 1])) t3 = some (.tup [.int 0, .int 1]) := upd_same
  revert ej3 ht3
  generalize (upd J2 t3 (.tup [.int 0, .int 1])) = J3
  intro ej3 ht3
  have ht1 := ej3 _ _ ht1
  have ht2 := ej3 _ _ ht2
  have hpj3 := hpj2.same ej3
  refine ⟨sz (by simp), fun t4 ht4 => ?_⟩
  have ej4 : Same J3 (upd J3 t4 (.tup [.int 1, .int 1])) := Same.new (Same.refl _) ht4
  have ht4 : (upd J3 t4 (.tup [.int 1, .int 1])) t4 = some (.tup [.int 1, .int 1]) := upd_same
  revert ej4 ht4
  generalize (upd J3 t4 (.tup [.int 1, .int 1])) = J4
  intro ej4 ht4
  have ht1 := ej4 _ _ ht1
  have ht2 := ej4 _ _ ht2
  have ht3 := ej4 _ _ ht3
  have hpj4 := hpj3.same ej4
  refine ⟨sz (by simp), fun t5 ht5 => ?_⟩
  have ej5 : Same J4 (upd J4 t5 (.tup [.int 0, .int 1])) := Same.new (Same.refl _) ht5
  have ht5 : (upd J4 t5 (.tup [.int 0, .int 1])) t5 = some (.tup [.int 0, .int 1]) := upd_same
  revert ej5 ht5
  generalize (upd J4 t5 (.tup [.int 0, .int 1])) = J5
  intro ej5 ht5
  have ht1 := ej5 _ _ ht1
  have ht2 := ej5 _ _ ht2
  have ht3 := ej5 _ _ ht3
  have ht4 := ej5 _ _ ht4
  have hpj5 := hpj4.same ej5
  refine ⟨sz (by simp), fun t6 ht6 => ?_⟩
  have ej6 : Same J5 (upd J5 t6 (.tup [.int 0, .int 2])) := Same.new (Same.refl _) ht6
  have ht6 : (upd J5 t6 (.tup [.int 0, .int 2])) t6 = some (.tup [.int 0, .int 2]) := upd_same
  revert ej6 ht6
  generalize (upd J5 t6 (.tup [.int 0, .int 2])) = J6
  intro ej6 ht6
  have ht1 := ej6 _ _ ht1
  have ht2 := ej6 _ _ ht2
  have ht3 := ej6 _ _ ht3
  have ht4 := ej6 _ _ ht4
  have ht5 := ej6 _ _ ht5
  have hpj6 := hpj5.same ej6
  refine ⟨sz (by simp), fun l hl0 => ?_⟩
  have nl := pool_off hpj6 hl0
  have ej7 : Same J6 (upd J6 l (.lst [.ref t1, .ref t2, .ref t3, .ref t4, .ref t5, .ref t6])) := Same.new (Same.refl _) hl0
  have hl7 : (upd J6 l (.lst [.ref t1, .ref t2, .ref t3, .ref t4, .ref t5, .ref t6])) l = some (.lst ([t1, t2, t3, t4, t5, t6].map V.ref)) := upd_same
  revert ej7 hl7
  generalize (upd J6 l (.lst [.ref t1, .ref t2, .ref t3, .ref t4, .ref t5, .ref t6])) = H2
  intro ej7 hl7
  have hp2 := hpj6.same ej7
  have hpa : PairsAt (noP p c H2) [t1, t2, t3, t4, t5, t6] ks6 := .cons (noP_tup hp2 (ej7 _ _ ht1)) (.cons (noP_tup hp2 (ej7 _ _ ht2)) (.cons (noP_tup hp2 (ej7 _ _ ht3)) (.cons (noP_tup hp2 (ej7 _ _ ht4)) (.cons (noP_tup hp2 (ej7 _ _ ht5)) (.cons (noP_tup hp2 (ej7 _ _ ht6)) .nil)))))
  clear ht1 ht2 ht3 ht4 ht5 ht6 hpj1 hpj2 hpj3 hpj4 hpj5
  refine ⟨noP p c H2, p, c, l, [t1, t2, t3, t4, t5, t6], ks6, rfl, hidL_same, noP_p, noP_c, hp2, noP_get hl7 nl.1 nl.2, hpa, by decide, Nat.succ_pos _, show 6 < 900 by decide, fun sh T H3 e3 hp3 hS3 okT => ?_⟩
  walk_at "nz"
  walk_at "rd"
  refine ⟨noP p c H3, p, c, sh, T, rfl, hidL_same, noP_p, noP_c, hp3, hS3, okT, fun b0 s0 H4 e4 hp4 hs4 ok4 z4 d4 cl4 => ?_⟩
  have hS4 : ShapeAt (noP p c H4) sh T := hS3.mono (hidL_into e4)
  refine ⟨noP p c H4, p, c, sh, b0, T, s0, rfl, hidL_same, noP_p, noP_c, hp4, hS4, hs4, ok4, okT, d4, z4, cl4, fun H5 e5 hp5 => ?_, fun r pl b tw W s z H5 e5 hp5 hr5 hP5 hlo hhi hs5 ok5 d5 z5 cl5 hev htw hz => ?_⟩
  · walk_at "rd"
    exact q H5
  have hS5 : ShapeAt (noP p c H5) sh T := hS4.mono (hidL_into e5)
  clear hs4 ok4 z4 d4 cl4 hS4 hp4 e5 e4 e3 hS3 hp3 hpa hp2 ej1 ej2 ej3 ej4 ej5 ej6 ej7 hl7 nl hl0 hpj6 hp1 e1
  walk_at "nz"
  walk_at "rd"
  refine ⟨r, _, rfl, SqT.of (hidL_same _ _ hr5), rfl, _, _, rfl, _, _, rfl, _, _, rfl, rfl, ?_⟩
  walk_at "nz"
  walk_at "rd"
  refine ⟨tw, _, rfl, SqT.of (hidL_same _ _ htw), rfl, _, _, rfl, _, _, rfl, rfl, ?_⟩
  walk_at "nz"
  walk_at "rd"
  refine ⟨noP p c H5, p, c, sh, pl, T, W, rfl, hidL_same, noP_p, noP_c, hp5, hS5, okT, hP5, by omega, by omega, fun wr W2 H6 e6 hp6 hW6 ok6 hmix => ?_⟩
  have E6 : Same (noP p c H5) (noP p c H6) := hidL_into e6
  obtain ⟨am, at_, fm, ft, hpl, _⟩ := id hP5
  walk_at "nz"
  walk_at "rd"
  refine ⟨_, _, _, _, rfl, rfl, SqT.of (hidL_same _ _ (E6 _ _ hpl)), atI_nat (j := 0) rfl, ?_⟩
  walk_at "rd"
  refine ⟨p, c, 4, rfl, hp6, by decide, by decide, fun d1 H7 hd1 e7 hp7 => ?_⟩
  refine ⟨_, _, rfl, rfl, ?_⟩
  walk_at "nz"
  walk_at "rd"
  refine ⟨p, c, 5, rfl, hp7, by decide, by decide, fun d2 H8 hd2 e8 hp8 => ?_⟩
  have E8 : Same (noP p c H5) (noP p c H8) := (E6.trans (hidL_into e7)).trans (hidL_into e8)
  have hW8 : WorldAt cT cW (noP p c H8) wr W2 := (hW6.mono (hidL_into e7)).mono (hidL_into e8)
  have hs8 : SayAt (noP p c H8) s b := hs5.mono E8
  have hS8 : ShapeAt (noP p c H8) sh T := hS5.mono E8
  have hpl8 := E8 _ _ hpl
  revert hW8 hs8 hS8 hpl8
  have hG : Same (noP p c H8) H8 := hidL_same
  revert hG
  generalize noP p c H8 = G
  intro hG hW8 hs8 hS8 hpl8
  clear E8 e8 hp8 e7 hp7 E6 hW6 hp6 e6 hP5 htw hr5 hS5 hs5 hp5
  obtain ⟨hz1, hz2, hz3, hz4⟩ := hz
  have hW2n : W2.n = W.n := hmix.hn
  have hcl : Clean W2.T := by rw [hmix.hT]; exact clean_of okT
  have ok2 : s.okT W2.T.marks W2.T.ties := by rw [hmix.hT]; exact ok5
  have hL : Like W2 s z.1 z.2 := like_mixed hmix ok5 (like_of hz1 hz2 hz4)
  have hev2 : ev W2 s 0 0 = true := by rw [ev_mixed hmix s ok5]; exact hev
  have cp : CopyOk W2 z.1 z.2 := ⟨ok6, by omega, by omega, hz3⟩
  obtain ⟨m, hm⟩ : ∃ m, m = W.n + 1 + d1 := ⟨_, rfl⟩
  obtain ⟨M, hM⟩ : ∃ M, M = m + 1 + d2 := ⟨_, rfl⟩
  have em : (W.n : Int) + 1 + (d1 : Int) = (m : Int) := by omega
  have eM : (m : Int) + 1 + (d2 : Int) = (M : Int) := by omega
  refine ⟨_, _, rfl, rfl, ?_⟩
  walk_at "nz"
  rw [em, eM]
  walk_at "rd"
  refine ⟨G, wr, b, W2, s, z.1, z.2, m, rfl, hG, hW8, ok6, hcl, hs8, ok2, cl5, by omega, by omega, by omega, by omega, hz3, hL, hev2, by omega, by omega, fun p1 H9 e9 hW9 => ?_⟩
  walk_at "nz"
  walk_at "rd"
  refine ⟨G, wr, b, W2, s, z.1, z.2, M, rfl, hG.trans e9, hW8, ok6, hcl, hs8, ok2, cl5, by omega, by omega, by omega, by omega, hz3, hL, hev2, by omega, by omega, fun p2 H10 e10 hW10 => ?_⟩
  have hG10 := (hG.trans e9).trans e10
  have hW9 := hW9.mono e10
  have hnm : W2.n + (m - W2.n) = m := by omega
  have hnM : W2.n + (M - W2.n) = M := by omega
  obtain ⟨F, hF⟩ : ∃ F, F = growW (m - W2.n) W2 z.1 z.2 := ⟨_, rfl⟩
  obtain ⟨X, hX⟩ : ∃ X, X = growW (M - W2.n) W2 z.1 z.2 := ⟨_, rfl⟩
  have hFX : growW (M - F.n) F z.1 z.2 = X := by
    rw [hX, hF, ← growW_add, growW_n]
    congr 1
    omega
  have hFn : F.n = m := by rw [hF, growW_n]; exact hnm
  have hXn : X.n = M := by rw [hX, growW_n]; exact hnM
  have hFT : F.T = W2.T := by rw [hF, growW_T]
  have hXT : X.T = W2.T := by rw [hX, growW_T]
  have cpF : CopyOk F z.1 z.2 := by rw [hF]; exact grow_ok cp (by omega)
  have cpX : CopyOk X z.1 z.2 := by rw [hX]; exact grow_ok cp (by omega)
  obtain ⟨hLF, hevF⟩ : Like F s z.1 z.2 ∧ ev F s 0 0 = ev W2 s 0 0 := by rw [hF]; exact grow_like cp ok2 hL _ (by omega)
  obtain ⟨hLX, hevX⟩ : Like X s z.1 z.2 ∧ ev X s 0 0 = ev W2 s 0 0 := by rw [hX]; exact grow_like cp ok2 hL _ (by omega)
  rw [hev2] at hevF hevX
  rw [← hF] at hW9
  rw [← hX] at hW10
  walk_at "nz"
  walk_at "rd"
  refine ⟨H10, p1, b, F, s, z.1, z.2, M, rfl, Same.refl _, hW9, cpF.ok, by rw [hFT]; exact hcl, hs8.mono hG10, by rw [hFT]; exact ok2, cl5, by omega, by omega, by omega, by omega, hz3, hLF, hevF, by omega, by omega, fun p3 H11 e11 hW11 => ?_⟩
  rw [hFX] at hW11
  walk_at "rd"
  have hW10 := hW10.mono e11
  have hW9 := hW9.mono e11
  have hG11 := hG10.trans e11
  have hi3 := id hW11
  have hi2 := id hW10
  have hi1 := id hW9
  obtain ⟨dx3, _, _, _, _, _, hI3, _⟩ := hi3
  obtain ⟨dx2, at2, am2, ati2, fm2, ft2, hI2, _⟩ := hi2
  obtain ⟨dx1, at1, am1, ati1, fm1, ft1, hI1, _⟩ := hi1
  refine ⟨⟨p3, p2, _, _, _, _, rfl, rfl, hI3, hI2, X, cpX.ok, hW11, hW10⟩, fun H12 e12 => ?_⟩
  have e12 : Same H11 H12 := e12
  have hI2 := e12 _ _ hI2
  have hI1 := e12 _ _ hI1
  have hG12 := hG11.trans e12
  have hW9 := hW9.mono e12
  have hW10 := hW10.mono e12
  clear hI3 hW11 e11 e12 hG11 hG10
  refine ⟨_, rfl, ?_⟩
  refine iteFk rfl ?_
  walk_at "rd"
  refine ⟨_, _, _, _, _, rfl, hI2, TW.cl, TW.nn, fW_n _ _ _ _, ?_⟩
  walk_at "rd"
  refine iteFk (by rw [hXn, decide_eq_true rfl]; rfl) ?_
  walk_at "rd"
  refine ⟨_, _, _, _, _, rfl, hI1, TW.cl, TW.nn, fW_n _ _ _ _, ?_⟩
  walk_at "rd"
  refine iteFk (by rw [hFn, decide_eq_true rfl]; rfl) ?_
  have hWr : WorldAt cT cW H12 wr W2 := hW8.mono hG12
  have hs12 : SayAt H12 s b := hs8.mono hG12
  have hpl12 := hG12 _ _ hpl8
  obtain ⟨sm, sti, sf, hSh, hSm, hSt, hSf⟩ := hS8.mono hG12
  clear hS8 hs8 hpl8 hW8
  have hir := id hWr
  obtain ⟨dxr, atr, amr, atir, fmr, ftr, hIr, _⟩ := hir
  have hXlo : W2.n ≤ X.n := by omega
  walk_at "rd"
  refine ⟨_, _, _, _, rfl, rfl, SqT.of hSh, atI_nat (j := 0) rfl, ?_⟩
  refine ⟨_, rfl, ⟨_, SqT.of hSm⟩, for_tup (K := K) (a := sm) (xs := T.marks.map V.str) (fun i σ H' => ∃ y : Option V, σ = [some (.ref a), some (.ref p), some (.ref sh), some (.ref r), some (.ref pl), some (.ref b), some (.ref tw), some (nV z.1), some (nV z.2), some (.ref wr), some (nV m), some (nV M), some (.ref p1), some (.ref p2), y, none, none, none, none] ∧ Same H12 H')
    ⟨_, rfl, Same.refl _⟩ (fun i σ H' _ hP => let ⟨_, _, h⟩ := hP; SqT.of (h _ _ hSm)) (fun i x σ H' hx hP => ?_) (fun σ H' hP => ?_)⟩
  · obtain ⟨y, rfl, e⟩ := hP
    obtain ⟨k0, hk0, rfl⟩ := map_at hx
    have hkm : k0 ∈ T.marks := List.mem_of_getElem? hk0
    have hkX : k0 ∈ X.T.marks := by rw [hXT, hmix.hT]; exact hkm
    have hkW : k0 ∈ W2.T.marks := by rw [hmix.hT]; exact hkm
    walk_at "rd"
    refine ⟨_, _, _, rfl, e _ _ hI2, p2, X, rfl, hW10.mono e, cpX.ok, fun pm H14 e14 hmk => ?_⟩
    obtain ⟨fk, hd1, hd2⟩ := hmk
    obtain ⟨is1, hso1, hfk⟩ := hd2 k0 hkX
    walk_at "rd"
    refine ⟨_, _, rfl, .inl ⟨_, Sum.inr k0, .inl hd1, rfl, (withA_val cpX.ok.ndm hkX).symm⟩, ?_⟩
    have eN := e.trans e14
    have hl1 : is1.length ≤ 15 := by
      rw [hso1.1.length_eq, List.length_map]
      have h1 := cpX.ok.m.len k0 hkX
      have h2 := cpX.ok.hi
      omega
    walk_at "rd"
    refine ⟨⟨_, SqT.of hfk⟩, fun D hD => ?_⟩
    refine lc_tupF (fun k y _ => y = .int (is1.getD k 0)) (fun k => decide (is1.getD k 0 < (W.n : Int))) hD hfk (by rw [List.length_map]; omega) (fun _ _ _ _ _ h => h) rfl (fun k x H15 acc hx e15 hY N k1 k2 => ?_) (fun H15 ys e15 hY hp15 => ?_)
    · obtain ⟨n0, hn0, rfl⟩ := map_at hx
      have hg : is1.getD k 0 = n0 := by rw [List.getD, hn0]; rfl
      walk_at "rd"
      refine ⟨_, _, _, _, rfl, rfl, SqT.of (e15 _ _ (eN _ _ hpl12)), atI_nat (j := 0) rfl, ?_⟩
      walk_at "rd"
      refine iteS (fun hc => ?_) (fun hc => ?_)
      · walk_at "rd"
        exact k2 _ H15 (Same.refl _) (by rw [hg]; exact hc) (by rw [hg])
      · exact k1 H15 (Same.refl _) (by rw [hg]; exact hc)
    · rw [List.length_map] at hp15
      have hys := paired_eq hp15
      rw [getD_filter is1 0 (fun z => decide (z < (W.n : Int))) V.int] at hys
      walk_at "rd"
      refine ⟨_, _, rfl, .inl ⟨SqL.of hY, fun tp htp => ?_⟩⟩
      have e16 : Same H15 (upd H15 tp (.tup ys)) := Same.new (Same.refl _) htp
      have htp16 : (upd H15 tp (.tup ys)) tp = some (.tup ys) := upd_same
      revert e16 htp16
      generalize (upd H15 tp (.tup ys)) = H16
      intro e16 htp16
      have eN16 := (eN.trans e15).trans e16
      walk_at "rd"
      refine ⟨_, _, _, rfl, eN16 _ _ hIr, wr, W2, rfl, hWr.mono eN16, ok6, fun pm2 H17 e17 hmk2 => ?_⟩
      obtain ⟨fk2, hd3, hd4⟩ := hmk2
      obtain ⟨is2, hso2, hfk2⟩ := hd4 k0 hkW
      walk_at "rd"
      refine ⟨_, _, rfl, .inl ⟨_, Sum.inr k0, .inl hd3, rfl, (withA_val ok6.ndm hkW).symm⟩, ?_⟩
      have his : is1.filter (fun z => decide (z < (W.n : Int))) = is2 := by
        refine sorted_back hso1 hso2 (cpX.ok.m.nd k0 hkX) (ok6.m.nd k0 hkW) (fun i hi => ?_) (fun i hi => by rw [← hW2n]; exact ok6.m.lt k0 hkW i hi)
        rw [hX]
        exact grow_mem_m (by omega) _
      rw [his] at hys
      subst hys
      refine ⟨_, _, .tup (SqT.of (e17 _ _ htp16)) (dp_ints _), .tup (SqT.of hfk2) (dp_ints _), shaped_tints _, shaped_tints _, ?_⟩
      rw [eqv_self (shaped_tints _)]
      refine ⟨_, rfl, ?_⟩
      refine iteFk rfl ?_
      exact ⟨_, rfl, eN16.trans e17⟩
  · obtain ⟨y, rfl, e⟩ := hP
    have hI2 := e _ _ hI2
    have hIr := e _ _ hIr
    have hW10 := hW10.mono e
    have hW9 := hW9.mono e
    have hWr := hWr.mono e
    have hs12 := hs12.mono e
    have hpl12 := e _ _ hpl12
    have hSh := e _ _ hSh
    have hSt := e _ _ hSt
    clear e hI1 hSm hSf
    walk_at "rd"
    refine ⟨_, _, _, _, rfl, rfl, SqT.of hSh, atI_nat (j := 1) rfl, ?_⟩
    refine ⟨_, rfl, ⟨_, SqT.of hSt⟩, for_tup (K := K) (a := sti) (xs := T.ties.map V.str) (fun i σ H2 => ∃ y : Option V, σ = [some (.ref a), some (.ref p), some (.ref sh), some (.ref r), some (.ref pl), some (.ref b), some (.ref tw), some (nV z.1), some (nV z.2), some (.ref wr), some (nV m), some (nV M), some (.ref p1), some (.ref p2), y, none, none, none, none] ∧ Same H' H2)
      ⟨_, rfl, Same.refl _⟩ (fun i σ H' _ hP => let ⟨_, _, h⟩ := hP; SqT.of (h _ _ hSt)) (fun i x σ H'' hx hP => ?_) (fun σ H'' hP => ?_)⟩
    · obtain ⟨y, rfl, e⟩ := hP
      obtain ⟨k0, hk0, rfl⟩ := map_at hx
      have hkm : k0 ∈ T.ties := List.mem_of_getElem? hk0
      have hkX : k0 ∈ X.T.ties := by rw [hXT, hmix.hT]; exact hkm
      have hkW : k0 ∈ W2.T.ties := by rw [hmix.hT]; exact hkm
      walk_at "rd"
      refine ⟨_, _, _, rfl, e _ _ hI2, p2, X, rfl, hW10.mono e, cpX.ok, fun pm H14 e14 hmk => ?_⟩
      obtain ⟨fk, hd1, hd2⟩ := hmk
      obtain ⟨rs1, ys1, hso1, hfk, hpr1⟩ := hd2 k0 hkX
      walk_at "rd"
      refine ⟨_, _, rfl, .inl ⟨_, Sum.inr k0, .inl hd1, rfl, (withA_val cpX.ok.ndt hkX).symm⟩, ?_⟩
      have eN := e.trans e14
      have hl1 : rs1.length ≤ 15 * 15 := by
        rw [hso1.1.length_eq, List.length_map]
        have h1 := cpX.ok.t.len k0 hkX
        have h2 := cpX.ok.hi
        exact Nat.le_trans h1 (Nat.mul_le_mul h2 h2)
      have hlr := Paired.length hpr1
      have hprk : ∀ k, k < ys1.length → PrAt H14 (ys1.getD k .non) (rs1.getD k (0, 0)) := fun k hk => by
        have hb := List.getElem?_eq_getElem (show k < rs1.length by omega)
        obtain ⟨v, hv, hvr⟩ := Paired.at hpr1 hb
        rw [List.getD, hv, List.getD, hb]
        exact hvr
      walk_at "rd"
      refine ⟨⟨_, SqT.of hfk⟩, fun D hD => ?_⟩
      refine lc_tupF (fun k y _ => y = ys1.getD k .non) (fun k => decide ((rs1.getD k (0, 0)).1 < (W.n : Int)) && decide ((rs1.getD k (0, 0)).2 < (W.n : Int))) hD hfk (by omega) (fun _ _ _ _ _ h => h) rfl (fun k x H15 acc hx e15 hY N k1 k2 => ?_) (fun H15 ys e15 hY hp15 => ?_)
      · have hkl := (List.getElem?_eq_some_iff.mp hx).1
        have hxk : ys1.getD k .non = x := by rw [List.getD, hx]; rfl
        have hpk := hprk k hkl
        rw [hxk] at hpk
        obtain ⟨tq, rfl, htq⟩ := hpk
        generalize rs1.getD k (0, 0) = rk at htq k1 k2
        obtain ⟨u1, u2⟩ := rk
        have htq : H14 tq = some (.tup [.int u1, .int u2]) := htq
        walk_at "rd"
        refine ⟨_, _, rfl, .inr (SqT.of (e15 _ _ htq)), fun lq hlq => ?_⟩
        have e16 : Same H15 (upd H15 lq (.lst [.int u1, .int u2])) := Same.new (Same.refl _) hlq
        have hlq16 : (upd H15 lq (.lst [.int u1, .int u2])) lq = some (.lst ([u1, u2].map V.int)) := upd_same
        revert e16 hlq16
        generalize (upd H15 lq (.lst [.int u1, .int u2])) = H16
        intro e16 hlq16
        refine ⟨lq, [u1, u2], rfl, SqL.of hlq16, Nat.succ_pos _, fun mx hm1 hm2 => ?_⟩
        have g1 := hm2 u1 (by simp)
        have g2 := hm2 u2 (by simp)
        have hmx : decide (mx < (W.n : Int)) = (decide (u1 < (W.n : Int)) && decide (u2 < (W.n : Int))) := by
          rcases (show mx = u1 ∨ mx = u2 by simpa using hm1) with rfl | rfl
          · by_cases h1 : mx < (W.n : Int)
            · rw [decide_eq_true h1, decide_eq_true (show u2 < (W.n : Int) by omega)]; rfl
            · rw [decide_eq_false h1]; rfl
          · by_cases h1 : mx < (W.n : Int)
            · rw [decide_eq_true h1, decide_eq_true (show u1 < (W.n : Int) by omega)]; rfl
            · rw [decide_eq_false h1, Bool.and_false]
        walk_at "rd"
        refine ⟨_, _, _, _, rfl, rfl, SqT.of (e16 _ _ (e15 _ _ (eN _ _ hpl12))), atI_nat (j := 0) rfl, ?_⟩
        walk_at "rd"
        refine iteS (fun hc => ?_) (fun hc => ?_)
        · have hc : decide (mx < (W.n : Int)) = true := hc
          rw [hmx] at hc
          walk_at "rd"
          exact k2 _ H16 e16 hc hxk.symm
        · have hc : decide (mx < (W.n : Int)) = false := hc
          rw [hmx] at hc
          exact k1 H16 e16 hc
      · have hys := paired_eq hp15
        walk_at "rd"
        refine ⟨_, _, rfl, .inl ⟨SqL.of hY, fun tp htp => ?_⟩⟩
        have e16 : Same H15 (upd H15 tp (.tup ys)) := Same.new (Same.refl _) htp
        have htp16 : (upd H15 tp (.tup ys)) tp = some (.tup ys) := upd_same
        revert e16 htp16
        generalize (upd H15 tp (.tup ys)) = H16
        intro e16 htp16
        have eN16 := (eN.trans e15).trans e16
        walk_at "rd"
        refine ⟨_, _, _, rfl, eN16 _ _ hIr, wr, W2, rfl, hWr.mono eN16, ok6, fun pm2 H17 e17 hmk2 => ?_⟩
        obtain ⟨fk2, hd3, hd4⟩ := hmk2
        obtain ⟨rs2, ys2, hso2, hfk2, hpr2⟩ := hd4 k0 hkW
        walk_at "rd"
        refine ⟨_, _, rfl, .inl ⟨_, Sum.inr k0, .inl hd3, rfl, (withA_val ok6.ndt hkW).symm⟩, ?_⟩
        have hrs : rs1.filter (fun z => decide (z.1 < (W.n : Int)) && decide (z.2 < (W.n : Int))) = rs2 := by
          refine sorted_backP hso1 hso2 (cpX.ok.t.nd k0 hkX) (ok6.t.nd k0 hkW) (fun i j hi hj => ?_) (fun q hq => by rw [← hW2n]; exact ok6.t.lt k0 hkW q hq)
          rw [hX]
          exact grow_mem_t cp ok2 hL hkW (by omega) (by omega) _ (by omega)
        have hyr : Paired (PrAt H17) ys rs2 := by
          rw [hys, ← hrs, ← List.map_id (rs1.filter _), ← getD_filter rs1 (0, 0) (fun z => decide (z.1 < (W.n : Int)) && decide (z.2 < (W.n : Int))) id, hlr]
          refine paired_maps fun k hk => ?_
          obtain ⟨v, hv1, hv2⟩ := hprk k (by have := List.mem_range.mp (List.mem_filter.mp hk).1; omega)
          exact ⟨v, hv1, e17 _ _ (e16 _ _ (e15 _ _ hv2))⟩
        refine ⟨_, _, .tup (SqT.of (e17 _ _ htp16)) (dp_prs hyr), .tup (SqT.of hfk2) (dp_prs hpr2), shaped_tprs _, shaped_tprs _, ?_⟩
        rw [eqv_self (shaped_tprs _)]
        refine ⟨_, rfl, ?_⟩
        refine iteFk rfl ?_
        exact ⟨_, rfl, eN16.trans e17⟩
    · obtain ⟨y, rfl, e⟩ := hP
      have hW10 := hW10.mono e
      have hW9 := hW9.mono e
      have hWr := hWr.mono e
      have hs12 := hs12.mono e
      clear e hI2 hIr hpl12 hSh hSt
      walk_at "rd"
      have cpS : CopyOk W2 z.2 z.1 := ⟨ok6, cp.h2, cp.h1, Ne.symm hz3⟩
      refine ⟨H'', wr, b, W2, s, z.2, z.1, M, rfl, Same.refl _, hWr, ok6, hcl, hs12, ok2, cl5, by omega, by omega, by omega, by omega, Ne.symm hz3, hL.symm, hev2, by omega, by omega, fun p4 H18 e18 hW18 => ?_⟩
      obtain ⟨Z, hZ⟩ : ∃ Z, Z = growW (M - W2.n) W2 z.2 z.1 := ⟨_, rfl⟩
      rw [← hZ] at hW18
      have hZT : Z.T = W2.T := by rw [hZ, growW_T]
      have hZok : Z.Ok := by rw [hZ]; exact growW_ok ok6 _ (by omega)
      have hevZ : ev Z s 0 0 = true := by rw [hZ, (grow_like cpS ok2 hL.symm _ (by omega)).2]; exact hev2
      have hW10 := hW10.mono e18
      have hW9 := hW9.mono e18
      have hs18 := hs12.mono e18
      walk_at "nz"
      walk_at "rd"
      refine ⟨sz (by simp), fun ll hll => ?_⟩
      have e19 : Same H18 (upd H18 ll (.lst [.ref p1, .ref p2, .ref p4])) := Same.new (Same.refl _) hll
      have hll19 : (upd H18 ll (.lst [.ref p1, .ref p2, .ref p4])) ll = some (.lst [.ref p1, .ref p2, .ref p4]) := upd_same
      have hW10 := hW10.mono e19
      have hW9 := hW9.mono e19
      have hW18 := hW18.mono e19
      have hs19 := hs18.mono e19
      revert hll19 hW10 hW9 hW18 hs19
      generalize (upd H18 ll (.lst [.ref p1, .ref p2, .ref p4])) = H19
      intro hll19 hW10 hW9 hW18 hs19
      refine ⟨_, rfl, ⟨_, SqL.of hll19⟩, for_list (K := K) (a := ll) (xs := [.ref p1, .ref p2, .ref p4]) (fun i σ H' => ∃ y18 : Option V, σ = [some (.ref a), some (.ref p), some (.ref sh), some (.ref r), some (.ref pl), some (.ref b), some (.ref tw), some (nV z.1), some (nV z.2), some (.ref wr), some (nV m), some (nV M), some (.ref p1), some (.ref p2), y, none, none, some (.ref p4), y18] ∧ Same H19 H')
        ⟨_, rfl, Same.refl _⟩ (fun i σ H' _ hP => let ⟨_, _, h⟩ := hP; SqL.of (h _ _ hll19)) (fun i x σ H20 hx hP => ?_) (fun σ H20 hP => ?_)⟩
      · obtain ⟨y18, rfl, e⟩ := hP
        obtain ⟨tt, Y, rfl, hWY, hYok, hYT, hevY⟩ : ∃ (tt : Addr) (Y : Wd), x = .ref tt ∧ WorldAt cT cW H20 tt Y ∧ Y.Ok ∧ Y.T = W2.T ∧ ev Y s 0 0 = true := by
          match i, hx with
          | 0, hx => exact ⟨p1, F, (Option.some.inj hx).symm, hW9.mono e, cpF.ok, hFT, hevF⟩
          | 1, hx => exact ⟨p2, X, (Option.some.inj hx).symm, hW10.mono e, cpX.ok, hXT, hevX⟩
          | 2, hx => exact ⟨p4, Z, (Option.some.inj hx).symm, hW18.mono e, hZok, hZT, hevZ⟩
          | i + 3, hx => simp at hx
        have hsY := hs19.mono e
        have okY : s.okT Y.T.marks Y.T.ties := by rw [hYT]; exact ok2
        have clY : Clean Y.T := by rw [hYT]; exact hcl
        walk_at "rd"
        refine ⟨sz (by simp), fun q1 hq1 => ?_⟩
        have f1 : Same H20 (upd H20 q1 (.tup [.str "not", .ref b])) := Same.new (Same.refl _) hq1
        have hq1' : (upd H20 q1 (.tup [.str "not", .ref b])) q1 = some (.tup [.str "not", .ref b]) := upd_same
        revert f1 hq1'
        generalize (upd H20 q1 (.tup [.str "not", .ref b])) = H21
        intro f1 hq1'
        refine ⟨sz (by simp), fun q2 hq2 => ?_⟩
        have f2 : Same H21 (upd H21 q2 (.tup [.str "not", .ref q1])) := Same.new (Same.refl _) hq2
        have hq2' : (upd H21 q2 (.tup [.str "not", .ref q1])) q2 = some (.tup [.str "not", .ref q1]) := upd_same
        revert f2 hq2'
        generalize (upd H21 q2 (.tup [.str "not", .ref q1])) = H22
        intro f2 hq2'
        have f12 := f1.trans f2
        refine ⟨H22, tt, q2, Y, .not (.not s), rfl, Same.refl _, hWY.mono f12, hYok, clY, ⟨q1, hq2', b, f2 _ _ hq1', hsY.mono f12⟩, okY, cl5, by show 1 + (1 + s.deep) ≤ 20; omega, by show 1 + (1 + s.size) ≤ 100; omega, fun H23 e23 => ?_⟩
        rw [show ev Y (.not (.not s)) 0 0 = true by show (!(!ev Y s 0 0)) = true; rw [hevY]; rfl]
        have f13 := f12.trans e23
        walk_at "rd"
        refine ⟨sz (by simp), fun q3 hq3 => ?_⟩
        have f3 : Same H23 (upd H23 q3 (.tup [.str "or", .ref b, .ref b])) := Same.new (Same.refl _) hq3
        have hq3' : (upd H23 q3 (.tup [.str "or", .ref b, .ref b])) q3 = some (.tup [.str "or", .ref b, .ref b]) := upd_same
        revert f3 hq3'
        generalize (upd H23 q3 (.tup [.str "or", .ref b, .ref b])) = H24
        intro f3 hq3'
        refine ⟨sz (by simp), fun q4 hq4 => ?_⟩
        have f4 : Same H24 (upd H24 q4 (.tup [.str "and", .ref b, .ref q3])) := Same.new (Same.refl _) hq4
        have hq4' : (upd H24 q4 (.tup [.str "and", .ref b, .ref q3])) q4 = some (.tup [.str "and", .ref b, .ref q3]) := upd_same
        revert f4 hq4'
        generalize (upd H24 q4 (.tup [.str "and", .ref b, .ref q3])) = H25
        intro f4 hq4'
        have f15 := (f13.trans f3).trans f4
        refine ⟨H25, tt, q4, Y, .and s (.or s s), rfl, Same.refl _, hWY.mono f15, hYok, clY, ⟨b, q3, hq4', hsY.mono f15, b, b, f4 _ _ hq3', hsY.mono f15, hsY.mono f15⟩, ⟨okY, okY, okY⟩, ⟨by simp [Say.fr, cl5.1], by simp [Say.fr, cl5.2]⟩, by show 1 + max s.deep (1 + max s.deep s.deep) ≤ 20; omega, by show 1 + (s.size + (1 + (s.size + s.size))) ≤ 100; omega, fun H26 e26 => ?_⟩
        rw [show ev Y (.and s (.or s s)) 0 0 = true by show (ev Y s 0 0 && (ev Y s 0 0 || ev Y s 0 0)) = true; rw [hevY]; rfl]
        walk_at "rd"
        exact (e.trans f15).trans e26
      · obtain ⟨y18, rfl, e⟩ := hP
        walk_at "rd"
        exact q H20
end
end K48
namespace K48
open PySem PySem.Spec PyProof.Rows L2
local macro_rules | `(tactic| walk_at "rd") => `(tactic| repeat (first | refine ⟨_, rfl, ?_⟩ | refine ⟨_, _, rfl, rfl, ?_⟩ | refine ⟨rfl, ?_⟩ | refine iteTk (by decide +kernel) ?_ | refine iteFk (by decide +kernel) ?_))
local macro_rules | `(tactic| walk_at "rdr") => `(tactic| repeat (first | refine ⟨_, rfl, ?_⟩ | refine ⟨_, _, rfl, rfl, ?_⟩ | refine ⟨rfl, ?_⟩ | refine iteTk (by first | decide +kernel | rfl) ?_ | refine iteFk (by first | decide +kernel | rfl) ?_))
local macro_rules | `(tactic| walk_at "tyn") => `(tactic| first | exact .int _ | exact .bl _ | exact .str _ | exact .tup (by assumption) | exact .lst (by assumption) | exact .dK (by assumption))
local macro_rules | `(tactic| walk_at "isT") => `(tactic| refine ⟨_, _, _, _, true, rfl, .ty _, TyN.x (by walk_at "tyn"), kit_ty (by decide +kernel), ?_⟩)
local macro_rules | `(tactic| walk_at "isF") => `(tactic| refine ⟨_, _, _, _, false, rfl, .ty _, TyN.x (by walk_at "tyn"), kit_ty (by decide +kernel), ?_⟩)
local macro_rules | `(tactic| walk_at "nz") => `(tactic| first | refine nzG (by simp only [List.set_cons_succ, List.set_cons_zero]; rfl) ?_ | refine reS (by simp only [List.set_cons_succ, List.set_cons_zero]; rfl) ?_)
theorem makeOk {P : Program} {w : World} {K : PySem.W.Frag} {mg : Str → Option Value} {base : Heap} {C : Addr} {k : Nat} {x : Str} {ps : List Str} {sp : Sp} (c : MethOk P w K mg base C k "__init__" ps sp) (g : mg x = some (.ref C) ∧ PySem.W.makesIn K C = true ∧ PySem.W.keepIn K (.ref C) = true) : MakeOk P w K mg base C k x ps sp := by
  obtain ⟨f, fd, m, b, F⟩ := c
  exact ⟨f, fd, g.1, ⟨g.2.1, m.at_, m.fn, g.2.2⟩, b, F⟩
/-- what the head has to show -/
structure HF (w : World) (K : PySem.W.Frag) (mg : Str → Option Value) (cT cW cN cR cG : Addr) : Prop where
  C : Cst K mg
  B : Blt mg
  KP : ∃ d es n, KptG K w mg d es n
  T0 : ClT K cT
  TW : ClW K cW
  TN : ClN K cN
  TR : ClR K cR
  TG : ClG K cG
  IT : IsiC K cT
  IW : IsiC K cW
  NT : NeF K cT
  NW : NeF K cW
  mT : mg "Tongue" = some (.ref cT) ∧ PySem.W.makesIn K cT = true ∧ PySem.W.keepIn K (.ref cT) = true
  mW : mg "World" = some (.ref cW) ∧ PySem.W.makesIn K cW = true ∧ PySem.W.keepIn K (.ref cW) = true
  mN : mg "Node" = some (.ref cN) ∧ PySem.W.makesIn K cN = true ∧ PySem.W.keepIn K (.ref cN) = true
  mR : mg "Reading" = some (.ref cR) ∧ PySem.W.makesIn K cR = true ∧ PySem.W.keepIn K (.ref cR) = true
  mG : mg "Growth" = some (.ref cG) ∧ PySem.W.makesIn K cG = true ∧ PySem.W.keepIn K (.ref cG) = true
  d_is_integer : Def K mg "is_integer" s_is_integer
  d_is_within : Def K mg "is_within" s_is_within
  d_is_sequence : Def K mg "is_sequence" s_is_sequence
  d_is_tuple : Def K mg "is_tuple" s_is_tuple
  d_is_headed : Def K mg "is_headed" s_is_headed
  d_is_key : Def K mg "is_key" s_is_key
  d_is_word : Def K mg "is_word" s_is_word
  d_is_name : Def K mg "is_name" s_is_name
  d_is_test : Def K mg "is_test" s_is_test
  d_parts_of : Def K mg "parts_of" s_parts_of
  d_sayings_in : Def K mg "sayings_in" s_sayings_in
  d_own_names : Def K mg "own_names" s_own_names
  d_free_names : Def K mg "free_names" s_free_names
  d_is_saying : Def K mg "is_saying" s_is_saying
  d_check_saying : Def K mg "check_saying" s_check_saying
  d_check_closed : Def K mg "check_closed" s_check_closed
  d_is_thing : Def K mg "is_thing" s_is_thing
  d_is_pair : Def K mg "is_pair" s_is_pair
  d_is_dict_of : Def K mg "is_dict_of" s_is_dict_of
  d_are_things : Def K mg "are_things" s_are_things
  d_are_pairs : Def K mg "are_pairs" s_are_pairs
  d_check_marks : Def K mg "check_marks" s_check_marks
  d_check_ties : Def K mg "check_ties" s_check_ties
  d_are_names : Def K mg "are_names" s_are_names
  d_are_functions : Def K mg "are_functions" s_are_functions
  d_node_of : Def K mg "node_of" s_node_of
  d_is_held : Def K mg "is_held" s_is_held
  d_holds : Def K mg "holds" s_holds
  d_check_plain : Def K mg "check_plain" s_check_plain
  d_check_thing : Def K mg "check_thing" s_check_thing
  d_are_like : Def K mg "are_like" s_are_like
  d_grown : Def K mg "grown" s_grown
  d_law_draw : Def K mg "_law_draw" s_law_draw
  d_law_mixed : Def K mg "_law_mixed" s_law_mixed
  d_law_quantor : Def K mg "_law_quantor" s_law_quantor
  d_law_names : Def K mg "_law_names" s_law_names
  d_law_shape : Def K mg "_law_shape" s_law_shape
  d_law_tongue : Def K mg "_law_tongue" s_law_tongue
  d_law_test : Def K mg "_law_test" s_law_test
  d_law_matrix : Def K mg "_law_matrix" s_law_matrix
  d_law_one : Def K mg "_law_one" s_law_one
  d_law_closed : Def K mg "_law_closed" s_law_closed
  d_law_free : Def K mg "_law_free" s_law_free
  d_law_joined : Def K mg "_law_joined" s_law_joined
  d_law_bound : Def K mg "_law_bound" s_law_bound
  d_law_drawn_world : Def K mg "_law_drawn_world" s_law_drawn_world
  d_law_lists : Def K mg "_law_lists" s_law_lists
  d_law_places : Def K mg "_law_places" s_law_places
  d_law_said : Def K mg "_law_said" s_law_said
  d_law_rows : Def K mg "_law_rows" s_law_rows
  d_law_world : Def K mg "_law_world" s_law_world
  d_law_so : Def K mg "_law_so" s_law_so
  d_law_inner : Def K mg "_law_inner" s_law_inner
  d_law_kind : Def K mg "_law_kind" s_law_kind
  d_law_twins : Def K mg "_law_twins" s_law_twins
  d_law_twin_world : Def K mg "_law_twin_world" s_law_twin_world
  d_law_pool : Def K mg "_law_pool" s_law_pool
  d_law : Def K mg "law" s_law
  d_World__init : Mth K cW "__init__" "World.__init__" s_World__init
  d_World_has : Mth K cW "has" "World.has" s_World_has
  d_World_leads : Mth K cW "leads" "World.leads" s_World_leads
  d_Tongue__eq : Mth K cT "__eq__" "Tongue.__eq__" s_Tongue__eq
  d_World__eq : Mth K cW "__eq__" "World.__eq__" s_World__eq
  d_Tongue__init : Mth K cT "__init__" "Tongue.__init__" s_Tongue__init
  d_Node__init : Mth K cN "__init__" "Node.__init__" s_Node__init
  d_Reading_test : Mth K cR "test" "Reading.test" s_Reading_test
  d_Reading_flag : Mth K cR "flag" "Reading.flag" s_Reading_flag
  d_Reading_searched : Mth K cR "searched" "Reading.searched" s_Reading_searched
  d_Reading_bound_flag : Mth K cR "bound_flag" "Reading.bound_flag" s_Reading_bound_flag
  d_Reading__init : Mth K cR "__init__" "Reading.__init__" s_Reading__init
  d_Growth_tie : Mth K cG "tie" "Growth.tie" s_Growth_tie
  d_Growth_put : Mth K cG "put" "Growth.put" s_Growth_put
  d_Growth__init : Mth K cG "__init__" "Growth.__init__" s_Growth__init
  d_Growth_made_world : Mth K cG "made_world" "Growth.made_world" s_Growth_made_world
  d_Tongue_marks : Prp K cT "marks" "Tongue.marks" s_Tongue_marks
  d_Tongue_ties : Prp K cT "ties" "Tongue.ties" s_Tongue_ties
  d_World_marks : Prp K cW "marks" "World.marks" s_World_marks
  d_World_ties : Prp K cW "ties" "World.ties" s_World_ties
theorem all_ok {P : Program} {w : World} {K : PySem.W.Frag} {mg : Str → Option Value} {base : Heap} {cT cW cN cR cG : Addr} (h : HF w K mg cT cW cN cR cG) {f0 : Addr} {fd0 : FuncData} (F0 : FunD K "law" "law" (defArgs s_law) (defBody s_law) (defScope s_law) [] [] f0 fd0) : FnOk P w K mg base CX0 86 f0 fd0 P_law (spLaw K) := by
  obtain ⟨dk, es, nk, KP⟩ := h.KP
  have MC : MgC mg cT cW := ⟨h.mT.1, h.mW.1⟩
  have c_is_integer := ok_is_integer (P := P) (w := w) (base := base) (mg := mg) h.B h.d_is_integer
  have c_is_within := ok_is_within (P := P) (w := w) (base := base) (mg := mg) h.d_is_within c_is_integer
  have c_Tm := ok_Tmarks (P := P) (w := w) (base := base) (mg := mg) h.d_Tongue_marks h.T0
  have c_Tt := ok_Tties (P := P) (w := w) (base := base) (mg := mg) h.d_Tongue_ties h.T0
  have c_is_sequence := ok_is_sequence (P := P) (w := w) (base := base) (mg := mg) h.B h.d_is_sequence
  have c_is_tuple := ok_is_tuple (P := P) (w := w) (base := base) (mg := mg) h.B h.d_is_tuple
  have c_is_headed := ok_is_headed (P := P) (w := w) (base := base) (mg := mg) h.B h.d_is_headed c_is_tuple
  have c_is_key := ok_is_key (P := P) (w := w) (base := base) (mg := mg) h.B h.d_is_key
  have c_is_word := ok_is_word (P := P) (w := w) (base := base) (mg := mg) h.B h.C h.d_is_word
  have c_is_name := ok_is_name (P := P) (w := w) (base := base) (mg := mg) h.C h.d_is_name c_is_key
  have c_is_test := ok_is_test (P := P) (w := w) (base := base) (mg := mg) h.C h.T0 h.d_is_test c_is_key c_is_name c_is_headed c_Tm c_Tt
  have c_parts_of := ok_parts_of (P := P) (w := w) (base := base) (mg := mg) h.B h.C h.d_parts_of c_is_test c_is_name c_is_headed c_is_tuple
  have c_sayings_in := ok_sayings_in (P := P) (w := w) (base := base) (mg := mg) h.C h.d_sayings_in
  have c_own_names := ok_own_names (P := P) (w := w) (base := base) (mg := mg) h.d_own_names
  have c_free := ok_free (P := P) (w := w) (base := base) (mg := mg) h.B h.C h.d_free_names c_own_names c_sayings_in
  have c_is_saying := ok_is_saying (P := P) (w := w) (base := base) (mg := mg) h.C h.d_is_saying c_parts_of
  have c_check_saying := ok_check_saying (P := P) (w := w) (base := base) (mg := mg) h.d_check_saying c_is_saying
  have c_check_closed := ok_check_closed (P := P) (w := w) (base := base) (mg := mg) h.d_check_closed c_check_saying (c_free 20)
  have c_is_thing := ok_is_thing (P := P) (w := w) (base := base) (mg := mg) h.d_is_thing c_is_within
  have c_is_pair := ok_is_pair (P := P) (w := w) (base := base) (mg := mg) h.d_is_pair c_is_tuple c_is_thing
  have c_is_dict_of := ok_is_dict_of (P := P) (w := w) (base := base) (mg := mg) h.B h.d_is_dict_of c_is_key
  have c_are_things := ok_are_things (P := P) (w := w) (base := base) (mg := mg) h.B h.d_are_things c_is_sequence c_is_thing
  have c_are_pairs := ok_are_pairs (P := P) (w := w) (base := base) (mg := mg) h.B h.d_are_pairs c_is_sequence c_is_pair
  have c_check_marks := ok_check_marks (P := P) (w := w) (base := base) (mg := mg) h.T0 h.d_check_marks c_Tm c_is_dict_of c_are_things
  have c_check_ties := ok_check_ties (P := P) (w := w) (base := base) (mg := mg) h.T0 h.d_check_ties c_Tt c_is_dict_of c_are_pairs
  have c_Winit := ok_World_init (P := P) (w := w) (base := base) (mg := mg) h.T0 h.TW h.B h.C h.d_World__init c_is_within c_Tm c_Tt c_check_marks c_check_ties
  have c_has := ok_has (P := P) (w := w) (base := base) (mg := mg) (cT := cT) h.TW h.d_World_has
  have c_leads := ok_leads (P := P) (w := w) (base := base) (mg := mg) (cT := cT) h.TW h.d_World_leads
  have c_Teq := ok_Tongue_eq (P := P) (w := w) (base := base) (mg := mg) h.T0 h.IT MC h.B h.d_Tongue__eq c_Tm c_Tt
  have c_Weq := ok_World_eq (P := P) (w := w) (base := base) (mg := mg) h.TW h.IW MC h.NT h.B h.d_World__eq c_Teq
  have c_Wm := ok_Wmarks (P := P) (w := w) (base := base) (mg := mg) h.T0 h.TW h.B h.d_World_marks c_Tm
  have c_Wt := ok_Wties (P := P) (w := w) (base := base) (mg := mg) h.T0 h.TW h.B h.d_World_ties c_Tt
  have c_are_names := ok_are_names (P := P) (w := w) (base := base) (mg := mg) h.B KP h.d_are_names c_is_sequence c_is_word
  have c_are_functions := ok_are_functions (P := P) (w := w) (base := base) (mg := mg) h.B h.d_are_functions c_is_sequence c_is_key
  have c_Tinit := ok_Tongue_init (P := P) (w := w) (base := base) (mg := mg) h.T0 h.C h.B h.d_Tongue__init c_are_names c_are_functions
  have c_Ninit := ok_Node_init (P := P) (w := w) (base := base) (mg := mg) h.TN h.B h.d_Node__init (c_free 20)
  have c_Node := makeOk c_Ninit h.mN
  have c_node_of := ok_node_of (P := P) (w := w) (base := base) (mg := mg) h.TN h.B h.C h.d_node_of c_sayings_in c_Node
  have c_flag := ok_flagN (P := P) (w := w) (base := base) (mg := mg) (cT := cT) (cW := cW) h.B h.TN h.TR h.TW h.d_Reading_flag h.d_Reading_test h.d_Reading_bound_flag h.d_Reading_searched c_has c_leads
  have c_Rinit := ok_Reading_init (P := P) (w := w) (base := base) (mg := mg) h.TR h.d_Reading__init
  have c_Reading := makeOk c_Rinit h.mR
  have c_is_held := ok_is_held (P := P) (w := w) (base := base) (mg := mg) h.d_is_held h.TR c_Reading (c_node_of 20) (c_flag 20)
  have c_holds := ok_holds (P := P) (w := w) (base := base) (mg := mg) h.TW h.d_holds c_check_closed c_is_held
  have c_check_plain := ok_check_plain (P := P) (w := w) (base := base) (mg := mg) h.T0 h.d_check_plain
  have c_check_thing := ok_check_thing (P := P) (w := w) (base := base) (mg := mg) (cT := cT) h.TW h.d_check_thing c_is_thing
  have c_are_like := ok_are_like (P := P) (w := w) (base := base) (mg := mg) h.T0 h.TW h.TN h.TR h.d_are_like c_Reading (c_node_of 20) (c_flag 20) c_has c_leads c_Tm c_Tt
  have c_tie := ok_tie (P := P) (w := w) (base := base) (mg := mg) h.TG h.B h.d_Growth_tie
  have c_put := ok_put (P := P) (w := w) (base := base) (mg := mg) h.TG h.B h.d_Growth_put c_tie
  have c_Ginit := ok_Growth_init (P := P) (w := w) (base := base) (mg := mg) h.T0 h.TW h.TG h.B h.d_Growth__init c_Tm c_Tt
  have c_Growth := makeOk c_Ginit h.mG
  have c_World := makeOk c_Winit h.mW
  have c_made := ok_made (P := P) (w := w) (base := base) (mg := mg) h.TG h.B h.d_Growth_made_world c_World
  have c_grown := ok_grown (P := P) (w := w) (base := base) (mg := mg) h.T0 h.TW h.TG h.TR h.C h.d_grown c_check_plain c_check_closed c_check_thing c_is_within c_Reading (c_node_of 20) (c_flag 20) c_are_like c_Growth c_put c_made
  have c_draw := ok_draw (P := P) (w := w) (base := base) (mg := mg) h.B h.d_law_draw
  have c_mixed := ok_mixed (P := P) (w := w) (base := base) (mg := mg) h.B h.d_law_mixed c_draw
  have c_quantor := ok_quantor (P := P) (w := w) (base := base) (mg := mg) h.d_law_quantor c_draw
  have c_names := ok_names (P := P) (w := w) (base := base) (mg := mg) h.B h.d_law_names c_draw
  have c_shape := ok_shape (P := P) (w := w) (base := base) (mg := mg) h.B h.d_law_shape c_draw c_names
  have c_Tongue := makeOk c_Tinit h.mT
  have c_tongue := ok_tongue (P := P) (w := w) (base := base) (mg := mg) h.d_law_tongue c_Tongue
  have c_ltest := ok_ltest (P := P) (w := w) (base := base) (mg := mg) h.B h.d_law_test c_draw
  have c_matrix := ok_matrix (P := P) (w := w) (base := base) (mg := mg) h.B h.d_law_matrix c_draw c_ltest
  have c_one := ok_one (P := P) (w := w) (base := base) (mg := mg) h.B h.d_law_one c_draw c_quantor (c_matrix 2) (c_matrix 1)
  have c_closed0 := ok_closed0 (P := P) (w := w) (base := base) (mg := mg) h.B h.d_law_closed c_draw c_quantor c_one
  have c_closed1 := ok_closed1 (P := P) (w := w) (base := base) (mg := mg) h.B h.d_law_closed c_draw c_quantor c_one c_closed0
  have c_lfree := ok_lfree (P := P) (w := w) (base := base) (mg := mg) h.B h.d_law_free
  have c_places := ok_places (P := P) (w := w) (base := base) (mg := mg) h.B h.d_law_places c_lfree
  have c_said := ok_said (P := P) (w := w) (base := base) (mg := mg) h.B h.d_law_said c_quantor c_ltest c_closed1 (c_places 9)
  have c_joined := ok_joined (P := P) (w := w) (base := base) (mg := mg) h.B h.d_law_joined
  have c_lbound := ok_lbound (P := P) (w := w) (base := base) (mg := mg) h.B h.d_law_bound
  have c_rows := ok_rows (P := P) (w := w) (base := base) (mg := mg) h.B h.d_law_rows c_joined c_lbound
  have c_lso := ok_lso (P := P) (w := w) (base := base) (mg := mg) h.B h.d_law_so (c_rows 10)
  have c_linner := ok_linner (P := P) (w := w) (base := base) (mg := mg) h.B h.d_law_inner c_lfree
  have c_lkind := ok_lkind (P := P) (w := w) (base := base) (mg := mg) h.B h.d_law_kind (c_linner 10) (c_rows 10)
  have c_ltwins := ok_ltwins (P := P) (w := w) (base := base) (mg := mg) h.B h.d_law_twins c_draw c_lkind
  have c_drawn := ok_drawn (P := P) (w := w) (base := base) (mg := mg) h.B h.d_law_drawn_world c_draw
  have c_twin_world := ok_twin_world (P := P) (w := w) (base := base) (mg := mg) h.B h.d_law_twin_world c_draw c_drawn c_lso c_ltwins
  have c_lists := ok_lists (P := P) (w := w) (base := base) (mg := mg) h.B h.d_law_lists
  have c_lworld := ok_lworld (P := P) (w := w) (base := base) (mg := mg) h.B h.d_law_world c_lists c_mixed c_tongue c_World
  have c_pool := ok_pool (P := P) (w := w) (base := base) (mg := mg) h.B h.d_law_pool
  exact ok_law h.B h.TW h.NW F0 c_pool c_draw c_shape c_said c_twin_world c_lworld c_grown c_holds c_Weq c_Wm c_Wt
end K48
namespace K48
open PySem PySem.Spec PyProof.Rows L2
theorem kept_no {es : List DictEntry} {P : Params} : ∀ {ks : List Str} {z : Str}, es.map He.keyOf = He.keysIn P ks → z ∉ ks → es.find? (·.key.isStr z) = none ∧ es.any (·.refKey) = false := by
  induction es with
  | nil => intro ks z _ _; exact ⟨rfl, rfl⟩
  | cons e es ih =>
    intro ks z h hz
    cases ks with
    | nil => cases h
    | cons k ks =>
      have h1 : He.keyOf e :: es.map He.keyOf = some (k, PyData.keyHash P k) :: He.keysIn P ks := h
      injection h1 with h2 h3
      obtain ⟨i1, i2⟩ := ih h3 (fun q => hz (List.mem_cons_of_mem _ q))
      have hk : ∃ t, e.key = .str k t := by
        unfold He.keyOf at h2
        split at h2
        · rename_i x t q
          have h4 := Option.some.inj h2
          obtain ⟨h5, h6⟩ := Prod.mk.inj h4
          exact ⟨t, by rw [q, h5]⟩
        · cases h2
      obtain ⟨t, hk⟩ := hk
      have hne : (k == z) = false := by
        cases q : k == z with
        | false => rfl
        | true => exact absurd (by rw [← eq_of_beq q]; exact List.mem_cons_self ..) hz
      refine ⟨?_, ?_⟩
      · rw [List.find?_cons]
        rw [show e.key.isStr z = false by rw [hk]; exact hne]
        exact i1
      · rw [List.any_cons, i2, Bool.or_false]
        unfold DictEntry.refKey
        rw [hk]
section
variable {w : World} {K : PySem.W.Frag} {h : Heap} {mg : Str → Option Value}
theorem hf_of (X : K.In h) (G : h.Ns mainGlobals mg) (c : obH K = vlH w) : HF w K mg (He.ga K "Tongue") (He.ga K "World") (He.ga K "Node") (He.ga K "Reading") (He.ga K "Growth") := by
  have c0 : chk K = true := congrArg (fun z : AlH => z.1) c
  have c1 : dfL.map (fun d => d.sg K) = dfL.map DefY.val := congrArg (fun z : AlH => z.2.1) c
  have c2 : He.dicW K (He.ga K "KEPT_WORDS") = some (He.keysIn w.params keptL) := congrArg (fun z : AlH => z.2.2) c
  obtain ⟨b1, b⟩ := He.ba c0
  obtain ⟨b2, b⟩ := He.ba b
  obtain ⟨b3, b⟩ := He.ba b
  obtain ⟨b4, b5⟩ := He.ba b
  have F : ∀ (i : Nat) {f : He.Fa}, faL[i]? = some f → f.ok K = true := fun i f hf => List.all_eq_true.mp b1 f (List.mem_of_getElem? hf)
  have DF : ∀ (i : Nat) {d : DefY}, dfL[i]? = some d → ∃ fd, FunD K d.name d.qual (defArgs d.st) (defBody d.st) (defScope d.st) [] [] (d.ad K) fd := fun i d hd => DefY.funD (map_eq_at c1 d (List.mem_of_getElem? hd)) (List.all_eq_true.mp b2 d (List.mem_of_getElem? hd))
  have PF : ∀ (i : Nat) {q : Str × Str}, prL[i]? = some q → PropOf K (He.ga K q.1) q.2 (prA K (He.ga K q.1) q.2) (grA K (prA K (He.ga K q.1) q.2)) := fun i q hq => prB_ok (List.all_eq_true.mp b3 q (List.mem_of_getElem? hq))
  have glo : ∀ (i : Nat) {x : Str}, faL[i]? = some (.glo x) → mg x = some (.ref (He.ga K x)) := fun i x hf => He.glo_ok X G (F i hf)
  have fre : ∀ (i : Nat) {x : Str}, faL[i]? = some (.free x) → mg x = none := fun i x hf => He.free_ok X G (F i hf)
  have df : ∀ (i j : Nat) {x : Str} {st : Stmt}, faL[i]? = some (.glo x) → dfL[j]? = some ⟨fun K => He.ga K x, x, x, st⟩ → Def K mg x st := fun i j x st hf hd => by
    obtain ⟨fd, hfd⟩ := DF j hd
    exact ⟨_, fd, glo i hf, hfd⟩
  have mf : ∀ (i j : Nat) {C m q : Str} {st : Stmt}, faL[i]? = some (.meth C m) → dfL[j]? = some ⟨fun K => He.ma K (He.ga K C) m, m, q, st⟩ → Mth K (He.ga K C) m q st := fun i j C m q st hf hd => by
    obtain ⟨fd, hfd⟩ := DF j hd
    exact ⟨_, fd, He.meth_ok (F i hf), hfd⟩
  have pf : ∀ (i j : Nat) {C m q : Str} {st : Stmt}, prL[i]? = some (C, m) → dfL[j]? = some ⟨fun K => grA K (prA K (He.ga K C) m), m, q, st⟩ → Prp K (He.ga K C) m q st := fun i j C m q st hf hd => by
    obtain ⟨fd, hfd⟩ := DF j hd
    exact ⟨_, _, fd, PF i hf, hfd⟩
  have mk : ∀ (i j : Nat) {x : Str}, faL[i]? = some (.glo x) → faL[j]? = some (.mkr x) → mg x = some (.ref (He.ga K x)) ∧ PySem.W.makesIn K (He.ga K x) = true ∧ PySem.W.keepIn K (.ref (He.ga K x)) = true := fun i j x hf hm => by
    have M := He.mkr_ok (F j hm)
    exact ⟨glo i hf, M.makes, M.kp⟩
  have ic : ∀ {x : Str}, Cls K (He.ga K x) → clB K x = true → IsiC K (He.ga K x) ∧ NeF K (He.ga K x) := fun {x} hc h => by
    obtain ⟨h1, h⟩ := He.ba h
    obtain ⟨h2, h⟩ := He.ba h
    obtain ⟨h3, h⟩ := He.ba h
    obtain ⟨h4, h5⟩ := He.ba h
    exact ⟨⟨hc, He.eqO_ok h1, He.eqO_ok h2, of_decide_eq_true h3, of_decide_eq_true h4⟩, ⟨He.eqO_ok h5, of_decide_eq_true h4⟩⟩
  have tp : ∀ (i : Nat) {x : Str} {vs : List He.Dv}, faL[i]? = some (.glo x) → He.tupB K x vs = true → TupG K mg x (vs.map (He.Dv.v K)) := fun i x vs hf ht => ⟨_, glo i hf, fun H => He.tupB_ok ht H⟩
  obtain ⟨t12, t3⟩ := He.ba b5
  obtain ⟨t1, t2⟩ := He.ba t12
  obtain ⟨k1, k2⟩ := He.ba b4
  have clT : Cls K (He.ga K "Tongue") := He.cls_ok (F 87 rfl)
  have clW : Cls K (He.ga K "World") := He.cls_ok (F 89 rfl)
  exact {
    C := { LETTERS := He.str_ok X G (F 86 rfl)
           MOST_LETTERS := He.int_ok X G (F 80 rfl)
           MOST_TUPLES := He.int_ok X G (F 81 rfl)
           MOST_DEEP := He.int_ok X G (F 82 rfl)
           MOST_THINGS := He.int_ok X G (F 83 rfl)
           MOST_MARKS := He.int_ok X G (F 84 rfl)
           MOST_TIES := He.int_ok X G (F 85 rfl)
           NAMES := tp 63 rfl t1
           BINDING := tp 64 rfl t2
           JOINING := tp 65 rfl t3 }
    B := { len := fre 67 rfl
           isinstance := fre 68 rfl
           int := fre 69 rfl
           bool := fre 70 rfl
           str := fre 71 rfl
           list := fre 72 rfl
           tuple := fre 73 rfl
           dict := fre 74 rfl
           sorted := fre 75 rfl
           range := fre 76 rfl
           sum := fre 77 rfl
           abs := fre 78 rfl
           max := fre 79 rfl }
    KP := by
      obtain ⟨es, n, kd⟩ := He.dicW_ok c2
      refine ⟨_, es, n, glo 66 rfl, kd, fun z hz => ?_⟩
      have h1 := c2
      unfold He.dicW at h1
      rw [kd.at_] at h1
      have h2 : es.toList.map He.keyOf = He.keysIn w.params keptL := by
        have hb : (decide (("dict" : String) = "dict") && ((#[] : Array (Option Value)).isEmpty && !(He.ga K "KEPT_WORDS" == sysModules))) = true := by rw [kd.low]; rfl
        dsimp only at h1
        rw [hb] at h1
        exact Option.some.inj h1
      obtain ⟨h3, h4⟩ := kept_no h2 hz
      unfold PySem.W.nsIn
      rw [kd.at_]
      simp only [h3, h4]
      rfl
    T0 := { cl := He.cls_ok (F 87 rfl), nm := He.noat_ok (F 97 rfl), nt := He.noat_ok (F 98 rfl), nf := He.noat_ok (F 99 rfl) }
    TW := { cl := He.cls_ok (F 89 rfl), nT := He.noat_ok (F 100 rfl), nn := He.noat_ok (F 101 rfl), nm := He.noat_ok (F 102 rfl), nt := He.noat_ok (F 103 rfl) }
    TN := { cl := He.cls_ok (F 91 rfl), nw := He.noat_ok (F 104 rfl), nn := He.noat_ok (F 105 rfl), np := He.noat_ok (F 106 rfl), nf := He.noat_ok (F 107 rfl), nu := He.noat_ok (F 108 rfl) }
    TR := { cl := He.cls_ok (F 93 rfl), nw := He.noat_ok (F 109 rfl), nt := He.noat_ok (F 110 rfl) }
    TG := { cl := He.cls_ok (F 95 rfl), nT := He.noat_ok (F 111 rfl), n1 := He.noat_ok (F 112 rfl), n2 := He.noat_ok (F 113 rfl), nn := He.noat_ok (F 114 rfl), nm := He.noat_ok (F 115 rfl), nt := He.noat_ok (F 116 rfl) }
    IT := (ic clT k1).1
    NT := (ic clT k1).2
    IW := (ic clW k2).1
    NW := (ic clW k2).2
    mT := mk 58 88 rfl rfl
    mW := mk 59 90 rfl rfl
    mN := mk 60 92 rfl rfl
    mR := mk 61 94 rfl rfl
    mG := mk 62 96 rfl rfl
    d_is_integer := df 0 0 rfl rfl
    d_is_within := df 1 1 rfl rfl
    d_is_sequence := df 2 2 rfl rfl
    d_is_tuple := df 3 3 rfl rfl
    d_is_headed := df 4 4 rfl rfl
    d_is_key := df 5 5 rfl rfl
    d_is_word := df 6 6 rfl rfl
    d_is_name := df 7 7 rfl rfl
    d_is_test := df 8 8 rfl rfl
    d_parts_of := df 9 9 rfl rfl
    d_sayings_in := df 10 10 rfl rfl
    d_own_names := df 11 11 rfl rfl
    d_free_names := df 12 12 rfl rfl
    d_is_saying := df 13 13 rfl rfl
    d_check_saying := df 14 14 rfl rfl
    d_check_closed := df 15 15 rfl rfl
    d_is_thing := df 16 16 rfl rfl
    d_is_pair := df 17 17 rfl rfl
    d_is_dict_of := df 18 18 rfl rfl
    d_are_things := df 19 19 rfl rfl
    d_are_pairs := df 20 20 rfl rfl
    d_check_marks := df 21 21 rfl rfl
    d_check_ties := df 22 22 rfl rfl
    d_are_names := df 23 23 rfl rfl
    d_are_functions := df 24 24 rfl rfl
    d_node_of := df 25 25 rfl rfl
    d_is_held := df 26 26 rfl rfl
    d_holds := df 27 27 rfl rfl
    d_check_plain := df 28 28 rfl rfl
    d_check_thing := df 29 29 rfl rfl
    d_are_like := df 30 30 rfl rfl
    d_grown := df 31 31 rfl rfl
    d_law_draw := df 32 32 rfl rfl
    d_law_mixed := df 33 33 rfl rfl
    d_law_quantor := df 34 34 rfl rfl
    d_law_names := df 35 35 rfl rfl
    d_law_shape := df 36 36 rfl rfl
    d_law_tongue := df 37 37 rfl rfl
    d_law_test := df 38 38 rfl rfl
    d_law_matrix := df 39 39 rfl rfl
    d_law_one := df 40 40 rfl rfl
    d_law_closed := df 41 41 rfl rfl
    d_law_free := df 42 42 rfl rfl
    d_law_joined := df 43 43 rfl rfl
    d_law_bound := df 44 44 rfl rfl
    d_law_drawn_world := df 45 45 rfl rfl
    d_law_lists := df 46 46 rfl rfl
    d_law_places := df 47 47 rfl rfl
    d_law_said := df 48 48 rfl rfl
    d_law_rows := df 49 49 rfl rfl
    d_law_world := df 50 50 rfl rfl
    d_law_so := df 51 51 rfl rfl
    d_law_inner := df 52 52 rfl rfl
    d_law_kind := df 53 53 rfl rfl
    d_law_twins := df 54 54 rfl rfl
    d_law_twin_world := df 55 55 rfl rfl
    d_law_pool := df 56 56 rfl rfl
    d_law := df 57 57 rfl rfl
    d_World__init := mf 117 58 rfl rfl
    d_World_has := mf 118 59 rfl rfl
    d_World_leads := mf 119 60 rfl rfl
    d_Tongue__eq := mf 120 61 rfl rfl
    d_World__eq := mf 121 62 rfl rfl
    d_Tongue__init := mf 122 63 rfl rfl
    d_Node__init := mf 123 64 rfl rfl
    d_Reading_test := mf 124 65 rfl rfl
    d_Reading_flag := mf 125 66 rfl rfl
    d_Reading_searched := mf 126 67 rfl rfl
    d_Reading_bound_flag := mf 127 68 rfl rfl
    d_Reading__init := mf 128 69 rfl rfl
    d_Growth_tie := mf 129 70 rfl rfl
    d_Growth_put := mf 130 71 rfl rfl
    d_Growth__init := mf 131 72 rfl rfl
    d_Growth_made_world := mf 132 73 rfl rfl
    d_Tongue_marks := pf 0 74 rfl rfl
    d_Tongue_ties := pf 1 75 rfl rfl
    d_World_marks := pf 2 76 rfl rfl
    d_World_ties := pf 3 77 rfl rfl }
end
end K48
open PySem PySem.W PySem.Calls PyProof.Rows
theorem PySem.Challenge.cw_pairsayings_k48_whole_copies_in_steps_holds : PySem.Challenge.rw_pairsayings_k48_whole_copies_in_steps.Holds := by
  w_on; o_law
  refine HandSHeadRun.head_any (r := OpenLaw.row PySem.Challenge.rw_pairsayings_k48_whole_copies_in_steps) (q := view (OpenLaw.row PySem.Challenge.rw_pairsayings_k48_whole_copies_in_steps).prog [94]) (H := K48.hkL) (ob := K48.ob) (M := 7000) (loose := K48.namesA) (d := HandSHeadRun.topDef (OpenLaw.row PySem.Challenge.rw_pairsayings_k48_whole_copies_in_steps).prog 94) (kwd := []) K48.ob_eq
    (by kernel_rfl) (fun s => by kernel_rfl) K48.run (by kernel_rfl) (by kernel_rfl) (by kernel_rfl) (by rfl) (by first | assumption | decide +kernel) (by decide +kernel) ⟨rfl, rfl, rfl, rfl, rfl, by decide +kernel⟩ ?hw ?hc
  case hw => w_witness2
  case hc =>
    refine L2.walk_ofE (l := PySem.Challenge.rw_pairsayings_k48_whole_copies_in_steps) (n := 63) (k := 86) (x := "_law_script") (CX := L2.CX0) rfl (by decide) (by kernel_rfl) ⟨rfl, by decide, by decide⟩ ?F (fun _ _ _ _ z => z)
    intro w mg fa h Y G hmg0
    obtain ⟨K, KX, c⟩ := Y
    have hmg : mg ("law" : PySem.Str) = some (.ref fa) := by
      have e : (HandSHeadRun.topDef (OpenLaw.row PySem.Challenge.rw_pairsayings_k48_whole_copies_in_steps).prog 94).name = ("law" : PySem.Str) := by kernel_rfl
      rw [← e]
      exact hmg0
    have hf := K48.hf_of KX G c
    obtain ⟨f, fd, e, F⟩ := hf.d_law
    have e2 := hmg.symm.trans e
    cases e2
    have b := L2.FunD.bindsA (ps := ["_law_script"]) F fun _ _ _ _ _ _ us hl => match us, hl with | [_], _ => rfl
    exact ⟨K, fd, K48.spLaw K, KX, fun s v => b s [v] rfl, fun H a ns hl _ hS => ⟨a, ns, rfl, hS, hl, fun _ => rfl⟩, fun base _ _ => K48.all_ok hf F⟩
