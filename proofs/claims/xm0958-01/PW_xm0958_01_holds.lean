import PyProof.Rows.All
import Wide.All
import OpenK.AllK
import Wide.FinOn
import Lean
import PySem.Challenge.RW_xm0958_01

open PySem PySem.W PyProof.Rows PySem.Spec PySem.Calls
set_option Elab.async false
set_option maxRecDepth 100000
set_option genInjectivity false
set_option genSizeOf false
set_option genSizeOfSpec false

section
set_option maxHeartbeats 0
namespace Mine
noncomputable def fA : Stmt → Arguments
  | .FunctionDef _ a _ _ _ _ _ _ _ _ => a
  | _ => ⟨[], [], none, [], [], none, []⟩
noncomputable def fB : Stmt → List Stmt
  | .FunctionDef _ _ b _ _ _ _ _ _ _ => b
  | .ClassDef _ _ _ b _ _ _ _ _ _ _ => b
  | _ => []
noncomputable def fC : Stmt → Scope
  | .FunctionDef _ _ _ _ _ _ s _ _ _ => s
  | _ => ⟨.function, [], false, false, []⟩
noncomputable def atN (l : List Stmt) (i : Nat) : Stmt := match l, i with
  | [], _ => .Pass ⟨0, 0, 0, 0⟩
  | s :: _, 0 => s
  | _ :: r, i + 1 => atN r i
noncomputable def top1 (i : Nat) : Stmt := atN PySem.Challenge.pw_xm0958_01.main.body i
noncomputable def top2 (i j : Nat) : Stmt := atN (fB (top1 i)) j
noncomputable def o23 : {o : Obj // o = ⟨.type "function", none, .func ⟨"row_of", "row_of", fA (top1 23), .stmts (fB (top1 23)), fC (top1 23), mainGlobals, [], .none, .none, .none, (.str "snobol.compile_pattern" 187), none, (.ref 22), .none, builtinsNs⟩, (List.toArray [])⟩} := ⟨⟨.type "function", none, .func ⟨"row_of", "row_of", ⟨_, _, _, _, _, _, _⟩, .stmts (_ :: _), ⟨_, _, _, _, _⟩, mainGlobals, [], .none, .none, .none, (.str "snobol.compile_pattern" 187), none, (.ref 22), .none, builtinsNs⟩, (List.toArray [])⟩, rfl⟩
noncomputable def o30 : {o : Obj // o = ⟨.type "function", none, .func ⟨"is_plain_text", "is_plain_text", fA (top1 24), .stmts (fB (top1 24)), fC (top1 24), mainGlobals, [], .none, .none, .none, (.str "snobol.compile_pattern" 187), none, (.ref 29), .none, builtinsNs⟩, (List.toArray [])⟩} := ⟨⟨.type "function", none, .func ⟨"is_plain_text", "is_plain_text", ⟨_, _, _, _, _, _, _⟩, .stmts (_ :: _), ⟨_, _, _, _, _⟩, mainGlobals, [], .none, .none, .none, (.str "snobol.compile_pattern" 187), none, (.ref 29), .none, builtinsNs⟩, (List.toArray [])⟩, rfl⟩
noncomputable def o37 : {o : Obj // o = ⟨.type "function", none, .func ⟨"with_texts_joined", "with_texts_joined", fA (top1 25), .stmts (fB (top1 25)), fC (top1 25), mainGlobals, [], .none, .none, .none, (.str "snobol.compile_pattern" 187), none, (.ref 36), .none, builtinsNs⟩, (List.toArray [])⟩} := ⟨⟨.type "function", none, .func ⟨"with_texts_joined", "with_texts_joined", ⟨_, _, _, _, _, _, _⟩, .stmts (_ :: _), ⟨_, _, _, _, _⟩, mainGlobals, [], .none, .none, .none, (.str "snobol.compile_pattern" 187), none, (.ref 36), .none, builtinsNs⟩, (List.toArray [])⟩, rfl⟩
noncomputable def o51 : {o : Obj // o = ⟨.type "function", none, .func ⟨"__init__", "PatternCode.__init__", fA (top2 26 0), .stmts (fB (top2 26 0)), fC (top2 26 0), mainGlobals, [], .none, .none, .none, (.str "snobol.compile_pattern" 187), none, (.ref 50), .none, builtinsNs⟩, (List.toArray [])⟩} := ⟨⟨.type "function", none, .func ⟨"__init__", "PatternCode.__init__", ⟨_, _, _, _, _, _, _⟩, .stmts (_ :: _), ⟨_, _, _, _, _⟩, mainGlobals, [], .none, .none, .none, (.str "snobol.compile_pattern" 187), none, (.ref 50), .none, builtinsNs⟩, (List.toArray [])⟩, rfl⟩
noncomputable def o58 : {o : Obj // o = ⟨.type "function", none, .func ⟨"emit", "PatternCode.emit", fA (top2 26 1), .stmts (fB (top2 26 1)), fC (top2 26 1), mainGlobals, [], .none, .none, .none, (.str "snobol.compile_pattern" 187), none, (.ref 57), .none, builtinsNs⟩, (List.toArray [])⟩} := ⟨⟨.type "function", none, .func ⟨"emit", "PatternCode.emit", ⟨_, _, _, _, _, _, _⟩, .stmts (_ :: _), ⟨_, _, _, _, _⟩, mainGlobals, [], .none, .none, .none, (.str "snobol.compile_pattern" 187), none, (.ref 57), .none, builtinsNs⟩, (List.toArray [])⟩, rfl⟩
noncomputable def o65 : {o : Obj // o = ⟨.type "function", none, .func ⟨"put", "PatternCode.put", fA (top2 26 2), .stmts (fB (top2 26 2)), fC (top2 26 2), mainGlobals, [], .none, .none, .none, (.str "snobol.compile_pattern" 187), none, (.ref 64), .none, builtinsNs⟩, (List.toArray [])⟩} := ⟨⟨.type "function", none, .func ⟨"put", "PatternCode.put", ⟨_, _, _, _, _, _, _⟩, .stmts (_ :: _), ⟨_, _, _, _, _⟩, mainGlobals, [], .none, .none, .none, (.str "snobol.compile_pattern" 187), none, (.ref 64), .none, builtinsNs⟩, (List.toArray [])⟩, rfl⟩
noncomputable def o70 : {o : Obj // o = ⟨.type "function", none, .func ⟨"begun", "PatternCode.begun", fA (top2 26 3), .stmts (fB (top2 26 3)), fC (top2 26 3), mainGlobals, [], .none, .none, .none, (.str "snobol.compile_pattern" 187), none, (.ref 69), .none, builtinsNs⟩, (List.toArray [])⟩} := ⟨⟨.type "function", none, .func ⟨"begun", "PatternCode.begun", ⟨_, _, _, _, _, _, _⟩, .stmts (_ :: _), ⟨_, _, _, _, _⟩, mainGlobals, [], .none, .none, .none, (.str "snobol.compile_pattern" 187), none, (.ref 69), .none, builtinsNs⟩, (List.toArray [])⟩, rfl⟩
noncomputable def o105 : {o : Obj // o = ⟨.type "function", none, .func ⟨"straightened", "straightened", fA (top1 27), .stmts (fB (top1 27)), fC (top1 27), mainGlobals, [], .none, .none, .none, (.str "snobol.compile_pattern" 187), none, (.ref 104), .none, builtinsNs⟩, (List.toArray [])⟩} := ⟨⟨.type "function", none, .func ⟨"straightened", "straightened", ⟨_, _, _, _, _, _, _⟩, .stmts (_ :: _), ⟨_, _, _, _, _⟩, mainGlobals, [], .none, .none, .none, (.str "snobol.compile_pattern" 187), none, (.ref 104), .none, builtinsNs⟩, (List.toArray [])⟩, rfl⟩
noncomputable def o112 : {o : Obj // o = ⟨.type "function", none, .func ⟨"compile_pattern", "compile_pattern", fA (top1 28), .stmts (fB (top1 28)), fC (top1 28), mainGlobals, [], .none, .none, .none, (.str "snobol.compile_pattern" 187), none, (.ref 111), .none, builtinsNs⟩, (List.toArray [])⟩} := ⟨⟨.type "function", none, .func ⟨"compile_pattern", "compile_pattern", ⟨_, _, _, _, _, _, _⟩, .stmts (_ :: _), ⟨_, _, _, _, _⟩, mainGlobals, [], .none, .none, .none, (.str "snobol.compile_pattern" 187), none, (.ref 111), .none, builtinsNs⟩, (List.toArray [])⟩, rfl⟩
noncomputable def o205 : {o : Obj // o = ⟨.type "function", none, .func ⟨"__init__", "NameRef.__init__", fA (top2 34 0), .stmts (fB (top2 34 0)), fC (top2 34 0), mainGlobals, [], .none, .none, .none, (.str "snobol.values" 375), none, (.ref 204), .none, builtinsNs⟩, (List.toArray [])⟩} := ⟨⟨.type "function", none, .func ⟨"__init__", "NameRef.__init__", ⟨_, _, _, _, _, _, _⟩, .stmts (_ :: _), ⟨_, _, _, _, _⟩, mainGlobals, [], .none, .none, .none, (.str "snobol.values" 375), none, (.ref 204), .none, builtinsNs⟩, (List.toArray [])⟩, rfl⟩
noncomputable def o306 : {o : Obj // o = ⟨.type "function", none, .func ⟨"chars_end", "chars_end", fA (top1 54), .stmts (fB (top1 54)), fC (top1 54), mainGlobals, [], .none, .none, .none, (.str "snobol.primitives" 638), none, (.ref 305), .none, builtinsNs⟩, (List.toArray [])⟩} := ⟨⟨.type "function", none, .func ⟨"chars_end", "chars_end", ⟨_, _, _, _, _, _, _⟩, .stmts (_ :: _), ⟨_, _, _, _, _⟩, mainGlobals, [], .none, .none, .none, (.str "snobol.primitives" 638), none, (.ref 305), .none, builtinsNs⟩, (List.toArray [])⟩, rfl⟩
noncomputable def o313 : {o : Obj // o = ⟨.type "function", none, .func ⟨"len_end", "len_end", fA (top1 55), .stmts (fB (top1 55)), fC (top1 55), mainGlobals, [], .none, .none, .none, (.str "snobol.primitives" 638), none, (.ref 312), .none, builtinsNs⟩, (List.toArray [])⟩} := ⟨⟨.type "function", none, .func ⟨"len_end", "len_end", ⟨_, _, _, _, _, _, _⟩, .stmts (_ :: _), ⟨_, _, _, _, _⟩, mainGlobals, [], .none, .none, .none, (.str "snobol.primitives" 638), none, (.ref 312), .none, builtinsNs⟩, (List.toArray [])⟩, rfl⟩
noncomputable def o390 : {o : Obj // o = ⟨.type "function", none, .func ⟨"arb_ends", "arb_ends", fA (top1 66), .stmts (fB (top1 66)), fC (top1 66), mainGlobals, [], .none, .none, .none, (.str "snobol.primitives" 638), none, (.ref 389), .none, builtinsNs⟩, (List.toArray [])⟩} := ⟨⟨.type "function", none, .func ⟨"arb_ends", "arb_ends", ⟨_, _, _, _, _, _, _⟩, .stmts (_ :: _), ⟨_, _, _, _, _⟩, mainGlobals, [], .none, .none, .none, (.str "snobol.primitives" 638), none, (.ref 389), .none, builtinsNs⟩, (List.toArray [])⟩, rfl⟩
noncomputable def o411 : {o : Obj // o = ⟨.type "function", none, .func ⟨"one_end", "one_end", fA (top1 69), .stmts (fB (top1 69)), fC (top1 69), mainGlobals, [], .none, .none, .none, (.str "snobol.primitives" 638), none, (.ref 410), .none, builtinsNs⟩, (List.toArray [])⟩} := ⟨⟨.type "function", none, .func ⟨"one_end", "one_end", ⟨_, _, _, _, _, _, _⟩, .stmts (_ :: _), ⟨_, _, _, _, _⟩, mainGlobals, [], .none, .none, .none, (.str "snobol.primitives" 638), none, (.ref 410), .none, builtinsNs⟩, (List.toArray [])⟩, rfl⟩
noncomputable def o418 : {o : Obj // o = ⟨.type "function", none, .func ⟨"plain_end", "plain_end", fA (top1 70), .stmts (fB (top1 70)), fC (top1 70), mainGlobals, [], .none, .none, .none, (.str "snobol.primitives" 638), none, (.ref 417), .none, builtinsNs⟩, (List.toArray [])⟩} := ⟨⟨.type "function", none, .func ⟨"plain_end", "plain_end", ⟨_, _, _, _, _, _, _⟩, .stmts (_ :: _), ⟨_, _, _, _, _⟩, mainGlobals, [], .none, .none, .none, (.str "snobol.primitives" 638), none, (.ref 417), .none, builtinsNs⟩, (List.toArray [])⟩, rfl⟩
noncomputable def o425 : {o : Obj // o = ⟨.type "function", none, .func ⟨"ends_of", "ends_of", fA (top1 71), .stmts (fB (top1 71)), fC (top1 71), mainGlobals, [], .none, .none, .none, (.str "snobol.primitives" 638), none, (.ref 424), .none, builtinsNs⟩, (List.toArray [])⟩} := ⟨⟨.type "function", none, .func ⟨"ends_of", "ends_of", ⟨_, _, _, _, _, _, _⟩, .stmts (_ :: _), ⟨_, _, _, _, _⟩, mainGlobals, [], .none, .none, .none, (.str "snobol.primitives" 638), none, (.ref 424), .none, builtinsNs⟩, (List.toArray [])⟩, rfl⟩
noncomputable def o439 : {o : Obj // o = ⟨.type "function", none, .func ⟨"__init__", "Way.__init__", fA (top2 76 0), .stmts (fB (top2 76 0)), fC (top2 76 0), mainGlobals, [], .none, .none, .none, (.str "snobol.pattern_machine" 811), none, (.ref 438), .none, builtinsNs⟩, (List.toArray [])⟩} := ⟨⟨.type "function", none, .func ⟨"__init__", "Way.__init__", ⟨_, _, _, _, _, _, _⟩, .stmts (_ :: _), ⟨_, _, _, _, _⟩, mainGlobals, [], .none, .none, .none, (.str "snobol.pattern_machine" 811), none, (.ref 438), .none, builtinsNs⟩, (List.toArray [])⟩, rfl⟩
noncomputable def o446 : {o : Obj // o = ⟨.type "function", none, .func ⟨"copied", "Way.copied", fA (top2 76 1), .stmts (fB (top2 76 1)), fC (top2 76 1), mainGlobals, [], .none, .none, .none, (.str "snobol.pattern_machine" 811), none, (.ref 445), .none, builtinsNs⟩, (List.toArray [])⟩} := ⟨⟨.type "function", none, .func ⟨"copied", "Way.copied", ⟨_, _, _, _, _, _, _⟩, .stmts (_ :: _), ⟨_, _, _, _, _⟩, mainGlobals, [], .none, .none, .none, (.str "snobol.pattern_machine" 811), none, (.ref 445), .none, builtinsNs⟩, (List.toArray [])⟩, rfl⟩
noncomputable def o467 : {o : Obj // o = ⟨.type "function", none, .func ⟨"__init__", "Match.__init__", fA (top2 77 0), .stmts (fB (top2 77 0)), fC (top2 77 0), mainGlobals, [], .none, .none, .none, (.str "snobol.pattern_machine" 811), none, (.ref 466), .none, builtinsNs⟩, (List.toArray [])⟩} := ⟨⟨.type "function", none, .func ⟨"__init__", "Match.__init__", ⟨_, _, _, _, _, _, _⟩, .stmts (_ :: _), ⟨_, _, _, _, _⟩, mainGlobals, [], .none, .none, .none, (.str "snobol.pattern_machine" 811), none, (.ref 466), .none, builtinsNs⟩, (List.toArray [])⟩, rfl⟩
noncomputable def o474 : {o : Obj // o = ⟨.type "function", none, .func ⟨"run", "Match.run", fA (top2 77 1), .stmts (fB (top2 77 1)), fC (top2 77 1), mainGlobals, [], .none, .none, .none, (.str "snobol.pattern_machine" 811), none, (.ref 473), .none, builtinsNs⟩, (List.toArray [])⟩} := ⟨⟨.type "function", none, .func ⟨"run", "Match.run", ⟨_, _, _, _, _, _, _⟩, .stmts (_ :: _), ⟨_, _, _, _, _⟩, mainGlobals, [], .none, .none, .none, (.str "snobol.pattern_machine" 811), none, (.ref 473), .none, builtinsNs⟩, (List.toArray [])⟩, rfl⟩
noncomputable def o481 : {o : Obj // o = ⟨.type "function", none, .func ⟨"way_back", "Match.way_back", fA (top2 77 2), .stmts (fB (top2 77 2)), fC (top2 77 2), mainGlobals, [], .none, .none, .none, (.str "snobol.pattern_machine" 811), none, (.ref 480), .none, builtinsNs⟩, (List.toArray [])⟩} := ⟨⟨.type "function", none, .func ⟨"way_back", "Match.way_back", ⟨_, _, _, _, _, _, _⟩, .stmts (_ :: _), ⟨_, _, _, _, _⟩, mainGlobals, [], .none, .none, .none, (.str "snobol.pattern_machine" 811), none, (.ref 480), .none, builtinsNs⟩, (List.toArray [])⟩, rfl⟩
noncomputable def o488 : {o : Obj // o = ⟨.type "function", none, .func ⟨"done", "Match.done", fA (top2 77 3), .stmts (fB (top2 77 3)), fC (top2 77 3), mainGlobals, [], .none, .none, .none, (.str "snobol.pattern_machine" 811), none, (.ref 487), .none, builtinsNs⟩, (List.toArray [])⟩} := ⟨⟨.type "function", none, .func ⟨"done", "Match.done", ⟨_, _, _, _, _, _, _⟩, .stmts (_ :: _), ⟨_, _, _, _, _⟩, mainGlobals, [], .none, .none, .none, (.str "snobol.pattern_machine" 811), none, (.ref 487), .none, builtinsNs⟩, (List.toArray [])⟩, rfl⟩
noncomputable def o495 : {o : Obj // o = ⟨.type "function", none, .func ⟨"met_once", "Match.met_once", fA (top2 77 4), .stmts (fB (top2 77 4)), fC (top2 77 4), mainGlobals, [], .none, .none, .none, (.str "snobol.pattern_machine" 811), none, (.ref 494), .none, builtinsNs⟩, (List.toArray [])⟩} := ⟨⟨.type "function", none, .func ⟨"met_once", "Match.met_once", ⟨_, _, _, _, _, _, _⟩, .stmts (_ :: _), ⟨_, _, _, _, _⟩, mainGlobals, [], .none, .none, .none, (.str "snobol.pattern_machine" 811), none, (.ref 494), .none, builtinsNs⟩, (List.toArray [])⟩, rfl⟩
noncomputable def o502 : {o : Obj // o = ⟨.type "function", none, .func ⟨"ended", "Match.ended", fA (top2 77 5), .stmts (fB (top2 77 5)), fC (top2 77 5), mainGlobals, [], .none, .none, .none, (.str "snobol.pattern_machine" 811), none, (.ref 501), .none, builtinsNs⟩, (List.toArray [])⟩} := ⟨⟨.type "function", none, .func ⟨"ended", "Match.ended", ⟨_, _, _, _, _, _, _⟩, .stmts (_ :: _), ⟨_, _, _, _, _⟩, mainGlobals, [], .none, .none, .none, (.str "snobol.pattern_machine" 811), none, (.ref 501), .none, builtinsNs⟩, (List.toArray [])⟩, rfl⟩
noncomputable def o509 : {o : Obj // o = ⟨.type "function", none, .func ⟨"other", "Match.other", fA (top2 77 6), .stmts (fB (top2 77 6)), fC (top2 77 6), mainGlobals, [], .none, .none, .none, (.str "snobol.pattern_machine" 811), none, (.ref 508), .none, builtinsNs⟩, (List.toArray [])⟩} := ⟨⟨.type "function", none, .func ⟨"other", "Match.other", ⟨_, _, _, _, _, _, _⟩, .stmts (_ :: _), ⟨_, _, _, _, _⟩, mainGlobals, [], .none, .none, .none, (.str "snobol.pattern_machine" 811), none, (.ref 508), .none, builtinsNs⟩, (List.toArray [])⟩, rfl⟩
noncomputable def o516 : {o : Obj // o = ⟨.type "function", none, .func ⟨"met_often", "Match.met_often", fA (top2 77 7), .stmts (fB (top2 77 7)), fC (top2 77 7), mainGlobals, [], .none, .none, .none, (.str "snobol.pattern_machine" 811), none, (.ref 515), .none, builtinsNs⟩, (List.toArray [])⟩} := ⟨⟨.type "function", none, .func ⟨"met_often", "Match.met_often", ⟨_, _, _, _, _, _, _⟩, .stmts (_ :: _), ⟨_, _, _, _, _⟩, mainGlobals, [], .none, .none, .none, (.str "snobol.pattern_machine" 811), none, (.ref 515), .none, builtinsNs⟩, (List.toArray [])⟩, rfl⟩
noncomputable def o537 : {o : Obj // o = ⟨.type "function", none, .func ⟨"named_rows", "named_rows", fA (top1 78), .stmts (fB (top1 78)), fC (top1 78), mainGlobals, [], .none, .none, .none, (.str "snobol.pattern_machine" 811), none, (.ref 536), .none, builtinsNs⟩, (List.toArray [])⟩} := ⟨⟨.type "function", none, .func ⟨"named_rows", "named_rows", ⟨_, _, _, _, _, _, _⟩, .stmts (_ :: _), ⟨_, _, _, _, _⟩, mainGlobals, [], .none, .none, .none, (.str "snobol.pattern_machine" 811), none, (.ref 536), .none, builtinsNs⟩, (List.toArray [])⟩, rfl⟩
noncomputable def o544 : {o : Obj // o = ⟨.type "function", none, .func ⟨"match_orders", "match_orders", fA (top1 79), .stmts (fB (top1 79)), fC (top1 79), mainGlobals, [], .none, .none, .none, (.str "snobol.pattern_machine" 811), none, (.ref 543), .none, builtinsNs⟩, (List.toArray [])⟩} := ⟨⟨.type "function", none, .func ⟨"match_orders", "match_orders", ⟨_, _, _, _, _, _, _⟩, .stmts (_ :: _), ⟨_, _, _, _, _⟩, mainGlobals, [], .none, .none, .none, (.str "snobol.pattern_machine" 811), none, (.ref 543), .none, builtinsNs⟩, (List.toArray [])⟩, rfl⟩
noncomputable def o551 : {o : Obj // o = ⟨.type "function", none, .func ⟨"match_compiled", "match_compiled", fA (top1 80), .stmts (fB (top1 80)), fC (top1 80), mainGlobals, [], .none, .none, .none, (.str "snobol.pattern_machine" 811), none, (.ref 550), .none, builtinsNs⟩, (List.toArray [])⟩} := ⟨⟨.type "function", none, .func ⟨"match_compiled", "match_compiled", ⟨_, _, _, _, _, _, _⟩, .stmts (_ :: _), ⟨_, _, _, _, _⟩, mainGlobals, [], .none, .none, .none, (.str "snobol.pattern_machine" 811), none, (.ref 550), .none, builtinsNs⟩, (List.toArray [])⟩, rfl⟩
noncomputable def o565 : {o : Obj // o = ⟨.type "function", none, .func ⟨"__init__", "PlainHost.__init__", fA (top2 82 0), .stmts (fB (top2 82 0)), fC (top2 82 0), mainGlobals, [], .none, .none, .none, (.str "snobol.hosts" 1013), none, (.ref 564), .none, builtinsNs⟩, (List.toArray [])⟩} := ⟨⟨.type "function", none, .func ⟨"__init__", "PlainHost.__init__", ⟨_, _, _, _, _, _, _⟩, .stmts (_ :: _), ⟨_, _, _, _, _⟩, mainGlobals, [], .none, .none, .none, (.str "snobol.hosts" 1013), none, (.ref 564), .none, builtinsNs⟩, (List.toArray [])⟩, rfl⟩
noncomputable def o579 : {o : Obj // o = ⟨.type "function", none, .func ⟨"assign", "PlainHost.assign", fA (top2 82 2), .stmts (fB (top2 82 2)), fC (top2 82 2), mainGlobals, [], .none, .none, .none, (.str "snobol.hosts" 1013), none, (.ref 578), .none, builtinsNs⟩, (List.toArray [])⟩} := ⟨⟨.type "function", none, .func ⟨"assign", "PlainHost.assign", ⟨_, _, _, _, _, _, _⟩, .stmts (_ :: _), ⟨_, _, _, _, _⟩, mainGlobals, [], .none, .none, .none, (.str "snobol.hosts" 1013), none, (.ref 578), .none, builtinsNs⟩, (List.toArray [])⟩, rfl⟩
noncomputable def o586 : {o : Obj // o = ⟨.type "function", none, .func ⟨"step", "PlainHost.step", fA (top2 82 3), .stmts (fB (top2 82 3)), fC (top2 82 3), mainGlobals, [], .none, .none, .none, (.str "snobol.hosts" 1013), none, (.ref 585), .none, builtinsNs⟩, (List.toArray [])⟩} := ⟨⟨.type "function", none, .func ⟨"step", "PlainHost.step", ⟨_, _, _, _, _, _, _⟩, .stmts (_ :: _), ⟨_, _, _, _, _⟩, mainGlobals, [], .none, .none, .none, (.str "snobol.hosts" 1013), none, (.ref 585), .none, builtinsNs⟩, (List.toArray [])⟩, rfl⟩
noncomputable def o598 : {o : Obj // o = ⟨.type "function", none, .func ⟨"law", "law", fA (top1 84), .stmts (fB (top1 84)), fC (top1 84), mainGlobals, [], .none, .none, .none, (.str "law_xm0958_01" 1075), none, (.ref 597), .none, builtinsNs⟩, (List.toArray [])⟩} := ⟨⟨.type "function", none, .func ⟨"law", "law", ⟨_, _, _, _, _, _, _⟩, .stmts (_ :: _), ⟨_, _, _, _, _⟩, mainGlobals, [], .none, .none, .none, (.str "law_xm0958_01" 1075), none, (.ref 597), .none, builtinsNs⟩, (List.toArray [])⟩, rfl⟩
noncomputable def K (P : Params) : Frag :=
(nat_lit 2, ⟨.none, none, .dict (List.toArray [⟨PyData.keyHash P "type.__subclasses__.Exception.0", .str "type.__subclasses__.Exception.0" 407, .int 132 0⟩, ⟨PyData.keyHash P "type.__subclasses__.Exception.n", .str "type.__subclasses__.Exception.n" 408, .int 1 0⟩]) 2, (List.toArray [])⟩) ::
  (nat_lit 3, ⟨.type "dict", none, .dict (List.toArray [⟨PyData.keyHash P "__name__", .str "__name__" 165, .str "law_xm0958_01" 1075⟩, ⟨PyData.keyHash P "__doc__", .str "__doc__" 166, .none⟩, ⟨PyData.keyHash P "__package__", .str "__package__" 167, .none⟩, ⟨PyData.keyHash P "__loader__", .str "__loader__" 168, .builtin "__main__.__loader__#opaque"⟩, ⟨PyData.keyHash P "__spec__", .str "__spec__" 169, .none⟩, ⟨PyData.keyHash P "__annotations__", .str "__annotations__" 170, .ref 6⟩, ⟨PyData.keyHash P "__builtins__", .str "__builtins__" 171, .ref 4⟩, ⟨PyData.keyHash P "__file__", .str "__file__" 173, .str "/claim/cut.py" 172⟩, ⟨PyData.keyHash P "__cached__", .str "__cached__" 174, .none⟩, ⟨PyData.keyHash P "ONE", .str "ONE" 190, .str "one" 189⟩, ⟨PyData.keyHash P "WAYS", .str "WAYS" 192, .str "ways" 191⟩, ⟨PyData.keyHash P "SPLIT", .str "SPLIT" 194, .str "split" 193⟩, ⟨PyData.keyHash P "JUMP", .str "JUMP" 196, .str "jump" 195⟩, ⟨PyData.keyHash P "MARK", .str "MARK" 198, .str "mark" 197⟩, ⟨PyData.keyHash P "NAME", .str "NAME" 200, .str "name" 199⟩, ⟨PyData.keyHash P "SET", .str "SET" 202, .str "set" 201⟩, ⟨PyData.keyHash P "GAIN", .str "GAIN" 204, .str "gain" 203⟩, ⟨PyData.keyHash P "PLACE", .str "PLACE" 206, .str "place" 205⟩, ⟨PyData.keyHash P "ASK", .str "ASK" 208, .str "ask" 207⟩, ⟨PyData.keyHash P "FENCE", .str "FENCE" 210, .str "fence" 209⟩, ⟨PyData.keyHash P "FAIL", .str "FAIL" 212, .str "fail" 211⟩, ⟨PyData.keyHash P "ABORT", .str "ABORT" 214, .str "abort" 213⟩, ⟨PyData.keyHash P "SUCCEED", .str "SUCCEED" 216, .str "succeed" 215⟩, ⟨PyData.keyHash P "DONE", .str "DONE" 218, .str "done" 217⟩, ⟨PyData.keyHash P "PUT", .str "PUT" 220, .str "put" 219⟩, ⟨PyData.keyHash P "EMIT", .str "EMIT" 222, .str "emit" 221⟩, ⟨PyData.keyHash P "OPEN", .str "OPEN" 224, .str "open" 223⟩, ⟨PyData.keyHash P "SHUT", .str "SHUT" 226, .str "shut" 225⟩, ⟨PyData.keyHash P "MEET", .str "MEET" 228, .str "meet" 227⟩, ⟨PyData.keyHash P "SINGLE", .str "SINGLE" 240, .ref 15⟩, ⟨PyData.keyHash P "ALONE", .str "ALONE" 245, .ref 16⟩, ⟨PyData.keyHash P "row_of", .str "row_of" 256, .ref 23⟩, ⟨PyData.keyHash P "is_plain_text", .str "is_plain_text" 263, .ref 30⟩, ⟨PyData.keyHash P "with_texts_joined", .str "with_texts_joined" 272, .ref 37⟩, ⟨PyData.keyHash P "PatternCode", .str "PatternCode" 356, .ref 94⟩, ⟨PyData.keyHash P "straightened", .str "straightened" 366, .ref 105⟩, ⟨PyData.keyHash P "compile_pattern", .str "compile_pattern" 374, .ref 112⟩, ⟨PyData.keyHash P "SnobolError", .str "SnobolError" 410, .ref 132⟩, ⟨PyData.keyHash P "Failure", .str "Failure" 430, .ref 145⟩, ⟨PyData.keyHash P "Pattern", .str "Pattern" 459, .ref 166⟩, ⟨PyData.keyHash P "Delayed", .str "Delayed" 488, .ref 187⟩, ⟨PyData.keyHash P "NameRef", .str "NameRef" 521, .ref 208⟩, ⟨PyData.keyHash P "is_fail", .str "is_fail" 528, .ref 219⟩, ⟨PyData.keyHash P "fits", .str "fits" 536, .ref 226⟩, ⟨PyData.keyHash P "whole_of_text", .str "whole_of_text" 547, .ref 233⟩, ⟨PyData.keyHash P "text_of_whole", .str "text_of_whole" 556, .ref 240⟩, ⟨PyData.keyHash P "to_whole", .str "to_whole" 564, .ref 247⟩, ⟨PyData.keyHash P "to_text", .str "to_text" 571, .ref 254⟩, ⟨PyData.keyHash P "need_text", .str "need_text" 579, .ref 261⟩, ⟨PyData.keyHash P "COUNTED", .str "COUNTED" 587, .ref 262⟩, ⟨PyData.keyHash P "SIGNED", .str "SIGNED" 592, .ref 263⟩, ⟨PyData.keyHash P "WIDTH_OF_COUNT", .str "WIDTH_OF_COUNT" 594, .int 64 593⟩, ⟨PyData.keyHash P "plain_count", .str "plain_count" 604, .ref 271⟩, ⟨PyData.keyHash P "plain_signs", .str "plain_signs" 613, .ref 278⟩, ⟨PyData.keyHash P "pattern_of", .str "pattern_of" 621, .ref 285⟩, ⟨PyData.keyHash P "is_delayed", .str "is_delayed" 628, .ref 292⟩, ⟨PyData.keyHash P "settled", .str "settled" 637, .ref 299⟩, ⟨PyData.keyHash P "OPENING", .str "OPENING" 641, .str "(" 640⟩, ⟨PyData.keyHash P "CLOSING", .str "CLOSING" 643, .str ")" 642⟩, ⟨PyData.keyHash P "chars_end", .str "chars_end" 653, .ref 306⟩, ⟨PyData.keyHash P "len_end", .str "len_end" 662, .ref 313⟩, ⟨PyData.keyHash P "pos_end", .str "pos_end" 670, .ref 320⟩, ⟨PyData.keyHash P "rpos_end", .str "rpos_end" 679, .ref 327⟩, ⟨PyData.keyHash P "tab_end", .str "tab_end" 688, .ref 334⟩, ⟨PyData.keyHash P "rtab_end", .str "rtab_end" 698, .ref 341⟩, ⟨PyData.keyHash P "rem_end", .str "rem_end" 705, .ref 348⟩, ⟨PyData.keyHash P "any_at", .str "any_at" 714, .ref 355⟩, ⟨PyData.keyHash P "notany_at", .str "notany_at" 723, .ref 362⟩, ⟨PyData.keyHash P "run_end", .str "run_end" 733, .ref 369⟩, ⟨PyData.keyHash P "span_end", .str "span_end" 743, .ref 376⟩, ⟨PyData.keyHash P "break_end", .str "break_end" 753, .ref 383⟩, ⟨PyData.keyHash P "arb_ends", .str "arb_ends" 761, .ref 390⟩, ⟨PyData.keyHash P "bal_end", .str "bal_end" 770, .ref 397⟩, ⟨PyData.keyHash P "bal_ends", .str "bal_ends" 780, .ref 404⟩, ⟨PyData.keyHash P "one_end", .str "one_end" 790, .ref 411⟩, ⟨PyData.keyHash P "plain_end", .str "plain_end" 799, .ref 418⟩, ⟨PyData.keyHash P "ends_of", .str "ends_of" 810, .ref 425⟩, ⟨PyData.keyHash P "MET", .str "MET" 814, .int 0 813⟩, ⟨PyData.keyHash P "FAILED", .str "FAILED" 816, .int 1 815⟩, ⟨PyData.keyHash P "OVER", .str "OVER" 818, .int 2 817⟩, ⟨PyData.keyHash P "Way", .str "Way" 865, .ref 449⟩, ⟨PyData.keyHash P "Match", .str "Match" 980, .ref 526⟩, ⟨PyData.keyHash P "named_rows", .str "named_rows" 989, .ref 537⟩, ⟨PyData.keyHash P "match_orders", .str "match_orders" 1002, .ref 544⟩, ⟨PyData.keyHash P "match_compiled", .str "match_compiled" 1012, .ref 551⟩, ⟨PyData.keyHash P "PlainHost", .str "PlainHost" 1074, .ref 589⟩, ⟨PyData.keyHash P "law", .str "law" 1082, .ref 598⟩]) 87, (List.toArray [])⟩) ::
  (nat_lit 15, ⟨.type "tuple", none, .seq (List.toArray [.str "chars" 229, .str "len" 230, .str "pos" 231, .str "rpos" 232, .str "tab" 233, .str "rtab" 234, .str "any" 235, .str "notany" 236, .str "span" 237, .str "break" 238, .str "rem" 239]) 0, (List.toArray [])⟩) ::
  (nat_lit 16, ⟨.type "tuple", none, .seq (List.toArray [.str "fence" 241, .str "fail" 242, .str "abort" 243, .str "succeed" 244]) 0, (List.toArray [])⟩) ::
  (nat_lit 22, ⟨.type "code", none, .fields (List.toArray [.str "row_of" 246, .str "row_of" 247, .str "/claim/cut.py" 248, .int 24 0, .int 2 0, .int 0 0, .int 0 0, .int 3 0, .ref 17, .bool true, .int 181 0, .ref 18, .none, .ref 19, .ref 20, .ref 21, .int 254 0, .int 24 0, .str "/claim/cut.py" 255]), (List.toArray [])⟩) ::
  (nat_lit 23, o23.1) ::
  (nat_lit 29, ⟨.type "code", none, .fields (List.toArray [.str "is_plain_text" 257, .str "is_plain_text" 258, .str "/claim/cut.py" 259, .int 33 0, .int 1 0, .int 0 0, .int 0 0, .int 3 0, .ref 24, .bool true, .int 181 0, .ref 25, .none, .ref 26, .ref 27, .ref 28, .int 261 0, .int 33 0, .str "/claim/cut.py" 262]), (List.toArray [])⟩) ::
  (nat_lit 30, o30.1) ::
  (nat_lit 36, ⟨.type "code", none, .fields (List.toArray [.str "with_texts_joined" 264, .str "with_texts_joined" 265, .str "/claim/cut.py" 266, .int 35 0, .int 1 0, .int 0 0, .int 0 0, .int 3 0, .ref 31, .bool true, .int 181 0, .ref 32, .none, .ref 33, .ref 34, .ref 35, .int 270 0, .int 35 0, .str "/claim/cut.py" 271]), (List.toArray [])⟩) ::
  (nat_lit 37, o37.1) ::
  (nat_lit 50, ⟨.type "code", none, .fields (List.toArray [.str "__init__" 285, .str "PatternCode.__init__" 286, .str "/claim/cut.py" 287, .int 47 0, .int 1 0, .int 0 0, .int 0 0, .int 3 0, .ref 45, .bool true, .int 181 0, .ref 46, .none, .ref 47, .ref 48, .ref 49, .int 289 0, .int 47 0, .str "/claim/cut.py" 290]), (List.toArray [])⟩) ::
  (nat_lit 51, o51.1) ::
  (nat_lit 57, ⟨.type "code", none, .fields (List.toArray [.str "emit" 292, .str "PatternCode.emit" 293, .str "/claim/cut.py" 294, .int 50 0, .int 2 0, .int 0 0, .int 0 0, .int 3 0, .ref 52, .bool true, .int 181 0, .ref 53, .none, .ref 54, .ref 55, .ref 56, .int 297 0, .int 50 0, .str "/claim/cut.py" 298]), (List.toArray [])⟩) ::
  (nat_lit 58, o58.1) ::
  (nat_lit 64, ⟨.type "code", none, .fields (List.toArray [.str "put" 300, .str "PatternCode.put" 301, .str "/claim/cut.py" 302, .int 54 0, .int 2 0, .int 0 0, .int 0 0, .int 3 0, .ref 59, .bool true, .int 181 0, .ref 60, .none, .ref 61, .ref 62, .ref 63, .int 308 0, .int 54 0, .str "/claim/cut.py" 309]), (List.toArray [])⟩) ::
  (nat_lit 65, o65.1) ::
  (nat_lit 69, ⟨.type "code", none, .fields (List.toArray [.str "begun" 311, .str "PatternCode.begun" 312, .str "/claim/cut.py" 313, .int 65 0, .int 2 0, .int 0 0, .int 0 0, .int 3 0, .ref 66, .bool true, .int 181 0, .ref 67, .none, .none, .none, .ref 68, .int 314 0, .int 65 0, .str "/claim/cut.py" 315]), (List.toArray [])⟩) ::
  (nat_lit 70, o70.1) ::
  (nat_lit 92, ⟨.type "tuple", none, .seq (List.toArray [.str "orders" 348]) 0, (List.toArray [])⟩) ::
  (nat_lit 93, ⟨.type "dict", none, .dict (List.toArray [⟨PyData.keyHash P "__module__", .str "__module__" 280, .str "snobol.compile_pattern" 187⟩, ⟨PyData.keyHash P "__firstlineno__", .str "__firstlineno__" 284, .int 45 283⟩, ⟨PyData.keyHash P "__init__", .str "__init__" 291, .ref 51⟩, ⟨PyData.keyHash P "emit", .str "emit" 299, .ref 58⟩, ⟨PyData.keyHash P "put", .str "put" 310, .ref 65⟩, ⟨PyData.keyHash P "begun", .str "begun" 316, .ref 70⟩, ⟨PyData.keyHash P "choice", .str "choice" 327, .ref 77⟩, ⟨PyData.keyHash P "repeat", .str "repeat" 337, .ref 84⟩, ⟨PyData.keyHash P "bound", .str "bound" 347, .ref 91⟩, ⟨PyData.keyHash P "__static_attributes__", .str "__static_attributes__" 349, .ref 92⟩, ⟨PyData.keyHash P "__dict__", .str "__dict__" 351, .ref 95⟩, ⟨PyData.keyHash P "__weakref__", .str "__weakref__" 353, .ref 96⟩, ⟨PyData.keyHash P "__doc__", .str "__doc__" 354, .none⟩]) 4, (List.toArray [])⟩) ::
  (nat_lit 94, ⟨.type "type", none, .cls ⟨"PatternCode", [.type "object"], [.ref 94, .type "object"], 93, "PatternCode", true, [], [], false, none, false⟩, (List.toArray [none, none, some (.str "PatternCode" 273), some (.str "PatternCode" 281), some (.builtin "object.__new__"), some (.bool true)])⟩) ::
  (nat_lit 95, ⟨.type "getset_descriptor", none, .fields (List.toArray [.str "__dict__" 350, .ref 94, .builtin "function.__dict__", .builtin "function.__dict__#set"]), (List.toArray [])⟩) ::
  (nat_lit 96, ⟨.type "getset_descriptor", none, .fields (List.toArray [.str "__weakref__" 352, .ref 94, .builtin "ExceptionGroup.__weakref__", .none]), (List.toArray [])⟩) ::
  (nat_lit 104, ⟨.type "code", none, .fields (List.toArray [.str "straightened" 357, .str "straightened" 358, .str "/claim/cut.py" 359, .int 106 0, .int 1 0, .int 0 0, .int 0 0, .int 3 0, .ref 99, .bool true, .int 181 0, .ref 100, .none, .ref 101, .ref 102, .ref 103, .int 364 0, .int 106 0, .str "/claim/cut.py" 365]), (List.toArray [])⟩) ::
  (nat_lit 105, o105.1) ::
  (nat_lit 111, ⟨.type "code", none, .fields (List.toArray [.str "compile_pattern" 367, .str "compile_pattern" 368, .str "/claim/cut.py" 369, .int 116 0, .int 1 0, .int 0 0, .int 0 0, .int 3 0, .ref 106, .bool true, .int 181 0, .ref 107, .none, .ref 108, .ref 109, .ref 110, .int 372 0, .int 116 0, .str "/claim/cut.py" 373]), (List.toArray [])⟩) ::
  (nat_lit 112, o112.1) ::
  (nat_lit 204, ⟨.type "code", none, .fields (List.toArray [.str "__init__" 501, .str "NameRef.__init__" 502, .str "/claim/cut.py" 503, .int 140 0, .int 4 0, .int 0 0, .int 0 0, .int 3 0, .ref 199, .bool true, .int 181 0, .ref 200, .none, .ref 201, .ref 202, .ref 203, .int 508 0, .int 140 0, .str "/claim/cut.py" 509]), (List.toArray [])⟩) ::
  (nat_lit 205, o205.1) ::
  (nat_lit 206, ⟨.type "tuple", none, .seq (List.toArray [.str "key" 511, .str "kind" 512, .str "owner" 513]) 0, (List.toArray [])⟩) ::
  (nat_lit 207, ⟨.type "dict", none, .dict (List.toArray [⟨PyData.keyHash P "__module__", .str "__module__" 496, .str "snobol.values" 375⟩, ⟨PyData.keyHash P "__firstlineno__", .str "__firstlineno__" 500, .int 138 499⟩, ⟨PyData.keyHash P "__init__", .str "__init__" 510, .ref 205⟩, ⟨PyData.keyHash P "__static_attributes__", .str "__static_attributes__" 514, .ref 206⟩, ⟨PyData.keyHash P "__dict__", .str "__dict__" 516, .ref 209⟩, ⟨PyData.keyHash P "__weakref__", .str "__weakref__" 518, .ref 210⟩, ⟨PyData.keyHash P "__doc__", .str "__doc__" 519, .none⟩]) 4, (List.toArray [])⟩) ::
  (nat_lit 208, ⟨.type "type", none, .cls ⟨"NameRef", [.type "object"], [.ref 208, .type "object"], 207, "NameRef", true, [], [], false, none, false⟩, (List.toArray [none, none, some (.str "NameRef" 489), some (.str "NameRef" 497), some (.builtin "object.__new__"), some (.bool true)])⟩) ::
  (nat_lit 209, ⟨.type "getset_descriptor", none, .fields (List.toArray [.str "__dict__" 515, .ref 208, .builtin "function.__dict__", .builtin "function.__dict__#set"]), (List.toArray [])⟩) ::
  (nat_lit 210, ⟨.type "getset_descriptor", none, .fields (List.toArray [.str "__weakref__" 517, .ref 208, .builtin "ExceptionGroup.__weakref__", .none]), (List.toArray [])⟩) ::
  (nat_lit 305, ⟨.type "code", none, .fields (List.toArray [.str "chars_end" 644, .str "chars_end" 645, .str "/claim/cut.py" 646, .int 219 0, .int 3 0, .int 0 0, .int 0 0, .int 3 0, .ref 300, .bool true, .int 181 0, .ref 301, .none, .ref 302, .ref 303, .ref 304, .int 651 0, .int 219 0, .str "/claim/cut.py" 652]), (List.toArray [])⟩) ::
  (nat_lit 306, o306.1) ::
  (nat_lit 312, ⟨.type "code", none, .fields (List.toArray [.str "len_end" 654, .str "len_end" 655, .str "/claim/cut.py" 656, .int 222 0, .int 3 0, .int 0 0, .int 0 0, .int 3 0, .ref 307, .bool true, .int 181 0, .ref 308, .none, .ref 309, .ref 310, .ref 311, .int 660 0, .int 222 0, .str "/claim/cut.py" 661]), (List.toArray [])⟩) ::
  (nat_lit 313, o313.1) ::
  (nat_lit 389, ⟨.type "code", none, .fields (List.toArray [.str "arb_ends" 754, .str "arb_ends" 755, .str "/claim/cut.py" 756, .int 249 0, .int 2 0, .int 0 0, .int 0 0, .int 3 0, .ref 384, .bool true, .int 181 0, .ref 385, .none, .ref 386, .ref 387, .ref 388, .int 759 0, .int 249 0, .str "/claim/cut.py" 760]), (List.toArray [])⟩) ::
  (nat_lit 390, o390.1) ::
  (nat_lit 410, ⟨.type "code", none, .fields (List.toArray [.str "one_end" 781, .str "one_end" 782, .str "/claim/cut.py" 783, .int 270 0, .int 4 0, .int 0 0, .int 0 0, .int 3 0, .ref 405, .bool true, .int 181 0, .ref 406, .none, .ref 407, .ref 408, .ref 409, .int 788 0, .int 270 0, .str "/claim/cut.py" 789]), (List.toArray [])⟩) ::
  (nat_lit 411, o411.1) ::
  (nat_lit 417, ⟨.type "code", none, .fields (List.toArray [.str "plain_end" 791, .str "plain_end" 792, .str "/claim/cut.py" 793, .int 290 0, .int 3 0, .int 0 0, .int 0 0, .int 3 0, .ref 412, .bool true, .int 181 0, .ref 413, .none, .ref 414, .ref 415, .ref 416, .int 797 0, .int 290 0, .str "/claim/cut.py" 798]), (List.toArray [])⟩) ::
  (nat_lit 418, o418.1) ::
  (nat_lit 424, ⟨.type "code", none, .fields (List.toArray [.str "ends_of" 800, .str "ends_of" 801, .str "/claim/cut.py" 802, .int 292 0, .int 4 0, .int 0 0, .int 0 0, .int 3 0, .ref 419, .bool true, .int 181 0, .ref 420, .none, .ref 421, .ref 422, .ref 423, .int 808 0, .int 292 0, .str "/claim/cut.py" 809]), (List.toArray [])⟩) ::
  (nat_lit 425, o425.1) ::
  (nat_lit 438, ⟨.type "code", none, .fields (List.toArray [.str "__init__" 831, .str "Way.__init__" 832, .str "/claim/cut.py" 833, .int 307 0, .int 7 0, .int 0 0, .int 0 0, .int 3 0, .ref 433, .bool true, .int 181 0, .ref 434, .none, .ref 435, .ref 436, .ref 437, .int 841 0, .int 307 0, .str "/claim/cut.py" 842]), (List.toArray [])⟩) ::
  (nat_lit 439, o439.1) ::
  (nat_lit 445, ⟨.type "code", none, .fields (List.toArray [.str "copied" 844, .str "Way.copied" 845, .str "/claim/cut.py" 846, .int 315 0, .int 2 0, .int 0 0, .int 0 0, .int 3 0, .ref 440, .bool true, .int 181 0, .ref 441, .none, .ref 442, .ref 443, .ref 444, .int 849 0, .int 315 0, .str "/claim/cut.py" 850]), (List.toArray [])⟩) ::
  (nat_lit 446, o446.1) ::
  (nat_lit 447, ⟨.type "tuple", none, .seq (List.toArray [.str "at" 852, .str "calls" 853, .str "marks" 854, .str "named" 855, .str "orders" 856, .str "pc" 857]) 0, (List.toArray [])⟩) ::
  (nat_lit 448, ⟨.type "dict", none, .dict (List.toArray [⟨PyData.keyHash P "__module__", .str "__module__" 826, .str "snobol.pattern_machine" 811⟩, ⟨PyData.keyHash P "__firstlineno__", .str "__firstlineno__" 830, .int 305 829⟩, ⟨PyData.keyHash P "__init__", .str "__init__" 843, .ref 439⟩, ⟨PyData.keyHash P "copied", .str "copied" 851, .ref 446⟩, ⟨PyData.keyHash P "__static_attributes__", .str "__static_attributes__" 858, .ref 447⟩, ⟨PyData.keyHash P "__dict__", .str "__dict__" 860, .ref 450⟩, ⟨PyData.keyHash P "__weakref__", .str "__weakref__" 862, .ref 451⟩, ⟨PyData.keyHash P "__doc__", .str "__doc__" 863, .none⟩]) 4, (List.toArray [])⟩) ::
  (nat_lit 449, ⟨.type "type", none, .cls ⟨"Way", [.type "object"], [.ref 449, .type "object"], 448, "Way", true, [], [], false, none, false⟩, (List.toArray [none, none, some (.str "Way" 819), some (.str "Way" 827), some (.builtin "object.__new__"), some (.bool true)])⟩) ::
  (nat_lit 450, ⟨.type "getset_descriptor", none, .fields (List.toArray [.str "__dict__" 859, .ref 449, .builtin "function.__dict__", .builtin "function.__dict__#set"]), (List.toArray [])⟩) ::
  (nat_lit 451, ⟨.type "getset_descriptor", none, .fields (List.toArray [.str "__weakref__" 861, .ref 449, .builtin "ExceptionGroup.__weakref__", .none]), (List.toArray [])⟩) ::
  (nat_lit 466, ⟨.type "code", none, .fields (List.toArray [.str "__init__" 878, .str "Match.__init__" 879, .str "/claim/cut.py" 880, .int 319 0, .int 3 0, .int 0 0, .int 0 0, .int 3 0, .ref 461, .bool true, .int 181 0, .ref 462, .none, .ref 463, .ref 464, .ref 465, .int 884 0, .int 319 0, .str "/claim/cut.py" 885]), (List.toArray [])⟩) ::
  (nat_lit 467, o467.1) ::
  (nat_lit 473, ⟨.type "code", none, .fields (List.toArray [.str "run" 887, .str "Match.run" 888, .str "/claim/cut.py" 889, .int 324 0, .int 3 0, .int 0 0, .int 0 0, .int 3 0, .ref 468, .bool true, .int 181 0, .ref 469, .none, .ref 470, .ref 471, .ref 472, .int 895 0, .int 324 0, .str "/claim/cut.py" 896]), (List.toArray [])⟩) ::
  (nat_lit 474, o474.1) ::
  (nat_lit 480, ⟨.type "code", none, .fields (List.toArray [.str "way_back" 898, .str "Match.way_back" 899, .str "/claim/cut.py" 900, .int 339 0, .int 1 0, .int 0 0, .int 0 0, .int 3 0, .ref 475, .bool true, .int 181 0, .ref 476, .none, .ref 477, .ref 478, .ref 479, .int 902 0, .int 339 0, .str "/claim/cut.py" 903]), (List.toArray [])⟩) ::
  (nat_lit 481, o481.1) ::
  (nat_lit 487, ⟨.type "code", none, .fields (List.toArray [.str "done" 905, .str "Match.done" 906, .str "/claim/cut.py" 907, .int 342 0, .int 3 0, .int 0 0, .int 0 0, .int 3 0, .ref 482, .bool true, .int 181 0, .ref 483, .none, .ref 484, .ref 485, .ref 486, .int 912 0, .int 342 0, .str "/claim/cut.py" 913]), (List.toArray [])⟩) ::
  (nat_lit 488, o488.1) ::
  (nat_lit 494, ⟨.type "code", none, .fields (List.toArray [.str "met_once" 915, .str "Match.met_once" 916, .str "/claim/cut.py" 917, .int 364 0, .int 3 0, .int 0 0, .int 0 0, .int 3 0, .ref 489, .bool true, .int 181 0, .ref 490, .none, .ref 491, .ref 492, .ref 493, .int 924 0, .int 364 0, .str "/claim/cut.py" 925]), (List.toArray [])⟩) ::
  (nat_lit 495, o495.1) ::
  (nat_lit 501, ⟨.type "code", none, .fields (List.toArray [.str "ended" 927, .str "Match.ended" 928, .str "/claim/cut.py" 929, .int 378 0, .int 3 0, .int 0 0, .int 0 0, .int 3 0, .ref 496, .bool true, .int 181 0, .ref 497, .none, .ref 498, .ref 499, .ref 500, .int 936 0, .int 378 0, .str "/claim/cut.py" 937]), (List.toArray [])⟩) ::
  (nat_lit 502, o502.1) ::
  (nat_lit 508, ⟨.type "code", none, .fields (List.toArray [.str "other" 939, .str "Match.other" 940, .str "/claim/cut.py" 941, .int 389 0, .int 3 0, .int 0 0, .int 0 0, .int 3 0, .ref 503, .bool true, .int 181 0, .ref 504, .none, .ref 505, .ref 506, .ref 507, .int 946 0, .int 389 0, .str "/claim/cut.py" 947]), (List.toArray [])⟩) ::
  (nat_lit 509, o509.1) ::
  (nat_lit 515, ⟨.type "code", none, .fields (List.toArray [.str "met_often" 949, .str "Match.met_often" 950, .str "/claim/cut.py" 951, .int 407 0, .int 3 0, .int 0 0, .int 0 0, .int 3 0, .ref 510, .bool true, .int 181 0, .ref 511, .none, .ref 512, .ref 513, .ref 514, .int 957 0, .int 407 0, .str "/claim/cut.py" 958]), (List.toArray [])⟩) ::
  (nat_lit 516, o516.1) ::
  (nat_lit 524, ⟨.type "tuple", none, .seq (List.toArray [.str "history" 970, .str "host" 971, .str "subject" 972]) 0, (List.toArray [])⟩) ::
  (nat_lit 525, ⟨.type "dict", none, .dict (List.toArray [⟨PyData.keyHash P "__module__", .str "__module__" 873, .str "snobol.pattern_machine" 811⟩, ⟨PyData.keyHash P "__firstlineno__", .str "__firstlineno__" 877, .int 317 876⟩, ⟨PyData.keyHash P "__init__", .str "__init__" 886, .ref 467⟩, ⟨PyData.keyHash P "run", .str "run" 897, .ref 474⟩, ⟨PyData.keyHash P "way_back", .str "way_back" 904, .ref 481⟩, ⟨PyData.keyHash P "done", .str "done" 914, .ref 488⟩, ⟨PyData.keyHash P "met_once", .str "met_once" 926, .ref 495⟩, ⟨PyData.keyHash P "ended", .str "ended" 938, .ref 502⟩, ⟨PyData.keyHash P "other", .str "other" 948, .ref 509⟩, ⟨PyData.keyHash P "met_often", .str "met_often" 959, .ref 516⟩, ⟨PyData.keyHash P "asked", .str "asked" 969, .ref 523⟩, ⟨PyData.keyHash P "__static_attributes__", .str "__static_attributes__" 973, .ref 524⟩, ⟨PyData.keyHash P "__dict__", .str "__dict__" 975, .ref 527⟩, ⟨PyData.keyHash P "__weakref__", .str "__weakref__" 977, .ref 528⟩, ⟨PyData.keyHash P "__doc__", .str "__doc__" 978, .none⟩]) 4, (List.toArray [])⟩) ::
  (nat_lit 526, ⟨.type "type", none, .cls ⟨"Match", [.type "object"], [.ref 526, .type "object"], 525, "Match", true, [], [], false, none, false⟩, (List.toArray [none, none, some (.str "Match" 866), some (.str "Match" 874), some (.builtin "object.__new__"), some (.bool true)])⟩) ::
  (nat_lit 527, ⟨.type "getset_descriptor", none, .fields (List.toArray [.str "__dict__" 974, .ref 526, .builtin "function.__dict__", .builtin "function.__dict__#set"]), (List.toArray [])⟩) ::
  (nat_lit 528, ⟨.type "getset_descriptor", none, .fields (List.toArray [.str "__weakref__" 976, .ref 526, .builtin "ExceptionGroup.__weakref__", .none]), (List.toArray [])⟩) ::
  (nat_lit 536, ⟨.type "code", none, .fields (List.toArray [.str "named_rows" 981, .str "named_rows" 982, .str "/claim/cut.py" 983, .int 425 0, .int 1 0, .int 0 0, .int 0 0, .int 3 0, .ref 531, .bool true, .int 181 0, .ref 532, .none, .ref 533, .ref 534, .ref 535, .int 987 0, .int 425 0, .str "/claim/cut.py" 988]), (List.toArray [])⟩) ::
  (nat_lit 537, o537.1) ::
  (nat_lit 543, ⟨.type "code", none, .fields (List.toArray [.str "match_orders" 990, .str "match_orders" 991, .str "/claim/cut.py" 992, .int 432 0, .int 4 0, .int 0 0, .int 0 0, .int 3 0, .ref 538, .bool true, .int 181 0, .ref 539, .none, .ref 540, .ref 541, .ref 542, .int 1000 0, .int 432 0, .str "/claim/cut.py" 1001]), (List.toArray [])⟩) ::
  (nat_lit 544, o544.1) ::
  (nat_lit 550, ⟨.type "code", none, .fields (List.toArray [.str "match_compiled" 1003, .str "match_compiled" 1004, .str "/claim/cut.py" 1005, .int 440 0, .int 4 0, .int 0 0, .int 0 0, .int 3 0, .ref 545, .bool true, .int 181 0, .ref 546, .none, .ref 547, .ref 548, .ref 549, .int 1010 0, .int 440 0, .str "/claim/cut.py" 1011]), (List.toArray [])⟩) ::
  (nat_lit 551, o551.1) ::
  (nat_lit 564, ⟨.type "code", none, .fields (List.toArray [.str "__init__" 1027, .str "PlainHost.__init__" 1028, .str "/claim/cut.py" 1029, .int 445 0, .int 4 0, .int 0 0, .int 0 0, .int 3 0, .ref 559, .bool true, .int 181 0, .ref 560, .none, .ref 561, .ref 562, .ref 563, .int 1034 0, .int 445 0, .str "/claim/cut.py" 1035]), (List.toArray [])⟩) ::
  (nat_lit 565, o565.1) ::
  (nat_lit 578, ⟨.type "code", none, .fields (List.toArray [.str "assign" 1045, .str "PlainHost.assign" 1046, .str "/claim/cut.py" 1047, .int 458 0, .int 3 0, .int 0 0, .int 0 0, .int 3 0, .ref 573, .bool true, .int 181 0, .ref 574, .none, .ref 575, .ref 576, .ref 577, .int 1051 0, .int 458 0, .str "/claim/cut.py" 1052]), (List.toArray [])⟩) ::
  (nat_lit 579, o579.1) ::
  (nat_lit 585, ⟨.type "code", none, .fields (List.toArray [.str "step" 1054, .str "PlainHost.step" 1055, .str "/claim/cut.py" 1056, .int 465 0, .int 1 0, .int 0 0, .int 0 0, .int 3 0, .ref 580, .bool true, .int 181 0, .ref 581, .none, .ref 582, .ref 583, .ref 584, .int 1058 0, .int 465 0, .str "/claim/cut.py" 1059]), (List.toArray [])⟩) ::
  (nat_lit 586, o586.1) ::
  (nat_lit 587, ⟨.type "tuple", none, .seq (List.toArray [.str "limit" 1061, .str "log" 1062, .str "refused" 1063, .str "steps" 1064, .str "values" 1065, .str "width" 1066]) 0, (List.toArray [])⟩) ::
  (nat_lit 588, ⟨.type "dict", none, .dict (List.toArray [⟨PyData.keyHash P "__module__", .str "__module__" 1022, .str "snobol.hosts" 1013⟩, ⟨PyData.keyHash P "__firstlineno__", .str "__firstlineno__" 1026, .int 443 1025⟩, ⟨PyData.keyHash P "__init__", .str "__init__" 1036, .ref 565⟩, ⟨PyData.keyHash P "value_of", .str "value_of" 1044, .ref 572⟩, ⟨PyData.keyHash P "assign", .str "assign" 1053, .ref 579⟩, ⟨PyData.keyHash P "step", .str "step" 1060, .ref 586⟩, ⟨PyData.keyHash P "__static_attributes__", .str "__static_attributes__" 1067, .ref 587⟩, ⟨PyData.keyHash P "__dict__", .str "__dict__" 1069, .ref 590⟩, ⟨PyData.keyHash P "__weakref__", .str "__weakref__" 1071, .ref 591⟩, ⟨PyData.keyHash P "__doc__", .str "__doc__" 1072, .none⟩]) 4, (List.toArray [])⟩) ::
  (nat_lit 589, ⟨.type "type", none, .cls ⟨"PlainHost", [.type "object"], [.ref 589, .type "object"], 588, "PlainHost", true, [], [], false, none, false⟩, (List.toArray [none, none, some (.str "PlainHost" 1015), some (.str "PlainHost" 1023), some (.builtin "object.__new__"), some (.bool true)])⟩) ::
  (nat_lit 590, ⟨.type "getset_descriptor", none, .fields (List.toArray [.str "__dict__" 1068, .ref 589, .builtin "function.__dict__", .builtin "function.__dict__#set"]), (List.toArray [])⟩) ::
  (nat_lit 591, ⟨.type "getset_descriptor", none, .fields (List.toArray [.str "__weakref__" 1070, .ref 589, .builtin "ExceptionGroup.__weakref__", .none]), (List.toArray [])⟩) ::
  (nat_lit 597, ⟨.type "code", none, .fields (List.toArray [.str "law" 1077, .str "law" 1078, .str "/claim/cut.py" 1079, .int 470 0, .int 1 0, .int 0 0, .int 0 0, .int 3 0, .ref 594, .bool true, .int 181 0, .ref 595, .none, .none, .none, .ref 596, .int 1080 0, .int 470 0, .str "/claim/cut.py" 1081]), (List.toArray [])⟩) ::
  (nat_lit 598, o598.1) :: []
def as : List Addr := [2, 3, 15, 16, 22, 23, 29, 30, 36, 37, 50, 51, 57, 58, 64, 65, 69, 70, 92, 93, 94, 95, 96, 104, 105, 111, 112, 204, 205, 206, 207, 208, 209, 210, 305, 306, 312, 313, 389, 390, 410, 411, 417, 418, 424, 425, 438, 439, 445, 446, 447, 448, 449, 450, 451, 466, 467, 473, 474, 480, 481, 487, 488, 494, 495, 501, 502, 508, 509, 515, 516, 524, 525, 526, 527, 528, 536, 537, 543, 544, 550, 551, 564, 565, 578, 579, 585, 586, 587, 588, 589, 590, 591, 597, 598]
end Mine
end

section
set_option maxHeartbeats 0
namespace Mine
theorem thr_some {t : Thread} {g} (he : endAt 0 t = some g) : through t = true := by
  unfold endAt at he
  unfold through
  revert he
  obtain ⟨cur, code, pos, stack⟩ := t
  cases stack with
  | nil =>
    intro he
    cases cur with
    | pure x => cases x with
      | done y => rfl
      | again y => simp at he
    | _ => simp at he
  | cons a b => intro he; simp at he
theorem thr_none {t : Thread} (he : endAt 0 t = none) : through t = false := by
  unfold endAt at he
  unfold through
  revert he
  obtain ⟨cur, code, pos, stack⟩ := t
  cases stack with
  | nil =>
    intro he
    cases cur with
    | pure x => cases x with
      | done y => simp at he
      | again y => rfl
    | _ => rfl
  | cons a b => intro he; rfl
theorem top_of_seg {tb : String → Option Builtin} {p : Program} {w : World} {n₀ : Nat} {ann : Option Value} : ∀ (n : Nat) (s s' : Shared) (t : Thread) (f : Flow) (c : Code) (q : Pos),
    segRun tb p w n₀ ann 0 n s t = some (f, s', c, q) → topRun tb p w n₀ ann n s t = some s'
  | 0, _, _, _, _, _, _, h => by simp [segRun] at h
  | n + 1, s, s', t, f, c, q, h => by
    unfold segRun at h
    unfold topRun
    cases he : endAt 0 t with
    | some g =>
      rw [he] at h
      simp only [Option.some.injEq, Prod.mk.injEq] at h
      have ht : through t = true := thr_some he
      rw [ht]
      exact congrArg some h.2.1
    | none =>
      rw [he] at h
      have ht : through t = false := thr_none he
      rw [ht]
      dsimp only at h ⊢
      cases hk : stepOk n₀ ann t with
      | false => rw [hk] at h; cases h
      | true =>
        rw [hk] at h
        dsimp only at h ⊢
        cases hs : step (denote tb) p w s t with
        | halt o s₂ => rw [hs] at h; cases h
        | go s₂ t₂ => rw [hs] at h; exact top_of_seg n s₂ s' t₂ f c q h

theorem left_one {p q : Program} {loose : List Str} {Xt : Shared → Bool} {α : Type} {Yf : Shared → α} {Ya : World → α} {N : Nat} {g0 : Bool} {H₀ : Params → Heap} {gs₀ : Array GenState} {d₀ : Drawn} {k₀ : Nat} {m₀ : Nat} {ann : Option Value} {M : Nat} {S0 : World → OsState → SharedT}
    (open_ : ∀ w : World, (fencedOpening treeTable p w N).map (fun s => (s.heap, s.gens, s.drawn, s.toks)) = some (H₀ w.params, gs₀, d₀, k₀))
    (size : ∀ w : World, ((H₀ w.params).isNs mainGlobals && gs₀.size == 0, (H₀ w.params).objs.size, (H₀ w.params).nsMap mainGlobals "__annotations__") = (true, m₀, ann))
    (hS : ∀ w os, (S0 w os).abs = ⟨H₀ w.params, gs₀, d₀, k₀, os⟩)
    (run : ∀ (w : World) (os : OsState), (segRunT treeTable p w m₀ ann 0 M (S0 w os) (topStub p)).map (fun r =>
        ((staticsOk (importedModules p.main.body) (H₀ w.params) r.2.1.abs.heap && namesBound p r.2.1.abs.heap && gensDone r.2.1.abs && laidKept (H₀ w.params) r.2.1.abs.heap),
          openSeen q loose (importedModules p.main.body) Xt g0 r.2.1.abs, Yf r.2.1.abs)) = some (true, openGood q loose, Ya w))
    (le : Nat.ble M N = true) : LeftO p q loose Xt Yf Ya N g0 := fun w => by
  obtain ⟨⟨h, gs, d, k, os⟩, e, e'⟩ := Option.map_eq_some_iff.mp (open_ w)
  obtain ⟨rfl, rfl, rfl, rfl⟩ : h = H₀ w.params ∧ gs = gs₀ ∧ d = d₀ ∧ k = k₀ := by simpa using e'
  obtain ⟨z1, z2, z3⟩ : _ ∧ _ ∧ _ := by simpa only [Prod.mk.injEq] using size w
  obtain ⟨⟨f, s', c, qq⟩, er, el⟩ := Option.map_eq_some_iff.mp (run w os)
  obtain ⟨l1, l2, l3⟩ : _ ∧ _ ∧ _ := by simpa only [Prod.mk.injEq] using el
  have r0 := top_of_seg _ _ _ _ _ _ _ (segRun_of er)
  rw [hS] at r0
  have r := topRun_mono (N - M) _ _ _ _ r0
  rw [show M + (N - M) = N by have := Nat.le_of_ble_eq_true le; omega] at r
  have t : topFrom treeTable p w N ⟨H₀ w.params, gs, d, k, os⟩ = some s'.abs := by
    unfold topFrom
    dsimp only
    rw [z1, z2, z3, r]
    show (match staticsOk (importedModules p.main.body) (H₀ w.params) s'.abs.heap && namesBound p s'.abs.heap && gensDone s'.abs && laidKept (H₀ w.params) s'.abs.heap with | true => _ | false => _) = _
    rw [l1]
  unfold openEnds
  rw [e]
  show (topFrom treeTable p w N _).map _ = _
  rw [t]
  exact congrArg some (Prod.ext l2 l3)

noncomputable def tree0 (P : Params) : BT := (.node (boot_o_0 P) (.node (boot_o_1 P) (.node (boot_o_3 P) (.node (boot_o_7 P) .nil .nil) .nil) (.node (boot_o_5 P) (.node (boot_o_9 P) .nil .nil) .nil)) (.node (boot_o_2 P) (.node (boot_o_4 P) (.node (boot_o_8 P) .nil .nil) .nil) (.node (boot_o_6 P) (.node (boot_o_10 P) .nil .nil) .nil)))
noncomputable def s0 (w : World) (os : OsState) : SharedT := ⟨tree0 w.params, 11, (boot_heap w.params).life, ⟨[]⟩, boot_drawn, boot_toks, os⟩
theorem tree0_abs (P : Params) : absHeap (tree0 P) 11 (boot_heap P).life = boot_heap P := by kernel_rfl
theorem s0_abs (w : World) (os : OsState) : (s0 w os).abs = ⟨boot_heap w.params, ⟨[]⟩, boot_drawn, boot_toks, os⟩ := by
  unfold s0 SharedT.abs
  dsimp only
  rw [tree0_abs]
abbrev pw : Program := PySem.Challenge.pw_xm0958_01
def vw : Program := view pw [84]
def loose : List Str := (pw.main.scope.names.map (·.1)).filter fun n => n != Str.ofString "law"
theorem open_boot : opening pw = plainProg pw.main.scope.names := by kernel_rfl
theorem fence_boot (s : Shared) : fenceModules? pw s = some s := by kernel_rfl
theorem size_boot (w : World) : ((boot_heap w.params).isNs mainGlobals && (Array.mk ([] : List GenState)).size == 0, (boot_heap w.params).objs.size, (boot_heap w.params).nsMap mainGlobals "__annotations__") = (true, 11, some (.ref 6)) := by kernel_rfl
end Mine
end

section
set_option maxHeartbeats 0
namespace Mine
theorem as_eq (P : Params) : as = (K P).map (·.1) := by kernel_rfl
noncomputable abbrev lawName : Str := Str.ofString "law"
theorem run_eq (w : World) (os : OsState) : (segRunT treeTable pw w 11 (some (.ref 6)) 0 4300 (s0 w os) (topStub pw)).map (fun r =>
        ((staticsOk (importedModules pw.main.body) (boot_heap w.params) r.2.1.abs.heap && namesBound pw r.2.1.abs.heap && gensDone r.2.1.abs && laidKept (boot_heap w.params) r.2.1.abs.heap),
          openSeen vw loose (importedModules pw.main.body) (fun s => xlAt vw [] s && recOk PySem.Challenge.rw_xm0958_01.row.records s) true r.2.1.abs, (kHook K as as_eq).obs r.2.1.abs)) = some (true, openGood vw loose, (kHook K as as_eq).val w) := by
  rw [PySem.W.Fast.te10110043849684766642, PySem.W.Fast.te14364793385576792824, PySem.W.Fast.te4187177175401517315]
  kernel_rfl
theorem left_law : LeftO PySem.Challenge.rw_xm0958_01.row.prog vw loose (fun s => xlAt vw [] s && recOk PySem.Challenge.rw_xm0958_01.row.records s) (kHook K as as_eq).obs (kHook K as as_eq).val 4400 :=
  left_one (p := pw) (H₀ := boot_heap) (gs₀ := ⟨[]⟩) (d₀ := boot_drawn) (k₀ := boot_toks) (m₀ := 11) (ann := some (.ref 6)) (M := 4300) (S0 := s0)
    (boot_open open_boot rfl fence_boot) size_boot s0_abs run_eq rfl
theorem said : PySem.Challenge.rw_xm0958_01.wellSaid = true := by 
  rw [PySem.W.Fast.te9446332074065402090]
  kernel_rfl
theorem oks : (chainsOk vw && opensWell PySem.Challenge.rw_xm0958_01.row.prog && (frees PySem.Challenge.rw_xm0958_01.row.toRowW && PySem.Challenge.rw_xm0958_01.row.within.isEmpty)) = true := by decide +kernel
theorem prom : PySem.Challenge.rw_xm0958_01.row.toRowW.promised := by w_witness2
theorem hd (d : DefRec) (hdef : defOf vw lawName = some (d, [])) (hp : PySem.Challenge.rw_xm0958_01.row.prog.theDef lawName = some (d.params, d.body, d.scope)) (hk : kwWritten? d.params.kwonlyargs d.params.kw_defaults = some [])
   (h : WalkO vw loose (XL vw []) (kHook K as as_eq).says PySem.Challenge.rw_xm0958_01.row.toRowW d [] fun f vs => PySem.call f vs) : PySem.Challenge.rw_xm0958_01.Holds := by
  refine holds_law said fun sd => ?_
  exact holds_open (q := vw) (loose := loose) (XP := XL vw []) (N := 4400) left_law (Hook.of (kHook K as as_eq)) (Hook.keeps (kHook K as as_eq)) (fun s e => xl_of s (Bool.and_eq_true_iff.mp e).1) XL.keeps hdef hp hk
    (fun s e => recFacts_of (Bool.and_eq_true_iff.mp e).2) (by rfl) sd oks ⟨rfl, rfl, rfl, rfl, rfl, by decide +kernel⟩ prom h
end Mine
end

section
set_option maxHeartbeats 0
namespace Mine
noncomputable abbrev tup (l : List Value) : Obj := { cls := .type "tuple", data := .seq l.toArray }


noncomputable def cut (h : Heap) (n : Nat) : Heap := ⟨h.objs.extract 0 n, h.life⟩
theorem cut_size (h : Heap) (n : Nat) : (cut h n).objs.size ≤ n := by
  unfold cut
  simp only [Array.size_extract, Nat.sub_zero]
  omega
theorem cut_get {h : Heap} {n b : Nat} {o : Obj} (hb : b < n) (e : h.get? b = some o) : (cut h n).get? b = some o := by
  have hs : @LT.lt Nat _ b h.objs.size := Heap.lt_size e
  unfold Heap.get? at e ⊢
  unfold cut
  have : (h.objs.extract 0 n)[b]? = h.objs[b]? := by
    rw [Array.getElem?_extract]
    simp only [Nat.sub_zero, Nat.zero_add]
    rw [if_pos (by omega)]
  rw [this]
  exact e
theorem of_cut {h : Heap} {n b : Nat} {o : Obj} (e : (cut h n).get? b = some o) : h.get? b = some o := by
  have hs := Heap.lt_size e
  have hb : b < n := Nat.lt_of_lt_of_le hs (cut_size h n)
  unfold Heap.get? at e ⊢
  unfold cut at e hs
  have : (h.objs.extract 0 n)[b]? = h.objs[b]? := by
    rw [Array.getElem?_extract]
    simp only [Nat.sub_zero, Nat.zero_add]
    rw [if_pos (by simp only [Array.size_extract] at hs; omega)]
  dsimp only at e
  rw [this] at e
  exact e

theorem rebase {g h₁ : Heap} {L' : Addr} {m' : Str → Option Value} {need rest : List (Addr × Obj)} (F : Fr g L' h₁ m') (N : News g L' h₁ (need ++ rest)) (lt : ∀ p ∈ need ++ rest, p.1 < L') (dis : ∀ p ∈ rest, ∀ q ∈ need, p.1 ≠ q.1) :
    ∃ g₂, g.StaysIn g₂ ∧ Fr g₂ L' h₁ m' ∧ News g₂ L' h₁ need ∧ (∀ p ∈ rest, g₂.get? p.1 = some p.2) ∧ g.objs.size ≤ g₂.objs.size := by
  have hn : ∀ b o, g.get? b = some o → b ∉ need.map (·.1) := fun b o e hb => by
    obtain ⟨p, hp, rfl⟩ := List.mem_map.mp hb
    rw [(N p (List.mem_append_left _ hp)).2.2] at e
    cases e
  refine ⟨hideAll (cut h₁ L') (need.map (·.1)), fun b o e => ?_, ⟨F.ns, fun b o e => of_cut (of_hideAll _ e), ?_⟩, fun p hp => ?_, fun p hp => ?_, ?_⟩
  · exact hideAll_get _ (cut_get (Nat.lt_of_lt_of_le (Heap.lt_size e) F.above) (F.keep b o e)) (hn b o e)
  · rw [hideAll_size]; exact cut_size _ _
  · have z := N p (List.mem_append_left _ hp)
    exact ⟨z.1, z.2.1, hideAll_none _ (List.mem_map_of_mem hp)⟩
  · refine hideAll_get _ (cut_get (lt p (List.mem_append_right _ hp)) (N p (List.mem_append_right _ hp)).1) fun hb => ?_
    obtain ⟨q, hq, e⟩ := List.mem_map.mp hb
    exact dis p hp q hq e.symm
  · rw [hideAll_size]
    have h1 : @LE.le Nat _ g.objs.size L' := F.above
    have h2 : @LT.lt Nat _ L' h₁.objs.size := F.ns.lt
    unfold cut
    simp only [Array.size_extract, Nat.sub_zero]
    omega

theorem below_stays {A : Around} {base g g₂ : Heap} {outer : List Env} (B : Below A base outer g) (st : g.StaysIn g₂) : Below A base outer g₂ := by
  refine ⟨B.stack, fun b o e => st b o (B.stays b o e), ?_⟩
  exact Heap.FunFrames.of_keeps (fun b o e _ => ⟨o, st b o e, rfl⟩) B.frames

/-- the way out of a def whose ledger was 'need', the rest of the caller's ledger laid by -/
noncomputable def LeaveR (h₀ : Heap) (L : Addr) (m : Str → Option Value) (rest : List (Addr × Obj)) (g : Heap) (Q : Value → Shared → Prop) (v : Value) (s' : Shared) : Prop :=
  ∃ L' m' news', Fr g L' s'.heap m' ∧ News g L' s'.heap news' ∧ (Fr h₀ L s'.heap m → News h₀ L s'.heap (news' ++ rest) → (∀ p ∈ news', ∀ q ∈ rest, p.1 ≠ q.1) → Q v s')
theorem leaveR {h₀ g : Heap} {L L' : Addr} {m m' : Str → Option Value} {rest news' : List (Addr × Obj)} {Q : Value → Shared → Prop} {v : Value} {s' : Shared} (F' : Fr g L' s'.heap m') (N' : News g L' s'.heap news')
    (k : Fr h₀ L s'.heap m → News h₀ L s'.heap (news' ++ rest) → (∀ p ∈ news', ∀ q ∈ rest, p.1 ≠ q.1) → Q v s') : LeaveR h₀ L m rest g Q v s' := ⟨L', m', news', F', N', k⟩

section
variable {w : World} {dp un : Nat} {gd : Option (List Code)} {cn : Str} {cs : Scope} {L a : Addr} {ccd : Value} {cl : List (Str × Addr)} {outer : List Env} {A₀ : Around} {base h₀ : Heap} {m : Str → Option Value} {s : Shared} {Q E : Value → Shared → Prop}
  {mean : ExcName → Option Value} {mg mb : Str → Option Value} {need rest : List (Addr × Obj)} {name qual : Str} {params : Arguments} {body : List Stmt} {scope : Scope} {dV kV doc pm cdv ct oc : Value} {an od : Option Addr} {osl : Array (Option Value)} {f : Addr} {args : List Value} {binds : List (Str × Value)}
theorem enterR (B : Below A₀ base outer h₀) (F : Fr h₀ L s.heap m) (X₀ : (K w.params).In h₀) (N : News h₀ L s.heap (need ++ rest)) (dis : ∀ p ∈ rest, ∀ q ∈ need, p.1 ≠ q.1) (T : Top vw (looseW vw loose) mean mg mb h₀) (hke : cs.kind = .function)
    (hroom : dp < recursionLimit)
    (ho : (K w.params).lookup f = some ⟨oc, od, .func (fnOf name qual params body scope dV kV doc pm an cdv ct), osl⟩) (hcd : codeIn (K w.params) cdv qual = true)
    (hbind : BindsTo s (fnOf name qual params body scope dV kV doc pm an cdv ct) ⟨args, []⟩ binds) (hloc : ∀ y ∈ binds, scope.names.lookup y.1 = some .local)
    (h : ∀ g L' h₁, Fr g L' h₁ (fun y => binds.reverse.lookup y) → News g L' h₁ need → Below (ktrTop dp un gd cn cs L a ccd cl outer) base (envX cn cs L a ccd cl :: outer) g → (K w.params).In g → Top vw (looseW vw loose) mean mg mb g →
      wpAny (model PySem.Challenge.rw_xm0958_01.row.toRowW.1 w) ((ktrTop dp un gd cn cs L a ccd cl outer).deeper (envOf qual scope L' f cdv)) (execs body (envOf qual scope L' f cdv))
        (fun fl s' => LeaveR h₀ L m rest g Q (match fl with | .ret v => v | _ => .none) s')
        (fun e s' => wpAny (model PySem.Challenge.rw_xm0958_01.row.toRowW.1 w) ((ktrTop dp un gd cn cs L a ccd cl outer).deeper (envOf qual scope L' f cdv)) (leaving (envOf qual scope L' f cdv) e) (fun _ s'' => E e s'') (fun e' s'' => E e' s'') s')
        { s with heap := h₁, toks := s.toks + binds.length })
    (hcell : ∀ x ∈ scope.names, x.2 ≠ .cell) (hco : scope.isCoroutine = false) (hgen : scope.isGenerator = false) (hk : scope.kind = .function) :
    wpAny (model PySem.Challenge.rw_xm0958_01.row.toRowW.1 w) (ktrTop dp un gd cn cs L a ccd cl outer) (call (.ref f) args) Q E s := by
  refine wpAny_call ?_
  refine callX_plain (cl := []) (A := ktrTop dp un gd cn cs L a ccd cl outer) B F N T.nolimit rfl rfl hke ((X₀.keeps F.keep) _ _ ho) rfl (codeRec_of (X₀.keeps F.keep) hcd) hroom hbind hloc (fun g L' h₁ FG F' N' B' st lt => ?_) hcell hco hgen hk
  obtain ⟨g₂, st₂, F₂, N₂, hr, hsz⟩ := rebase F' N' lt dis
  refine wpAny_mono (h g₂ L' h₁ F₂ N₂ (below_stays B' st₂) ((X₀.keeps st).keeps st₂) ((T.keeps st).keeps st₂)) (fun fl s' hl => ?_) fun _ _ y => y
  obtain ⟨L'', m'', news', F3, N3, k⟩ := hl
  refine ⟨L'', m'', news' ++ rest, ⟨F3.ns, fun b o e => F3.keep b o (st₂ b o e), ?_⟩, fun p hp => ?_, fun Fh Nh => k Fh Nh fun p hp q hq e => ?_⟩
  · exact Nat.le_trans hsz F3.above
  · rcases List.mem_append.mp hp with hp | hp
    · refine ⟨(N3 p hp).1, (N3 p hp).2.1, ?_⟩
      cases q : g.get? p.1 with
      | none => rfl
      | some o => have := (N3 p hp).2.2; rw [st₂ _ _ q] at this; cases this
    · have z := hr p hp
      refine ⟨F3.keep _ _ z, fun e => ?_, (N' p (List.mem_append_right _ hp)).2.2⟩
      have := Nat.lt_of_lt_of_le (Heap.lt_size z) F3.above
      exact absurd e (Nat.ne_of_lt this)
  · have := hr q hq
    rw [← e, (N3 p hp).2.2] at this
    cases this
end
/-- two ledgers that share no address -/
noncomputable def Apart (xs ys : List (Addr × Obj)) : Prop := ∀ p ∈ xs, ∀ q ∈ ys, p.1 ≠ q.1
/-- what a call of the def at f does: its ledger 'need' in, a ledger told by Post out; depth D, units U asked -/
noncomputable def Spec (w : World) (f : Addr) (args : List Value) (need : List (Addr × Obj)) (D U : Nat) (Post : Value → List (Addr × Obj) → Prop) : Prop :=
  ∀ (dp un : Nat) (gd : Option (List Code)) (cn : Str) (cs : Scope) (a : Addr) (ccd : Value) (cl : List (Str × Addr)) (outer : List Env) (A₀ : Around) (base h₀ : Heap) (L : Addr) (m : Str → Option Value) (s : Shared) (Q E : Value → Shared → Prop)
    (mean : ExcName → Option Value) (mg mb : Str → Option Value) (rest : List (Addr × Obj)),
    Below A₀ base outer h₀ → Fr h₀ L s.heap m → (K w.params).In h₀ → News h₀ L s.heap (need ++ rest) → Apart rest need → Top vw (looseW vw loose) mean mg mb h₀ → cs.kind = .function → dp + D < recursionLimit → un + U < cLine →
    (∀ v nd h' tk', Post v nd → Fr h₀ L h' m → News h₀ L h' (nd ++ rest) → Apart nd rest → Q v { s with heap := h', toks := tk' }) →
    wpAny (model PySem.Challenge.rw_xm0958_01.row.toRowW.1 w) (ktrTop dp un gd cn cs L a ccd cl outer) (call (.ref f) args) Q E s
noncomputable def off (need : List (Addr × Obj)) (p : Addr × Obj) : Bool := need.all fun q => decide (p.1 ≠ q.1)
theorem off_ne {need : List (Addr × Obj)} {p q : Addr × Obj} (h : off need p = true) (hq : q ∈ need) : p.1 ≠ q.1 := of_decide_eq_true (List.all_eq_true.mp h q hq)
section
variable {w : World} {dp un : Nat} {gd : Option (List Code)} {cn : Str} {cs : Scope} {L a : Addr} {ccd : Value} {cl : List (Str × Addr)} {outer : List Env} {A₀ : Around} {base h₀ : Heap} {m : Str → Option Value} {s : Shared} {Q E : Value → Shared → Prop}
  {mean : ExcName → Option Value} {mg mb : Str → Option Value} {need news : List (Addr × Obj)} {f : Addr} {args : List Value} {D U : Nat} {Post : Value → List (Addr × Obj) → Prop}
theorem Spec.use (S : Spec w f args need D U Post) (B : Below A₀ base outer h₀) (F : Fr h₀ L s.heap m) (X₀ : (K w.params).In h₀) (N : News h₀ L s.heap news) (T : Top vw (looseW vw loose) mean mg mb h₀) (hke : cs.kind = .function)
    (hroom : dp + D < recursionLimit) (hun : un + U < cLine) (hn : ∀ q ∈ need, q ∈ news)
    (k : ∀ v nd h' tk', Post v nd → Fr h₀ L h' m → News h₀ L h' nd → News h₀ L h' (news.filter (off need)) → Apart nd (news.filter (off need)) → Q v { s with heap := h', toks := tk' }) :
    wpAny (model PySem.Challenge.rw_xm0958_01.row.toRowW.1 w) (ktrTop dp un gd cn cs L a ccd cl outer) (call (.ref f) args) Q E s := by
  refine S dp un gd cn cs a ccd cl outer A₀ base h₀ L m s Q E mean mg mb (news.filter (off need)) B F X₀ (fun p hp => ?_) (fun p hp q hq => ?_) T hke hroom hun fun v nd h' tk' hP F' N' hA => ?_
  · rcases List.mem_append.mp hp with hp | hp
    · exact N p (hn p hp)
    · exact N p (List.mem_filter.mp hp).1
  · exact off_ne (List.mem_filter.mp hp).2 hq
  · exact k v nd h' tk' hP F' (fun p hp => N' p (List.mem_append_left _ hp)) (fun p hp => N' p (List.mem_append_right _ hp)) hA
/-- a call that leaves its whole ledger as it was and makes new things -/
theorem Spec.new {P : Value → List (Addr × Obj) → Prop} (S : Spec w f args need D U fun v nd => ∃ made, nd = made ++ need ∧ Apart made need ∧ P v made) (B : Below A₀ base outer h₀) (F : Fr h₀ L s.heap m) (X₀ : (K w.params).In h₀) (N : News h₀ L s.heap news) (T : Top vw (looseW vw loose) mean mg mb h₀) (hke : cs.kind = .function)
    (hroom : dp + D < recursionLimit) (hun : un + U < cLine) (hn : ∀ q ∈ need, q ∈ news)
    (k : ∀ v made h' tk', P v made → Fr h₀ L h' m → News h₀ L h' (made ++ news) → Apart made news → Q v { s with heap := h', toks := tk' }) :
    wpAny (model PySem.Challenge.rw_xm0958_01.row.toRowW.1 w) (ktrTop dp un gd cn cs L a ccd cl outer) (call (.ref f) args) Q E s := by
  refine S.use B F X₀ N T hke hroom hun hn fun v nd h' tk' hP F' N1 N2 hA => ?_
  obtain ⟨made, rfl, hAn, hP⟩ := hP
  have key : ∀ p ∈ news, p ∈ need ∨ p ∈ news.filter (off need) := fun p hp => by
    by_cases ho : off need p = true
    · exact .inr (List.mem_filter.mpr ⟨hp, ho⟩)
    · left
      have hh : ∃ q ∈ need, p.1 = q.1 := Classical.byContradiction fun hc => ho (List.all_eq_true.mpr fun q hq => decide_eq_true fun e => hc ⟨q, hq, e⟩)
      obtain ⟨q, hq, e⟩ := hh
      have h1 := (N p hp).1
      have h2 := (N q (hn q hq)).1
      rw [e, h2] at h1
      have : p = q := Prod.ext e (Option.some.inj h1).symm
      rw [this]; exact hq
  refine k v made h' tk' hP F' (fun p hp => ?_) (fun p hp q hq => ?_)
  · rcases List.mem_append.mp hp with hp | hp
    · exact N1 p (List.mem_append_left _ hp)
    · rcases key p hp with h | h
      · exact N1 p (List.mem_append_right _ h)
      · exact N2 p h
  · rcases key q hq with h | h
    · exact hAn p hp q h
    · exact hA p (List.mem_append_left _ hp) q h
end
theorem any_toks {prog : Program} {w : World} {A : Around} {α : Type} {t : Sem α} {Q : α → Shared → Prop} {E : Value → Shared → Prop} {h : Heap} {g : Array GenState} {d : Drawn} {k : Nat} {o : OsState} (x : ∀ n, wpAny (model prog w) A t Q E ⟨h, g, d, n, o⟩) :
    wpAny (model prog w) A t Q E ⟨h, g, d, k, o⟩ := x k
theorem news_sub {h₀ h : Heap} {L : Addr} {l l' : List (Addr × Obj)} (N : News h₀ L h l) (hs : ∀ p ∈ l', p ∈ l) : News h₀ L h l' := fun p hp => N p (hs p hp)
theorem news_sub2 {h₀ h : Heap} {L : Addr} {l l' rest : List (Addr × Obj)} (N : News h₀ L h (l ++ rest)) (hs : ∀ p ∈ l', p ∈ l) : News h₀ L h (l' ++ rest) := fun p hp => by
  rcases List.mem_append.mp hp with hp | hp
  · exact N p (List.mem_append_left _ (hs p hp))
  · exact N p (List.mem_append_right _ hp)
theorem apart_sub {l l' rest : List (Addr × Obj)} (A : Apart l rest) (hs : ∀ p ∈ l', p ∈ l) : Apart l' rest := fun p hp => A p (hs p hp)
end Mine
end

section
set_option maxHeartbeats 1500000
namespace Mine
theorem allLt_lt {d a : Addr} {o : Obj} : ∀ {l : List (Addr × Obj)}, AllLt d l → (a, o) ∈ l → @LT.lt Nat _ a d
  | _ :: _, h, .head _ => h.1
  | _ :: _, h, .tail _ hm => allLt_lt h.2 hm
/-- the address d is younger than all of l -/
structure Young (d : Addr) (l : List (Addr × Obj)) : Prop where
  all : AllLt d l
theorem young_of {d : Addr} {l : List (Addr × Obj)} (h : ∀ p ∈ l, p.1 < d) : Young d l := ⟨allLt_of h⟩
theorem allLt_ne {d a : Addr} {o : Obj} {l : List (Addr × Obj)} (h : Young d l) (hm : (a, o) ∈ l) : @Ne Nat a d := Nat.ne_of_lt (allLt_lt h.all hm)
theorem allLt_ne' {d a : Addr} {o : Obj} {l : List (Addr × Obj)} (h : Young d l) (hm : (a, o) ∈ l) : @Ne Nat d a := Nat.ne_of_gt (allLt_lt h.all hm)
theorem allLt_ne2 {d x a : Addr} {o : Obj} {l : List (Addr × Obj)} (hx : @LT.lt Nat _ d x) (h : Young d l) (hm : (a, o) ∈ l) : @Ne Nat a x := Nat.ne_of_lt (Nat.lt_trans (allLt_lt h.all hm) hx)
theorem allLt_ne2' {d x a : Addr} {o : Obj} {l : List (Addr × Obj)} (hx : @LT.lt Nat _ d x) (h : Young d l) (hm : (a, o) ∈ l) : @Ne Nat x a := Nat.ne_of_gt (Nat.lt_trans (allLt_lt h.all hm) hx)
theorem off1_ne {d a : Addr} {o : Obj} : ∀ {l : List (Addr × Obj)}, LCg.Off1 d l → (a, o) ∈ l → @Ne Nat a d
  | _ :: _, h, .head _ => h.1
  | _ :: _, h, .tail _ hm => off1_ne h.2 hm
theorem apart_ne {a b : Addr} {o p : Obj} {xs ys : List (Addr × Obj)} (h : Apart xs ys) (ha : (a, o) ∈ xs) (hb : (b, p) ∈ ys) : @Ne Nat a b := h _ ha _ hb
theorem apart_ne' {a b : Addr} {o p : Obj} {xs ys : List (Addr × Obj)} (h : Apart xs ys) (ha : (a, o) ∈ xs) (hb : (b, p) ∈ ys) : @Ne Nat b a := fun e => h _ ha _ hb e.symm
theorem apart_nil {xs : List (Addr × Obj)} : Apart [] xs := fun _ h => nomatch h
theorem apart_cons {a : Addr} {o : Obj} {xs ys : List (Addr × Obj)} (h : ∀ q ∈ ys, q.1 ≠ a) (t : Apart xs ys) : Apart ((a, o) :: xs) ys := fun p hp q hq => by
  rcases List.mem_cons.mp hp with rfl | hp
  · exact fun e => h q hq e.symm
  · exact t p hp q hq
theorem in_topTup {prog : Program} {w : World} {A : Around} {E : Value → Shared → Prop} {s : Shared} {K : Frag} {L a : Addr} {h₀ : Heap} {m : Str → Option Value} {l : List Value} {dd : Option Addr} {n : Nat} {sl : Array (Option Value)} {ys : List Str} {x : Str} {u : Tok} {b : Bool} {Q : Value → Shared → Prop}
    (F : Fr h₀ L s.heap m) (X₀ : K.In h₀) (hl : K.lookup a = some ⟨.type "tuple", dd, .seq l.toArray n, sl⟩) (hi : StrsAre l ys) (hb : ys.any (· == x) = b) (h : Q (.bool b) s) :
    wpAny (model prog w) A (compareOp .In (.str x u) (.ref a)) Q E s := by
  subst hb
  exact in_tuple_strs (tupK (X₀.keeps F.keep) hl) hi h
theorem binds1 {s : Shared} {fd : FuncData} {args : Args} {a : Str} {x : Value} (h : bindArgs fd args = pure [(a, x)]) : BindsTo s fd args [(a, x)] := BindsTo.of_eq h
theorem binds2 {s : Shared} {fd : FuncData} {args : Args} {a b : Str} {x y : Value} (h : bindArgs fd args = pure [(a, x), (b, y)]) : BindsTo s fd args [(a, x), (b, y)] := BindsTo.of_eq h
theorem binds3 {s : Shared} {fd : FuncData} {args : Args} {a b c : Str} {x y z : Value} (h : bindArgs fd args = pure [(a, x), (b, y), (c, z)]) : BindsTo s fd args [(a, x), (b, y), (c, z)] := BindsTo.of_eq h
theorem binds4 {s : Shared} {fd : FuncData} {args : Args} {a b c d : Str} {x y z u : Value} (h : bindArgs fd args = pure [(a, x), (b, y), (c, z), (d, u)]) : BindsTo s fd args [(a, x), (b, y), (c, z), (d, u)] := BindsTo.of_eq h
theorem binds7 {s : Shared} {fd : FuncData} {args : Args} {a b c d e f g : Str} {x y z u v r t : Value} (h : bindArgs fd args = pure [(a, x), (b, y), (c, z), (d, u), (e, v), (f, r), (g, t)]) : BindsTo s fd args [(a, x), (b, y), (c, z), (d, u), (e, v), (f, r), (g, t)] := BindsTo.of_eq h
section
variable {prog : Program} {w : World} {A : Around} {E : Value → Shared → Prop} {s : Shared} {Q : Value → Shared → Prop}
theorem eq_str_no {x y : Str} {t u : Tok} (hn : x ≠ y) (h : Q (.bool false) s) : wpAny (model prog w) A (compareOp .Eq (.str x t) (.str y u)) Q E s := by
  refine PyProof.Rows.eq_str ?_
  rw [beq_eq_false_iff_ne.mpr hn]
  exact h
theorem head_tup {value slice : PySem.Expr} {a : Addr} {v : Value} {vs : List Value} {u : Tok} {h₀ : Heap} {L : Addr} {news : List (Addr × Obj)} (N : News h₀ L s.heap news) (hm : (a, tup (v :: vs)) ∈ news) (h : Q v s)
    (hs : subscripted slice false (.ref a) (.int 0 u) = operate [.ref a, .int 0 u] (getItem (.ref a) (.int 0 u)) := by with_unfolding_all rfl) :
    wpAny (model prog w) A (subscriptTail value slice (.ref a) (.int 0 u)) Q E s :=
  item_tupleT (l := v :: vs) (j := 0) (News.isTup N hm) (by decide) (by decide) (by
    unfold seqIndex?
    have : (0 : Int) < ((v :: vs).length : Int) := by rw [List.length_cons]; omega
    simp) rfl h hs
end

theorem mem_hd {α : Type} {a : α} {l : List α} : a ∈ a :: l := List.mem_cons_self
theorem mem_tl {α : Type} {a b : α} {l : List α} (h : a ∈ l) : a ∈ b :: l := List.mem_cons_of_mem _ h
theorem sub3 {α : Type} {a b c : α} {l : List α} (h1 : a ∈ l) (h2 : b ∈ l) (h3 : c ∈ l) : ∀ q ∈ [a, b, c], q ∈ l := List.forall_mem_cons.mpr ⟨h1, List.forall_mem_cons.mpr ⟨h2, List.forall_mem_cons.mpr ⟨h3, List.forall_mem_nil _⟩⟩⟩
end Mine
namespace Mine
/-- an attribute stored; the new key's hash and token are forgotten -/
theorem set_dict_any {prog : Program} {w : World} {A : Around} {E : Value → Shared → Prop} {s : Shared} {K : Frag} {x C dx L : Addr} {h₀ : Heap} {m : Str → Option Value} {news : List (Addr × Obj)} {ox : Obj} {es : List DictEntry} {n n' : Nat} {name : Str} {v : Value} {es' : Int → Tok → List DictEntry} {news' : Int → Tok → List (Addr × Obj)} {Q : Unit → Shared → Prop}
    (F : Fr h₀ L s.heap m) (X₀ : K.In h₀) (N : News h₀ L s.heap news) (I : InstAt s.heap x ox C (some (dictOf es n))) (hd : ox.dict = some dx)
    (hs : findIn K (.ref C) "__setattr__" = some (some (.builtin "object.__setattr__"))) (hp : plainOver K C = true) (ht : takerIn K C name = some none) (hh : hasDictIn K C = true) (hl : (getL name es).isSome = true)
    (e : ∀ H t, (putL name H (.str name t) v es, putN name es n) = (es' H t, n')) (U : ∀ H t, Upd dx (dictOf es n) (dictOf (es' H t) n') news (news' H t)) (hz : ∀ H t, (es' H t).length ≤ 1000)
    (h : ∀ h' H t, Fr h₀ L h' m → News h₀ L h' (news' H t) → Q () { s with heap := h', toks := s.toks + 2 }) :
    wpAny (model prog w) A (setAttr (.ref x) name v) Q E s := set_dict F X₀ N I hd hs hp ht hh hl (e _ _) (U _ _) (hz _ _) fun h' F' N' => h h' _ _ F' N'
end Mine
namespace Mine
noncomputable def nthL : List (Addr × Obj) → Nat → Option (Addr × Obj)
  | [], _ => none
  | x :: _, 0 => some x
  | _ :: r, n + 1 => nthL r n
theorem nth_mem {x : Addr × Obj} : ∀ {l : List (Addr × Obj)} (i : Nat), nthL l i = some x → x ∈ l
  | _ :: _, 0, h => by cases h; exact List.mem_cons_self
  | _ :: _, n + 1, h => List.mem_cons_of_mem _ (nth_mem n h)
  | [], _, h => by cases h
/-- what stands at the places is of the list -/
theorem pick_mem {l : List (Addr × Obj)} : ∀ (is : List Nat) {l' : List (Addr × Obj)}, is.map (nthL l) = l'.map some → ∀ p ∈ l', p ∈ l
  | [], [], _ => fun _ h => nomatch h
  | i :: is, x :: l', h => fun p hp => by
    obtain ⟨h1, h2⟩ := List.cons.inj h
    rcases List.mem_cons.mp hp with rfl | hp
    · exact nth_mem i h1
    · exact pick_mem is h2 p hp
  | [], _ :: _, h => nomatch h
  | _ :: _, [], h => nomatch h
end Mine
namespace Mine
theorem room1 {d a b r : Nat} (h : d + b < r) (e : Nat.ble a b = true) : d + a < r := Nat.lt_of_le_of_lt (Nat.add_le_add_left (Nat.le_of_ble_eq_true e) d) h
theorem room2 {d a c b r : Nat} (h : d + b < r) (e : Nat.ble (a + c) b = true) : d + a + c < r := by rw [Nat.add_assoc]; exact room1 h e
theorem room3 {d a c f b r : Nat} (h : d + b < r) (e : Nat.ble (a + c + f) b = true) : d + a + c + f < r := by rw [Nat.add_assoc d a c, Nat.add_assoc]; exact room1 h e
theorem room4 {d a c f g b r : Nat} (h : d + b < r) (e : Nat.ble (a + c + f + g) b = true) : d + a + c + f + g < r := by rw [Nat.add_assoc d a c, Nat.add_assoc d, Nat.add_assoc]; exact room1 h e
end Mine
namespace Mine
theorem room0 {d b r : Nat} (h : d + b < r) : d < r := Nat.lt_of_le_of_lt (Nat.le_add_right d b) h
end Mine
end

section
set_option maxHeartbeats 100000
namespace Mine
/-- nothing of l lies at d -/
structure Far (d : Addr) (l : List (Addr × Obj)) : Prop where
  all : ∀ p ∈ l, p.1 ≠ d
noncomputable def Fars : List (Addr × Obj) → List (Addr × Obj) → Prop
  | [], _ => True
  | p :: r, l => Far p.1 (r ++ l) ∧ Fars r l
theorem far_ne {d a : Addr} {o : Obj} {l : List (Addr × Obj)} (h : Far d l) (hm : (a, o) ∈ l) : @Ne Nat a d := h.all _ hm
theorem far_ne' {d a : Addr} {o : Obj} {l : List (Addr × Obj)} (h : Far d l) (hm : (a, o) ∈ l) : @Ne Nat d a := fun e => h.all _ hm e.symm
theorem fars_nil {l : List (Addr × Obj)} : Fars [] l := trivial
theorem fars_cons {a : Addr} {o : Obj} {r l : List (Addr × Obj)} (h : ∀ p ∈ r ++ l, p.1 ≠ a) (t : Fars r l) : Fars ((a, o) :: r) l := ⟨⟨h⟩, t⟩
theorem fars_in {m l : List (Addr × Obj)} (h : Fars m l) : ∀ p ∈ m, ∀ q ∈ l, p.1 ≠ q.1 := by
  induction m with
  | nil => intro p hp; cases hp
  | cons a r ih =>
    intro p hp q hq
    rcases List.mem_cons.mp hp with rfl | hp
    · exact fun e => h.1.all q (List.mem_append_right _ hq) e.symm
    · exact ih h.2 p hp q hq
theorem fars_mono : ∀ {m l l' : List (Addr × Obj)}, Fars m l → (∀ p ∈ l', p ∈ l ∨ ∀ q ∈ m, q.1 ≠ p.1) → Fars m l'
  | [], _, _, _, _ => trivial
  | a :: r, l, l', h, hs => by
    refine ⟨⟨fun p hp => ?_⟩, fars_mono h.2 fun p hp => (hs p hp).imp id fun x q hq => x q (.tail _ hq)⟩
    rcases List.mem_append.mp hp with hp | hp
    · exact h.1.all p (List.mem_append_left _ hp)
    · rcases hs p hp with hp | hp
      · exact h.1.all p (List.mem_append_right _ hp)
      · exact fun e => hp a (.head _) e.symm
inductive Rem (q : Addr × Obj) : List (Addr × Obj) → List (Addr × Obj) → Prop
  | head {r : List (Addr × Obj)} : Rem q (q :: r) r
  | tail {p : Addr × Obj} {r r' : List (Addr × Obj)} : Rem q r r' → Rem q (p :: r) (p :: r')
theorem Rem.mem {q : Addr × Obj} : ∀ {n n' : List (Addr × Obj)}, Rem q n n' → q ∈ n
  | _, _, .head => .head _
  | _, _, .tail h => .tail _ h.mem
theorem Rem.sub {q : Addr × Obj} : ∀ {n n' : List (Addr × Obj)}, Rem q n n' → ∀ p ∈ n', p ∈ n
  | _, _, .head, p, hp => .tail _ hp
  | _, _, .tail h, _, .head _ => .head _
  | _, _, .tail h, p, .tail _ hp => .tail _ (h.sub p hp)
inductive Take : List (Addr × Obj) → List (Addr × Obj) → List (Addr × Obj) → Prop
  | nil {n : List (Addr × Obj)} : Take [] n n
  | cons {q : Addr × Obj} {r n n' n'' : List (Addr × Obj)} : Rem q n n' → Take r n' n'' → Take (q :: r) n n''
theorem Take.sub : ∀ {c n r : List (Addr × Obj)}, Take c n r → ∀ p ∈ r, p ∈ n
  | _, _, _, .nil, p, hp => hp
  | _, _, _, .cons h t, p, hp => h.sub p (t.sub p hp)
theorem Take.mem {c n r : List (Addr × Obj)} (t : Take c n r) : ∀ p ∈ c, p ∈ n := by
  induction t with
  | nil => intro p hp; cases hp
  | cons h _ ih =>
    intro p hp
    rcases List.mem_cons.mp hp with rfl | hp
    · exact h.mem
    · exact h.sub p (ih p hp)
theorem Rem.split {q : Addr × Obj} {n n' : List (Addr × Obj)} (t : Rem q n n') : ∀ p ∈ n, p = q ∨ p ∈ n' := by
  induction t with
  | head => intro p hp; exact List.mem_cons.mp hp
  | tail _ ih =>
    intro p hp
    rcases List.mem_cons.mp hp with rfl | hp
    · exact .inr List.mem_cons_self
    · exact (ih p hp).imp id (List.mem_cons_of_mem _)
theorem Take.split {c n r : List (Addr × Obj)} (t : Take c n r) : ∀ p ∈ n, p ∈ c ∨ p ∈ r := by
  induction t with
  | nil => intro p hp; exact .inr hp
  | cons h _ ih =>
    intro p hp
    rcases h.split p hp with rfl | hp
    · exact .inl List.mem_cons_self
    · exact (ih p hp).imp (List.mem_cons_of_mem _) id
/-- the contract of the def at f: 'chg' is changed, 'keep' is left, 'made' is new -/
noncomputable def Con (w : World) (f : Addr) (args : List Value) (chg keep : List (Addr × Obj)) (D U : Nat) (P : Value → List (Addr × Obj) → List (Addr × Obj) → Prop) : Prop :=
  Fars chg keep → Spec w f args (chg ++ keep) D U fun v nd => ∃ made chg', nd = made ++ (chg' ++ keep) ∧ Fars made (chg' ++ keep) ∧ chg'.map (·.1) = chg.map (·.1) ∧ P v made chg'
section
variable {w : World} {dp un : Nat} {gd : Option (List Code)} {cn : Str} {cs : Scope} {L a : Addr} {ccd : Value} {cl : List (Str × Addr)} {outer : List Env} {A₀ : Around} {base h₀ : Heap} {m : Str → Option Value} {s : Shared} {Q E : Value → Shared → Prop}
  {mean : ExcName → Option Value} {mg mb : Str → Option Value} {chg keep news rest : List (Addr × Obj)} {f : Addr} {args : List Value} {D U : Nat} {P : Value → List (Addr × Obj) → List (Addr × Obj) → Prop}
theorem Con.use (C : Con w f args chg keep D U P) (B : Below A₀ base outer h₀) (F : Fr h₀ L s.heap m) (X₀ : (K w.params).In h₀) (N : News h₀ L s.heap news) (T : Top vw (looseW vw loose) mean mg mb h₀) (hke : cs.kind = .function)
    (hK0 : ∀ q ∈ keep, q ∈ news) (hT : Take chg news rest) (hF : Fars chg rest) (hF2 : Fars chg keep) (hroom : dp + D < recursionLimit) (hun : un + U < cLine)
    (k : ∀ v made chg' h' tk', P v made chg' → Fr h₀ L h' m → News h₀ L h' (made ++ (chg' ++ rest)) → Fars made (chg' ++ rest) → Q v { s with heap := h', toks := tk' }) :
    wpAny (model PySem.Challenge.rw_xm0958_01.row.toRowW.1 w) (ktrTop dp un gd cn cs L a ccd cl outer) (call (.ref f) args) Q E s := by
  have hK : ∀ q ∈ keep, q ∈ rest := fun q hq => (hT.split q (hK0 q hq)).elim (fun h => absurd rfl (fars_in hF2 q h q hq)) id
  have hn : ∀ q ∈ chg ++ keep, q ∈ news := fun q hq => (List.mem_append.mp hq).elim (hT.mem q) fun h => hT.sub q (hK q h)
  refine Spec.use (C hF2) B F X₀ N T hke hroom hun hn fun v nd h' tk' hP F' N1 N2 hA => ?_
  obtain ⟨made, chg', rfl, hf, he, hP⟩ := hP
  have key : ∀ p ∈ rest, p ∈ keep ∨ p ∈ news.filter (off (chg ++ keep)) := fun p hp => by
    by_cases ho : off (chg ++ keep) p = true
    · exact .inr (List.mem_filter.mpr ⟨hT.sub p hp, ho⟩)
    · left
      have hh : ∃ q ∈ chg ++ keep, p.1 = q.1 := Classical.byContradiction fun hc => ho (List.all_eq_true.mpr fun q hq => decide_eq_true fun e => hc ⟨q, hq, e⟩)
      obtain ⟨q, hq, e⟩ := hh
      rcases List.mem_append.mp hq with hq | hq
      · exact absurd e.symm (fars_in hF q hq p hp)
      · have h1 := (N p (hT.sub p hp)).1
        have h2 := (N q (hn q (List.mem_append_right _ hq))).1
        rw [e, h2] at h1
        have : p = q := Prod.ext e (Option.some.inj h1).symm
        rw [this]; exact hq
  refine k v made chg' h' tk' hP F' (fun p hp => ?_) (fars_mono hf fun p hp => ?_)
  · rcases List.mem_append.mp hp with hp | hp
    · exact N1 p (List.mem_append_left _ hp)
    · rcases List.mem_append.mp hp with hp | hp
      · exact N1 p (List.mem_append_right _ (List.mem_append_left _ hp))
      · rcases key p hp with h | h
        · exact N1 p (List.mem_append_right _ (List.mem_append_right _ h))
        · exact N2 p h
  · rcases List.mem_append.mp hp with hp | hp
    · exact .inl (List.mem_append_left _ hp)
    · rcases key p hp with h | h
      · exact .inl (List.mem_append_right _ h)
      · exact .inr fun q hq => hA q (List.mem_append_left _ hq) p h
end
end Mine
namespace Mine
theorem len_any {prog : Program} {w : World} {A : Around} {E : Value → Shared → Prop} {s : Shared} {Q : Value → Shared → Prop} {h₀ : Heap} {L l : Addr} {news : List (Addr × Obj)} {its : Array Value} {n : Nat} (N : News h₀ L s.heap news) (hm : (l, W.listOf its n) ∈ news) (hz : its.size ≤ 1000)
    (h : Q (.int its.size (s.toks + 1)) { s with toks := s.toks + 1 + 1 }) : wpAny (model prog w) A (call (.builtin "len") [.ref l]) Q E s :=
  len_list (News.isList N hm) (by have h2 : @LE.le Nat _ its.size 1000 := hz; omega) h
end Mine
namespace Mine
theorem Con.mono {w : World} {f : Addr} {args : List Value} {chg keep : List (Addr × Obj)} {D U : Nat} {P P' : Value → List (Addr × Obj) → List (Addr × Obj) → Prop} (C : Con w f args chg keep D U P) (h : ∀ v made chg', P v made chg' → P' v made chg') : Con w f args chg keep D U P' := fun hF => by
  intro dp un gd cn cs a ccd cl outer A₀ base h₀ L m s Q E mean mg mb rest B F X N dis T hk hd hu hret
  exact C hF dp un gd cn cs a ccd cl outer A₀ base h₀ L m s Q E mean mg mb rest B F X N dis T hk hd hu fun v nd h' tk' hP => hret v nd h' tk' (by
    obtain ⟨made, chg', e, hf, hm, hP⟩ := hP
    exact ⟨made, chg', e, hf, hm, h _ _ _ hP⟩)
end Mine
namespace Mine
section
variable {w : World} {dp un : Nat} {gd : Option (List Code)} {cn : Str} {cs : Scope} {L a : Addr} {ccd : Value} {cl : List (Str × Addr)} {outer : List Env} {A₀ : Around} {base h₀ : Heap} {m : Str → Option Value} {s : Shared} {Q E : Value → Shared → Prop}
  {mean : ExcName → Option Value} {mg mb : Str → Option Value} {chg keep news rest : List (Addr × Obj)} {f : Addr} {args : List Value} {D U : Nat} {P : Value → List (Addr × Obj) → List (Addr × Obj) → Prop}
theorem Con.use2 (N : News h₀ L s.heap news) (F : Fr h₀ L s.heap m) (hK0 : ∀ q ∈ keep, q ∈ news) (hT : Take chg news rest) (hF2 : Fars chg keep) (hF : Fars chg rest)
    (B : Below A₀ base outer h₀) (X₀ : (K w.params).In h₀) (T : Top vw (looseW vw loose) mean mg mb h₀) (hke : cs.kind = .function) (hroom : dp + D < recursionLimit) (hun : un + U < cLine) (C : Con w f args chg keep D U P)
    (k : ∀ v made chg' h' tk', P v made chg' → Fr h₀ L h' m → News h₀ L h' (made ++ (chg' ++ rest)) → Fars made (chg' ++ rest) → Q v { s with heap := h', toks := tk' }) :
    wpAny (model PySem.Challenge.rw_xm0958_01.row.toRowW.1 w) (ktrTop dp un gd cn cs L a ccd cl outer) (call (.ref f) args) Q E s :=
  Con.use (chg := chg) (keep := keep) (rest := rest) C B F X₀ N T hke hK0 hT hF hF2 hroom hun k
end
end Mine
namespace Mine
theorem mem_id {q : Addr × Obj} {l : List (Addr × Obj)} (h : q ∈ l) : q ∈ l := h
theorem far_part {d : Addr} {l l' : List (Addr × Obj)} (h : Far d l) (hs : ∀ p ∈ l', p ∈ l) : ∀ p ∈ l', p.1 ≠ d := fun p hp => h.all p (hs p hp)
end Mine
end

section
set_option maxHeartbeats 400000
namespace Mine
/-- what a turn of a for loop leaves -/
noncomputable def TurnEnd (h₀ : Heap) (L : Addr) (x : Str) (S : List Str) (m₀ : Str → Option Value) (J : List (Addr × Obj) → Prop) (I : Addr) (oI : Obj) (s₁ : Shared) (Q : Flow → Shared → Prop) (f : Flow) (s₂ : Shared) : Prop :=
  match f with
  | .ret v => Q (.ret v) s₂
  | .brk => Q .next s₂
  | _ => ∃ h' tk m' nx, s₂ = { s₁ with heap := h', toks := tk } ∧ Fr h₀ L h' m' ∧ News h₀ L h' ((I, oI) :: nx) ∧ Far I nx ∧ (∀ z, z ≠ x → z ∉ S → m' z = m₀ z) ∧ J nx
/-- the names S and x forgotten -/
noncomputable def Forgot (x : Str) (S : List Str) (m₀ m : Str → Option Value) : Prop := ∀ z, z ≠ x → z ∉ S → m z = m₀ z
theorem forgot_eq {x : Str} {S : List Str} {m₀ m : Str → Option Value} (h : Forgot x S m₀ m) : m = fun y => if y = x then m y else if y ∈ S then m y else m₀ y := by
  funext y
  by_cases h1 : y = x
  · simp only [h1, if_true]
  · by_cases h2 : y ∈ S
    · simp only [h1, h2, if_true, if_false]
    · simp only [h1, h2, if_false]; exact h y h1 h2
theorem forgot_set {x : Str} {S : List Str} {m₀ m : Str → Option Value} {v : Value} (h : Forgot x S m₀ m) : (fun y => if y = x then some v else m y) = fun y => if y = x then some v else if y ∈ S then m y else m₀ y := by
  funext y
  by_cases h1 : y = x
  · simp only [h1, if_true]
  · by_cases h2 : y ∈ S
    · simp only [h1, h2, if_true, if_false]
    · simp only [h1, h2, if_false]; exact h y h1 h2
section
variable {prog : Program} {w : World} {A : Around} {E : Value → Shared → Prop} {s : Shared} {env : Env} {h₀ : Heap} {x : Str} {body : List Stmt} {Q : Flow → Shared → Prop}
theorem iter_list {l : Addr} {vs : Array Value} {nn : Nat} {m₀ : Str → Option Value} {news : List (Addr × Obj)} (S : List Str) (J : Nat → List (Addr × Obj) → Prop)
    (hh : A.handled = none) (hl : (l, W.listOf vs nn) ∈ news) (F : Fr h₀ env.locals s.heap m₀) (N : News h₀ env.locals s.heap news) (hJl : ∀ i nx, J i nx → (l, W.listOf vs nn) ∈ nx) (hj : J 0 news)
    (turn : ∀ (i : Nat) (v : Value) (m₁ : Str → Option Value) (news₁ : List (Addr × Obj)) (h : Heap) (tk : Nat) (I : Addr) (oI : Obj), vs[i]? = some v → J i news₁ → Far I news₁ → Fr h₀ env.locals h (fun y => if y = x then some v else if y ∈ S then m₁ y else m₀ y) → News h₀ env.locals h ((I, oI) :: news₁) →
      wpAny (model prog w) A (execs body env) (TurnEnd h₀ env.locals x S m₀ (J (i + 1)) I oI { s with heap := h, toks := tk } Q) E { s with heap := h, toks := tk })
    (done : ∀ (m₁ : Str → Option Value) (news₁ : List (Addr × Obj)) (h : Heap) (tk : Nat), J vs.size news₁ → Fr h₀ env.locals h (fun y => if y = x then m₁ y else if y ∈ S then m₁ y else m₀ y) → News h₀ env.locals h news₁ → Q .next { s with heap := h, toks := tk }) :
    wpAny (model prog w) A (pyIter (.ref l)) (fun it s₂ => LoopAtV prog w A h₀ env x body Q E it s₂) E s := by
  have hol : s.heap.get? l = some (W.listOf vs nn) := (N _ hl).1
  have hls : s.heap.IsList l vs := ⟨_, hol, rfl, nn, rfl⟩
  have hne : l ≠ s.heap.objs.size := Nat.ne_of_lt (Heap.lt_size hol)
  refine wpAny_pyIter_list hls ?_
  have WL := Walks.list (prog := prog) (w := w) hh s.heap.objs.size l hne vs
  refine ⟨_, _, _, vs.size, _, _, m₀, news, (fun i m nx => Forgot x S m₀ m ∧ J i nx), rfl, WL, ?_, ?_, ?_, ⟨⟨_, Heap.get?_push_size _ rfl, rfl, rfl⟩, hls.at fun o e => Heap.get?_push_of_some _ e⟩, F.push _, (fun p hp => ⟨Heap.get?_push_of_some _ (N p hp).1, (N p hp).2⟩), ⟨fun _ _ _ => rfl, hj⟩, ?_, ?_⟩
  · intro hm
    rcases List.mem_cons.mp hm with e | hm
    · exact absurd F.ns.lt (e ▸ Nat.lt_irrefl _)
    · exact (N _ hl).2.1 ((List.mem_singleton.mp hm).symm)
  · intro b hb
    rw [List.mem_singleton.mp hb]
    exact next_is_new F
  · intro p hp hI
    exact absurd (Heap.lt_size (N p hp).1) ((List.mem_singleton.mp hI) ▸ Nat.lt_irrefl _)
  · rintro i v m₁ news₁ s₁ own ⟨hh', tk', rfl⟩ hin hP ⟨hm, hJ⟩ hoff hown hget hfp st F₁ N₁
    obtain ⟨oI, hoI, _⟩ := st.1
    have hwr : h₀.get? s.heap.objs.size = none := next_is_new F
    have hIown : (s.heap.objs.size, oI) ∈ own := hfp _ (List.mem_cons_self) hwr oI hoI
    have N₂ : News h₀ env.locals hh' ((s.heap.objs.size, oI) :: news₁) := fun p hp => by
      rcases List.mem_cons.mp hp with rfl | hp
      · exact N₁ _ (List.mem_append_left _ hIown)
      · exact N₁ p (List.mem_append_right _ hp)
    rw [forgot_set hm] at F₁
    refine wpAny_mono (turn i v m₁ news₁ hh' tk' _ oI hP hJ ⟨fun p hp e => hoff p hp (List.mem_singleton.mpr e)⟩ F₁ N₂) (fun f s₂ p => ?_) fun _ _ e => e
    have fin : (∃ h' tk m' nx, s₂ = { heap := h', gens := s.gens, drawn := s.drawn, toks := tk, os := s.os } ∧ Fr h₀ env.locals h' m' ∧ News h₀ env.locals h' ((s.heap.objs.size, oI) :: nx) ∧ Far s.heap.objs.size nx ∧ (∀ z, z ≠ x → z ∉ S → m' z = m₀ z) ∧ J (i + 1) nx) →
        LoopStepU h₀ env.locals [s.heap.objs.size] own (fun m nx => Forgot x S m₀ m ∧ J (i + 1) nx) { s with heap := hh', toks := tk' } .next s₂ := by
      rintro ⟨h', tk, m', nx, e, F', N', hf, hm', hJ'⟩
      refine ⟨rfl, h', tk, m', nx, e, F', fun p hp => ?_, fun p hp hI => hf.all p hp (List.mem_singleton.mp hI), hm', hJ'⟩
      rcases List.mem_append.mp hp with h | h
      · rcases List.mem_cons.mp (hown p h) with h2 | h2
        · have h3 := hget p h
          have h4 : hh'.get? p.1 = some oI := h2 ▸ hoI
          rw [h4] at h3
          have h5 : p = (s.heap.objs.size, oI) := Prod.ext h2 (Option.some.inj h3).symm
          rw [h5]; exact N' _ List.mem_cons_self
        · have h1 : p.1 = l := List.mem_singleton.mp h2
          have h3 := hget p h
          have h4 : hh'.get? p.1 = some (W.listOf vs nn) := h1 ▸ (N₂ _ (List.mem_cons_of_mem _ (hJl _ _ hJ))).1
          rw [h4] at h3
          have h5 : p = (l, W.listOf vs nn) := Prod.ext h1 (Option.some.inj h3).symm
          rw [h5]; exact N' _ (List.mem_cons_of_mem _ (hJl _ _ hJ'))
      · exact N' p (List.mem_cons_of_mem _ h)
    cases f with
    | ret v => exact .ret p
    | brk => exact .brk p
    | next => exact .next (fin p)
    | cont => exact .cont (fin p)
  · rintro h' tk m' news' F' N' _ ⟨hm, hJ⟩
    rw [forgot_eq hm] at F'
    exact done m' news' h' tk hJ F' N'
end
end Mine
namespace Mine
theorem in_two_no {prog : Program} {w : World} {A : Around} {E : Value → Shared → Prop} {s : Shared} {Q : Value → Shared → Prop} {h₀ : Heap} {L d : Addr} {news : List (Addr × Obj)} {x a b : Str} {u ta tb : Tok} (N : News h₀ L s.heap news) (hm : (d, tup [.str a ta, .str b tb]) ∈ news) (h1 : x ≠ a) (h2 : x ≠ b)
    (h : Q (.bool false) s) : wpAny (model prog w) A (compareOp .In (.str x u) (.ref d)) Q E s := by
  refine in_tuple_strs (News.isTup N hm) (.cons a ta (.cons b tb .nil)) ?_
  have : ([a, b].any (· == x)) = false := by
    simp only [List.any_cons, List.any_nil, Bool.or_false, Bool.or_eq_false_iff, beq_eq_false_iff_ne]
    exact ⟨fun e => h1 e.symm, fun e => h2 e.symm⟩
  rw [this]; exact h
theorem far_young {d : Addr} {l l' : List (Addr × Obj)} (h : Young d l) (hs : ∀ p ∈ l', p ∈ l) : Far d l' := ⟨fun p hp => allLt_ne (a := p.1) (o := p.2) h (hs p hp)⟩
theorem upd_hd {d : Addr} {o o' : Obj} {r : List (Addr × Obj)} (h : Far d r) : Upd d o o' ((d, o) :: r) ((d, o') :: r) := .head h.all
theorem take_push {vs : Array Value} {i : Nat} {v : Value} (h : vs[i]? = some v) : (vs.toList.take i).toArray.push v = (vs.toList.take (i + 1)).toArray := by
  rw [List.push_toArray, List.take_add_one]
  have : vs.toList[i]? = some v := by rw [Array.getElem?_toList]; exact h
  rw [this]; rfl
theorem take_all {vs : Array Value} : (vs.toList.take vs.size).toArray = vs := by
  have : vs.size = vs.toList.length := (Array.length_toList).symm
  rw [this, List.take_length]
end Mine
namespace Mine
theorem in_nil {prog : Program} {w : World} {A : Around} {E : Value → Shared → Prop} {s : Shared} {Q : Value → Shared → Prop} {h₀ : Heap} {L d : Addr} {news : List (Addr × Obj)} {x : Str} {u : Tok} {k : Nat} (N : News h₀ L s.heap news) (hm : (d, W.listOf #[] k) ∈ news)
    (h : Q (.bool false) s) : wpAny (model prog w) A (compareOp .In (.str x u) (.ref d)) Q E s := in_list_strs (News.isList N hm) .nil h
end Mine
end

section
set_option maxHeartbeats 400000
namespace Mine
section
variable {prog : Program} {w : World} {A : Around} {E : Value → Shared → Prop} {env : Env} {test : PySem.Expr} {body orelse : List Stmt} {Q : Flow → Shared → Prop} {k : Nat}
/-- a while loop by a rank: R holds at the head -/
theorem whl_chain {α : Type} (R : Nat → α → Shared → Prop)
    (step : ∀ n a s, R n a s → (∀ m a' s', m < n → R m a' s' → WhlRest prog w A E env test body orelse Q k s') → WhlRest prog w A E env test body orelse Q (k + 1) s) :
    ∀ (n : Nat) (a : α) (s : Shared), R n a s → WhlRest prog w A E env test body orelse Q k s := by
  intro n
  induction n using Nat.strongRecOn with
  | ind n ih => exact fun a s h => step n a s h fun m a' s' hm h' => ih m hm a' s' h'
end
noncomputable abbrev oMark (c : Tok) : Obj := tup [.str (Str.ofString "mark") c]
noncomputable abbrev oDone (c : Tok) : Obj := tup [.str (Str.ofString "done") c]
noncomputable abbrev oFail (c : Tok) : Obj := tup [.str (Str.ofString "fail") c]
noncomputable abbrev oSet (c : Tok) (a : Addr) : Obj := tup [.str (Str.ofString "set") c, .ref a]
noncomputable abbrev oChars (c d : Tok) (x : Str) (e : Tok) : Obj := tup [.str (Str.ofString "one") c, .str (Str.ofString "chars") d, .str x e]
noncomputable abbrev oLen (c d : Tok) (n : Int) (e : Tok) : Obj := tup [.str (Str.ofString "one") c, .str (Str.ofString "len") d, .int n e]
noncomputable abbrev oWays (c d : Tok) : Obj := tup [.str (Str.ofString "ways") c, .str (Str.ofString "arb") d]
noncomputable abbrev nCat (c : Tok) (a b : Addr) : Obj := tup [.str (Str.ofString "cat") c, .ref a, .ref b]
noncomputable abbrev nNow (c : Tok) (a b : Addr) : Obj := tup [.str (Str.ofString "now") c, .ref a, .ref b]
noncomputable abbrev nLen (c : Tok) (n : Int) (d : Tok) : Obj := tup [.str (Str.ofString "len") c, .int n d]
noncomputable abbrev nChars (c : Tok) (x : Str) (d : Tok) : Obj := tup [.str (Str.ofString "chars") c, .str x d]
noncomputable abbrev nArb (c : Tok) : Obj := tup [.str (Str.ofString "arb") c]
noncomputable abbrev oGot (c : Tok) (x : Str) (d : Tok) : Obj := tup [.str (Str.ofString "W") c, .str x d]
noncomputable abbrev vs5 (a b c d e : Addr) : Array Value := (((((#[] : Array Value).push (.ref a)).push (.ref b)).push (.ref c)).push (.ref d)).push (.ref e)
noncomputable abbrev vs6 (a b c d e f : Addr) : Array Value := ((((((#[] : Array Value).push (.ref a)).push (.ref b)).push (.ref c)).push (.ref d)).push (.ref e)).push (.ref f)
/-- the host's dict -/
structure HostT where
  (h0 h1 h2 h3 h4 h5 : Int)
  (t0 t1 t2 t3 t4 t5 u1 u2 : Tok)
noncomputable abbrev hostD (T : HostT) (vd rl lg : Addr) (k : Int) (u : Tok) : Obj :=
  dictOf [⟨T.h0, .str (Str.ofString "values") T.t0, .ref vd⟩, ⟨T.h1, .str (Str.ofString "limit") T.t1, .int 9999 T.u1⟩, ⟨T.h2, .str (Str.ofString "refused") T.t2, .ref rl⟩, ⟨T.h3, .str (Str.ofString "width") T.t3, .int 64 T.u2⟩, ⟨T.h4, .str (Str.ofString "steps") T.t4, .int k u⟩, ⟨T.h5, .str (Str.ofString "log") T.t5, .ref lg⟩] 6
structure WayT where
  (h0 h1 h2 h3 h4 h5 : Int)
  (t0 t1 t2 t3 t4 t5 : Tok)
noncomputable abbrev wayD (T : WayT) (ol : Addr) (pc : Int) (u : Tok) (at9 : Int) (u2 : Tok) (marks : Value) : Obj :=
  dictOf [⟨T.h0, .str (Str.ofString "orders") T.t0, .ref ol⟩, ⟨T.h1, .str (Str.ofString "pc") T.t1, .int pc u⟩, ⟨T.h2, .str (Str.ofString "at") T.t2, .int at9 u2⟩, ⟨T.h3, .str (Str.ofString "named") T.t3, .none⟩, ⟨T.h4, .str (Str.ofString "marks") T.t4, marks⟩, ⟨T.h5, .str (Str.ofString "calls") T.t5, .none⟩] 6
structure MatchT where
  (h0 h1 h2 : Int)
  (t0 t1 t2 us : Tok)
noncomputable abbrev matchD (T : MatchT) (sub : Str) (ho hs : Addr) : Obj :=
  dictOf [⟨T.h0, .str (Str.ofString "subject") T.t0, .str sub T.us⟩, ⟨T.h1, .str (Str.ofString "host") T.t1, .ref ho⟩, ⟨T.h2, .str (Str.ofString "history") T.t2, .ref hs⟩] 3
structure RefT where
  (h0 h1 h2 : Int)
  (t0 t1 t2 r1 r2 : Tok)
noncomputable abbrev refD (T : RefT) : Obj :=
  dictOf [⟨T.h0, .str (Str.ofString "kind") T.t0, .str (Str.ofString "var") T.r1⟩, ⟨T.h1, .str (Str.ofString "owner") T.t1, .none⟩, ⟨T.h2, .str (Str.ofString "key") T.t2, .str (Str.ofString "W") T.r2⟩] 3
/-- what stands still while a match runs -/
structure RunC where
  (mt md hs ho hd vd rl lg ol : Addr)
  (H : HostT) (M : MatchT)
  sub : Str
  vs : Array Value
  oj : Nat
noncomputable abbrev Led := List (Addr × Obj)
/-- the head of a turn: k steps are gone, the way wy stands at the order od, whose word is g -/
structure Head (c : RunC) (k : Int) (u : Tok) (wy wd od : Addr) (T : WayT) (i : Nat) (y1 y2 gt : Tok) (at9 : Int) (mk : Value) (g : Str) (gr : List Value) (news r1 : Led) : Prop where
  hsub : ∀ p ∈ (c.hd, hostD c.H c.vd c.rl c.lg k u) :: r1, p ∈ news
  hf : Far c.hd r1
  k0 : 0 ≤ k
  k1 : k < 9999
  hho : (c.ho, instObj 589 c.hd) ∈ r1
  hmt : (c.mt, instObj 526 c.md) ∈ r1
  hmd : (c.md, matchD c.M c.sub c.ho c.hs) ∈ r1
  hwy : (wy, instObj 449 wd) ∈ r1
  hwd : (wd, wayD T c.ol i y1 at9 y2 mk) ∈ r1
  hol : (c.ol, W.listOf c.vs c.oj) ∈ r1
  hi : c.vs[i]? = some (.ref od)
  hod : (od, tup (.str g gt :: gr)) ∈ r1
/-- what the call of 'done' does in that turn -/
structure Does (w : World) (c : RunC) (k : Int) (wy od : Addr) (g : Str) (r1 : Led) (u : Tok) (chg keep r2 : Led) (P1 : Value → Led → Led → Prop) : Prop where
  hg : g ≠ Str.ofString "done"
  hg2 : g ≠ Str.ofString "abort"
  C : Con w 488 [.ref c.mt, .ref od, .ref wy] chg keep 40 300 P1
  hK : ∀ q ∈ keep, q ∈ (c.hd, hostD c.H c.vd c.rl c.lg (k + 1) u) :: r1
  hT : Take chg ((c.hd, hostD c.H c.vd c.rl c.lg (k + 1) u) :: r1) r2
  hF : Fars chg r2
  hF2 : Fars chg keep
/-- the machine's turns, told by the ledger alone: steps k, the way wy -/
inductive Chain (w : World) (c : RunC) (Post : Value → Led → Prop) : Nat → Int → Addr → Led → Prop
  | ret {n : Nat} {k : Int} {u : Tok} {wy wd od : Addr} {news r1 : Led} {T : WayT} {i : Nat} {y1 y2 gt : Tok} {at9 : Int} {mk : Value} {gr : List Value}
      (H : Head c k u wy wd od T i y1 y2 gt at9 mk (Str.ofString "done") gr news r1)
      (hp : ∀ (rt : Addr) (t1 u' : Tok), Far rt ((c.hd, hostD c.H c.vd c.rl c.lg (k + 1) u') :: r1) → Post (.ref rt) ((rt, tup [.int 0 t1, .ref wy]) :: (c.hd, hostD c.H c.vd c.rl c.lg (k + 1) u') :: r1)) :
      Chain w c Post (n + 1) k wy news
  | go {n : Nat} {k : Int} {u : Tok} {wy wd od : Addr} {news r1 : Led} {T : WayT} {i : Nat} {y1 y2 gt : Tok} {at9 : Int} {mk : Value} {g : Str} {gr : List Value} {chg keep r2 : Tok → Led} {P1 : Tok → Value → Led → Led → Prop}
      (H : Head c k u wy wd od T i y1 y2 gt at9 mk g gr news r1) (D : ∀ u', Does w c k wy od g r1 u' (chg u') (keep u') (r2 u') (P1 u'))
      (hv : ∀ u' v made chg', P1 u' v made chg' → v = .bool true)
      (hn : ∀ u' v made chg', P1 u' v made chg' → Fars made (chg' ++ r2 u') → Chain w c Post n (k + 1) wy (made ++ (chg' ++ r2 u'))) :
      Chain w c Post (n + 1) k wy news
  | out {n : Nat} {k : Int} {u : Tok} {wy wd od : Addr} {news r1 : Led} {T : WayT} {i : Nat} {y1 y2 gt : Tok} {at9 : Int} {mk : Value} {g : Str} {gr : List Value} {chg keep r2 : Tok → Led} {P1 : Tok → Value → Led → Led → Prop} {j : Nat}
      (H : Head c k u wy wd od T i y1 y2 gt at9 mk g gr news r1) (D : ∀ u', Does w c k wy od g r1 u' (chg u') (keep u') (r2 u') (P1 u'))
      (hv : ∀ u' v made chg', P1 u' v made chg' → v = .bool false)
      (hm : ∀ u' v made chg', P1 u' v made chg' → Fars made (chg' ++ r2 u') → (c.hs, W.listOf #[] j) ∈ made ++ (chg' ++ r2 u') ∧ (c.mt, instObj 526 c.md) ∈ made ++ (chg' ++ r2 u') ∧ (c.md, matchD c.M c.sub c.ho c.hs) ∈ made ++ (chg' ++ r2 u'))
      (hp : ∀ u' v made chg', P1 u' v made chg' → Fars made (chg' ++ r2 u') → ∀ (rt : Addr) (t1 : Tok), Far rt (made ++ (chg' ++ r2 u')) → Post (.ref rt) ((rt, tup [.int 1 t1, .none]) :: (made ++ (chg' ++ r2 u')))) :
      Chain w c Post (n + 1) k wy news
  | pop {n : Nat} {k : Int} {u : Tok} {wy wd od : Addr} {news r1 : Led} {T : WayT} {i : Nat} {y1 y2 gt : Tok} {at9 : Int} {mk : Value} {g : Str} {gr : List Value} {chg keep r2 r3 : Tok → Led} {P1 : Tok → Value → Led → Led → Prop} {j : Nat} {its : List Value} {wy2 wd2 : Addr} {T2 : WayT} {pc2 at2 : Int} {z1 z2 : Tok} {mk2 : Value}
      (H : Head c k u wy wd od T i y1 y2 gt at9 mk g gr news r1) (D : ∀ u', Does w c k wy od g r1 u' (chg u') (keep u') (r2 u') (P1 u'))
      (hlim : its.length < 900) (hv : ∀ u' v made chg', P1 u' v made chg' → v = .bool false)
      (hm : ∀ u' v made chg', P1 u' v made chg' → Fars made (chg' ++ r2 u') → (∀ p ∈ (c.hs, W.listOf (its ++ [Value.ref wy2]).toArray j) :: r3 u', p ∈ made ++ (chg' ++ r2 u')) ∧ Far c.hs (r3 u') ∧ (c.mt, instObj 526 c.md) ∈ r3 u' ∧ (c.md, matchD c.M c.sub c.ho c.hs) ∈ r3 u' ∧ (wy2, instObj 449 wd2) ∈ r3 u' ∧ (wd2, wayD T2 c.ol pc2 z1 at2 z2 mk2) ∈ r3 u')
      (hn : ∀ u' v made chg', P1 u' v made chg' → Fars made (chg' ++ r2 u') → ∀ j', Chain w c Post n (k + 1) wy2 ((c.hs, W.listOf its.toArray j') :: r3 u')) :
      Chain w c Post (n + 1) k wy news
section
variable {prog : Program} {w : World} {A : Around} {E : Value → Shared → Prop} {s : Shared} {env : Env} {test : PySem.Expr} {body orelse : List Stmt} {Q : Flow → Shared → Prop}
theorem whl_any {k k' : Nat} (h : WhlRest prog w A E env test body orelse Q k' s) : WhlRest prog w A E env test body orelse Q k s := h
end
/-- stops a walk -/
noncomputable def Hold (p : Prop) : Prop := p
theorem hold_of {p : Prop} (h : Hold p) : p := h
theorem upd_eq {m : Str → Option Value} {x : Str} {v : Value} (h : m x = some v) : m = fun y => if y = x then some v else m y := by
  funext y
  by_cases e : y = x
  · rw [if_pos e, e]; exact h
  · rw [if_neg e]
theorem upd_eq2 {m : Str → Option Value} {x z : Str} {v u : Value} (h : m x = some v) (h2 : m z = some u) : m = fun y => if y = x then some v else if y = z then some u else m y := by
  funext y
  by_cases e : y = x
  · rw [if_pos e, e]; exact h
  · rw [if_neg e]
    by_cases e2 : y = z
    · rw [if_pos e2, e2]; exact h2
    · rw [if_neg e2]
theorem idx_any {prog : Program} {w : World} {A : Around} {E : Value → Shared → Prop} {s : Shared} {Q : Value → Shared → Prop} {value slice : PySem.Expr} {l : Addr} {vs : Array Value} {n i : Nat} {v : Value} {u : Tok} {h₀ : Heap} {L : Addr} {news : List (Addr × Obj)} (N : News h₀ L s.heap news) (hm : (l, W.listOf vs n) ∈ news) (hi : vs[i]? = some v) (hz : i < 1000) (h : Q v s)
    (hs : subscripted slice false (.ref l) (.int i u) = operate [.ref l, .int i u] (getItem (.ref l) (.int i u)) := by with_unfolding_all rfl) (hg : ∀ r, letTemporaryGo value (.ref l) r = pure () := by intro _; with_unfolding_all rfl) :
    wpAny (model prog w) A (subscriptTail value slice (.ref l) (.int i u)) Q E s :=
  item_list (News.isList N hm) (Int.natCast_nonneg i) (by omega) (by simpa using hi) h hs hg
theorem young_sub {d : Addr} {l l' : List (Addr × Obj)} (h : Young d l) (hs : ∀ p ∈ l', p ∈ l) : ∀ p ∈ l', p.1 ≠ d := fun p hp => allLt_ne (a := p.1) (o := p.2) h (hs p hp)
theorem young_sub2 {d x : Addr} {l l' : List (Addr × Obj)} (hx : @LT.lt Nat _ d x) (h : Young d l) (hs : ∀ p ∈ l', p ∈ l) : ∀ p ∈ l', p.1 ≠ x := fun p hp => allLt_ne2 (a := p.1) (o := p.2) hx h (hs p hp)
theorem last_snoc (l : List Value) (y : Value) : kl_last (l ++ [y]).toArray.toList = some (l, y) := by
  show kl_last (l ++ [y]) = some (l, y)
  induction l with
  | nil => rfl
  | cons a r ih =>
    cases r with
    | nil => rfl
    | cons b t => simp only [List.cons_append] at ih ⊢; unfold kl_last; rw [ih]
theorem kl_pop2 {prog : Program} {w : World} {A : Around} {E : Value → Shared → Prop} {s : Shared} {h₀ : Heap} {L D : Addr} {m : Str → Option Value} {news news' : List (Addr × Obj)} {its : Array Value} {n : Nat} {p : List Value} {y : Value} {Q : Value → Shared → Prop} (F : Fr h₀ L s.heap m) (N : News h₀ L s.heap news) (U : Upd D (W.listOf its n) (W.listOf p.toArray (n + 1)) news news') (e : kl_last its.toList = some (p, y))
    (hz : its.toList.length ≤ sizeLine) (h : ∀ h', Fr h₀ L h' m → News h₀ L h' news' → Q y { s with heap := h' }) : wpAny (model prog w) A (call (.builtin "list.pop") [.ref D]) Q E s := kl_pop F N e U hz h
end Mine
end

namespace Mine
local macro_rules | `(tactic| walk_at $s:str) => `(tactic| k_extra $s)
local macro_rules | `(tactic| k_lt $h:ident) => `(tactic| replace $h := young_of $h)
local macro_rules | `(tactic| k_allIn) => `(tactic| k_extra "k_allIn")
local macro_rules | `(tactic| lcg_sub) => `(tactic| k_extra "lcg_sub")
local macro_rules | `(tactic| k_ne) => `(tactic| k_extra "k_ne")
local macro_rules | `(tactic| lcg_off) => `(tactic| k_extra "lcg_off")
local macro_rules | `(tactic| k_room) => `(tactic| k_extra "k_room")
local macro_rules | `(tactic| k_units) => `(tactic| k_extra "k_units")
local macro_rules | `(tactic| k_enter) => `(tactic| k_extra "k_enter")
local macro_rules | `(tactic| k_all) => `(tactic| k_extra "k_all")
local macro_rules | `(tactic| k_mem) => `(tactic| k_extra "k_mem")
local macro_rules | `(tactic| k_memK) => `(tactic| k_extra "k_memK")

section
set_option maxHeartbeats 4000000
theorem emitC (w : World) (sf sd l : Addr) (hs : Int) (ts : Tok) (ov : Value) (its : Array Value) (k n : Nat) (hz : its.size ≤ 100) :
    Con w 58 [.ref sf, ov] [(l, W.listOf its k)] [(sf, (⟨.ref 94, some sd, .plain, #[]⟩ : Obj)), (sd, dictOf [⟨hs, .str (Str.ofString "orders") ts, .ref l⟩] n)] 10 80
      (fun (v : Value) (made chg' : List (Addr × Obj)) => ∃ (i : Int) (t : Tok), v = .int i t ∧ made = [] ∧ chg' = [(l, W.listOf (its.push ov) (k + 1))]) := by
  k_with_none
  (k_with "WhlIf" => ((first | (refine WhlIf.yes (by with_unfolding_all rfl) ?_) | (refine WhlIf.no (by with_unfolding_all rfl) ?_) | (refine WhlIf.yes (by decide) ?_) | (refine WhlIf.no (by decide) ?_)); (try k_fold)))
  (k_with "setAttr ref" => (k_here; k_dflt (refine set_dict_any (by k_asm) (by k_asm) (by k_asm) (by k_inst) (by exact rfl) (by k_is) (by k_is) (by k_is) (by k_is) (by k_get) (by (intro kH kt; k_put)) (by (intro kH kt; k_upd)) (by (intro kH kt; exact Nat.le_of_ble_eq_true rfl)) ?_; k_whole); intro kwh kwH kwt kwF kwN; (try k_sweep)))
  (k_with "k_allIn" => (first | exact List.forall_mem_nil _ | (refine List.forall_mem_cons.mpr ⟨by (first | exact nth_mem 0 rfl | exact nth_mem 1 rfl | exact nth_mem 2 rfl | exact nth_mem 3 rfl | exact nth_mem 4 rfl | exact nth_mem 5 rfl | exact nth_mem 6 rfl | exact nth_mem 7 rfl | exact nth_mem 8 rfl | exact nth_mem 9 rfl | exact nth_mem 10 rfl | exact nth_mem 11 rfl | exact nth_mem 12 rfl | exact nth_mem 13 rfl | exact nth_mem 14 rfl | exact nth_mem 15 rfl | exact nth_mem 16 rfl | exact nth_mem 17 rfl | exact nth_mem 18 rfl | exact nth_mem 19 rfl | exact nth_mem 20 rfl | exact nth_mem 21 rfl | exact nth_mem 22 rfl | exact nth_mem 23 rfl | exact nth_mem 24 rfl | exact nth_mem 25 rfl | k_memK), ?_⟩; k_allIn)))
  (k_with "lcg_sub" => (first | exact List.forall_mem_nil _ | (refine List.forall_mem_cons.mpr ⟨by (first | exact nth_mem 0 rfl | exact nth_mem 1 rfl | exact nth_mem 2 rfl | exact nth_mem 3 rfl | exact nth_mem 4 rfl | exact nth_mem 5 rfl | exact nth_mem 6 rfl | exact nth_mem 7 rfl | exact nth_mem 8 rfl | exact nth_mem 9 rfl | exact nth_mem 10 rfl | exact nth_mem 11 rfl | exact nth_mem 12 rfl | exact nth_mem 13 rfl | exact nth_mem 14 rfl | exact nth_mem 15 rfl | exact nth_mem 16 rfl | exact nth_mem 17 rfl | exact nth_mem 18 rfl | exact nth_mem 19 rfl | exact nth_mem 20 rfl | exact nth_mem 21 rfl | exact nth_mem 22 rfl | exact nth_mem 23 rfl | exact nth_mem 24 rfl | exact nth_mem 25 rfl | k_mem), ?_⟩; lcg_sub)))
  (k_with "k_ne" => (refine neN ?_; (try dsimp only); first
    | exact allLt_ne (by with_reducible assumption) (by k_mem)
    | exact allLt_ne' (by with_reducible assumption) (by k_mem)
    | exact far_ne (by with_reducible assumption) (by k_mem)
    | exact far_ne' (by with_reducible assumption) (by k_mem)
    | exact allLt_ne2 (by with_reducible assumption) (by with_reducible assumption) (by k_mem)
    | exact allLt_ne2' (by with_reducible assumption) (by with_reducible assumption) (by k_mem)
    | exact Nat.ne_of_lt (by assumption)
    | exact Nat.ne_of_gt (by assumption)
    | assumption
    | (refine Ne.symm ?_; assumption)
    | exact off1_ne (by assumption) (by k_mem)
    | (refine Ne.symm ?_; exact off1_ne (by assumption) (by k_mem))
    | exact apart_ne (by assumption) (by k_mem) (by k_mem)
    | exact apart_ne' (by assumption) (by k_mem) (by k_mem)
    | omega))
  (k_with "lcg_off" => first | exact True.intro | assumption | (refine And.intro ⟨by k_ne, by k_ne, by k_ne⟩ ?_; lcg_off))
  (k_with "k_room" => ((try simp only [depth_under_make, depth_under_kw, depth_in1, depth_deeper, depth_caller]); (try dsimp only [ktrTop]); first | exact Nat.le_of_ble_eq_true rfl | exact room1 (by assumption) rfl | exact room2 (by assumption) rfl | exact room3 (by assumption) rfl | exact room4 (by assumption) rfl | omega))
  (k_with "k_units" => ((try simp only [units_in1, units_deeper, Around.mark_units, units_caller]); (try dsimp only [ktrTop]); first | exact Nat.le_of_ble_eq_true rfl | exact room1 (by assumption) rfl | exact room2 (by assumption) rfl | exact room3 (by assumption) rfl | exact room4 (by assumption) rfl | omega))
  (k_with "eval ListComp" => (k_here; k_dflt (refine LCg.ListComp_U (F₀ := by k_asm) (by with_unfolding_all rfl) (by decide) (by rfl) (by decide) (by rfl) ?_)))
  (k_with "CompRest" => (with_unfolding_all first
    | (refine LCg.CompRest.succ ?_; intro kwv kwI kwoI kwC kwoC kwD kwm kwh kwtk kwE kwhv kwhC kwhx kwF kwN kwoff kwne; (first | lcg_open kwhv | (obtain ⟨kwt9, kwhv9⟩ := kwhv; subst kwhv9)))
    | refine LCg.CompRest.zero ?_))
  (k_with "FinE" => ((unfold LCg.FinE); intro kwD kwh kwtk kwF kwN kwo1; (try simp only [List.nil_append, List.cons_append] at kwN); (try dsimp only)))
  (k_with "compareOp In str ref" => (k_here; (with_reducible show wpAny _ _ (compareOp CmpOp.In (Value.str _ _) (Value.ref _)) _ _ _); k_dflt (first
    | (refine in_topTup (b := true) (by k_asm) (by k_asm) (by k_is) (by (repeat constructor)) (by decide) ?_; k_whole)
    | (refine in_topTup (b := false) (by k_asm) (by k_asm) (by k_is) (by (repeat constructor)) (by decide) ?_; k_whole))))
  (k_with "k_enter" => ((fail_if_success k_inElt); (refine code_def (by k_asm) (by k_asm) (by k_asm) (by k_asm) (by k_asm) rfl rfl rfl (by k_is) (by k_is) (by k_room) (by (first | exact binds1 rfl | exact binds2 rfl | exact binds3 rfl | exact binds4 rfl | exact binds7 rfl)) (by exact locs rfl) ?_ rfl rfl rfl (by decide); k_whole; intro kwg kwL kwh kwFG kwF kwN kwB kwX kwT; (try dsimp only [List.reverse_cons, List.reverse_nil, List.nil_append, List.cons_append]); (try k_lift kwB); (try k_fold))))
  (k_with "compareOp Eq str str" => (k_here; refine eq_str_no (by assumption) ?_))
  (k_with "subscriptTail Name Constant ref int" => (k_here; (with_reducible show wpAny _ _ (subscriptTail _ _ (Value.ref _) (Value.int 0 _)) _ _ _); k_dflt (refine head_tup (by k_asm) (by k_mem) ?_ (by with_unfolding_all rfl); k_whole)))
  (k_with "call builtin:len" => (k_here; (with_reducible show wpAny _ _ (call (Value.builtin "len") [Value.ref _]) _ _ _); k_dflt (refine len_any (by k_asm) (by k_mem) (by (first | assumption | omega | (simp only [Array.size_push]; omega))) ?_); k_whole))
  intro hF
  unfold Spec
  k_fill
  intro dp un gd cn cs a ccd cl outer A₀ base h₀ L m s Q E mean mg mb rest B F X N dis T hk hd hu hret
  dsimp only [Fars, List.cons_append, List.nil_append] at hF
  obtain ⟨hF0, -⟩ := hF
  try simp only [List.cons_append, List.nil_append] at N dis hret
  refine' enterR B F X N dis T hk ?room ?ho ?hcd ?bind ?loc ?_ ?hcell ?hco ?hgen ?hkk
  case room => first | exact room0 (by assumption) | omega
  case ho => k_dflt k_is
  case hcd => k_dflt k_is
  case bind => exact binds2 rfl
  case loc => exact locs rfl
  case hcell => decide
  case hco => exact rfl
  case hgen => exact rfl
  case hkk => exact rfl
  intro g L' h₁ F' N' B' X' T'
  clear B F X N T dis
  k_fold
  k_steps
  refine leaveR (by assumption) (by assumption) fun kF kN kA => ?_
  refine' hret _ _ _ _ ⟨_, _, rfl, ?fars, ?mp, ?e_i, ?e_t, rfl, rfl, rfl⟩ kF (news_sub2 kN ?sub) (apart_sub kA ?sub)
  case sub => (try simp only [List.cons_append, List.nil_append]); lcg_sub
  case mp => exact rfl
  case fars => repeat (first | exact fars_nil | refine fars_cons (by ((try simp only [List.cons_append, List.nil_append]); k_all)) ?_)
end

section
set_option maxHeartbeats 4000000
theorem rowOf (w : World) (n0 a b : Addr) (t1 ta tb tc : Tok) (ka kb : Str) (xa xb : List Value) (h1 : ka ≠ (Str.ofString "cat")) (h2 : kb ≠ (Str.ofString "cat")) :
    Con w 23 [.ref n0, .str (Str.ofString "cat") tc] [] [(n0, tup [.str (Str.ofString "cat") t1, .ref a, .ref b]), (a, tup (.str ka ta :: xa)), (b, tup (.str kb tb :: xb))] 8 60
      (fun (v : Value) (made chg' : List (Addr × Obj)) => ∃ (D : Addr) (kd : Nat), v = .ref D ∧ made = [(D, W.listOf #[.ref a, .ref b] kd)] ∧ chg' = []) := by
  k_with_none
  (k_with "WhlIf" => ((first | (refine WhlIf.yes (by with_unfolding_all rfl) ?_) | (refine WhlIf.no (by with_unfolding_all rfl) ?_) | (refine WhlIf.yes (by decide) ?_) | (refine WhlIf.no (by decide) ?_)); (try k_fold)))
  (k_with "setAttr ref" => (k_here; k_dflt (refine set_dict_any (by k_asm) (by k_asm) (by k_asm) (by k_inst) (by exact rfl) (by k_is) (by k_is) (by k_is) (by k_is) (by k_get) (by (intro kH kt; k_put)) (by (intro kH kt; k_upd)) (by (intro kH kt; exact Nat.le_of_ble_eq_true rfl)) ?_; k_whole); intro kwh kwH kwt kwF kwN; (try k_sweep)))
  (k_with "k_allIn" => (first | exact List.forall_mem_nil _ | (refine List.forall_mem_cons.mpr ⟨by (first | exact nth_mem 0 rfl | exact nth_mem 1 rfl | exact nth_mem 2 rfl | exact nth_mem 3 rfl | exact nth_mem 4 rfl | exact nth_mem 5 rfl | exact nth_mem 6 rfl | exact nth_mem 7 rfl | exact nth_mem 8 rfl | exact nth_mem 9 rfl | exact nth_mem 10 rfl | exact nth_mem 11 rfl | exact nth_mem 12 rfl | exact nth_mem 13 rfl | exact nth_mem 14 rfl | exact nth_mem 15 rfl | exact nth_mem 16 rfl | exact nth_mem 17 rfl | exact nth_mem 18 rfl | exact nth_mem 19 rfl | exact nth_mem 20 rfl | exact nth_mem 21 rfl | exact nth_mem 22 rfl | exact nth_mem 23 rfl | exact nth_mem 24 rfl | exact nth_mem 25 rfl | k_memK), ?_⟩; k_allIn)))
  (k_with "lcg_sub" => (first | exact List.forall_mem_nil _ | (refine List.forall_mem_cons.mpr ⟨by (first | exact nth_mem 0 rfl | exact nth_mem 1 rfl | exact nth_mem 2 rfl | exact nth_mem 3 rfl | exact nth_mem 4 rfl | exact nth_mem 5 rfl | exact nth_mem 6 rfl | exact nth_mem 7 rfl | exact nth_mem 8 rfl | exact nth_mem 9 rfl | exact nth_mem 10 rfl | exact nth_mem 11 rfl | exact nth_mem 12 rfl | exact nth_mem 13 rfl | exact nth_mem 14 rfl | exact nth_mem 15 rfl | exact nth_mem 16 rfl | exact nth_mem 17 rfl | exact nth_mem 18 rfl | exact nth_mem 19 rfl | exact nth_mem 20 rfl | exact nth_mem 21 rfl | exact nth_mem 22 rfl | exact nth_mem 23 rfl | exact nth_mem 24 rfl | exact nth_mem 25 rfl | k_mem), ?_⟩; lcg_sub)))
  (k_with "k_ne" => (refine neN ?_; (try dsimp only); first
    | exact allLt_ne (by with_reducible assumption) (by k_mem)
    | exact allLt_ne' (by with_reducible assumption) (by k_mem)
    | exact far_ne (by with_reducible assumption) (by k_mem)
    | exact far_ne' (by with_reducible assumption) (by k_mem)
    | exact allLt_ne2 (by with_reducible assumption) (by with_reducible assumption) (by k_mem)
    | exact allLt_ne2' (by with_reducible assumption) (by with_reducible assumption) (by k_mem)
    | exact Nat.ne_of_lt (by assumption)
    | exact Nat.ne_of_gt (by assumption)
    | assumption
    | (refine Ne.symm ?_; assumption)
    | exact off1_ne (by assumption) (by k_mem)
    | (refine Ne.symm ?_; exact off1_ne (by assumption) (by k_mem))
    | exact apart_ne (by assumption) (by k_mem) (by k_mem)
    | exact apart_ne' (by assumption) (by k_mem) (by k_mem)
    | omega))
  (k_with "lcg_off" => first | exact True.intro | assumption | (refine And.intro ⟨by k_ne, by k_ne, by k_ne⟩ ?_; lcg_off))
  (k_with "k_room" => ((try simp only [depth_under_make, depth_under_kw, depth_in1, depth_deeper, depth_caller]); (try dsimp only [ktrTop]); first | exact Nat.le_of_ble_eq_true rfl | exact room1 (by assumption) rfl | exact room2 (by assumption) rfl | exact room3 (by assumption) rfl | exact room4 (by assumption) rfl | omega))
  (k_with "k_units" => ((try simp only [units_in1, units_deeper, Around.mark_units, units_caller]); (try dsimp only [ktrTop]); first | exact Nat.le_of_ble_eq_true rfl | exact room1 (by assumption) rfl | exact room2 (by assumption) rfl | exact room3 (by assumption) rfl | exact room4 (by assumption) rfl | omega))
  (k_with "eval ListComp" => (k_here; k_dflt (refine LCg.ListComp_U (F₀ := by k_asm) (by with_unfolding_all rfl) (by decide) (by rfl) (by decide) (by rfl) ?_)))
  (k_with "CompRest" => (with_unfolding_all first
    | (refine LCg.CompRest.succ ?_; intro kwv kwI kwoI kwC kwoC kwD kwm kwh kwtk kwE kwhv kwhC kwhx kwF kwN kwoff kwne; (first | lcg_open kwhv | (obtain ⟨kwt9, kwhv9⟩ := kwhv; subst kwhv9)))
    | refine LCg.CompRest.zero ?_))
  (k_with "FinE" => ((unfold LCg.FinE); intro kwD kwh kwtk kwF kwN kwo1; (try simp only [List.nil_append, List.cons_append] at kwN); (try dsimp only)))
  (k_with "compareOp In str ref" => (k_here; (with_reducible show wpAny _ _ (compareOp CmpOp.In (Value.str _ _) (Value.ref _)) _ _ _); k_dflt (first
    | (refine in_topTup (b := true) (by k_asm) (by k_asm) (by k_is) (by (repeat constructor)) (by decide) ?_; k_whole)
    | (refine in_topTup (b := false) (by k_asm) (by k_asm) (by k_is) (by (repeat constructor)) (by decide) ?_; k_whole))))
  (k_with "k_enter" => ((fail_if_success k_inElt); (refine code_def (by k_asm) (by k_asm) (by k_asm) (by k_asm) (by k_asm) rfl rfl rfl (by k_is) (by k_is) (by k_room) (by (first | exact binds1 rfl | exact binds2 rfl | exact binds3 rfl | exact binds4 rfl | exact binds7 rfl)) (by exact locs rfl) ?_ rfl rfl rfl (by decide); k_whole; intro kwg kwL kwh kwFG kwF kwN kwB kwX kwT; (try dsimp only [List.reverse_cons, List.reverse_nil, List.nil_append, List.cons_append]); (try k_lift kwB); (try k_fold))))
  (k_with "compareOp Eq str str" => (k_here; refine eq_str_no (by assumption) ?_))
  (k_with "subscriptTail Name Constant ref int" => (k_here; (with_reducible show wpAny _ _ (subscriptTail _ _ (Value.ref _) (Value.int 0 _)) _ _ _); k_dflt (refine head_tup (by k_asm) (by k_mem) ?_ (by with_unfolding_all rfl); k_whole)))
  (k_with "call builtin:len" => (k_here; (with_reducible show wpAny _ _ (call (Value.builtin "len") [Value.ref _]) _ _ _); k_dflt (refine len_any (by k_asm) (by k_mem) (by (first | assumption | omega | (simp only [Array.size_push]; omega))) ?_); k_whole))
  (k_with "compareOp In str ref" => (k_here; (with_reducible show wpAny _ _ (compareOp CmpOp.In (Value.str _ _) (Value.ref _)) _ _ _); k_dflt (refine in_nil (by k_asm) (by k_mem) ?_)))
  intro hF
  unfold Spec
  k_fill
  intro dp un gd cn cs a ccd cl outer A₀ base h₀ L m s Q E mean mg mb rest B F X N dis T hk hdp hun hret
  clear hF
  try simp only [List.cons_append, List.nil_append] at N dis hret
  refine' enterR B F X N dis T hk ?room ?ho ?hcd ?bind ?loc ?_ ?hcell ?hco ?hgen ?hkk
  case room => first | exact room0 (by assumption) | omega
  case ho => k_dflt k_is
  case hcd => k_dflt k_is
  case bind => exact binds2 rfl
  case loc => exact locs rfl
  case hcell => decide
  case hco => exact rfl
  case hgen => exact rfl
  case hkk => exact rfl
  intro g L' h₁ F' N' B' X' T'
  clear B F X N T dis
  k_fold
  k_steps
  try dsimp only
  refine leaveR (by assumption) (by assumption) fun kF kN kA => ?_
  refine' hret _ _ _ _ ⟨_, _, rfl, ?fars, ?mp, ?e_D, ?e_kd, rfl, rfl, rfl⟩ kF (news_sub2 kN ?sub) (apart_sub kA ?sub)
  case sub => (try simp only [List.cons_append, List.nil_append]); lcg_sub
  case mp => exact rfl
  case fars => repeat (first | exact fars_nil | refine fars_cons (by ((try simp only [List.cons_append, List.nil_append]); k_all)) ?_)
end

section
set_option maxHeartbeats 4000000
theorem wtA (w : World) (l a b : Addr) (k : Nat) (ta tb : Tok) (ka kb : Str) (xa xb : List Value) (h3 : ka ≠ (Str.ofString "chars")) (h4 : kb ≠ (Str.ofString "chars")) :
    Con w 37 [.ref l] [] [(l, W.listOf #[.ref a, .ref b] k), (a, tup (.str ka ta :: xa)), (b, tup (.str kb tb :: xb))] 8 60
      (fun (v : Value) (made chg' : List (Addr × Obj)) => ∃ (D : Addr) (kd : Nat), v = .ref D ∧ made = [(D, W.listOf #[.ref a, .ref b] kd)] ∧ chg' = []) := by
  k_with_none
  (k_with "WhlIf" => ((first | (refine WhlIf.yes (by with_unfolding_all rfl) ?_) | (refine WhlIf.no (by with_unfolding_all rfl) ?_) | (refine WhlIf.yes (by decide) ?_) | (refine WhlIf.no (by decide) ?_)); (try k_fold)))
  (k_with "setAttr ref" => (k_here; k_dflt (refine set_dict_any (by k_asm) (by k_asm) (by k_asm) (by k_inst) (by exact rfl) (by k_is) (by k_is) (by k_is) (by k_is) (by k_get) (by (intro kH kt; k_put)) (by (intro kH kt; k_upd)) (by (intro kH kt; exact Nat.le_of_ble_eq_true rfl)) ?_; k_whole); intro kwh kwH kwt kwF kwN; (try k_sweep)))
  (k_with "k_allIn" => (first | exact List.forall_mem_nil _ | (refine List.forall_mem_cons.mpr ⟨by (first | exact nth_mem 0 rfl | exact nth_mem 1 rfl | exact nth_mem 2 rfl | exact nth_mem 3 rfl | exact nth_mem 4 rfl | exact nth_mem 5 rfl | exact nth_mem 6 rfl | exact nth_mem 7 rfl | exact nth_mem 8 rfl | exact nth_mem 9 rfl | exact nth_mem 10 rfl | exact nth_mem 11 rfl | exact nth_mem 12 rfl | exact nth_mem 13 rfl | exact nth_mem 14 rfl | exact nth_mem 15 rfl | exact nth_mem 16 rfl | exact nth_mem 17 rfl | exact nth_mem 18 rfl | exact nth_mem 19 rfl | exact nth_mem 20 rfl | exact nth_mem 21 rfl | exact nth_mem 22 rfl | exact nth_mem 23 rfl | exact nth_mem 24 rfl | exact nth_mem 25 rfl | k_memK), ?_⟩; k_allIn)))
  (k_with "lcg_sub" => (first | exact List.forall_mem_nil _ | (refine List.forall_mem_cons.mpr ⟨by (first | exact nth_mem 0 rfl | exact nth_mem 1 rfl | exact nth_mem 2 rfl | exact nth_mem 3 rfl | exact nth_mem 4 rfl | exact nth_mem 5 rfl | exact nth_mem 6 rfl | exact nth_mem 7 rfl | exact nth_mem 8 rfl | exact nth_mem 9 rfl | exact nth_mem 10 rfl | exact nth_mem 11 rfl | exact nth_mem 12 rfl | exact nth_mem 13 rfl | exact nth_mem 14 rfl | exact nth_mem 15 rfl | exact nth_mem 16 rfl | exact nth_mem 17 rfl | exact nth_mem 18 rfl | exact nth_mem 19 rfl | exact nth_mem 20 rfl | exact nth_mem 21 rfl | exact nth_mem 22 rfl | exact nth_mem 23 rfl | exact nth_mem 24 rfl | exact nth_mem 25 rfl | k_mem), ?_⟩; lcg_sub)))
  (k_with "k_ne" => (refine neN ?_; (try dsimp only); first
    | exact allLt_ne (by with_reducible assumption) (by k_mem)
    | exact allLt_ne' (by with_reducible assumption) (by k_mem)
    | exact far_ne (by with_reducible assumption) (by k_mem)
    | exact far_ne' (by with_reducible assumption) (by k_mem)
    | exact allLt_ne2 (by with_reducible assumption) (by with_reducible assumption) (by k_mem)
    | exact allLt_ne2' (by with_reducible assumption) (by with_reducible assumption) (by k_mem)
    | exact Nat.ne_of_lt (by assumption)
    | exact Nat.ne_of_gt (by assumption)
    | assumption
    | (refine Ne.symm ?_; assumption)
    | exact off1_ne (by assumption) (by k_mem)
    | (refine Ne.symm ?_; exact off1_ne (by assumption) (by k_mem))
    | exact apart_ne (by assumption) (by k_mem) (by k_mem)
    | exact apart_ne' (by assumption) (by k_mem) (by k_mem)
    | omega))
  (k_with "lcg_off" => first | exact True.intro | assumption | (refine And.intro ⟨by k_ne, by k_ne, by k_ne⟩ ?_; lcg_off))
  (k_with "k_room" => ((try simp only [depth_under_make, depth_under_kw, depth_in1, depth_deeper, depth_caller]); (try dsimp only [ktrTop]); first | exact Nat.le_of_ble_eq_true rfl | exact room1 (by assumption) rfl | exact room2 (by assumption) rfl | exact room3 (by assumption) rfl | exact room4 (by assumption) rfl | omega))
  (k_with "k_units" => ((try simp only [units_in1, units_deeper, Around.mark_units, units_caller]); (try dsimp only [ktrTop]); first | exact Nat.le_of_ble_eq_true rfl | exact room1 (by assumption) rfl | exact room2 (by assumption) rfl | exact room3 (by assumption) rfl | exact room4 (by assumption) rfl | omega))
  (k_with "eval ListComp" => (k_here; k_dflt (refine LCg.ListComp_U (F₀ := by k_asm) (by with_unfolding_all rfl) (by decide) (by rfl) (by decide) (by rfl) ?_)))
  (k_with "CompRest" => (with_unfolding_all first
    | (refine LCg.CompRest.succ ?_; intro kwv kwI kwoI kwC kwoC kwD kwm kwh kwtk kwE kwhv kwhC kwhx kwF kwN kwoff kwne; (first | lcg_open kwhv | (obtain ⟨kwt9, kwhv9⟩ := kwhv; subst kwhv9)))
    | refine LCg.CompRest.zero ?_))
  (k_with "FinE" => ((unfold LCg.FinE); intro kwD kwh kwtk kwF kwN kwo1; (try simp only [List.nil_append, List.cons_append] at kwN); (try dsimp only)))
  (k_with "compareOp In str ref" => (k_here; (with_reducible show wpAny _ _ (compareOp CmpOp.In (Value.str _ _) (Value.ref _)) _ _ _); k_dflt (first
    | (refine in_topTup (b := true) (by k_asm) (by k_asm) (by k_is) (by (repeat constructor)) (by decide) ?_; k_whole)
    | (refine in_topTup (b := false) (by k_asm) (by k_asm) (by k_is) (by (repeat constructor)) (by decide) ?_; k_whole))))
  (k_with "k_enter" => ((fail_if_success k_inElt); (refine code_def (by k_asm) (by k_asm) (by k_asm) (by k_asm) (by k_asm) rfl rfl rfl (by k_is) (by k_is) (by k_room) (by (first | exact binds1 rfl | exact binds2 rfl | exact binds3 rfl | exact binds4 rfl | exact binds7 rfl)) (by exact locs rfl) ?_ rfl rfl rfl (by decide); k_whole; intro kwg kwL kwh kwFG kwF kwN kwB kwX kwT; (try dsimp only [List.reverse_cons, List.reverse_nil, List.nil_append, List.cons_append]); (try k_lift kwB); (try k_fold))))
  (k_with "compareOp Eq str str" => (k_here; refine eq_str_no (by assumption) ?_))
  (k_with "subscriptTail Name Constant ref int" => (k_here; (with_reducible show wpAny _ _ (subscriptTail _ _ (Value.ref _) (Value.int 0 _)) _ _ _); k_dflt (refine head_tup (by k_asm) (by k_mem) ?_ (by with_unfolding_all rfl); k_whole)))
  (k_with "call builtin:len" => (k_here; (with_reducible show wpAny _ _ (call (Value.builtin "len") [Value.ref _]) _ _ _); k_dflt (refine len_any (by k_asm) (by k_mem) (by (first | assumption | omega | (simp only [Array.size_push]; omega))) ?_); k_whole))
  (k_with "compareOp In str ref" => (k_here; (with_reducible show wpAny _ _ (compareOp CmpOp.In (Value.str _ _) (Value.ref _)) _ _ _); k_dflt (refine in_nil (by k_asm) (by k_mem) ?_)))
  intro hF
  unfold Spec
  k_fill
  intro dp un gd cn cs a ccd cl outer A₀ base h₀ L m s Q E mean mg mb rest B F X N dis T hk hdp hun hret
  clear hF
  try simp only [List.cons_append, List.nil_append] at N dis hret
  refine' enterR B F X N dis T hk ?room ?ho ?hcd ?bind ?loc ?_ ?hcell ?hco ?hgen ?hkk
  case room => first | exact room0 (by assumption) | omega
  case ho => k_dflt k_is
  case hcd => k_dflt k_is
  case bind => exact binds1 rfl
  case loc => exact locs rfl
  case hcell => decide
  case hco => exact rfl
  case hgen => exact rfl
  case hkk => exact rfl
  intro g L' h₁ F' N' B' X' T'
  clear B F X N T dis
  k_fold
  k_steps
  try dsimp only
  refine leaveR (by assumption) (by assumption) fun kF kN kA => ?_
  refine' hret _ _ _ _ ⟨_, _, rfl, ?fars, ?mp, ?e_D, ?e_kd, rfl, rfl, rfl⟩ kF (news_sub2 kN ?sub) (apart_sub kA ?sub)
  case sub => (try simp only [List.cons_append, List.nil_append]); lcg_sub
  case mp => exact rfl
  case fars => repeat (first | exact fars_nil | refine fars_cons (by ((try simp only [List.cons_append, List.nil_append]); k_all)) ?_)
end

section
set_option maxHeartbeats 4000000
theorem wtB (w : World) (l a b : Addr) (k : Nat) (ta tb tr : Tok) (ka ring : Str) (xa : List Value) (h3 : ka ≠ (Str.ofString "chars")) (h4 : ring ≠ (Str.ofString "")) :
    Con w 37 [.ref l] [] [(l, W.listOf #[.ref a, .ref b] k), (a, tup (.str ka ta :: xa)), (b, tup [.str (Str.ofString "chars") tb, .str ring tr])] 8 60
      (fun (v : Value) (made chg' : List (Addr × Obj)) => ∃ (D : Addr) (kd : Nat), v = .ref D ∧ made = [(D, W.listOf #[.ref a, .ref b] kd)] ∧ chg' = []) := by
  k_with_none
  (k_with "WhlIf" => ((first | (refine WhlIf.yes (by with_unfolding_all rfl) ?_) | (refine WhlIf.no (by with_unfolding_all rfl) ?_) | (refine WhlIf.yes (by decide) ?_) | (refine WhlIf.no (by decide) ?_)); (try k_fold)))
  (k_with "setAttr ref" => (k_here; k_dflt (refine set_dict_any (by k_asm) (by k_asm) (by k_asm) (by k_inst) (by exact rfl) (by k_is) (by k_is) (by k_is) (by k_is) (by k_get) (by (intro kH kt; k_put)) (by (intro kH kt; k_upd)) (by (intro kH kt; exact Nat.le_of_ble_eq_true rfl)) ?_; k_whole); intro kwh kwH kwt kwF kwN; (try k_sweep)))
  (k_with "k_allIn" => (first | exact List.forall_mem_nil _ | (refine List.forall_mem_cons.mpr ⟨by (first | exact nth_mem 0 rfl | exact nth_mem 1 rfl | exact nth_mem 2 rfl | exact nth_mem 3 rfl | exact nth_mem 4 rfl | exact nth_mem 5 rfl | exact nth_mem 6 rfl | exact nth_mem 7 rfl | exact nth_mem 8 rfl | exact nth_mem 9 rfl | exact nth_mem 10 rfl | exact nth_mem 11 rfl | exact nth_mem 12 rfl | exact nth_mem 13 rfl | exact nth_mem 14 rfl | exact nth_mem 15 rfl | exact nth_mem 16 rfl | exact nth_mem 17 rfl | exact nth_mem 18 rfl | exact nth_mem 19 rfl | exact nth_mem 20 rfl | exact nth_mem 21 rfl | exact nth_mem 22 rfl | exact nth_mem 23 rfl | exact nth_mem 24 rfl | exact nth_mem 25 rfl | k_memK), ?_⟩; k_allIn)))
  (k_with "lcg_sub" => (first | exact List.forall_mem_nil _ | (refine List.forall_mem_cons.mpr ⟨by (first | exact nth_mem 0 rfl | exact nth_mem 1 rfl | exact nth_mem 2 rfl | exact nth_mem 3 rfl | exact nth_mem 4 rfl | exact nth_mem 5 rfl | exact nth_mem 6 rfl | exact nth_mem 7 rfl | exact nth_mem 8 rfl | exact nth_mem 9 rfl | exact nth_mem 10 rfl | exact nth_mem 11 rfl | exact nth_mem 12 rfl | exact nth_mem 13 rfl | exact nth_mem 14 rfl | exact nth_mem 15 rfl | exact nth_mem 16 rfl | exact nth_mem 17 rfl | exact nth_mem 18 rfl | exact nth_mem 19 rfl | exact nth_mem 20 rfl | exact nth_mem 21 rfl | exact nth_mem 22 rfl | exact nth_mem 23 rfl | exact nth_mem 24 rfl | exact nth_mem 25 rfl | k_mem), ?_⟩; lcg_sub)))
  (k_with "k_ne" => (refine neN ?_; (try dsimp only); first
    | exact allLt_ne (by with_reducible assumption) (by k_mem)
    | exact allLt_ne' (by with_reducible assumption) (by k_mem)
    | exact far_ne (by with_reducible assumption) (by k_mem)
    | exact far_ne' (by with_reducible assumption) (by k_mem)
    | exact allLt_ne2 (by with_reducible assumption) (by with_reducible assumption) (by k_mem)
    | exact allLt_ne2' (by with_reducible assumption) (by with_reducible assumption) (by k_mem)
    | exact Nat.ne_of_lt (by assumption)
    | exact Nat.ne_of_gt (by assumption)
    | assumption
    | (refine Ne.symm ?_; assumption)
    | exact off1_ne (by assumption) (by k_mem)
    | (refine Ne.symm ?_; exact off1_ne (by assumption) (by k_mem))
    | exact apart_ne (by assumption) (by k_mem) (by k_mem)
    | exact apart_ne' (by assumption) (by k_mem) (by k_mem)
    | omega))
  (k_with "lcg_off" => first | exact True.intro | assumption | (refine And.intro ⟨by k_ne, by k_ne, by k_ne⟩ ?_; lcg_off))
  (k_with "k_room" => ((try simp only [depth_under_make, depth_under_kw, depth_in1, depth_deeper, depth_caller]); (try dsimp only [ktrTop]); first | exact Nat.le_of_ble_eq_true rfl | exact room1 (by assumption) rfl | exact room2 (by assumption) rfl | exact room3 (by assumption) rfl | exact room4 (by assumption) rfl | omega))
  (k_with "k_units" => ((try simp only [units_in1, units_deeper, Around.mark_units, units_caller]); (try dsimp only [ktrTop]); first | exact Nat.le_of_ble_eq_true rfl | exact room1 (by assumption) rfl | exact room2 (by assumption) rfl | exact room3 (by assumption) rfl | exact room4 (by assumption) rfl | omega))
  (k_with "eval ListComp" => (k_here; k_dflt (refine LCg.ListComp_U (F₀ := by k_asm) (by with_unfolding_all rfl) (by decide) (by rfl) (by decide) (by rfl) ?_)))
  (k_with "CompRest" => (with_unfolding_all first
    | (refine LCg.CompRest.succ ?_; intro kwv kwI kwoI kwC kwoC kwD kwm kwh kwtk kwE kwhv kwhC kwhx kwF kwN kwoff kwne; (first | lcg_open kwhv | (obtain ⟨kwt9, kwhv9⟩ := kwhv; subst kwhv9)))
    | refine LCg.CompRest.zero ?_))
  (k_with "FinE" => ((unfold LCg.FinE); intro kwD kwh kwtk kwF kwN kwo1; (try simp only [List.nil_append, List.cons_append] at kwN); (try dsimp only)))
  (k_with "compareOp In str ref" => (k_here; (with_reducible show wpAny _ _ (compareOp CmpOp.In (Value.str _ _) (Value.ref _)) _ _ _); k_dflt (first
    | (refine in_topTup (b := true) (by k_asm) (by k_asm) (by k_is) (by (repeat constructor)) (by decide) ?_; k_whole)
    | (refine in_topTup (b := false) (by k_asm) (by k_asm) (by k_is) (by (repeat constructor)) (by decide) ?_; k_whole))))
  (k_with "k_enter" => ((fail_if_success k_inElt); (refine code_def (by k_asm) (by k_asm) (by k_asm) (by k_asm) (by k_asm) rfl rfl rfl (by k_is) (by k_is) (by k_room) (by (first | exact binds1 rfl | exact binds2 rfl | exact binds3 rfl | exact binds4 rfl | exact binds7 rfl)) (by exact locs rfl) ?_ rfl rfl rfl (by decide); k_whole; intro kwg kwL kwh kwFG kwF kwN kwB kwX kwT; (try dsimp only [List.reverse_cons, List.reverse_nil, List.nil_append, List.cons_append]); (try k_lift kwB); (try k_fold))))
  (k_with "compareOp Eq str str" => (k_here; refine eq_str_no (by assumption) ?_))
  (k_with "subscriptTail Name Constant ref int" => (k_here; (with_reducible show wpAny _ _ (subscriptTail _ _ (Value.ref _) (Value.int 0 _)) _ _ _); k_dflt (refine head_tup (by k_asm) (by k_mem) ?_ (by with_unfolding_all rfl); k_whole)))
  (k_with "call builtin:len" => (k_here; (with_reducible show wpAny _ _ (call (Value.builtin "len") [Value.ref _]) _ _ _); k_dflt (refine len_any (by k_asm) (by k_mem) (by (first | assumption | omega | (simp only [Array.size_push]; omega))) ?_); k_whole))
  (k_with "compareOp In str ref" => (k_here; (with_reducible show wpAny _ _ (compareOp CmpOp.In (Value.str _ _) (Value.ref _)) _ _ _); k_dflt (refine in_nil (by k_asm) (by k_mem) ?_)))
  intro hF
  unfold Spec
  k_fill
  intro dp un gd cn cs a ccd cl outer A₀ base h₀ L m s Q E mean mg mb rest B F X N dis T hk hdp hun hret
  clear hF
  try simp only [List.cons_append, List.nil_append] at N dis hret
  refine' enterR B F X N dis T hk ?room ?ho ?hcd ?bind ?loc ?_ ?hcell ?hco ?hgen ?hkk
  case room => first | exact room0 (by assumption) | omega
  case ho => k_dflt k_is
  case hcd => k_dflt k_is
  case bind => exact binds1 rfl
  case loc => exact locs rfl
  case hcell => decide
  case hco => exact rfl
  case hgen => exact rfl
  case hkk => exact rfl
  intro g L' h₁ F' N' B' X' T'
  clear B F X N T dis
  k_fold
  k_steps
  try dsimp only
  refine leaveR (by assumption) (by assumption) fun kF kN kA => ?_
  refine' hret _ _ _ _ ⟨_, _, rfl, ?fars, ?mp, ?e_D, ?e_kd, rfl, rfl, rfl⟩ kF (news_sub2 kN ?sub) (apart_sub kA ?sub)
  case sub => (try simp only [List.cons_append, List.nil_append]); lcg_sub
  case mp => exact rfl
  case fars => repeat (first | exact fars_nil | refine fars_cons (by ((try simp only [List.cons_append, List.nil_append]); k_all)) ?_)
end

section
set_option maxHeartbeats 4000000
theorem begunW (w : World) (sf n0 a b : Addr) (t1 ta tb : Tok) (ka kb : Str) (xa xb : List Value) (hW : ∀ (l : Addr) (k : Nat), Con w 37 [.ref l] [] [(l, W.listOf #[.ref a, .ref b] k), (a, tup (.str ka ta :: xa)), (b, tup (.str kb tb :: xb))] 8 60 (fun (v : Value) (made chg' : List (Addr × Obj)) => ∃ (D : Addr) (kd : Nat), v = .ref D ∧ made = [(D, W.listOf #[.ref a, .ref b] kd)] ∧ chg' = [])) (h1 : ka ≠ (Str.ofString "cat")) (h2 : kb ≠ (Str.ofString "cat")) :
    Con w 70 [.ref sf, .ref n0] [] [(n0, tup [.str (Str.ofString "cat") t1, .ref a, .ref b]), (a, tup (.str ka ta :: xa)), (b, tup (.str kb tb :: xb))] 10 80
      (fun (v : Value) (made chg' : List (Addr × Obj)) => ∃ (D q1 q2 : Addr) (p1 p2 : Tok), v = .ref D ∧ made = [(D, LCg.lst ([] ++ [.ref q1] ++ [.ref q2])), (q1, tup [.str (Str.ofString "put") p1, .ref a]), (q2, tup [.str (Str.ofString "put") p2, .ref b])] ∧ chg' = []) := by
  k_with_none
  (k_with "WhlIf" => ((first | (refine WhlIf.yes (by with_unfolding_all rfl) ?_) | (refine WhlIf.no (by with_unfolding_all rfl) ?_) | (refine WhlIf.yes (by decide) ?_) | (refine WhlIf.no (by decide) ?_)); (try k_fold)))
  (k_with "setAttr ref" => (k_here; k_dflt (refine set_dict_any (by k_asm) (by k_asm) (by k_asm) (by k_inst) (by exact rfl) (by k_is) (by k_is) (by k_is) (by k_is) (by k_get) (by (intro kH kt; k_put)) (by (intro kH kt; k_upd)) (by (intro kH kt; exact Nat.le_of_ble_eq_true rfl)) ?_; k_whole); intro kwh kwH kwt kwF kwN; (try k_sweep)))
  (k_with "k_allIn" => (first | exact List.forall_mem_nil _ | (refine List.forall_mem_cons.mpr ⟨by (first | exact nth_mem 0 rfl | exact nth_mem 1 rfl | exact nth_mem 2 rfl | exact nth_mem 3 rfl | exact nth_mem 4 rfl | exact nth_mem 5 rfl | exact nth_mem 6 rfl | exact nth_mem 7 rfl | exact nth_mem 8 rfl | exact nth_mem 9 rfl | exact nth_mem 10 rfl | exact nth_mem 11 rfl | exact nth_mem 12 rfl | exact nth_mem 13 rfl | exact nth_mem 14 rfl | exact nth_mem 15 rfl | exact nth_mem 16 rfl | exact nth_mem 17 rfl | exact nth_mem 18 rfl | exact nth_mem 19 rfl | exact nth_mem 20 rfl | exact nth_mem 21 rfl | exact nth_mem 22 rfl | exact nth_mem 23 rfl | exact nth_mem 24 rfl | exact nth_mem 25 rfl | k_memK), ?_⟩; k_allIn)))
  (k_with "lcg_sub" => (first | exact List.forall_mem_nil _ | (refine List.forall_mem_cons.mpr ⟨by (first | exact nth_mem 0 rfl | exact nth_mem 1 rfl | exact nth_mem 2 rfl | exact nth_mem 3 rfl | exact nth_mem 4 rfl | exact nth_mem 5 rfl | exact nth_mem 6 rfl | exact nth_mem 7 rfl | exact nth_mem 8 rfl | exact nth_mem 9 rfl | exact nth_mem 10 rfl | exact nth_mem 11 rfl | exact nth_mem 12 rfl | exact nth_mem 13 rfl | exact nth_mem 14 rfl | exact nth_mem 15 rfl | exact nth_mem 16 rfl | exact nth_mem 17 rfl | exact nth_mem 18 rfl | exact nth_mem 19 rfl | exact nth_mem 20 rfl | exact nth_mem 21 rfl | exact nth_mem 22 rfl | exact nth_mem 23 rfl | exact nth_mem 24 rfl | exact nth_mem 25 rfl | k_mem), ?_⟩; lcg_sub)))
  (k_with "k_ne" => (refine neN ?_; (try dsimp only); first
    | exact allLt_ne (by with_reducible assumption) (by k_mem)
    | exact allLt_ne' (by with_reducible assumption) (by k_mem)
    | exact far_ne (by with_reducible assumption) (by k_mem)
    | exact far_ne' (by with_reducible assumption) (by k_mem)
    | exact allLt_ne2 (by with_reducible assumption) (by with_reducible assumption) (by k_mem)
    | exact allLt_ne2' (by with_reducible assumption) (by with_reducible assumption) (by k_mem)
    | exact Nat.ne_of_lt (by assumption)
    | exact Nat.ne_of_gt (by assumption)
    | assumption
    | (refine Ne.symm ?_; assumption)
    | exact off1_ne (by assumption) (by k_mem)
    | (refine Ne.symm ?_; exact off1_ne (by assumption) (by k_mem))
    | exact apart_ne (by assumption) (by k_mem) (by k_mem)
    | exact apart_ne' (by assumption) (by k_mem) (by k_mem)
    | omega))
  (k_with "lcg_off" => first | exact True.intro | assumption | (refine And.intro ⟨by k_ne, by k_ne, by k_ne⟩ ?_; lcg_off))
  (k_with "k_room" => ((try simp only [depth_under_make, depth_under_kw, depth_in1, depth_deeper, depth_caller]); (try dsimp only [ktrTop]); first | exact Nat.le_of_ble_eq_true rfl | exact room1 (by assumption) rfl | exact room2 (by assumption) rfl | exact room3 (by assumption) rfl | exact room4 (by assumption) rfl | omega))
  (k_with "k_units" => ((try simp only [units_in1, units_deeper, Around.mark_units, units_caller]); (try dsimp only [ktrTop]); first | exact Nat.le_of_ble_eq_true rfl | exact room1 (by assumption) rfl | exact room2 (by assumption) rfl | exact room3 (by assumption) rfl | exact room4 (by assumption) rfl | omega))
  (k_with "eval ListComp" => (k_here; k_dflt (refine LCg.ListComp_U (F₀ := by k_asm) (by with_unfolding_all rfl) (by decide) (by rfl) (by decide) (by rfl) ?_)))
  (k_with "CompRest" => (with_unfolding_all first
    | (refine LCg.CompRest.succ ?_; intro kwv kwI kwoI kwC kwoC kwD kwm kwh kwtk kwE kwhv kwhC kwhx kwF kwN kwoff kwne; (first | lcg_open kwhv | (obtain ⟨kwt9, kwhv9⟩ := kwhv; subst kwhv9)))
    | refine LCg.CompRest.zero ?_))
  (k_with "FinE" => ((unfold LCg.FinE); intro kwD kwh kwtk kwF kwN kwo1; (try simp only [List.nil_append, List.cons_append] at kwN); (try dsimp only)))
  (k_with "compareOp In str ref" => (k_here; (with_reducible show wpAny _ _ (compareOp CmpOp.In (Value.str _ _) (Value.ref _)) _ _ _); k_dflt (first
    | (refine in_topTup (b := true) (by k_asm) (by k_asm) (by k_is) (by (repeat constructor)) (by decide) ?_; k_whole)
    | (refine in_topTup (b := false) (by k_asm) (by k_asm) (by k_is) (by (repeat constructor)) (by decide) ?_; k_whole))))
  (k_with "k_enter" => ((fail_if_success k_inElt); (refine code_def (by k_asm) (by k_asm) (by k_asm) (by k_asm) (by k_asm) rfl rfl rfl (by k_is) (by k_is) (by k_room) (by (first | exact binds1 rfl | exact binds2 rfl | exact binds3 rfl | exact binds4 rfl | exact binds7 rfl)) (by exact locs rfl) ?_ rfl rfl rfl (by decide); k_whole; intro kwg kwL kwh kwFG kwF kwN kwB kwX kwT; (try dsimp only [List.reverse_cons, List.reverse_nil, List.nil_append, List.cons_append]); (try k_lift kwB); (try k_fold))))
  (k_with "compareOp Eq str str" => (k_here; refine eq_str_no (by assumption) ?_))
  (k_with "subscriptTail Name Constant ref int" => (k_here; (with_reducible show wpAny _ _ (subscriptTail _ _ (Value.ref _) (Value.int 0 _)) _ _ _); k_dflt (refine head_tup (by k_asm) (by k_mem) ?_ (by with_unfolding_all rfl); k_whole)))
  (k_with "call builtin:len" => (k_here; (with_reducible show wpAny _ _ (call (Value.builtin "len") [Value.ref _]) _ _ _); k_dflt (refine len_any (by k_asm) (by k_mem) (by (first | assumption | omega | (simp only [Array.size_push]; omega))) ?_); k_whole))
  (k_with "compareOp In str ref" => (k_here; (with_reducible show wpAny _ _ (compareOp CmpOp.In (Value.str _ _) (Value.ref _)) _ _ _); k_dflt (refine in_nil (by k_asm) (by k_mem) ?_)))
  (k_with "call ref" => (k_here; (with_reducible show wpAny _ _ (call (Value.ref 23) [Value.ref _, Value.str _ _]) _ _ _); k_dflt (refine Con.use2 (by k_asm) (by k_asm) (by k_allIn) (by ((repeat (first | exact Take.nil | (apply Take.cons; focus ((repeat (first | exact Rem.head | apply Rem.tail)); done)))); done)) (by ((repeat (first | exact fars_nil | refine fars_cons (by ((try simp only [List.cons_append, List.nil_append]); k_all)) ?_)); done)) (by ((repeat (first | exact fars_nil | refine fars_cons (by ((try simp only [List.cons_append, List.nil_append]); k_all)) ?_)); done)) (by k_asm) (by k_asm) (by k_asm) rfl (by k_room) (by k_units) (rowOf _ _ _ _ _ _ _ _ _ _ _ _  (by (first | assumption | decide | omega)) (by (first | assumption | decide | omega))) ?_); rintro v9 made9 chg9 h9 tk9 ⟨D9, kd9, e9, f9, g9⟩ F9 N9 A9; subst e9; subst f9; subst g9; (try simp only [List.cons_append, List.nil_append] at N9); (try dsimp only [Fars, List.cons_append, List.nil_append] at A9); obtain ⟨A09, -⟩ := A9; (try dsimp only); (try k_sweep)))
  (k_with "call ref" => (k_here; (with_reducible show wpAny _ _ (call (Value.ref 37) [Value.ref _]) _ _ _); k_dflt (refine Con.use2 (by k_asm) (by k_asm) (by k_allIn) (by ((repeat (first | exact Take.nil | (apply Take.cons; focus ((repeat (first | exact Rem.head | apply Rem.tail)); done)))); done)) (by ((repeat (first | exact fars_nil | refine fars_cons (by ((try simp only [List.cons_append, List.nil_append]); k_all)) ?_)); done)) (by ((repeat (first | exact fars_nil | refine fars_cons (by ((try simp only [List.cons_append, List.nil_append]); k_all)) ?_)); done)) (by k_asm) (by k_asm) (by k_asm) rfl (by k_room) (by k_units) (hW _ _) ?_); rintro v9 made9 chg9 h9 tk9 ⟨D9, kd9, e9, f9, g9⟩ F9 N9 A9; subst e9; subst f9; subst g9; (try simp only [List.cons_append, List.nil_append] at N9); (try dsimp only [Fars, List.cons_append, List.nil_append] at A9); obtain ⟨A09, -⟩ := A9; (try dsimp only); (try k_sweep)))
  intro hF
  unfold Spec
  k_fill
  intro dp un gd cn cs a ccd cl outer A₀ base h₀ L m s Q E mean mg mb rest B F X N dis T hk hdp hun hret
  clear hF
  try simp only [List.cons_append, List.nil_append] at N dis hret
  refine' enterR B F X N dis T hk ?room ?ho ?hcd ?bind ?loc ?_ ?hcell ?hco ?hgen ?hkk
  case room => first | exact room0 (by assumption) | omega
  case ho => k_dflt k_is
  case hcd => k_dflt k_is
  case bind => exact binds2 rfl
  case loc => exact locs rfl
  case hcell => decide
  case hco => exact rfl
  case hgen => exact rfl
  case hkk => exact rfl
  intro g L' h₁ F' N' B' X' T'
  clear B F X N T dis
  k_fold
  k_steps
  try dsimp only
  refine leaveR (by assumption) (by assumption) fun kF kN kA => ?_
  refine' hret _ _ _ _ ⟨_, _, rfl, ?fars, ?mp, ?e_D, ?e_q1, ?e_q2, ?e_p1, ?e_p2, rfl, rfl, rfl⟩ kF (news_sub2 kN ?sub) (apart_sub kA ?sub)
  case sub => (try simp only [List.cons_append, List.nil_append]); lcg_sub
  case mp => exact rfl
  case fars => repeat (first | exact fars_nil | refine fars_cons (by ((try simp only [List.cons_append, List.nil_append]); k_all)) ?_)

theorem begunA (w : World) (sf n0 a b : Addr) (t1 ta tb : Tok) (ka kb : Str) (xa xb : List Value) (h1 : ka ≠ (Str.ofString "cat")) (h2 : kb ≠ (Str.ofString "cat")) (h3 : ka ≠ (Str.ofString "chars")) (h4 : kb ≠ (Str.ofString "chars")) :
    Con w 70 [.ref sf, .ref n0] [] [(n0, tup [.str (Str.ofString "cat") t1, .ref a, .ref b]), (a, tup (.str ka ta :: xa)), (b, tup (.str kb tb :: xb))] 10 80
      (fun (v : Value) (made chg' : List (Addr × Obj)) => ∃ (D q1 q2 : Addr) (p1 p2 : Tok), v = .ref D ∧ made = [(D, LCg.lst ([] ++ [.ref q1] ++ [.ref q2])), (q1, tup [.str (Str.ofString "put") p1, .ref a]), (q2, tup [.str (Str.ofString "put") p2, .ref b])] ∧ chg' = []) :=
  begunW w sf n0 a b t1 ta tb ka kb xa xb (fun l k => wtA w l a b k ta tb ka kb xa xb h3 h4) h1 h2
theorem begunB (w : World) (sf n0 a b : Addr) (t1 ta tb tr : Tok) (ka ring : Str) (xa : List Value) (h1 : ka ≠ (Str.ofString "cat")) (h3 : ka ≠ (Str.ofString "chars")) (h4 : ring ≠ (Str.ofString "")) :
    Con w 70 [.ref sf, .ref n0] [] [(n0, tup [.str (Str.ofString "cat") t1, .ref a, .ref b]), (a, tup (.str ka ta :: xa)), (b, tup [.str (Str.ofString "chars") tb, .str ring tr])] 10 80
      (fun (v : Value) (made chg' : List (Addr × Obj)) => ∃ (D q1 q2 : Addr) (p1 p2 : Tok), v = .ref D ∧ made = [(D, LCg.lst ([] ++ [.ref q1] ++ [.ref q2])), (q1, tup [.str (Str.ofString "put") p1, .ref a]), (q2, tup [.str (Str.ofString "put") p2, .ref b])] ∧ chg' = []) :=
  begunW w sf n0 a b t1 ta tb ka _ xa [.str ring tr] (fun l k => wtB w l a b k ta tb tr ka ring xa h3 h4) h1 (by decide)
end

section
set_option maxHeartbeats 4000000
theorem straightG (w : World) (l : Addr) (vs : Array Value) (nn : Nat) (ents : List (Addr × Obj)) (hv : ∀ (i : Nat) (v : Value), vs[i]? = some v → ∃ (o : Addr) (g : Str) (t : Tok) (r : List Value), v = .ref o ∧ (o, tup (.str g t :: r)) ∈ ents ∧ g ≠ (Str.ofString "jump") ∧ g ≠ (Str.ofString "split")) (hz : vs.size ≤ 100) :
    Con w 105 [.ref l] [] ((l, W.listOf vs nn) :: ents) 10 80
      (fun (v : Value) (made chg' : List (Addr × Obj)) => ∃ (F : Addr) (k : Nat), v = .ref F ∧ made = [(F, W.listOf vs k)] ∧ chg' = []) := by
  k_with_none
  (k_with "WhlIf" => ((first | (refine WhlIf.yes (by with_unfolding_all rfl) ?_) | (refine WhlIf.no (by with_unfolding_all rfl) ?_) | (refine WhlIf.yes (by decide) ?_) | (refine WhlIf.no (by decide) ?_)); (try k_fold)))
  (k_with "setAttr ref" => (k_here; k_dflt (refine set_dict_any (by k_asm) (by k_asm) (by k_asm) (by k_inst) (by exact rfl) (by k_is) (by k_is) (by k_is) (by k_is) (by k_get) (by (intro kH kt; k_put)) (by (intro kH kt; k_upd)) (by (intro kH kt; exact Nat.le_of_ble_eq_true rfl)) ?_; k_whole); intro kwh kwH kwt kwF kwN; (try k_sweep)))
  (k_with "k_allIn" => (first | exact List.forall_mem_nil _ | (refine List.forall_mem_cons.mpr ⟨by (first | exact nth_mem 0 rfl | exact nth_mem 1 rfl | exact nth_mem 2 rfl | exact nth_mem 3 rfl | exact nth_mem 4 rfl | exact nth_mem 5 rfl | exact nth_mem 6 rfl | exact nth_mem 7 rfl | exact nth_mem 8 rfl | exact nth_mem 9 rfl | exact nth_mem 10 rfl | exact nth_mem 11 rfl | exact nth_mem 12 rfl | exact nth_mem 13 rfl | exact nth_mem 14 rfl | exact nth_mem 15 rfl | exact nth_mem 16 rfl | exact nth_mem 17 rfl | exact nth_mem 18 rfl | exact nth_mem 19 rfl | exact nth_mem 20 rfl | exact nth_mem 21 rfl | exact nth_mem 22 rfl | exact nth_mem 23 rfl | exact nth_mem 24 rfl | exact nth_mem 25 rfl | k_memK), ?_⟩; k_allIn)))
  (k_with "lcg_sub" => (first | exact List.forall_mem_nil _ | (refine List.forall_mem_cons.mpr ⟨by (first | exact nth_mem 0 rfl | exact nth_mem 1 rfl | exact nth_mem 2 rfl | exact nth_mem 3 rfl | exact nth_mem 4 rfl | exact nth_mem 5 rfl | exact nth_mem 6 rfl | exact nth_mem 7 rfl | exact nth_mem 8 rfl | exact nth_mem 9 rfl | exact nth_mem 10 rfl | exact nth_mem 11 rfl | exact nth_mem 12 rfl | exact nth_mem 13 rfl | exact nth_mem 14 rfl | exact nth_mem 15 rfl | exact nth_mem 16 rfl | exact nth_mem 17 rfl | exact nth_mem 18 rfl | exact nth_mem 19 rfl | exact nth_mem 20 rfl | exact nth_mem 21 rfl | exact nth_mem 22 rfl | exact nth_mem 23 rfl | exact nth_mem 24 rfl | exact nth_mem 25 rfl | k_mem), ?_⟩; lcg_sub)))
  (k_with "k_ne" => (refine neN ?_; (try dsimp only); first
    | exact allLt_ne (by with_reducible assumption) (by k_mem)
    | exact allLt_ne' (by with_reducible assumption) (by k_mem)
    | exact far_ne (by with_reducible assumption) (by k_mem)
    | exact far_ne' (by with_reducible assumption) (by k_mem)
    | exact allLt_ne2 (by with_reducible assumption) (by with_reducible assumption) (by k_mem)
    | exact allLt_ne2' (by with_reducible assumption) (by with_reducible assumption) (by k_mem)
    | exact Nat.ne_of_lt (by assumption)
    | exact Nat.ne_of_gt (by assumption)
    | assumption
    | (refine Ne.symm ?_; assumption)
    | exact off1_ne (by assumption) (by k_mem)
    | (refine Ne.symm ?_; exact off1_ne (by assumption) (by k_mem))
    | exact apart_ne (by assumption) (by k_mem) (by k_mem)
    | exact apart_ne' (by assumption) (by k_mem) (by k_mem)
    | omega))
  (k_with "lcg_off" => first | exact True.intro | assumption | (refine And.intro ⟨by k_ne, by k_ne, by k_ne⟩ ?_; lcg_off))
  (k_with "k_room" => ((try simp only [depth_under_make, depth_under_kw, depth_in1, depth_deeper, depth_caller]); (try dsimp only [ktrTop]); first | exact Nat.le_of_ble_eq_true rfl | exact room1 (by assumption) rfl | exact room2 (by assumption) rfl | exact room3 (by assumption) rfl | exact room4 (by assumption) rfl | omega))
  (k_with "k_units" => ((try simp only [units_in1, units_deeper, Around.mark_units, units_caller]); (try dsimp only [ktrTop]); first | exact Nat.le_of_ble_eq_true rfl | exact room1 (by assumption) rfl | exact room2 (by assumption) rfl | exact room3 (by assumption) rfl | exact room4 (by assumption) rfl | omega))
  (k_with "eval ListComp" => (k_here; k_dflt (refine LCg.ListComp_U (F₀ := by k_asm) (by with_unfolding_all rfl) (by decide) (by rfl) (by decide) (by rfl) ?_)))
  (k_with "CompRest" => (with_unfolding_all first
    | (refine LCg.CompRest.succ ?_; intro kwv kwI kwoI kwC kwoC kwD kwm kwh kwtk kwE kwhv kwhC kwhx kwF kwN kwoff kwne; (first | lcg_open kwhv | (obtain ⟨kwt9, kwhv9⟩ := kwhv; subst kwhv9)))
    | refine LCg.CompRest.zero ?_))
  (k_with "FinE" => ((unfold LCg.FinE); intro kwD kwh kwtk kwF kwN kwo1; (try simp only [List.nil_append, List.cons_append] at kwN); (try dsimp only)))
  (k_with "compareOp In str ref" => (k_here; (with_reducible show wpAny _ _ (compareOp CmpOp.In (Value.str _ _) (Value.ref _)) _ _ _); k_dflt (first
    | (refine in_topTup (b := true) (by k_asm) (by k_asm) (by k_is) (by (repeat constructor)) (by decide) ?_; k_whole)
    | (refine in_topTup (b := false) (by k_asm) (by k_asm) (by k_is) (by (repeat constructor)) (by decide) ?_; k_whole))))
  (k_with "k_enter" => ((fail_if_success k_inElt); (refine code_def (by k_asm) (by k_asm) (by k_asm) (by k_asm) (by k_asm) rfl rfl rfl (by k_is) (by k_is) (by k_room) (by (first | exact binds1 rfl | exact binds2 rfl | exact binds3 rfl | exact binds4 rfl | exact binds7 rfl)) (by exact locs rfl) ?_ rfl rfl rfl (by decide); k_whole; intro kwg kwL kwh kwFG kwF kwN kwB kwX kwT; (try dsimp only [List.reverse_cons, List.reverse_nil, List.nil_append, List.cons_append]); (try k_lift kwB); (try k_fold))))
  (k_with "compareOp Eq str str" => (k_here; refine eq_str_no (by assumption) ?_))
  (k_with "subscriptTail Name Constant ref int" => (k_here; (with_reducible show wpAny _ _ (subscriptTail _ _ (Value.ref _) (Value.int 0 _)) _ _ _); k_dflt (refine head_tup (by k_asm) (by k_mem) ?_ (by with_unfolding_all rfl); k_whole)))
  (k_with "call builtin:len" => (k_here; (with_reducible show wpAny _ _ (call (Value.builtin "len") [Value.ref _]) _ _ _); k_dflt (refine len_any (by k_asm) (by k_mem) (by (first | assumption | omega | (simp only [Array.size_push]; omega))) ?_); k_whole))
  (k_with "k_all" => exact Far.all (by with_reducible assumption))
  (k_with "compareOp In str ref" => (k_here; (with_reducible show wpAny _ _ (compareOp CmpOp.In (Value.str _ _) (Value.ref _)) _ _ _); k_dflt (refine in_two_no (by k_asm) (by k_mem) (by (first | assumption | exact Ne.symm (by assumption))) (by (first | assumption | exact Ne.symm (by assumption))) ?_)))
  intro hF
  unfold Spec
  k_fill
  intro dp un gd cn cs a ccd cl outer A₀ base h₀ L m s Q E mean mg mb rest B F X N dis T hk hd hu hret
  clear hF
  try simp only [List.cons_append, List.nil_append] at N dis hret
  refine' enterR B F X N dis T hk ?room ?ho ?hcd ?bind ?loc ?_ ?hcell ?hco ?hgen ?hkk
  case room => first | exact room0 (by assumption) | omega
  case ho => k_dflt k_is
  case hcd => k_dflt k_is
  case bind => exact binds1 rfl
  case loc => exact locs rfl
  case hcell => decide
  case hco => exact rfl
  case hgen => exact rfl
  case hkk => exact rfl
  intro g L' h₁ F' N' B' X' T'
  clear B F X N T dis
  k_fold
  k_steps
  rename Fr _ _ _ _ => lF'
  with_unfolding_all refine' For_invVF lF' ?k1 ?k2 ?_
  case k1 => exact rfl
  case k2 => exact rfl
  try k_fold
  k_steps
  rename Fr _ _ _ _ => lF
  rename News _ _ _ _ => lN
  rename Young _ _ => lY
  rename_i fl h9 h8
  have hfe : Far fl ents := far_young lY fun p hp => List.mem_cons_of_mem _ hp
  have hfl : Far fl [(l, W.listOf vs nn)] := far_young lY fun p hp => by rw [List.mem_singleton.mp hp]; exact List.mem_cons_self
  clear lY
  refine iter_list [] (fun i nx => ∃ k, nx = (fl, W.listOf (vs.toList.take i).toArray k) :: (l, W.listOf vs nn) :: ents) ?hh (by k_mem) lF lN (fun i nx h => by obtain ⟨k, rfl⟩ := h; exact List.mem_cons_of_mem _ List.mem_cons_self) ⟨_, by with_unfolding_all rfl⟩ ?_ ?_
  case hh => with_unfolding_all rfl
  · intro i v m₁ news₁ h tk I oI hv1 hJ hF F1 N1
    obtain ⟨k9, rfl⟩ := hJ
    obtain ⟨o9, g9, t9, r9, rfl, ho9, hg1, hg2⟩ := hv i v hv1
    have hIe : Far I ents := ⟨fun p hp => hF.all p (List.mem_cons_of_mem _ (List.mem_cons_of_mem _ hp))⟩
    have hI : Far I [(fl, W.listOf (vs.toList.take i).toArray k9), (l, W.listOf vs nn)] := ⟨fun p hp => hF.all p (List.mem_append_left ents hp)⟩
    have hfo : Far fl ((o9, tup (.str g9 t9 :: r9)) :: (l, W.listOf vs nn) :: ents) := ⟨fun p hp => by
      rcases List.mem_cons.mp hp with rfl | hp
      · exact hfe.all _ ho9
      · rcases List.mem_cons.mp hp with rfl | hp
        · exact hfl.all _ List.mem_cons_self
        · exact hfe.all _ hp⟩
    have hsz : (vs.toList.take i).toArray.size ≤ 100 := by
      have h2 : @LE.le Nat _ vs.size 100 := hz
      simp only [List.size_toArray, List.length_take, Array.length_toList]
      omega
    have N2 : News g L' h ((o9, tup (.str g9 t9 :: r9)) :: (I, oI) :: (fl, W.listOf (vs.toList.take i).toArray k9) :: (l, W.listOf vs nn) :: ents) := fun p hp => by
      rcases List.mem_cons.mp hp with rfl | hp
      · exact N1 _ (List.mem_cons_of_mem _ (List.mem_cons_of_mem _ (List.mem_cons_of_mem _ ho9)))
      · exact N1 p hp
    clear lF lN N1 hF
    try k_fold
    k_steps
    rename News _ _ _ _ => lN
    rename Fr _ _ _ _ => lF
    exact ⟨_, _, _, _, rfl, lF, news_sub lN (fun p hp => List.mem_cons_of_mem _ (List.mem_cons_of_mem _ hp)), ⟨fun p hp => by
      rcases List.mem_cons.mp hp with rfl | hp
      · exact far_ne (a := fl) hI List.mem_cons_self
      · rcases List.mem_cons.mp hp with rfl | hp
        · exact hI.all _ (List.mem_cons_of_mem _ List.mem_cons_self)
        · exact hIe.all _ hp⟩, (fun z h1 _ => by simp [h1]), k9 + 1, by rw [take_push hv1]⟩
  · intro m₁ news₁ h tk hJ F1 N1
    obtain ⟨k9, rfl⟩ := hJ
    rw [take_all] at N1
    clear lF lN
    try k_fold
    k_steps
    rename News _ _ _ _ => lN
    rename Fr _ _ _ _ => lF
    refine leaveR lF lN fun kF kN kA => ?_
    exact hret _ _ _ _ ⟨[(fl, W.listOf vs k9)], [], rfl, ⟨⟨fun p hp => by
      rcases List.mem_cons.mp hp with rfl | hp
      · exact hfl.all _ List.mem_cons_self
      · exact hfe.all _ hp⟩, trivial⟩, rfl, fl, k9, rfl, rfl, rfl⟩ kF kN kA
theorem straight5 (w : World) (l o1 o2 o3 o4 o5 : Addr) (g1 g2 g3 g4 g5 : Str) (t1 t2 t3 t4 t5 : Tok) (r1 r2 r3 r4 r5 : List Value) (k : Nat) (h1 : g1 ≠ (Str.ofString "jump") ∧ g1 ≠ (Str.ofString "split")) (h2 : g2 ≠ (Str.ofString "jump") ∧ g2 ≠ (Str.ofString "split")) (h3 : g3 ≠ (Str.ofString "jump") ∧ g3 ≠ (Str.ofString "split")) (h4 : g4 ≠ (Str.ofString "jump") ∧ g4 ≠ (Str.ofString "split")) (h5 : g5 ≠ (Str.ofString "jump") ∧ g5 ≠ (Str.ofString "split")) :
    Con w 105 [.ref l] [] [(l, W.listOf (Array.push (Array.push (Array.push (Array.push (Array.push #[] (Value.ref o1)) (Value.ref o2)) (Value.ref o3)) (Value.ref o4)) (Value.ref o5)) k), (o1, tup (.str g1 t1 :: r1)), (o2, tup (.str g2 t2 :: r2)), (o3, tup (.str g3 t3 :: r3)), (o4, tup (.str g4 t4 :: r4)), (o5, tup (.str g5 t5 :: r5))] 10 80
      (fun (v : Value) (made chg' : List (Addr × Obj)) => ∃ (F : Addr) (k : Nat), v = .ref F ∧ made = [(F, W.listOf (Array.push (Array.push (Array.push (Array.push (Array.push #[] (Value.ref o1)) (Value.ref o2)) (Value.ref o3)) (Value.ref o4)) (Value.ref o5)) k)] ∧ chg' = []) := by
  refine straightG w l (Array.push (Array.push (Array.push (Array.push (Array.push #[] (Value.ref o1)) (Value.ref o2)) (Value.ref o3)) (Value.ref o4)) (Value.ref o5)) k [(o1, tup (.str g1 t1 :: r1)), (o2, tup (.str g2 t2 :: r2)), (o3, tup (.str g3 t3 :: r3)), (o4, tup (.str g4 t4 :: r4)), (o5, tup (.str g5 t5 :: r5))] (fun i v hv => ?_) (Nat.le_of_ble_eq_true rfl)
  match i, hv with
  | 0, hv => exact ⟨o1, g1, t1, r1, (Option.some.inj hv).symm, List.mem_cons_self, h1.1, h1.2⟩
  | 1, hv => exact ⟨o2, g2, t2, r2, (Option.some.inj hv).symm, (List.mem_cons_of_mem _ List.mem_cons_self), h2.1, h2.2⟩
  | 2, hv => exact ⟨o3, g3, t3, r3, (Option.some.inj hv).symm, (List.mem_cons_of_mem _ (List.mem_cons_of_mem _ List.mem_cons_self)), h3.1, h3.2⟩
  | 3, hv => exact ⟨o4, g4, t4, r4, (Option.some.inj hv).symm, (List.mem_cons_of_mem _ (List.mem_cons_of_mem _ (List.mem_cons_of_mem _ List.mem_cons_self))), h4.1, h4.2⟩
  | 4, hv => exact ⟨o5, g5, t5, r5, (Option.some.inj hv).symm, (List.mem_cons_of_mem _ (List.mem_cons_of_mem _ (List.mem_cons_of_mem _ (List.mem_cons_of_mem _ List.mem_cons_self)))), h5.1, h5.2⟩
  | i + 5, hv => exact absurd hv (by intro e; cases e)
theorem straight6 (w : World) (l o1 o2 o3 o4 o5 o6 : Addr) (g1 g2 g3 g4 g5 g6 : Str) (t1 t2 t3 t4 t5 t6 : Tok) (r1 r2 r3 r4 r5 r6 : List Value) (k : Nat) (h1 : g1 ≠ (Str.ofString "jump") ∧ g1 ≠ (Str.ofString "split")) (h2 : g2 ≠ (Str.ofString "jump") ∧ g2 ≠ (Str.ofString "split")) (h3 : g3 ≠ (Str.ofString "jump") ∧ g3 ≠ (Str.ofString "split")) (h4 : g4 ≠ (Str.ofString "jump") ∧ g4 ≠ (Str.ofString "split")) (h5 : g5 ≠ (Str.ofString "jump") ∧ g5 ≠ (Str.ofString "split")) (h6 : g6 ≠ (Str.ofString "jump") ∧ g6 ≠ (Str.ofString "split")) :
    Con w 105 [.ref l] [] [(l, W.listOf (Array.push (Array.push (Array.push (Array.push (Array.push (Array.push #[] (Value.ref o1)) (Value.ref o2)) (Value.ref o3)) (Value.ref o4)) (Value.ref o5)) (Value.ref o6)) k), (o1, tup (.str g1 t1 :: r1)), (o2, tup (.str g2 t2 :: r2)), (o3, tup (.str g3 t3 :: r3)), (o4, tup (.str g4 t4 :: r4)), (o5, tup (.str g5 t5 :: r5)), (o6, tup (.str g6 t6 :: r6))] 10 80
      (fun (v : Value) (made chg' : List (Addr × Obj)) => ∃ (F : Addr) (k : Nat), v = .ref F ∧ made = [(F, W.listOf (Array.push (Array.push (Array.push (Array.push (Array.push (Array.push #[] (Value.ref o1)) (Value.ref o2)) (Value.ref o3)) (Value.ref o4)) (Value.ref o5)) (Value.ref o6)) k)] ∧ chg' = []) := by
  refine straightG w l (Array.push (Array.push (Array.push (Array.push (Array.push (Array.push #[] (Value.ref o1)) (Value.ref o2)) (Value.ref o3)) (Value.ref o4)) (Value.ref o5)) (Value.ref o6)) k [(o1, tup (.str g1 t1 :: r1)), (o2, tup (.str g2 t2 :: r2)), (o3, tup (.str g3 t3 :: r3)), (o4, tup (.str g4 t4 :: r4)), (o5, tup (.str g5 t5 :: r5)), (o6, tup (.str g6 t6 :: r6))] (fun i v hv => ?_) (Nat.le_of_ble_eq_true rfl)
  match i, hv with
  | 0, hv => exact ⟨o1, g1, t1, r1, (Option.some.inj hv).symm, List.mem_cons_self, h1.1, h1.2⟩
  | 1, hv => exact ⟨o2, g2, t2, r2, (Option.some.inj hv).symm, (List.mem_cons_of_mem _ List.mem_cons_self), h2.1, h2.2⟩
  | 2, hv => exact ⟨o3, g3, t3, r3, (Option.some.inj hv).symm, (List.mem_cons_of_mem _ (List.mem_cons_of_mem _ List.mem_cons_self)), h3.1, h3.2⟩
  | 3, hv => exact ⟨o4, g4, t4, r4, (Option.some.inj hv).symm, (List.mem_cons_of_mem _ (List.mem_cons_of_mem _ (List.mem_cons_of_mem _ List.mem_cons_self))), h4.1, h4.2⟩
  | 4, hv => exact ⟨o5, g5, t5, r5, (Option.some.inj hv).symm, (List.mem_cons_of_mem _ (List.mem_cons_of_mem _ (List.mem_cons_of_mem _ (List.mem_cons_of_mem _ List.mem_cons_self)))), h5.1, h5.2⟩
  | 5, hv => exact ⟨o6, g6, t6, r6, (Option.some.inj hv).symm, (List.mem_cons_of_mem _ (List.mem_cons_of_mem _ (List.mem_cons_of_mem _ (List.mem_cons_of_mem _ (List.mem_cons_of_mem _ List.mem_cons_self))))), h6.1, h6.2⟩
  | i + 6, hv => exact absurd hv (by intro e; cases e)
end

section
set_option maxHeartbeats 4000000
theorem begLen (w : World) (sf sd l n : Addr) (hs : Int) (ts : Tok) (its : Array Value) (k nn : Nat) (t1 t2 : Tok) (vv : Int) (hz : its.size ≤ 100) :
    Con w 70 [.ref sf, .ref n] [(l, W.listOf its k)] [(sf, (⟨.ref 94, some sd, .plain, #[]⟩ : Obj)), (sd, dictOf [⟨hs, .str (Str.ofString "orders") ts, .ref l⟩] nn), (n, tup [.str (Str.ofString "len") t1, .int vv t2])] 15 120
      (fun (v : Value) (made chg' : List (Addr × Obj)) => ∃ (D o : Addr) (c1 c2 c3 : Tok), v = .ref D ∧ made = [(D, W.listOf #[] 0), (o, tup [.str (Str.ofString "one") c1, .str (Str.ofString "len") c2, .int vv c3])] ∧ chg' = [(l, W.listOf (its.push (.ref o)) (k + 1))]) := by
  k_with_none
  (k_with "WhlIf" => ((first | (refine WhlIf.yes (by with_unfolding_all rfl) ?_) | (refine WhlIf.no (by with_unfolding_all rfl) ?_) | (refine WhlIf.yes (by decide) ?_) | (refine WhlIf.no (by decide) ?_)); (try k_fold)))
  (k_with "setAttr ref" => (k_here; k_dflt (refine set_dict_any (by k_asm) (by k_asm) (by k_asm) (by k_inst) (by exact rfl) (by k_is) (by k_is) (by k_is) (by k_is) (by k_get) (by (intro kH kt; k_put)) (by (intro kH kt; k_upd)) (by (intro kH kt; exact Nat.le_of_ble_eq_true rfl)) ?_; k_whole); intro kwh kwH kwt kwF kwN; (try k_sweep)))
  (k_with "k_allIn" => (first | exact List.forall_mem_nil _ | (refine List.forall_mem_cons.mpr ⟨by (first | exact nth_mem 0 rfl | exact nth_mem 1 rfl | exact nth_mem 2 rfl | exact nth_mem 3 rfl | exact nth_mem 4 rfl | exact nth_mem 5 rfl | exact nth_mem 6 rfl | exact nth_mem 7 rfl | exact nth_mem 8 rfl | exact nth_mem 9 rfl | exact nth_mem 10 rfl | exact nth_mem 11 rfl | exact nth_mem 12 rfl | exact nth_mem 13 rfl | exact nth_mem 14 rfl | exact nth_mem 15 rfl | exact nth_mem 16 rfl | exact nth_mem 17 rfl | exact nth_mem 18 rfl | exact nth_mem 19 rfl | exact nth_mem 20 rfl | exact nth_mem 21 rfl | exact nth_mem 22 rfl | exact nth_mem 23 rfl | exact nth_mem 24 rfl | exact nth_mem 25 rfl | k_memK), ?_⟩; k_allIn)))
  (k_with "lcg_sub" => (first | exact List.forall_mem_nil _ | (refine List.forall_mem_cons.mpr ⟨by (first | exact nth_mem 0 rfl | exact nth_mem 1 rfl | exact nth_mem 2 rfl | exact nth_mem 3 rfl | exact nth_mem 4 rfl | exact nth_mem 5 rfl | exact nth_mem 6 rfl | exact nth_mem 7 rfl | exact nth_mem 8 rfl | exact nth_mem 9 rfl | exact nth_mem 10 rfl | exact nth_mem 11 rfl | exact nth_mem 12 rfl | exact nth_mem 13 rfl | exact nth_mem 14 rfl | exact nth_mem 15 rfl | exact nth_mem 16 rfl | exact nth_mem 17 rfl | exact nth_mem 18 rfl | exact nth_mem 19 rfl | exact nth_mem 20 rfl | exact nth_mem 21 rfl | exact nth_mem 22 rfl | exact nth_mem 23 rfl | exact nth_mem 24 rfl | exact nth_mem 25 rfl | k_mem), ?_⟩; lcg_sub)))
  (k_with "k_ne" => (refine neN ?_; (try dsimp only); first
    | exact allLt_ne (by with_reducible assumption) (by k_mem)
    | exact allLt_ne' (by with_reducible assumption) (by k_mem)
    | exact far_ne (by with_reducible assumption) (by k_mem)
    | exact far_ne' (by with_reducible assumption) (by k_mem)
    | exact allLt_ne2 (by with_reducible assumption) (by with_reducible assumption) (by k_mem)
    | exact allLt_ne2' (by with_reducible assumption) (by with_reducible assumption) (by k_mem)
    | exact Nat.ne_of_lt (by assumption)
    | exact Nat.ne_of_gt (by assumption)
    | assumption
    | (refine Ne.symm ?_; assumption)
    | exact off1_ne (by assumption) (by k_mem)
    | (refine Ne.symm ?_; exact off1_ne (by assumption) (by k_mem))
    | exact apart_ne (by assumption) (by k_mem) (by k_mem)
    | exact apart_ne' (by assumption) (by k_mem) (by k_mem)
    | omega))
  (k_with "lcg_off" => first | exact True.intro | assumption | (refine And.intro ⟨by k_ne, by k_ne, by k_ne⟩ ?_; lcg_off))
  (k_with "k_room" => ((try simp only [depth_under_make, depth_under_kw, depth_in1, depth_deeper, depth_caller]); (try dsimp only [ktrTop]); first | exact Nat.le_of_ble_eq_true rfl | exact room1 (by assumption) rfl | exact room2 (by assumption) rfl | exact room3 (by assumption) rfl | exact room4 (by assumption) rfl | omega))
  (k_with "k_units" => ((try simp only [units_in1, units_deeper, Around.mark_units, units_caller]); (try dsimp only [ktrTop]); first | exact Nat.le_of_ble_eq_true rfl | exact room1 (by assumption) rfl | exact room2 (by assumption) rfl | exact room3 (by assumption) rfl | exact room4 (by assumption) rfl | omega))
  (k_with "eval ListComp" => (k_here; k_dflt (refine LCg.ListComp_U (F₀ := by k_asm) (by with_unfolding_all rfl) (by decide) (by rfl) (by decide) (by rfl) ?_)))
  (k_with "CompRest" => (with_unfolding_all first
    | (refine LCg.CompRest.succ ?_; intro kwv kwI kwoI kwC kwoC kwD kwm kwh kwtk kwE kwhv kwhC kwhx kwF kwN kwoff kwne; (first | lcg_open kwhv | (obtain ⟨kwt9, kwhv9⟩ := kwhv; subst kwhv9)))
    | refine LCg.CompRest.zero ?_))
  (k_with "FinE" => ((unfold LCg.FinE); intro kwD kwh kwtk kwF kwN kwo1; (try simp only [List.nil_append, List.cons_append] at kwN); (try dsimp only)))
  (k_with "compareOp In str ref" => (k_here; (with_reducible show wpAny _ _ (compareOp CmpOp.In (Value.str _ _) (Value.ref _)) _ _ _); k_dflt (first
    | (refine in_topTup (b := true) (by k_asm) (by k_asm) (by k_is) (by (repeat constructor)) (by decide) ?_; k_whole)
    | (refine in_topTup (b := false) (by k_asm) (by k_asm) (by k_is) (by (repeat constructor)) (by decide) ?_; k_whole))))
  (k_with "k_enter" => ((fail_if_success k_inElt); (refine code_def (by k_asm) (by k_asm) (by k_asm) (by k_asm) (by k_asm) rfl rfl rfl (by k_is) (by k_is) (by k_room) (by (first | exact binds1 rfl | exact binds2 rfl | exact binds3 rfl | exact binds4 rfl | exact binds7 rfl)) (by exact locs rfl) ?_ rfl rfl rfl (by decide); k_whole; intro kwg kwL kwh kwFG kwF kwN kwB kwX kwT; (try dsimp only [List.reverse_cons, List.reverse_nil, List.nil_append, List.cons_append]); (try k_lift kwB); (try k_fold))))
  (k_with "compareOp Eq str str" => (k_here; refine eq_str_no (by assumption) ?_))
  (k_with "subscriptTail Name Constant ref int" => (k_here; (with_reducible show wpAny _ _ (subscriptTail _ _ (Value.ref _) (Value.int 0 _)) _ _ _); k_dflt (refine head_tup (by k_asm) (by k_mem) ?_ (by with_unfolding_all rfl); k_whole)))
  (k_with "call builtin:len" => (k_here; (with_reducible show wpAny _ _ (call (Value.builtin "len") [Value.ref _]) _ _ _); k_dflt (refine len_any (by k_asm) (by k_mem) (by (first | assumption | omega | (simp only [Array.size_push]; omega))) ?_); k_whole))
  (k_with "compareOp In str ref" => (k_here; (with_reducible show wpAny _ _ (compareOp CmpOp.In (Value.str _ _) (Value.ref _)) _ _ _); k_dflt (refine in_nil (by k_asm) (by k_mem) ?_)))
  (k_with "call ref" => (k_here; (with_reducible show wpAny _ _ (call (Value.ref 58) [_, _]) _ _ _); k_dflt (refine Con.use2 (by k_asm) (by k_asm) (by k_allIn) (by ((repeat (first | exact Take.nil | (apply Take.cons; focus ((repeat (first | exact Rem.head | apply Rem.tail)); done)))); done)) (by ((repeat (first | exact fars_nil | refine fars_cons (by ((try simp only [List.cons_append, List.nil_append]); k_all)) ?_)); done)) (by ((repeat (first | exact fars_nil | refine fars_cons (by ((try simp only [List.cons_append, List.nil_append]); k_all)) ?_)); done)) (by k_asm) (by k_asm) (by k_asm) rfl (by k_room) (by k_units) (emitC _ _ _ _ _ _ _ _ _ _  (by (first | assumption | omega))) ?_); rintro v9 made9 chg9 h9 tk9 ⟨i9, t9, e9, f9, g9⟩ F9 N9 A9; subst e9; subst f9; subst g9; (try simp only [List.cons_append, List.nil_append] at N9); (try dsimp only [Fars, List.cons_append, List.nil_append] at A9); clear A9; (try dsimp only); (try k_sweep)))
  intro hF
  unfold Spec
  k_fill
  intro dp un gd cn cs a ccd cl outer A₀ base h₀ L m s Q E mean mg mb rest B F X N dis T hk hdp hun hret
  dsimp only [Fars, List.cons_append, List.nil_append] at hF
  obtain ⟨hF0, -⟩ := hF
  try simp only [List.cons_append, List.nil_append] at N dis hret
  refine' enterR B F X N dis T hk ?room ?ho ?hcd ?bind ?loc ?_ ?hcell ?hco ?hgen ?hkk
  case room => first | exact room0 (by assumption) | omega
  case ho => k_dflt k_is
  case hcd => k_dflt k_is
  case bind => exact binds2 rfl
  case loc => exact locs rfl
  case hcell => decide
  case hco => exact rfl
  case hgen => exact rfl
  case hkk => exact rfl
  intro g L' h₁ F' N' B' X' T'
  clear B F X N T dis
  k_fold
  k_steps
  try dsimp only
  refine leaveR (by assumption) (by assumption) fun kF kN kA => ?_
  refine' hret _ _ _ _ ⟨_, _, rfl, ?fars, ?mp, ?e_D, ?e_o, ?e_c1, ?e_c2, ?e_c3, rfl, rfl, rfl⟩ kF (news_sub2 kN ?sub) (apart_sub kA ?sub)
  case sub => (try simp only [List.cons_append, List.nil_append]); lcg_sub
  case mp => exact rfl
  case fars => repeat (first | exact fars_nil | refine fars_cons (by ((try simp only [List.cons_append, List.nil_append]); k_all)) ?_)
end

section
set_option maxHeartbeats 4000000
theorem begChars (w : World) (sf sd l n : Addr) (hs : Int) (ts : Tok) (its : Array Value) (k nn : Nat) (t1 t2 : Tok) (vv : Str) (hz : its.size ≤ 100) :
    Con w 70 [.ref sf, .ref n] [(l, W.listOf its k)] [(sf, (⟨.ref 94, some sd, .plain, #[]⟩ : Obj)), (sd, dictOf [⟨hs, .str (Str.ofString "orders") ts, .ref l⟩] nn), (n, tup [.str (Str.ofString "chars") t1, .str vv t2])] 15 120
      (fun (v : Value) (made chg' : List (Addr × Obj)) => ∃ (D o : Addr) (c1 c2 c3 : Tok), v = .ref D ∧ made = [(D, W.listOf #[] 0), (o, tup [.str (Str.ofString "one") c1, .str (Str.ofString "chars") c2, .str vv c3])] ∧ chg' = [(l, W.listOf (its.push (.ref o)) (k + 1))]) := by
  k_with_none
  (k_with "WhlIf" => ((first | (refine WhlIf.yes (by with_unfolding_all rfl) ?_) | (refine WhlIf.no (by with_unfolding_all rfl) ?_) | (refine WhlIf.yes (by decide) ?_) | (refine WhlIf.no (by decide) ?_)); (try k_fold)))
  (k_with "setAttr ref" => (k_here; k_dflt (refine set_dict_any (by k_asm) (by k_asm) (by k_asm) (by k_inst) (by exact rfl) (by k_is) (by k_is) (by k_is) (by k_is) (by k_get) (by (intro kH kt; k_put)) (by (intro kH kt; k_upd)) (by (intro kH kt; exact Nat.le_of_ble_eq_true rfl)) ?_; k_whole); intro kwh kwH kwt kwF kwN; (try k_sweep)))
  (k_with "k_allIn" => (first | exact List.forall_mem_nil _ | (refine List.forall_mem_cons.mpr ⟨by (first | exact nth_mem 0 rfl | exact nth_mem 1 rfl | exact nth_mem 2 rfl | exact nth_mem 3 rfl | exact nth_mem 4 rfl | exact nth_mem 5 rfl | exact nth_mem 6 rfl | exact nth_mem 7 rfl | exact nth_mem 8 rfl | exact nth_mem 9 rfl | exact nth_mem 10 rfl | exact nth_mem 11 rfl | exact nth_mem 12 rfl | exact nth_mem 13 rfl | exact nth_mem 14 rfl | exact nth_mem 15 rfl | exact nth_mem 16 rfl | exact nth_mem 17 rfl | exact nth_mem 18 rfl | exact nth_mem 19 rfl | exact nth_mem 20 rfl | exact nth_mem 21 rfl | exact nth_mem 22 rfl | exact nth_mem 23 rfl | exact nth_mem 24 rfl | exact nth_mem 25 rfl | k_memK), ?_⟩; k_allIn)))
  (k_with "lcg_sub" => (first | exact List.forall_mem_nil _ | (refine List.forall_mem_cons.mpr ⟨by (first | exact nth_mem 0 rfl | exact nth_mem 1 rfl | exact nth_mem 2 rfl | exact nth_mem 3 rfl | exact nth_mem 4 rfl | exact nth_mem 5 rfl | exact nth_mem 6 rfl | exact nth_mem 7 rfl | exact nth_mem 8 rfl | exact nth_mem 9 rfl | exact nth_mem 10 rfl | exact nth_mem 11 rfl | exact nth_mem 12 rfl | exact nth_mem 13 rfl | exact nth_mem 14 rfl | exact nth_mem 15 rfl | exact nth_mem 16 rfl | exact nth_mem 17 rfl | exact nth_mem 18 rfl | exact nth_mem 19 rfl | exact nth_mem 20 rfl | exact nth_mem 21 rfl | exact nth_mem 22 rfl | exact nth_mem 23 rfl | exact nth_mem 24 rfl | exact nth_mem 25 rfl | k_mem), ?_⟩; lcg_sub)))
  (k_with "k_ne" => (refine neN ?_; (try dsimp only); first
    | exact allLt_ne (by with_reducible assumption) (by k_mem)
    | exact allLt_ne' (by with_reducible assumption) (by k_mem)
    | exact far_ne (by with_reducible assumption) (by k_mem)
    | exact far_ne' (by with_reducible assumption) (by k_mem)
    | exact allLt_ne2 (by with_reducible assumption) (by with_reducible assumption) (by k_mem)
    | exact allLt_ne2' (by with_reducible assumption) (by with_reducible assumption) (by k_mem)
    | exact Nat.ne_of_lt (by assumption)
    | exact Nat.ne_of_gt (by assumption)
    | assumption
    | (refine Ne.symm ?_; assumption)
    | exact off1_ne (by assumption) (by k_mem)
    | (refine Ne.symm ?_; exact off1_ne (by assumption) (by k_mem))
    | exact apart_ne (by assumption) (by k_mem) (by k_mem)
    | exact apart_ne' (by assumption) (by k_mem) (by k_mem)
    | omega))
  (k_with "lcg_off" => first | exact True.intro | assumption | (refine And.intro ⟨by k_ne, by k_ne, by k_ne⟩ ?_; lcg_off))
  (k_with "k_room" => ((try simp only [depth_under_make, depth_under_kw, depth_in1, depth_deeper, depth_caller]); (try dsimp only [ktrTop]); first | exact Nat.le_of_ble_eq_true rfl | exact room1 (by assumption) rfl | exact room2 (by assumption) rfl | exact room3 (by assumption) rfl | exact room4 (by assumption) rfl | omega))
  (k_with "k_units" => ((try simp only [units_in1, units_deeper, Around.mark_units, units_caller]); (try dsimp only [ktrTop]); first | exact Nat.le_of_ble_eq_true rfl | exact room1 (by assumption) rfl | exact room2 (by assumption) rfl | exact room3 (by assumption) rfl | exact room4 (by assumption) rfl | omega))
  (k_with "eval ListComp" => (k_here; k_dflt (refine LCg.ListComp_U (F₀ := by k_asm) (by with_unfolding_all rfl) (by decide) (by rfl) (by decide) (by rfl) ?_)))
  (k_with "CompRest" => (with_unfolding_all first
    | (refine LCg.CompRest.succ ?_; intro kwv kwI kwoI kwC kwoC kwD kwm kwh kwtk kwE kwhv kwhC kwhx kwF kwN kwoff kwne; (first | lcg_open kwhv | (obtain ⟨kwt9, kwhv9⟩ := kwhv; subst kwhv9)))
    | refine LCg.CompRest.zero ?_))
  (k_with "FinE" => ((unfold LCg.FinE); intro kwD kwh kwtk kwF kwN kwo1; (try simp only [List.nil_append, List.cons_append] at kwN); (try dsimp only)))
  (k_with "compareOp In str ref" => (k_here; (with_reducible show wpAny _ _ (compareOp CmpOp.In (Value.str _ _) (Value.ref _)) _ _ _); k_dflt (first
    | (refine in_topTup (b := true) (by k_asm) (by k_asm) (by k_is) (by (repeat constructor)) (by decide) ?_; k_whole)
    | (refine in_topTup (b := false) (by k_asm) (by k_asm) (by k_is) (by (repeat constructor)) (by decide) ?_; k_whole))))
  (k_with "k_enter" => ((fail_if_success k_inElt); (refine code_def (by k_asm) (by k_asm) (by k_asm) (by k_asm) (by k_asm) rfl rfl rfl (by k_is) (by k_is) (by k_room) (by (first | exact binds1 rfl | exact binds2 rfl | exact binds3 rfl | exact binds4 rfl | exact binds7 rfl)) (by exact locs rfl) ?_ rfl rfl rfl (by decide); k_whole; intro kwg kwL kwh kwFG kwF kwN kwB kwX kwT; (try dsimp only [List.reverse_cons, List.reverse_nil, List.nil_append, List.cons_append]); (try k_lift kwB); (try k_fold))))
  (k_with "compareOp Eq str str" => (k_here; refine eq_str_no (by assumption) ?_))
  (k_with "subscriptTail Name Constant ref int" => (k_here; (with_reducible show wpAny _ _ (subscriptTail _ _ (Value.ref _) (Value.int 0 _)) _ _ _); k_dflt (refine head_tup (by k_asm) (by k_mem) ?_ (by with_unfolding_all rfl); k_whole)))
  (k_with "call builtin:len" => (k_here; (with_reducible show wpAny _ _ (call (Value.builtin "len") [Value.ref _]) _ _ _); k_dflt (refine len_any (by k_asm) (by k_mem) (by (first | assumption | omega | (simp only [Array.size_push]; omega))) ?_); k_whole))
  (k_with "compareOp In str ref" => (k_here; (with_reducible show wpAny _ _ (compareOp CmpOp.In (Value.str _ _) (Value.ref _)) _ _ _); k_dflt (refine in_nil (by k_asm) (by k_mem) ?_)))
  (k_with "call ref" => (k_here; (with_reducible show wpAny _ _ (call (Value.ref 58) [_, _]) _ _ _); k_dflt (refine Con.use2 (by k_asm) (by k_asm) (by k_allIn) (by ((repeat (first | exact Take.nil | (apply Take.cons; focus ((repeat (first | exact Rem.head | apply Rem.tail)); done)))); done)) (by ((repeat (first | exact fars_nil | refine fars_cons (by ((try simp only [List.cons_append, List.nil_append]); k_all)) ?_)); done)) (by ((repeat (first | exact fars_nil | refine fars_cons (by ((try simp only [List.cons_append, List.nil_append]); k_all)) ?_)); done)) (by k_asm) (by k_asm) (by k_asm) rfl (by k_room) (by k_units) (emitC _ _ _ _ _ _ _ _ _ _  (by (first | assumption | omega))) ?_); rintro v9 made9 chg9 h9 tk9 ⟨i9, t9, e9, f9, g9⟩ F9 N9 A9; subst e9; subst f9; subst g9; (try simp only [List.cons_append, List.nil_append] at N9); (try dsimp only [Fars, List.cons_append, List.nil_append] at A9); clear A9; (try dsimp only); (try k_sweep)))
  intro hF
  unfold Spec
  k_fill
  intro dp un gd cn cs a ccd cl outer A₀ base h₀ L m s Q E mean mg mb rest B F X N dis T hk hdp hun hret
  dsimp only [Fars, List.cons_append, List.nil_append] at hF
  obtain ⟨hF0, -⟩ := hF
  try simp only [List.cons_append, List.nil_append] at N dis hret
  refine' enterR B F X N dis T hk ?room ?ho ?hcd ?bind ?loc ?_ ?hcell ?hco ?hgen ?hkk
  case room => first | exact room0 (by assumption) | omega
  case ho => k_dflt k_is
  case hcd => k_dflt k_is
  case bind => exact binds2 rfl
  case loc => exact locs rfl
  case hcell => decide
  case hco => exact rfl
  case hgen => exact rfl
  case hkk => exact rfl
  intro g L' h₁ F' N' B' X' T'
  clear B F X N T dis
  k_fold
  k_steps
  try dsimp only
  refine leaveR (by assumption) (by assumption) fun kF kN kA => ?_
  refine' hret _ _ _ _ ⟨_, _, rfl, ?fars, ?mp, ?e_D, ?e_o, ?e_c1, ?e_c2, ?e_c3, rfl, rfl, rfl⟩ kF (news_sub2 kN ?sub) (apart_sub kA ?sub)
  case sub => (try simp only [List.cons_append, List.nil_append]); lcg_sub
  case mp => exact rfl
  case fars => repeat (first | exact fars_nil | refine fars_cons (by ((try simp only [List.cons_append, List.nil_append]); k_all)) ?_)
end

section
set_option maxHeartbeats 4000000
theorem begArb (w : World) (sf sd l n : Addr) (hs : Int) (ts : Tok) (its : Array Value) (k nn : Nat) (t1 : Tok) (hz : its.size ≤ 100) :
    Con w 70 [.ref sf, .ref n] [(l, W.listOf its k)] [(sf, (⟨.ref 94, some sd, .plain, #[]⟩ : Obj)), (sd, dictOf [⟨hs, .str (Str.ofString "orders") ts, .ref l⟩] nn), (n, tup [.str (Str.ofString "arb") t1])] 15 120
      (fun (v : Value) (made chg' : List (Addr × Obj)) => ∃ (D o : Addr) (c1 c2 : Tok), v = .ref D ∧ made = [(D, W.listOf #[] 0), (o, tup [.str (Str.ofString "ways") c1, .str (Str.ofString "arb") c2])] ∧ chg' = [(l, W.listOf (its.push (.ref o)) (k + 1))]) := by
  k_with_none
  (k_with "WhlIf" => ((first | (refine WhlIf.yes (by with_unfolding_all rfl) ?_) | (refine WhlIf.no (by with_unfolding_all rfl) ?_) | (refine WhlIf.yes (by decide) ?_) | (refine WhlIf.no (by decide) ?_)); (try k_fold)))
  (k_with "setAttr ref" => (k_here; k_dflt (refine set_dict_any (by k_asm) (by k_asm) (by k_asm) (by k_inst) (by exact rfl) (by k_is) (by k_is) (by k_is) (by k_is) (by k_get) (by (intro kH kt; k_put)) (by (intro kH kt; k_upd)) (by (intro kH kt; exact Nat.le_of_ble_eq_true rfl)) ?_; k_whole); intro kwh kwH kwt kwF kwN; (try k_sweep)))
  (k_with "k_allIn" => (first | exact List.forall_mem_nil _ | (refine List.forall_mem_cons.mpr ⟨by (first | exact nth_mem 0 rfl | exact nth_mem 1 rfl | exact nth_mem 2 rfl | exact nth_mem 3 rfl | exact nth_mem 4 rfl | exact nth_mem 5 rfl | exact nth_mem 6 rfl | exact nth_mem 7 rfl | exact nth_mem 8 rfl | exact nth_mem 9 rfl | exact nth_mem 10 rfl | exact nth_mem 11 rfl | exact nth_mem 12 rfl | exact nth_mem 13 rfl | exact nth_mem 14 rfl | exact nth_mem 15 rfl | exact nth_mem 16 rfl | exact nth_mem 17 rfl | exact nth_mem 18 rfl | exact nth_mem 19 rfl | exact nth_mem 20 rfl | exact nth_mem 21 rfl | exact nth_mem 22 rfl | exact nth_mem 23 rfl | exact nth_mem 24 rfl | exact nth_mem 25 rfl | k_memK), ?_⟩; k_allIn)))
  (k_with "lcg_sub" => (first | exact List.forall_mem_nil _ | (refine List.forall_mem_cons.mpr ⟨by (first | exact nth_mem 0 rfl | exact nth_mem 1 rfl | exact nth_mem 2 rfl | exact nth_mem 3 rfl | exact nth_mem 4 rfl | exact nth_mem 5 rfl | exact nth_mem 6 rfl | exact nth_mem 7 rfl | exact nth_mem 8 rfl | exact nth_mem 9 rfl | exact nth_mem 10 rfl | exact nth_mem 11 rfl | exact nth_mem 12 rfl | exact nth_mem 13 rfl | exact nth_mem 14 rfl | exact nth_mem 15 rfl | exact nth_mem 16 rfl | exact nth_mem 17 rfl | exact nth_mem 18 rfl | exact nth_mem 19 rfl | exact nth_mem 20 rfl | exact nth_mem 21 rfl | exact nth_mem 22 rfl | exact nth_mem 23 rfl | exact nth_mem 24 rfl | exact nth_mem 25 rfl | k_mem), ?_⟩; lcg_sub)))
  (k_with "k_ne" => (refine neN ?_; (try dsimp only); first
    | exact allLt_ne (by with_reducible assumption) (by k_mem)
    | exact allLt_ne' (by with_reducible assumption) (by k_mem)
    | exact far_ne (by with_reducible assumption) (by k_mem)
    | exact far_ne' (by with_reducible assumption) (by k_mem)
    | exact allLt_ne2 (by with_reducible assumption) (by with_reducible assumption) (by k_mem)
    | exact allLt_ne2' (by with_reducible assumption) (by with_reducible assumption) (by k_mem)
    | exact Nat.ne_of_lt (by assumption)
    | exact Nat.ne_of_gt (by assumption)
    | assumption
    | (refine Ne.symm ?_; assumption)
    | exact off1_ne (by assumption) (by k_mem)
    | (refine Ne.symm ?_; exact off1_ne (by assumption) (by k_mem))
    | exact apart_ne (by assumption) (by k_mem) (by k_mem)
    | exact apart_ne' (by assumption) (by k_mem) (by k_mem)
    | omega))
  (k_with "lcg_off" => first | exact True.intro | assumption | (refine And.intro ⟨by k_ne, by k_ne, by k_ne⟩ ?_; lcg_off))
  (k_with "k_room" => ((try simp only [depth_under_make, depth_under_kw, depth_in1, depth_deeper, depth_caller]); (try dsimp only [ktrTop]); first | exact Nat.le_of_ble_eq_true rfl | exact room1 (by assumption) rfl | exact room2 (by assumption) rfl | exact room3 (by assumption) rfl | exact room4 (by assumption) rfl | omega))
  (k_with "k_units" => ((try simp only [units_in1, units_deeper, Around.mark_units, units_caller]); (try dsimp only [ktrTop]); first | exact Nat.le_of_ble_eq_true rfl | exact room1 (by assumption) rfl | exact room2 (by assumption) rfl | exact room3 (by assumption) rfl | exact room4 (by assumption) rfl | omega))
  (k_with "eval ListComp" => (k_here; k_dflt (refine LCg.ListComp_U (F₀ := by k_asm) (by with_unfolding_all rfl) (by decide) (by rfl) (by decide) (by rfl) ?_)))
  (k_with "CompRest" => (with_unfolding_all first
    | (refine LCg.CompRest.succ ?_; intro kwv kwI kwoI kwC kwoC kwD kwm kwh kwtk kwE kwhv kwhC kwhx kwF kwN kwoff kwne; (first | lcg_open kwhv | (obtain ⟨kwt9, kwhv9⟩ := kwhv; subst kwhv9)))
    | refine LCg.CompRest.zero ?_))
  (k_with "FinE" => ((unfold LCg.FinE); intro kwD kwh kwtk kwF kwN kwo1; (try simp only [List.nil_append, List.cons_append] at kwN); (try dsimp only)))
  (k_with "compareOp In str ref" => (k_here; (with_reducible show wpAny _ _ (compareOp CmpOp.In (Value.str _ _) (Value.ref _)) _ _ _); k_dflt (first
    | (refine in_topTup (b := true) (by k_asm) (by k_asm) (by k_is) (by (repeat constructor)) (by decide) ?_; k_whole)
    | (refine in_topTup (b := false) (by k_asm) (by k_asm) (by k_is) (by (repeat constructor)) (by decide) ?_; k_whole))))
  (k_with "k_enter" => ((fail_if_success k_inElt); (refine code_def (by k_asm) (by k_asm) (by k_asm) (by k_asm) (by k_asm) rfl rfl rfl (by k_is) (by k_is) (by k_room) (by (first | exact binds1 rfl | exact binds2 rfl | exact binds3 rfl | exact binds4 rfl | exact binds7 rfl)) (by exact locs rfl) ?_ rfl rfl rfl (by decide); k_whole; intro kwg kwL kwh kwFG kwF kwN kwB kwX kwT; (try dsimp only [List.reverse_cons, List.reverse_nil, List.nil_append, List.cons_append]); (try k_lift kwB); (try k_fold))))
  (k_with "compareOp Eq str str" => (k_here; refine eq_str_no (by assumption) ?_))
  (k_with "subscriptTail Name Constant ref int" => (k_here; (with_reducible show wpAny _ _ (subscriptTail _ _ (Value.ref _) (Value.int 0 _)) _ _ _); k_dflt (refine head_tup (by k_asm) (by k_mem) ?_ (by with_unfolding_all rfl); k_whole)))
  (k_with "call builtin:len" => (k_here; (with_reducible show wpAny _ _ (call (Value.builtin "len") [Value.ref _]) _ _ _); k_dflt (refine len_any (by k_asm) (by k_mem) (by (first | assumption | omega | (simp only [Array.size_push]; omega))) ?_); k_whole))
  (k_with "compareOp In str ref" => (k_here; (with_reducible show wpAny _ _ (compareOp CmpOp.In (Value.str _ _) (Value.ref _)) _ _ _); k_dflt (refine in_nil (by k_asm) (by k_mem) ?_)))
  (k_with "call ref" => (k_here; (with_reducible show wpAny _ _ (call (Value.ref 58) [_, _]) _ _ _); k_dflt (refine Con.use2 (by k_asm) (by k_asm) (by k_allIn) (by ((repeat (first | exact Take.nil | (apply Take.cons; focus ((repeat (first | exact Rem.head | apply Rem.tail)); done)))); done)) (by ((repeat (first | exact fars_nil | refine fars_cons (by ((try simp only [List.cons_append, List.nil_append]); k_all)) ?_)); done)) (by ((repeat (first | exact fars_nil | refine fars_cons (by ((try simp only [List.cons_append, List.nil_append]); k_all)) ?_)); done)) (by k_asm) (by k_asm) (by k_asm) rfl (by k_room) (by k_units) (emitC _ _ _ _ _ _ _ _ _ _  (by (first | assumption | omega))) ?_); rintro v9 made9 chg9 h9 tk9 ⟨i9, t9, e9, f9, g9⟩ F9 N9 A9; subst e9; subst f9; subst g9; (try simp only [List.cons_append, List.nil_append] at N9); (try dsimp only [Fars, List.cons_append, List.nil_append] at A9); clear A9; (try dsimp only); (try k_sweep)))
  intro hF
  unfold Spec
  k_fill
  intro dp un gd cn cs a ccd cl outer A₀ base h₀ L m s Q E mean mg mb rest B F X N dis T hk hdp hun hret
  dsimp only [Fars, List.cons_append, List.nil_append] at hF
  obtain ⟨hF0, -⟩ := hF
  try simp only [List.cons_append, List.nil_append] at N dis hret
  refine' enterR B F X N dis T hk ?room ?ho ?hcd ?bind ?loc ?_ ?hcell ?hco ?hgen ?hkk
  case room => first | exact room0 (by assumption) | omega
  case ho => k_dflt k_is
  case hcd => k_dflt k_is
  case bind => exact binds2 rfl
  case loc => exact locs rfl
  case hcell => decide
  case hco => exact rfl
  case hgen => exact rfl
  case hkk => exact rfl
  intro g L' h₁ F' N' B' X' T'
  clear B F X N T dis
  k_fold
  k_steps
  try dsimp only
  refine leaveR (by assumption) (by assumption) fun kF kN kA => ?_
  refine' hret _ _ _ _ ⟨_, _, rfl, ?fars, ?mp, ?e_D, ?e_o, ?e_c1, ?e_c2, rfl, rfl, rfl⟩ kF (news_sub2 kN ?sub) (apart_sub kA ?sub)
  case sub => (try simp only [List.cons_append, List.nil_append]); lcg_sub
  case mp => exact rfl
  case fars => repeat (first | exact fars_nil | refine fars_cons (by ((try simp only [List.cons_append, List.nil_append]); k_all)) ?_)
end

section
set_option maxHeartbeats 4000000
theorem begFail (w : World) (sf sd l n : Addr) (hs : Int) (ts : Tok) (its : Array Value) (k nn : Nat) (t1 : Tok) (hz : its.size ≤ 100) :
    Con w 70 [.ref sf, .ref n] [(l, W.listOf its k)] [(sf, (⟨.ref 94, some sd, .plain, #[]⟩ : Obj)), (sd, dictOf [⟨hs, .str (Str.ofString "orders") ts, .ref l⟩] nn), (n, tup [.str (Str.ofString "fail") t1])] 15 120
      (fun (v : Value) (made chg' : List (Addr × Obj)) => ∃ (D o : Addr) (c1 : Tok), v = .ref D ∧ made = [(D, W.listOf #[] 0), (o, tup [.str (Str.ofString "fail") c1])] ∧ chg' = [(l, W.listOf (its.push (.ref o)) (k + 1))]) := by
  k_with_none
  (k_with "WhlIf" => ((first | (refine WhlIf.yes (by with_unfolding_all rfl) ?_) | (refine WhlIf.no (by with_unfolding_all rfl) ?_) | (refine WhlIf.yes (by decide) ?_) | (refine WhlIf.no (by decide) ?_)); (try k_fold)))
  (k_with "setAttr ref" => (k_here; k_dflt (refine set_dict_any (by k_asm) (by k_asm) (by k_asm) (by k_inst) (by exact rfl) (by k_is) (by k_is) (by k_is) (by k_is) (by k_get) (by (intro kH kt; k_put)) (by (intro kH kt; k_upd)) (by (intro kH kt; exact Nat.le_of_ble_eq_true rfl)) ?_; k_whole); intro kwh kwH kwt kwF kwN; (try k_sweep)))
  (k_with "k_allIn" => (first | exact List.forall_mem_nil _ | (refine List.forall_mem_cons.mpr ⟨by (first | exact nth_mem 0 rfl | exact nth_mem 1 rfl | exact nth_mem 2 rfl | exact nth_mem 3 rfl | exact nth_mem 4 rfl | exact nth_mem 5 rfl | exact nth_mem 6 rfl | exact nth_mem 7 rfl | exact nth_mem 8 rfl | exact nth_mem 9 rfl | exact nth_mem 10 rfl | exact nth_mem 11 rfl | exact nth_mem 12 rfl | exact nth_mem 13 rfl | exact nth_mem 14 rfl | exact nth_mem 15 rfl | exact nth_mem 16 rfl | exact nth_mem 17 rfl | exact nth_mem 18 rfl | exact nth_mem 19 rfl | exact nth_mem 20 rfl | exact nth_mem 21 rfl | exact nth_mem 22 rfl | exact nth_mem 23 rfl | exact nth_mem 24 rfl | exact nth_mem 25 rfl | k_memK), ?_⟩; k_allIn)))
  (k_with "lcg_sub" => (first | exact List.forall_mem_nil _ | (refine List.forall_mem_cons.mpr ⟨by (first | exact nth_mem 0 rfl | exact nth_mem 1 rfl | exact nth_mem 2 rfl | exact nth_mem 3 rfl | exact nth_mem 4 rfl | exact nth_mem 5 rfl | exact nth_mem 6 rfl | exact nth_mem 7 rfl | exact nth_mem 8 rfl | exact nth_mem 9 rfl | exact nth_mem 10 rfl | exact nth_mem 11 rfl | exact nth_mem 12 rfl | exact nth_mem 13 rfl | exact nth_mem 14 rfl | exact nth_mem 15 rfl | exact nth_mem 16 rfl | exact nth_mem 17 rfl | exact nth_mem 18 rfl | exact nth_mem 19 rfl | exact nth_mem 20 rfl | exact nth_mem 21 rfl | exact nth_mem 22 rfl | exact nth_mem 23 rfl | exact nth_mem 24 rfl | exact nth_mem 25 rfl | k_mem), ?_⟩; lcg_sub)))
  (k_with "k_ne" => (refine neN ?_; (try dsimp only); first
    | exact allLt_ne (by with_reducible assumption) (by k_mem)
    | exact allLt_ne' (by with_reducible assumption) (by k_mem)
    | exact far_ne (by with_reducible assumption) (by k_mem)
    | exact far_ne' (by with_reducible assumption) (by k_mem)
    | exact allLt_ne2 (by with_reducible assumption) (by with_reducible assumption) (by k_mem)
    | exact allLt_ne2' (by with_reducible assumption) (by with_reducible assumption) (by k_mem)
    | exact Nat.ne_of_lt (by assumption)
    | exact Nat.ne_of_gt (by assumption)
    | assumption
    | (refine Ne.symm ?_; assumption)
    | exact off1_ne (by assumption) (by k_mem)
    | (refine Ne.symm ?_; exact off1_ne (by assumption) (by k_mem))
    | exact apart_ne (by assumption) (by k_mem) (by k_mem)
    | exact apart_ne' (by assumption) (by k_mem) (by k_mem)
    | omega))
  (k_with "lcg_off" => first | exact True.intro | assumption | (refine And.intro ⟨by k_ne, by k_ne, by k_ne⟩ ?_; lcg_off))
  (k_with "k_room" => ((try simp only [depth_under_make, depth_under_kw, depth_in1, depth_deeper, depth_caller]); (try dsimp only [ktrTop]); first | exact Nat.le_of_ble_eq_true rfl | exact room1 (by assumption) rfl | exact room2 (by assumption) rfl | exact room3 (by assumption) rfl | exact room4 (by assumption) rfl | omega))
  (k_with "k_units" => ((try simp only [units_in1, units_deeper, Around.mark_units, units_caller]); (try dsimp only [ktrTop]); first | exact Nat.le_of_ble_eq_true rfl | exact room1 (by assumption) rfl | exact room2 (by assumption) rfl | exact room3 (by assumption) rfl | exact room4 (by assumption) rfl | omega))
  (k_with "eval ListComp" => (k_here; k_dflt (refine LCg.ListComp_U (F₀ := by k_asm) (by with_unfolding_all rfl) (by decide) (by rfl) (by decide) (by rfl) ?_)))
  (k_with "CompRest" => (with_unfolding_all first
    | (refine LCg.CompRest.succ ?_; intro kwv kwI kwoI kwC kwoC kwD kwm kwh kwtk kwE kwhv kwhC kwhx kwF kwN kwoff kwne; (first | lcg_open kwhv | (obtain ⟨kwt9, kwhv9⟩ := kwhv; subst kwhv9)))
    | refine LCg.CompRest.zero ?_))
  (k_with "FinE" => ((unfold LCg.FinE); intro kwD kwh kwtk kwF kwN kwo1; (try simp only [List.nil_append, List.cons_append] at kwN); (try dsimp only)))
  (k_with "compareOp In str ref" => (k_here; (with_reducible show wpAny _ _ (compareOp CmpOp.In (Value.str _ _) (Value.ref _)) _ _ _); k_dflt (first
    | (refine in_topTup (b := true) (by k_asm) (by k_asm) (by k_is) (by (repeat constructor)) (by decide) ?_; k_whole)
    | (refine in_topTup (b := false) (by k_asm) (by k_asm) (by k_is) (by (repeat constructor)) (by decide) ?_; k_whole))))
  (k_with "k_enter" => ((fail_if_success k_inElt); (refine code_def (by k_asm) (by k_asm) (by k_asm) (by k_asm) (by k_asm) rfl rfl rfl (by k_is) (by k_is) (by k_room) (by (first | exact binds1 rfl | exact binds2 rfl | exact binds3 rfl | exact binds4 rfl | exact binds7 rfl)) (by exact locs rfl) ?_ rfl rfl rfl (by decide); k_whole; intro kwg kwL kwh kwFG kwF kwN kwB kwX kwT; (try dsimp only [List.reverse_cons, List.reverse_nil, List.nil_append, List.cons_append]); (try k_lift kwB); (try k_fold))))
  (k_with "compareOp Eq str str" => (k_here; refine eq_str_no (by assumption) ?_))
  (k_with "subscriptTail Name Constant ref int" => (k_here; (with_reducible show wpAny _ _ (subscriptTail _ _ (Value.ref _) (Value.int 0 _)) _ _ _); k_dflt (refine head_tup (by k_asm) (by k_mem) ?_ (by with_unfolding_all rfl); k_whole)))
  (k_with "call builtin:len" => (k_here; (with_reducible show wpAny _ _ (call (Value.builtin "len") [Value.ref _]) _ _ _); k_dflt (refine len_any (by k_asm) (by k_mem) (by (first | assumption | omega | (simp only [Array.size_push]; omega))) ?_); k_whole))
  (k_with "compareOp In str ref" => (k_here; (with_reducible show wpAny _ _ (compareOp CmpOp.In (Value.str _ _) (Value.ref _)) _ _ _); k_dflt (refine in_nil (by k_asm) (by k_mem) ?_)))
  (k_with "call ref" => (k_here; (with_reducible show wpAny _ _ (call (Value.ref 58) [_, _]) _ _ _); k_dflt (refine Con.use2 (by k_asm) (by k_asm) (by k_allIn) (by ((repeat (first | exact Take.nil | (apply Take.cons; focus ((repeat (first | exact Rem.head | apply Rem.tail)); done)))); done)) (by ((repeat (first | exact fars_nil | refine fars_cons (by ((try simp only [List.cons_append, List.nil_append]); k_all)) ?_)); done)) (by ((repeat (first | exact fars_nil | refine fars_cons (by ((try simp only [List.cons_append, List.nil_append]); k_all)) ?_)); done)) (by k_asm) (by k_asm) (by k_asm) rfl (by k_room) (by k_units) (emitC _ _ _ _ _ _ _ _ _ _  (by (first | assumption | omega))) ?_); rintro v9 made9 chg9 h9 tk9 ⟨i9, t9, e9, f9, g9⟩ F9 N9 A9; subst e9; subst f9; subst g9; (try simp only [List.cons_append, List.nil_append] at N9); (try dsimp only [Fars, List.cons_append, List.nil_append] at A9); clear A9; (try dsimp only); (try k_sweep)))
  intro hF
  unfold Spec
  k_fill
  intro dp un gd cn cs a ccd cl outer A₀ base h₀ L m s Q E mean mg mb rest B F X N dis T hk hdp hun hret
  dsimp only [Fars, List.cons_append, List.nil_append] at hF
  obtain ⟨hF0, -⟩ := hF
  try simp only [List.cons_append, List.nil_append] at N dis hret
  refine' enterR B F X N dis T hk ?room ?ho ?hcd ?bind ?loc ?_ ?hcell ?hco ?hgen ?hkk
  case room => first | exact room0 (by assumption) | omega
  case ho => k_dflt k_is
  case hcd => k_dflt k_is
  case bind => exact binds2 rfl
  case loc => exact locs rfl
  case hcell => decide
  case hco => exact rfl
  case hgen => exact rfl
  case hkk => exact rfl
  intro g L' h₁ F' N' B' X' T'
  clear B F X N T dis
  k_fold
  k_steps
  try dsimp only
  refine leaveR (by assumption) (by assumption) fun kF kN kA => ?_
  refine' hret _ _ _ _ ⟨_, _, rfl, ?fars, ?mp, ?e_D, ?e_o, ?e_c1, rfl, rfl, rfl⟩ kF (news_sub2 kN ?sub) (apart_sub kA ?sub)
  case sub => (try simp only [List.cons_append, List.nil_append]); lcg_sub
  case mp => exact rfl
  case fars => repeat (first | exact fars_nil | refine fars_cons (by ((try simp only [List.cons_append, List.nil_append]); k_all)) ?_)
end

section
set_option maxHeartbeats 4000000
theorem begNow (w : World) (sf sd l n : Addr) (hs : Int) (ts : Tok) (its : Array Value) (k nn : Nat) (a rf : Addr) (t1 : Tok) (hz : its.size ≤ 100) :
    Con w 70 [.ref sf, .ref n] [(l, W.listOf its k)] [(sf, (⟨.ref 94, some sd, .plain, #[]⟩ : Obj)), (sd, dictOf [⟨hs, .str (Str.ofString "orders") ts, .ref l⟩] nn), (n, tup [.str (Str.ofString "now") t1, .ref a, .ref rf])] 15 120
      (fun (v : Value) (made chg' : List (Addr × Obj)) => ∃ (D q1 q2 o2 o : Addr) (c1 p1 p2 p3 : Tok), v = .ref D ∧ made = [(D, W.listOf #[.ref q1, .ref q2] 0), (q1, tup [.str (Str.ofString "put") p1, .ref a]), (q2, tup [.str (Str.ofString "emit") p2, .ref o2]), (o2, tup [.str (Str.ofString "set") p3, .ref rf]), (o, tup [.str (Str.ofString "mark") c1])] ∧ chg' = [(l, W.listOf (its.push (.ref o)) (k + 1))]) := by
  k_with_none
  (k_with "WhlIf" => ((first | (refine WhlIf.yes (by with_unfolding_all rfl) ?_) | (refine WhlIf.no (by with_unfolding_all rfl) ?_) | (refine WhlIf.yes (by decide) ?_) | (refine WhlIf.no (by decide) ?_)); (try k_fold)))
  (k_with "setAttr ref" => (k_here; k_dflt (refine set_dict_any (by k_asm) (by k_asm) (by k_asm) (by k_inst) (by exact rfl) (by k_is) (by k_is) (by k_is) (by k_is) (by k_get) (by (intro kH kt; k_put)) (by (intro kH kt; k_upd)) (by (intro kH kt; exact Nat.le_of_ble_eq_true rfl)) ?_; k_whole); intro kwh kwH kwt kwF kwN; (try k_sweep)))
  (k_with "k_allIn" => (first | exact List.forall_mem_nil _ | (refine List.forall_mem_cons.mpr ⟨by (first | exact nth_mem 0 rfl | exact nth_mem 1 rfl | exact nth_mem 2 rfl | exact nth_mem 3 rfl | exact nth_mem 4 rfl | exact nth_mem 5 rfl | exact nth_mem 6 rfl | exact nth_mem 7 rfl | exact nth_mem 8 rfl | exact nth_mem 9 rfl | exact nth_mem 10 rfl | exact nth_mem 11 rfl | exact nth_mem 12 rfl | exact nth_mem 13 rfl | exact nth_mem 14 rfl | exact nth_mem 15 rfl | exact nth_mem 16 rfl | exact nth_mem 17 rfl | exact nth_mem 18 rfl | exact nth_mem 19 rfl | exact nth_mem 20 rfl | exact nth_mem 21 rfl | exact nth_mem 22 rfl | exact nth_mem 23 rfl | exact nth_mem 24 rfl | exact nth_mem 25 rfl | k_memK), ?_⟩; k_allIn)))
  (k_with "lcg_sub" => (first | exact List.forall_mem_nil _ | (refine List.forall_mem_cons.mpr ⟨by (first | exact nth_mem 0 rfl | exact nth_mem 1 rfl | exact nth_mem 2 rfl | exact nth_mem 3 rfl | exact nth_mem 4 rfl | exact nth_mem 5 rfl | exact nth_mem 6 rfl | exact nth_mem 7 rfl | exact nth_mem 8 rfl | exact nth_mem 9 rfl | exact nth_mem 10 rfl | exact nth_mem 11 rfl | exact nth_mem 12 rfl | exact nth_mem 13 rfl | exact nth_mem 14 rfl | exact nth_mem 15 rfl | exact nth_mem 16 rfl | exact nth_mem 17 rfl | exact nth_mem 18 rfl | exact nth_mem 19 rfl | exact nth_mem 20 rfl | exact nth_mem 21 rfl | exact nth_mem 22 rfl | exact nth_mem 23 rfl | exact nth_mem 24 rfl | exact nth_mem 25 rfl | k_mem), ?_⟩; lcg_sub)))
  (k_with "k_ne" => (refine neN ?_; (try dsimp only); first
    | exact allLt_ne (by with_reducible assumption) (by k_mem)
    | exact allLt_ne' (by with_reducible assumption) (by k_mem)
    | exact far_ne (by with_reducible assumption) (by k_mem)
    | exact far_ne' (by with_reducible assumption) (by k_mem)
    | exact allLt_ne2 (by with_reducible assumption) (by with_reducible assumption) (by k_mem)
    | exact allLt_ne2' (by with_reducible assumption) (by with_reducible assumption) (by k_mem)
    | exact Nat.ne_of_lt (by assumption)
    | exact Nat.ne_of_gt (by assumption)
    | assumption
    | (refine Ne.symm ?_; assumption)
    | exact off1_ne (by assumption) (by k_mem)
    | (refine Ne.symm ?_; exact off1_ne (by assumption) (by k_mem))
    | exact apart_ne (by assumption) (by k_mem) (by k_mem)
    | exact apart_ne' (by assumption) (by k_mem) (by k_mem)
    | omega))
  (k_with "lcg_off" => first | exact True.intro | assumption | (refine And.intro ⟨by k_ne, by k_ne, by k_ne⟩ ?_; lcg_off))
  (k_with "k_room" => ((try simp only [depth_under_make, depth_under_kw, depth_in1, depth_deeper, depth_caller]); (try dsimp only [ktrTop]); first | exact Nat.le_of_ble_eq_true rfl | exact room1 (by assumption) rfl | exact room2 (by assumption) rfl | exact room3 (by assumption) rfl | exact room4 (by assumption) rfl | omega))
  (k_with "k_units" => ((try simp only [units_in1, units_deeper, Around.mark_units, units_caller]); (try dsimp only [ktrTop]); first | exact Nat.le_of_ble_eq_true rfl | exact room1 (by assumption) rfl | exact room2 (by assumption) rfl | exact room3 (by assumption) rfl | exact room4 (by assumption) rfl | omega))
  (k_with "eval ListComp" => (k_here; k_dflt (refine LCg.ListComp_U (F₀ := by k_asm) (by with_unfolding_all rfl) (by decide) (by rfl) (by decide) (by rfl) ?_)))
  (k_with "CompRest" => (with_unfolding_all first
    | (refine LCg.CompRest.succ ?_; intro kwv kwI kwoI kwC kwoC kwD kwm kwh kwtk kwE kwhv kwhC kwhx kwF kwN kwoff kwne; (first | lcg_open kwhv | (obtain ⟨kwt9, kwhv9⟩ := kwhv; subst kwhv9)))
    | refine LCg.CompRest.zero ?_))
  (k_with "FinE" => ((unfold LCg.FinE); intro kwD kwh kwtk kwF kwN kwo1; (try simp only [List.nil_append, List.cons_append] at kwN); (try dsimp only)))
  (k_with "compareOp In str ref" => (k_here; (with_reducible show wpAny _ _ (compareOp CmpOp.In (Value.str _ _) (Value.ref _)) _ _ _); k_dflt (first
    | (refine in_topTup (b := true) (by k_asm) (by k_asm) (by k_is) (by (repeat constructor)) (by decide) ?_; k_whole)
    | (refine in_topTup (b := false) (by k_asm) (by k_asm) (by k_is) (by (repeat constructor)) (by decide) ?_; k_whole))))
  (k_with "k_enter" => ((fail_if_success k_inElt); (refine code_def (by k_asm) (by k_asm) (by k_asm) (by k_asm) (by k_asm) rfl rfl rfl (by k_is) (by k_is) (by k_room) (by (first | exact binds1 rfl | exact binds2 rfl | exact binds3 rfl | exact binds4 rfl | exact binds7 rfl)) (by exact locs rfl) ?_ rfl rfl rfl (by decide); k_whole; intro kwg kwL kwh kwFG kwF kwN kwB kwX kwT; (try dsimp only [List.reverse_cons, List.reverse_nil, List.nil_append, List.cons_append]); (try k_lift kwB); (try k_fold))))
  (k_with "compareOp Eq str str" => (k_here; refine eq_str_no (by assumption) ?_))
  (k_with "subscriptTail Name Constant ref int" => (k_here; (with_reducible show wpAny _ _ (subscriptTail _ _ (Value.ref _) (Value.int 0 _)) _ _ _); k_dflt (refine head_tup (by k_asm) (by k_mem) ?_ (by with_unfolding_all rfl); k_whole)))
  (k_with "call builtin:len" => (k_here; (with_reducible show wpAny _ _ (call (Value.builtin "len") [Value.ref _]) _ _ _); k_dflt (refine len_any (by k_asm) (by k_mem) (by (first | assumption | omega | (simp only [Array.size_push]; omega))) ?_); k_whole))
  (k_with "compareOp In str ref" => (k_here; (with_reducible show wpAny _ _ (compareOp CmpOp.In (Value.str _ _) (Value.ref _)) _ _ _); k_dflt (refine in_nil (by k_asm) (by k_mem) ?_)))
  (k_with "call ref" => (k_here; (with_reducible show wpAny _ _ (call (Value.ref 58) [_, _]) _ _ _); k_dflt (refine Con.use2 (by k_asm) (by k_asm) (by k_allIn) (by ((repeat (first | exact Take.nil | (apply Take.cons; focus ((repeat (first | exact Rem.head | apply Rem.tail)); done)))); done)) (by ((repeat (first | exact fars_nil | refine fars_cons (by ((try simp only [List.cons_append, List.nil_append]); k_all)) ?_)); done)) (by ((repeat (first | exact fars_nil | refine fars_cons (by ((try simp only [List.cons_append, List.nil_append]); k_all)) ?_)); done)) (by k_asm) (by k_asm) (by k_asm) rfl (by k_room) (by k_units) (emitC _ _ _ _ _ _ _ _ _ _  (by (first | assumption | omega))) ?_); rintro v9 made9 chg9 h9 tk9 ⟨i9, t9, e9, f9, g9⟩ F9 N9 A9; subst e9; subst f9; subst g9; (try simp only [List.cons_append, List.nil_append] at N9); (try dsimp only [Fars, List.cons_append, List.nil_append] at A9); clear A9; (try dsimp only); (try k_sweep)))
  intro hF
  unfold Spec
  k_fill
  intro dp un gd cn cs a ccd cl outer A₀ base h₀ L m s Q E mean mg mb rest B F X N dis T hk hdp hun hret
  dsimp only [Fars, List.cons_append, List.nil_append] at hF
  obtain ⟨hF0, -⟩ := hF
  try simp only [List.cons_append, List.nil_append] at N dis hret
  refine' enterR B F X N dis T hk ?room ?ho ?hcd ?bind ?loc ?_ ?hcell ?hco ?hgen ?hkk
  case room => first | exact room0 (by assumption) | omega
  case ho => k_dflt k_is
  case hcd => k_dflt k_is
  case bind => exact binds2 rfl
  case loc => exact locs rfl
  case hcell => decide
  case hco => exact rfl
  case hgen => exact rfl
  case hkk => exact rfl
  intro g L' h₁ F' N' B' X' T'
  clear B F X N T dis
  k_fold
  k_steps
  try dsimp only
  refine leaveR (by assumption) (by assumption) fun kF kN kA => ?_
  refine' hret _ _ _ _ ⟨_, _, rfl, ?fars, ?mp, ?e_D, ?e_q1, ?e_q2, ?e_o2, ?e_o, ?e_c1, ?e_p1, ?e_p2, ?e_p3, rfl, rfl, rfl⟩ kF (news_sub2 kN ?sub) (apart_sub kA ?sub)
  case sub => (try simp only [List.cons_append, List.nil_append]); lcg_sub
  case mp => exact rfl
  case fars => repeat (first | exact fars_nil | refine fars_cons (by ((try simp only [List.cons_append, List.nil_append]); k_all)) ?_)
end

section
set_option maxHeartbeats 1500000
theorem stepC (w : World) (ho hd vd rl lg : Addr) (HT : HostT) (u3 : Tok) (k : Int) (h0 : 0 ≤ k) (h1 : k < 9999) :
    Con w 586 [.ref ho] [(hd, hostD HT vd rl lg k u3)] [(ho, instObj 589 hd)] 10 80
      (fun (v : Value) (made chg' : List (Addr × Obj)) => ∃ (t : Tok), v = .none ∧ made = [] ∧ chg' = [(hd, hostD HT vd rl lg (k + 1) t)]) := by
  k_with_none
  (k_with "WhlIf" => ((first | (refine WhlIf.yes (by with_unfolding_all rfl) ?_) | (refine WhlIf.no (by with_unfolding_all rfl) ?_) | (refine WhlIf.yes (by decide) ?_) | (refine WhlIf.no (by decide) ?_)); (try k_fold)))
  (k_with "setAttr ref" => (k_here; k_dflt (refine set_dict_any (by k_asm) (by k_asm) (by k_asm) (by k_inst) (by exact rfl) (by k_is) (by k_is) (by k_is) (by k_is) (by k_get) (by (intro kH kt; k_put)) (by (intro kH kt; k_upd)) (by (intro kH kt; exact Nat.le_of_ble_eq_true rfl)) ?_; k_whole); intro kwh kwH kwt kwF kwN; (try k_sweep)))
  (k_with "k_allIn" => (first | exact List.forall_mem_nil _ | (refine List.forall_mem_cons.mpr ⟨by (first | exact nth_mem 0 rfl | exact nth_mem 1 rfl | exact nth_mem 2 rfl | exact nth_mem 3 rfl | exact nth_mem 4 rfl | exact nth_mem 5 rfl | exact nth_mem 6 rfl | exact nth_mem 7 rfl | exact nth_mem 8 rfl | exact nth_mem 9 rfl | exact nth_mem 10 rfl | exact nth_mem 11 rfl | exact nth_mem 12 rfl | exact nth_mem 13 rfl | exact nth_mem 14 rfl | exact nth_mem 15 rfl | exact nth_mem 16 rfl | exact nth_mem 17 rfl | exact nth_mem 18 rfl | exact nth_mem 19 rfl | exact nth_mem 20 rfl | exact nth_mem 21 rfl | exact nth_mem 22 rfl | exact nth_mem 23 rfl | exact nth_mem 24 rfl | exact nth_mem 25 rfl | k_memK), ?_⟩; k_allIn)))
  (k_with "lcg_sub" => (first | exact List.forall_mem_nil _ | (refine List.forall_mem_cons.mpr ⟨by (first | exact nth_mem 0 rfl | exact nth_mem 1 rfl | exact nth_mem 2 rfl | exact nth_mem 3 rfl | exact nth_mem 4 rfl | exact nth_mem 5 rfl | exact nth_mem 6 rfl | exact nth_mem 7 rfl | exact nth_mem 8 rfl | exact nth_mem 9 rfl | exact nth_mem 10 rfl | exact nth_mem 11 rfl | exact nth_mem 12 rfl | exact nth_mem 13 rfl | exact nth_mem 14 rfl | exact nth_mem 15 rfl | exact nth_mem 16 rfl | exact nth_mem 17 rfl | exact nth_mem 18 rfl | exact nth_mem 19 rfl | exact nth_mem 20 rfl | exact nth_mem 21 rfl | exact nth_mem 22 rfl | exact nth_mem 23 rfl | exact nth_mem 24 rfl | exact nth_mem 25 rfl | k_mem), ?_⟩; lcg_sub)))
  (k_with "k_ne" => (refine neN ?_; (try dsimp only); first
    | exact allLt_ne (by with_reducible assumption) (by k_mem)
    | exact allLt_ne' (by with_reducible assumption) (by k_mem)
    | exact far_ne (by with_reducible assumption) (by k_mem)
    | exact far_ne' (by with_reducible assumption) (by k_mem)
    | exact allLt_ne2 (by with_reducible assumption) (by with_reducible assumption) (by k_mem)
    | exact allLt_ne2' (by with_reducible assumption) (by with_reducible assumption) (by k_mem)
    | exact Nat.ne_of_lt (by assumption)
    | exact Nat.ne_of_gt (by assumption)
    | assumption
    | (refine Ne.symm ?_; assumption)
    | exact off1_ne (by assumption) (by k_mem)
    | (refine Ne.symm ?_; exact off1_ne (by assumption) (by k_mem))
    | exact apart_ne (by assumption) (by k_mem) (by k_mem)
    | exact apart_ne' (by assumption) (by k_mem) (by k_mem)
    | omega))
  (k_with "lcg_off" => first | exact True.intro | assumption | (refine And.intro ⟨by k_ne, by k_ne, by k_ne⟩ ?_; lcg_off))
  (k_with "k_room" => ((try simp only [depth_under_make, depth_under_kw, depth_in1, depth_deeper, depth_caller]); (try dsimp only [ktrTop]); first | exact Nat.le_of_ble_eq_true rfl | exact room1 (by assumption) rfl | exact room2 (by assumption) rfl | exact room3 (by assumption) rfl | exact room4 (by assumption) rfl | omega))
  (k_with "k_units" => ((try simp only [units_in1, units_deeper, Around.mark_units, units_caller]); (try dsimp only [ktrTop]); first | exact Nat.le_of_ble_eq_true rfl | exact room1 (by assumption) rfl | exact room2 (by assumption) rfl | exact room3 (by assumption) rfl | exact room4 (by assumption) rfl | omega))
  (k_with "eval ListComp" => (k_here; k_dflt (refine LCg.ListComp_U (F₀ := by k_asm) (by with_unfolding_all rfl) (by decide) (by rfl) (by decide) (by rfl) ?_)))
  (k_with "CompRest" => (with_unfolding_all first
    | (refine LCg.CompRest.succ ?_; intro kwv kwI kwoI kwC kwoC kwD kwm kwh kwtk kwE kwhv kwhC kwhx kwF kwN kwoff kwne; (first | lcg_open kwhv | (obtain ⟨kwt9, kwhv9⟩ := kwhv; subst kwhv9)))
    | refine LCg.CompRest.zero ?_))
  (k_with "FinE" => ((unfold LCg.FinE); intro kwD kwh kwtk kwF kwN kwo1; (try simp only [List.nil_append, List.cons_append] at kwN); (try dsimp only)))
  (k_with "compareOp In str ref" => (k_here; (with_reducible show wpAny _ _ (compareOp CmpOp.In (Value.str _ _) (Value.ref _)) _ _ _); k_dflt (first
    | (refine in_topTup (b := true) (by k_asm) (by k_asm) (by k_is) (by (repeat constructor)) (by decide) ?_; k_whole)
    | (refine in_topTup (b := false) (by k_asm) (by k_asm) (by k_is) (by (repeat constructor)) (by decide) ?_; k_whole))))
  (k_with "k_enter" => ((fail_if_success k_inElt); (refine code_def (by k_asm) (by k_asm) (by k_asm) (by k_asm) (by k_asm) rfl rfl rfl (by k_is) (by k_is) (by k_room) (by (first | exact binds1 rfl | exact binds2 rfl | exact binds3 rfl | exact binds4 rfl | exact binds7 rfl)) (by exact locs rfl) ?_ rfl rfl rfl (by decide); k_whole; intro kwg kwL kwh kwFG kwF kwN kwB kwX kwT; (try dsimp only [List.reverse_cons, List.reverse_nil, List.nil_append, List.cons_append]); (try k_lift kwB); (try k_fold))))
  (k_with "compareOp Eq str str" => (k_here; refine eq_str_no (by assumption) ?_))
  (k_with "subscriptTail Name Constant ref int" => (k_here; (with_reducible show wpAny _ _ (subscriptTail _ _ (Value.ref _) (Value.int 0 _)) _ _ _); k_dflt (refine head_tup (by k_asm) (by k_mem) ?_ (by with_unfolding_all rfl); k_whole)))
  (k_with "call builtin:len" => (k_here; (with_reducible show wpAny _ _ (call (Value.builtin "len") [Value.ref _]) _ _ _); k_dflt (refine len_any (by k_asm) (by k_mem) (by (first | assumption | omega | (simp only [Array.size_push]; omega))) ?_); k_whole))
  (k_with "compareOp In str ref" => (k_here; (with_reducible show wpAny _ _ (compareOp CmpOp.In (Value.str _ _) (Value.ref _)) _ _ _); k_dflt (refine in_nil (by k_asm) (by k_mem) ?_)))
  intro hF
  unfold Spec
  k_fill
  intro dp un gd cn cs a ccd cl outer A₀ base h₀ L m s Q E mean mg mb rest B F X N dis T hk hdp hun hret
  dsimp only [Fars, List.cons_append, List.nil_append] at hF
  obtain ⟨hF0, -⟩ := hF
  try simp only [List.cons_append, List.nil_append] at N dis hret
  refine' enterR B F X N dis T hk ?room ?ho ?hcd ?bind ?loc ?_ ?hcell ?hco ?hgen ?hkk
  case room => first | exact room0 (by assumption) | omega
  case ho => k_dflt k_is
  case hcd => k_dflt k_is
  case bind => exact binds1 rfl
  case loc => exact locs rfl
  case hcell => decide
  case hco => exact rfl
  case hgen => exact rfl
  case hkk => exact rfl
  intro g L' h₁ F' N' B' X' T'
  clear B F X N T dis
  k_fold
  k_steps
  try dsimp only
  refine leaveR (by assumption) (by assumption) fun kF kN kA => ?_
  refine' hret _ _ _ _ ⟨_, _, rfl, ?fars, ?mp, ?e_t, rfl, rfl, rfl⟩ kF (news_sub2 kN ?sub) (apart_sub kA ?sub)
  case sub => (try simp only [List.cons_append, List.nil_append]); lcg_sub
  case mp => exact rfl
  case fars => repeat (first | exact fars_nil | refine fars_cons (by ((try simp only [List.cons_append, List.nil_append]); k_all)) ?_)
end

section
set_option maxHeartbeats 1500000
theorem doneMark (w : World) (mt od : Addr) (c1 : Tok) (wy wd ol : Addr) (T : WayT) (y1 y2 : Tok) (pc at9 : Int) (h0 : 0 ≤ pc) (h1 : pc < 100) :
    Con w 488 [.ref mt, .ref od, .ref wy] [(wd, wayD T ol pc y1 at9 y2 .none)] [(od, (oMark c1)), (wy, instObj 449 wd)] 10 80
      (fun (v : Value) (made chg' : List (Addr × Obj)) => ∃ (mk : Addr) (t1 t2 t3 : Tok), v = .bool true ∧ made = [(mk, tup [.none, .int at9 t3])] ∧ chg' = [(wd, wayD T ol (pc + 1) t1 at9 t2 (.ref mk))]) := by
  k_with_none
  (k_with "WhlIf" => ((first | (refine WhlIf.yes (by with_unfolding_all rfl) ?_) | (refine WhlIf.no (by with_unfolding_all rfl) ?_) | (refine WhlIf.yes (by decide) ?_) | (refine WhlIf.no (by decide) ?_)); (try k_fold)))
  (k_with "setAttr ref" => (k_here; k_dflt (refine set_dict_any (by k_asm) (by k_asm) (by k_asm) (by k_inst) (by exact rfl) (by k_is) (by k_is) (by k_is) (by k_is) (by k_get) (by (intro kH kt; k_put)) (by (intro kH kt; k_upd)) (by (intro kH kt; exact Nat.le_of_ble_eq_true rfl)) ?_; k_whole); intro kwh kwH kwt kwF kwN; (try k_sweep)))
  (k_with "k_allIn" => (first | exact List.forall_mem_nil _ | (refine List.forall_mem_cons.mpr ⟨by (first | exact nth_mem 0 rfl | exact nth_mem 1 rfl | exact nth_mem 2 rfl | exact nth_mem 3 rfl | exact nth_mem 4 rfl | exact nth_mem 5 rfl | exact nth_mem 6 rfl | exact nth_mem 7 rfl | exact nth_mem 8 rfl | exact nth_mem 9 rfl | exact nth_mem 10 rfl | exact nth_mem 11 rfl | exact nth_mem 12 rfl | exact nth_mem 13 rfl | exact nth_mem 14 rfl | exact nth_mem 15 rfl | exact nth_mem 16 rfl | exact nth_mem 17 rfl | exact nth_mem 18 rfl | exact nth_mem 19 rfl | exact nth_mem 20 rfl | exact nth_mem 21 rfl | exact nth_mem 22 rfl | exact nth_mem 23 rfl | exact nth_mem 24 rfl | exact nth_mem 25 rfl | k_memK), ?_⟩; k_allIn)))
  (k_with "lcg_sub" => (first | exact List.forall_mem_nil _ | (refine List.forall_mem_cons.mpr ⟨by (first | exact nth_mem 0 rfl | exact nth_mem 1 rfl | exact nth_mem 2 rfl | exact nth_mem 3 rfl | exact nth_mem 4 rfl | exact nth_mem 5 rfl | exact nth_mem 6 rfl | exact nth_mem 7 rfl | exact nth_mem 8 rfl | exact nth_mem 9 rfl | exact nth_mem 10 rfl | exact nth_mem 11 rfl | exact nth_mem 12 rfl | exact nth_mem 13 rfl | exact nth_mem 14 rfl | exact nth_mem 15 rfl | exact nth_mem 16 rfl | exact nth_mem 17 rfl | exact nth_mem 18 rfl | exact nth_mem 19 rfl | exact nth_mem 20 rfl | exact nth_mem 21 rfl | exact nth_mem 22 rfl | exact nth_mem 23 rfl | exact nth_mem 24 rfl | exact nth_mem 25 rfl | k_mem), ?_⟩; lcg_sub)))
  (k_with "k_ne" => (refine neN ?_; (try dsimp only); first
    | exact allLt_ne (by with_reducible assumption) (by k_mem)
    | exact allLt_ne' (by with_reducible assumption) (by k_mem)
    | exact far_ne (by with_reducible assumption) (by k_mem)
    | exact far_ne' (by with_reducible assumption) (by k_mem)
    | exact allLt_ne2 (by with_reducible assumption) (by with_reducible assumption) (by k_mem)
    | exact allLt_ne2' (by with_reducible assumption) (by with_reducible assumption) (by k_mem)
    | exact Nat.ne_of_lt (by assumption)
    | exact Nat.ne_of_gt (by assumption)
    | assumption
    | (refine Ne.symm ?_; assumption)
    | exact off1_ne (by assumption) (by k_mem)
    | (refine Ne.symm ?_; exact off1_ne (by assumption) (by k_mem))
    | exact apart_ne (by assumption) (by k_mem) (by k_mem)
    | exact apart_ne' (by assumption) (by k_mem) (by k_mem)
    | omega))
  (k_with "lcg_off" => first | exact True.intro | assumption | (refine And.intro ⟨by k_ne, by k_ne, by k_ne⟩ ?_; lcg_off))
  (k_with "k_room" => ((try simp only [depth_under_make, depth_under_kw, depth_in1, depth_deeper, depth_caller]); (try dsimp only [ktrTop]); first | exact Nat.le_of_ble_eq_true rfl | exact room1 (by assumption) rfl | exact room2 (by assumption) rfl | exact room3 (by assumption) rfl | exact room4 (by assumption) rfl | omega))
  (k_with "k_units" => ((try simp only [units_in1, units_deeper, Around.mark_units, units_caller]); (try dsimp only [ktrTop]); first | exact Nat.le_of_ble_eq_true rfl | exact room1 (by assumption) rfl | exact room2 (by assumption) rfl | exact room3 (by assumption) rfl | exact room4 (by assumption) rfl | omega))
  (k_with "eval ListComp" => (k_here; k_dflt (refine LCg.ListComp_U (F₀ := by k_asm) (by with_unfolding_all rfl) (by decide) (by rfl) (by decide) (by rfl) ?_)))
  (k_with "CompRest" => (with_unfolding_all first
    | (refine LCg.CompRest.succ ?_; intro kwv kwI kwoI kwC kwoC kwD kwm kwh kwtk kwE kwhv kwhC kwhx kwF kwN kwoff kwne; (first | lcg_open kwhv | (obtain ⟨kwt9, kwhv9⟩ := kwhv; subst kwhv9)))
    | refine LCg.CompRest.zero ?_))
  (k_with "FinE" => ((unfold LCg.FinE); intro kwD kwh kwtk kwF kwN kwo1; (try simp only [List.nil_append, List.cons_append] at kwN); (try dsimp only)))
  (k_with "compareOp In str ref" => (k_here; (with_reducible show wpAny _ _ (compareOp CmpOp.In (Value.str _ _) (Value.ref _)) _ _ _); k_dflt (first
    | (refine in_topTup (b := true) (by k_asm) (by k_asm) (by k_is) (by (repeat constructor)) (by decide) ?_; k_whole)
    | (refine in_topTup (b := false) (by k_asm) (by k_asm) (by k_is) (by (repeat constructor)) (by decide) ?_; k_whole))))
  (k_with "k_enter" => ((fail_if_success k_inElt); (refine code_def (by k_asm) (by k_asm) (by k_asm) (by k_asm) (by k_asm) rfl rfl rfl (by k_is) (by k_is) (by k_room) (by (first | exact binds1 rfl | exact binds2 rfl | exact binds3 rfl | exact binds4 rfl | exact binds7 rfl)) (by exact locs rfl) ?_ rfl rfl rfl (by decide); k_whole; intro kwg kwL kwh kwFG kwF kwN kwB kwX kwT; (try dsimp only [List.reverse_cons, List.reverse_nil, List.nil_append, List.cons_append]); (try k_lift kwB); (try k_fold))))
  (k_with "compareOp Eq str str" => (k_here; refine eq_str_no (by assumption) ?_))
  (k_with "subscriptTail Name Constant ref int" => (k_here; (with_reducible show wpAny _ _ (subscriptTail _ _ (Value.ref _) (Value.int 0 _)) _ _ _); k_dflt (refine head_tup (by k_asm) (by k_mem) ?_ (by with_unfolding_all rfl); k_whole)))
  (k_with "call builtin:len" => (k_here; (with_reducible show wpAny _ _ (call (Value.builtin "len") [Value.ref _]) _ _ _); k_dflt (refine len_any (by k_asm) (by k_mem) (by (first | assumption | omega | (simp only [Array.size_push]; omega))) ?_); k_whole))
  (k_with "compareOp In str ref" => (k_here; (with_reducible show wpAny _ _ (compareOp CmpOp.In (Value.str _ _) (Value.ref _)) _ _ _); k_dflt (refine in_nil (by k_asm) (by k_mem) ?_)))
  intro hF
  unfold Spec
  k_fill
  intro dp un gd cn cs a ccd cl outer A₀ base h₀ L m s Q E mean mg mb rest B F X N dis T hk hdp hun hret
  dsimp only [Fars, List.cons_append, List.nil_append] at hF
  obtain ⟨hF0, -⟩ := hF
  try simp only [List.cons_append, List.nil_append] at N dis hret
  refine' enterR B F X N dis T hk ?room ?ho ?hcd ?bind ?loc ?_ ?hcell ?hco ?hgen ?hkk
  case room => first | exact room0 (by assumption) | omega
  case ho => k_dflt k_is
  case hcd => k_dflt k_is
  case bind => exact binds3 rfl
  case loc => exact locs rfl
  case hcell => decide
  case hco => exact rfl
  case hgen => exact rfl
  case hkk => exact rfl
  intro g L' h₁ F' N' B' X' T'
  clear B F X N T dis
  k_fold
  k_steps
  try dsimp only
  refine leaveR (by assumption) (by assumption) fun kF kN kA => ?_
  refine' hret _ _ _ _ ⟨_, _, rfl, ?fars, ?mp, ?e_mk, ?e_t1, ?e_t2, ?e_t3, rfl, rfl, rfl⟩ kF (news_sub2 kN ?sub) (apart_sub kA ?sub)
  case sub => (try simp only [List.cons_append, List.nil_append]); lcg_sub
  case mp => exact rfl
  case fars => repeat (first | exact fars_nil | refine fars_cons (by ((try simp only [List.cons_append, List.nil_append]); k_all)) ?_)
end

section
set_option maxHeartbeats 1500000
theorem doneLen (w : World) (mt od ho : Addr) (wy wd ol : Addr) (T : WayT) (y1 y2 : Tok) (md hs : Addr) (sub : Str) (MT : MatchT) (c1 c2 c3 : Tok) (pc at9 n : Int) (mks : Value) (h0 : 0 ≤ pc) (h1 : pc < 100) (g0 : 0 ≤ at9) (g1 : at9 ≤ 20) (g2 : 0 ≤ n) (g3 : n ≤ 20) (g4 : sub.length ≤ 20) :
    Con w 488 [.ref mt, .ref od, .ref wy] [(wd, wayD T ol pc y1 at9 y2 mks)] [(od, (oLen c1 c2 n c3)), (wy, instObj 449 wd), (mt, instObj 526 md), (md, matchD MT sub ho hs)] 20 160
      (fun (v : Value) (made chg' : List (Addr × Obj)) => made = [] ∧ ∃ (t1 t2 : Tok), (at9 + n ≤ (sub.length : Int) → v = .bool true ∧ chg' = [(wd, wayD T ol (pc + 1) t1 (at9 + n) t2 mks)]) ∧ ((sub.length : Int) < at9 + n → v = .bool false ∧ chg' = [(wd, wayD T ol pc y1 at9 y2 mks)])) := by
  k_with_none
  (k_with "WhlIf" => ((first | (refine WhlIf.yes (by with_unfolding_all rfl) ?_) | (refine WhlIf.no (by with_unfolding_all rfl) ?_) | (refine WhlIf.yes (by decide) ?_) | (refine WhlIf.no (by decide) ?_)); (try k_fold)))
  (k_with "setAttr ref" => (k_here; k_dflt (refine set_dict_any (by k_asm) (by k_asm) (by k_asm) (by k_inst) (by exact rfl) (by k_is) (by k_is) (by k_is) (by k_is) (by k_get) (by (intro kH kt; k_put)) (by (intro kH kt; k_upd)) (by (intro kH kt; exact Nat.le_of_ble_eq_true rfl)) ?_; k_whole); intro kwh kwH kwt kwF kwN; (try k_sweep)))
  (k_with "k_allIn" => (first | exact List.forall_mem_nil _ | (refine List.forall_mem_cons.mpr ⟨by (first | exact nth_mem 0 rfl | exact nth_mem 1 rfl | exact nth_mem 2 rfl | exact nth_mem 3 rfl | exact nth_mem 4 rfl | exact nth_mem 5 rfl | exact nth_mem 6 rfl | exact nth_mem 7 rfl | exact nth_mem 8 rfl | exact nth_mem 9 rfl | exact nth_mem 10 rfl | exact nth_mem 11 rfl | exact nth_mem 12 rfl | exact nth_mem 13 rfl | exact nth_mem 14 rfl | exact nth_mem 15 rfl | exact nth_mem 16 rfl | exact nth_mem 17 rfl | exact nth_mem 18 rfl | exact nth_mem 19 rfl | exact nth_mem 20 rfl | exact nth_mem 21 rfl | exact nth_mem 22 rfl | exact nth_mem 23 rfl | exact nth_mem 24 rfl | exact nth_mem 25 rfl | k_memK), ?_⟩; k_allIn)))
  (k_with "lcg_sub" => (first | exact List.forall_mem_nil _ | (refine List.forall_mem_cons.mpr ⟨by (first | exact nth_mem 0 rfl | exact nth_mem 1 rfl | exact nth_mem 2 rfl | exact nth_mem 3 rfl | exact nth_mem 4 rfl | exact nth_mem 5 rfl | exact nth_mem 6 rfl | exact nth_mem 7 rfl | exact nth_mem 8 rfl | exact nth_mem 9 rfl | exact nth_mem 10 rfl | exact nth_mem 11 rfl | exact nth_mem 12 rfl | exact nth_mem 13 rfl | exact nth_mem 14 rfl | exact nth_mem 15 rfl | exact nth_mem 16 rfl | exact nth_mem 17 rfl | exact nth_mem 18 rfl | exact nth_mem 19 rfl | exact nth_mem 20 rfl | exact nth_mem 21 rfl | exact nth_mem 22 rfl | exact nth_mem 23 rfl | exact nth_mem 24 rfl | exact nth_mem 25 rfl | k_mem), ?_⟩; lcg_sub)))
  (k_with "k_ne" => (refine neN ?_; (try dsimp only); first
    | exact allLt_ne (by with_reducible assumption) (by k_mem)
    | exact allLt_ne' (by with_reducible assumption) (by k_mem)
    | exact far_ne (by with_reducible assumption) (by k_mem)
    | exact far_ne' (by with_reducible assumption) (by k_mem)
    | exact allLt_ne2 (by with_reducible assumption) (by with_reducible assumption) (by k_mem)
    | exact allLt_ne2' (by with_reducible assumption) (by with_reducible assumption) (by k_mem)
    | exact Nat.ne_of_lt (by assumption)
    | exact Nat.ne_of_gt (by assumption)
    | assumption
    | (refine Ne.symm ?_; assumption)
    | exact off1_ne (by assumption) (by k_mem)
    | (refine Ne.symm ?_; exact off1_ne (by assumption) (by k_mem))
    | exact apart_ne (by assumption) (by k_mem) (by k_mem)
    | exact apart_ne' (by assumption) (by k_mem) (by k_mem)
    | omega))
  (k_with "lcg_off" => first | exact True.intro | assumption | (refine And.intro ⟨by k_ne, by k_ne, by k_ne⟩ ?_; lcg_off))
  (k_with "k_room" => ((try simp only [depth_under_make, depth_under_kw, depth_in1, depth_deeper, depth_caller]); (try dsimp only [ktrTop]); first | exact Nat.le_of_ble_eq_true rfl | exact room1 (by assumption) rfl | exact room2 (by assumption) rfl | exact room3 (by assumption) rfl | exact room4 (by assumption) rfl | omega))
  (k_with "k_units" => ((try simp only [units_in1, units_deeper, Around.mark_units, units_caller]); (try dsimp only [ktrTop]); first | exact Nat.le_of_ble_eq_true rfl | exact room1 (by assumption) rfl | exact room2 (by assumption) rfl | exact room3 (by assumption) rfl | exact room4 (by assumption) rfl | omega))
  (k_with "eval ListComp" => (k_here; k_dflt (refine LCg.ListComp_U (F₀ := by k_asm) (by with_unfolding_all rfl) (by decide) (by rfl) (by decide) (by rfl) ?_)))
  (k_with "CompRest" => (with_unfolding_all first
    | (refine LCg.CompRest.succ ?_; intro kwv kwI kwoI kwC kwoC kwD kwm kwh kwtk kwE kwhv kwhC kwhx kwF kwN kwoff kwne; (first | lcg_open kwhv | (obtain ⟨kwt9, kwhv9⟩ := kwhv; subst kwhv9)))
    | refine LCg.CompRest.zero ?_))
  (k_with "FinE" => ((unfold LCg.FinE); intro kwD kwh kwtk kwF kwN kwo1; (try simp only [List.nil_append, List.cons_append] at kwN); (try dsimp only)))
  (k_with "compareOp In str ref" => (k_here; (with_reducible show wpAny _ _ (compareOp CmpOp.In (Value.str _ _) (Value.ref _)) _ _ _); k_dflt (first
    | (refine in_topTup (b := true) (by k_asm) (by k_asm) (by k_is) (by (repeat constructor)) (by decide) ?_; k_whole)
    | (refine in_topTup (b := false) (by k_asm) (by k_asm) (by k_is) (by (repeat constructor)) (by decide) ?_; k_whole))))
  (k_with "k_enter" => ((fail_if_success k_inElt); (refine code_def (by k_asm) (by k_asm) (by k_asm) (by k_asm) (by k_asm) rfl rfl rfl (by k_is) (by k_is) (by k_room) (by (first | exact binds1 rfl | exact binds2 rfl | exact binds3 rfl | exact binds4 rfl | exact binds7 rfl)) (by exact locs rfl) ?_ rfl rfl rfl (by decide); k_whole; intro kwg kwL kwh kwFG kwF kwN kwB kwX kwT; (try dsimp only [List.reverse_cons, List.reverse_nil, List.nil_append, List.cons_append]); (try k_lift kwB); (try k_fold))))
  (k_with "compareOp Eq str str" => (k_here; refine eq_str_no (by assumption) ?_))
  (k_with "subscriptTail Name Constant ref int" => (k_here; (with_reducible show wpAny _ _ (subscriptTail _ _ (Value.ref _) (Value.int 0 _)) _ _ _); k_dflt (refine head_tup (by k_asm) (by k_mem) ?_ (by with_unfolding_all rfl); k_whole)))
  (k_with "call builtin:len" => (k_here; (with_reducible show wpAny _ _ (call (Value.builtin "len") [Value.ref _]) _ _ _); k_dflt (refine len_any (by k_asm) (by k_mem) (by (first | assumption | omega | (simp only [Array.size_push]; omega))) ?_); k_whole))
  (k_with "compareOp In str ref" => (k_here; (with_reducible show wpAny _ _ (compareOp CmpOp.In (Value.str _ _) (Value.ref _)) _ _ _); k_dflt (refine in_nil (by k_asm) (by k_mem) ?_)))
  (k_with "k_mem" => first | exact List.Mem.head _ | (refine List.Mem.tail _ ?_; k_mem) | (refine mem_id ?_; with_reducible assumption) | (refine List.mem_append_left _ ?_; with_reducible assumption) | fail)
  (k_with "k_memK" => first | exact List.Mem.head _ | (refine List.Mem.tail _ ?_; k_memK) | (refine mem_id ?_; with_reducible assumption) | (refine List.mem_append_left _ ?_; with_reducible assumption) | fail)
  (k_with "k_all" => first | exact List.forall_mem_nil _ | exact Far.all (by with_reducible assumption) | exact far_part (by with_reducible assumption) (by intro p hp; (repeat (first | exact hp | refine List.mem_cons_of_mem _ ?_)); (first | done | fail)) | exact young_sub (by with_reducible assumption) (by intro p hp; (repeat (first | exact hp | refine List.mem_cons_of_mem _ ?_)); (first | done | fail)) | exact young_sub2 (by with_reducible assumption) (by with_reducible assumption) (by intro p hp; (repeat (first | exact hp | refine List.mem_cons_of_mem _ ?_)); (first | done | fail)) | (refine List.forall_mem_cons.mpr ⟨by k_ne, ?_⟩; k_all))
  (k_with "k_allIn" => (first | exact List.forall_mem_nil _ | (refine List.forall_mem_cons.mpr ⟨by k_memK, ?_⟩; k_allIn)))
  (k_with "lcg_sub" => (first | exact List.forall_mem_nil _ | (refine List.forall_mem_cons.mpr ⟨by k_mem, ?_⟩; lcg_sub) | (intro p hp; (repeat (first | exact hp | refine List.mem_cons_of_mem _ ?_)); (first | done | fail))))
  intro hF
  unfold Spec
  k_fill
  intro dp un gd cn cs a ccd cl outer A₀ base h₀ L m s Q E mean mg mb rest B F X N dis T hk hdp hun hret
  dsimp only [Fars, List.cons_append, List.nil_append] at hF
  obtain ⟨hF0, -⟩ := hF
  try simp only [List.cons_append, List.nil_append] at N dis hret
  refine' enterR B F X N dis T hk ?room ?ho ?hcd ?bind ?loc ?_ ?hcell ?hco ?hgen ?hkk
  case room => first | exact room0 (by assumption) | omega
  case ho => k_dflt k_is
  case hcd => k_dflt k_is
  case bind => exact binds3 rfl
  case loc => exact locs rfl
  case hcell => decide
  case hco => exact rfl
  case hgen => exact rfl
  case hkk => exact rfl
  intro g L' h₁ F' N' B' X' T'
  clear B F X N T dis
  k_fold
  obtain ⟨nx, hnx⟩ : ∃ nx : Led, nx = [(od, (oLen c1 c2 n c3)), (wy, instObj 449 wd), (mt, instObj 526 md), (md, matchD MT sub ho hs)] := ⟨_, rfl⟩
  rw [← hnx] at hF0 N'
  have hall : ∀ p ∈ [(od, (oLen c1 c2 n c3)), (wy, instObj 449 wd), (mt, instObj 526 md), (md, matchD MT sub ho hs)], p ∈ nx := fun p hp => hnx ▸ hp
  (repeat (have m9 := (List.forall_mem_cons.mp hall).1; replace hall := (List.forall_mem_cons.mp hall).2))
  clear hall
  k_steps
  ·
    refine leaveR (by assumption) (by assumption) fun kF kN kA => ?_
    refine' hret _ _ _ _ ⟨_, _, rfl, ?fars, ?mp, rfl, ?t1, ?t2, (fun _ => ⟨rfl, rfl⟩), (fun hb => by exfalso; omega)⟩ kF (news_sub2 kN ?sub) (apart_sub kA ?sub)
    case sub => (try simp only [List.cons_append, List.nil_append]); lcg_sub
    case mp => exact rfl
    case fars => exact fars_nil
  ·
    refine leaveR (by assumption) (by assumption) fun kF kN kA => ?_
    refine' hret _ _ _ _ ⟨_, _, rfl, ?fars2, ?mp2, rfl, ?s1, ?s2, (fun hb => by exfalso; omega), (fun _ => ⟨rfl, rfl⟩)⟩ kF (news_sub2 kN ?sub3) (apart_sub kA ?sub4)
    case s1 => exact 0
    case s2 => exact 0
    case sub3 => (try simp only [List.cons_append, List.nil_append]); lcg_sub
    case sub4 => (try simp only [List.cons_append, List.nil_append]); lcg_sub
    case mp2 => exact rfl
    case fars2 => exact fars_nil
theorem doneLenOk (w : World) (mt od ho : Addr) (wy wd ol : Addr) (T : WayT) (y1 y2 : Tok) (md hs : Addr) (sub : Str) (MT : MatchT) (c1 c2 c3 : Tok) (pc at9 n : Int) (mks : Value) (h0 : 0 ≤ pc) (h1 : pc < 100) (g0 : 0 ≤ at9) (g1 : at9 ≤ 20) (g2 : 0 ≤ n) (g3 : n ≤ 20) (g4 : sub.length ≤ 20) (hin : at9 + n ≤ (sub.length : Int)) :
    Con w 488 [.ref mt, .ref od, .ref wy] [(wd, wayD T ol pc y1 at9 y2 mks)] [(od, (oLen c1 c2 n c3)), (wy, instObj 449 wd), (mt, instObj 526 md), (md, matchD MT sub ho hs)] 20 160
      (fun (v : Value) (made chg' : List (Addr × Obj)) => ∃ (t1 t2 : Tok), v = .bool true ∧ made = [] ∧ chg' = [(wd, wayD T ol (pc + 1) t1 (at9 + n) t2 mks)]) := (doneLen w mt od ho wy wd ol T y1 y2 md hs sub MT c1 c2 c3 pc at9 n mks h0 h1 g0 g1 g2 g3 g4).mono fun v made chg' h => by
  obtain ⟨e1, t1, t2, e2, _⟩ := h
  exact ⟨t1, t2, (e2 hin).1, e1, (e2 hin).2⟩
theorem doneLenNo (w : World) (mt od ho : Addr) (wy wd ol : Addr) (T : WayT) (y1 y2 : Tok) (md hs : Addr) (sub : Str) (MT : MatchT) (c1 c2 c3 : Tok) (pc at9 n : Int) (mks : Value) (h0 : 0 ≤ pc) (h1 : pc < 100) (g0 : 0 ≤ at9) (g1 : at9 ≤ 20) (g2 : 0 ≤ n) (g3 : n ≤ 20) (g4 : sub.length ≤ 20) (hin : (sub.length : Int) < at9 + n) :
    Con w 488 [.ref mt, .ref od, .ref wy] [(wd, wayD T ol pc y1 at9 y2 mks)] [(od, (oLen c1 c2 n c3)), (wy, instObj 449 wd), (mt, instObj 526 md), (md, matchD MT sub ho hs)] 20 160
      (fun (v : Value) (made chg' : List (Addr × Obj)) => v = .bool false ∧ made = [] ∧ chg' = [(wd, wayD T ol pc y1 at9 y2 mks)]) := (doneLen w mt od ho wy wd ol T y1 y2 md hs sub MT c1 c2 c3 pc at9 n mks h0 h1 g0 g1 g2 g3 g4).mono fun v made chg' h => by
  obtain ⟨e1, t1, t2, _, e2⟩ := h
  exact ⟨(e2 hin).1, e1, (e2 hin).2⟩
end

section
set_option maxHeartbeats 1500000
theorem doneFail (w : World) (mt od wy ho : Addr) (c1 : Tok) (md hs : Addr) (sub : Str) (MT : MatchT)  :
    Con w 488 [.ref mt, .ref od, .ref wy] [] [(od, (oFail c1)), (mt, instObj 526 md), (md, matchD MT sub ho hs)] 10 80
      (fun (v : Value) (made chg' : List (Addr × Obj)) => v = .bool false ∧ made = [] ∧ chg' = []) := by
  k_with_none
  (k_with "WhlIf" => ((first | (refine WhlIf.yes (by with_unfolding_all rfl) ?_) | (refine WhlIf.no (by with_unfolding_all rfl) ?_) | (refine WhlIf.yes (by decide) ?_) | (refine WhlIf.no (by decide) ?_)); (try k_fold)))
  (k_with "setAttr ref" => (k_here; k_dflt (refine set_dict_any (by k_asm) (by k_asm) (by k_asm) (by k_inst) (by exact rfl) (by k_is) (by k_is) (by k_is) (by k_is) (by k_get) (by (intro kH kt; k_put)) (by (intro kH kt; k_upd)) (by (intro kH kt; exact Nat.le_of_ble_eq_true rfl)) ?_; k_whole); intro kwh kwH kwt kwF kwN; (try k_sweep)))
  (k_with "k_allIn" => (first | exact List.forall_mem_nil _ | (refine List.forall_mem_cons.mpr ⟨by (first | exact nth_mem 0 rfl | exact nth_mem 1 rfl | exact nth_mem 2 rfl | exact nth_mem 3 rfl | exact nth_mem 4 rfl | exact nth_mem 5 rfl | exact nth_mem 6 rfl | exact nth_mem 7 rfl | exact nth_mem 8 rfl | exact nth_mem 9 rfl | exact nth_mem 10 rfl | exact nth_mem 11 rfl | exact nth_mem 12 rfl | exact nth_mem 13 rfl | exact nth_mem 14 rfl | exact nth_mem 15 rfl | exact nth_mem 16 rfl | exact nth_mem 17 rfl | exact nth_mem 18 rfl | exact nth_mem 19 rfl | exact nth_mem 20 rfl | exact nth_mem 21 rfl | exact nth_mem 22 rfl | exact nth_mem 23 rfl | exact nth_mem 24 rfl | exact nth_mem 25 rfl | k_memK), ?_⟩; k_allIn)))
  (k_with "lcg_sub" => (first | exact List.forall_mem_nil _ | (refine List.forall_mem_cons.mpr ⟨by (first | exact nth_mem 0 rfl | exact nth_mem 1 rfl | exact nth_mem 2 rfl | exact nth_mem 3 rfl | exact nth_mem 4 rfl | exact nth_mem 5 rfl | exact nth_mem 6 rfl | exact nth_mem 7 rfl | exact nth_mem 8 rfl | exact nth_mem 9 rfl | exact nth_mem 10 rfl | exact nth_mem 11 rfl | exact nth_mem 12 rfl | exact nth_mem 13 rfl | exact nth_mem 14 rfl | exact nth_mem 15 rfl | exact nth_mem 16 rfl | exact nth_mem 17 rfl | exact nth_mem 18 rfl | exact nth_mem 19 rfl | exact nth_mem 20 rfl | exact nth_mem 21 rfl | exact nth_mem 22 rfl | exact nth_mem 23 rfl | exact nth_mem 24 rfl | exact nth_mem 25 rfl | k_mem), ?_⟩; lcg_sub)))
  (k_with "k_ne" => (refine neN ?_; (try dsimp only); first
    | exact allLt_ne (by with_reducible assumption) (by k_mem)
    | exact allLt_ne' (by with_reducible assumption) (by k_mem)
    | exact far_ne (by with_reducible assumption) (by k_mem)
    | exact far_ne' (by with_reducible assumption) (by k_mem)
    | exact allLt_ne2 (by with_reducible assumption) (by with_reducible assumption) (by k_mem)
    | exact allLt_ne2' (by with_reducible assumption) (by with_reducible assumption) (by k_mem)
    | exact Nat.ne_of_lt (by assumption)
    | exact Nat.ne_of_gt (by assumption)
    | assumption
    | (refine Ne.symm ?_; assumption)
    | exact off1_ne (by assumption) (by k_mem)
    | (refine Ne.symm ?_; exact off1_ne (by assumption) (by k_mem))
    | exact apart_ne (by assumption) (by k_mem) (by k_mem)
    | exact apart_ne' (by assumption) (by k_mem) (by k_mem)
    | omega))
  (k_with "lcg_off" => first | exact True.intro | assumption | (refine And.intro ⟨by k_ne, by k_ne, by k_ne⟩ ?_; lcg_off))
  (k_with "k_room" => ((try simp only [depth_under_make, depth_under_kw, depth_in1, depth_deeper, depth_caller]); (try dsimp only [ktrTop]); first | exact Nat.le_of_ble_eq_true rfl | exact room1 (by assumption) rfl | exact room2 (by assumption) rfl | exact room3 (by assumption) rfl | exact room4 (by assumption) rfl | omega))
  (k_with "k_units" => ((try simp only [units_in1, units_deeper, Around.mark_units, units_caller]); (try dsimp only [ktrTop]); first | exact Nat.le_of_ble_eq_true rfl | exact room1 (by assumption) rfl | exact room2 (by assumption) rfl | exact room3 (by assumption) rfl | exact room4 (by assumption) rfl | omega))
  (k_with "eval ListComp" => (k_here; k_dflt (refine LCg.ListComp_U (F₀ := by k_asm) (by with_unfolding_all rfl) (by decide) (by rfl) (by decide) (by rfl) ?_)))
  (k_with "CompRest" => (with_unfolding_all first
    | (refine LCg.CompRest.succ ?_; intro kwv kwI kwoI kwC kwoC kwD kwm kwh kwtk kwE kwhv kwhC kwhx kwF kwN kwoff kwne; (first | lcg_open kwhv | (obtain ⟨kwt9, kwhv9⟩ := kwhv; subst kwhv9)))
    | refine LCg.CompRest.zero ?_))
  (k_with "FinE" => ((unfold LCg.FinE); intro kwD kwh kwtk kwF kwN kwo1; (try simp only [List.nil_append, List.cons_append] at kwN); (try dsimp only)))
  (k_with "compareOp In str ref" => (k_here; (with_reducible show wpAny _ _ (compareOp CmpOp.In (Value.str _ _) (Value.ref _)) _ _ _); k_dflt (first
    | (refine in_topTup (b := true) (by k_asm) (by k_asm) (by k_is) (by (repeat constructor)) (by decide) ?_; k_whole)
    | (refine in_topTup (b := false) (by k_asm) (by k_asm) (by k_is) (by (repeat constructor)) (by decide) ?_; k_whole))))
  (k_with "k_enter" => ((fail_if_success k_inElt); (refine code_def (by k_asm) (by k_asm) (by k_asm) (by k_asm) (by k_asm) rfl rfl rfl (by k_is) (by k_is) (by k_room) (by (first | exact binds1 rfl | exact binds2 rfl | exact binds3 rfl | exact binds4 rfl | exact binds7 rfl)) (by exact locs rfl) ?_ rfl rfl rfl (by decide); k_whole; intro kwg kwL kwh kwFG kwF kwN kwB kwX kwT; (try dsimp only [List.reverse_cons, List.reverse_nil, List.nil_append, List.cons_append]); (try k_lift kwB); (try k_fold))))
  (k_with "compareOp Eq str str" => (k_here; refine eq_str_no (by assumption) ?_))
  (k_with "subscriptTail Name Constant ref int" => (k_here; (with_reducible show wpAny _ _ (subscriptTail _ _ (Value.ref _) (Value.int 0 _)) _ _ _); k_dflt (refine head_tup (by k_asm) (by k_mem) ?_ (by with_unfolding_all rfl); k_whole)))
  (k_with "call builtin:len" => (k_here; (with_reducible show wpAny _ _ (call (Value.builtin "len") [Value.ref _]) _ _ _); k_dflt (refine len_any (by k_asm) (by k_mem) (by (first | assumption | omega | (simp only [Array.size_push]; omega))) ?_); k_whole))
  (k_with "compareOp In str ref" => (k_here; (with_reducible show wpAny _ _ (compareOp CmpOp.In (Value.str _ _) (Value.ref _)) _ _ _); k_dflt (refine in_nil (by k_asm) (by k_mem) ?_)))
  intro hF
  unfold Spec
  k_fill
  intro dp un gd cn cs a ccd cl outer A₀ base h₀ L m s Q E mean mg mb rest B F X N dis T hk hdp hun hret
  clear hF
  try simp only [List.cons_append, List.nil_append] at N dis hret
  refine' enterR B F X N dis T hk ?room ?ho ?hcd ?bind ?loc ?_ ?hcell ?hco ?hgen ?hkk
  case room => first | exact room0 (by assumption) | omega
  case ho => k_dflt k_is
  case hcd => k_dflt k_is
  case bind => exact binds3 rfl
  case loc => exact locs rfl
  case hcell => decide
  case hco => exact rfl
  case hgen => exact rfl
  case hkk => exact rfl
  intro g L' h₁ F' N' B' X' T'
  clear B F X N T dis
  k_fold
  k_steps
  try dsimp only
  refine leaveR (by assumption) (by assumption) fun kF kN kA => ?_
  refine' hret _ _ _ _ ⟨_, _, rfl, ?fars, ?mp, rfl, rfl, rfl⟩ kF (news_sub2 kN ?sub) (apart_sub kA ?sub)
  case sub => (try simp only [List.cons_append, List.nil_append]); lcg_sub
  case mp => exact rfl
  case fars => repeat (first | exact fars_nil | refine fars_cons (by ((try simp only [List.cons_append, List.nil_append]); k_all)) ?_)
end

section
set_option maxHeartbeats 1500000
theorem assignC (w : World) (ho hd vd rl lg : Addr) (HT : HostT) (u3 : Tok) (rf rd : Addr) (RT : RefT) (k : Int) (x : Str) (ux : Tok) (ov : Obj) (kvs : List (Str × Value)) (its : Array Value) (j : Nat) (hz : its.size ≤ 100) (hes : ov.IsDictOf (PySem.strKind PySem.Challenge.rw_xm0958_01.row.prog w) kvs) (hkz : kvs.length ≤ 100) :
    Con w 579 [.ref ho, .ref rf, .str x ux] [(vd, ov), (lg, W.listOf its j)] [(ho, instObj 589 hd), (hd, hostD HT vd rl lg k u3), (rl, W.listOf #[] 0), (rf, instObj 208 rd), (rd, refD RT)] 10 80
      (fun (v : Value) (made chg' : List (Addr × Obj)) => ∃ (q : Addr) (t1 t2 : Tok) (o2 : Obj), v = .bool true ∧ made = [(q, (oGot t1 x t2))] ∧ chg' = [(vd, o2), (lg, W.listOf (its.push (.ref q)) (j + 1))] ∧ o2.IsDictOf (PySem.strKind PySem.Challenge.rw_xm0958_01.row.prog w) (stored kvs (Str.ofString "W") (.str x ux))) := by
  k_with_none
  (k_with "WhlIf" => ((first | (refine WhlIf.yes (by with_unfolding_all rfl) ?_) | (refine WhlIf.no (by with_unfolding_all rfl) ?_) | (refine WhlIf.yes (by decide) ?_) | (refine WhlIf.no (by decide) ?_)); (try k_fold)))
  (k_with "setAttr ref" => (k_here; k_dflt (refine set_dict_any (by k_asm) (by k_asm) (by k_asm) (by k_inst) (by exact rfl) (by k_is) (by k_is) (by k_is) (by k_is) (by k_get) (by (intro kH kt; k_put)) (by (intro kH kt; k_upd)) (by (intro kH kt; exact Nat.le_of_ble_eq_true rfl)) ?_; k_whole); intro kwh kwH kwt kwF kwN; (try k_sweep)))
  (k_with "k_allIn" => (first | exact List.forall_mem_nil _ | (refine List.forall_mem_cons.mpr ⟨by (first | exact nth_mem 0 rfl | exact nth_mem 1 rfl | exact nth_mem 2 rfl | exact nth_mem 3 rfl | exact nth_mem 4 rfl | exact nth_mem 5 rfl | exact nth_mem 6 rfl | exact nth_mem 7 rfl | exact nth_mem 8 rfl | exact nth_mem 9 rfl | exact nth_mem 10 rfl | exact nth_mem 11 rfl | exact nth_mem 12 rfl | exact nth_mem 13 rfl | exact nth_mem 14 rfl | exact nth_mem 15 rfl | exact nth_mem 16 rfl | exact nth_mem 17 rfl | exact nth_mem 18 rfl | exact nth_mem 19 rfl | exact nth_mem 20 rfl | exact nth_mem 21 rfl | exact nth_mem 22 rfl | exact nth_mem 23 rfl | exact nth_mem 24 rfl | exact nth_mem 25 rfl | k_memK), ?_⟩; k_allIn)))
  (k_with "lcg_sub" => (first | exact List.forall_mem_nil _ | (refine List.forall_mem_cons.mpr ⟨by (first | exact nth_mem 0 rfl | exact nth_mem 1 rfl | exact nth_mem 2 rfl | exact nth_mem 3 rfl | exact nth_mem 4 rfl | exact nth_mem 5 rfl | exact nth_mem 6 rfl | exact nth_mem 7 rfl | exact nth_mem 8 rfl | exact nth_mem 9 rfl | exact nth_mem 10 rfl | exact nth_mem 11 rfl | exact nth_mem 12 rfl | exact nth_mem 13 rfl | exact nth_mem 14 rfl | exact nth_mem 15 rfl | exact nth_mem 16 rfl | exact nth_mem 17 rfl | exact nth_mem 18 rfl | exact nth_mem 19 rfl | exact nth_mem 20 rfl | exact nth_mem 21 rfl | exact nth_mem 22 rfl | exact nth_mem 23 rfl | exact nth_mem 24 rfl | exact nth_mem 25 rfl | k_mem), ?_⟩; lcg_sub)))
  (k_with "k_ne" => (refine neN ?_; (try dsimp only); first
    | exact allLt_ne (by with_reducible assumption) (by k_mem)
    | exact allLt_ne' (by with_reducible assumption) (by k_mem)
    | exact far_ne (by with_reducible assumption) (by k_mem)
    | exact far_ne' (by with_reducible assumption) (by k_mem)
    | exact allLt_ne2 (by with_reducible assumption) (by with_reducible assumption) (by k_mem)
    | exact allLt_ne2' (by with_reducible assumption) (by with_reducible assumption) (by k_mem)
    | exact Nat.ne_of_lt (by assumption)
    | exact Nat.ne_of_gt (by assumption)
    | assumption
    | (refine Ne.symm ?_; assumption)
    | exact off1_ne (by assumption) (by k_mem)
    | (refine Ne.symm ?_; exact off1_ne (by assumption) (by k_mem))
    | exact apart_ne (by assumption) (by k_mem) (by k_mem)
    | exact apart_ne' (by assumption) (by k_mem) (by k_mem)
    | omega))
  (k_with "lcg_off" => first | exact True.intro | assumption | (refine And.intro ⟨by k_ne, by k_ne, by k_ne⟩ ?_; lcg_off))
  (k_with "k_room" => ((try simp only [depth_under_make, depth_under_kw, depth_in1, depth_deeper, depth_caller]); (try dsimp only [ktrTop]); first | exact Nat.le_of_ble_eq_true rfl | exact room1 (by assumption) rfl | exact room2 (by assumption) rfl | exact room3 (by assumption) rfl | exact room4 (by assumption) rfl | omega))
  (k_with "k_units" => ((try simp only [units_in1, units_deeper, Around.mark_units, units_caller]); (try dsimp only [ktrTop]); first | exact Nat.le_of_ble_eq_true rfl | exact room1 (by assumption) rfl | exact room2 (by assumption) rfl | exact room3 (by assumption) rfl | exact room4 (by assumption) rfl | omega))
  (k_with "eval ListComp" => (k_here; k_dflt (refine LCg.ListComp_U (F₀ := by k_asm) (by with_unfolding_all rfl) (by decide) (by rfl) (by decide) (by rfl) ?_)))
  (k_with "CompRest" => (with_unfolding_all first
    | (refine LCg.CompRest.succ ?_; intro kwv kwI kwoI kwC kwoC kwD kwm kwh kwtk kwE kwhv kwhC kwhx kwF kwN kwoff kwne; (first | lcg_open kwhv | (obtain ⟨kwt9, kwhv9⟩ := kwhv; subst kwhv9)))
    | refine LCg.CompRest.zero ?_))
  (k_with "FinE" => ((unfold LCg.FinE); intro kwD kwh kwtk kwF kwN kwo1; (try simp only [List.nil_append, List.cons_append] at kwN); (try dsimp only)))
  (k_with "compareOp In str ref" => (k_here; (with_reducible show wpAny _ _ (compareOp CmpOp.In (Value.str _ _) (Value.ref _)) _ _ _); k_dflt (first
    | (refine in_topTup (b := true) (by k_asm) (by k_asm) (by k_is) (by (repeat constructor)) (by decide) ?_; k_whole)
    | (refine in_topTup (b := false) (by k_asm) (by k_asm) (by k_is) (by (repeat constructor)) (by decide) ?_; k_whole))))
  (k_with "k_enter" => ((fail_if_success k_inElt); (refine code_def (by k_asm) (by k_asm) (by k_asm) (by k_asm) (by k_asm) rfl rfl rfl (by k_is) (by k_is) (by k_room) (by (first | exact binds1 rfl | exact binds2 rfl | exact binds3 rfl | exact binds4 rfl | exact binds7 rfl)) (by exact locs rfl) ?_ rfl rfl rfl (by decide); k_whole; intro kwg kwL kwh kwFG kwF kwN kwB kwX kwT; (try dsimp only [List.reverse_cons, List.reverse_nil, List.nil_append, List.cons_append]); (try k_lift kwB); (try k_fold))))
  (k_with "compareOp Eq str str" => (k_here; refine eq_str_no (by assumption) ?_))
  (k_with "subscriptTail Name Constant ref int" => (k_here; (with_reducible show wpAny _ _ (subscriptTail _ _ (Value.ref _) (Value.int 0 _)) _ _ _); k_dflt (refine head_tup (by k_asm) (by k_mem) ?_ (by with_unfolding_all rfl); k_whole)))
  (k_with "call builtin:len" => (k_here; (with_reducible show wpAny _ _ (call (Value.builtin "len") [Value.ref _]) _ _ _); k_dflt (refine len_any (by k_asm) (by k_mem) (by (first | assumption | omega | (simp only [Array.size_push]; omega))) ?_); k_whole))
  (k_with "compareOp In str ref" => (k_here; (with_reducible show wpAny _ _ (compareOp CmpOp.In (Value.str _ _) (Value.ref _)) _ _ _); k_dflt (refine in_nil (by k_asm) (by k_mem) ?_)))
  (k_with "setItem ref str" => (k_here; k_dflt (refine kda_set (knd := PySem.strKind _ _) (by k_asm) (by k_asm) (by k_updF) (by k_asm) (strKind_is _ _ _ _) (by (first | assumption | (unfold sizeLine; omega))) ?_); intro kwh kwo kwF kwN kwhd; (try dsimp only at kwN); (try k_sweep)))
  intro hF
  unfold Spec
  k_fill
  intro dp un gd cn cs a ccd cl outer A₀ base h₀ L m s Q E mean mg mb rest B F X N dis T hk hdp hun hret
  dsimp only [Fars, List.cons_append, List.nil_append] at hF
  obtain ⟨hF0, hF1, -⟩ := hF
  try simp only [List.cons_append, List.nil_append] at N dis hret
  refine' enterR B F X N dis T hk ?room ?ho ?hcd ?bind ?loc ?_ ?hcell ?hco ?hgen ?hkk
  case room => first | exact room0 (by assumption) | omega
  case ho => k_dflt k_is
  case hcd => k_dflt k_is
  case bind => exact binds3 rfl
  case loc => exact locs rfl
  case hcell => decide
  case hco => exact rfl
  case hgen => exact rfl
  case hkk => exact rfl
  intro g L' h₁ F' N' B' X' T'
  clear B F X N T dis
  k_fold
  k_steps
  try dsimp only
  refine leaveR (by assumption) (by assumption) fun kF kN kA => ?_
  refine' hret _ _ _ _ ⟨_, _, rfl, ?fars, ?mp, ?e_q, ?e_t1, ?e_t2, ?e_o2, rfl, rfl, rfl, ?x0⟩ kF (news_sub2 kN ?sub) (apart_sub kA ?sub)
  case sub => (try simp only [List.cons_append, List.nil_append]); lcg_sub
  case mp => exact rfl
  case fars => repeat (first | exact fars_nil | refine fars_cons (by ((try simp only [List.cons_append, List.nil_append]); k_all)) ?_)
  case x0 => first | assumption | omega | decide
end

section
set_option maxHeartbeats 1500000
theorem doneCh (w : World) (mt od ho : Addr) (wy wd ol : Addr) (T : WayT) (y1 y2 : Tok) (md hs : Addr) (sub : Str) (MT : MatchT) (c1 c2 c3 : Tok) (ring : Str) (pc at9 : Int) (mks : Value) (h0 : 0 ≤ pc) (h1 : pc < 100) (g0 : 0 ≤ at9) (g1 : at9 ≤ 20) (g3 : ring.length ≤ 20) (g4 : sub.length ≤ 20) :
    Con w 488 [.ref mt, .ref od, .ref wy] [(wd, wayD T ol pc y1 at9 y2 mks)] [(od, (oChars c1 c2 ring c3)), (wy, instObj 449 wd), (mt, instObj 526 md), (md, matchD MT sub ho hs)] 20 160
      (fun (v : Value) (made chg' : List (Addr × Obj)) => made = [] ∧ ∃ (t1 t2 : Tok), ((PySem.Txt.slice sub (some at9) (some (at9 + ring.length)) == ring) = true → v = .bool true ∧ chg' = [(wd, wayD T ol (pc + 1) t1 (at9 + ring.length) t2 mks)]) ∧ ((PySem.Txt.slice sub (some at9) (some (at9 + ring.length)) == ring) = false → v = .bool false ∧ chg' = [(wd, wayD T ol pc y1 at9 y2 mks)])) := by
  k_with_none
  (k_with "WhlIf" => ((first | (refine WhlIf.yes (by with_unfolding_all rfl) ?_) | (refine WhlIf.no (by with_unfolding_all rfl) ?_) | (refine WhlIf.yes (by decide) ?_) | (refine WhlIf.no (by decide) ?_)); (try k_fold)))
  (k_with "setAttr ref" => (k_here; k_dflt (refine set_dict_any (by k_asm) (by k_asm) (by k_asm) (by k_inst) (by exact rfl) (by k_is) (by k_is) (by k_is) (by k_is) (by k_get) (by (intro kH kt; k_put)) (by (intro kH kt; k_upd)) (by (intro kH kt; exact Nat.le_of_ble_eq_true rfl)) ?_; k_whole); intro kwh kwH kwt kwF kwN; (try k_sweep)))
  (k_with "k_allIn" => (first | exact List.forall_mem_nil _ | (refine List.forall_mem_cons.mpr ⟨by (first | exact nth_mem 0 rfl | exact nth_mem 1 rfl | exact nth_mem 2 rfl | exact nth_mem 3 rfl | exact nth_mem 4 rfl | exact nth_mem 5 rfl | exact nth_mem 6 rfl | exact nth_mem 7 rfl | exact nth_mem 8 rfl | exact nth_mem 9 rfl | exact nth_mem 10 rfl | exact nth_mem 11 rfl | exact nth_mem 12 rfl | exact nth_mem 13 rfl | exact nth_mem 14 rfl | exact nth_mem 15 rfl | exact nth_mem 16 rfl | exact nth_mem 17 rfl | exact nth_mem 18 rfl | exact nth_mem 19 rfl | exact nth_mem 20 rfl | exact nth_mem 21 rfl | exact nth_mem 22 rfl | exact nth_mem 23 rfl | exact nth_mem 24 rfl | exact nth_mem 25 rfl | k_memK), ?_⟩; k_allIn)))
  (k_with "lcg_sub" => (first | exact List.forall_mem_nil _ | (refine List.forall_mem_cons.mpr ⟨by (first | exact nth_mem 0 rfl | exact nth_mem 1 rfl | exact nth_mem 2 rfl | exact nth_mem 3 rfl | exact nth_mem 4 rfl | exact nth_mem 5 rfl | exact nth_mem 6 rfl | exact nth_mem 7 rfl | exact nth_mem 8 rfl | exact nth_mem 9 rfl | exact nth_mem 10 rfl | exact nth_mem 11 rfl | exact nth_mem 12 rfl | exact nth_mem 13 rfl | exact nth_mem 14 rfl | exact nth_mem 15 rfl | exact nth_mem 16 rfl | exact nth_mem 17 rfl | exact nth_mem 18 rfl | exact nth_mem 19 rfl | exact nth_mem 20 rfl | exact nth_mem 21 rfl | exact nth_mem 22 rfl | exact nth_mem 23 rfl | exact nth_mem 24 rfl | exact nth_mem 25 rfl | k_mem), ?_⟩; lcg_sub)))
  (k_with "k_ne" => (refine neN ?_; (try dsimp only); first
    | exact allLt_ne (by with_reducible assumption) (by k_mem)
    | exact allLt_ne' (by with_reducible assumption) (by k_mem)
    | exact far_ne (by with_reducible assumption) (by k_mem)
    | exact far_ne' (by with_reducible assumption) (by k_mem)
    | exact allLt_ne2 (by with_reducible assumption) (by with_reducible assumption) (by k_mem)
    | exact allLt_ne2' (by with_reducible assumption) (by with_reducible assumption) (by k_mem)
    | exact Nat.ne_of_lt (by assumption)
    | exact Nat.ne_of_gt (by assumption)
    | assumption
    | (refine Ne.symm ?_; assumption)
    | exact off1_ne (by assumption) (by k_mem)
    | (refine Ne.symm ?_; exact off1_ne (by assumption) (by k_mem))
    | exact apart_ne (by assumption) (by k_mem) (by k_mem)
    | exact apart_ne' (by assumption) (by k_mem) (by k_mem)
    | omega))
  (k_with "lcg_off" => first | exact True.intro | assumption | (refine And.intro ⟨by k_ne, by k_ne, by k_ne⟩ ?_; lcg_off))
  (k_with "k_room" => ((try simp only [depth_under_make, depth_under_kw, depth_in1, depth_deeper, depth_caller]); (try dsimp only [ktrTop]); first | exact Nat.le_of_ble_eq_true rfl | exact room1 (by assumption) rfl | exact room2 (by assumption) rfl | exact room3 (by assumption) rfl | exact room4 (by assumption) rfl | omega))
  (k_with "k_units" => ((try simp only [units_in1, units_deeper, Around.mark_units, units_caller]); (try dsimp only [ktrTop]); first | exact Nat.le_of_ble_eq_true rfl | exact room1 (by assumption) rfl | exact room2 (by assumption) rfl | exact room3 (by assumption) rfl | exact room4 (by assumption) rfl | omega))
  (k_with "eval ListComp" => (k_here; k_dflt (refine LCg.ListComp_U (F₀ := by k_asm) (by with_unfolding_all rfl) (by decide) (by rfl) (by decide) (by rfl) ?_)))
  (k_with "CompRest" => (with_unfolding_all first
    | (refine LCg.CompRest.succ ?_; intro kwv kwI kwoI kwC kwoC kwD kwm kwh kwtk kwE kwhv kwhC kwhx kwF kwN kwoff kwne; (first | lcg_open kwhv | (obtain ⟨kwt9, kwhv9⟩ := kwhv; subst kwhv9)))
    | refine LCg.CompRest.zero ?_))
  (k_with "FinE" => ((unfold LCg.FinE); intro kwD kwh kwtk kwF kwN kwo1; (try simp only [List.nil_append, List.cons_append] at kwN); (try dsimp only)))
  (k_with "compareOp In str ref" => (k_here; (with_reducible show wpAny _ _ (compareOp CmpOp.In (Value.str _ _) (Value.ref _)) _ _ _); k_dflt (first
    | (refine in_topTup (b := true) (by k_asm) (by k_asm) (by k_is) (by (repeat constructor)) (by decide) ?_; k_whole)
    | (refine in_topTup (b := false) (by k_asm) (by k_asm) (by k_is) (by (repeat constructor)) (by decide) ?_; k_whole))))
  (k_with "k_enter" => ((fail_if_success k_inElt); (refine code_def (by k_asm) (by k_asm) (by k_asm) (by k_asm) (by k_asm) rfl rfl rfl (by k_is) (by k_is) (by k_room) (by (first | exact binds1 rfl | exact binds2 rfl | exact binds3 rfl | exact binds4 rfl | exact binds7 rfl)) (by exact locs rfl) ?_ rfl rfl rfl (by decide); k_whole; intro kwg kwL kwh kwFG kwF kwN kwB kwX kwT; (try dsimp only [List.reverse_cons, List.reverse_nil, List.nil_append, List.cons_append]); (try k_lift kwB); (try k_fold))))
  (k_with "compareOp Eq str str" => (k_here; refine eq_str_no (by assumption) ?_))
  (k_with "subscriptTail Name Constant ref int" => (k_here; (with_reducible show wpAny _ _ (subscriptTail _ _ (Value.ref _) (Value.int 0 _)) _ _ _); k_dflt (refine head_tup (by k_asm) (by k_mem) ?_ (by with_unfolding_all rfl); k_whole)))
  (k_with "call builtin:len" => (k_here; (with_reducible show wpAny _ _ (call (Value.builtin "len") [Value.ref _]) _ _ _); k_dflt (refine len_any (by k_asm) (by k_mem) (by (first | assumption | omega | (simp only [Array.size_push]; omega))) ?_); k_whole))
  (k_with "compareOp In str ref" => (k_here; (with_reducible show wpAny _ _ (compareOp CmpOp.In (Value.str _ _) (Value.ref _)) _ _ _); k_dflt (refine in_nil (by k_asm) (by k_mem) ?_)))
  (k_with "k_mem" => first | exact List.Mem.head _ | (refine List.Mem.tail _ ?_; k_mem) | (refine mem_id ?_; with_reducible assumption) | (refine List.mem_append_left _ ?_; with_reducible assumption) | fail)
  (k_with "k_memK" => first | exact List.Mem.head _ | (refine List.Mem.tail _ ?_; k_memK) | (refine mem_id ?_; with_reducible assumption) | (refine List.mem_append_left _ ?_; with_reducible assumption) | fail)
  (k_with "k_all" => first | exact List.forall_mem_nil _ | exact Far.all (by with_reducible assumption) | exact far_part (by with_reducible assumption) (by intro p hp; (repeat (first | exact hp | refine List.mem_cons_of_mem _ ?_)); (first | done | fail)) | exact young_sub (by with_reducible assumption) (by intro p hp; (repeat (first | exact hp | refine List.mem_cons_of_mem _ ?_)); (first | done | fail)) | exact young_sub2 (by with_reducible assumption) (by with_reducible assumption) (by intro p hp; (repeat (first | exact hp | refine List.mem_cons_of_mem _ ?_)); (first | done | fail)) | (refine List.forall_mem_cons.mpr ⟨by k_ne, ?_⟩; k_all))
  (k_with "k_allIn" => (first | exact List.forall_mem_nil _ | (refine List.forall_mem_cons.mpr ⟨by k_memK, ?_⟩; k_allIn)))
  (k_with "lcg_sub" => (first | exact List.forall_mem_nil _ | (refine List.forall_mem_cons.mpr ⟨by k_mem, ?_⟩; lcg_sub) | (intro p hp; (repeat (first | exact hp | refine List.mem_cons_of_mem _ ?_)); (first | done | fail))))
  intro hF
  unfold Spec
  k_fill
  intro dp un gd cn cs a ccd cl outer A₀ base h₀ L m s Q E mean mg mb rest B F X N dis T hk hdp hun hret
  dsimp only [Fars, List.cons_append, List.nil_append] at hF
  obtain ⟨hF0, -⟩ := hF
  try simp only [List.cons_append, List.nil_append] at N dis hret
  refine' enterR B F X N dis T hk ?room ?ho ?hcd ?bind ?loc ?_ ?hcell ?hco ?hgen ?hkk
  case room => first | exact room0 (by assumption) | omega
  case ho => k_dflt k_is
  case hcd => k_dflt k_is
  case bind => exact binds3 rfl
  case loc => exact locs rfl
  case hcell => decide
  case hco => exact rfl
  case hgen => exact rfl
  case hkk => exact rfl
  intro g L' h₁ F' N' B' X' T'
  clear B F X N T dis
  k_fold
  obtain ⟨nx, hnx⟩ : ∃ nx : Led, nx = [(od, (oChars c1 c2 ring c3)), (wy, instObj 449 wd), (mt, instObj 526 md), (md, matchD MT sub ho hs)] := ⟨_, rfl⟩
  rw [← hnx] at hF0 N'
  have hall : ∀ p ∈ [(od, (oChars c1 c2 ring c3)), (wy, instObj 449 wd), (mt, instObj 526 md), (md, matchD MT sub ho hs)], p ∈ nx := fun p hp => hnx ▸ hp
  (repeat (have m9 := (List.forall_mem_cons.mp hall).1; replace hall := (List.forall_mem_cons.mp hall).2))
  clear hall
  k_steps
  ·
    refine leaveR (by assumption) (by assumption) fun kF kN kA => ?_
    refine' hret _ _ _ _ ⟨_, _, rfl, ?fars, ?mp, rfl, ?t1, ?t2, (fun _ => ⟨rfl, rfl⟩), (fun hb => by rename _ = true => ha; rw [ha] at hb; cases hb)⟩ kF (news_sub2 kN ?sub) (apart_sub kA ?sub)
    case sub => (try simp only [List.cons_append, List.nil_append]); lcg_sub
    case mp => exact rfl
    case fars => exact fars_nil
  ·
    refine leaveR (by assumption) (by assumption) fun kF kN kA => ?_
    refine' hret _ _ _ _ ⟨_, _, rfl, ?fars2, ?mp2, rfl, ?s1, ?s2, (fun hb => by rename _ = false => ha; rw [ha] at hb; cases hb), (fun _ => ⟨rfl, rfl⟩)⟩ kF (news_sub2 kN ?sub3) (apart_sub kA ?sub4)
    case s1 => exact 0
    case s2 => exact 0
    case sub3 => (try simp only [List.cons_append, List.nil_append]); lcg_sub
    case sub4 => (try simp only [List.cons_append, List.nil_append]); lcg_sub
    case mp2 => exact rfl
    case fars2 => exact fars_nil
theorem doneChOk (w : World) (mt od ho : Addr) (wy wd ol : Addr) (T : WayT) (y1 y2 : Tok) (md hs : Addr) (sub : Str) (MT : MatchT) (c1 c2 c3 : Tok) (ring : Str) (pc at9 : Int) (mks : Value) (h0 : 0 ≤ pc) (h1 : pc < 100) (g0 : 0 ≤ at9) (g1 : at9 ≤ 20) (g3 : ring.length ≤ 20) (g4 : sub.length ≤ 20) (hsl : (PySem.Txt.slice sub (some at9) (some (at9 + ring.length)) == ring) = true) :
    Con w 488 [.ref mt, .ref od, .ref wy] [(wd, wayD T ol pc y1 at9 y2 mks)] [(od, (oChars c1 c2 ring c3)), (wy, instObj 449 wd), (mt, instObj 526 md), (md, matchD MT sub ho hs)] 20 160
      (fun (v : Value) (made chg' : List (Addr × Obj)) => ∃ (t1 t2 : Tok), v = .bool true ∧ made = [] ∧ chg' = [(wd, wayD T ol (pc + 1) t1 (at9 + ring.length) t2 mks)]) := (doneCh w mt od ho wy wd ol T y1 y2 md hs sub MT c1 c2 c3 ring pc at9 mks h0 h1 g0 g1 g3 g4).mono fun v made chg' h => by
  obtain ⟨h1, t1, t2, h2, _⟩ := h
  exact ⟨t1, t2, (h2 hsl).1, h1, (h2 hsl).2⟩
theorem doneChNo (w : World) (mt od ho : Addr) (wy wd ol : Addr) (T : WayT) (y1 y2 : Tok) (md hs : Addr) (sub : Str) (MT : MatchT) (c1 c2 c3 : Tok) (ring : Str) (pc at9 : Int) (mks : Value) (h0 : 0 ≤ pc) (h1 : pc < 100) (g0 : 0 ≤ at9) (g1 : at9 ≤ 20) (g3 : ring.length ≤ 20) (g4 : sub.length ≤ 20) (hsl : (PySem.Txt.slice sub (some at9) (some (at9 + ring.length)) == ring) = false) :
    Con w 488 [.ref mt, .ref od, .ref wy] [(wd, wayD T ol pc y1 at9 y2 mks)] [(od, (oChars c1 c2 ring c3)), (wy, instObj 449 wd), (mt, instObj 526 md), (md, matchD MT sub ho hs)] 20 160
      (fun (v : Value) (made chg' : List (Addr × Obj)) => v = .bool false ∧ made = [] ∧ chg' = [(wd, wayD T ol pc y1 at9 y2 mks)]) := (doneCh w mt od ho wy wd ol T y1 y2 md hs sub MT c1 c2 c3 ring pc at9 mks h0 h1 g0 g1 g3 g4).mono fun v made chg' h => by
  obtain ⟨h1, t1, t2, _, h2⟩ := h
  exact ⟨(h2 hsl).1, h1, (h2 hsl).2⟩
end

section
set_option maxHeartbeats 1500000
theorem doneSet (w : World) (mt od mk : Addr) (ho hd vd rl lg : Addr) (HT : HostT) (u3 : Tok) (wy wd ol : Addr) (T : WayT) (y1 y2 : Tok) (md hs : Addr) (sub : Str) (MT : MatchT) (rf rd : Addr) (RT : RefT) (c1 c2 : Tok) (pc at9 b9 k : Int) (ov : Obj) (kvs : List (Str × Value)) (its : Array Value) (j : Nat) (h0 : 0 ≤ pc) (h1 : pc < 100) (g0 : 0 ≤ b9) (g1 : b9 ≤ at9) (g2 : at9 ≤ (sub.length : Int)) (g4 : sub.length ≤ 20) (hz : its.size ≤ 100) (hes : ov.IsDictOf (PySem.strKind PySem.Challenge.rw_xm0958_01.row.prog w) kvs) (hkz : kvs.length ≤ 100) :
    Con w 488 [.ref mt, .ref od, .ref wy] [(wd, wayD T ol pc y1 at9 y2 (.ref mk)), (vd, ov), (lg, W.listOf its j)] [(od, (oSet c1 rf)), (wy, instObj 449 wd), (mk, tup [.none, .int b9 c2]), (mt, instObj 526 md), (md, matchD MT sub ho hs), (ho, instObj 589 hd), (hd, hostD HT vd rl lg k u3), (rl, W.listOf #[] 0), (rf, instObj 208 rd), (rd, refD RT)] 30 200
      (fun (v : Value) (made chg' : List (Addr × Obj)) => ∃ (q : Addr) (t1 t2 t3 t4 t5 : Tok) (o2 : Obj), v = .bool true ∧ made = [(q, tup [.str (Str.ofString "W") t1, .str (PySem.Txt.slice sub (some b9) (some at9)) t2])] ∧ chg' = [(wd, wayD T ol (pc + 1) t4 at9 t5 .none), (vd, o2), (lg, W.listOf (its.push (.ref q)) (j + 1))] ∧ o2.IsDictOf (PySem.strKind PySem.Challenge.rw_xm0958_01.row.prog w) (stored kvs (Str.ofString "W") (.str (PySem.Txt.slice sub (some b9) (some at9)) t3))) := by
  k_with_none
  (k_with "WhlIf" => ((first | (refine WhlIf.yes (by with_unfolding_all rfl) ?_) | (refine WhlIf.no (by with_unfolding_all rfl) ?_) | (refine WhlIf.yes (by decide) ?_) | (refine WhlIf.no (by decide) ?_)); (try k_fold)))
  (k_with "setAttr ref" => (k_here; k_dflt (refine set_dict_any (by k_asm) (by k_asm) (by k_asm) (by k_inst) (by exact rfl) (by k_is) (by k_is) (by k_is) (by k_is) (by k_get) (by (intro kH kt; k_put)) (by (intro kH kt; k_upd)) (by (intro kH kt; exact Nat.le_of_ble_eq_true rfl)) ?_; k_whole); intro kwh kwH kwt kwF kwN; (try k_sweep)))
  (k_with "k_allIn" => (first | exact List.forall_mem_nil _ | (refine List.forall_mem_cons.mpr ⟨by (first | exact nth_mem 0 rfl | exact nth_mem 1 rfl | exact nth_mem 2 rfl | exact nth_mem 3 rfl | exact nth_mem 4 rfl | exact nth_mem 5 rfl | exact nth_mem 6 rfl | exact nth_mem 7 rfl | exact nth_mem 8 rfl | exact nth_mem 9 rfl | exact nth_mem 10 rfl | exact nth_mem 11 rfl | exact nth_mem 12 rfl | exact nth_mem 13 rfl | exact nth_mem 14 rfl | exact nth_mem 15 rfl | exact nth_mem 16 rfl | exact nth_mem 17 rfl | exact nth_mem 18 rfl | exact nth_mem 19 rfl | exact nth_mem 20 rfl | exact nth_mem 21 rfl | exact nth_mem 22 rfl | exact nth_mem 23 rfl | exact nth_mem 24 rfl | exact nth_mem 25 rfl | k_memK), ?_⟩; k_allIn)))
  (k_with "lcg_sub" => (first | exact List.forall_mem_nil _ | (refine List.forall_mem_cons.mpr ⟨by (first | exact nth_mem 0 rfl | exact nth_mem 1 rfl | exact nth_mem 2 rfl | exact nth_mem 3 rfl | exact nth_mem 4 rfl | exact nth_mem 5 rfl | exact nth_mem 6 rfl | exact nth_mem 7 rfl | exact nth_mem 8 rfl | exact nth_mem 9 rfl | exact nth_mem 10 rfl | exact nth_mem 11 rfl | exact nth_mem 12 rfl | exact nth_mem 13 rfl | exact nth_mem 14 rfl | exact nth_mem 15 rfl | exact nth_mem 16 rfl | exact nth_mem 17 rfl | exact nth_mem 18 rfl | exact nth_mem 19 rfl | exact nth_mem 20 rfl | exact nth_mem 21 rfl | exact nth_mem 22 rfl | exact nth_mem 23 rfl | exact nth_mem 24 rfl | exact nth_mem 25 rfl | k_mem), ?_⟩; lcg_sub)))
  (k_with "k_ne" => (refine neN ?_; (try dsimp only); first
    | exact allLt_ne (by with_reducible assumption) (by k_mem)
    | exact allLt_ne' (by with_reducible assumption) (by k_mem)
    | exact far_ne (by with_reducible assumption) (by k_mem)
    | exact far_ne' (by with_reducible assumption) (by k_mem)
    | exact allLt_ne2 (by with_reducible assumption) (by with_reducible assumption) (by k_mem)
    | exact allLt_ne2' (by with_reducible assumption) (by with_reducible assumption) (by k_mem)
    | exact Nat.ne_of_lt (by assumption)
    | exact Nat.ne_of_gt (by assumption)
    | assumption
    | (refine Ne.symm ?_; assumption)
    | exact off1_ne (by assumption) (by k_mem)
    | (refine Ne.symm ?_; exact off1_ne (by assumption) (by k_mem))
    | exact apart_ne (by assumption) (by k_mem) (by k_mem)
    | exact apart_ne' (by assumption) (by k_mem) (by k_mem)
    | omega))
  (k_with "lcg_off" => first | exact True.intro | assumption | (refine And.intro ⟨by k_ne, by k_ne, by k_ne⟩ ?_; lcg_off))
  (k_with "k_room" => ((try simp only [depth_under_make, depth_under_kw, depth_in1, depth_deeper, depth_caller]); (try dsimp only [ktrTop]); first | exact Nat.le_of_ble_eq_true rfl | exact room1 (by assumption) rfl | exact room2 (by assumption) rfl | exact room3 (by assumption) rfl | exact room4 (by assumption) rfl | omega))
  (k_with "k_units" => ((try simp only [units_in1, units_deeper, Around.mark_units, units_caller]); (try dsimp only [ktrTop]); first | exact Nat.le_of_ble_eq_true rfl | exact room1 (by assumption) rfl | exact room2 (by assumption) rfl | exact room3 (by assumption) rfl | exact room4 (by assumption) rfl | omega))
  (k_with "eval ListComp" => (k_here; k_dflt (refine LCg.ListComp_U (F₀ := by k_asm) (by with_unfolding_all rfl) (by decide) (by rfl) (by decide) (by rfl) ?_)))
  (k_with "CompRest" => (with_unfolding_all first
    | (refine LCg.CompRest.succ ?_; intro kwv kwI kwoI kwC kwoC kwD kwm kwh kwtk kwE kwhv kwhC kwhx kwF kwN kwoff kwne; (first | lcg_open kwhv | (obtain ⟨kwt9, kwhv9⟩ := kwhv; subst kwhv9)))
    | refine LCg.CompRest.zero ?_))
  (k_with "FinE" => ((unfold LCg.FinE); intro kwD kwh kwtk kwF kwN kwo1; (try simp only [List.nil_append, List.cons_append] at kwN); (try dsimp only)))
  (k_with "compareOp In str ref" => (k_here; (with_reducible show wpAny _ _ (compareOp CmpOp.In (Value.str _ _) (Value.ref _)) _ _ _); k_dflt (first
    | (refine in_topTup (b := true) (by k_asm) (by k_asm) (by k_is) (by (repeat constructor)) (by decide) ?_; k_whole)
    | (refine in_topTup (b := false) (by k_asm) (by k_asm) (by k_is) (by (repeat constructor)) (by decide) ?_; k_whole))))
  (k_with "k_enter" => ((fail_if_success k_inElt); (refine code_def (by k_asm) (by k_asm) (by k_asm) (by k_asm) (by k_asm) rfl rfl rfl (by k_is) (by k_is) (by k_room) (by (first | exact binds1 rfl | exact binds2 rfl | exact binds3 rfl | exact binds4 rfl | exact binds7 rfl)) (by exact locs rfl) ?_ rfl rfl rfl (by decide); k_whole; intro kwg kwL kwh kwFG kwF kwN kwB kwX kwT; (try dsimp only [List.reverse_cons, List.reverse_nil, List.nil_append, List.cons_append]); (try k_lift kwB); (try k_fold))))
  (k_with "compareOp Eq str str" => (k_here; refine eq_str_no (by assumption) ?_))
  (k_with "subscriptTail Name Constant ref int" => (k_here; (with_reducible show wpAny _ _ (subscriptTail _ _ (Value.ref _) (Value.int 0 _)) _ _ _); k_dflt (refine head_tup (by k_asm) (by k_mem) ?_ (by with_unfolding_all rfl); k_whole)))
  (k_with "call builtin:len" => (k_here; (with_reducible show wpAny _ _ (call (Value.builtin "len") [Value.ref _]) _ _ _); k_dflt (refine len_any (by k_asm) (by k_mem) (by (first | assumption | omega | (simp only [Array.size_push]; omega))) ?_); k_whole))
  (k_with "compareOp In str ref" => (k_here; (with_reducible show wpAny _ _ (compareOp CmpOp.In (Value.str _ _) (Value.ref _)) _ _ _); k_dflt (refine in_nil (by k_asm) (by k_mem) ?_)))
  (k_with "call ref" => (k_here; (with_reducible show wpAny _ _ (call (Value.ref 579) [Value.ref _, Value.ref _, Value.str _ _]) _ _ _); k_dflt (refine Con.use2 (by k_asm) (by k_asm) (by k_allIn) (by ((repeat (first | exact Take.nil | (apply Take.cons; focus ((repeat (first | exact Rem.head | apply Rem.tail)); done)))); done)) (by ((repeat (first | exact fars_nil | refine fars_cons (by ((try simp only [List.cons_append, List.nil_append]); k_all)) ?_)); done)) (by ((repeat (first | exact fars_nil | refine fars_cons (by ((try simp only [List.cons_append, List.nil_append]); k_all)) ?_)); done)) (by k_asm) (by k_asm) (by k_asm) rfl (by k_room) (by k_units) (assignC _ _ _ _ _ _ _ _ _ _ _ _ _ _ _ _ _ _  (by (first | assumption | (simp only [Array.size_push]; omega))) (by (first | assumption | decide | omega)) (by (first | assumption | decide | omega))) ?_); rintro v9 made9 chg9 h9 tk9 ⟨q9, t19, t29, o29, e9, f9, g9, x09⟩ F9 N9 A9; subst e9; subst f9; subst g9; (try simp only [List.cons_append, List.nil_append] at N9); (try dsimp only [Fars, List.cons_append, List.nil_append] at A9); obtain ⟨A09, -⟩ := A9; (try dsimp only); (try k_sweep)))
  (k_with "k_mem" => first | exact List.Mem.head _ | (refine List.Mem.tail _ ?_; k_mem) | (refine mem_id ?_; with_reducible assumption) | (refine List.mem_append_left _ ?_; with_reducible assumption) | fail)
  (k_with "k_memK" => first | exact List.Mem.head _ | (refine List.Mem.tail _ ?_; k_memK) | (refine mem_id ?_; with_reducible assumption) | (refine List.mem_append_left _ ?_; with_reducible assumption) | fail)
  (k_with "k_all" => first | exact List.forall_mem_nil _ | exact Far.all (by with_reducible assumption) | exact far_part (by with_reducible assumption) (by intro p hp; (repeat (first | exact hp | refine List.mem_cons_of_mem _ ?_)); (first | done | fail)) | exact young_sub (by with_reducible assumption) (by intro p hp; (repeat (first | exact hp | refine List.mem_cons_of_mem _ ?_)); (first | done | fail)) | exact young_sub2 (by with_reducible assumption) (by with_reducible assumption) (by intro p hp; (repeat (first | exact hp | refine List.mem_cons_of_mem _ ?_)); (first | done | fail)) | (refine List.forall_mem_cons.mpr ⟨by k_ne, ?_⟩; k_all))
  (k_with "k_allIn" => (first | exact List.forall_mem_nil _ | (refine List.forall_mem_cons.mpr ⟨by k_memK, ?_⟩; k_allIn)))
  (k_with "lcg_sub" => (first | exact List.forall_mem_nil _ | (refine List.forall_mem_cons.mpr ⟨by k_mem, ?_⟩; lcg_sub) | (intro p hp; (repeat (first | exact hp | refine List.mem_cons_of_mem _ ?_)); (first | done | fail))))
  intro hF
  unfold Spec
  k_fill
  intro dp un gd cn cs a ccd cl outer A₀ base h₀ L m s Q E mean mg mb rest B F X N dis T hk hdp hun hret
  dsimp only [Fars, List.cons_append, List.nil_append] at hF
  obtain ⟨hF0, hF1, hF2, -⟩ := hF
  try simp only [List.cons_append, List.nil_append] at N dis hret
  refine' enterR B F X N dis T hk ?room ?ho ?hcd ?bind ?loc ?_ ?hcell ?hco ?hgen ?hkk
  case room => first | exact room0 (by assumption) | omega
  case ho => k_dflt k_is
  case hcd => k_dflt k_is
  case bind => exact binds3 rfl
  case loc => exact locs rfl
  case hcell => decide
  case hco => exact rfl
  case hgen => exact rfl
  case hkk => exact rfl
  intro g L' h₁ F' N' B' X' T'
  clear B F X N T dis
  k_fold
  obtain ⟨nx, hnx⟩ : ∃ nx : Led, nx = [(od, (oSet c1 rf)), (wy, instObj 449 wd), (mk, tup [.none, .int b9 c2]), (mt, instObj 526 md), (md, matchD MT sub ho hs), (ho, instObj 589 hd), (hd, hostD HT vd rl lg k u3), (rl, W.listOf #[] 0), (rf, instObj 208 rd), (rd, refD RT)] := ⟨_, rfl⟩
  rw [← hnx] at hF0 hF1 hF2 N'
  have hall : ∀ p ∈ [(od, (oSet c1 rf)), (wy, instObj 449 wd), (mk, tup [.none, .int b9 c2]), (mt, instObj 526 md), (md, matchD MT sub ho hs), (ho, instObj 589 hd), (hd, hostD HT vd rl lg k u3), (rl, W.listOf #[] 0), (rf, instObj 208 rd), (rd, refD RT)], p ∈ nx := fun p hp => hnx ▸ hp
  (repeat (have m9 := (List.forall_mem_cons.mp hall).1; replace hall := (List.forall_mem_cons.mp hall).2))
  clear hall
  k_steps
  try dsimp only
  refine leaveR (by assumption) (by assumption) fun kF kN kA => ?_
  refine' hret _ _ _ _ ⟨_, _, rfl, ?fars, ?mp, ?e_q, ?e_t1, ?e_t2, ?e_t3, ?e_t4, ?e_t5, ?e_o2, rfl, rfl, rfl, ?x0⟩ kF (news_sub2 kN ?sub) (apart_sub kA ?sub)
  case sub => (try simp only [List.cons_append, List.nil_append]); lcg_sub
  case mp => exact rfl
  case fars => repeat (first | exact fars_nil | refine fars_cons (by ((try simp only [List.cons_append, List.nil_append]); k_all)) ?_)
  case x0 => first | assumption | omega | decide
end

section
set_option maxHeartbeats 1500000
theorem hostC (w : World) (vd rl : Addr) (t9 : Tok)  :
    Con w 589 [.ref vd, .int 9999 t9, .ref rl] [] [] 10 80
      (fun (v : Value) (made chg' : List (Addr × Obj)) => ∃ (x d lg : Addr) (T : HostT) (u : Tok), v = .ref x ∧ made = [(lg, W.listOf #[] 0), (x, instObj 589 d), (d, hostD T vd rl lg 0 u)] ∧ chg' = []) := by
  k_with_none
  (k_with "WhlIf" => ((first | (refine WhlIf.yes (by with_unfolding_all rfl) ?_) | (refine WhlIf.no (by with_unfolding_all rfl) ?_) | (refine WhlIf.yes (by decide) ?_) | (refine WhlIf.no (by decide) ?_)); (try k_fold)))
  (k_with "setAttr ref" => (k_here; k_dflt (refine set_dict_any (by k_asm) (by k_asm) (by k_asm) (by k_inst) (by exact rfl) (by k_is) (by k_is) (by k_is) (by k_is) (by k_get) (by (intro kH kt; k_put)) (by (intro kH kt; k_upd)) (by (intro kH kt; exact Nat.le_of_ble_eq_true rfl)) ?_; k_whole); intro kwh kwH kwt kwF kwN; (try k_sweep)))
  (k_with "k_allIn" => (first | exact List.forall_mem_nil _ | (refine List.forall_mem_cons.mpr ⟨by (first | exact nth_mem 0 rfl | exact nth_mem 1 rfl | exact nth_mem 2 rfl | exact nth_mem 3 rfl | exact nth_mem 4 rfl | exact nth_mem 5 rfl | exact nth_mem 6 rfl | exact nth_mem 7 rfl | exact nth_mem 8 rfl | exact nth_mem 9 rfl | exact nth_mem 10 rfl | exact nth_mem 11 rfl | exact nth_mem 12 rfl | exact nth_mem 13 rfl | exact nth_mem 14 rfl | exact nth_mem 15 rfl | exact nth_mem 16 rfl | exact nth_mem 17 rfl | exact nth_mem 18 rfl | exact nth_mem 19 rfl | exact nth_mem 20 rfl | exact nth_mem 21 rfl | exact nth_mem 22 rfl | exact nth_mem 23 rfl | exact nth_mem 24 rfl | exact nth_mem 25 rfl | k_memK), ?_⟩; k_allIn)))
  (k_with "lcg_sub" => (first | exact List.forall_mem_nil _ | (refine List.forall_mem_cons.mpr ⟨by (first | exact nth_mem 0 rfl | exact nth_mem 1 rfl | exact nth_mem 2 rfl | exact nth_mem 3 rfl | exact nth_mem 4 rfl | exact nth_mem 5 rfl | exact nth_mem 6 rfl | exact nth_mem 7 rfl | exact nth_mem 8 rfl | exact nth_mem 9 rfl | exact nth_mem 10 rfl | exact nth_mem 11 rfl | exact nth_mem 12 rfl | exact nth_mem 13 rfl | exact nth_mem 14 rfl | exact nth_mem 15 rfl | exact nth_mem 16 rfl | exact nth_mem 17 rfl | exact nth_mem 18 rfl | exact nth_mem 19 rfl | exact nth_mem 20 rfl | exact nth_mem 21 rfl | exact nth_mem 22 rfl | exact nth_mem 23 rfl | exact nth_mem 24 rfl | exact nth_mem 25 rfl | k_mem), ?_⟩; lcg_sub)))
  (k_with "k_ne" => (refine neN ?_; (try dsimp only); first
    | exact allLt_ne (by with_reducible assumption) (by k_mem)
    | exact allLt_ne' (by with_reducible assumption) (by k_mem)
    | exact far_ne (by with_reducible assumption) (by k_mem)
    | exact far_ne' (by with_reducible assumption) (by k_mem)
    | exact allLt_ne2 (by with_reducible assumption) (by with_reducible assumption) (by k_mem)
    | exact allLt_ne2' (by with_reducible assumption) (by with_reducible assumption) (by k_mem)
    | exact Nat.ne_of_lt (by assumption)
    | exact Nat.ne_of_gt (by assumption)
    | assumption
    | (refine Ne.symm ?_; assumption)
    | exact off1_ne (by assumption) (by k_mem)
    | (refine Ne.symm ?_; exact off1_ne (by assumption) (by k_mem))
    | exact apart_ne (by assumption) (by k_mem) (by k_mem)
    | exact apart_ne' (by assumption) (by k_mem) (by k_mem)
    | omega))
  (k_with "lcg_off" => first | exact True.intro | assumption | (refine And.intro ⟨by k_ne, by k_ne, by k_ne⟩ ?_; lcg_off))
  (k_with "k_room" => ((try simp only [depth_under_make, depth_under_kw, depth_in1, depth_deeper, depth_caller]); (try dsimp only [ktrTop]); first | exact Nat.le_of_ble_eq_true rfl | exact room1 (by assumption) rfl | exact room2 (by assumption) rfl | exact room3 (by assumption) rfl | exact room4 (by assumption) rfl | omega))
  (k_with "k_units" => ((try simp only [units_in1, units_deeper, Around.mark_units, units_caller]); (try dsimp only [ktrTop]); first | exact Nat.le_of_ble_eq_true rfl | exact room1 (by assumption) rfl | exact room2 (by assumption) rfl | exact room3 (by assumption) rfl | exact room4 (by assumption) rfl | omega))
  (k_with "eval ListComp" => (k_here; k_dflt (refine LCg.ListComp_U (F₀ := by k_asm) (by with_unfolding_all rfl) (by decide) (by rfl) (by decide) (by rfl) ?_)))
  (k_with "CompRest" => (with_unfolding_all first
    | (refine LCg.CompRest.succ ?_; intro kwv kwI kwoI kwC kwoC kwD kwm kwh kwtk kwE kwhv kwhC kwhx kwF kwN kwoff kwne; (first | lcg_open kwhv | (obtain ⟨kwt9, kwhv9⟩ := kwhv; subst kwhv9)))
    | refine LCg.CompRest.zero ?_))
  (k_with "FinE" => ((unfold LCg.FinE); intro kwD kwh kwtk kwF kwN kwo1; (try simp only [List.nil_append, List.cons_append] at kwN); (try dsimp only)))
  (k_with "compareOp In str ref" => (k_here; (with_reducible show wpAny _ _ (compareOp CmpOp.In (Value.str _ _) (Value.ref _)) _ _ _); k_dflt (first
    | (refine in_topTup (b := true) (by k_asm) (by k_asm) (by k_is) (by (repeat constructor)) (by decide) ?_; k_whole)
    | (refine in_topTup (b := false) (by k_asm) (by k_asm) (by k_is) (by (repeat constructor)) (by decide) ?_; k_whole))))
  (k_with "k_enter" => ((fail_if_success k_inElt); (refine code_def (by k_asm) (by k_asm) (by k_asm) (by k_asm) (by k_asm) rfl rfl rfl (by k_is) (by k_is) (by k_room) (by (first | exact binds1 rfl | exact binds2 rfl | exact binds3 rfl | exact binds4 rfl | exact binds7 rfl)) (by exact locs rfl) ?_ rfl rfl rfl (by decide); k_whole; intro kwg kwL kwh kwFG kwF kwN kwB kwX kwT; (try dsimp only [List.reverse_cons, List.reverse_nil, List.nil_append, List.cons_append]); (try k_lift kwB); (try k_fold))))
  (k_with "compareOp Eq str str" => (k_here; refine eq_str_no (by assumption) ?_))
  (k_with "subscriptTail Name Constant ref int" => (k_here; (with_reducible show wpAny _ _ (subscriptTail _ _ (Value.ref _) (Value.int 0 _)) _ _ _); k_dflt (refine head_tup (by k_asm) (by k_mem) ?_ (by with_unfolding_all rfl); k_whole)))
  (k_with "call builtin:len" => (k_here; (with_reducible show wpAny _ _ (call (Value.builtin "len") [Value.ref _]) _ _ _); k_dflt (refine len_any (by k_asm) (by k_mem) (by (first | assumption | omega | (simp only [Array.size_push]; omega))) ?_); k_whole))
  (k_with "compareOp In str ref" => (k_here; (with_reducible show wpAny _ _ (compareOp CmpOp.In (Value.str _ _) (Value.ref _)) _ _ _); k_dflt (refine in_nil (by k_asm) (by k_mem) ?_)))
  (k_with "k_mem" => first | assumption | exact List.Mem.head _ | (refine List.Mem.tail _ ?_; k_mem) | fail)
  (k_with "k_memK" => first | assumption | exact List.Mem.head _ | (refine List.Mem.tail _ ?_; k_memK) | fail)
  (k_with "k_all" => first | exact List.forall_mem_nil _ | exact Far.all (by with_reducible assumption) | exact young_sub (by with_reducible assumption) (by intro p hp; (repeat (first | exact hp | refine List.mem_cons_of_mem _ ?_)); (first | done | fail)) | exact young_sub2 (by with_reducible assumption) (by with_reducible assumption) (by intro p hp; (repeat (first | exact hp | refine List.mem_cons_of_mem _ ?_)); (first | done | fail)) | (refine List.forall_mem_cons.mpr ⟨by k_ne, ?_⟩; k_all))
  intro hF
  clear hF
  unfold Spec
  k_fill
  intro dp un gd cn cs a ccd cl outer A₀ base h₀ L m s Q E mean mg mb rest B F X N dis T hk hdp hun hret
  simp only [List.nil_append] at N dis hret
  refine' call_cls ?k1 ?k2 ?k3 ?k4 ?k5 ?k6 ?_
  case k1 => k_asm
  case k2 => k_asm
  case k3 => k_asm
  case k4 => k_dflt k_is
  case k5 => k_dflt k_is
  case k6 => k_dflt k_is
  intro x9 d9 h9 F9 N9 l1 l2
  try k_lt l1
  try k_lt2 l2
  try k_sweep
  refine' code_def ?q1 ?q2 ?q3 ?q4 ?q5 ?qA ?qF ?qK ?q6 ?q7 ?q8 ?q9 ?qB ?_ ?c2 ?c3 ?c4 ?c5
  case qA => exact rfl
  case qF => exact rfl
  case qK => exact hk
  case q1 => k_asm
  case q2 => k_asm
  case q3 => k_asm
  case q4 => k_asm
  case q5 => k_asm
  case q6 => k_dflt k_is
  case q7 => k_dflt k_is
  case q8 => k_room
  case q9 => exact binds4 rfl
  case c5 => decide
  case qB => exact locs rfl
  case c2 => exact rfl
  case c3 => exact rfl
  case c4 => exact rfl
  intro kwg kwL kwh kwFG kwF kwN kwB kwX kwT
  try dsimp only [List.reverse_cons, List.reverse_nil, List.nil_append, List.cons_append]
  try k_lift kwB
  try k_fold
  k_steps
  rename Fr _ _ _ _ => lF
  rename News _ _ _ _ => lN
  refine' hret _ _ _ _ ⟨[(_, W.listOf #[] 0), (x9, instObj 589 d9), (d9, _)], [], rfl, ?fars, rfl, x9, d9, _, ⟨_, _, _, _, _, _, _, _, _, _, _, _, _, _⟩, _, rfl, rfl, rfl⟩ lF lN ?ap
  case fars => exact ⟨⟨by k_all⟩, ⟨by k_all⟩, ⟨by k_all⟩, trivial⟩
  case ap => exact apart_cons (by k_all) (apart_cons (by k_all) (apart_cons (by k_all) apart_nil))
end

section
set_option maxHeartbeats 400000
theorem Con.also {w : World} {f : Addr} {args : List Value} {chg keep : Led} {D U : Nat} {P : Value → Led → Led → Prop} (C : Con w f args chg keep D U P) : Con w f args chg keep D U fun v made chg' => chg'.map (·.1) = chg.map (·.1) ∧ P v made chg' := fun hF => by
  intro dp un gd cn cs a ccd cl outer A₀ base h₀ L m s Q E mean mg mb rest B F X N dis T hk hd hu hret
  refine C hF dp un gd cn cs a ccd cl outer A₀ base h₀ L m s Q E mean mg mb rest B F X N dis T hk hd hu fun v nd h' tk' hP => hret v nd h' tk' ?_
  obtain ⟨made, chg', e, hf, hm, hP⟩ := hP
  exact ⟨made, chg', e, hf, hm, hm, hP⟩
theorem Con.wide {w : World} {f : Addr} {args : List Value} {chg keep : Led} {D U D' U' : Nat} {P : Value → Led → Led → Prop} (C : Con w f args chg keep D U P) (hd : D ≤ D') (hu : U ≤ U') : Con w f args chg keep D' U' P := fun hF => by
  intro dp un gd cn cs a ccd cl outer A₀ base h₀ L m s Q E mean mg mb rest B F X N dis T hk h1 h2 hret
  exact C hF dp un gd cn cs a ccd cl outer A₀ base h₀ L m s Q E mean mg mb rest B F X N dis T hk (by omega) (by omega) hret
theorem Take.skip {x : Addr × Obj} {c n r : Led} (t : Take c n r) : Take c (x :: n) (x :: r) := by
  induction t with
  | nil => exact .nil
  | cons h _ ih => exact .cons (.tail h) ih
section
variable {w : World} {dp un : Nat} {gd : Option (List Code)} {cn : Str} {cs : Scope} {L a : Addr} {ccd : Value} {cl : List (Str × Addr)} {outer : List Env} {A₀ : Around} {base h₀ : Heap} {m : Str → Option Value} {s : Shared} {Q E : Value → Shared → Prop}
  {mean : ExcName → Option Value} {mg mb : Str → Option Value} {chg keep r r2 : Led} {f wl : Addr} {o : Obj} {args : List Value} {D U : Nat} {P : Value → Led → Led → Prop}
/-- a call upon a ledger whose first thing it does not touch -/
theorem Con.ahead (C : Con w f args chg keep D U P) (B : Below A₀ base outer h₀) (F : Fr h₀ L s.heap m) (X₀ : (K w.params).In h₀) (N : News h₀ L s.heap ((wl, o) :: r)) (T : Top vw (looseW vw loose) mean mg mb h₀) (hke : cs.kind = .function)
    (hfar : Far wl r) (hK0 : ∀ q ∈ keep, q ∈ r) (hT : Take chg r r2) (hF : Fars chg r2) (hF2 : Fars chg keep) (hroom : dp + D < recursionLimit) (hun : un + U < cLine)
    (k : ∀ v made chg' h' tk', P v made chg' → Fars made (chg' ++ r2) → Fr h₀ L h' m → News h₀ L h' ((wl, o) :: (made ++ (chg' ++ r2))) → Far wl (made ++ (chg' ++ r2)) → Q v { s with heap := h', toks := tk' }) :
    wpAny (model PySem.Challenge.rw_xm0958_01.row.toRowW.1 w) (ktrTop dp un gd cn cs L a ccd cl outer) (call (.ref f) args) Q E s := by
  refine Con.use (chg := chg) (keep := keep) (rest := (wl, o) :: r2) C.also B F X₀ N T hke (fun q hq => List.mem_cons_of_mem _ (hK0 q hq)) hT.skip (fars_mono hF fun p hp => ?_) hF2 hroom hun fun v made chg' h' tk' hP F' N' hA => ?_
  · rcases List.mem_cons.mp hp with rfl | hp
    · exact .inr fun q hq => hfar.all q (hT.mem q hq)
    · exact .inl hp
  · obtain ⟨he, hP⟩ := hP
    have sub : ∀ p ∈ chg' ++ r2, p ∈ chg' ++ ((wl, o) :: r2) := fun p hp => by
      rcases List.mem_append.mp hp with hp | hp
      · exact List.mem_append_left _ hp
      · exact List.mem_append_right _ (List.mem_cons_of_mem _ hp)
    refine k v made chg' h' tk' hP (fars_mono hA fun p hp => .inl (sub p hp)) F' (fun p hp => ?_) ⟨fun p hp => ?_⟩
    · rcases List.mem_cons.mp hp with rfl | hp
      · exact N' _ (List.mem_append_right _ (List.mem_append_right _ List.mem_cons_self))
      · rcases List.mem_append.mp hp with hp | hp
        · exact N' _ (List.mem_append_left _ hp)
        · exact N' _ (List.mem_append_right _ (sub p hp))
    · rcases List.mem_append.mp hp with hp | hp
      · exact fars_in hA p hp _ (List.mem_append_right _ List.mem_cons_self)
      · rcases List.mem_append.mp hp with hp | hp
        · have h1 : p.1 ∈ chg.map (·.1) := he ▸ List.mem_map_of_mem hp
          obtain ⟨q, hq, e⟩ := List.mem_map.mp h1
          exact e ▸ hfar.all q (hT.mem q hq)
        · exact hfar.all p (hT.sub p hp)
end
/-- the object that collects the orders -/
structure PC where
  (sf sd ol : Addr)
  hs : Int
  ts : Tok
  nn : Nat
noncomputable abbrev PC.inst (c : PC) : Obj := ⟨.ref 94, some c.sd, .plain, #[]⟩
noncomputable abbrev PC.dict (c : PC) : Obj := dictOf [⟨c.hs, .str (Str.ofString "orders") c.ts, .ref c.ol⟩] c.nn
structure PHead (c : PC) (its : List Value) (q : Addr) (g : Str) (v : Value) (t : Tok) (r : Led) : Prop where
  hlim : its.length < 900
  hq : (q, tup [.str g t, v]) ∈ r
  hsf : (c.sf, c.inst) ∈ r
  hsd : (c.sd, c.dict) ∈ r
structure PDoes (w : World) (f : Nat) (args : List Value) (r chg keep r2 : Led) (P1 : Value → Led → Led → Prop) : Prop where
  C : Con w f args chg keep 15 120 P1
  hK : ∀ q ∈ keep, q ∈ r
  hT : Take chg r r2
  hF : Fars chg r2
  hF2 : Fars chg keep
/-- the turns of 'put', told by the ledger behind the waiting list -/
inductive Puts (w : World) (c : PC) (Post : Led → Prop) : Nat → List Value → Led → Prop
  | done {n : Nat} {r nd : Led} (hs : ∀ p ∈ nd, p ∈ r) (hp : Post nd) : Puts w c Post (n + 1) [] r
  | leaf {n : Nat} {its : List Value} {r : Led} {q a : Addr} {t : Tok} {chg keep r2 : Led} {P1 : Value → Led → Led → Prop} {r3 : Led → Led → Led} (H : PHead c its q (Str.ofString "put") (.ref a) t r) (D : PDoes w 70 [.ref c.sf, .ref a] r chg keep r2 P1)
      (hv : ∀ v made chg', P1 v made chg' → Fars made (chg' ++ r2) → ∃ d : Addr, v = .ref d ∧ (d, W.listOf #[] 0) ∈ r3 made chg' ∧ (∀ p ∈ r3 made chg', p ∈ made ++ (chg' ++ r2)))
      (hn : ∀ v made chg', P1 v made chg' → Fars made (chg' ++ r2) → Puts w c Post n its (r3 made chg')) : Puts w c Post (n + 1) (its ++ [.ref q]) r
  | two {n : Nat} {its : List Value} {r : Led} {q a : Addr} {t : Tok} {chg keep r2 : Led} {P1 : Value → Led → Led → Prop} {r3 : Led → Led → Led} {its2 : Led → List Value} (H : PHead c its q (Str.ofString "put") (.ref a) t r) (D : PDoes w 70 [.ref c.sf, .ref a] r chg keep r2 P1)
      (hv : ∀ v made chg', P1 v made chg' → Fars made (chg' ++ r2) → ∃ (d q1 q2 : Addr) (kd : Nat), v = .ref d ∧ (d, W.listOf #[.ref q1, .ref q2] kd) ∈ r3 made chg' ∧ (∀ p ∈ r3 made chg', p ∈ made ++ (chg' ++ r2)) ∧ its2 made = its ++ [.ref q2, .ref q1])
      (hn : ∀ v made chg', P1 v made chg' → Fars made (chg' ++ r2) → Puts w c Post n (its2 made) (r3 made chg')) : Puts w c Post (n + 1) (its ++ [.ref q]) r
  | emit {n : Nat} {its : List Value} {r : Led} {q : Addr} {v9 : Value} {t : Tok} {chg keep r2 : Led} {P1 : Value → Led → Led → Prop} {r3 : Led → Led → Led} (H : PHead c its q (Str.ofString "emit") v9 t r) (D : PDoes w 58 [.ref c.sf, v9] r chg keep r2 P1)
      (hv : ∀ v made chg', P1 v made chg' → Fars made (chg' ++ r2) → ∀ p ∈ r3 made chg', p ∈ made ++ (chg' ++ r2))
      (hn : ∀ v made chg', P1 v made chg' → Fars made (chg' ++ r2) → Puts w c Post n its (r3 made chg')) : Puts w c Post (n + 1) (its ++ [.ref q]) r
theorem put_start {g h : Heap} {L' wl q0 n0 : Addr} {m : Str → Option Value} {t : Tok} {need : Led} {k : Nat} (_ : Fr g L' h m) (hw : m (Str.ofString "waiting") = some (.ref wl)) (N : News g L' h ((wl, W.listOf #[.ref q0] k) :: (q0, tup [.str (Str.ofString "put") t, .ref n0]) :: need))
    (Yw : Young wl ((q0, tup [.str (Str.ofString "put") t, .ref n0]) :: need)) (Yq : Young q0 need) :
    ∃ (wl' q' : Addr) (t' : Tok), Far q' need ∧ Far wl' ((q', tup [.str (Str.ofString "put") t', .ref n0]) :: need) ∧ News g L' h ((wl', W.listOf [Value.ref q'].toArray k) :: (q', tup [.str (Str.ofString "put") t', .ref n0]) :: need) ∧ m (Str.ofString "waiting") = some (.ref wl') :=
  ⟨wl, q0, t, far_young Yq (fun _ h => h), far_young Yw (fun _ h => h), N, hw⟩
theorem news_ahead {h₀ h : Heap} {L : Addr} {x : Addr × Obj} {l l' : Led} (N : News h₀ L h (x :: l)) (hs : ∀ p ∈ l', p ∈ l) : News h₀ L h (x :: l') := news_sub N fun p hp => (List.mem_cons.mp hp).elim (fun e => e ▸ List.mem_cons_self) fun hp => List.mem_cons_of_mem _ (hs p hp)
theorem far_less {d : Addr} {l l' : Led} (F : Far d l) (hs : ∀ p ∈ l', p ∈ l) : Far d l' := ⟨fun p hp => F.all p (hs p hp)⟩
theorem ext_refs {prog : Program} {w : World} {A : Around} {E : Value → Shared → Prop} {s : Shared} {h₀ : Heap} {L D b : Addr} {m : Str → Option Value} {its rs : List Value} {n nb : Nat} {r : Led} {Q : Value → Shared → Prop} (F : Fr h₀ L s.heap m) (N : News h₀ L s.heap ((b, W.listOf rs.toArray nb) :: (D, W.listOf its.toArray n) :: r))
    (hne : @Ne Nat b D) (hr : Far D r) (hz : its.length < 900) (h2 : rs.length < 50)
    (h : ∀ h' n', Fr h₀ L h' m → News h₀ L h' ((b, W.listOf rs.toArray nb) :: (D, W.listOf (its ++ rs).toArray n') :: r) → Q .none { s with heap := h' }) : wpAny (model prog w) A (call (.builtin "list.extend") [.ref D, .ref b]) Q E s := by
  have hz' : @LT.lt Nat _ its.length 900 := hz
  have h2' : @LT.lt Nat _ rs.length 50 := h2
  have hd : ¬(!its.toArray.isEmpty && Builtin.List.listTooLong (its.toArray.size + rs.toArray.size)) = true := by
    have : Builtin.List.listTooLong (its.toArray.size + rs.toArray.size) = false := by
      unfold Builtin.List.listTooLong
      simp only [List.size_toArray, decide_eq_false_iff_not]
      rw [PySem.sizeLine_eq]; omega
    rw [this, Bool.and_false]; exact Bool.false_ne_true
  have s1 : its.toArray.toList.length ≤ sizeLine := by
    show its.length ≤ sizeLine
    rw [PySem.sizeLine_eq]; omega
  have s2 : its.toArray.size + rs.toArray.size ≤ sizeLine + 1 := by
    simp only [List.size_toArray]
    rw [PySem.sizeLine_eq]; omega
  cases rs with
  | nil => exact kxn_extend F N List.mem_cons_self rfl (.tail hne (.head hr.all)) hd s1 s2 fun h' F' N' => h h' n F' (by rw [List.append_nil]; exact N')
  | cons x l => exact kl_extend (l := its ++ x :: l) F N List.mem_cons_self rfl (Nat.succ_ne_zero _) (.tail hne (.head hr.all)) hd s1 s2 fun h' F' N' => h h' (n + 1) F' N'
end

section
set_option maxHeartbeats 1500000
theorem putG (w : World) (c : PC) (n0 : Addr) (n : Nat) (need : Led) (Post : Led → Prop) (hsf0 : (c.sf, c.inst) ∈ need)
    (r1 : Addr → Tok → Led) (hr : ∀ q t, ∀ p ∈ r1 q t, p ∈ (q, tup [.str (Str.ofString "put") t, .ref n0]) :: need) (hC : ∀ (q : Addr) (t : Tok), Far q need → Puts w c Post n [.ref q] (r1 q t)) :
    Spec w 65 [.ref c.sf, .ref n0] need 25 200 (fun v nd => v = .none ∧ Post nd) := by
  k_with_none
  (k_with "WhlIf" => ((first | (refine WhlIf.yes (by with_unfolding_all rfl) ?_) | (refine WhlIf.no (by with_unfolding_all rfl) ?_) | (refine WhlIf.yes (by decide) ?_) | (refine WhlIf.no (by decide) ?_)); (try k_fold)))
  (k_with "setAttr ref" => (k_here; k_dflt (refine set_dict_any (by k_asm) (by k_asm) (by k_asm) (by k_inst) (by exact rfl) (by k_is) (by k_is) (by k_is) (by k_is) (by k_get) (by (intro kH kt; k_put)) (by (intro kH kt; k_upd)) (by (intro kH kt; exact Nat.le_of_ble_eq_true rfl)) ?_; k_whole); intro kwh kwH kwt kwF kwN; (try k_sweep)))
  (k_with "k_allIn" => (first | exact List.forall_mem_nil _ | (refine List.forall_mem_cons.mpr ⟨by (first | exact nth_mem 0 rfl | exact nth_mem 1 rfl | exact nth_mem 2 rfl | exact nth_mem 3 rfl | exact nth_mem 4 rfl | exact nth_mem 5 rfl | exact nth_mem 6 rfl | exact nth_mem 7 rfl | exact nth_mem 8 rfl | exact nth_mem 9 rfl | exact nth_mem 10 rfl | exact nth_mem 11 rfl | exact nth_mem 12 rfl | exact nth_mem 13 rfl | exact nth_mem 14 rfl | exact nth_mem 15 rfl | exact nth_mem 16 rfl | exact nth_mem 17 rfl | exact nth_mem 18 rfl | exact nth_mem 19 rfl | exact nth_mem 20 rfl | exact nth_mem 21 rfl | exact nth_mem 22 rfl | exact nth_mem 23 rfl | exact nth_mem 24 rfl | exact nth_mem 25 rfl | k_memK), ?_⟩; k_allIn)))
  (k_with "lcg_sub" => (first | exact List.forall_mem_nil _ | (refine List.forall_mem_cons.mpr ⟨by (first | exact nth_mem 0 rfl | exact nth_mem 1 rfl | exact nth_mem 2 rfl | exact nth_mem 3 rfl | exact nth_mem 4 rfl | exact nth_mem 5 rfl | exact nth_mem 6 rfl | exact nth_mem 7 rfl | exact nth_mem 8 rfl | exact nth_mem 9 rfl | exact nth_mem 10 rfl | exact nth_mem 11 rfl | exact nth_mem 12 rfl | exact nth_mem 13 rfl | exact nth_mem 14 rfl | exact nth_mem 15 rfl | exact nth_mem 16 rfl | exact nth_mem 17 rfl | exact nth_mem 18 rfl | exact nth_mem 19 rfl | exact nth_mem 20 rfl | exact nth_mem 21 rfl | exact nth_mem 22 rfl | exact nth_mem 23 rfl | exact nth_mem 24 rfl | exact nth_mem 25 rfl | k_mem), ?_⟩; lcg_sub)))
  (k_with "k_ne" => (refine neN ?_; (try dsimp only); first
    | exact allLt_ne (by with_reducible assumption) (by k_mem)
    | exact allLt_ne' (by with_reducible assumption) (by k_mem)
    | exact far_ne (by with_reducible assumption) (by k_mem)
    | exact far_ne' (by with_reducible assumption) (by k_mem)
    | exact allLt_ne2 (by with_reducible assumption) (by with_reducible assumption) (by k_mem)
    | exact allLt_ne2' (by with_reducible assumption) (by with_reducible assumption) (by k_mem)
    | exact Nat.ne_of_lt (by assumption)
    | exact Nat.ne_of_gt (by assumption)
    | assumption
    | (refine Ne.symm ?_; assumption)
    | exact off1_ne (by assumption) (by k_mem)
    | (refine Ne.symm ?_; exact off1_ne (by assumption) (by k_mem))
    | exact apart_ne (by assumption) (by k_mem) (by k_mem)
    | exact apart_ne' (by assumption) (by k_mem) (by k_mem)
    | omega))
  (k_with "lcg_off" => first | exact True.intro | assumption | (refine And.intro ⟨by k_ne, by k_ne, by k_ne⟩ ?_; lcg_off))
  (k_with "k_room" => ((try simp only [depth_under_make, depth_under_kw, depth_in1, depth_deeper, depth_caller]); (try dsimp only [ktrTop]); first | exact Nat.le_of_ble_eq_true rfl | exact room1 (by assumption) rfl | exact room2 (by assumption) rfl | exact room3 (by assumption) rfl | exact room4 (by assumption) rfl | omega))
  (k_with "k_units" => ((try simp only [units_in1, units_deeper, Around.mark_units, units_caller]); (try dsimp only [ktrTop]); first | exact Nat.le_of_ble_eq_true rfl | exact room1 (by assumption) rfl | exact room2 (by assumption) rfl | exact room3 (by assumption) rfl | exact room4 (by assumption) rfl | omega))
  (k_with "eval ListComp" => (k_here; k_dflt (refine LCg.ListComp_U (F₀ := by k_asm) (by with_unfolding_all rfl) (by decide) (by rfl) (by decide) (by rfl) ?_)))
  (k_with "CompRest" => (with_unfolding_all first
    | (refine LCg.CompRest.succ ?_; intro kwv kwI kwoI kwC kwoC kwD kwm kwh kwtk kwE kwhv kwhC kwhx kwF kwN kwoff kwne; (first | lcg_open kwhv | (obtain ⟨kwt9, kwhv9⟩ := kwhv; subst kwhv9)))
    | refine LCg.CompRest.zero ?_))
  (k_with "FinE" => ((unfold LCg.FinE); intro kwD kwh kwtk kwF kwN kwo1; (try simp only [List.nil_append, List.cons_append] at kwN); (try dsimp only)))
  (k_with "compareOp In str ref" => (k_here; (with_reducible show wpAny _ _ (compareOp CmpOp.In (Value.str _ _) (Value.ref _)) _ _ _); k_dflt (first
    | (refine in_topTup (b := true) (by k_asm) (by k_asm) (by k_is) (by (repeat constructor)) (by decide) ?_; k_whole)
    | (refine in_topTup (b := false) (by k_asm) (by k_asm) (by k_is) (by (repeat constructor)) (by decide) ?_; k_whole))))
  (k_with "k_enter" => ((fail_if_success k_inElt); (refine code_def (by k_asm) (by k_asm) (by k_asm) (by k_asm) (by k_asm) rfl rfl rfl (by k_is) (by k_is) (by k_room) (by (first | exact binds1 rfl | exact binds2 rfl | exact binds3 rfl | exact binds4 rfl | exact binds7 rfl)) (by exact locs rfl) ?_ rfl rfl rfl (by decide); k_whole; intro kwg kwL kwh kwFG kwF kwN kwB kwX kwT; (try dsimp only [List.reverse_cons, List.reverse_nil, List.nil_append, List.cons_append]); (try k_lift kwB); (try k_fold))))
  (k_with "compareOp Eq str str" => (k_here; refine eq_str_no (by assumption) ?_))
  (k_with "subscriptTail Name Constant ref int" => (k_here; (with_reducible show wpAny _ _ (subscriptTail _ _ (Value.ref _) (Value.int 0 _)) _ _ _); k_dflt (refine head_tup (by k_asm) (by k_mem) ?_ (by with_unfolding_all rfl); k_whole)))
  (k_with "call builtin:len" => (k_here; (with_reducible show wpAny _ _ (call (Value.builtin "len") [Value.ref _]) _ _ _); k_dflt (refine len_any (by k_asm) (by k_mem) (by (first | assumption | omega | (simp only [Array.size_push]; omega))) ?_); k_whole))
  (k_with "compareOp In str ref" => (k_here; (with_reducible show wpAny _ _ (compareOp CmpOp.In (Value.str _ _) (Value.ref _)) _ _ _); k_dflt (refine in_nil (by k_asm) (by k_mem) ?_)))
  (k_with "WhlRest" => (refine hold_of ?_))
  (k_with "call builtin:list.pop" => (k_here; (try dsimp only); k_dflt (refine kl_pop2 (by k_asm) (by k_asm) (by exact upd_hd (by assumption)) (by exact last_snoc _ _) (by assumption) ?_); intro kwh kwF kwN))
  (k_with "k_mem" => assumption)
  (k_with "k_memK" => assumption)
  (k_with "k_all" => first | exact Far.all (by with_reducible assumption) | fail)
  (k_with "k_all" => first | exact young_sub (by with_reducible assumption) (by intro p hp; repeat (first | exact hp | refine List.mem_cons_of_mem _ ?_); done) | exact young_sub2 (by with_reducible assumption) (by with_reducible assumption) (by intro p hp; repeat (first | exact hp | refine List.mem_cons_of_mem _ ?_); done) | fail)
  (k_with "exec While Compare" => (k_here; refine hold_of ?_))
  (k_with "subscriptTail" => (k_here; (with_reducible show wpAny _ _ (subscriptTail _ _ (Value.ref _) (Value.int (Int.ofNat _) _)) _ _ _); k_dflt (refine idx_any (by k_asm) (by k_mem) (by assumption) (by assumption) ?_ (by with_unfolding_all rfl))))
  (k_with "subscriptTail" => (k_here; (with_reducible show wpAny _ _ (subscriptTail _ _ (Value.ref _) (Value.int (Nat.cast _) _)) _ _ _); k_dflt (refine idx_any (by k_asm) (by k_mem) (by assumption) (by assumption) ?_ (by with_unfolding_all rfl))))
  (k_with "k_mem" => first | assumption | exact List.Mem.head _ | (refine List.Mem.tail _ ?_; k_mem) | fail)
  (k_with "k_memK" => first | assumption | exact List.Mem.head _ | (refine List.Mem.tail _ ?_; k_memK) | fail)
  (k_with "call builtin:list.extend" => (k_here; (try dsimp only); k_dflt (refine ext_refs (by k_asm) (by k_asm) (by k_ne) (by assumption) (by assumption) (by exact Nat.le_of_ble_eq_true rfl) ?_); intro h9 n9 F9 N9; (try dsimp only [List.append_nil] at N9); (try simp only [List.append_nil] at N9); (try k_sweep)))
  (k_with "WhlIf" => (k_dflt (refine WhlIf.yes (by exact decide_eq_true (by assumption)) ?_); (try k_fold)))
  (k_with "call ref" => (k_here; (with_reducible show wpAny _ _ (call (Value.ref 70) [Value.ref _, Value.ref _]) _ _ _); refine hold_of ?_))
  (k_with "call ref" => (k_here; (with_reducible show wpAny _ _ (call (Value.ref 58) [Value.ref _, _]) _ _ _); refine hold_of ?_))
  obtain ⟨sf, sd, ol, hs, ts, nn⟩ := c
  dsimp only at hsf0 hC
  unfold Spec
  k_fill
  intro dp un gd cn cs a ccd cl outer A₀ base h₀ L m s Q E mean mg mb rest B F X N dis T hk hdp hun hret
  refine' enterR B F X N dis T hk ?room ?ho ?hcd ?bind ?loc ?_ ?hcell ?hco ?hgen ?hkk
  case room => first | exact room0 (by assumption) | omega
  case ho => k_dflt k_is
  case hcd => k_dflt k_is
  case bind => exact binds2 rfl
  case loc => exact locs rfl
  case hcell => decide
  case hco => exact rfl
  case hgen => exact rfl
  case hkk => exact rfl
  intro g L' h₁ F' N' B' X' T'
  clear B F X N T dis
  k_fold
  k_steps
  unfold Hold
  rename Fr _ _ _ _ => lF
  rename News _ _ _ _ => lN
  obtain ⟨wl, q0, tq, hfq, hfw0, lN2, hw0⟩ := put_start lF rfl lN (by assumption) (by assumption)
  clear lN
  replace lN2 := news_ahead lN2 (hr q0 tq)
  replace hfw0 := far_less hfw0 (hr q0 tq)
  refine whl_start 0 ?_
  refine whl_chain (fun n (a : List Value × Led) s' => Puts w ⟨sf, sd, ol, hs, ts, nn⟩ Post n a.1 a.2 ∧ ∃ j h tk m', s' = { s with heap := h, toks := tk } ∧ Fr g L' h m' ∧ m' (Str.ofString "waiting") = some (.ref wl) ∧ m' (Str.ofString "self") = some (.ref sf) ∧ News g L' h ((wl, W.listOf a.1.toArray j) :: a.2) ∧ Far wl a.2) ?step n ([.ref q0], _) _ ⟨hC q0 tq hfq, _, _, _, _, rfl, lF, hw0, rfl, lN2, hfw0⟩
  clear hC lN2 lF hfq hfw0 hw0
  intro n' a9 s' hR ih
  obtain ⟨its9, r9⟩ := a9
  obtain ⟨hCh, j, h, tk, m', rfl, F1, hw, hsl, N1, hfw⟩ := hR
  dsimp only at hCh hw hsl N1 hfw
  rw [upd_eq2 hw hsl] at F1
  clear hw hsl
  cases hCh with
  | @done n2 r nd hs9 hp =>
    refine whl_turn (by first | passes_own | with_unfolding_all passes_own) ?_
    try k_fold
    k_steps
    rename Fr _ _ _ _ => lF
    rename News _ _ _ _ => lN
    exact leaveR lF (news_sub lN fun p hp9 => List.mem_cons_of_mem _ (hs9 p hp9)) fun kF kN kA => hret _ _ _ _ ⟨rfl, hp⟩ kF kN kA
  | @leaf n2 its r q a t chg keep r2 P1 r3 H D hv hn =>
    obtain ⟨hlim, hq, hsf, hsd⟩ := H
    dsimp only at hq hsf hsd
    have hl1 : (its ++ [Value.ref q]).toArray.size ≤ 1000 := by
      simp only [List.size_toArray, List.length_append, List.length_cons, List.length_nil]
      have h2 : @LT.lt Nat _ its.length 900 := hlim
      omega
    have hl2 : (0 : Int) < ((its ++ [Value.ref q]).toArray.size : Int) := by
      simp only [List.size_toArray, List.length_append, List.length_cons, List.length_nil]
      omega
    have hl3 : (its ++ [Value.ref q]).toArray.toList.length ≤ sizeLine := by
      show (its ++ [Value.ref q]).length ≤ sizeLine
      have h2 : @LT.lt Nat _ its.length 900 := hlim
      unfold sizeLine
      simp only [List.length_append, List.length_cons, List.length_nil]
      omega
    refine whl_turn (by first | passes_own | with_unfolding_all passes_own) ?_
    try k_fold
    k_steps
    unfold Hold
    rename Fr _ _ _ _ => lF
    rename News _ _ _ _ => lN
    refine' Con.ahead D.C ?B lF ?X lN ?T ?kk hfw D.hK D.hT D.hF D.hF2 ?room ?un ?_
    case B => k_asm
    case X => k_asm
    case T => k_asm
    case kk => exact rfl
    case room => k_room
    case un => k_units
    clear lF lN
    intro v9 made9 chg9 h9 tk9 hP A9 F9 N9 hf9
    obtain ⟨d, rfl, hd, hsub⟩ := hv _ _ _ hP A9
    have hn2 := hn _ _ _ hP A9
    have N10 := news_ahead N9 hsub
    have hf10 := far_less hf9 hsub
    clear N9 hf9 hfw hsub
    generalize r3 made9 chg9 = r10 at *
    try k_fold
    k_steps
    all_goals try (rename Fr _ _ _ _ => lF; rename News _ _ _ _ => lN; exact ih n2 (its, r10) _ (Nat.lt_succ_self _) ⟨hn2, _, _, _, _, rfl, lF, rfl, rfl, news_sub lN (fun p hp => by (rcases List.mem_cons.mp hp with hp | hp); (· subst hp; (repeat (first | exact List.mem_cons_self | refine List.mem_cons_of_mem _ ?_))); (· (repeat (first | exact hp | refine List.mem_cons_of_mem _ ?_)))), hf10⟩)
  | @two n2 its r q a t chg keep r2 P1 r3 its2 H D hv hn =>
    obtain ⟨hlim, hq, hsf, hsd⟩ := H
    dsimp only at hq hsf hsd
    have hl1 : (its ++ [Value.ref q]).toArray.size ≤ 1000 := by
      simp only [List.size_toArray, List.length_append, List.length_cons, List.length_nil]
      have h2 : @LT.lt Nat _ its.length 900 := hlim
      omega
    have hl2 : (0 : Int) < ((its ++ [Value.ref q]).toArray.size : Int) := by
      simp only [List.size_toArray, List.length_append, List.length_cons, List.length_nil]
      omega
    have hl3 : (its ++ [Value.ref q]).toArray.toList.length ≤ sizeLine := by
      show (its ++ [Value.ref q]).length ≤ sizeLine
      have h2 : @LT.lt Nat _ its.length 900 := hlim
      unfold sizeLine
      simp only [List.length_append, List.length_cons, List.length_nil]
      omega
    refine whl_turn (by first | passes_own | with_unfolding_all passes_own) ?_
    try k_fold
    k_steps
    unfold Hold
    rename Fr _ _ _ _ => lF
    rename News _ _ _ _ => lN
    refine' Con.ahead D.C ?B lF ?X lN ?T ?kk hfw D.hK D.hT D.hF D.hF2 ?room ?un ?_
    case B => k_asm
    case X => k_asm
    case T => k_asm
    case kk => exact rfl
    case room => k_room
    case un => k_units
    clear lF lN
    intro v9 made9 chg9 h9 tk9 hP A9 F9 N9 hf9
    obtain ⟨d, q1, q2, kd, rfl, hd, hsub, hits⟩ := hv _ _ _ hP A9
    have hn2 := hn _ _ _ hP A9
    rw [hits] at hn2
    have N10 := news_ahead N9 hsub
    have hf10 := far_less hf9 hsub
    clear N9 hf9 hfw hsub
    generalize r3 made9 chg9 = r10 at *
    try k_fold
    k_steps
    all_goals try (rename Fr _ _ _ _ => lF; rename News _ _ _ _ => lN; exact ih n2 (its ++ [.ref q2, .ref q1], r10) _ (Nat.lt_succ_self _) ⟨hn2, _, _, _, _, rfl, lF, rfl, rfl, news_sub lN (fun p hp => by (rcases List.mem_cons.mp hp with hp | hp); (· subst hp; (repeat (first | exact List.mem_cons_self | refine List.mem_cons_of_mem _ ?_))); (· (repeat (first | exact hp | refine List.mem_cons_of_mem _ ?_)))), hf10⟩)
  | @emit n2 its r q v8 t chg keep r2 P1 r3 H D hv hn =>
    obtain ⟨hlim, hq, hsf, hsd⟩ := H
    dsimp only at hq hsf hsd
    have hl1 : (its ++ [Value.ref q]).toArray.size ≤ 1000 := by
      simp only [List.size_toArray, List.length_append, List.length_cons, List.length_nil]
      have h2 : @LT.lt Nat _ its.length 900 := hlim
      omega
    have hl2 : (0 : Int) < ((its ++ [Value.ref q]).toArray.size : Int) := by
      simp only [List.size_toArray, List.length_append, List.length_cons, List.length_nil]
      omega
    have hl3 : (its ++ [Value.ref q]).toArray.toList.length ≤ sizeLine := by
      show (its ++ [Value.ref q]).length ≤ sizeLine
      have h2 : @LT.lt Nat _ its.length 900 := hlim
      unfold sizeLine
      simp only [List.length_append, List.length_cons, List.length_nil]
      omega
    refine whl_turn (by first | passes_own | with_unfolding_all passes_own) ?_
    try k_fold
    k_steps
    unfold Hold
    rename Fr _ _ _ _ => lF
    rename News _ _ _ _ => lN
    refine' Con.ahead D.C ?B lF ?X lN ?T ?kk hfw D.hK D.hT D.hF D.hF2 ?room ?un ?_
    case B => k_asm
    case X => k_asm
    case T => k_asm
    case kk => exact rfl
    case room => k_room
    case un => k_units
    clear lF lN
    intro v9 made9 chg9 h9 tk9 hP A9 F9 N9 hf9
    have hsub := hv _ _ _ hP A9
    have hn2 := hn _ _ _ hP A9
    have N10 := news_ahead N9 hsub
    have hf10 := far_less hf9 hsub
    clear N9 hf9 hfw hsub
    generalize r3 made9 chg9 = r10 at *
    try k_fold
    k_steps
    all_goals try (rename Fr _ _ _ _ => lF; rename News _ _ _ _ => lN; exact ih n2 (its, r10) _ (Nat.lt_succ_self _) ⟨hn2, _, _, _, _, rfl, lF, rfl, rfl, news_sub lN (fun p hp => by (rcases List.mem_cons.mp hp with hp | hp); (· subst hp; (repeat (first | exact List.mem_cons_self | refine List.mem_cons_of_mem _ ?_))); (· (repeat (first | exact hp | refine List.mem_cons_of_mem _ ?_)))), hf10⟩)
end

section
set_option maxHeartbeats 400000
/-- a pattern's tree -/
inductive Node where
  | cat (a b : Node)
  | now (a : Node) (rf : Addr)
  | len (k : Int)
  | chars (s : Str)
  | arb
  | fail
noncomputable def Node.head : Node → Str
  | .cat _ _ => Str.ofString "cat"
  | .now _ _ => Str.ofString "now"
  | .len _ => Str.ofString "len"
  | .chars _ => Str.ofString "chars"
  | .arb => Str.ofString "arb"
  | .fail => Str.ofString "fail"
noncomputable def Node.ok : Node → Prop
  | .cat a b => (a.head ≠ Str.ofString "cat" ∧ b.head ≠ Str.ofString "cat" ∧ a.head ≠ Str.ofString "chars" ∧ (b.head ≠ Str.ofString "chars" ∨ ∃ s, b = .chars s ∧ s ≠ Str.ofString "")) ∧ a.ok ∧ b.ok
  | .now a _ => a.ok
  | _ => True
noncomputable def Node.size : Node → Nat
  | .cat a b => a.size + b.size + 1
  | .now a _ => a.size + 2
  | _ => 1
inductive Ord where
  | mark
  | len (k : Int)
  | chars (s : Str)
  | arb
  | fail
  | set (rf : Addr)
noncomputable def Ord.is : Ord → Obj → Prop
  | .mark, o => ∃ c : Tok, o = tup [.str (Str.ofString "mark") c]
  | .len k, o => ∃ c1 c2 c3 : Tok, o = tup [.str (Str.ofString "one") c1, .str (Str.ofString "len") c2, .int k c3]
  | .chars s, o => ∃ c1 c2 c3 : Tok, o = tup [.str (Str.ofString "one") c1, .str (Str.ofString "chars") c2, .str s c3]
  | .arb, o => ∃ c1 c2 : Tok, o = tup [.str (Str.ofString "ways") c1, .str (Str.ofString "arb") c2]
  | .fail, o => ∃ c : Tok, o = tup [.str (Str.ofString "fail") c]
  | .set rf, o => ∃ c : Tok, o = tup [.str (Str.ofString "set") c, .ref rf]
/-- the orders of a tree, the last one first -/
noncomputable def Node.emit : Node → List Ord → List Ord
  | .cat a b, l => b.emit (a.emit l)
  | .now a rf, l => .set rf :: a.emit (.mark :: l)
  | .len k, l => .len k :: l
  | .chars s, l => .chars s :: l
  | .arb, l => .arb :: l
  | .fail, l => .fail :: l
inductive Job where
  | put (A : Node)
  | set (o rf : Addr)
noncomputable def Job.size : Job → Nat
  | .put A => A.size
  | .set _ _ => 1
noncomputable def Job.emit : Job → List Ord → List Ord
  | .put A, l => A.emit l
  | .set _ rf, l => .set rf :: l
noncomputable def total : List Job → Nat
  | [] => 0
  | j :: js => j.size + total js
noncomputable def emits : List Job → List Ord → List Ord
  | [], l => l
  | j :: js, l => emits js (j.emit l)
inductive NodeAt (r : Led) : Addr → Node → Prop
  | cat {n a b : Addr} {t : Tok} {A B : Node} : (n, tup [.str (Str.ofString "cat") t, .ref a, .ref b]) ∈ r → NodeAt r a A → NodeAt r b B → NodeAt r n (.cat A B)
  | now {n a rf : Addr} {t : Tok} {A : Node} : (n, tup [.str (Str.ofString "now") t, .ref a, .ref rf]) ∈ r → NodeAt r a A → NodeAt r n (.now A rf)
  | len {n : Addr} {t u : Tok} {k : Int} : (n, tup [.str (Str.ofString "len") t, .int k u]) ∈ r → NodeAt r n (.len k)
  | chars {n : Addr} {t u : Tok} {s : Str} : (n, tup [.str (Str.ofString "chars") t, .str s u]) ∈ r → NodeAt r n (.chars s)
  | arb {n : Addr} {t : Tok} : (n, tup [.str (Str.ofString "arb") t]) ∈ r → NodeAt r n .arb
  | fail {n : Addr} {t : Tok} : (n, tup [.str (Str.ofString "fail") t]) ∈ r → NodeAt r n .fail
theorem NodeAt.mono {r r' : Led} (hs : ∀ p ∈ r, p ∈ r') {a : Addr} {A : Node} (h : NodeAt r a A) : NodeAt r' a A := by
  induction h with
  | cat h _ _ i1 i2 => exact .cat (hs _ h) i1 i2
  | now h _ i => exact .now (hs _ h) i
  | len h => exact .len (hs _ h)
  | chars h => exact .chars (hs _ h)
  | arb h => exact .arb (hs _ h)
  | fail h => exact .fail (hs _ h)
theorem NodeAt.hd {r : Led} {a : Addr} {A : Node} (h : NodeAt r a A) : ∃ (t : Tok) (xs : List Value), (a, tup (.str A.head t :: xs)) ∈ r := by
  cases h with
  | cat h => exact ⟨_, _, h⟩
  | now h => exact ⟨_, _, h⟩
  | len h => exact ⟨_, _, h⟩
  | chars h => exact ⟨_, _, h⟩
  | arb h => exact ⟨_, _, h⟩
  | fail h => exact ⟨_, _, h⟩
inductive OrdsAt (r r0 : Led) : Array Value → List Addr → List Ord → Prop
  | nil : OrdsAt r r0 #[] [] []
  | push {os : Array Value} {l : List Addr} {ds : List Ord} {o : Addr} {ob : Obj} {d : Ord} (h : OrdsAt r r0 os l ds) (hm : (o, ob) ∈ r) (hd : d.is ob) (h0 : Far o r0) (hl : ∀ a ∈ l, a ≠ o) : OrdsAt r r0 (os.push (.ref o)) (o :: l) (d :: ds)
theorem OrdsAt.mono {r r' r0 : Led} (hs : ∀ p ∈ r, p ∈ r') {os : Array Value} {l : List Addr} {ds : List Ord} (h : OrdsAt r r0 os l ds) : OrdsAt r' r0 os l ds := by
  induction h with
  | nil => exact .nil
  | push _ hm hd h0 hl ih => exact .push ih (hs _ hm) hd h0 hl
theorem OrdsAt.mem {r r0 : Led} {os : Array Value} {l : List Addr} {ds : List Ord} (h : OrdsAt r r0 os l ds) : ∀ a ∈ l, ∃ ob, (a, ob) ∈ r := by
  induction h with
  | nil => intro a ha; cases ha
  | push _ hm _ _ _ ih =>
    intro a ha
    rcases List.mem_cons.mp ha with rfl | ha
    · exact ⟨_, hm⟩
    · exact ih a ha
inductive JobsAt (r r0 : Led) (l : List Addr) : List Value → List Job → Prop
  | nil : JobsAt r r0 l [] []
  | put {its : List Value} {js : List Job} {q a : Addr} {t : Tok} {A : Node} (hq : (q, tup [.str (Str.ofString "put") t, .ref a]) ∈ r) (hA : NodeAt r a A) (ok : A.ok) (h : JobsAt r r0 l its js) : JobsAt r r0 l (its ++ [.ref q]) (.put A :: js)
  | set {its : List Value} {js : List Job} {q o rf : Addr} {t tc : Tok} (hq : (q, tup [.str (Str.ofString "emit") t, .ref o]) ∈ r) (ho : (o, tup [.str (Str.ofString "set") tc, .ref rf]) ∈ r) (h0 : Far o r0) (hl : ∀ a ∈ l, a ≠ o)
      (hs : ∀ o' rf', Job.set o' rf' ∈ js → o' ≠ o) (h : JobsAt r r0 l its js) : JobsAt r r0 l (its ++ [.ref q]) (.set o rf :: js)
theorem JobsAt.mem {r r0 : Led} {l : List Addr} {its : List Value} {js : List Job} (h : JobsAt r r0 l its js) : ∀ o rf, Job.set o rf ∈ js → ∃ ob, (o, ob) ∈ r := by
  induction h with
  | nil => intro o rf ho; cases ho
  | put _ _ _ _ ih =>
    intro o rf ho
    rcases List.mem_cons.mp ho with e | ho
    · cases e
    · exact ih o rf ho
  | set _ hm _ _ _ _ ih =>
    intro o rf ho
    rcases List.mem_cons.mp ho with e | ho
    · cases e; exact ⟨_, hm⟩
    · exact ih o rf ho
theorem JobsAt.mono {r r' r0 : Led} {l l' : List Addr} (hs : ∀ p ∈ r, p ∈ r') {its : List Value} {js : List Job} (h : JobsAt r r0 l its js) (hl' : ∀ a ∈ l', a ∈ l ∨ ∀ o rf, Job.set o rf ∈ js → a ≠ o) : JobsAt r' r0 l' its js := by
  induction h with
  | nil => exact .nil
  | put hq hA ok _ ih => exact .put (hs _ hq) (hA.mono hs) ok (ih fun a ha => (hl' a ha).imp id fun h o rf ho => h o rf (List.mem_cons_of_mem _ ho))
  | set hq ho h0 hl hx _ ih => exact .set (hs _ hq) (hs _ ho) h0 (fun a ha => (hl' a ha).elim (hl a) fun h => h _ _ List.mem_cons_self) hx (ih fun a ha => (hl' a ha).imp id fun h o rf ho => h o rf (List.mem_cons_of_mem _ ho))
theorem JobsAt.len {r r0 : Led} {l : List Addr} {its : List Value} {js : List Job} (h : JobsAt r r0 l its js) : its.length ≤ total js := by
  induction h with
  | nil => exact Nat.le_refl _
  | @put its js q a t A _ _ _ _ ih =>
    have : 1 ≤ A.size := by cases A <;> simp [Node.size]
    simp only [total, Job.size, List.length_append, List.length_cons, List.length_nil]
    omega
  | set _ _ _ _ _ _ ih =>
    simp only [total, Job.size, List.length_append, List.length_cons, List.length_nil]
    omega
/-- the contract of 'begun' on a leaf -/
noncomputable def LeafC (w : World) (c : PC) (os : Array Value) (k : Nat) (a : Addr) (on : Obj) (d : Ord) : Prop :=
  Con w 70 [.ref c.sf, .ref a] [(c.ol, W.listOf os k)] [(c.sf, c.inst), (c.sd, c.dict), (a, on)] 15 120
    fun v made chg' => ∃ (D o : Addr) (ob : Obj), v = .ref D ∧ made = [(D, W.listOf #[] 0), (o, ob)] ∧ chg' = [(c.ol, W.listOf (os.push (.ref o)) (k + 1))] ∧ d.is ob
theorem node_leaf (w : World) (c : PC) {os : Array Value} (k : Nat) {a : Addr} {A : Node} {r : Led} (h : NodeAt r a A) (hz : os.size ≤ 100) (hA : A.size = 1) : ∃ (d : Ord) (on : Obj), (a, on) ∈ r ∧ (∀ l, A.emit l = d :: l) ∧ LeafC w c os k a on d := by
  cases h with
  | cat h => simp [Node.size] at hA; rename_i A B _ _; have : 1 ≤ A.size := by cases A <;> simp [Node.size]
             omega
  | now h => simp [Node.size] at hA
  | len h => exact ⟨.len _, _, h, fun _ => rfl, (begLen w c.sf c.sd c.ol a c.hs c.ts os k c.nn _ _ _ hz).mono fun v made chg' ⟨D, o, c1, c2, c3, e1, e2, e3⟩ => ⟨D, o, _, e1, e2, e3, c1, c2, c3, rfl⟩⟩
  | chars h => exact ⟨.chars _, _, h, fun _ => rfl, (begChars w c.sf c.sd c.ol a c.hs c.ts os k c.nn _ _ _ hz).mono fun v made chg' ⟨D, o, c1, c2, c3, e1, e2, e3⟩ => ⟨D, o, _, e1, e2, e3, c1, c2, c3, rfl⟩⟩
  | arb h => exact ⟨.arb, _, h, fun _ => rfl, (begArb w c.sf c.sd c.ol a c.hs c.ts os k c.nn _ hz).mono fun v made chg' ⟨D, o, c1, c2, e1, e2, e3⟩ => ⟨D, o, _, e1, e2, e3, c1, c2, rfl⟩⟩
  | fail h => exact ⟨.fail, _, h, fun _ => rfl, (begFail w c.sf c.sd c.ol a c.hs c.ts os k c.nn _ hz).mono fun v made chg' ⟨D, o, c1, e1, e2, e3⟩ => ⟨D, o, _, e1, e2, e3, c1, rfl⟩⟩
theorem sub_swap {a b c : Led} : ∀ p ∈ b ++ (a ++ c), p ∈ a ++ (b ++ c) := fun p hp => by
  rcases List.mem_append.mp hp with h | h
  · exact List.mem_append_right _ (List.mem_append_left _ h)
  · rcases List.mem_append.mp h with h | h
    · exact List.mem_append_left _ h
    · exact List.mem_append_right _ (List.mem_append_right _ h)
theorem far_ahead {made nx : Led} {ol : Addr} {o : Obj} (hA : Fars made ((ol, o) :: nx)) (hf : Far ol nx) : Far ol (made ++ nx) := ⟨fun p hp => by
  rcases List.mem_append.mp hp with hp | hp
  · exact fars_in hA p hp _ List.mem_cons_self
  · exact hf.all p hp⟩
theorem keep3 {c : PC} {nx : Led} {a : Addr} {on : Obj} (hsf : (c.sf, c.inst) ∈ nx) (hsd : (c.sd, c.dict) ∈ nx) (ha : (a, on) ∈ nx) : ∀ p ∈ [(c.sf, c.inst), (c.sd, c.dict), (a, on)], p ∈ nx := fun p hp => by
  rcases List.mem_cons.mp hp with rfl | hp
  · exact hsf
  · rcases List.mem_cons.mp hp with rfl | hp
    · exact hsd
    · rw [List.mem_singleton.mp hp]; exact ha
theorem far3 {nx ks : Led} {d : Addr} {o : Obj} (hf : Far d nx) (hs : ∀ p ∈ ks, p ∈ nx) : Fars [(d, o)] ks := ⟨⟨fun p hp => hf.all p (hs p hp)⟩, trivial⟩
/-- a fresh order is none of those that stand -/
theorem OrdsAt.fresh {r r0 : Led} {os : Array Value} {l : List Addr} {ds : List Ord} (h : OrdsAt r r0 os l ds) {o : Addr} (fo : ∀ p ∈ r, p.1 ≠ o) : ∀ a ∈ l, a ≠ o := fun a ha => by
  obtain ⟨ob', h'⟩ := h.mem a ha
  exact fo _ h'
theorem JobsAt.fresh {r r0 : Led} {l : List Addr} {its : List Value} {js : List Job} (h : JobsAt r r0 l its js) {o : Addr} (fo : ∀ p ∈ r, p.1 ≠ o) : ∀ o' rf', Job.set o' rf' ∈ js → o' ≠ o := fun o' rf' hj => by
  obtain ⟨ob', h'⟩ := h.mem o' rf' hj
  exact fo _ h'
theorem JobsAt.grow {r r' r0 : Led} {l : List Addr} {its : List Value} {js : List Job} (h : JobsAt r r0 l its js) (hs : ∀ p ∈ r, p ∈ r') {o : Addr} (hj : ∀ o' rf', Job.set o' rf' ∈ js → o' ≠ o) : JobsAt r' r0 (o :: l) its js :=
  h.mono hs fun a ha => (List.mem_cons.mp ha).elim (fun e => .inr fun o' rf' hh e2 => hj o' rf' hh (e2.symm.trans e)) .inl
theorem sizes_pos (A : Node) : 1 ≤ A.size := by cases A <;> simp [Node.size]
section
variable {w : World} {c : PC} {r0 : Led} {F : List Ord} {Post : Led → Prop}
/-- what holds at the head of a turn of 'put' -/
structure At (c : PC) (r0 : Led) (js : List Job) (its : List Value) (nx : Led) (os : Array Value) (l : List Addr) (ds : List Ord) : Prop where
  hz : os.size + total js ≤ 90
  hJ : JobsAt nx r0 l its js
  hO : OrdsAt nx r0 os l ds
  h0 : ∀ p ∈ r0, p ∈ nx
  hf : Far c.ol nx
  hsf : (c.sf, c.inst) ∈ nx
  hsd : (c.sd, c.dict) ∈ nx
theorem puts_of (fin : ∀ (nx : Led) (os : Array Value) (l : List Addr) (k : Nat), (∀ p ∈ r0, p ∈ nx) → OrdsAt nx r0 os l F → Far c.ol nx → ∃ nd : Led, (∀ p ∈ nd, p ∈ (c.ol, W.listOf os k) :: nx) ∧ Post nd) :
    ∀ (n : Nat) (js : List Job) (its : List Value) (nx : Led) (os : Array Value) (l : List Addr) (ds : List Ord) (k : Nat), total js ≤ n → At c r0 js its nx os l ds → emits js ds = F → Puts w c Post (n + 1) its ((c.ol, W.listOf os k) :: nx) := by
  intro n
  induction n with
  | zero =>
    rintro js its nx os l ds k hn ⟨hz, hJ, hO, h0, hf, hsf, hsd⟩ hF
    cases hJ with
    | nil =>
      cases hF
      obtain ⟨nd, h1, h2⟩ := fin nx os l k h0 hO hf
      exact .done h1 h2
    | @put its js q a t A _ _ _ _ =>
      have := sizes_pos A
      simp only [total, Job.size] at hn
      omega
    | set _ _ _ _ _ _ =>
      simp only [total, Job.size] at hn
      omega
  | succ n ih =>
    rintro js its nx os l ds k hn ⟨hz, hJ, hO, h0, hf, hsf, hsd⟩ hF
    have hlen := hJ.len
    cases hJ with
    | nil =>
      cases hF
      obtain ⟨nd, h1, h2⟩ := fin nx os l k h0 hO hf
      exact .done h1 h2
    | @set its js q o rf t tc hq ho ho0 hol hos hJ =>
      simp only [total, Job.size] at hn hz
      simp only [List.length_append, List.length_cons, List.length_nil, total, Job.size] at hlen
      have hs2 : ∀ p ∈ [(c.sf, c.inst), (c.sd, c.dict)], p ∈ nx := fun p hp => keep3 hsf hsd ho p (List.mem_append_left [(o, tup [.str (Str.ofString "set") tc, .ref rf])] hp)
      refine Puts.emit (n := n + 1) (r2 := nx) (r3 := fun made chg' => chg' ++ nx) ⟨by omega, List.mem_cons_of_mem _ hq, List.mem_cons_of_mem _ hsf, List.mem_cons_of_mem _ hsd⟩
        ⟨Con.wide (D' := 15) (U' := 120) (emitC w c.sf c.sd c.ol c.hs c.ts (.ref o) os k c.nn (by omega)) (by decide) (by decide), fun p hp => List.mem_cons_of_mem _ (hs2 p hp), .cons .head .nil, ⟨hf, trivial⟩, far3 hf hs2⟩ ?_ ?_
      · rintro v made chg' ⟨i, t, rfl, rfl, rfl⟩ _ p hp
        exact hp
      · rintro v made chg' ⟨i, t, rfl, rfl, rfl⟩ _
        exact ih js its nx _ (o :: l) (.set rf :: ds) (k + 1) (by omega) ⟨by rw [Array.size_push]; omega, hJ.grow (fun _ h => h) hos, .push hO ho ⟨_, rfl⟩ ho0 hol, h0, hf, hsf, hsd⟩ hF
    | @put its js q a t A hq hA ok hJ =>
      simp only [total, Job.size] at hn hz
      simp only [List.length_append, List.length_cons, List.length_nil, total, Job.size] at hlen
      have hpos := sizes_pos A
      have H : PHead c its q (Str.ofString "put") (.ref a) t ((c.ol, W.listOf os k) :: nx) := ⟨by omega, List.mem_cons_of_mem _ hq, List.mem_cons_of_mem _ hsf, List.mem_cons_of_mem _ hsd⟩
      by_cases h1 : A.size = 1
      · obtain ⟨d, on, ha, he, hC⟩ := node_leaf (os := os) w c k hA (by omega) h1
        have hk := keep3 hsf hsd ha
        refine Puts.leaf (n := n + 1) (r2 := nx) (r3 := fun made chg' => chg' ++ (made ++ nx)) H ⟨hC, fun p hp => List.mem_cons_of_mem _ (hk p hp), .cons .head .nil, ⟨hf, trivial⟩, far3 hf hk⟩ ?_ ?_
        · rintro v made chg' ⟨D, o, ob, rfl, hm, rfl, hd⟩ _
          exact ⟨D, rfl, List.mem_append_right _ (List.mem_append_left _ (hm ▸ List.mem_cons_self)), sub_swap⟩
        · rintro v made chg' ⟨D, o, ob, rfl, hm, rfl, hd⟩ hA9
          have hA := hA9
          rw [hm] at hA
          obtain ⟨-, ⟨fo⟩, -⟩ := hA
          have fo' : ∀ p ∈ nx, p.1 ≠ o := fun p hp => fo p (List.mem_cons_of_mem _ hp)
          have sub : ∀ p ∈ nx, p ∈ made ++ nx := fun p hp => List.mem_append_right _ hp
          have mo : (o, ob) ∈ made ++ nx := List.mem_append_left _ (hm ▸ .tail _ (.head _))
          exact ih js its (made ++ nx) _ (o :: l) (d :: ds) (k + 1) (by omega) ⟨by rw [Array.size_push]; omega, hJ.grow sub (hJ.fresh fo'), .push (hO.mono sub) mo hd ⟨fun p hp => fo' p (h0 p hp)⟩ (hO.fresh fo'), fun p hp => sub p (h0 p hp), far_ahead hA9 hf, sub _ hsf, sub _ hsd⟩
            (by rw [← hF]; show emits js _ = emits js (A.emit ds); rw [he])
      · cases hA with
        | len _ => exact absurd rfl h1
        | chars _ => exact absurd rfl h1
        | arb _ => exact absurd rfl h1
        | fail _ => exact absurd rfl h1
        | @now _ b rf tn B hn9 hB =>
          simp only [Node.size] at hn hz
          have hk := keep3 hsf hsd hn9
          refine Puts.two (n := n + 1) (r2 := nx) (r3 := fun made chg' => chg' ++ (made ++ nx)) (its2 := fun made => its ++ [.ref (made.getD 2 (0, tup [])).1, .ref (made.getD 1 (0, tup [])).1]) H ⟨begNow w c.sf c.sd c.ol a c.hs c.ts os k c.nn b rf tn (by omega), fun p hp => List.mem_cons_of_mem _ (hk p hp), .cons .head .nil, ⟨hf, trivial⟩, far3 hf hk⟩ ?_ ?_
          · rintro v made chg' ⟨D, q1, q2, o2, o, c1, p1, p2, p3, rfl, hm, rfl⟩ _
            exact ⟨D, q1, q2, _, rfl, List.mem_append_right _ (List.mem_append_left _ (hm ▸ List.mem_cons_self)), sub_swap, by rw [hm]; rfl⟩
          · rintro v made chg' ⟨D, q1, q2, o2, o, c1, p1, p2, p3, rfl, hm, rfl⟩ hA9
            have hA := hA9
            rw [hm] at hA
            obtain ⟨-, -, -, ⟨f3⟩, ⟨fo⟩, -⟩ := hA
            have foo : o ≠ o2 := f3 (o, _) List.mem_cons_self
            have fo' : ∀ p ∈ nx, p.1 ≠ o := fun p hp => fo p (List.mem_cons_of_mem _ hp)
            have f3' : ∀ p ∈ nx, p.1 ≠ o2 := fun p hp => f3 p (List.mem_cons_of_mem _ (List.mem_cons_of_mem _ hp))
            have sub : ∀ p ∈ nx, p ∈ made ++ nx := fun p hp => List.mem_append_right _ hp
            have m1 : (q1, tup [.str (Str.ofString "put") p1, .ref b]) ∈ made ++ nx := List.mem_append_left _ (hm ▸ .tail _ (.head _))
            have m2 : (q2, tup [.str (Str.ofString "emit") p2, .ref o2]) ∈ made ++ nx := List.mem_append_left _ (hm ▸ .tail _ (.tail _ (.head _)))
            have m3 : (o2, tup [.str (Str.ofString "set") p3, .ref rf]) ∈ made ++ nx := List.mem_append_left _ (hm ▸ .tail _ (.tail _ (.tail _ (.head _))))
            have m4 : (o, tup [.str (Str.ofString "mark") c1]) ∈ made ++ nx := List.mem_append_left _ (hm ▸ .tail _ (.tail _ (.tail _ (.tail _ (.head _)))))
            have hi : its ++ [.ref (made.getD 2 (0, tup [])).1, .ref (made.getD 1 (0, tup [])).1] = its ++ [.ref q2] ++ [.ref q1] := by rw [hm, List.append_assoc]; rfl
            show Puts w c Post (n + 1) (its ++ [.ref (made.getD 2 (0, tup [])).1, .ref (made.getD 1 (0, tup [])).1]) _
            rw [hi]
            refine ih (.put B :: .set o2 rf :: js) _ (made ++ nx) (os.push (.ref o)) (o :: l) (.mark :: ds) (k + 1) (by simp only [total, Job.size]; omega) ⟨by rw [Array.size_push]; simp only [total, Job.size]; omega,
              .put m1 (hB.mono sub) ok (.set m2 m3 ⟨fun p hp => f3' p (h0 p hp)⟩ (fun x hx => ?_) (hJ.fresh f3') (hJ.grow sub (hJ.fresh fo'))),
              .push (hO.mono sub) m4 ⟨c1, rfl⟩ ⟨fun p hp => fo' p (h0 p hp)⟩ (hO.fresh fo'), fun p hp => sub p (h0 p hp), far_ahead hA9 hf, sub _ hsf, sub _ hsd⟩ (by rw [← hF]; rfl)
            rcases List.mem_cons.mp hx with e | hx
            · rw [e]; exact foo
            · exact hO.fresh f3' x hx
        | @cat _ x y tn X Y hn9 hX hY =>
          simp only [Node.size] at hn hz
          obtain ⟨⟨o1, o2, o3, o4⟩, o5, o6⟩ := ok
          obtain ⟨tx, xx, hx⟩ := hX.hd
          have hC : ∃ on2 : Obj, (y, on2) ∈ nx ∧ Con w 70 [.ref c.sf, .ref a] [] [(a, tup [.str (Str.ofString "cat") tn, .ref x, .ref y]), (x, tup (.str X.head tx :: xx)), (y, on2)] 15 120
              fun v made chg' => ∃ (D q1 q2 : Addr) (p1 p2 : Tok), v = .ref D ∧ made = [(D, W.listOf #[.ref q1, .ref q2] 2), (q1, tup [.str (Str.ofString "put") p1, .ref x]), (q2, tup [.str (Str.ofString "put") p2, .ref y])] ∧ chg' = [] := by
            rcases o4 with h | ⟨s, rfl, hs⟩
            · obtain ⟨ty, xy, hy⟩ := hY.hd
              exact ⟨_, hy, Con.wide (D' := 15) (U' := 120) (begunA w c.sf a x y tn tx ty X.head Y.head xx xy o1 o2 o3 h) (by decide) (by decide)⟩
            · cases hY with
              | @chars _ ty tr _ hy => exact ⟨_, hy, Con.wide (D' := 15) (U' := 120) (begunB w c.sf a x y tn tx ty tr X.head s xx o1 o3 hs) (by decide) (by decide)⟩
          obtain ⟨on2, hy, hC⟩ := hC
          refine Puts.two (n := n + 1) (r2 := (c.ol, W.listOf os k) :: nx) (r3 := fun made _ => [(c.ol, W.listOf os k)] ++ (made ++ nx)) (its2 := fun made => its ++ [.ref (made.getD 2 (0, tup [])).1, .ref (made.getD 1 (0, tup [])).1]) H ⟨hC, fun p hp => ?_, .nil, trivial, trivial⟩ ?_ ?_
          · rcases List.mem_cons.mp hp with rfl | hp
            · exact List.mem_cons_of_mem _ hn9
            · rcases List.mem_cons.mp hp with rfl | hp
              · exact List.mem_cons_of_mem _ hx
              · rw [List.mem_singleton.mp hp]; exact List.mem_cons_of_mem _ hy
          · rintro v made chg' ⟨D, q1, q2, p1, p2, rfl, hm, rfl⟩ _
            exact ⟨D, q1, q2, _, rfl, List.mem_append_right _ (List.mem_append_left _ (hm ▸ List.mem_cons_self)), sub_swap, by rw [hm]; rfl⟩
          · rintro v made chg' ⟨D, q1, q2, p1, p2, rfl, hm, rfl⟩ hA9
            have sub : ∀ p ∈ nx, p ∈ made ++ nx := fun p hp => List.mem_append_right _ hp
            have m1 : (q1, tup [.str (Str.ofString "put") p1, .ref x]) ∈ made ++ nx := List.mem_append_left _ (hm ▸ .tail _ (.head _))
            have m2 : (q2, tup [.str (Str.ofString "put") p2, .ref y]) ∈ made ++ nx := List.mem_append_left _ (hm ▸ .tail _ (.tail _ (.head _)))
            have hi : its ++ [.ref (made.getD 2 (0, tup [])).1, .ref (made.getD 1 (0, tup [])).1] = its ++ [.ref q2] ++ [.ref q1] := by rw [hm, List.append_assoc]; rfl
            show Puts w c Post (n + 1) (its ++ [.ref (made.getD 2 (0, tup [])).1, .ref (made.getD 1 (0, tup [])).1]) _
            rw [hi]
            exact ih (.put X :: .put Y :: js) _ (made ++ nx) os l ds k (by simp only [total, Job.size]; omega) ⟨by simp only [total, Job.size]; omega,
              .put m1 (hX.mono sub) o5 (.put m2 (hY.mono sub) o6 (hJ.mono sub fun a ha => .inl ha)), hO.mono sub, fun p hp => sub p (h0 p hp), far_ahead hA9 hf, sub _ hsf, sub _ hsd⟩ (by rw [← hF]; rfl)
end
/-- the orders as a ledger, the last one first -/
inductive OrdsL : Array Value → Led → List Ord → Prop
  | nil : OrdsL #[] [] []
  | push {os : Array Value} {m : Led} {ds : List Ord} {o : Addr} {ob : Obj} {d : Ord} (h : OrdsL os m ds) (hd : d.is ob) : OrdsL (os.push (.ref o)) ((o, ob) :: m) (d :: ds)
theorem OrdsAt.led {r r0 : Led} {ol : Addr} {x : Obj} (hf : Far ol r) {os : Array Value} {l : List Addr} {ds : List Ord} (h : OrdsAt r r0 os l ds) : ∃ m : Led, OrdsL os m ds ∧ (∀ p ∈ m, p.1 ∈ l) ∧ (∀ p ∈ m, p ∈ r) ∧ Fars m ((ol, x) :: r0) := by
  induction h with
  | nil => exact ⟨[], .nil, (fun _ h => nomatch h), (fun _ h => nomatch h), trivial⟩
  | @push os l ds o ob d _ hm hd h0 hl ih =>
    obtain ⟨m, h1, h2, h3, h4⟩ := ih
    refine ⟨(o, ob) :: m, .push h1 hd, fun p hp => ?_, fun p hp => ?_, ⟨⟨fun p hp => ?_⟩, h4⟩⟩
    · rcases List.mem_cons.mp hp with rfl | hp
      · exact List.mem_cons_self
      · exact List.mem_cons_of_mem _ (h2 p hp)
    · rcases List.mem_cons.mp hp with rfl | hp
      · exact hm
      · exact h3 p hp
    · rcases List.mem_append.mp hp with hp | hp
      · exact hl _ (h2 p hp)
      · rcases List.mem_cons.mp hp with rfl | hp
        · exact fun e => hf.all _ hm e.symm
        · exact h0.all p hp
theorem Spec.mono {w : World} {f : Addr} {args : List Value} {need : Led} {D U : Nat} {P P' : Value → Led → Prop} (S : Spec w f args need D U P) (h : ∀ v nd, P v nd → P' v nd) : Spec w f args need D U P' := by
  intro dp un gd cn cs a ccd cl outer A₀ base h₀ L m s Q E mean mg mb rest B F X N dis T hk hd hu hret
  exact S dp un gd cn cs a ccd cl outer A₀ base h₀ L m s Q E mean mg mb rest B F X N dis T hk hd hu fun v nd h' tk' hP => hret v nd h' tk' (h v nd hP)
theorem putC (w : World) (c : PC) (n0 : Addr) (A : Node) (k : Nat) (ns : Led) (hz : A.size ≤ 80) (hok : A.ok) (hA : NodeAt ns n0 A) :
    Con w 65 [.ref c.sf, .ref n0] [(c.ol, W.listOf #[] k)] ((c.sf, c.inst) :: (c.sd, c.dict) :: ns) 25 200
      (fun v made chg' => ∃ (os : Array Value) (k' : Nat), v = .none ∧ chg' = [(c.ol, W.listOf os k')] ∧ OrdsL os made (A.emit [])) := by
  intro hF
  have hf : Far c.ol ((c.sf, c.inst) :: (c.sd, c.dict) :: ns) := ⟨hF.1.all⟩
  refine Spec.mono (putG w c n0 (A.size + 1) ((c.ol, W.listOf #[] k) :: (c.sf, c.inst) :: (c.sd, c.dict) :: ns) (fun nd => ∃ (made : Led) (os : Array Value) (k' : Nat), nd = made ++ ([(c.ol, W.listOf os k')] ++ ((c.sf, c.inst) :: (c.sd, c.dict) :: ns)) ∧ Fars made ([(c.ol, W.listOf os k')] ++ ((c.sf, c.inst) :: (c.sd, c.dict) :: ns)) ∧ OrdsL os made (A.emit []))
    (List.mem_cons_of_mem _ List.mem_cons_self) (fun q t => (c.ol, W.listOf #[] k) :: (q, tup [.str (Str.ofString "put") t, .ref n0]) :: (c.sf, c.inst) :: (c.sd, c.dict) :: ns) (fun q t p hp => ?_) fun q t hq => ?_) fun v nd h => ?_
  · rcases List.mem_cons.mp hp with rfl | hp
    · exact List.mem_cons_of_mem _ List.mem_cons_self
    · rcases List.mem_cons.mp hp with rfl | hp
      · exact List.mem_cons_self
      · exact List.mem_cons_of_mem _ (List.mem_cons_of_mem _ hp)
  · have sub : ∀ p ∈ (c.sf, c.inst) :: (c.sd, c.dict) :: ns, p ∈ (q, tup [.str (Str.ofString "put") t, .ref n0]) :: (c.sf, c.inst) :: (c.sd, c.dict) :: ns := fun p hp => List.mem_cons_of_mem _ hp
    have hfq : Far c.ol ((q, tup [.str (Str.ofString "put") t, .ref n0]) :: (c.sf, c.inst) :: (c.sd, c.dict) :: ns) := ⟨fun p hp => by
      rcases List.mem_cons.mp hp with rfl | hp
      · exact fun e => hq.all (c.ol, W.listOf #[] k) List.mem_cons_self e.symm
      · exact hf.all p hp⟩
    refine puts_of (r0 := (c.sf, c.inst) :: (c.sd, c.dict) :: ns) (F := A.emit []) (fun nx os l k' h0 hO hfx => ?_) A.size [.put A] [.ref q] _ #[] [] [] k (Nat.le_of_eq (Nat.add_zero _)) ⟨?_, .put (its := []) List.mem_cons_self (hA.mono fun p hp => sub p (List.mem_cons_of_mem _ (List.mem_cons_of_mem _ hp))) hok .nil, .nil, sub, hfq, sub _ List.mem_cons_self, sub _ (List.mem_cons_of_mem _ List.mem_cons_self)⟩ rfl
    · obtain ⟨m, h1, -, h3, h4⟩ := hO.led (x := W.listOf os k') hfx
      refine ⟨m ++ ([(c.ol, W.listOf os k')] ++ ((c.sf, c.inst) :: (c.sd, c.dict) :: ns)), fun p hp => ?_, m, os, k', rfl, h4, h1⟩
      rcases List.mem_append.mp hp with hp | hp
      · exact List.mem_cons_of_mem _ (h3 p hp)
      · rcases List.mem_cons.mp hp with rfl | hp
        · exact List.mem_cons_self
        · exact List.mem_cons_of_mem _ (h0 p hp)
    · show 0 + (A.size + 0) ≤ 90
      have h2 : @LE.le Nat _ A.size 80 := hz
      omega
  · obtain ⟨rfl, made, os, k', e, h1, h2⟩ := h
    exact ⟨made, [(c.ol, W.listOf os k')], e, h1, rfl, os, k', rfl, rfl, h2⟩
theorem OrdsL.nth {os : Array Value} {m : Led} {ds : List Ord} (h : OrdsL os m ds) : ∀ (i : Nat) (v : Value), os[i]? = some v → ∃ (o : Addr) (g : Str) (t : Tok) (r : List Value), v = .ref o ∧ (o, tup (.str g t :: r)) ∈ m ∧ g ≠ Str.ofString "jump" ∧ g ≠ Str.ofString "split" := by
  induction h with
  | nil => intro i v hv; simp at hv
  | @push os m ds o ob d _ hd ih =>
    intro i v hv
    rw [Array.getElem?_push] at hv
    split at hv
    · cases hv
      have : ∃ (g : Str) (t : Tok) (r : List Value), ob = tup (.str g t :: r) ∧ g ≠ Str.ofString "jump" ∧ g ≠ Str.ofString "split" := by
        cases d with
        | mark => obtain ⟨c, rfl⟩ := hd; exact ⟨_, _, _, rfl, by decide, by decide⟩
        | len k => obtain ⟨c, _, _, rfl⟩ := hd; exact ⟨_, _, _, rfl, by decide, by decide⟩
        | chars s => obtain ⟨c, _, _, rfl⟩ := hd; exact ⟨_, _, _, rfl, by decide, by decide⟩
        | arb => obtain ⟨c, _, rfl⟩ := hd; exact ⟨_, _, _, rfl, by decide, by decide⟩
        | fail => obtain ⟨c, rfl⟩ := hd; exact ⟨_, _, _, rfl, by decide, by decide⟩
        | set rf => obtain ⟨c, rfl⟩ := hd; exact ⟨_, _, _, rfl, by decide, by decide⟩
      obtain ⟨g, t, r, rfl, h1, h2⟩ := this
      exact ⟨o, g, t, r, rfl, List.mem_cons_self, h1, h2⟩
    · obtain ⟨o', g, t, r, e, hm, h1, h2⟩ := ih i v hv
      exact ⟨o', g, t, r, e, List.mem_cons_of_mem _ hm, h1, h2⟩
theorem OrdsL.size {os : Array Value} {m : Led} {ds : List Ord} (h : OrdsL os m ds) : os.size = ds.length := by
  induction h with
  | nil => rfl
  | push _ _ ih => rw [Array.size_push, ih]; rfl
theorem done_nth {os : Array Value} {m : Led} {ds : List Ord} {o : Addr} {c : Tok} (h : OrdsL os m ds) : ∀ (i : Nat) (v : Value), (os.push (.ref o))[i]? = some v → ∃ (o' : Addr) (g : Str) (t : Tok) (r : List Value), v = .ref o' ∧ (o', tup (.str g t :: r)) ∈ (o, tup [.str (Str.ofString "done") c]) :: m ∧ g ≠ Str.ofString "jump" ∧ g ≠ Str.ofString "split" := by
  intro i v hv
  rw [Array.getElem?_push] at hv
  split at hv
  · cases hv
    exact ⟨o, _, c, [], rfl, List.mem_cons_self, by decide, by decide⟩
  · obtain ⟨o', g, t, r, e, hm, h1, h2⟩ := h.nth i v hv
    exact ⟨o', g, t, r, e, List.mem_cons_of_mem _ hm, h1, h2⟩
theorem comp_mid {g h : Heap} {L : Addr} {a b c : Addr × Obj} {m ns : Led} (N : News g L h (m ++ ([a] ++ (b :: c :: ns)))) : News g L h (a :: b :: c :: (m ++ ns)) := news_sub N fun p hp => by
  simp only [List.mem_append, List.mem_cons, List.not_mem_nil, or_false] at hp ⊢
  rcases hp with h | h | h | h | h <;> simp only [h, true_or, or_true]
theorem comp_far {ol : Addr} {o : Obj} {b c : Addr × Obj} {m ns : Led} (A : Fars m ([(ol, o)] ++ (b :: c :: ns))) (hY : ∀ p ∈ ns, p.1 ≠ ol) : Far ol (m ++ ns) := ⟨fun p hp => by
  rcases List.mem_append.mp hp with hp | hp
  · exact fars_in A p hp _ List.mem_cons_self
  · exact hY p hp⟩
theorem comp_fars {a b c : Addr × Obj} {m ns : Led} (A : Fars m ([a] ++ (b :: c :: ns))) : Fars m ns := fars_mono A fun p hp => .inl (List.mem_cons_of_mem _ (List.mem_cons_of_mem _ (List.mem_cons_of_mem _ hp)))
end

section
set_option maxHeartbeats 1500000
theorem compileC (w : World) (n0 : Addr) (A : Node) (ns : Led) (hz : A.size ≤ 80) (hok : A.ok) (hA : NodeAt ns n0 A) (hn : (A.emit []).length ≤ 90) :
    Con w 112 [.ref n0] [] ns 30 240
      (fun v made chg' => ∃ (L o : Addr) (k : Nat) (os : Array Value) (m : Led) (c : Tok), v = .ref L ∧ made = (L, W.listOf (os.push (.ref o)) k) :: (o, tup [.str (Str.ofString "done") c]) :: m ∧ chg' = [] ∧ OrdsL os m (A.emit [])) := by
  k_with_none
  (k_with "WhlIf" => ((first | (refine WhlIf.yes (by with_unfolding_all rfl) ?_) | (refine WhlIf.no (by with_unfolding_all rfl) ?_) | (refine WhlIf.yes (by decide) ?_) | (refine WhlIf.no (by decide) ?_)); (try k_fold)))
  (k_with "setAttr ref" => (k_here; k_dflt (refine set_dict_any (by k_asm) (by k_asm) (by k_asm) (by k_inst) (by exact rfl) (by k_is) (by k_is) (by k_is) (by k_is) (by k_get) (by (intro kH kt; k_put)) (by (intro kH kt; k_upd)) (by (intro kH kt; exact Nat.le_of_ble_eq_true rfl)) ?_; k_whole); intro kwh kwH kwt kwF kwN; (try k_sweep)))
  (k_with "k_allIn" => (first | exact List.forall_mem_nil _ | (refine List.forall_mem_cons.mpr ⟨by (first | exact nth_mem 0 rfl | exact nth_mem 1 rfl | exact nth_mem 2 rfl | exact nth_mem 3 rfl | exact nth_mem 4 rfl | exact nth_mem 5 rfl | exact nth_mem 6 rfl | exact nth_mem 7 rfl | exact nth_mem 8 rfl | exact nth_mem 9 rfl | exact nth_mem 10 rfl | exact nth_mem 11 rfl | exact nth_mem 12 rfl | exact nth_mem 13 rfl | exact nth_mem 14 rfl | exact nth_mem 15 rfl | exact nth_mem 16 rfl | exact nth_mem 17 rfl | exact nth_mem 18 rfl | exact nth_mem 19 rfl | exact nth_mem 20 rfl | exact nth_mem 21 rfl | exact nth_mem 22 rfl | exact nth_mem 23 rfl | exact nth_mem 24 rfl | exact nth_mem 25 rfl | k_memK), ?_⟩; k_allIn)))
  (k_with "lcg_sub" => (first | exact List.forall_mem_nil _ | (refine List.forall_mem_cons.mpr ⟨by (first | exact nth_mem 0 rfl | exact nth_mem 1 rfl | exact nth_mem 2 rfl | exact nth_mem 3 rfl | exact nth_mem 4 rfl | exact nth_mem 5 rfl | exact nth_mem 6 rfl | exact nth_mem 7 rfl | exact nth_mem 8 rfl | exact nth_mem 9 rfl | exact nth_mem 10 rfl | exact nth_mem 11 rfl | exact nth_mem 12 rfl | exact nth_mem 13 rfl | exact nth_mem 14 rfl | exact nth_mem 15 rfl | exact nth_mem 16 rfl | exact nth_mem 17 rfl | exact nth_mem 18 rfl | exact nth_mem 19 rfl | exact nth_mem 20 rfl | exact nth_mem 21 rfl | exact nth_mem 22 rfl | exact nth_mem 23 rfl | exact nth_mem 24 rfl | exact nth_mem 25 rfl | k_mem), ?_⟩; lcg_sub)))
  (k_with "k_ne" => (refine neN ?_; (try dsimp only); first
    | exact allLt_ne (by with_reducible assumption) (by k_mem)
    | exact allLt_ne' (by with_reducible assumption) (by k_mem)
    | exact far_ne (by with_reducible assumption) (by k_mem)
    | exact far_ne' (by with_reducible assumption) (by k_mem)
    | exact allLt_ne2 (by with_reducible assumption) (by with_reducible assumption) (by k_mem)
    | exact allLt_ne2' (by with_reducible assumption) (by with_reducible assumption) (by k_mem)
    | exact Nat.ne_of_lt (by assumption)
    | exact Nat.ne_of_gt (by assumption)
    | assumption
    | (refine Ne.symm ?_; assumption)
    | exact off1_ne (by assumption) (by k_mem)
    | (refine Ne.symm ?_; exact off1_ne (by assumption) (by k_mem))
    | exact apart_ne (by assumption) (by k_mem) (by k_mem)
    | exact apart_ne' (by assumption) (by k_mem) (by k_mem)
    | omega))
  (k_with "lcg_off" => first | exact True.intro | assumption | (refine And.intro ⟨by k_ne, by k_ne, by k_ne⟩ ?_; lcg_off))
  (k_with "k_room" => ((try simp only [depth_under_make, depth_under_kw, depth_in1, depth_deeper, depth_caller]); (try dsimp only [ktrTop]); first | exact Nat.le_of_ble_eq_true rfl | exact room1 (by assumption) rfl | exact room2 (by assumption) rfl | exact room3 (by assumption) rfl | exact room4 (by assumption) rfl | omega))
  (k_with "k_units" => ((try simp only [units_in1, units_deeper, Around.mark_units, units_caller]); (try dsimp only [ktrTop]); first | exact Nat.le_of_ble_eq_true rfl | exact room1 (by assumption) rfl | exact room2 (by assumption) rfl | exact room3 (by assumption) rfl | exact room4 (by assumption) rfl | omega))
  (k_with "eval ListComp" => (k_here; k_dflt (refine LCg.ListComp_U (F₀ := by k_asm) (by with_unfolding_all rfl) (by decide) (by rfl) (by decide) (by rfl) ?_)))
  (k_with "CompRest" => (with_unfolding_all first
    | (refine LCg.CompRest.succ ?_; intro kwv kwI kwoI kwC kwoC kwD kwm kwh kwtk kwE kwhv kwhC kwhx kwF kwN kwoff kwne; (first | lcg_open kwhv | (obtain ⟨kwt9, kwhv9⟩ := kwhv; subst kwhv9)))
    | refine LCg.CompRest.zero ?_))
  (k_with "FinE" => ((unfold LCg.FinE); intro kwD kwh kwtk kwF kwN kwo1; (try simp only [List.nil_append, List.cons_append] at kwN); (try dsimp only)))
  (k_with "compareOp In str ref" => (k_here; (with_reducible show wpAny _ _ (compareOp CmpOp.In (Value.str _ _) (Value.ref _)) _ _ _); k_dflt (first
    | (refine in_topTup (b := true) (by k_asm) (by k_asm) (by k_is) (by (repeat constructor)) (by decide) ?_; k_whole)
    | (refine in_topTup (b := false) (by k_asm) (by k_asm) (by k_is) (by (repeat constructor)) (by decide) ?_; k_whole))))
  (k_with "k_enter" => ((fail_if_success k_inElt); (refine code_def (by k_asm) (by k_asm) (by k_asm) (by k_asm) (by k_asm) rfl rfl rfl (by k_is) (by k_is) (by k_room) (by (first | exact binds1 rfl | exact binds2 rfl | exact binds3 rfl | exact binds4 rfl | exact binds7 rfl)) (by exact locs rfl) ?_ rfl rfl rfl (by decide); k_whole; intro kwg kwL kwh kwFG kwF kwN kwB kwX kwT; (try dsimp only [List.reverse_cons, List.reverse_nil, List.nil_append, List.cons_append]); (try k_lift kwB); (try k_fold))))
  (k_with "compareOp Eq str str" => (k_here; refine eq_str_no (by assumption) ?_))
  (k_with "subscriptTail Name Constant ref int" => (k_here; (with_reducible show wpAny _ _ (subscriptTail _ _ (Value.ref _) (Value.int 0 _)) _ _ _); k_dflt (refine head_tup (by k_asm) (by k_mem) ?_ (by with_unfolding_all rfl); k_whole)))
  (k_with "call builtin:len" => (k_here; (with_reducible show wpAny _ _ (call (Value.builtin "len") [Value.ref _]) _ _ _); k_dflt (refine len_any (by k_asm) (by k_mem) (by (first | assumption | omega | (simp only [Array.size_push]; omega))) ?_); k_whole))
  (k_with "compareOp In str ref" => (k_here; (with_reducible show wpAny _ _ (compareOp CmpOp.In (Value.str _ _) (Value.ref _)) _ _ _); k_dflt (refine in_nil (by k_asm) (by k_mem) ?_)))
  (k_with "call ref" => (k_here; (with_reducible show wpAny _ _ (call (Value.ref 58) [_, _]) _ _ _); k_dflt (refine Con.use2 (by k_asm) (by k_asm) (by k_allIn) (by ((repeat (first | exact Take.nil | (apply Take.cons; focus ((repeat (first | exact Rem.head | apply Rem.tail)); done)))); done)) (by ((repeat (first | exact fars_nil | refine fars_cons (by ((try simp only [List.cons_append, List.nil_append]); k_all)) ?_)); done)) (by ((repeat (first | exact fars_nil | refine fars_cons (by ((try simp only [List.cons_append, List.nil_append]); k_all)) ?_)); done)) (by k_asm) (by k_asm) (by k_asm) rfl (by k_room) (by k_units) (emitC _ _ _ _ _ _ _ _ _ _  (by (first | decide | (simp only [Array.size_push]; decide) | (with_unfolding_all decide) | exact Nat.le_of_ble_eq_true rfl))) ?_); rintro v9 made9 chg9 h9 tk9 ⟨i9, t9, e9, f9, g9⟩ F9 N9 A9; subst e9; subst f9; subst g9; (try simp only [List.cons_append, List.nil_append] at N9); (try dsimp only [Fars, List.cons_append, List.nil_append] at A9); clear A9; (try dsimp only); (try k_sweep)))
  (k_with "k_mem" => first | assumption | exact List.Mem.head _ | (refine List.Mem.tail _ ?_; k_mem) | fail)
  (k_with "k_memK" => first | assumption | exact List.Mem.head _ | (refine List.Mem.tail _ ?_; k_memK) | fail)
  (k_with "k_all" => first | exact List.forall_mem_nil _ | exact Far.all (by with_reducible assumption) | exact young_sub (by with_reducible assumption) (by intro p hp; (repeat (first | exact hp | refine List.mem_cons_of_mem _ ?_)); (first | done | fail)) | exact young_sub2 (by with_reducible assumption) (by with_reducible assumption) (by intro p hp; (repeat (first | exact hp | refine List.mem_cons_of_mem _ ?_)); (first | done | fail)) | (refine List.forall_mem_cons.mpr ⟨by k_ne, ?_⟩; k_all))
  (k_with "call ref" => (k_here; (with_reducible show wpAny _ _ (call (Value.ref 65) [Value.ref _, Value.ref _]) _ _ _); refine hold_of ?_))
  (k_with "call ref" => (k_here; (with_reducible show wpAny _ _ (call (Value.ref 105) [Value.ref _]) _ _ _); refine hold_of ?_))
  intro hF
  clear hF
  unfold Spec
  k_fill
  intro dp un gd cn cs a ccd cl outer A₀ base h₀ L m s Q E mean mg mb rest B F X N dis T hk hdp hun hret
  simp only [List.nil_append] at N dis hret
  refine' enterR B F X N dis T hk ?room ?ho ?hcd ?bind ?loc ?_ ?hcell ?hco ?hgen ?hkk
  case room => first | exact room0 (by assumption) | omega
  case ho => k_dflt k_is
  case hcd => k_dflt k_is
  case bind => exact binds1 rfl
  case loc => exact locs rfl
  case hcell => decide
  case hco => exact rfl
  case hgen => exact rfl
  case hkk => exact rfl
  intro g L' h₁ F' N' B' X' T'
  clear B F X N T dis
  k_fold
  k_steps
  unfold Hold
  rename Fr _ _ _ _ => lF
  rename News _ _ _ _ => lN
  refine' Con.use (putC w ⟨_, _, _, _, _, _⟩ n0 A _ ns hz hok hA) ?B lF ?X lN ?T ?kk (fun q hq => List.mem_cons_of_mem _ hq) (.cons .head .nil) ⟨⟨?f1⟩, trivial⟩ ⟨⟨?f2⟩, trivial⟩ ?room ?un ?_
  case B => k_asm
  case X => k_asm
  case T => k_asm
  case kk => exact rfl
  case f1 => k_all
  case f2 => k_all
  case room => k_room
  case un => k_units
  clear lF
  intro v9 made9 chg9 h9 tk9 hP F9 N9 A9
  obtain ⟨os, k9, rfl, rfl, hO⟩ := hP
  replace N9 := comp_mid N9
  have hr9 := comp_far A9 (by k_all)
  have hfm := comp_fars A9
  have hsz : os.size ≤ 90 := hO.size ▸ hn
  clear A9 lN
  have hm9 : ∀ p ∈ made9, p ∈ made9 ++ ns := fun p hp => List.mem_append_left _ hp
  have hn9 : ∀ p ∈ ns, p ∈ made9 ++ ns := fun p hp => List.mem_append_right _ hp
  generalize made9 ++ ns = r9 at N9 hr9 hm9 hn9
  try k_fold
  k_steps
  unfold Hold
  rename Fr _ _ _ _ => lF
  rename News _ _ _ _ => lN
  refine' Con.use (straightG w _ _ _ (_ :: made9) (done_nth hO) ?hz9) ?B lF ?X lN ?T ?kk (fun q hq => ?hK) .nil trivial trivial ?room ?un ?_
  case hz9 => rw [Array.size_push]; omega
  case hK =>
    rcases List.mem_cons.mp hq with rfl | hq
    · k_mem
    · rcases List.mem_cons.mp hq with rfl | hq
      · k_mem
      · (repeat (first | exact hm9 q hq | refine List.mem_cons_of_mem _ ?_))
  case B => k_asm
  case X => k_asm
  case T => k_asm
  case kk => exact rfl
  case room => k_room
  case un => k_units
  clear lF lN
  intro v9 made8 chg9 h9 tk9 hP F9 N9 A9
  obtain ⟨Fl, k8, rfl, rfl, rfl⟩ := hP
  simp only [List.cons_append, List.nil_append] at N9
  obtain ⟨A0, -⟩ := A9
  simp only [List.nil_append] at A0
  try k_fold
  k_steps
  rename Fr _ _ _ _ => lF
  rename News _ _ _ _ => lN
  refine leaveR lF lN fun kF kN kA => ?_
  refine' hret _ _ _ _ ⟨(Fl, _) :: (_, tup [.str (Str.ofString "done") 217]) :: made9, [], rfl, ⟨⟨?fF⟩, ⟨?fo⟩, hfm⟩, rfl, Fl, _, _, os, made9, _, rfl, rfl, rfl, hO⟩ kF (news_sub2 kN ?sub) (apart_sub kA ?sub2)
  case sub =>
    intro p hp
    rcases List.mem_append.mp hp with hp | hp
    · rcases List.mem_cons.mp hp with rfl | hp
      · exact List.mem_cons_self
      · rcases List.mem_cons.mp hp with rfl | hp
        · exact List.mem_cons_of_mem _ List.mem_cons_self
        · (repeat (first | exact hm9 p hp | exact hn9 p hp | refine List.mem_cons_of_mem _ ?_))
    · (repeat (first | exact hm9 p hp | exact hn9 p hp | refine List.mem_cons_of_mem _ ?_))
  case sub2 =>
    intro p hp
    rcases List.mem_append.mp hp with hp | hp
    · rcases List.mem_cons.mp hp with rfl | hp
      · exact List.mem_cons_self
      · rcases List.mem_cons.mp hp with rfl | hp
        · exact List.mem_cons_of_mem _ List.mem_cons_self
        · (repeat (first | exact hm9 p hp | exact hn9 p hp | refine List.mem_cons_of_mem _ ?_))
    · (repeat (first | exact hm9 p hp | exact hn9 p hp | refine List.mem_cons_of_mem _ ?_))
  case fF =>
    intro p hp
    refine A0.all p ?_
    rcases List.mem_cons.mp hp with rfl | hp
    · exact List.mem_cons_self
    · rcases List.mem_append.mp hp with hp | hp
      · (repeat (first | exact hm9 p hp | exact hn9 p hp | refine List.mem_cons_of_mem _ ?_))
      · (repeat (first | exact hm9 p hp | exact hn9 p hp | refine List.mem_cons_of_mem _ ?_))
  case fo =>
    refine young_sub (by with_reducible assumption) fun p hp => ?_
    rcases List.mem_append.mp hp with hp | hp
    · (repeat (first | exact hm9 p hp | exact hn9 p hp | refine List.mem_cons_of_mem _ ?_))
    · (repeat (first | exact hm9 p hp | exact hn9 p hp | refine List.mem_cons_of_mem _ ?_))
end

section
set_option maxHeartbeats 400000
theorem tail2 {x : Addr × Obj} {l : Led} (a b : Addr × Obj) (h : x ∈ l) : x ∈ a :: b :: l := .tail _ (.tail _ h)
theorem compile2 (w : World) (n0 n1 n2 n3 rf : Addr) (t1 t2 t3 t4 t5 : Tok) (size : Int)  :
    Con w 112 [.ref n0] [] [(n0, (nCat t1 n1 n2)), (n1, (nNow t2 n3 rf)), (n2, (oFail t3)), (n3, (nLen t4 size t5))] 30 240
      (fun (v : Value) (made chg' : List (Addr × Obj)) => ∃ (l o1 o2 o3 o4 o5 : Addr) (k : Nat) (c1 c2 c3 c4 c5 c6 c7 : Tok), v = .ref l ∧ made = [(l, W.listOf (vs5 o1 o2 o3 o4 o5) k), (o5, (oDone c7)), (o4, (oFail c6)), (o3, (oSet c5 rf)), (o2, (oLen c2 c3 size c4)), (o1, (oMark c1))] ∧ chg' = []) := by
  refine (compileC w n0 (.cat (.now (.len size) rf) .fail) _ (Nat.le_of_ble_eq_true rfl) ⟨⟨(by show Str.ofString _ ≠ Str.ofString _; decide), (by show Str.ofString _ ≠ Str.ofString _; decide), (by show Str.ofString _ ≠ Str.ofString _; decide), .inl (by show Str.ofString _ ≠ Str.ofString _; decide)⟩, trivial, trivial⟩ (.cat (a := n1) (b := n2) (t := t1) (.head _) (.now (a := n3) (t := t2) (.tail _ (.head _)) (.len (t := t4) (u := t5) (.tail _ (.tail _ (.tail _ (.head _)))))) (.fail (t := t3) (.tail _ (.tail _ (.head _))))) (Nat.le_of_ble_eq_true rfl)).mono fun v made chg' h => ?_
  obtain ⟨L, o, k, os, m, c, rfl, rfl, rfl, h⟩ := h
  cases h with | push h d4 => cases h with | push h d3 => cases h with | push h d2 => cases h with | push h d1 => cases h with | nil =>
  obtain ⟨c6, rfl⟩ := d4
  obtain ⟨c5, rfl⟩ := d3
  obtain ⟨c2, c3, c4, rfl⟩ := d2
  obtain ⟨c1, rfl⟩ := d1
  exact ⟨L, _, _, _, _, o, k, c1, c2, c3, c4, c5, c6, c, rfl, rfl, rfl⟩
theorem compile1 (w : World) (n0 n1 n2 n3 n4 n5 rf : Addr) (t1 t2 t3 t4 t5 t6 t7 tr : Tok) (ring : Str) (hring : ring ≠ (Str.ofString "")) :
    Con w 112 [.ref n0] [] [(n0, (nCat t1 n1 n2)), (n1, (nNow t2 n3 rf)), (n2, (nChars t3 ring tr)), (n3, (nCat t4 n4 n5)), (n4, (nLen t5 1 t6)), (n5, (nArb t7))] 30 240
      (fun (v : Value) (made chg' : List (Addr × Obj)) => ∃ (l o1 o2 o3 o4 o5 o6 : Addr) (k : Nat) (c1 c2 c3 c4 c5 c6 c7 c8 c9 c10 c11 : Tok), v = .ref l ∧ made = [(l, W.listOf (vs6 o1 o2 o3 o4 o5 o6) k), (o6, (oDone c11)), (o5, (oChars c8 c9 ring c10)), (o4, (oSet c7 rf)), (o3, (oWays c5 c6)), (o2, (oLen c2 c3 1 c4)), (o1, (oMark c1))] ∧ chg' = []) := by
  refine (compileC w n0 (.cat (.now (.cat (.len 1) .arb) rf) (.chars ring)) _ (Nat.le_of_ble_eq_true rfl) ⟨⟨(by show Str.ofString _ ≠ Str.ofString _; decide), (by show Str.ofString _ ≠ Str.ofString _; decide), (by show Str.ofString _ ≠ Str.ofString _; decide), .inr ⟨ring, rfl, hring⟩⟩, ⟨⟨(by show Str.ofString _ ≠ Str.ofString _; decide), (by show Str.ofString _ ≠ Str.ofString _; decide), (by show Str.ofString _ ≠ Str.ofString _; decide), .inl (by show Str.ofString _ ≠ Str.ofString _; decide)⟩, trivial, trivial⟩, trivial⟩
    (.cat (a := n1) (b := n2) (t := t1) (.head _) (.now (a := n3) (t := t2) (.tail _ (.head _)) (.cat (a := n4) (b := n5) (t := t4) (.tail _ (.tail _ (.tail _ (.head _)))) (.len (t := t5) (u := t6) (.tail _ (.tail _ (.tail _ (.tail _ (.head _)))))) (.arb (t := t7) (.tail _ (.tail _ (.tail _ (.tail _ (.tail _ (.head _))))))))) (.chars (t := t3) (u := tr) (.tail _ (.tail _ (.head _))))) (Nat.le_of_ble_eq_true rfl)).mono fun v made chg' h => ?_
  obtain ⟨L, o, k, os, m, c, rfl, rfl, rfl, h⟩ := h
  cases h with | push h d5 => cases h with | push h d4 => cases h with | push h d3 => cases h with | push h d2 => cases h with | push h d1 => cases h with | nil =>
  obtain ⟨c8, c9, c10, rfl⟩ := d5
  obtain ⟨c7, rfl⟩ := d4
  obtain ⟨c5, c6, rfl⟩ := d3
  obtain ⟨c2, c3, c4, rfl⟩ := d2
  obtain ⟨c1, rfl⟩ := d1
  exact ⟨L, _, _, _, _, _, o, k, c1, c2, c3, c4, c5, c6, c7, c8, c9, c10, c, rfl, rfl, rfl⟩
end

section
set_option maxHeartbeats 1500000
theorem runG (w : World) (c : RunC) (b : Int) (ub : Tok) (n : Nat) (k : Int) (need : Led) (Post : Value → Led → Prop) (hsz9 : c.vs.size < 1000) (hmt0 : (c.mt, instObj 526 c.md) ∈ need)
    (hC : ∀ (wy wd : Addr) (T : WayT) (y1 y2 : Tok), Fars [(wy, instObj 449 wd), (wd, wayD T c.ol 0 y1 b y2 .none)] need → Chain w c Post n k wy ((wy, instObj 449 wd) :: (wd, wayD T c.ol 0 y1 b y2 .none) :: need)) :
    Spec w 474 [.ref c.mt, .ref c.ol, .int b ub] need 60 500 Post := by
  k_with_none
  (k_with "WhlIf" => ((first | (refine WhlIf.yes (by with_unfolding_all rfl) ?_) | (refine WhlIf.no (by with_unfolding_all rfl) ?_) | (refine WhlIf.yes (by decide) ?_) | (refine WhlIf.no (by decide) ?_)); (try k_fold)))
  (k_with "setAttr ref" => (k_here; k_dflt (refine set_dict_any (by k_asm) (by k_asm) (by k_asm) (by k_inst) (by exact rfl) (by k_is) (by k_is) (by k_is) (by k_is) (by k_get) (by (intro kH kt; k_put)) (by (intro kH kt; k_upd)) (by (intro kH kt; exact Nat.le_of_ble_eq_true rfl)) ?_; k_whole); intro kwh kwH kwt kwF kwN; (try k_sweep)))
  (k_with "k_allIn" => (first | exact List.forall_mem_nil _ | (refine List.forall_mem_cons.mpr ⟨by (first | exact nth_mem 0 rfl | exact nth_mem 1 rfl | exact nth_mem 2 rfl | exact nth_mem 3 rfl | exact nth_mem 4 rfl | exact nth_mem 5 rfl | exact nth_mem 6 rfl | exact nth_mem 7 rfl | exact nth_mem 8 rfl | exact nth_mem 9 rfl | exact nth_mem 10 rfl | exact nth_mem 11 rfl | exact nth_mem 12 rfl | exact nth_mem 13 rfl | exact nth_mem 14 rfl | exact nth_mem 15 rfl | exact nth_mem 16 rfl | exact nth_mem 17 rfl | exact nth_mem 18 rfl | exact nth_mem 19 rfl | exact nth_mem 20 rfl | exact nth_mem 21 rfl | exact nth_mem 22 rfl | exact nth_mem 23 rfl | exact nth_mem 24 rfl | exact nth_mem 25 rfl | k_memK), ?_⟩; k_allIn)))
  (k_with "lcg_sub" => (first | exact List.forall_mem_nil _ | (refine List.forall_mem_cons.mpr ⟨by (first | exact nth_mem 0 rfl | exact nth_mem 1 rfl | exact nth_mem 2 rfl | exact nth_mem 3 rfl | exact nth_mem 4 rfl | exact nth_mem 5 rfl | exact nth_mem 6 rfl | exact nth_mem 7 rfl | exact nth_mem 8 rfl | exact nth_mem 9 rfl | exact nth_mem 10 rfl | exact nth_mem 11 rfl | exact nth_mem 12 rfl | exact nth_mem 13 rfl | exact nth_mem 14 rfl | exact nth_mem 15 rfl | exact nth_mem 16 rfl | exact nth_mem 17 rfl | exact nth_mem 18 rfl | exact nth_mem 19 rfl | exact nth_mem 20 rfl | exact nth_mem 21 rfl | exact nth_mem 22 rfl | exact nth_mem 23 rfl | exact nth_mem 24 rfl | exact nth_mem 25 rfl | k_mem), ?_⟩; lcg_sub)))
  (k_with "k_ne" => (refine neN ?_; (try dsimp only); first
    | exact allLt_ne (by with_reducible assumption) (by k_mem)
    | exact allLt_ne' (by with_reducible assumption) (by k_mem)
    | exact far_ne (by with_reducible assumption) (by k_mem)
    | exact far_ne' (by with_reducible assumption) (by k_mem)
    | exact allLt_ne2 (by with_reducible assumption) (by with_reducible assumption) (by k_mem)
    | exact allLt_ne2' (by with_reducible assumption) (by with_reducible assumption) (by k_mem)
    | exact Nat.ne_of_lt (by assumption)
    | exact Nat.ne_of_gt (by assumption)
    | assumption
    | (refine Ne.symm ?_; assumption)
    | exact off1_ne (by assumption) (by k_mem)
    | (refine Ne.symm ?_; exact off1_ne (by assumption) (by k_mem))
    | exact apart_ne (by assumption) (by k_mem) (by k_mem)
    | exact apart_ne' (by assumption) (by k_mem) (by k_mem)
    | omega))
  (k_with "lcg_off" => first | exact True.intro | assumption | (refine And.intro ⟨by k_ne, by k_ne, by k_ne⟩ ?_; lcg_off))
  (k_with "k_room" => ((try simp only [depth_under_make, depth_under_kw, depth_in1, depth_deeper, depth_caller]); (try dsimp only [ktrTop]); first | exact Nat.le_of_ble_eq_true rfl | exact room1 (by assumption) rfl | exact room2 (by assumption) rfl | exact room3 (by assumption) rfl | exact room4 (by assumption) rfl | omega))
  (k_with "k_units" => ((try simp only [units_in1, units_deeper, Around.mark_units, units_caller]); (try dsimp only [ktrTop]); first | exact Nat.le_of_ble_eq_true rfl | exact room1 (by assumption) rfl | exact room2 (by assumption) rfl | exact room3 (by assumption) rfl | exact room4 (by assumption) rfl | omega))
  (k_with "eval ListComp" => (k_here; k_dflt (refine LCg.ListComp_U (F₀ := by k_asm) (by with_unfolding_all rfl) (by decide) (by rfl) (by decide) (by rfl) ?_)))
  (k_with "CompRest" => (with_unfolding_all first
    | (refine LCg.CompRest.succ ?_; intro kwv kwI kwoI kwC kwoC kwD kwm kwh kwtk kwE kwhv kwhC kwhx kwF kwN kwoff kwne; (first | lcg_open kwhv | (obtain ⟨kwt9, kwhv9⟩ := kwhv; subst kwhv9)))
    | refine LCg.CompRest.zero ?_))
  (k_with "FinE" => ((unfold LCg.FinE); intro kwD kwh kwtk kwF kwN kwo1; (try simp only [List.nil_append, List.cons_append] at kwN); (try dsimp only)))
  (k_with "compareOp In str ref" => (k_here; (with_reducible show wpAny _ _ (compareOp CmpOp.In (Value.str _ _) (Value.ref _)) _ _ _); k_dflt (first
    | (refine in_topTup (b := true) (by k_asm) (by k_asm) (by k_is) (by (repeat constructor)) (by decide) ?_; k_whole)
    | (refine in_topTup (b := false) (by k_asm) (by k_asm) (by k_is) (by (repeat constructor)) (by decide) ?_; k_whole))))
  (k_with "k_enter" => ((fail_if_success k_inElt); (refine code_def (by k_asm) (by k_asm) (by k_asm) (by k_asm) (by k_asm) rfl rfl rfl (by k_is) (by k_is) (by k_room) (by (first | exact binds1 rfl | exact binds2 rfl | exact binds3 rfl | exact binds4 rfl | exact binds7 rfl)) (by exact locs rfl) ?_ rfl rfl rfl (by decide); k_whole; intro kwg kwL kwh kwFG kwF kwN kwB kwX kwT; (try dsimp only [List.reverse_cons, List.reverse_nil, List.nil_append, List.cons_append]); (try k_lift kwB); (try k_fold))))
  (k_with "compareOp Eq str str" => (k_here; refine eq_str_no (by assumption) ?_))
  (k_with "subscriptTail Name Constant ref int" => (k_here; (with_reducible show wpAny _ _ (subscriptTail _ _ (Value.ref _) (Value.int 0 _)) _ _ _); k_dflt (refine head_tup (by k_asm) (by k_mem) ?_ (by with_unfolding_all rfl); k_whole)))
  (k_with "call builtin:len" => (k_here; (with_reducible show wpAny _ _ (call (Value.builtin "len") [Value.ref _]) _ _ _); k_dflt (refine len_any (by k_asm) (by k_mem) (by (first | assumption | omega | (simp only [Array.size_push]; omega))) ?_); k_whole))
  (k_with "compareOp In str ref" => (k_here; (with_reducible show wpAny _ _ (compareOp CmpOp.In (Value.str _ _) (Value.ref _)) _ _ _); k_dflt (refine in_nil (by k_asm) (by k_mem) ?_)))
  (k_with "WhlRest" => (refine hold_of ?_))
  (k_with "call builtin:list.pop" => (k_here; (try dsimp only); k_dflt (refine kl_pop2 (by k_asm) (by k_asm) (by exact upd_hd (by assumption)) (by exact last_snoc _ _) (by assumption) ?_); intro kwh kwF kwN))
  (k_with "k_mem" => assumption)
  (k_with "k_memK" => assumption)
  (k_with "k_all" => exact Far.all (by with_reducible assumption))
  (k_with "k_all" => first | exact young_sub (by with_reducible assumption) (by intro p hp; repeat (first | exact hp | refine List.mem_cons_of_mem _ ?_)) | exact young_sub2 (by with_reducible assumption) (by with_reducible assumption) (by intro p hp; repeat (first | exact hp | refine List.mem_cons_of_mem _ ?_)))
  (k_with "exec While Compare" => (k_here; refine hold_of ?_))
  (k_with "compareOp Eq str str" => (k_here; refine eq_str_no (by assumption) ?_))
  (k_with "subscriptTail" => (k_here; (with_reducible show wpAny _ _ (subscriptTail _ _ (Value.ref _) (Value.int (Int.ofNat _) _)) _ _ _); k_dflt (refine idx_any (by k_asm) (by k_mem) (by assumption) (by assumption) ?_ (by with_unfolding_all rfl))))
  (k_with "subscriptTail" => (k_here; (with_reducible show wpAny _ _ (subscriptTail _ _ (Value.ref _) (Value.int (Nat.cast _) _)) _ _ _); k_dflt (refine idx_any (by k_asm) (by k_mem) (by assumption) (by assumption) ?_ (by with_unfolding_all rfl))))
  (k_with "call ref" => (k_here; (try dsimp only [List.append_nil, List.nil_append, List.cons_append]); (with_reducible show wpAny _ _ (call (Value.ref 586) [Value.ref _]) _ _ _); k_dflt (refine Con.use2 (by k_asm) (by k_asm) (by k_allIn) (by ((repeat (first | exact Take.nil | (apply Take.cons; focus ((repeat (first | exact Rem.head | apply Rem.tail)); done)))); done)) (by ((repeat (first | exact fars_nil | refine fars_cons (by ((try simp only [List.cons_append, List.nil_append]); k_all)) ?_)); done)) (by ((repeat (first | exact fars_nil | refine fars_cons (by ((try simp only [List.cons_append, List.nil_append]); k_all)) ?_)); done)) (by k_asm) (by k_asm) (by k_asm) rfl (by k_room) (by k_units) (stepC _ _ _ _ _ _ _ _ _ _ _ _ _ _ _ _ _ _ _ _ _ _  (by (first | assumption | decide | omega)) (by (first | assumption | decide | omega))) ?_); rintro v9 made9 chg9 h9 tk9 ⟨t9, e9, f9, g9⟩ F9 N9 A9; subst e9; subst f9; subst g9; (try simp only [List.cons_append, List.nil_append] at N9); (try dsimp only [Fars, List.cons_append, List.nil_append] at A9); clear A9; (try dsimp only); (try k_sweep)))
  (k_with "call ref" => (k_here; (with_reducible show wpAny _ _ (call (Value.ref 488) [Value.ref _, Value.ref _, Value.ref _]) _ _ _); refine hold_of ?_))
  obtain ⟨mt, md, hs, ho, hd, vd, rl, lg, ol, HT, MT, sub, vs, oj⟩ := c
  dsimp only at hsz9 hmt0 hC
  unfold Spec
  k_fill
  intro dp un gd cn cs a ccd cl outer A₀ base h₀ L m s Q E mean mg mb rest B F X N dis T hk hdp hun hret
  refine' enterR B F X N dis T hk ?room ?ho ?hcd ?bind ?loc ?_ ?hcell ?hco ?hgen ?hkk
  case room => first | exact room0 (by assumption) | omega
  case ho => k_dflt k_is
  case hcd => k_dflt k_is
  case bind => exact binds3 rfl
  case loc => exact locs rfl
  case hcell => decide
  case hco => exact rfl
  case hgen => exact rfl
  case hkk => exact rfl
  intro g L' h₁ F' N' B' X' T'
  clear B F X N T dis
  k_fold
  k_steps
  unfold Hold
  rename Fr _ _ _ _ => lF
  rename News _ _ _ _ => lN
  clear hmt0
  generalize PyData.keyHash w.params (Str.ofString "orders") = H0 at lN
  generalize PyData.keyHash w.params (Str.ofString "pc") = H1 at lN
  generalize PyData.keyHash w.params (Str.ofString "at") = H2 at lN
  generalize PyData.keyHash w.params (Str.ofString "named") = H3 at lN
  generalize PyData.keyHash w.params (Str.ofString "marks") = H4 at lN
  generalize PyData.keyHash w.params (Str.ofString "calls") = H5 at lN
  refine whl_start 0 ?_
  refine whl_chain (fun n (a : Int × Addr × Led) s' => Chain w ⟨mt, md, hs, ho, hd, vd, rl, lg, ol, HT, MT, sub, vs, oj⟩ Post n a.1 a.2.1 a.2.2 ∧ ∃ h tk m', s' = { s with heap := h, toks := tk } ∧ Fr g L' h m' ∧ m' (Str.ofString "way") = some (.ref a.2.1) ∧ m' (Str.ofString "self") = some (.ref mt) ∧ News g L' h a.2.2) ?step n (k, _, _) _ ⟨?c0, _, _, _, rfl, lF, rfl, rfl, lN⟩
  case c0 =>
    refine (hC _ _ ⟨_, _, _, _, _, _, _, _, _, _, _, _⟩ _ _ ?_)
    rename Young _ _ => lY
    rename @LT.lt Nat _ _ _ => lW
    exact ⟨⟨fun p hp => (List.mem_cons.mp hp).elim (fun e => by rw [e]; exact Nat.ne_of_lt lW) (young_sub2 lW lY (fun _ h => h) p)⟩, ⟨young_sub lY (fun _ h => h)⟩, trivial⟩
  clear hC lN lF
  intro n' a9 s' hR ih
  obtain ⟨k', wy, news⟩ := a9
  obtain ⟨hCh, h, tk, m', rfl, F1, hw, hsl, N1⟩ := hR
  dsimp only at hCh hw hsl N1
  rw [upd_eq2 hw hsl] at F1
  clear hw hsl
  cases hCh with
  | @ret n2 k2 u wy2 wd od news2 r1 T i y1 y2 gt at9 mk gr H hp =>
    obtain ⟨hsub, hf, k0, k1, hho, hmt, hmd, hwy, hwd, hol, hi, hod⟩ := H
    dsimp only at hsub hf hho hmt hmd hwy hwd hol hi hod
    have N2 := news_sub N1 hsub
    clear N1 hsub
    have hiz : i < 1000 := Nat.lt_trans (by
      rcases Nat.lt_or_ge i vs.size with hh | hh
      · exact hh
      · rw [Array.getElem?_eq_none hh] at hi; cases hi) hsz9
    refine whl_turn (by first | passes_own | with_unfolding_all passes_own) ?_
    try k_fold
    k_steps
    rename Fr _ _ _ _ => lF
    rename News _ _ _ _ => lN
    rename Young _ _ => lY
    exact leaveR lF lN fun kF kN kA => hret _ _ _ _ (hp _ _ _ ⟨young_sub lY fun _ h => h⟩) kF kN kA
  | @go n2 k2 u wy2 wd od news2 r1 T i y1 y2 gt at9 mk g gr chg keep r2 P1 H D hv hn =>
    obtain ⟨hsub, hf, k0, k1, hho, hmt, hmd, hwy, hwd, hol, hi, hod⟩ := H
    dsimp only at hsub hf hho hmt hmd hwy hwd hol hi hod
    have hg1 := (D 0).hg
    have hg3 := (D 0).hg2
    have N2 := news_sub N1 hsub
    clear N1 hsub
    have hiz : i < 1000 := Nat.lt_trans (by
      rcases Nat.lt_or_ge i vs.size with hh | hh
      · exact hh
      · rw [Array.getElem?_eq_none hh] at hi; cases hi) hsz9
    refine whl_turn (by first | passes_own | with_unfolding_all passes_own) ?_
    try k_fold
    k_steps
    unfold Hold
    rename Fr _ _ _ _ => lF
    rename News _ _ _ _ => lN
    refine' Con.use (D _).C ?B lF ?X lN ?T ?kk (D _).hK (D _).hT (D _).hF (D _).hF2 ?room ?un ?_
    case B => k_asm
    case X => k_asm
    case T => k_asm
    case kk => exact rfl
    case room => k_room
    case un => k_units
    clear lF lN
    intro v9 made9 chg9 h9 tk9 hP F9 N9 A9
    obtain rfl := hv _ _ _ _ hP
    try k_fold
    k_steps
    all_goals try (rename Fr _ _ _ _ => lF; rename News _ _ _ _ => lN; exact ih n2 (k' + 1, wy, _) _ (Nat.lt_succ_self _) ⟨hn _ _ _ _ hP A9, _, _, _, rfl, lF, rfl, rfl, lN⟩)
  | @out n2 k2 u wy2 wd od news2 r1 T i y1 y2 gt at9 mk g gr chg keep r2 P1 j H D hv hm hp =>
    obtain ⟨hsub, hf, k0, k1, hho, hmt, hmd, hwy, hwd, hol, hi, hod⟩ := H
    dsimp only at hsub hf hho hmt hmd hwy hwd hol hi hod
    have hg1 := (D 0).hg
    have hg3 := (D 0).hg2
    have N2 := news_sub N1 hsub
    clear N1 hsub
    have hiz : i < 1000 := Nat.lt_trans (by
      rcases Nat.lt_or_ge i vs.size with hh | hh
      · exact hh
      · rw [Array.getElem?_eq_none hh] at hi; cases hi) hsz9
    refine whl_turn (by first | passes_own | with_unfolding_all passes_own) ?_
    try k_fold
    k_steps
    unfold Hold
    rename Fr _ _ _ _ => lF
    rename News _ _ _ _ => lN
    refine' Con.use (D _).C ?B lF ?X lN ?T ?kk (D _).hK (D _).hT (D _).hF (D _).hF2 ?room ?un ?_
    case B => k_asm
    case X => k_asm
    case T => k_asm
    case kk => exact rfl
    case room => k_room
    case un => k_units
    clear lF lN
    intro v9 made9 chg9 h9 tk9 hP F9 N9 A9
    obtain rfl := hv _ _ _ _ hP
    obtain ⟨m1, m2, m3⟩ := hm _ _ _ _ hP A9
    dsimp only at m1 m2 m3
    try k_fold
    k_steps
    all_goals try (unfold Hold)
    all_goals try (refine whl_any (k' := 1) ?_)
    all_goals try (refine whl_turn (by first | passes_own | with_unfolding_all passes_own) ?_)
    try k_fold
    k_steps
    all_goals try (rename Fr _ _ _ _ => lF; rename News _ _ _ _ => lN; rename Young _ _ => lY; exact leaveR lF lN fun kF kN kA => hret _ _ _ _ (hp _ _ _ _ hP A9 _ _ ⟨young_sub lY fun _ h => h⟩) kF kN kA)
  | @pop n2 k2 u wy2 wd od news2 r1 T i y1 y2 gt at9 mk g gr chg keep r2 r3 P1 j its wyb wdb T2 pc2 at2 z1 z2 mk2 H D hlim hv hm hn =>
    obtain ⟨hsub, hf, k0, k1, hho, hmt, hmd, hwy, hwd, hol, hi, hod⟩ := H
    dsimp only at hsub hf hho hmt hmd hwy hwd hol hi hod
    have hg1 := (D 0).hg
    have hg3 := (D 0).hg2
    have N2 := news_sub N1 hsub
    clear N1 hsub
    have hiz : i < 1000 := Nat.lt_trans (by
      rcases Nat.lt_or_ge i vs.size with hh | hh
      · exact hh
      · rw [Array.getElem?_eq_none hh] at hi; cases hi) hsz9
    refine whl_turn (by first | passes_own | with_unfolding_all passes_own) ?_
    try k_fold
    k_steps
    unfold Hold
    rename Fr _ _ _ _ => lF
    rename News _ _ _ _ => lN
    refine' Con.use (D _).C ?B lF ?X lN ?T ?kk (D _).hK (D _).hT (D _).hF (D _).hF2 ?room ?un ?_
    case B => k_asm
    case X => k_asm
    case T => k_asm
    case kk => exact rfl
    case room => k_room
    case un => k_units
    clear lF lN
    intro v9 made9 chg9 h9 tk9 hP F9 N9 A9
    obtain rfl := hv _ _ _ _ hP
    obtain ⟨m0, hf3, m1, m2, m3, m4⟩ := hm _ _ _ _ hP A9
    dsimp only at m0 hf3 m1 m2 m3 m4
    have N10 := news_sub N9 m0
    clear N9 m0
    have hl1 : (its ++ [Value.ref wyb]).toArray.size ≤ 1000 := by
      simp only [List.size_toArray, List.length_append, List.length_cons, List.length_nil]
      have h2 : @LT.lt Nat _ its.length 900 := hlim
      omega
    have hl2 : (0 : Int) < ((its ++ [Value.ref wyb]).toArray.size : Int) := by
      simp only [List.size_toArray, List.length_append, List.length_cons, List.length_nil]
      omega
    have hl3 : (its ++ [Value.ref wyb]).toArray.toList.length ≤ sizeLine := by
      show (its ++ [Value.ref wyb]).length ≤ sizeLine
      have h2 : @LT.lt Nat _ its.length 900 := hlim
      unfold sizeLine
      simp only [List.length_append, List.length_cons, List.length_nil]
      omega
    try k_fold
    k_steps
    all_goals try (rename Fr _ _ _ _ => lF; rename News _ _ _ _ => lN; exact ih n2 (k' + 1, wyb, _) _ (Nat.lt_succ_self _) ⟨hn _ _ _ _ hP A9 _, _, _, _, rfl, lF, rfl, rfl, lN⟩)
end

section
set_option maxHeartbeats 400000
theorem Spec.sub {w : World} {f : Addr} {args : List Value} {need : Led} {D U : Nat} {Post : Value → Led → Prop} (S : Spec w f args need D U fun v nd => ∃ nd', (∀ p ∈ nd', p ∈ nd) ∧ Post v nd') : Spec w f args need D U Post := by
  intro dp un gd cn cs a ccd cl outer A₀ base h₀ L m s Q E mean mg mb rest B F X N dis T hk hd hu hret
  exact S dp un gd cn cs a ccd cl outer A₀ base h₀ L m s Q E mean mg mb rest B F X N dis T hk hd hu fun v nd h' tk' hP F' N' hA => by
    obtain ⟨nd', hs, hP⟩ := hP
    exact hret v nd' h' tk' hP F' (news_sub2 N' hs) (apart_sub hA hs)
theorem Con.more {w : World} {f : Addr} {args : List Value} {chg keep : Led} {D U D' U' : Nat} {P : Value → Led → Led → Prop} (C : Con w f args chg keep D U P) (hd : D ≤ D') (hu : U ≤ U') : Con w f args chg keep D' U' P := fun hF => by
  intro dp un gd cn cs a ccd cl outer A₀ base h₀ L m s Q E mean mg mb rest B F X N dis T hk hdp hun hret
  exact C hF dp un gd cn cs a ccd cl outer A₀ base h₀ L m s Q E mean mg mb rest B F X N dis T hk (Nat.lt_of_le_of_lt (Nat.add_le_add_left hd _) hdp) (Nat.lt_of_le_of_lt (Nat.add_le_add_left hu _) hun) hret
theorem Head.of {c : RunC} {k : Int} {u : Tok} {wy wd od : Addr} {T : WayT} {i : Nat} {y1 y2 gt : Tok} {at9 : Int} {mk : Value} {g : Str} {gr : List Value} {news r1 : Led}
    (hT : Take [(c.hd, hostD c.H c.vd c.rl c.lg k u)] news r1) (hf : Far c.hd r1) (k0 : 0 ≤ k) (k1 : k < 9999) (hho : (c.ho, instObj 589 c.hd) ∈ r1) (hmt : (c.mt, instObj 526 c.md) ∈ r1) (hmd : (c.md, matchD c.M c.sub c.ho c.hs) ∈ r1)
    (hwy : (wy, instObj 449 wd) ∈ r1) (hwd : (wd, wayD T c.ol i y1 at9 y2 mk) ∈ r1) (hol : (c.ol, W.listOf c.vs c.oj) ∈ r1) (hi : c.vs[i]? = some (.ref od)) (hod : (od, tup (.str g gt :: gr)) ∈ r1) : Head c k u wy wd od T i y1 y2 gt at9 mk g gr news r1 :=
  ⟨fun p hp => (List.mem_cons.mp hp).elim (fun e => e ▸ hT.mem _ List.mem_cons_self) (hT.sub p), hf, k0, k1, hho, hmt, hmd, hwy, hwd, hol, hi, hod⟩
end

section
set_option maxHeartbeats 1500000
theorem run2 (w : World) (mt ol od1 od2 od3 od4 od5 : Addr) (ho hd vd rl lg : Addr) (HT : HostT) (u3 : Tok) (md hs : Addr) (sub : Str) (MT : MatchT) (rf rd : Addr) (RT : RefT) (c1 c2 c3 c4 c5 c6 c7 ub : Tok) (b n k : Int) (ov : Obj) (kvs : List (Str × Value)) (its : Array Value) (j j0 oj : Nat) (b0 : 0 ≤ b) (b1 : b ≤ 12) (n0 : 0 ≤ n) (n1 : n ≤ 6) (g4 : sub.length ≤ 20) (k0 : 0 ≤ k) (k1 : k < 9990) (hz : its.size ≤ 90) (hes : ov.IsDictOf (PySem.strKind PySem.Challenge.rw_xm0958_01.row.prog w) kvs) (hkz : kvs.length ≤ 100) (hin : b + n ≤ (sub.length : Int)) :
    Con w 474 [.ref mt, .ref ol, .int b ub] [(hd, hostD HT vd rl lg k u3), (vd, ov), (lg, W.listOf its j)] [(ol, W.listOf (vs5 od1 od2 od3 od4 od5) oj), (od1, (oMark c1)), (od2, (oLen c2 c3 n c4)), (od3, (oSet c5 rf)), (od4, (oFail c6)), (od5, (oDone c7)), (mt, instObj 526 md), (md, matchD MT sub ho hs), (hs, W.listOf #[] j0), (ho, instObj 589 hd), (rl, W.listOf #[] 0), (rf, instObj 208 rd), (rd, refD RT)] 60 500
      (fun (v : Value) (made chg' : List (Addr × Obj)) => ∃ (rt q : Addr) (t1 t2 t3 t4 t5 : Tok) (o2 : Obj), v = .ref rt ∧ made = [(rt, tup [.int 1 t1, .none]), (q, tup [.str (Str.ofString "W") t2, .str (PySem.Txt.slice sub (some b) (some (b + n))) t3])] ∧ chg' = [(hd, hostD HT vd rl lg ((((k + 1) + 1) + 1) + 1) t5), (vd, o2), (lg, W.listOf (its.push (.ref q)) (j + 1))] ∧ o2.IsDictOf (PySem.strKind PySem.Challenge.rw_xm0958_01.row.prog w) (stored kvs (Str.ofString "W") (.str (PySem.Txt.slice sub (some b) (some (b + n))) t4))) := by
  k_with_none
  (k_with "WhlIf" => ((first | (refine WhlIf.yes (by with_unfolding_all rfl) ?_) | (refine WhlIf.no (by with_unfolding_all rfl) ?_) | (refine WhlIf.yes (by decide) ?_) | (refine WhlIf.no (by decide) ?_)); (try k_fold)))
  (k_with "setAttr ref" => (k_here; k_dflt (refine set_dict_any (by k_asm) (by k_asm) (by k_asm) (by k_inst) (by exact rfl) (by k_is) (by k_is) (by k_is) (by k_is) (by k_get) (by (intro kH kt; k_put)) (by (intro kH kt; k_upd)) (by (intro kH kt; exact Nat.le_of_ble_eq_true rfl)) ?_; k_whole); intro kwh kwH kwt kwF kwN; (try k_sweep)))
  (k_with "k_allIn" => (first | exact List.forall_mem_nil _ | (refine List.forall_mem_cons.mpr ⟨by (first | exact nth_mem 0 rfl | exact nth_mem 1 rfl | exact nth_mem 2 rfl | exact nth_mem 3 rfl | exact nth_mem 4 rfl | exact nth_mem 5 rfl | exact nth_mem 6 rfl | exact nth_mem 7 rfl | exact nth_mem 8 rfl | exact nth_mem 9 rfl | exact nth_mem 10 rfl | exact nth_mem 11 rfl | exact nth_mem 12 rfl | exact nth_mem 13 rfl | exact nth_mem 14 rfl | exact nth_mem 15 rfl | exact nth_mem 16 rfl | exact nth_mem 17 rfl | exact nth_mem 18 rfl | exact nth_mem 19 rfl | exact nth_mem 20 rfl | exact nth_mem 21 rfl | exact nth_mem 22 rfl | exact nth_mem 23 rfl | exact nth_mem 24 rfl | exact nth_mem 25 rfl | k_memK), ?_⟩; k_allIn)))
  (k_with "lcg_sub" => (first | exact List.forall_mem_nil _ | (refine List.forall_mem_cons.mpr ⟨by (first | exact nth_mem 0 rfl | exact nth_mem 1 rfl | exact nth_mem 2 rfl | exact nth_mem 3 rfl | exact nth_mem 4 rfl | exact nth_mem 5 rfl | exact nth_mem 6 rfl | exact nth_mem 7 rfl | exact nth_mem 8 rfl | exact nth_mem 9 rfl | exact nth_mem 10 rfl | exact nth_mem 11 rfl | exact nth_mem 12 rfl | exact nth_mem 13 rfl | exact nth_mem 14 rfl | exact nth_mem 15 rfl | exact nth_mem 16 rfl | exact nth_mem 17 rfl | exact nth_mem 18 rfl | exact nth_mem 19 rfl | exact nth_mem 20 rfl | exact nth_mem 21 rfl | exact nth_mem 22 rfl | exact nth_mem 23 rfl | exact nth_mem 24 rfl | exact nth_mem 25 rfl | k_mem), ?_⟩; lcg_sub)))
  (k_with "k_ne" => (refine neN ?_; (try dsimp only); first
    | exact allLt_ne (by with_reducible assumption) (by k_mem)
    | exact allLt_ne' (by with_reducible assumption) (by k_mem)
    | exact far_ne (by with_reducible assumption) (by k_mem)
    | exact far_ne' (by with_reducible assumption) (by k_mem)
    | exact allLt_ne2 (by with_reducible assumption) (by with_reducible assumption) (by k_mem)
    | exact allLt_ne2' (by with_reducible assumption) (by with_reducible assumption) (by k_mem)
    | exact Nat.ne_of_lt (by assumption)
    | exact Nat.ne_of_gt (by assumption)
    | assumption
    | (refine Ne.symm ?_; assumption)
    | exact off1_ne (by assumption) (by k_mem)
    | (refine Ne.symm ?_; exact off1_ne (by assumption) (by k_mem))
    | exact apart_ne (by assumption) (by k_mem) (by k_mem)
    | exact apart_ne' (by assumption) (by k_mem) (by k_mem)
    | omega))
  (k_with "lcg_off" => first | exact True.intro | assumption | (refine And.intro ⟨by k_ne, by k_ne, by k_ne⟩ ?_; lcg_off))
  (k_with "k_room" => ((try simp only [depth_under_make, depth_under_kw, depth_in1, depth_deeper, depth_caller]); (try dsimp only [ktrTop]); first | exact Nat.le_of_ble_eq_true rfl | exact room1 (by assumption) rfl | exact room2 (by assumption) rfl | exact room3 (by assumption) rfl | exact room4 (by assumption) rfl | omega))
  (k_with "k_units" => ((try simp only [units_in1, units_deeper, Around.mark_units, units_caller]); (try dsimp only [ktrTop]); first | exact Nat.le_of_ble_eq_true rfl | exact room1 (by assumption) rfl | exact room2 (by assumption) rfl | exact room3 (by assumption) rfl | exact room4 (by assumption) rfl | omega))
  (k_with "eval ListComp" => (k_here; k_dflt (refine LCg.ListComp_U (F₀ := by k_asm) (by with_unfolding_all rfl) (by decide) (by rfl) (by decide) (by rfl) ?_)))
  (k_with "CompRest" => (with_unfolding_all first
    | (refine LCg.CompRest.succ ?_; intro kwv kwI kwoI kwC kwoC kwD kwm kwh kwtk kwE kwhv kwhC kwhx kwF kwN kwoff kwne; (first | lcg_open kwhv | (obtain ⟨kwt9, kwhv9⟩ := kwhv; subst kwhv9)))
    | refine LCg.CompRest.zero ?_))
  (k_with "FinE" => ((unfold LCg.FinE); intro kwD kwh kwtk kwF kwN kwo1; (try simp only [List.nil_append, List.cons_append] at kwN); (try dsimp only)))
  (k_with "compareOp In str ref" => (k_here; (with_reducible show wpAny _ _ (compareOp CmpOp.In (Value.str _ _) (Value.ref _)) _ _ _); k_dflt (first
    | (refine in_topTup (b := true) (by k_asm) (by k_asm) (by k_is) (by (repeat constructor)) (by decide) ?_; k_whole)
    | (refine in_topTup (b := false) (by k_asm) (by k_asm) (by k_is) (by (repeat constructor)) (by decide) ?_; k_whole))))
  (k_with "k_enter" => ((fail_if_success k_inElt); (refine code_def (by k_asm) (by k_asm) (by k_asm) (by k_asm) (by k_asm) rfl rfl rfl (by k_is) (by k_is) (by k_room) (by (first | exact binds1 rfl | exact binds2 rfl | exact binds3 rfl | exact binds4 rfl | exact binds7 rfl)) (by exact locs rfl) ?_ rfl rfl rfl (by decide); k_whole; intro kwg kwL kwh kwFG kwF kwN kwB kwX kwT; (try dsimp only [List.reverse_cons, List.reverse_nil, List.nil_append, List.cons_append]); (try k_lift kwB); (try k_fold))))
  (k_with "compareOp Eq str str" => (k_here; refine eq_str_no (by assumption) ?_))
  (k_with "subscriptTail Name Constant ref int" => (k_here; (with_reducible show wpAny _ _ (subscriptTail _ _ (Value.ref _) (Value.int 0 _)) _ _ _); k_dflt (refine head_tup (by k_asm) (by k_mem) ?_ (by with_unfolding_all rfl); k_whole)))
  (k_with "call builtin:len" => (k_here; (with_reducible show wpAny _ _ (call (Value.builtin "len") [Value.ref _]) _ _ _); k_dflt (refine len_any (by k_asm) (by k_mem) (by (first | assumption | omega | (simp only [Array.size_push]; omega))) ?_); k_whole))
  (k_with "compareOp In str ref" => (k_here; (with_reducible show wpAny _ _ (compareOp CmpOp.In (Value.str _ _) (Value.ref _)) _ _ _); k_dflt (refine in_nil (by k_asm) (by k_mem) ?_)))
  (k_with "k_mem" => first | exact List.Mem.head _ | (refine List.Mem.tail _ ?_; k_mem) | (refine mem_id ?_; with_reducible assumption) | (refine List.mem_append_left _ ?_; with_reducible assumption) | fail)
  (k_with "k_memK" => first | exact List.Mem.head _ | (refine List.Mem.tail _ ?_; k_memK) | (refine mem_id ?_; with_reducible assumption) | (refine List.mem_append_left _ ?_; with_reducible assumption) | fail)
  (k_with "k_all" => first | exact List.forall_mem_nil _ | exact Far.all (by with_reducible assumption) | exact far_part (by with_reducible assumption) (by intro p hp; (repeat (first | exact hp | refine List.mem_cons_of_mem _ ?_)); (first | done | fail)) | (refine List.forall_mem_cons.mpr ⟨by k_ne, ?_⟩; k_all))
  (k_with "k_allIn" => (first | exact List.forall_mem_nil _ | (refine List.forall_mem_cons.mpr ⟨by k_memK, ?_⟩; k_allIn)))
  (k_with "lcg_sub" => (first | exact List.forall_mem_nil _ | (refine List.forall_mem_cons.mpr ⟨by k_mem, ?_⟩; lcg_sub) | (intro p hp; (repeat (first | exact hp | refine List.mem_cons_of_mem _ ?_)); (first | done | fail))))
  intro hF
  dsimp only [Fars, List.cons_append, List.nil_append] at hF
  obtain ⟨hF0, hF1, hF2, -⟩ := hF
  refine Spec.sub (runG w ⟨mt, md, hs, ho, hd, vd, rl, lg, ol, HT, MT, sub, (vs5 od1 od2 od3 od4 od5), oj⟩ b ub 5 k _ _ (Nat.lt_of_succ_le (Nat.le_of_ble_eq_true rfl)) (by dsimp only [List.cons_append, List.nil_append]; k_memK) fun wy wd T y1 y2 hW => ?_)
  simp only [Fars, List.cons_append, List.nil_append] at hW
  obtain ⟨hW1, hW2, -⟩ := hW
  simp only [List.cons_append, List.nil_append]
  obtain ⟨nx, hnx⟩ : ∃ nx : Led, nx = [(ol, W.listOf (vs5 od1 od2 od3 od4 od5) oj), (od1, (oMark c1)), (od2, (oLen c2 c3 n c4)), (od3, (oSet c5 rf)), (od4, (oFail c6)), (od5, (oDone c7)), (mt, instObj 526 md), (md, matchD MT sub ho hs), (hs, W.listOf #[] j0), (ho, instObj 589 hd), (rl, W.listOf #[] 0), (rf, instObj 208 rd), (rd, refD RT)] := ⟨_, rfl⟩
  rw [← hnx]
  rw [← hnx] at hF0 hF1 hF2 hW1 hW2
  have hall : ∀ p ∈ [(ol, W.listOf (vs5 od1 od2 od3 od4 od5) oj), (od1, (oMark c1)), (od2, (oLen c2 c3 n c4)), (od3, (oSet c5 rf)), (od4, (oFail c6)), (od5, (oDone c7)), (mt, instObj 526 md), (md, matchD MT sub ho hs), (hs, W.listOf #[] j0), (ho, instObj 589 hd), (rl, W.listOf #[] 0), (rf, instObj 208 rd), (rd, refD RT)], p ∈ nx := fun p hp => hnx ▸ hp
  (repeat (have m9 := (List.forall_mem_cons.mp hall).1; replace hall := (List.forall_mem_cons.mp hall).2))
  clear hall
  refine' Chain.go (Head.of (T := T) (g := (Str.ofString "mark")) (i := 0) ?hT ?hf ?k0 ?k1 ?hho ?hmt ?hmd ?hwy ?hwd ?hol ?hi ?hod) (fun u9 => ⟨?hg, ?hg2, (doneMark _ _ _ _ _ _ _ _ _ _ _ _  ?s_h0 ?s_h1).more (by decide) (by decide), ?hK, ?hT2, ?hF, ?hF2⟩) ?hv ?hn
  case hT => (try dsimp only); (refine' Take.cons ?r1 ?t1; (case r1 => ((repeat (first | exact Rem.head | apply Rem.tail)); done)); (case t1 => exact Take.nil))
  case hho => (try dsimp only); k_memK
  case hmt => (try dsimp only); k_memK
  case hmd => (try dsimp only); k_memK
  case hwy => (try dsimp only); k_memK
  case hwd => (try dsimp only); k_memK
  case hol => (try dsimp only); k_memK
  case hi => with_unfolding_all rfl
  case hod => (try dsimp only); k_memK
  case hK => (try dsimp only); k_allIn
  case hT2 => (try dsimp only); (refine' Take.cons ?r1 ?t1; (case r1 => ((repeat (first | exact Rem.head | apply Rem.tail)); done)); (case t1 => exact Take.nil))
  case hf => refine ⟨?_⟩; (try dsimp only); k_all
  case hF => repeat (first | exact fars_nil | refine fars_cons (by ((try simp only [List.cons_append, List.nil_append]); k_all)) ?_)
  case hF2 => repeat (first | exact fars_nil | refine fars_cons (by ((try simp only [List.cons_append, List.nil_append]); k_all)) ?_)
  case k0 => first | assumption | omega
  case k1 => first | assumption | omega
  case hg => decide
  case hg2 => decide
  case s_h0 => decide
  case s_h1 => decide
  case hv => rintro u9 v9 made9 chg9 ⟨mk9, t19, t29, t39, e9, -⟩; exact e9
  case hn =>
    rintro u9 v9 made9 chg9 ⟨mk9, t19, t29, t39, rfl, rfl, rfl⟩ A9
    (try dsimp only [Fars, List.cons_append, List.nil_append] at A9)
    (try simp only [List.cons_append, List.nil_append])
    obtain ⟨A09, -⟩ := A9
    refine' Chain.go (Head.of (T := T) (g := (Str.ofString "one")) (i := 1) ?hT ?hf ?k0 ?k1 ?hho ?hmt ?hmd ?hwy ?hwd ?hol ?hi ?hod) (fun u9 => ⟨?hg, ?hg2, (doneLenOk _ _ _ _ _ _ _ _ _ _ _ _ _ _ _ _ _ _ _ _ _  ?s_h0 ?s_h1 ?s_g0 ?s_g1 ?s_g2 ?s_g3 ?s_g4 ?s_hin).more (by decide) (by decide), ?hK, ?hT2, ?hF, ?hF2⟩) ?hv ?hn
    case hT => (try dsimp only); (refine' Take.cons ?r1 ?t1; (case r1 => ((repeat (first | exact Rem.head | apply Rem.tail)); done)); (case t1 => exact Take.nil))
    case hho => (try dsimp only); k_memK
    case hmt => (try dsimp only); k_memK
    case hmd => (try dsimp only); k_memK
    case hwy => (try dsimp only); k_memK
    case hwd => (try dsimp only); k_memK
    case hol => (try dsimp only); k_memK
    case hi => with_unfolding_all rfl
    case hod => (try dsimp only); k_memK
    case hK => (try dsimp only); k_allIn
    case hT2 => (try dsimp only); (refine' Take.cons ?r1 ?t1; (case r1 => ((repeat (first | exact Rem.head | apply Rem.tail)); done)); (case t1 => exact Take.nil))
    case hf => refine ⟨?_⟩; (try dsimp only); k_all
    case hF => repeat (first | exact fars_nil | refine fars_cons (by ((try simp only [List.cons_append, List.nil_append]); k_all)) ?_)
    case hF2 => repeat (first | exact fars_nil | refine fars_cons (by ((try simp only [List.cons_append, List.nil_append]); k_all)) ?_)
    case k0 => first | assumption | omega
    case k1 => first | assumption | omega
    case hg => decide
    case hg2 => decide
    case s_h0 => decide
    case s_h1 => decide
    case s_g0 => first | assumption | decide | omega | (simp only [Array.size_push]; omega)
    case s_g1 => first | assumption | decide | omega | (simp only [Array.size_push]; omega)
    case s_g2 => first | assumption | decide | omega | (simp only [Array.size_push]; omega)
    case s_g3 => first | assumption | decide | omega | (simp only [Array.size_push]; omega)
    case s_g4 => first | assumption | decide | omega | (simp only [Array.size_push]; omega)
    case s_hin => first | assumption | decide | omega | (simp only [Array.size_push]; omega)
    case hv => rintro u9 v9 made9 chg9 ⟨t19, t29, e9, -⟩; exact e9
    case hn =>
      rintro u9 v9 made9 chg9 ⟨t19, t29, rfl, rfl, rfl⟩ A9
      (try dsimp only [Fars, List.cons_append, List.nil_append] at A9)
      (try simp only [List.cons_append, List.nil_append])
      clear A9
      refine' Chain.go (Head.of (T := T) (g := (Str.ofString "set")) (i := 2) ?hT ?hf ?k0 ?k1 ?hho ?hmt ?hmd ?hwy ?hwd ?hol ?hi ?hod) (fun u9 => ⟨?hg, ?hg2, (doneSet _ _ _ _ _ _ _ _ _ _ _ _ _ _ _ _ _ _ _ _ _ _ _ _ _ _ _ _ _ _ _ _ _ _  ?s_h0 ?s_h1 ?s_g0 ?s_g1 ?s_g2 ?s_g4 ?s_hz ?s_hes ?s_hkz).more (by decide) (by decide), ?hK, ?hT2, ?hF, ?hF2⟩) ?hv ?hn
      case hT => (try dsimp only); (refine' Take.cons ?r1 ?t1; (case r1 => ((repeat (first | exact Rem.head | apply Rem.tail)); done)); (case t1 => exact Take.nil))
      case hho => (try dsimp only); k_memK
      case hmt => (try dsimp only); k_memK
      case hmd => (try dsimp only); k_memK
      case hwy => (try dsimp only); k_memK
      case hwd => (try dsimp only); k_memK
      case hol => (try dsimp only); k_memK
      case hi => with_unfolding_all rfl
      case hod => (try dsimp only); k_memK
      case hK => (try dsimp only); k_allIn
      case hT2 => (try dsimp only); (refine' Take.cons ?r1 ?t1; (case r1 => ((repeat (first | exact Rem.head | apply Rem.tail)); done)); (case t1 => (refine' Take.cons ?r1 ?t1; (case r1 => ((repeat (first | exact Rem.head | apply Rem.tail)); done)); (case t1 => (refine' Take.cons ?r1 ?t1; (case r1 => ((repeat (first | exact Rem.head | apply Rem.tail)); done)); (case t1 => exact Take.nil))))))
      case hf => refine ⟨?_⟩; (try dsimp only); k_all
      case hF => repeat (first | exact fars_nil | refine fars_cons (by ((try simp only [List.cons_append, List.nil_append]); k_all)) ?_)
      case hF2 => repeat (first | exact fars_nil | refine fars_cons (by ((try simp only [List.cons_append, List.nil_append]); k_all)) ?_)
      case k0 => first | assumption | omega
      case k1 => first | assumption | omega
      case hg => decide
      case hg2 => decide
      case s_h0 => decide
      case s_h1 => decide
      case s_g0 => first | assumption | decide | omega | (simp only [Array.size_push]; omega)
      case s_g1 => first | assumption | decide | omega | (simp only [Array.size_push]; omega)
      case s_g2 => first | assumption | decide | omega | (simp only [Array.size_push]; omega)
      case s_g4 => first | assumption | decide | omega | (simp only [Array.size_push]; omega)
      case s_hz => first | assumption | omega
      case s_hes => first | assumption | decide | omega | (simp only [Array.size_push]; omega)
      case s_hkz => first | assumption | decide | omega | (simp only [Array.size_push]; omega)
      case hv => rintro u9 v9 made9 chg9 ⟨q9, t19, t29, t39, t49, t59, o29, e9, -⟩; exact e9
      case hn =>
        rintro u9 v9 made9 chg9 ⟨q9, t19, t29, t39, t49, t59, o29, rfl, rfl, rfl, X09⟩ A9
        (try dsimp only [Fars, List.cons_append, List.nil_append] at A9)
        (try simp only [List.cons_append, List.nil_append])
        obtain ⟨A09, -⟩ := A9
        refine' Chain.out (Head.of (T := T) (g := (Str.ofString "fail")) (i := 3) ?hT ?hf ?k0 ?k1 ?hho ?hmt ?hmd ?hwy ?hwd ?hol ?hi ?hod) (fun u9 => ⟨?hg, ?hg2, (doneFail _ _ _ _ _ _ _ _ _ _  ).more (by decide) (by decide), ?hK, ?hT2, ?hF, ?hF2⟩) ?hv ?hm ?hp
        case hT => (try dsimp only); (refine' Take.cons ?r1 ?t1; (case r1 => ((repeat (first | exact Rem.head | apply Rem.tail)); done)); (case t1 => exact Take.nil))
        case hho => (try dsimp only); k_memK
        case hmt => (try dsimp only); k_memK
        case hmd => (try dsimp only); k_memK
        case hwy => (try dsimp only); k_memK
        case hwd => (try dsimp only); k_memK
        case hol => (try dsimp only); k_memK
        case hi => with_unfolding_all rfl
        case hod => (try dsimp only); k_memK
        case hK => (try dsimp only); k_allIn
        case hT2 => (try dsimp only); exact Take.nil
        case hf => refine ⟨?_⟩; (try dsimp only); k_all
        case hF => repeat (first | exact fars_nil | refine fars_cons (by ((try simp only [List.cons_append, List.nil_append]); k_all)) ?_)
        case hF2 => repeat (first | exact fars_nil | refine fars_cons (by ((try simp only [List.cons_append, List.nil_append]); k_all)) ?_)
        case k0 => first | assumption | omega
        case k1 => first | assumption | omega
        case hg => decide
        case hg2 => decide
        case hv => rintro u9 v9 made9 chg9 ⟨e9, -⟩; exact e9
        case hm =>
          rintro u9 v9 made9 chg9 ⟨rfl, rfl, rfl⟩ A9
          (try simp only [List.cons_append, List.nil_append])
          exact ⟨by k_memK, by k_memK, by k_memK⟩
        case hp =>
          rintro u9 v9 made9 chg9 ⟨rfl, rfl, rfl⟩ A9 rt9 t9 hrt
          (try simp only [List.cons_append, List.nil_append])
          (try simp only [List.cons_append, List.nil_append] at hrt)
          refine' ⟨_, ?sub, _, _, rfl, ?fars, ?mp, ?e_rt, ?e_q, ?e_t1, ?e_t2, ?e_t3, ?e_t4, ?e_t5, ?e_o2, rfl, rfl, rfl, ?x0⟩
          case sub => (try simp only [List.cons_append, List.nil_append]); lcg_sub
          case mp => exact rfl
          case x0 => assumption
          case fars => repeat (first | exact fars_nil | refine fars_cons (by ((try simp only [List.cons_append, List.nil_append]); k_all)) ?_)
end

section
set_option maxHeartbeats 1500000
theorem run2n (w : World) (mt ol od1 od2 od3 od4 od5 : Addr) (ho hd vd rl lg : Addr) (HT : HostT) (u3 : Tok) (md hs : Addr) (sub : Str) (MT : MatchT) (rf rd : Addr) (RT : RefT) (c1 c2 c3 c4 c5 c6 c7 ub : Tok) (b n k : Int) (ov : Obj) (kvs : List (Str × Value)) (its : Array Value) (j j0 oj : Nat) (b0 : 0 ≤ b) (b1 : b ≤ 12) (n0 : 0 ≤ n) (n1 : n ≤ 6) (g4 : sub.length ≤ 20) (k0 : 0 ≤ k) (k1 : k < 9990) (hz : its.size ≤ 90) (hes : ov.IsDictOf (PySem.strKind PySem.Challenge.rw_xm0958_01.row.prog w) kvs) (hkz : kvs.length ≤ 100) (hin : (sub.length : Int) < b + n) :
    Con w 474 [.ref mt, .ref ol, .int b ub] [(hd, hostD HT vd rl lg k u3)] [(ol, W.listOf (vs5 od1 od2 od3 od4 od5) oj), (od1, (oMark c1)), (od2, (oLen c2 c3 n c4)), (od3, (oSet c5 rf)), (od4, (oFail c6)), (od5, (oDone c7)), (mt, instObj 526 md), (md, matchD MT sub ho hs), (hs, W.listOf #[] j0), (ho, instObj 589 hd)] 60 500
      (fun (v : Value) (made chg' : List (Addr × Obj)) => ∃ (rt : Addr) (t1 t5 : Tok), v = .ref rt ∧ made = [(rt, tup [.int 1 t1, .none])] ∧ chg' = [(hd, hostD HT vd rl lg ((k + 1) + 1) t5)]) := by
  k_with_none
  (k_with "WhlIf" => ((first | (refine WhlIf.yes (by with_unfolding_all rfl) ?_) | (refine WhlIf.no (by with_unfolding_all rfl) ?_) | (refine WhlIf.yes (by decide) ?_) | (refine WhlIf.no (by decide) ?_)); (try k_fold)))
  (k_with "setAttr ref" => (k_here; k_dflt (refine set_dict_any (by k_asm) (by k_asm) (by k_asm) (by k_inst) (by exact rfl) (by k_is) (by k_is) (by k_is) (by k_is) (by k_get) (by (intro kH kt; k_put)) (by (intro kH kt; k_upd)) (by (intro kH kt; exact Nat.le_of_ble_eq_true rfl)) ?_; k_whole); intro kwh kwH kwt kwF kwN; (try k_sweep)))
  (k_with "k_allIn" => (first | exact List.forall_mem_nil _ | (refine List.forall_mem_cons.mpr ⟨by (first | exact nth_mem 0 rfl | exact nth_mem 1 rfl | exact nth_mem 2 rfl | exact nth_mem 3 rfl | exact nth_mem 4 rfl | exact nth_mem 5 rfl | exact nth_mem 6 rfl | exact nth_mem 7 rfl | exact nth_mem 8 rfl | exact nth_mem 9 rfl | exact nth_mem 10 rfl | exact nth_mem 11 rfl | exact nth_mem 12 rfl | exact nth_mem 13 rfl | exact nth_mem 14 rfl | exact nth_mem 15 rfl | exact nth_mem 16 rfl | exact nth_mem 17 rfl | exact nth_mem 18 rfl | exact nth_mem 19 rfl | exact nth_mem 20 rfl | exact nth_mem 21 rfl | exact nth_mem 22 rfl | exact nth_mem 23 rfl | exact nth_mem 24 rfl | exact nth_mem 25 rfl | k_memK), ?_⟩; k_allIn)))
  (k_with "lcg_sub" => (first | exact List.forall_mem_nil _ | (refine List.forall_mem_cons.mpr ⟨by (first | exact nth_mem 0 rfl | exact nth_mem 1 rfl | exact nth_mem 2 rfl | exact nth_mem 3 rfl | exact nth_mem 4 rfl | exact nth_mem 5 rfl | exact nth_mem 6 rfl | exact nth_mem 7 rfl | exact nth_mem 8 rfl | exact nth_mem 9 rfl | exact nth_mem 10 rfl | exact nth_mem 11 rfl | exact nth_mem 12 rfl | exact nth_mem 13 rfl | exact nth_mem 14 rfl | exact nth_mem 15 rfl | exact nth_mem 16 rfl | exact nth_mem 17 rfl | exact nth_mem 18 rfl | exact nth_mem 19 rfl | exact nth_mem 20 rfl | exact nth_mem 21 rfl | exact nth_mem 22 rfl | exact nth_mem 23 rfl | exact nth_mem 24 rfl | exact nth_mem 25 rfl | k_mem), ?_⟩; lcg_sub)))
  (k_with "k_ne" => (refine neN ?_; (try dsimp only); first
    | exact allLt_ne (by with_reducible assumption) (by k_mem)
    | exact allLt_ne' (by with_reducible assumption) (by k_mem)
    | exact far_ne (by with_reducible assumption) (by k_mem)
    | exact far_ne' (by with_reducible assumption) (by k_mem)
    | exact allLt_ne2 (by with_reducible assumption) (by with_reducible assumption) (by k_mem)
    | exact allLt_ne2' (by with_reducible assumption) (by with_reducible assumption) (by k_mem)
    | exact Nat.ne_of_lt (by assumption)
    | exact Nat.ne_of_gt (by assumption)
    | assumption
    | (refine Ne.symm ?_; assumption)
    | exact off1_ne (by assumption) (by k_mem)
    | (refine Ne.symm ?_; exact off1_ne (by assumption) (by k_mem))
    | exact apart_ne (by assumption) (by k_mem) (by k_mem)
    | exact apart_ne' (by assumption) (by k_mem) (by k_mem)
    | omega))
  (k_with "lcg_off" => first | exact True.intro | assumption | (refine And.intro ⟨by k_ne, by k_ne, by k_ne⟩ ?_; lcg_off))
  (k_with "k_room" => ((try simp only [depth_under_make, depth_under_kw, depth_in1, depth_deeper, depth_caller]); (try dsimp only [ktrTop]); first | exact Nat.le_of_ble_eq_true rfl | exact room1 (by assumption) rfl | exact room2 (by assumption) rfl | exact room3 (by assumption) rfl | exact room4 (by assumption) rfl | omega))
  (k_with "k_units" => ((try simp only [units_in1, units_deeper, Around.mark_units, units_caller]); (try dsimp only [ktrTop]); first | exact Nat.le_of_ble_eq_true rfl | exact room1 (by assumption) rfl | exact room2 (by assumption) rfl | exact room3 (by assumption) rfl | exact room4 (by assumption) rfl | omega))
  (k_with "eval ListComp" => (k_here; k_dflt (refine LCg.ListComp_U (F₀ := by k_asm) (by with_unfolding_all rfl) (by decide) (by rfl) (by decide) (by rfl) ?_)))
  (k_with "CompRest" => (with_unfolding_all first
    | (refine LCg.CompRest.succ ?_; intro kwv kwI kwoI kwC kwoC kwD kwm kwh kwtk kwE kwhv kwhC kwhx kwF kwN kwoff kwne; (first | lcg_open kwhv | (obtain ⟨kwt9, kwhv9⟩ := kwhv; subst kwhv9)))
    | refine LCg.CompRest.zero ?_))
  (k_with "FinE" => ((unfold LCg.FinE); intro kwD kwh kwtk kwF kwN kwo1; (try simp only [List.nil_append, List.cons_append] at kwN); (try dsimp only)))
  (k_with "compareOp In str ref" => (k_here; (with_reducible show wpAny _ _ (compareOp CmpOp.In (Value.str _ _) (Value.ref _)) _ _ _); k_dflt (first
    | (refine in_topTup (b := true) (by k_asm) (by k_asm) (by k_is) (by (repeat constructor)) (by decide) ?_; k_whole)
    | (refine in_topTup (b := false) (by k_asm) (by k_asm) (by k_is) (by (repeat constructor)) (by decide) ?_; k_whole))))
  (k_with "k_enter" => ((fail_if_success k_inElt); (refine code_def (by k_asm) (by k_asm) (by k_asm) (by k_asm) (by k_asm) rfl rfl rfl (by k_is) (by k_is) (by k_room) (by (first | exact binds1 rfl | exact binds2 rfl | exact binds3 rfl | exact binds4 rfl | exact binds7 rfl)) (by exact locs rfl) ?_ rfl rfl rfl (by decide); k_whole; intro kwg kwL kwh kwFG kwF kwN kwB kwX kwT; (try dsimp only [List.reverse_cons, List.reverse_nil, List.nil_append, List.cons_append]); (try k_lift kwB); (try k_fold))))
  (k_with "compareOp Eq str str" => (k_here; refine eq_str_no (by assumption) ?_))
  (k_with "subscriptTail Name Constant ref int" => (k_here; (with_reducible show wpAny _ _ (subscriptTail _ _ (Value.ref _) (Value.int 0 _)) _ _ _); k_dflt (refine head_tup (by k_asm) (by k_mem) ?_ (by with_unfolding_all rfl); k_whole)))
  (k_with "call builtin:len" => (k_here; (with_reducible show wpAny _ _ (call (Value.builtin "len") [Value.ref _]) _ _ _); k_dflt (refine len_any (by k_asm) (by k_mem) (by (first | assumption | omega | (simp only [Array.size_push]; omega))) ?_); k_whole))
  (k_with "compareOp In str ref" => (k_here; (with_reducible show wpAny _ _ (compareOp CmpOp.In (Value.str _ _) (Value.ref _)) _ _ _); k_dflt (refine in_nil (by k_asm) (by k_mem) ?_)))
  (k_with "k_mem" => first | exact List.Mem.head _ | (refine List.Mem.tail _ ?_; k_mem) | (refine mem_id ?_; with_reducible assumption) | (refine List.mem_append_left _ ?_; with_reducible assumption) | fail)
  (k_with "k_memK" => first | exact List.Mem.head _ | (refine List.Mem.tail _ ?_; k_memK) | (refine mem_id ?_; with_reducible assumption) | (refine List.mem_append_left _ ?_; with_reducible assumption) | fail)
  (k_with "k_all" => first | exact List.forall_mem_nil _ | exact Far.all (by with_reducible assumption) | exact far_part (by with_reducible assumption) (by intro p hp; (repeat (first | exact hp | refine List.mem_cons_of_mem _ ?_)); (first | done | fail)) | (refine List.forall_mem_cons.mpr ⟨by k_ne, ?_⟩; k_all))
  (k_with "k_allIn" => (first | exact List.forall_mem_nil _ | (refine List.forall_mem_cons.mpr ⟨by k_memK, ?_⟩; k_allIn)))
  (k_with "lcg_sub" => (first | exact List.forall_mem_nil _ | (refine List.forall_mem_cons.mpr ⟨by k_mem, ?_⟩; lcg_sub) | (intro p hp; (repeat (first | exact hp | refine List.mem_cons_of_mem _ ?_)); (first | done | fail))))
  intro hF
  dsimp only [Fars, List.cons_append, List.nil_append] at hF
  obtain ⟨hF0, -⟩ := hF
  refine Spec.sub (runG w ⟨mt, md, hs, ho, hd, vd, rl, lg, ol, HT, MT, sub, (vs5 od1 od2 od3 od4 od5), oj⟩ b ub 5 k _ _ (Nat.lt_of_succ_le (Nat.le_of_ble_eq_true rfl)) (by dsimp only [List.cons_append, List.nil_append]; k_memK) fun wy wd T y1 y2 hW => ?_)
  simp only [Fars, List.cons_append, List.nil_append] at hW
  obtain ⟨hW1, hW2, -⟩ := hW
  simp only [List.cons_append, List.nil_append]
  obtain ⟨nx, hnx⟩ : ∃ nx : Led, nx = [(ol, W.listOf (vs5 od1 od2 od3 od4 od5) oj), (od1, (oMark c1)), (od2, (oLen c2 c3 n c4)), (od3, (oSet c5 rf)), (od4, (oFail c6)), (od5, (oDone c7)), (mt, instObj 526 md), (md, matchD MT sub ho hs), (hs, W.listOf #[] j0), (ho, instObj 589 hd)] := ⟨_, rfl⟩
  rw [← hnx]
  rw [← hnx] at hF0 hW1 hW2
  have hall : ∀ p ∈ [(ol, W.listOf (vs5 od1 od2 od3 od4 od5) oj), (od1, (oMark c1)), (od2, (oLen c2 c3 n c4)), (od3, (oSet c5 rf)), (od4, (oFail c6)), (od5, (oDone c7)), (mt, instObj 526 md), (md, matchD MT sub ho hs), (hs, W.listOf #[] j0), (ho, instObj 589 hd)], p ∈ nx := fun p hp => hnx ▸ hp
  (repeat (have m9 := (List.forall_mem_cons.mp hall).1; replace hall := (List.forall_mem_cons.mp hall).2))
  clear hall
  refine' Chain.go (Head.of (T := T) (g := (Str.ofString "mark")) (i := 0) ?hT ?hf ?k0 ?k1 ?hho ?hmt ?hmd ?hwy ?hwd ?hol ?hi ?hod) (fun u9 => ⟨?hg, ?hg2, (doneMark _ _ _ _ _ _ _ _ _ _ _ _  ?s_h0 ?s_h1).more (by decide) (by decide), ?hK, ?hT2, ?hF, ?hF2⟩) ?hv ?hn
  case hT => (try dsimp only); (refine' Take.cons ?r1 ?t1; (case r1 => ((repeat (first | exact Rem.head | apply Rem.tail)); done)); (case t1 => exact Take.nil))
  case hho => (try dsimp only); k_memK
  case hmt => (try dsimp only); k_memK
  case hmd => (try dsimp only); k_memK
  case hwy => (try dsimp only); k_memK
  case hwd => (try dsimp only); k_memK
  case hol => (try dsimp only); k_memK
  case hi => with_unfolding_all rfl
  case hod => (try dsimp only); k_memK
  case hK => (try dsimp only); k_allIn
  case hT2 => (try dsimp only); (refine' Take.cons ?r1 ?t1; (case r1 => ((repeat (first | exact Rem.head | apply Rem.tail)); done)); (case t1 => exact Take.nil))
  case hf => refine ⟨?_⟩; (try dsimp only); k_all
  case hF => repeat (first | exact fars_nil | refine fars_cons (by ((try simp only [List.cons_append, List.nil_append]); k_all)) ?_)
  case hF2 => repeat (first | exact fars_nil | refine fars_cons (by ((try simp only [List.cons_append, List.nil_append]); k_all)) ?_)
  case k0 => first | assumption | omega
  case k1 => first | assumption | omega
  case hg => decide
  case hg2 => decide
  case s_h0 => decide
  case s_h1 => decide
  case hv => rintro u9 v9 made9 chg9 ⟨mk9, t19, t29, t39, e9, -⟩; exact e9
  case hn =>
    rintro u9 v9 made9 chg9 ⟨mk9, t19, t29, t39, rfl, rfl, rfl⟩ A9
    (try dsimp only [Fars, List.cons_append, List.nil_append] at A9)
    (try simp only [List.cons_append, List.nil_append])
    obtain ⟨A09, -⟩ := A9
    refine' Chain.out (Head.of (T := T) (g := (Str.ofString "one")) (i := 1) ?hT ?hf ?k0 ?k1 ?hho ?hmt ?hmd ?hwy ?hwd ?hol ?hi ?hod) (fun u9 => ⟨?hg, ?hg2, (doneLenNo _ _ _ _ _ _ _ _ _ _ _ _ _ _ _ _ _ _ _ _ _  ?s_h0 ?s_h1 ?s_g0 ?s_g1 ?s_g2 ?s_g3 ?s_g4 ?s_hin).more (by decide) (by decide), ?hK, ?hT2, ?hF, ?hF2⟩) ?hv ?hm ?hp
    case hT => (try dsimp only); (refine' Take.cons ?r1 ?t1; (case r1 => ((repeat (first | exact Rem.head | apply Rem.tail)); done)); (case t1 => exact Take.nil))
    case hho => (try dsimp only); k_memK
    case hmt => (try dsimp only); k_memK
    case hmd => (try dsimp only); k_memK
    case hwy => (try dsimp only); k_memK
    case hwd => (try dsimp only); k_memK
    case hol => (try dsimp only); k_memK
    case hi => with_unfolding_all rfl
    case hod => (try dsimp only); k_memK
    case hK => (try dsimp only); k_allIn
    case hT2 => (try dsimp only); (refine' Take.cons ?r1 ?t1; (case r1 => ((repeat (first | exact Rem.head | apply Rem.tail)); done)); (case t1 => exact Take.nil))
    case hf => refine ⟨?_⟩; (try dsimp only); k_all
    case hF => repeat (first | exact fars_nil | refine fars_cons (by ((try simp only [List.cons_append, List.nil_append]); k_all)) ?_)
    case hF2 => repeat (first | exact fars_nil | refine fars_cons (by ((try simp only [List.cons_append, List.nil_append]); k_all)) ?_)
    case k0 => first | assumption | omega
    case k1 => first | assumption | omega
    case hg => decide
    case hg2 => decide
    case s_h0 => decide
    case s_h1 => decide
    case s_g0 => first | assumption | decide | omega | (simp only [Array.size_push]; omega)
    case s_g1 => first | assumption | decide | omega | (simp only [Array.size_push]; omega)
    case s_g2 => first | assumption | decide | omega | (simp only [Array.size_push]; omega)
    case s_g3 => first | assumption | decide | omega | (simp only [Array.size_push]; omega)
    case s_g4 => first | assumption | decide | omega | (simp only [Array.size_push]; omega)
    case s_hin => first | assumption | decide | omega | (simp only [Array.size_push]; omega)
    case hv => rintro u9 v9 made9 chg9 ⟨e9, -⟩; exact e9
    case hm =>
      rintro u9 v9 made9 chg9 ⟨rfl, rfl, rfl⟩ A9
      (try simp only [List.cons_append, List.nil_append])
      exact ⟨by k_memK, by k_memK, by k_memK⟩
    case hp =>
      rintro u9 v9 made9 chg9 ⟨rfl, rfl, rfl⟩ A9 rt9 t9 hrt
      (try simp only [List.cons_append, List.nil_append])
      (try simp only [List.cons_append, List.nil_append] at hrt)
      refine' ⟨_, ?sub, _, _, rfl, ?fars, ?mp, ?e_rt, ?e_t1, ?e_t5, rfl, rfl, rfl⟩
      case sub => (try simp only [List.cons_append, List.nil_append]); lcg_sub
      case mp => exact rfl
      case fars => repeat (first | exact fars_nil | refine fars_cons (by ((try simp only [List.cons_append, List.nil_append]); k_all)) ?_)
end

section
set_option maxHeartbeats 400000
section
variable {prog : Program} {w : World} {A : Around} {E : Value → Shared → Prop} {s : Shared} {env : Env} {h₀ : Heap} {x : Str} {body : List Stmt} {Q : Flow → Shared → Prop}
theorem iter_range {r : Addr} {a₀ b₀ : Int} {t₀ u₀ v₀ : Tok} {n : Nat} {m₀ : Str → Option Value} {news : Led} (S : List Str) (J : Nat → Led → Prop)
    (hh : A.handled = none) (hr : IsRange s.heap r a₀ b₀ 1 t₀ u₀ v₀) (hsmall : Builtin.Range.small a₀ b₀ 1 = true) (hn : Builtin.Range.rangeSize a₀ b₀ 1 = (n : Int)) (F : Fr h₀ env.locals s.heap m₀) (N : News h₀ env.locals s.heap news) (hj : J 0 news)
    (turn : ∀ (i : Nat) (t : Tok) (m₁ : Str → Option Value) (news₁ : Led) (h : Heap) (tk : Nat) (I : Addr) (oI : Obj), i < n → J i news₁ → Far I news₁ → Fr h₀ env.locals h (fun y => if y = x then some (.int (a₀ + i) t) else if y ∈ S then m₁ y else m₀ y) → News h₀ env.locals h ((I, oI) :: news₁) →
      wpAny (model prog w) A (execs body env) (TurnEnd h₀ env.locals x S m₀ (J (i + 1)) I oI { s with heap := h, toks := tk } Q) E { s with heap := h, toks := tk })
    (done : ∀ (m₁ : Str → Option Value) (news₁ : Led) (h : Heap) (tk : Nat), J n news₁ → Fr h₀ env.locals h (fun y => if y = x then m₁ y else if y ∈ S then m₁ y else m₀ y) → News h₀ env.locals h news₁ → Q .next { s with heap := h, toks := tk }) :
    wpAny (model prog w) A (pyIter (.ref r)) (fun it s₂ => LoopAtV prog w A h₀ env x body Q E it s₂) E s := by
  refine wpAny_pyIter_range hr hsmall ?_
  have WL : Walks prog w A s.heap.objs.size [s.heap.objs.size] [s.heap.objs.size] n (fun i v => i < n ∧ ∃ t, v = .int (a₀ + i * 1) t)
      (fun i h => IsRangeIter h s.heap.objs.size (a₀ + (i : Nat) * 1) ((n : Int) - (i : Nat)) 1) := (Walks.range hh _ a₀ 1 n).bound
  refine ⟨_, _, _, n, _, _, m₀, news, (fun i m nx => Forgot x S m₀ m ∧ J i nx), rfl, WL, ?_, ?_, ?_, (by show IsRangeIter _ _ _ _ _; rw [hn]; simpa using Heap.get?_push_size _ rfl), F.push _, (fun p hp => ⟨Heap.get?_push_of_some _ (N p hp).1, (N p hp).2⟩), ⟨fun _ _ _ => rfl, hj⟩, ?_, ?_⟩
  · intro hm
    exact absurd F.ns.lt ((List.mem_singleton.mp hm) ▸ Nat.lt_irrefl _)
  · intro b hb
    rw [List.mem_singleton.mp hb]
    exact next_is_new F
  · intro p hp hI
    exact absurd (Heap.lt_size (N p hp).1) ((List.mem_singleton.mp hI) ▸ Nat.lt_irrefl _)
  · rintro i v m₁ news₁ s₁ own ⟨hh', tk', rfl⟩ hin ⟨_, t, rfl⟩ ⟨hm, hJ⟩ hoff hown hget hfp st F₁ N₁
    have hoI : ∃ oI, hh'.get? s.heap.objs.size = some oI := ⟨_, st⟩
    obtain ⟨oI, hoI⟩ := hoI
    have hwr : h₀.get? s.heap.objs.size = none := next_is_new F
    have hIown : (s.heap.objs.size, oI) ∈ own := hfp _ (List.mem_cons_self) hwr oI hoI
    have N₂ : News h₀ env.locals hh' ((s.heap.objs.size, oI) :: news₁) := fun p hp => by
      rcases List.mem_cons.mp hp with rfl | hp
      · exact N₁ _ (List.mem_append_left _ hIown)
      · exact N₁ p (List.mem_append_right _ hp)
    rw [forgot_set hm, Int.mul_one] at F₁
    refine wpAny_mono (turn i t m₁ news₁ hh' tk' _ oI hin hJ ⟨fun p hp e => hoff p hp (List.mem_singleton.mpr e)⟩ F₁ N₂) (fun f s₂ p => ?_) fun _ _ e => e
    have fin : (∃ h' tk m' nx, s₂ = { heap := h', gens := s.gens, drawn := s.drawn, toks := tk, os := s.os } ∧ Fr h₀ env.locals h' m' ∧ News h₀ env.locals h' ((s.heap.objs.size, oI) :: nx) ∧ Far s.heap.objs.size nx ∧ (∀ z, z ≠ x → z ∉ S → m' z = m₀ z) ∧ J (i + 1) nx) →
        LoopStepU h₀ env.locals [s.heap.objs.size] own (fun m nx => Forgot x S m₀ m ∧ J (i + 1) nx) { s with heap := hh', toks := tk' } .next s₂ := by
      rintro ⟨h', tk, m', nx, e, F', N', hf, hm', hJ'⟩
      refine ⟨rfl, h', tk, m', nx, e, F', fun p hp => ?_, fun p hp hI => hf.all p hp (List.mem_singleton.mp hI), hm', hJ'⟩
      rcases List.mem_append.mp hp with h | h
      · have h2 := List.mem_singleton.mp (hown p h)
        have h3 := hget p h
        have h4 : hh'.get? p.1 = some oI := h2 ▸ hoI
        rw [h4] at h3
        have h5 : p = (s.heap.objs.size, oI) := Prod.ext h2 (Option.some.inj h3).symm
        rw [h5]; exact N' _ List.mem_cons_self
      · exact N' p (List.mem_cons_of_mem _ h)
    cases f with
    | ret v => exact .ret p
    | brk => exact .brk p
    | next => exact .next (fin p)
    | cont => exact .cont (fin p)
  · rintro h' tk m' news' F' N' _ ⟨hm, hJ⟩
    rw [forgot_eq hm] at F'
    exact done m' news' h' tk hJ F' N'
end
/-- the log: refs to pairs ('W', text) -/
inductive LogAre : List Value → List Str → Led → Prop
  | nil : LogAre [] [] []
  | snoc {vs : List Value} {xs : List Str} {l : Led} {q : Addr} {t1 t2 : Tok} {x : Str} : LogAre vs xs l → LogAre (vs ++ [.ref q]) (xs ++ [x]) ((q, tup [.str (Str.ofString "W") t1, .str x t2]) :: l)

theorem fars_same : ∀ {m l l' : Led}, Fars m l → l.map (·.1) = l'.map (·.1) → Fars m l'
  | [], _, _, _, _ => trivial
  | a :: r, l, l', h, e => ⟨⟨fun p hp => by
      rcases List.mem_append.mp hp with hp | hp
      · exact h.1.all p (List.mem_append_left _ hp)
      · have : p.1 ∈ l.map (·.1) := e ▸ List.mem_map_of_mem hp
        obtain ⟨q, hq, e2⟩ := List.mem_map.mp this
        rw [← e2]
        exact h.1.all q (List.mem_append_right _ hq)⟩, fars_same h.2 e⟩
theorem far_sub {d : Addr} {l l' : Led} (h : Far d l) (hs : ∀ p ∈ l', p ∈ l) : Far d l' := ⟨fun p hp => h.all p (hs p hp)⟩
theorem log_more {sub : Str} {n : Int} {N i : Nat} {qv : List Value} {ents : Led} {q : Addr} {t1 t2 : Tok} (hi : i < N) (h : LogAre qv (List.map (fun i : Nat => PySem.Txt.slice sub (some (i : Int)) (some ((i : Int) + n))) (List.range (min i N))) ents) :
    LogAre (qv ++ [.ref q]) (List.map (fun i : Nat => PySem.Txt.slice sub (some (i : Int)) (some ((i : Int) + n))) (List.range (min (i + 1) N))) ((q, tup [.str (Str.ofString "W") t1, .str (PySem.Txt.slice sub (some (i : Int)) (some ((i : Int) + n))) t2]) :: ents) := by
  have e1 : min i N = i := Nat.min_eq_left (Nat.le_of_lt hi)
  have e2 : min (i + 1) N = i + 1 := Nat.min_eq_left hi
  rw [e1] at h
  rw [e2, List.range_succ, List.map_append]
  exact .snoc h

theorem news_swap {h₀ h : Heap} {L : Addr} {l m : Led} (N : News h₀ L h (m ++ l)) : News h₀ L h (l ++ m) := news_sub N fun p hp => (List.mem_append.mp hp).elim (fun h => List.mem_append_right _ h) fun h => List.mem_append_left _ h
theorem fars_sub {m l l' : Led} (h : Fars m l) (hs : ∀ p ∈ l', p ∈ l) : Fars m l' := fars_mono h fun p hp => .inl (hs p hp)
end

section
set_option maxHeartbeats 1500000
theorem mo2 (w : World) (ol od1 od2 od3 od4 od5 : Addr) (ho hd vd rl lg : Addr) (HT : HostT) (u3 : Tok) (rf rd : Addr) (RT : RefT) (sub : Str) (us : Tok) (c1 c2 c3 c4 c5 c6 c7 : Tok) (n k : Int) (N : Nat) (ov : Obj) (kvs : List (Str × Value)) (j oj : Nat) (n0 : 1 ≤ n) (n1 : n ≤ 6) (g4 : sub.length ≤ 12) (k0 : 0 ≤ k) (k1 : k < 9000) (hN : (N : Int) + n = (sub.length : Int) + 1) (hes : ov.IsDictOf (PySem.strKind PySem.Challenge.rw_xm0958_01.row.prog w) kvs) (hkz : kvs.length ≤ 20) :
    Con w 544 [.ref ol, .str sub us, .bool false, .ref ho] [(hd, hostD HT vd rl lg k u3), (vd, ov), (lg, W.listOf #[] j)] [(ol, W.listOf (vs5 od1 od2 od3 od4 od5) oj), (od1, (oMark c1)), (od2, (oLen c2 c3 n c4)), (od3, (oSet c5 rf)), (od4, (oFail c6)), (od5, (oDone c7)), (ho, instObj 589 hd), (rl, W.listOf #[] 0), (rf, instObj 208 rd), (rd, refD RT)] 80 600
      (fun (v : Value) (made chg' : List (Addr × Obj)) => v = .none ∧ ∃ (ov2 : Obj) (qv : List Value) (j2 : Nat) (k2 : Int) (u2 : Tok), chg' = [(hd, hostD HT vd rl lg k2 u2), (vd, ov2), (lg, W.listOf qv.toArray j2)] ∧ LogAre qv (List.map (fun i : Nat => PySem.Txt.slice sub (some (i : Int)) (some ((i : Int) + n))) (List.range N)) made) := by
  k_with_none
  (k_with "WhlIf" => ((first | (refine WhlIf.yes (by with_unfolding_all rfl) ?_) | (refine WhlIf.no (by with_unfolding_all rfl) ?_) | (refine WhlIf.yes (by decide) ?_) | (refine WhlIf.no (by decide) ?_)); (try k_fold)))
  (k_with "setAttr ref" => (k_here; k_dflt (refine set_dict_any (by k_asm) (by k_asm) (by k_asm) (by k_inst) (by exact rfl) (by k_is) (by k_is) (by k_is) (by k_is) (by k_get) (by (intro kH kt; k_put)) (by (intro kH kt; k_upd)) (by (intro kH kt; exact Nat.le_of_ble_eq_true rfl)) ?_; k_whole); intro kwh kwH kwt kwF kwN; (try k_sweep)))
  (k_with "k_allIn" => (first | exact List.forall_mem_nil _ | (refine List.forall_mem_cons.mpr ⟨by (first | exact nth_mem 0 rfl | exact nth_mem 1 rfl | exact nth_mem 2 rfl | exact nth_mem 3 rfl | exact nth_mem 4 rfl | exact nth_mem 5 rfl | exact nth_mem 6 rfl | exact nth_mem 7 rfl | exact nth_mem 8 rfl | exact nth_mem 9 rfl | exact nth_mem 10 rfl | exact nth_mem 11 rfl | exact nth_mem 12 rfl | exact nth_mem 13 rfl | exact nth_mem 14 rfl | exact nth_mem 15 rfl | exact nth_mem 16 rfl | exact nth_mem 17 rfl | exact nth_mem 18 rfl | exact nth_mem 19 rfl | exact nth_mem 20 rfl | exact nth_mem 21 rfl | exact nth_mem 22 rfl | exact nth_mem 23 rfl | exact nth_mem 24 rfl | exact nth_mem 25 rfl | k_memK), ?_⟩; k_allIn)))
  (k_with "lcg_sub" => (first | exact List.forall_mem_nil _ | (refine List.forall_mem_cons.mpr ⟨by (first | exact nth_mem 0 rfl | exact nth_mem 1 rfl | exact nth_mem 2 rfl | exact nth_mem 3 rfl | exact nth_mem 4 rfl | exact nth_mem 5 rfl | exact nth_mem 6 rfl | exact nth_mem 7 rfl | exact nth_mem 8 rfl | exact nth_mem 9 rfl | exact nth_mem 10 rfl | exact nth_mem 11 rfl | exact nth_mem 12 rfl | exact nth_mem 13 rfl | exact nth_mem 14 rfl | exact nth_mem 15 rfl | exact nth_mem 16 rfl | exact nth_mem 17 rfl | exact nth_mem 18 rfl | exact nth_mem 19 rfl | exact nth_mem 20 rfl | exact nth_mem 21 rfl | exact nth_mem 22 rfl | exact nth_mem 23 rfl | exact nth_mem 24 rfl | exact nth_mem 25 rfl | k_mem), ?_⟩; lcg_sub)))
  (k_with "k_ne" => (refine neN ?_; (try dsimp only); first
    | exact allLt_ne (by with_reducible assumption) (by k_mem)
    | exact allLt_ne' (by with_reducible assumption) (by k_mem)
    | exact far_ne (by with_reducible assumption) (by k_mem)
    | exact far_ne' (by with_reducible assumption) (by k_mem)
    | exact allLt_ne2 (by with_reducible assumption) (by with_reducible assumption) (by k_mem)
    | exact allLt_ne2' (by with_reducible assumption) (by with_reducible assumption) (by k_mem)
    | exact Nat.ne_of_lt (by assumption)
    | exact Nat.ne_of_gt (by assumption)
    | assumption
    | (refine Ne.symm ?_; assumption)
    | exact off1_ne (by assumption) (by k_mem)
    | (refine Ne.symm ?_; exact off1_ne (by assumption) (by k_mem))
    | exact apart_ne (by assumption) (by k_mem) (by k_mem)
    | exact apart_ne' (by assumption) (by k_mem) (by k_mem)
    | omega))
  (k_with "lcg_off" => first | exact True.intro | assumption | (refine And.intro ⟨by k_ne, by k_ne, by k_ne⟩ ?_; lcg_off))
  (k_with "k_room" => ((try simp only [depth_under_make, depth_under_kw, depth_in1, depth_deeper, depth_caller]); (try dsimp only [ktrTop]); first | exact Nat.le_of_ble_eq_true rfl | exact room1 (by assumption) rfl | exact room2 (by assumption) rfl | exact room3 (by assumption) rfl | exact room4 (by assumption) rfl | omega))
  (k_with "k_units" => ((try simp only [units_in1, units_deeper, Around.mark_units, units_caller]); (try dsimp only [ktrTop]); first | exact Nat.le_of_ble_eq_true rfl | exact room1 (by assumption) rfl | exact room2 (by assumption) rfl | exact room3 (by assumption) rfl | exact room4 (by assumption) rfl | omega))
  (k_with "eval ListComp" => (k_here; k_dflt (refine LCg.ListComp_U (F₀ := by k_asm) (by with_unfolding_all rfl) (by decide) (by rfl) (by decide) (by rfl) ?_)))
  (k_with "CompRest" => (with_unfolding_all first
    | (refine LCg.CompRest.succ ?_; intro kwv kwI kwoI kwC kwoC kwD kwm kwh kwtk kwE kwhv kwhC kwhx kwF kwN kwoff kwne; (first | lcg_open kwhv | (obtain ⟨kwt9, kwhv9⟩ := kwhv; subst kwhv9)))
    | refine LCg.CompRest.zero ?_))
  (k_with "FinE" => ((unfold LCg.FinE); intro kwD kwh kwtk kwF kwN kwo1; (try simp only [List.nil_append, List.cons_append] at kwN); (try dsimp only)))
  (k_with "compareOp In str ref" => (k_here; (with_reducible show wpAny _ _ (compareOp CmpOp.In (Value.str _ _) (Value.ref _)) _ _ _); k_dflt (first
    | (refine in_topTup (b := true) (by k_asm) (by k_asm) (by k_is) (by (repeat constructor)) (by decide) ?_; k_whole)
    | (refine in_topTup (b := false) (by k_asm) (by k_asm) (by k_is) (by (repeat constructor)) (by decide) ?_; k_whole))))
  (k_with "k_enter" => ((fail_if_success k_inElt); (refine code_def (by k_asm) (by k_asm) (by k_asm) (by k_asm) (by k_asm) rfl rfl rfl (by k_is) (by k_is) (by k_room) (by (first | exact binds1 rfl | exact binds2 rfl | exact binds3 rfl | exact binds4 rfl | exact binds7 rfl)) (by exact locs rfl) ?_ rfl rfl rfl (by decide); k_whole; intro kwg kwL kwh kwFG kwF kwN kwB kwX kwT; (try dsimp only [List.reverse_cons, List.reverse_nil, List.nil_append, List.cons_append]); (try k_lift kwB); (try k_fold))))
  (k_with "compareOp Eq str str" => (k_here; refine eq_str_no (by assumption) ?_))
  (k_with "subscriptTail Name Constant ref int" => (k_here; (with_reducible show wpAny _ _ (subscriptTail _ _ (Value.ref _) (Value.int 0 _)) _ _ _); k_dflt (refine head_tup (by k_asm) (by k_mem) ?_ (by with_unfolding_all rfl); k_whole)))
  (k_with "call builtin:len" => (k_here; (with_reducible show wpAny _ _ (call (Value.builtin "len") [Value.ref _]) _ _ _); k_dflt (refine len_any (by k_asm) (by k_mem) (by (first | assumption | omega | (simp only [Array.size_push]; omega))) ?_); k_whole))
  (k_with "compareOp In str ref" => (k_here; (with_reducible show wpAny _ _ (compareOp CmpOp.In (Value.str _ _) (Value.ref _)) _ _ _); k_dflt (refine in_nil (by k_asm) (by k_mem) ?_)))
  (k_with "call ref" => (k_here; (with_reducible show wpAny _ _ (call (Value.ref 474) [Value.ref _, Value.ref _, Value.int _ _]) _ _ _); refine hold_of ?_))
  (k_with "k_memK" => assumption)
  (k_with "k_all" => exact Far.all (by with_reducible assumption))
  (k_with "k_all" => first | exact young_sub (by with_reducible assumption) (by intro p hp; repeat (first | exact hp | refine List.mem_cons_of_mem _ ?_)) | exact young_sub2 (by with_reducible assumption) (by with_reducible assumption) (by intro p hp; repeat (first | exact hp | refine List.mem_cons_of_mem _ ?_)))
  intro hF
  unfold Spec
  k_fill
  intro dp un gd cn cs a ccd cl outer A₀ base h₀ L m s Q E mean mg mb rest B F X N dis T hk hdp hun hret
  dsimp only [Fars, List.cons_append, List.nil_append] at hF
  obtain ⟨hF0, hF1, hF2, -⟩ := hF
  try simp only [List.cons_append, List.nil_append] at N dis hret
  refine' enterR B F X N dis T hk ?room ?ho ?hcd ?bind ?loc ?_ ?hcell ?hco ?hgen ?hkk
  case room => first | exact room0 (by assumption) | omega
  case ho => k_dflt k_is
  case hcd => k_dflt k_is
  case bind => exact binds4 rfl
  case loc => exact locs rfl
  case hcell => decide
  case hco => exact rfl
  case hgen => exact rfl
  case hkk => exact rfl
  intro g L' h₁ F' N' B' X' T'
  clear B F X N T dis
  k_fold
  k_steps
  rename IsRange _ _ _ _ _ _ _ _ => rg
  rename Fr _ _ _ _ => lF
  rename News _ _ _ _ => lN
  have hsz : @LE.le Nat _ sub.length 12 := g4
  refine iter_range (n := sub.length + 1) [Str.ofString "how", Str.ofString "way"] (fun i nx => ∃ (ov2 : Obj) (kvs2 : List (Str × Value)) (qv : List Value) (j2 : Nat) (k2 : Int) (u2 : Tok) (ents : Led), nx = (hd, hostD HT vd rl lg k2 u2) :: (vd, ov2) :: (lg, W.listOf qv.toArray j2) :: ([(ol, W.listOf (vs5 od1 od2 od3 od4 od5) oj), (od1, (oMark c1)), (od2, (oLen c2 c3 n c4)), (od3, (oSet c5 rf)), (od4, (oFail c6)), (od5, (oDone c7)), (ho, instObj 589 hd), (rl, W.listOf #[] 0), (rf, instObj 208 rd), (rd, refD RT)] ++ ents) ∧ ov2.IsDictOf (PySem.strKind PySem.Challenge.rw_xm0958_01.row.prog w) kvs2 ∧ kvs2.length ≤ kvs.length + i ∧ 0 ≤ k2 ∧ k2 ≤ k + 4 * i ∧ Fars [(hd, hostD HT vd rl lg k2 u2), (vd, ov2), (lg, W.listOf qv.toArray j2)] ([(ol, W.listOf (vs5 od1 od2 od3 od4 od5) oj), (od1, (oMark c1)), (od2, (oLen c2 c3 n c4)), (od3, (oSet c5 rf)), (od4, (oFail c6)), (od5, (oDone c7)), (ho, instObj 589 hd), (rl, W.listOf #[] 0), (rf, instObj 208 rd), (rd, refD RT)] ++ ents) ∧ Fars ents ((hd, hostD HT vd rl lg k2 u2) :: (vd, ov2) :: (lg, W.listOf qv.toArray j2) :: [(ol, W.listOf (vs5 od1 od2 od3 od4 od5) oj), (od1, (oMark c1)), (od2, (oLen c2 c3 n c4)), (od3, (oSet c5 rf)), (od4, (oFail c6)), (od5, (oDone c7)), (ho, instObj 589 hd), (rl, W.listOf #[] 0), (rf, instObj 208 rd), (rd, refD RT)]) ∧ qv.length = min i N ∧ LogAre qv (List.map (fun i : Nat => PySem.Txt.slice sub (some (i : Int)) (some ((i : Int) + n))) (List.range (min i N))) ents) ?hh rg ?small ?hn lF lN ?j0 ?turn ?done
  case hh => with_unfolding_all rfl
  case small => exact small_one (by decide) (by decide) (by omega) (by omega)
  case hn => rw [rangeSize_nat]; omega
  case j0 => exact ⟨ov, kvs, [], j, k, _, [], rfl, hes, Nat.le_refl _, k0, by omega, ⟨hF0, hF1, hF2, trivial⟩, trivial, by simp, by simpa using LogAre.nil⟩
  case turn =>
    clear lF lN rg
    intro i t m₁ news₁ h tk I oI hi hJ hFI F1 N1
    obtain ⟨ov2, kvs2, qv, j2, k2, u2, ents, rfl, hes2, hkz2, k20, k21, hG, hE, hql, hlog⟩ := hJ
    simp only [List.cons_append, List.nil_append] at N1 hFI
    rw [Int.zero_add] at F1
    simp only [Fars, List.cons_append, List.nil_append] at hG
    obtain ⟨hG0, hG1, hG2, -⟩ := hG
    have tl : ∀ p ∈ ents, p ∈ [(ol, W.listOf (vs5 od1 od2 od3 od4 od5) oj), (od1, (oMark c1)), (od2, (oLen c2 c3 n c4)), (od3, (oSet c5 rf)), (od4, (oFail c6)), (od5, (oDone c7)), (ho, instObj 589 hd), (rl, W.listOf #[] 0), (rf, instObj 208 rd), (rd, refD RT)] ++ ents := fun p hp => List.mem_append_right _ hp
    have e0 : Far hd ents := far_sub hG0 fun p hp => List.mem_cons_of_mem _ (List.mem_cons_of_mem _ (tl p hp))
    have e1 : Far vd ents := far_sub hG1 fun p hp => List.mem_cons_of_mem _ (tl p hp)
    have e2 : Far lg ents := far_sub hG2 fun p hp => tl p hp
    have e3 : Far I ents := far_sub hFI fun p hp => List.mem_cons_of_mem _ (List.mem_cons_of_mem _ (List.mem_cons_of_mem _ (tl p hp)))
    clear hF0 hF1 hF2 tl
    replace hG0 := id hG0
    replace hG1 := id hG1
    replace hG2 := id hG2
    replace hFI := id hFI
    have hqz : qv.toArray.size ≤ 90 := by
      rw [List.size_toArray, hql]
      have : @LE.le Nat _ (min i N) i := Nat.min_le_left _ _
      have : @LT.lt Nat _ i (sub.length + 1) := hi
      omega
    have hi2 : @LT.lt Nat _ i (sub.length + 1) := hi
    have hkz3 : kvs2.length ≤ 100 := by
      have : @LE.le Nat _ kvs2.length (kvs.length + i) := hkz2
      have : @LE.le Nat _ kvs.length 20 := hkz
      omega
    have g5 : sub.length ≤ 20 := Nat.le_trans hsz (by decide)
    try k_fold
    k_steps
    unfold Hold
    rename Fr _ _ _ _ => lF
    rename News _ _ _ _ => lN
    (try dsimp only at lN)
    generalize PyData.keyHash w.params (Str.ofString "subject") = H0 at lN
    generalize PyData.keyHash w.params (Str.ofString "host") = H1 at lN
    generalize PyData.keyHash w.params (Str.ofString "history") = H2 at lN
    by_cases hin : (i : Int) + n ≤ (sub.length : Int)
    · have hiN : i < N := by have : @LT.lt Nat _ i N := by omega
                             exact this
      refine' Con.use (run2 _ _ ol od1 od2 od3 od4 od5 ho hd vd rl lg HT _ _ _ sub ⟨_, _, _, _, _, _, _⟩ rf rd RT c1 c2 c3 c4 c5 c6 c7 _ _ n _ _ _ _ _ _ oj ?s_b0 ?s_b1 ?s_n0 ?s_n1 ?s_g4 ?s_k0 ?s_k1 ?s_hz ?s_hes ?s_hkz ?s_hin) ?B lF ?X lN ?T ?kk ?hK ?hT ?hF ?hF2 ?room ?un ?_
      case B => k_asm
      case X => k_asm
      case T => k_asm
      case kk => exact rfl
      case hK => k_allIn
      case hT => (refine' Take.cons ?r1 ?t1; (case r1 => ((repeat (first | exact Rem.head | apply Rem.tail)); done)); (case t1 => (refine' Take.cons ?r1 ?t1; (case r1 => ((repeat (first | exact Rem.head | apply Rem.tail)); done)); (case t1 => (refine' Take.cons ?r1 ?t1; (case r1 => ((repeat (first | exact Rem.head | apply Rem.tail)); done)); (case t1 => exact Take.nil))))))
      case hF2 => repeat (first | exact fars_nil | refine fars_cons (by ((try simp only [List.cons_append, List.nil_append]); k_all)) ?_)
      case hF => repeat (first | exact fars_nil | refine fars_cons (by ((try simp only [List.cons_append, List.nil_append]); k_all)) ?_)
      case room => k_room
      case un => k_units
      case s_b0 => first | assumption | omega
      case s_b1 => first | assumption | omega
      case s_n0 => first | assumption | omega
      case s_n1 => first | assumption | omega
      case s_g4 => first | assumption | omega
      case s_k0 => first | assumption | omega
      case s_k1 => first | assumption | omega
      case s_hz => first | assumption | omega
      case s_hes => first | assumption | omega
      case s_hkz => first | assumption | omega
      case s_hin => first | assumption | omega
      rintro v9 made9 chg9 h9 tk9 ⟨rt9, q9, a1, a2, a3, a4, a5, o9, rfl, rfl, rfl, x9⟩ F9 N9 A9
      simp only [List.cons_append, List.nil_append, List.push_toArray] at N9
      simp only [Fars, List.cons_append, List.nil_append, List.push_toArray] at A9
      obtain ⟨A1, A2, -⟩ := A9
      clear lN lF
      try k_fold
      k_steps
      rename Fr _ _ _ _ => lF
      rename News _ _ _ _ => lN
      refine' ⟨_, _, _, _, rfl, lF, news_sub lN ?sub, ⟨?far⟩, ?fg, o9, _, _, j2 + 1, k2 + 1 + 1 + 1 + 1, a5, (q9, _) :: ents, rfl, x9, ?kl, ?k0, ?k1, ?fs, ?fe, ?ql, log_more hiN hlog⟩
      case sub => refine List.forall_mem_cons.mpr ⟨by k_mem, ?_⟩; (try simp only [List.cons_append, List.nil_append]); (repeat (refine List.forall_mem_cons.mpr ⟨by k_mem, ?_⟩)); exact fun p hp => by repeat (first | exact hp | refine List.mem_cons_of_mem _ ?_)
      case far => (try simp only [List.cons_append, List.nil_append]); (repeat (refine List.forall_mem_cons.mpr ⟨by k_ne, ?_⟩)); exact e3.all
      case fg => intro z h1 h2; simp only [List.mem_cons, List.not_mem_nil, or_false, not_or] at h2; simp [h1, h2.1, h2.2]
      case kl => exact Nat.le_trans (stored_length_le _ _ _) (Nat.succ_le_succ hkz2)
      case k0 => omega
      case k1 => omega
      case fs => repeat (first | exact fars_nil | refine fars_cons (by ((try simp only [List.cons_append, List.nil_append]); k_all)) ?_)
      case fe => exact ⟨far_sub A2 (List.forall_mem_append.mpr ⟨fun p hp => by repeat (first | exact hp | refine List.mem_cons_of_mem _ ?_), by lcg_sub⟩), fars_same hE rfl⟩
      case ql => rw [List.length_append, hql]; have h1 : @LT.lt Nat _ i N := hiN; simp only [List.length_cons, List.length_nil]; rw [Nat.min_eq_left (Nat.le_of_lt h1), Nat.min_eq_left h1]
    · refine' Con.use (run2n _ _ ol od1 od2 od3 od4 od5 ho hd vd rl lg HT _ _ _ sub ⟨_, _, _, _, _, _, _⟩ rf rd RT c1 c2 c3 c4 c5 c6 c7 _ _ n _ ov2 kvs2 qv.toArray 0 _ oj ?s2_b0 ?s2_b1 ?s2_n0 ?s2_n1 ?s2_g4 ?s2_k0 ?s2_k1 ?s2_hz ?s2_hes ?s2_hkz ?s2_hin) ?B2 lF ?X2 lN ?T2 ?kk2 ?hK2 ?hT2 ?hFa ?hFb ?room2 ?un2 ?_
      case B2 => k_asm
      case X2 => k_asm
      case T2 => k_asm
      case kk2 => exact rfl
      case hK2 => k_allIn
      case hT2 => (refine' Take.cons ?r1 ?t1; (case r1 => ((repeat (first | exact Rem.head | apply Rem.tail)); done)); (case t1 => exact Take.nil))
      case hFb => repeat (first | exact fars_nil | refine fars_cons (by ((try simp only [List.cons_append, List.nil_append]); k_all)) ?_)
      case hFa => repeat (first | exact fars_nil | refine fars_cons (by ((try simp only [List.cons_append, List.nil_append]); k_all)) ?_)
      case room2 => k_room
      case un2 => k_units
      case s2_b0 => first | assumption | omega
      case s2_b1 => first | assumption | omega
      case s2_n0 => first | assumption | omega
      case s2_n1 => first | assumption | omega
      case s2_g4 => first | assumption | omega
      case s2_k0 => first | assumption | omega
      case s2_k1 => first | assumption | omega
      case s2_hz => first | assumption | omega
      case s2_hes => first | assumption | omega
      case s2_hkz => first | assumption | omega
      case s2_hin => first | assumption | omega
      rintro v9 made9 chg9 h9 tk9 ⟨rt9, a1, a5, rfl, rfl, rfl⟩ F9 N9 A9
      simp only [List.cons_append, List.nil_append] at N9
      clear lN lF A9
      try k_fold
      k_steps
      rename Fr _ _ _ _ => lF
      rename News _ _ _ _ => lN
      have hNi : min i N = N := Nat.min_eq_right (by have : @LE.le Nat _ N i := by omega
                                                     exact this)
      have hNi2 : min (i + 1) N = N := Nat.min_eq_right (by have : @LE.le Nat _ N (i + 1) := by omega
                                                            exact this)
      refine' ⟨_, _, _, _, rfl, lF, news_sub lN ?nsub, ⟨?nfar⟩, ?nfg, ov2, kvs2, qv, j2, k2 + 1 + 1, a5, ents, rfl, hes2, ?nkl, ?nk0, ?nk1, ?nfs, fars_same hE rfl, ?nql, ?nlg⟩
      case nsub => refine List.forall_mem_cons.mpr ⟨by k_mem, ?_⟩; (try simp only [List.cons_append, List.nil_append]); (repeat (refine List.forall_mem_cons.mpr ⟨by k_mem, ?_⟩)); exact fun p hp => by repeat (first | exact hp | refine List.mem_cons_of_mem _ ?_)
      case nfar => (try simp only [List.cons_append, List.nil_append]); (repeat (refine List.forall_mem_cons.mpr ⟨by k_ne, ?_⟩)); exact e3.all
      case nfg => intro z h1 h2; simp only [List.mem_cons, List.not_mem_nil, or_false, not_or] at h2; simp [h1, h2.1, h2.2]
      case nkl => exact Nat.le_trans hkz2 (Nat.le_succ _)
      case nk0 => omega
      case nk1 => omega
      case nfs => repeat (first | exact fars_nil | refine fars_cons (by ((try simp only [List.cons_append, List.nil_append]); k_all)) ?_)
      case nql => rw [hql, hNi, hNi2]
      case nlg => rw [hNi2]; rw [hNi] at hlog; exact hlog
  case done =>
    clear lF lN rg
    intro m₁ news₁ h tk hJ F1 N1
    obtain ⟨ov2, kvs2, qv, j2, k2, u2, ents, rfl, hes2, hkz2, k20, k21, hG, hE, hql, hlog⟩ := hJ
    have hNi : min (sub.length + 1) N = N := Nat.min_eq_right (by have : @LE.le Nat _ N (sub.length + 1) := by omega
                                                                  exact this)
    rw [hNi] at hlog
    simp only [List.cons_append, List.nil_append] at N1
    try k_fold
    k_steps
    rename Fr _ _ _ _ => lF
    rename News _ _ _ _ => lN
    refine leaveR lF lN fun kF kN kA => ?_
    refine hret _ _ _ _ ⟨ents, [(hd, _), (vd, _), (lg, _)], rfl, hE, rfl, rfl, ov2, qv, j2, k2, u2, rfl, hlog⟩ kF (news_sub2 kN ?dsub) (apart_sub kA ?dsub)
    case dsub => exact List.forall_mem_append.mpr ⟨fun p hp => by repeat (first | exact hp | refine List.mem_cons_of_mem _ ?_), by ((try simp only [List.cons_append, List.nil_append]); lcg_sub)⟩
end

section
set_option maxHeartbeats 1500000
theorem mc2 (w : World) (d0 d1 d2 d3 : Addr) (ho hd vd rl lg : Addr) (HT : HostT) (u3 : Tok) (rf rd : Addr) (RT : RefT) (sub : Str) (us : Tok) (t1 t2 t3 t4 t5 : Tok) (n k : Int) (N : Nat) (ov : Obj) (kvs : List (Str × Value)) (j : Nat) (n0 : 1 ≤ n) (n1 : n ≤ 6) (g4 : sub.length ≤ 12) (k0 : 0 ≤ k) (k1 : k < 9000) (hN : (N : Int) + n = (sub.length : Int) + 1) (hes : ov.IsDictOf (PySem.strKind PySem.Challenge.rw_xm0958_01.row.prog w) kvs) (hkz : kvs.length ≤ 20) :
    Con w 551 [.ref d0, .str sub us, .bool false, .ref ho] [(hd, hostD HT vd rl lg k u3), (vd, ov), (lg, W.listOf #[] j)] [(d0, (nCat t1 d1 d2)), (d1, (nNow t2 d3 rf)), (d2, (oFail t3)), (d3, (nLen t4 n t5)), (ho, instObj 589 hd), (rl, W.listOf #[] 0), (rf, instObj 208 rd), (rd, refD RT)] 100 900
      (fun (v : Value) (made chg' : List (Addr × Obj)) => v = .none ∧ ∃ (ov2 : Obj) (qv : List Value) (j2 : Nat) (k2 : Int) (u2 : Tok), chg' = [(hd, hostD HT vd rl lg k2 u2), (vd, ov2), (lg, W.listOf qv.toArray j2)] ∧ LogAre qv (List.map (fun i : Nat => PySem.Txt.slice sub (some (i : Int)) (some ((i : Int) + n))) (List.range N)) made) := by
  k_with_none
  (k_with "WhlIf" => ((first | (refine WhlIf.yes (by with_unfolding_all rfl) ?_) | (refine WhlIf.no (by with_unfolding_all rfl) ?_) | (refine WhlIf.yes (by decide) ?_) | (refine WhlIf.no (by decide) ?_)); (try k_fold)))
  (k_with "setAttr ref" => (k_here; k_dflt (refine set_dict_any (by k_asm) (by k_asm) (by k_asm) (by k_inst) (by exact rfl) (by k_is) (by k_is) (by k_is) (by k_is) (by k_get) (by (intro kH kt; k_put)) (by (intro kH kt; k_upd)) (by (intro kH kt; exact Nat.le_of_ble_eq_true rfl)) ?_; k_whole); intro kwh kwH kwt kwF kwN; (try k_sweep)))
  (k_with "k_allIn" => (first | exact List.forall_mem_nil _ | (refine List.forall_mem_cons.mpr ⟨by (first | exact nth_mem 0 rfl | exact nth_mem 1 rfl | exact nth_mem 2 rfl | exact nth_mem 3 rfl | exact nth_mem 4 rfl | exact nth_mem 5 rfl | exact nth_mem 6 rfl | exact nth_mem 7 rfl | exact nth_mem 8 rfl | exact nth_mem 9 rfl | exact nth_mem 10 rfl | exact nth_mem 11 rfl | exact nth_mem 12 rfl | exact nth_mem 13 rfl | exact nth_mem 14 rfl | exact nth_mem 15 rfl | exact nth_mem 16 rfl | exact nth_mem 17 rfl | exact nth_mem 18 rfl | exact nth_mem 19 rfl | exact nth_mem 20 rfl | exact nth_mem 21 rfl | exact nth_mem 22 rfl | exact nth_mem 23 rfl | exact nth_mem 24 rfl | exact nth_mem 25 rfl | k_memK), ?_⟩; k_allIn)))
  (k_with "lcg_sub" => (first | exact List.forall_mem_nil _ | (refine List.forall_mem_cons.mpr ⟨by (first | exact nth_mem 0 rfl | exact nth_mem 1 rfl | exact nth_mem 2 rfl | exact nth_mem 3 rfl | exact nth_mem 4 rfl | exact nth_mem 5 rfl | exact nth_mem 6 rfl | exact nth_mem 7 rfl | exact nth_mem 8 rfl | exact nth_mem 9 rfl | exact nth_mem 10 rfl | exact nth_mem 11 rfl | exact nth_mem 12 rfl | exact nth_mem 13 rfl | exact nth_mem 14 rfl | exact nth_mem 15 rfl | exact nth_mem 16 rfl | exact nth_mem 17 rfl | exact nth_mem 18 rfl | exact nth_mem 19 rfl | exact nth_mem 20 rfl | exact nth_mem 21 rfl | exact nth_mem 22 rfl | exact nth_mem 23 rfl | exact nth_mem 24 rfl | exact nth_mem 25 rfl | k_mem), ?_⟩; lcg_sub)))
  (k_with "k_ne" => (refine neN ?_; (try dsimp only); first
    | exact allLt_ne (by with_reducible assumption) (by k_mem)
    | exact allLt_ne' (by with_reducible assumption) (by k_mem)
    | exact far_ne (by with_reducible assumption) (by k_mem)
    | exact far_ne' (by with_reducible assumption) (by k_mem)
    | exact allLt_ne2 (by with_reducible assumption) (by with_reducible assumption) (by k_mem)
    | exact allLt_ne2' (by with_reducible assumption) (by with_reducible assumption) (by k_mem)
    | exact Nat.ne_of_lt (by assumption)
    | exact Nat.ne_of_gt (by assumption)
    | assumption
    | (refine Ne.symm ?_; assumption)
    | exact off1_ne (by assumption) (by k_mem)
    | (refine Ne.symm ?_; exact off1_ne (by assumption) (by k_mem))
    | exact apart_ne (by assumption) (by k_mem) (by k_mem)
    | exact apart_ne' (by assumption) (by k_mem) (by k_mem)
    | omega))
  (k_with "lcg_off" => first | exact True.intro | assumption | (refine And.intro ⟨by k_ne, by k_ne, by k_ne⟩ ?_; lcg_off))
  (k_with "k_room" => ((try simp only [depth_under_make, depth_under_kw, depth_in1, depth_deeper, depth_caller]); (try dsimp only [ktrTop]); first | exact Nat.le_of_ble_eq_true rfl | exact room1 (by assumption) rfl | exact room2 (by assumption) rfl | exact room3 (by assumption) rfl | exact room4 (by assumption) rfl | omega))
  (k_with "k_units" => ((try simp only [units_in1, units_deeper, Around.mark_units, units_caller]); (try dsimp only [ktrTop]); first | exact Nat.le_of_ble_eq_true rfl | exact room1 (by assumption) rfl | exact room2 (by assumption) rfl | exact room3 (by assumption) rfl | exact room4 (by assumption) rfl | omega))
  (k_with "eval ListComp" => (k_here; k_dflt (refine LCg.ListComp_U (F₀ := by k_asm) (by with_unfolding_all rfl) (by decide) (by rfl) (by decide) (by rfl) ?_)))
  (k_with "CompRest" => (with_unfolding_all first
    | (refine LCg.CompRest.succ ?_; intro kwv kwI kwoI kwC kwoC kwD kwm kwh kwtk kwE kwhv kwhC kwhx kwF kwN kwoff kwne; (first | lcg_open kwhv | (obtain ⟨kwt9, kwhv9⟩ := kwhv; subst kwhv9)))
    | refine LCg.CompRest.zero ?_))
  (k_with "FinE" => ((unfold LCg.FinE); intro kwD kwh kwtk kwF kwN kwo1; (try simp only [List.nil_append, List.cons_append] at kwN); (try dsimp only)))
  (k_with "compareOp In str ref" => (k_here; (with_reducible show wpAny _ _ (compareOp CmpOp.In (Value.str _ _) (Value.ref _)) _ _ _); k_dflt (first
    | (refine in_topTup (b := true) (by k_asm) (by k_asm) (by k_is) (by (repeat constructor)) (by decide) ?_; k_whole)
    | (refine in_topTup (b := false) (by k_asm) (by k_asm) (by k_is) (by (repeat constructor)) (by decide) ?_; k_whole))))
  (k_with "k_enter" => ((fail_if_success k_inElt); (refine code_def (by k_asm) (by k_asm) (by k_asm) (by k_asm) (by k_asm) rfl rfl rfl (by k_is) (by k_is) (by k_room) (by (first | exact binds1 rfl | exact binds2 rfl | exact binds3 rfl | exact binds4 rfl | exact binds7 rfl)) (by exact locs rfl) ?_ rfl rfl rfl (by decide); k_whole; intro kwg kwL kwh kwFG kwF kwN kwB kwX kwT; (try dsimp only [List.reverse_cons, List.reverse_nil, List.nil_append, List.cons_append]); (try k_lift kwB); (try k_fold))))
  (k_with "compareOp Eq str str" => (k_here; refine eq_str_no (by assumption) ?_))
  (k_with "subscriptTail Name Constant ref int" => (k_here; (with_reducible show wpAny _ _ (subscriptTail _ _ (Value.ref _) (Value.int 0 _)) _ _ _); k_dflt (refine head_tup (by k_asm) (by k_mem) ?_ (by with_unfolding_all rfl); k_whole)))
  (k_with "call builtin:len" => (k_here; (with_reducible show wpAny _ _ (call (Value.builtin "len") [Value.ref _]) _ _ _); k_dflt (refine len_any (by k_asm) (by k_mem) (by (first | assumption | omega | (simp only [Array.size_push]; omega))) ?_); k_whole))
  (k_with "compareOp In str ref" => (k_here; (with_reducible show wpAny _ _ (compareOp CmpOp.In (Value.str _ _) (Value.ref _)) _ _ _); k_dflt (refine in_nil (by k_asm) (by k_mem) ?_)))
  (k_with "call ref" => (k_here; (with_reducible show wpAny _ _ (call (Value.ref 112) [Value.ref _]) _ _ _); k_dflt (refine Con.use2 (by k_asm) (by k_asm) (by k_allIn) (by ((repeat (first | exact Take.nil | (apply Take.cons; focus ((repeat (first | exact Rem.head | apply Rem.tail)); done)))); done)) (by ((repeat (first | exact fars_nil | refine fars_cons (by ((try simp only [List.cons_append, List.nil_append]); k_all)) ?_)); done)) (by ((repeat (first | exact fars_nil | refine fars_cons (by ((try simp only [List.cons_append, List.nil_append]); k_all)) ?_)); done)) (by k_asm) (by k_asm) (by k_asm) rfl (by k_room) (by k_units) (compile2 _ _ _ _ _ _ _ _ _ _ _ _  ) ?_); rintro v9 made9 chg9 h9 tk9 ⟨l9, o19, o29, o39, o49, o59, k9, c19, c29, c39, c49, c59, c69, c79, e9, f9, g9⟩ F9 N9 A9; subst e9; subst f9; subst g9; (try simp only [List.cons_append, List.nil_append] at N9); (try dsimp only [Fars, List.cons_append, List.nil_append] at A9); obtain ⟨A09, A19, A29, A39, A49, A59, -⟩ := A9; (try dsimp only); (try k_sweep)))
  (k_with "call ref" => (k_here; (with_reducible show wpAny _ _ (call (Value.ref 544) [_, _, _, _]) _ _ _); refine hold_of ?_))
  (k_with "k_mem" => first | exact List.Mem.head _ | (refine List.Mem.tail _ ?_; k_mem) | (refine mem_id ?_; with_reducible assumption) | (refine List.mem_append_left _ ?_; with_reducible assumption) | fail)
  (k_with "k_memK" => first | exact List.Mem.head _ | (refine List.Mem.tail _ ?_; k_memK) | (refine mem_id ?_; with_reducible assumption) | (refine List.mem_append_left _ ?_; with_reducible assumption) | fail)
  (k_with "k_all" => first | exact List.forall_mem_nil _ | exact Far.all (by with_reducible assumption) | exact far_part (by with_reducible assumption) (by intro p hp; (repeat (first | exact hp | refine List.mem_cons_of_mem _ ?_)); (first | done | fail)) | exact young_sub (by with_reducible assumption) (by intro p hp; (repeat (first | exact hp | refine List.mem_cons_of_mem _ ?_)); (first | done | fail)) | exact young_sub2 (by with_reducible assumption) (by with_reducible assumption) (by intro p hp; (repeat (first | exact hp | refine List.mem_cons_of_mem _ ?_)); (first | done | fail)) | (refine List.forall_mem_cons.mpr ⟨by k_ne, ?_⟩; k_all))
  (k_with "k_allIn" => (first | exact List.forall_mem_nil _ | (refine List.forall_mem_cons.mpr ⟨by k_memK, ?_⟩; k_allIn)))
  (k_with "lcg_sub" => (first | exact List.forall_mem_nil _ | (refine List.forall_mem_cons.mpr ⟨by k_mem, ?_⟩; lcg_sub) | (intro p hp; (repeat (first | exact hp | refine List.mem_cons_of_mem _ ?_)); (first | done | fail))))
  intro hF
  unfold Spec
  k_fill
  intro dp un gd cn cs a ccd cl outer A₀ base h₀ L m s Q E mean mg mb rest B F X N dis T hk hdp hun hret
  dsimp only [Fars, List.cons_append, List.nil_append] at hF
  obtain ⟨hF0, hF1, hF2, -⟩ := hF
  try simp only [List.cons_append, List.nil_append] at N dis hret
  refine' enterR B F X N dis T hk ?room ?ho ?hcd ?bind ?loc ?_ ?hcell ?hco ?hgen ?hkk
  case room => first | exact room0 (by assumption) | omega
  case ho => k_dflt k_is
  case hcd => k_dflt k_is
  case bind => exact binds4 rfl
  case loc => exact locs rfl
  case hcell => decide
  case hco => exact rfl
  case hgen => exact rfl
  case hkk => exact rfl
  intro g L' h₁ F' N' B' X' T'
  clear B F X N T dis
  k_fold
  obtain ⟨nx, hnx⟩ : ∃ nx : Led, nx = [(d0, (nCat t1 d1 d2)), (d1, (nNow t2 d3 rf)), (d2, (oFail t3)), (d3, (nLen t4 n t5)), (ho, instObj 589 hd), (rl, W.listOf #[] 0), (rf, instObj 208 rd), (rd, refD RT)] := ⟨_, rfl⟩
  rw [← hnx] at hF0 hF1 hF2 N'
  have hall : ∀ p ∈ [(d0, (nCat t1 d1 d2)), (d1, (nNow t2 d3 rf)), (d2, (oFail t3)), (d3, (nLen t4 n t5)), (ho, instObj 589 hd), (rl, W.listOf #[] 0), (rf, instObj 208 rd), (rd, refD RT)], p ∈ nx := fun p hp => hnx ▸ hp
  (repeat (have m9 := (List.forall_mem_cons.mp hall).1; replace hall := (List.forall_mem_cons.mp hall).2))
  clear hall
  k_steps
  unfold Hold
  rename Fr _ _ _ _ => lF
  rename News _ _ _ _ => lN
  refine' Con.use (mo2 _ _ _ _ _ _ _ ho hd vd rl lg HT _ rf rd RT sub _ _ _ _ _ _ _ _ n k N ov kvs _ _ ?s_n0 ?s_n1 ?s_g4 ?s_k0 ?s_k1 ?s_hN ?s_hes ?s_hkz) ?B lF ?X lN ?T ?kk ?hK ?hT ?hF ?hF2 ?room ?un ?_
  case B => k_asm
  case X => k_asm
  case T => k_asm
  case kk => exact rfl
  case hK => k_allIn
  case hT => (refine' Take.cons ?r1 ?t1; (case r1 => ((repeat (first | exact Rem.head | apply Rem.tail)); done)); (case t1 => (refine' Take.cons ?r1 ?t1; (case r1 => ((repeat (first | exact Rem.head | apply Rem.tail)); done)); (case t1 => (refine' Take.cons ?r1 ?t1; (case r1 => ((repeat (first | exact Rem.head | apply Rem.tail)); done)); (case t1 => exact Take.nil))))))
  case hF2 => repeat (first | exact fars_nil | refine fars_cons (by ((try simp only [List.cons_append, List.nil_append]); k_all)) ?_)
  case hF => repeat (first | exact fars_nil | refine fars_cons (by ((try simp only [List.cons_append, List.nil_append]); k_all)) ?_)
  case room => k_room
  case un => k_units
  case s_n0 => first | assumption | omega
  case s_n1 => first | assumption | omega
  case s_g4 => first | assumption | omega
  case s_k0 => first | assumption | omega
  case s_k1 => first | assumption | omega
  case s_hN => first | assumption | omega
  case s_hes => first | assumption | omega
  case s_hkz => first | assumption | omega
  rintro v9 made9 chg9 h9 tk9 ⟨rfl, ov9, qv9, j9, k9, u9, rfl, g9⟩ F9 N9 A9
  replace N9 := news_swap N9
  simp only [List.cons_append, List.nil_append] at N9 A9
  clear lF lN
  try k_fold
  k_steps
  refine leaveR F9 N9 fun kF kN kA => ?_
  refine hret _ _ _ _ ⟨made9, [(hd, _), (vd, _), (lg, _)], rfl, fars_sub A9 ?fs, (by rfl), rfl, ov9, qv9, j9, k9, u9, rfl, g9⟩ kF (news_sub2 kN ?dsub) (apart_sub kA ?dsub)
  case fs => (try simp only [List.cons_append, List.nil_append]); lcg_sub
  case dsub => exact List.forall_mem_append.mpr ⟨fun p hp => by repeat (first | exact hp | exact List.mem_append_right _ hp | refine List.mem_cons_of_mem _ ?_), by ((try simp only [List.cons_append, List.nil_append]); lcg_sub)⟩
end

section
set_option maxHeartbeats 1500000
theorem arbC (w : World) (sub : Str) (us ua : Tok) (at9 : Int) (g0 : 0 ≤ at9) (g1 : at9 < (sub.length : Int)) (g4 : sub.length ≤ 12) :
    Con w 390 [.str sub us, .int at9 ua] [] [] 10 80
      (fun (v : Value) (made chg' : List (Addr × Obj)) => ∃ (D : Addr) (ys : List Value) (c : Nat), v = .ref D ∧ made = [(D, W.listOf ys.toArray c)] ∧ chg' = [] ∧ IntsAre ys (rangeKs at9 (((sub.length : Int) + 1) - at9).toNat)) := by
  k_with_none
  (k_with "WhlIf" => ((first | (refine WhlIf.yes (by with_unfolding_all rfl) ?_) | (refine WhlIf.no (by with_unfolding_all rfl) ?_) | (refine WhlIf.yes (by decide) ?_) | (refine WhlIf.no (by decide) ?_)); (try k_fold)))
  (k_with "setAttr ref" => (k_here; k_dflt (refine set_dict_any (by k_asm) (by k_asm) (by k_asm) (by k_inst) (by exact rfl) (by k_is) (by k_is) (by k_is) (by k_is) (by k_get) (by (intro kH kt; k_put)) (by (intro kH kt; k_upd)) (by (intro kH kt; exact Nat.le_of_ble_eq_true rfl)) ?_; k_whole); intro kwh kwH kwt kwF kwN; (try k_sweep)))
  (k_with "k_allIn" => (first | exact List.forall_mem_nil _ | (refine List.forall_mem_cons.mpr ⟨by (first | exact nth_mem 0 rfl | exact nth_mem 1 rfl | exact nth_mem 2 rfl | exact nth_mem 3 rfl | exact nth_mem 4 rfl | exact nth_mem 5 rfl | exact nth_mem 6 rfl | exact nth_mem 7 rfl | exact nth_mem 8 rfl | exact nth_mem 9 rfl | exact nth_mem 10 rfl | exact nth_mem 11 rfl | exact nth_mem 12 rfl | exact nth_mem 13 rfl | exact nth_mem 14 rfl | exact nth_mem 15 rfl | exact nth_mem 16 rfl | exact nth_mem 17 rfl | exact nth_mem 18 rfl | exact nth_mem 19 rfl | exact nth_mem 20 rfl | exact nth_mem 21 rfl | exact nth_mem 22 rfl | exact nth_mem 23 rfl | exact nth_mem 24 rfl | exact nth_mem 25 rfl | k_memK), ?_⟩; k_allIn)))
  (k_with "lcg_sub" => (first | exact List.forall_mem_nil _ | (refine List.forall_mem_cons.mpr ⟨by (first | exact nth_mem 0 rfl | exact nth_mem 1 rfl | exact nth_mem 2 rfl | exact nth_mem 3 rfl | exact nth_mem 4 rfl | exact nth_mem 5 rfl | exact nth_mem 6 rfl | exact nth_mem 7 rfl | exact nth_mem 8 rfl | exact nth_mem 9 rfl | exact nth_mem 10 rfl | exact nth_mem 11 rfl | exact nth_mem 12 rfl | exact nth_mem 13 rfl | exact nth_mem 14 rfl | exact nth_mem 15 rfl | exact nth_mem 16 rfl | exact nth_mem 17 rfl | exact nth_mem 18 rfl | exact nth_mem 19 rfl | exact nth_mem 20 rfl | exact nth_mem 21 rfl | exact nth_mem 22 rfl | exact nth_mem 23 rfl | exact nth_mem 24 rfl | exact nth_mem 25 rfl | k_mem), ?_⟩; lcg_sub)))
  (k_with "k_ne" => (refine neN ?_; (try dsimp only); first
    | exact allLt_ne (by with_reducible assumption) (by k_mem)
    | exact allLt_ne' (by with_reducible assumption) (by k_mem)
    | exact far_ne (by with_reducible assumption) (by k_mem)
    | exact far_ne' (by with_reducible assumption) (by k_mem)
    | exact allLt_ne2 (by with_reducible assumption) (by with_reducible assumption) (by k_mem)
    | exact allLt_ne2' (by with_reducible assumption) (by with_reducible assumption) (by k_mem)
    | exact Nat.ne_of_lt (by assumption)
    | exact Nat.ne_of_gt (by assumption)
    | assumption
    | (refine Ne.symm ?_; assumption)
    | exact off1_ne (by assumption) (by k_mem)
    | (refine Ne.symm ?_; exact off1_ne (by assumption) (by k_mem))
    | exact apart_ne (by assumption) (by k_mem) (by k_mem)
    | exact apart_ne' (by assumption) (by k_mem) (by k_mem)
    | omega))
  (k_with "lcg_off" => first | exact True.intro | assumption | (refine And.intro ⟨by k_ne, by k_ne, by k_ne⟩ ?_; lcg_off))
  (k_with "k_room" => ((try simp only [depth_under_make, depth_under_kw, depth_in1, depth_deeper, depth_caller]); (try dsimp only [ktrTop]); first | exact Nat.le_of_ble_eq_true rfl | exact room1 (by assumption) rfl | exact room2 (by assumption) rfl | exact room3 (by assumption) rfl | exact room4 (by assumption) rfl | omega))
  (k_with "k_units" => ((try simp only [units_in1, units_deeper, Around.mark_units, units_caller]); (try dsimp only [ktrTop]); first | exact Nat.le_of_ble_eq_true rfl | exact room1 (by assumption) rfl | exact room2 (by assumption) rfl | exact room3 (by assumption) rfl | exact room4 (by assumption) rfl | omega))
  (k_with "eval ListComp" => (k_here; k_dflt (refine LCg.ListComp_U (F₀ := by k_asm) (by with_unfolding_all rfl) (by decide) (by rfl) (by decide) (by rfl) ?_)))
  (k_with "CompRest" => (with_unfolding_all first
    | (refine LCg.CompRest.succ ?_; intro kwv kwI kwoI kwC kwoC kwD kwm kwh kwtk kwE kwhv kwhC kwhx kwF kwN kwoff kwne; (first | lcg_open kwhv | (obtain ⟨kwt9, kwhv9⟩ := kwhv; subst kwhv9)))
    | refine LCg.CompRest.zero ?_))
  (k_with "FinE" => ((unfold LCg.FinE); intro kwD kwh kwtk kwF kwN kwo1; (try simp only [List.nil_append, List.cons_append] at kwN); (try dsimp only)))
  (k_with "compareOp In str ref" => (k_here; (with_reducible show wpAny _ _ (compareOp CmpOp.In (Value.str _ _) (Value.ref _)) _ _ _); k_dflt (first
    | (refine in_topTup (b := true) (by k_asm) (by k_asm) (by k_is) (by (repeat constructor)) (by decide) ?_; k_whole)
    | (refine in_topTup (b := false) (by k_asm) (by k_asm) (by k_is) (by (repeat constructor)) (by decide) ?_; k_whole))))
  (k_with "k_enter" => ((fail_if_success k_inElt); (refine code_def (by k_asm) (by k_asm) (by k_asm) (by k_asm) (by k_asm) rfl rfl rfl (by k_is) (by k_is) (by k_room) (by (first | exact binds1 rfl | exact binds2 rfl | exact binds3 rfl | exact binds4 rfl | exact binds7 rfl)) (by exact locs rfl) ?_ rfl rfl rfl (by decide); k_whole; intro kwg kwL kwh kwFG kwF kwN kwB kwX kwT; (try dsimp only [List.reverse_cons, List.reverse_nil, List.nil_append, List.cons_append]); (try k_lift kwB); (try k_fold))))
  (k_with "compareOp Eq str str" => (k_here; refine eq_str_no (by assumption) ?_))
  (k_with "subscriptTail Name Constant ref int" => (k_here; (with_reducible show wpAny _ _ (subscriptTail _ _ (Value.ref _) (Value.int 0 _)) _ _ _); k_dflt (refine head_tup (by k_asm) (by k_mem) ?_ (by with_unfolding_all rfl); k_whole)))
  (k_with "call builtin:len" => (k_here; (with_reducible show wpAny _ _ (call (Value.builtin "len") [Value.ref _]) _ _ _); k_dflt (refine len_any (by k_asm) (by k_mem) (by (first | assumption | omega | (simp only [Array.size_push]; omega))) ?_); k_whole))
  (k_with "compareOp In str ref" => (k_here; (with_reducible show wpAny _ _ (compareOp CmpOp.In (Value.str _ _) (Value.ref _)) _ _ _); k_dflt (refine in_nil (by k_asm) (by k_mem) ?_)))
  (k_with "call type:list" => (k_here; (with_reducible show wpAny _ _ (call (Value.type _) [Value.ref _]) _ _ _); (rename IsRange _ _ _ _ _ _ _ _ => rgX); k_dflt (refine kll_range (by with_unfolding_all rfl) (by k_asm) (by k_asm) (by exact rgX) (by exact small_one (by omega) (by omega) (by omega) (by omega)) (by exact rangeSize_nat _ _) (by omega) ?_); intro kwD kwvs kwc kwh kwtk kwF kwN l1 kwhI; (try k_lt l1)))
  intro hF
  unfold Spec
  k_fill
  intro dp un gd cn cs a ccd cl outer A₀ base h₀ L m s Q E mean mg mb rest B F X N dis T hk hdp hun hret
  clear hF
  try simp only [List.cons_append, List.nil_append] at N dis hret
  refine' enterR (need := []) B F X N dis T hk ?room ?ho ?hcd ?bind ?loc ?_ ?hcell ?hco ?hgen ?hkk
  case room => first | exact room0 (by assumption) | omega
  case ho => k_dflt k_is
  case hcd => k_dflt k_is
  case bind => exact binds2 rfl
  case loc => exact locs rfl
  case hcell => decide
  case hco => exact rfl
  case hgen => exact rfl
  case hkk => exact rfl
  intro g L' h₁ F' N' B' X' T'
  clear B F X N T dis
  k_fold
  k_steps
  try dsimp only
  refine leaveR (by assumption) (by assumption) fun kF kN kA => ?_
  refine' hret _ _ _ _ ⟨_, _, rfl, ?fars, ?mp, ?e_D, ?e_ys, ?e_c, rfl, rfl, rfl, ?x0⟩ kF (news_sub2 kN ?sub) (apart_sub kA ?sub)
  case sub => (try simp only [List.cons_append, List.nil_append]); lcg_sub
  case mp => exact rfl
  case fars => repeat (first | exact fars_nil | refine fars_cons (by ((try simp only [List.cons_append, List.nil_append]); k_all)) ?_)
  case x0 => first | assumption | omega | decide
end

section
set_option maxHeartbeats 400000
theorem pick_rev0 (y : Value) (r : List Value) : slicePick (y :: r).toArray none (some 0) (some (-1)) = r.reverse.toArray := by
  have hb : sliceBounds none (some 0) (some (-1)) (y :: r).toArray.size = ((r.length : Int), 0, -1) := by
    simp [sliceBounds]
    omega
  unfold slicePick
  rw [hb]
  have hs : sliceRange (r.length : Int) 0 (-1) = ((List.range r.length).map (· + 1)).reverse := by
    unfold sliceRange
    have h1 : ¬ ((-1 : Int) > 0) := by decide
    by_cases h : (r.length : Int) > 0
    · have e : ((r.length : Int) - 0 - -1 - 1) / (- -1) = (r.length : Int) := by
        rw [show (- -1 : Int) = 1 by decide, Int.ediv_one]; omega
      simp only [h1, if_false, h, if_true, e, Int.toNat_natCast]
      apply List.ext_getElem
      · simp
      · intro i h2 h3
        simp only [List.getElem_map, List.getElem_range, List.getElem_reverse, List.length_map, List.length_range]
        simp at h2
        omega
    · have e : r.length = 0 := by omega
      rw [e]; simp
  show ((sliceRange (r.length : Int) 0 (-1)).filterMap ((y :: r).toArray[·]?)).toArray = _
  rw [hs, List.filterMap_reverse, List.filterMap_map]
  have : (List.range r.length).filterMap ((fun x => (y :: r).toArray[x]?) ∘ fun x => x + 1) = r := by
    have h := krv_all r.toArray
    simp only [List.size_toArray] at h
    calc _ = (List.range r.length).filterMap (r.toArray[·]?) := by
          congr 1
          funext k
          simp
      _ = r := h
  rw [this]
section
variable {prog : Program} {w : World} {A : Around} {E : Value → Shared → Prop} {s : Shared} {h₀ : Heap} {L l : Addr} {m : Str → Option Value} {news : List (Addr × Obj)} {value slice : PySem.Expr} {y : Value} {r : List Value} {vu vk : Value} {ops : List Value} {Q : Value → Shared → Prop}
theorem rev0_list (F : Fr h₀ L s.heap m) (N : News h₀ L s.heap news) (hl : s.heap.IsList l (y :: r).toArray) (pu : IsPart vu (some 0)) (pk : IsPart vk (some (-1)))
    (h : ∀ D h', Fr h₀ L h' m → News h₀ L h' ((D, W.listOf r.reverse.toArray 0) :: news) → (∀ p ∈ news, p.1 < D) → Q (.ref D) { s with heap := h' })
    (hs : subscripted slice false (.ref l) (.ref s.heap.objs.size) = operate ops (getItem (.ref l) (.ref s.heap.objs.size))) (ht : ∀ r, letTemporaryGo value (.ref l) r = pure ()) (hz : (y :: r).toArray.size ≤ sizeLine) :
    wpAny (model prog w) A (subscriptTail value slice (.ref l) (.ref s.heap.objs.size)) Q E { s with heap := s.heap.push { cls := .type "slice", data := .fields #[.none, vu, vk] } } := by
  refine slice_list3 F N hl .none pu pk (by decide) (fun h' F' N' => h _ h' F' ?_ fun p hp => Nat.lt_succ_of_lt (Heap.lt_size (N p hp).1)) hs ht hz
  rw [pick_rev0] at N'
  exact N'
end
/-- the ways that wait: each at its place -/
inductive WaysAre (ol : Addr) (pc : Int) (mks : Value) : List Value → List Int → Led → Prop
  | nil : WaysAre ol pc mks [] [] []
  | snoc {vs : List Value} {ats : List Int} {l : Led} {x d : Addr} {T : WayT} {u u2 : Tok} {a : Int} : WaysAre ol pc mks vs ats l → WaysAre ol pc mks (vs ++ [.ref x]) (ats ++ [a]) ((x, instObj 449 d) :: (d, wayD T ol pc u a u2 mks) :: l)

theorem head_list {prog : Program} {w : World} {A : Around} {E : Value → Shared → Prop} {s : Shared} {Q : Value → Shared → Prop} {value slice : PySem.Expr} {a : Addr} {v : Value} {vs : List Value} {n : Nat} {u : Tok} {h₀ : Heap} {L : Addr} {news : List (Addr × Obj)} (N : News h₀ L s.heap news) (hm : (a, W.listOf (v :: vs).toArray n) ∈ news) (h : Q v s)
    (hs : subscripted slice false (.ref a) (.int 0 u) = operate [.ref a, .int 0 u] (getItem (.ref a) (.int 0 u)) := by with_unfolding_all rfl) (hg : ∀ r, letTemporaryGo value (.ref a) r = pure () := by intro _; with_unfolding_all rfl) :
    wpAny (model prog w) A (subscriptTail value slice (.ref a) (.int 0 u)) Q E s :=
  item_list (News.isList N hm) (by decide) (by decide) (by simp) h hs hg
theorem rev_at {a0 : Int} {N i : Nat} (h : i < N) : (rangeKs (a0 + 1) N).reverse[i]? = some (a0 + (N : Int) - (i : Int)) := by
  have hl : (rangeKs (a0 + 1) N).length = N := rangeKs_length ..
  rw [List.getElem?_reverse (by rw [hl]; exact h), hl]
  unfold rangeKs
  rw [List.getElem?_map, List.getElem?_range (by omega)]
  simp only [Option.map_some]
  congr 1
  omega
theorem ways_more {ol : Addr} {pc : Int} {mks : Value} {qv : List Value} {f : Nat → Int} {i : Nat} {ents : Led} {x d : Addr} {T : WayT} {u u2 : Tok} (h : WaysAre ol pc mks qv (List.map f (List.range i)) ents) :
    WaysAre ol pc mks (qv ++ [.ref x]) (List.map f (List.range (i + 1))) ((x, instObj 449 d) :: (d, wayD T ol pc u (f i) u2 mks) :: ents) := by
  rw [List.range_succ, List.map_append]
  exact .snoc h

theorem name_lt {p : Prop} {d x : Nat} (h : @LT.lt Nat _ d x) (k : ∀ d' x' : Nat, d' = d → x' = x → p) : p := have _ := h; k d x rfl rfl

theorem ways_inv {ol : Addr} {pc : Int} {mks : Value} {qv : List Value} {f : Nat → Int} {M : Nat} {ents : Led} (h : WaysAre ol pc mks qv (List.map f (List.range (M + 1))) ents) :
    ∃ (qv' : List Value) (x d : Addr) (T : WayT) (u u2 : Tok) (a : Int) (ents' : Led), a = f M ∧ qv = qv' ++ [.ref x] ∧ ents = (x, instObj 449 d) :: (d, wayD T ol pc u a u2 mks) :: ents' ∧ WaysAre ol pc mks qv' (List.map f (List.range M)) ents' := by
  rw [List.range_succ, List.map_append] at h
  generalize e : List.map f (List.range M) ++ List.map f [M] = L at h
  cases h with
  | nil => exact absurd e (by simp)
  | snoc h' =>
    obtain ⟨e1, e2⟩ := List.append_inj' e rfl
    simp only [List.map_cons, List.map_nil, List.cons.injEq, and_true] at e2
    rw [e1]
    exact ⟨_, _, _, _, _, _, _, _, e2.symm, rfl, rfl, h'⟩
theorem ways_len {ol : Addr} {pc : Int} {mks : Value} {qv : List Value} {ats : List Int} {ents : Led} (h : WaysAre ol pc mks qv ats ents) : qv.length = ats.length := by
  induction h with
  | nil => rfl
  | snoc _ ih => simp [ih]
theorem stored_one {kvs : List (Str × Value)} {x : Str} {v : Value} (h : kvs = [] ∨ ∃ o, kvs = [(x, o)]) : stored kvs x v = [(x, v)] := by
  rcases h with rfl | ⟨o, rfl⟩
  · simp [stored]
  · simp [stored]

theorem Head.sub {c : RunC} {k : Int} {u : Tok} {wy wd od : Addr} {T : WayT} {i : Nat} {y1 y2 gt : Tok} {at9 : Int} {mk : Value} {g : Str} {gr : List Value} {news news' r1 : Led} (H : Head c k u wy wd od T i y1 y2 gt at9 mk g gr news r1) (hs : ∀ p ∈ news, p ∈ news') : Head c k u wy wd od T i y1 y2 gt at9 mk g gr news' r1 :=
  ⟨fun p hp => hs p (H.hsub p hp), H.hf, H.k0, H.k1, H.hho, H.hmt, H.hmd, H.hwy, H.hwd, H.hol, H.hi, H.hod⟩
theorem chain_sub {w : World} {c : RunC} {Post : Value → Led → Prop} {n : Nat} {k : Int} {wy : Addr} {news news' : Led} (h : Chain w c Post n k wy news) (hs : ∀ p ∈ news, p ∈ news') : Chain w c Post n k wy news' := by
  cases h with
  | ret H hp => exact .ret (H.sub hs) hp
  | go H D hv hn => exact .go (H.sub hs) D hv hn
  | out H D hv hm hp => exact .out (H.sub hs) D hv hm hp
  | pop H D hl hv hm hn => exact .pop (H.sub hs) D hl hv hm hn
theorem mem_swap {l X m : Led} (h : ∀ p ∈ l, p ∈ X ++ m) : ∀ p ∈ l, p ∈ m ++ X := fun p hp => (List.mem_append.mp (h p hp)).elim (fun h => List.mem_append_right _ h) fun h => List.mem_append_left _ h
end

section
set_option maxHeartbeats 1500000
local macro_rules | `(tactic| walk_at "pyIter ref") => `(tactic| (refine hold_of ?_))
theorem metC (w : World) (mt ho D : Addr) (wy wd ol : Addr) (T : WayT) (y1 y2 : Tok) (md hs : Addr) (sub : Str) (MT : MatchT) (ty : Tok) (r : List Value) (c : Nat) (pc at9 a0 : Int) (mk : Addr) (jh N : Nat) (h0 : 0 ≤ pc) (h1 : pc < 100) (hI : IntsAre ((Value.int a0 ty) :: r) (rangeKs a0 (N + 1))) (hN : N ≤ 12) (g0 : 0 ≤ a0) (g1 : a0 ≤ 12) :
    Con w 516 [.ref mt, .ref wy, .ref D] [(wd, wayD T ol pc y1 at9 y2 (.ref mk)), (hs, W.listOf #[] jh)] [(D, W.listOf ((Value.int a0 ty) :: r).toArray c), (wy, instObj 449 wd), (mt, instObj 526 md), (md, matchD MT sub ho hs)] 20 120
      (fun (v : Value) (made chg' : List (Addr × Obj)) => v = .bool true ∧ ∃ (t1 t2 : Tok) (qv : List Value) (j2 : Nat), chg' = [(wd, wayD T ol (pc + 1) t1 a0 t2 (.ref mk)), (hs, W.listOf qv.toArray j2)] ∧ WaysAre ol (pc + 1) (.ref mk) qv (List.map (fun i : Nat => a0 + (N : Int) - (i : Int)) (List.range N)) made) := by
  k_with_none
  (k_with "WhlIf" => ((first | (refine WhlIf.yes (by with_unfolding_all rfl) ?_) | (refine WhlIf.no (by with_unfolding_all rfl) ?_) | (refine WhlIf.yes (by decide) ?_) | (refine WhlIf.no (by decide) ?_)); (try k_fold)))
  (k_with "setAttr ref" => (k_here; k_dflt (refine set_dict_any (by k_asm) (by k_asm) (by k_asm) (by k_inst) (by exact rfl) (by k_is) (by k_is) (by k_is) (by k_is) (by k_get) (by (intro kH kt; k_put)) (by (intro kH kt; k_upd)) (by (intro kH kt; exact Nat.le_of_ble_eq_true rfl)) ?_; k_whole); intro kwh kwH kwt kwF kwN; (try k_sweep)))
  (k_with "k_allIn" => (first | exact List.forall_mem_nil _ | (refine List.forall_mem_cons.mpr ⟨by (first | exact nth_mem 0 rfl | exact nth_mem 1 rfl | exact nth_mem 2 rfl | exact nth_mem 3 rfl | exact nth_mem 4 rfl | exact nth_mem 5 rfl | exact nth_mem 6 rfl | exact nth_mem 7 rfl | exact nth_mem 8 rfl | exact nth_mem 9 rfl | exact nth_mem 10 rfl | exact nth_mem 11 rfl | exact nth_mem 12 rfl | exact nth_mem 13 rfl | exact nth_mem 14 rfl | exact nth_mem 15 rfl | exact nth_mem 16 rfl | exact nth_mem 17 rfl | exact nth_mem 18 rfl | exact nth_mem 19 rfl | exact nth_mem 20 rfl | exact nth_mem 21 rfl | exact nth_mem 22 rfl | exact nth_mem 23 rfl | exact nth_mem 24 rfl | exact nth_mem 25 rfl | k_memK), ?_⟩; k_allIn)))
  (k_with "lcg_sub" => (first | exact List.forall_mem_nil _ | (refine List.forall_mem_cons.mpr ⟨by (first | exact nth_mem 0 rfl | exact nth_mem 1 rfl | exact nth_mem 2 rfl | exact nth_mem 3 rfl | exact nth_mem 4 rfl | exact nth_mem 5 rfl | exact nth_mem 6 rfl | exact nth_mem 7 rfl | exact nth_mem 8 rfl | exact nth_mem 9 rfl | exact nth_mem 10 rfl | exact nth_mem 11 rfl | exact nth_mem 12 rfl | exact nth_mem 13 rfl | exact nth_mem 14 rfl | exact nth_mem 15 rfl | exact nth_mem 16 rfl | exact nth_mem 17 rfl | exact nth_mem 18 rfl | exact nth_mem 19 rfl | exact nth_mem 20 rfl | exact nth_mem 21 rfl | exact nth_mem 22 rfl | exact nth_mem 23 rfl | exact nth_mem 24 rfl | exact nth_mem 25 rfl | k_mem), ?_⟩; lcg_sub)))
  (k_with "k_ne" => (refine neN ?_; (try dsimp only); first
    | exact allLt_ne (by with_reducible assumption) (by k_mem)
    | exact allLt_ne' (by with_reducible assumption) (by k_mem)
    | exact far_ne (by with_reducible assumption) (by k_mem)
    | exact far_ne' (by with_reducible assumption) (by k_mem)
    | exact allLt_ne2 (by with_reducible assumption) (by with_reducible assumption) (by k_mem)
    | exact allLt_ne2' (by with_reducible assumption) (by with_reducible assumption) (by k_mem)
    | exact Nat.ne_of_lt (by assumption)
    | exact Nat.ne_of_gt (by assumption)
    | assumption
    | (refine Ne.symm ?_; assumption)
    | exact off1_ne (by assumption) (by k_mem)
    | (refine Ne.symm ?_; exact off1_ne (by assumption) (by k_mem))
    | exact apart_ne (by assumption) (by k_mem) (by k_mem)
    | exact apart_ne' (by assumption) (by k_mem) (by k_mem)
    | omega))
  (k_with "lcg_off" => first | exact True.intro | assumption | (refine And.intro ⟨by k_ne, by k_ne, by k_ne⟩ ?_; lcg_off))
  (k_with "k_room" => ((try simp only [depth_under_make, depth_under_kw, depth_in1, depth_deeper, depth_caller]); (try dsimp only [ktrTop]); first | exact Nat.le_of_ble_eq_true rfl | exact room1 (by assumption) rfl | exact room2 (by assumption) rfl | exact room3 (by assumption) rfl | exact room4 (by assumption) rfl | omega))
  (k_with "k_units" => ((try simp only [units_in1, units_deeper, Around.mark_units, units_caller]); (try dsimp only [ktrTop]); first | exact Nat.le_of_ble_eq_true rfl | exact room1 (by assumption) rfl | exact room2 (by assumption) rfl | exact room3 (by assumption) rfl | exact room4 (by assumption) rfl | omega))
  (k_with "eval ListComp" => (k_here; k_dflt (refine LCg.ListComp_U (F₀ := by k_asm) (by with_unfolding_all rfl) (by decide) (by rfl) (by decide) (by rfl) ?_)))
  (k_with "CompRest" => (with_unfolding_all first
    | (refine LCg.CompRest.succ ?_; intro kwv kwI kwoI kwC kwoC kwD kwm kwh kwtk kwE kwhv kwhC kwhx kwF kwN kwoff kwne; (first | lcg_open kwhv | (obtain ⟨kwt9, kwhv9⟩ := kwhv; subst kwhv9)))
    | refine LCg.CompRest.zero ?_))
  (k_with "FinE" => ((unfold LCg.FinE); intro kwD kwh kwtk kwF kwN kwo1; (try simp only [List.nil_append, List.cons_append] at kwN); (try dsimp only)))
  (k_with "compareOp In str ref" => (k_here; (with_reducible show wpAny _ _ (compareOp CmpOp.In (Value.str _ _) (Value.ref _)) _ _ _); k_dflt (first
    | (refine in_topTup (b := true) (by k_asm) (by k_asm) (by k_is) (by (repeat constructor)) (by decide) ?_; k_whole)
    | (refine in_topTup (b := false) (by k_asm) (by k_asm) (by k_is) (by (repeat constructor)) (by decide) ?_; k_whole))))
  (k_with "k_enter" => ((fail_if_success k_inElt); (refine code_def (by k_asm) (by k_asm) (by k_asm) (by k_asm) (by k_asm) rfl rfl rfl (by k_is) (by k_is) (by k_room) (by (first | exact binds1 rfl | exact binds2 rfl | exact binds3 rfl | exact binds4 rfl | exact binds7 rfl)) (by exact locs rfl) ?_ rfl rfl rfl (by decide); k_whole; intro kwg kwL kwh kwFG kwF kwN kwB kwX kwT; (try dsimp only [List.reverse_cons, List.reverse_nil, List.nil_append, List.cons_append]); (try k_lift kwB); (try k_fold))))
  (k_with "compareOp Eq str str" => (k_here; refine eq_str_no (by assumption) ?_))
  (k_with "subscriptTail Name Constant ref int" => (k_here; (with_reducible show wpAny _ _ (subscriptTail _ _ (Value.ref _) (Value.int 0 _)) _ _ _); k_dflt (refine head_tup (by k_asm) (by k_mem) ?_ (by with_unfolding_all rfl); k_whole)))
  (k_with "call builtin:len" => (k_here; (with_reducible show wpAny _ _ (call (Value.builtin "len") [Value.ref _]) _ _ _); k_dflt (refine len_any (by k_asm) (by k_mem) (by (first | assumption | omega | (simp only [Array.size_push]; omega))) ?_); k_whole))
  (k_with "compareOp In str ref" => (k_here; (with_reducible show wpAny _ _ (compareOp CmpOp.In (Value.str _ _) (Value.ref _)) _ _ _); k_dflt (refine in_nil (by k_asm) (by k_mem) ?_)))
  (k_with "k_memK" => assumption)
  (k_with "k_all" => first | exact Far.all (by with_reducible assumption) | fail)
  (k_with "k_all" => first | exact young_sub (by with_reducible assumption) (by intro p hp; repeat (first | exact hp | refine List.mem_cons_of_mem _ ?_); done) | exact young_sub2 (by with_reducible assumption) (by with_reducible assumption) (by intro p hp; repeat (first | exact hp | refine List.mem_cons_of_mem _ ?_); done) | fail)
  (k_with "subscriptTail Name Constant ref int" => (k_here; (with_reducible show wpAny _ _ (subscriptTail _ _ (Value.ref _) (Value.int 0 _)) _ _ _); k_dflt (refine head_list (by k_asm) (by k_mem) ?_ (by with_unfolding_all rfl) (by ((intro _; with_unfolding_all rfl))))))
  (k_with "exec For" => (refine hold_of ?_))
  (k_with "subscriptTail Name Slice ref ref" => (k_here; k_dflt (refine rev0_list (by k_asm) (by k_asm) (by exact News.isList (by k_asm) (by k_mem)) (by exact IsPart.int _ _) (by exact IsPart.int _ _) ?_ (by with_unfolding_all rfl) (by ((intro _; with_unfolding_all rfl))) (by assumption)); intro D9 h9 kwF kwN l1; (try k_lt l1)))
  intro hF
  unfold Spec
  k_fill
  intro dp un gd cn cs a ccd cl outer A₀ base h₀ L m s Q E mean mg mb rest B F X N dis T hk hdp hun hret
  dsimp only [Fars, List.cons_append, List.nil_append] at hF
  obtain ⟨hF0, hF1, -⟩ := hF
  try simp only [List.cons_append, List.nil_append] at N dis hret
  refine' enterR B F X N dis T hk ?room ?ho ?hcd ?bind ?loc ?_ ?hcell ?hco ?hgen ?hkk
  case room => first | exact room0 (by assumption) | omega
  case ho => k_dflt k_is
  case hcd => k_dflt k_is
  case bind => exact binds3 rfl
  case loc => exact locs rfl
  case hcell => decide
  case hco => exact rfl
  case hgen => exact rfl
  case hkk => exact rfl
  intro g L' h₁ F' N' B' X' T'
  clear B F X N T dis
  k_fold
  have hlen : ((Value.int a0 ty) :: r).length = N + 1 := by rw [hI.length, rangeKs_length]
  have hsz1 : ((Value.int a0 ty) :: r).toArray.size ≤ 1000 := by rw [List.size_toArray, hlen]; have : @LE.le Nat _ N 12 := hN; omega
  have hsz2 : (0 : Int) < (((Value.int a0 ty) :: r).toArray.size : Int) := by rw [List.size_toArray, hlen]; omega
  have hsz3 : ((Value.int a0 ty) :: r).toArray.size ≤ sizeLine := by unfold sizeLine; exact Nat.le_trans hsz1 (by decide)
  have hr : IntsAre r (rangeKs (a0 + 1) N) := by
    rw [kll_cons] at hI
    cases hI with
    | cons _ _ h => exact h
  have hrr := hr.reverse
  try k_fold
  k_steps
  · exfalso; omega
  unfold Hold
  rename Fr _ _ _ _ => lF'
  with_unfolding_all refine' For_invVF lF' ?k1 ?k2 ?_
  case k1 => exact rfl
  case k2 => exact rfl
  try k_fold
  k_steps
  unfold Hold
  rename Fr _ _ _ _ => lF
  rename News _ _ _ _ => lN
  rename Young _ _ => lY
  have hNN : @LE.le Nat _ N 12 := hN
  have hrl : r.reverse.toArray.size = N := by simp only [List.size_toArray, List.length_reverse]; rw [hr.length, rangeKs_length]
  obtain ⟨t1, lN2⟩ : ∃ t1, News g L' h9 ((D9, W.listOf r.reverse.toArray 0) :: (wd, wayD T ol (pc + 1) t1 at9 y2 (.ref mk)) :: (hs, W.listOf #[] jh) :: (D, W.listOf ((Value.int a0 ty) :: r).toArray c) :: (wy, instObj 449 wd) :: (mt, instObj 526 md) :: (md, matchD MT sub ho hs) :: []) := ⟨_, lN⟩
  clear lN
  have lN3 : News g L' h9 ((hs, W.listOf ([] : List Value).toArray jh) :: (D9, W.listOf r.reverse.toArray 0) :: (wd, wayD T ol (pc + 1) t1 at9 y2 (.ref mk)) :: (D, W.listOf ((Value.int a0 ty) :: r).toArray c) :: (wy, instObj 449 wd) :: (mt, instObj 526 md) :: (md, matchD MT sub ho hs) :: []) := news_sub lN2 (by lcg_sub)
  refine iter_list [Str.ofString "other"] (fun i nx => ∃ (qv : List Value) (j2 : Nat) (ents : Led), nx = (hs, W.listOf qv.toArray j2) :: (D9, W.listOf r.reverse.toArray 0) :: (wd, wayD T ol (pc + 1) t1 at9 y2 (.ref mk)) :: (D, W.listOf ((Value.int a0 ty) :: r).toArray c) :: (wy, instObj 449 wd) :: (mt, instObj 526 md) :: (md, matchD MT sub ho hs) :: ents ∧
      Far hs ((D9, W.listOf r.reverse.toArray 0) :: (wd, wayD T ol (pc + 1) t1 at9 y2 (.ref mk)) :: (D, W.listOf ((Value.int a0 ty) :: r).toArray c) :: (wy, instObj 449 wd) :: (mt, instObj 526 md) :: (md, matchD MT sub ho hs) :: ents) ∧ Far wd ents ∧
      Fars ents ((hs, W.listOf qv.toArray j2) :: (D9, W.listOf r.reverse.toArray 0) :: (wd, wayD T ol (pc + 1) t1 at9 y2 (.ref mk)) :: (D, W.listOf ((Value.int a0 ty) :: r).toArray c) :: (wy, instObj 449 wd) :: (mt, instObj 526 md) :: (md, matchD MT sub ho hs) :: []) ∧ qv.length = i ∧ WaysAre ol (pc + 1) (.ref mk) qv (List.map (fun i : Nat => a0 + (N : Int) - (i : Int)) (List.range i)) ents) ?hh (List.mem_cons_of_mem _ List.mem_cons_self) lF lN3 (fun i nx h => by obtain ⟨qv, j2, ents, rfl, -⟩ := h; exact List.mem_cons_of_mem _ List.mem_cons_self) ?j0 ?turn ?done
  case hh => with_unfolding_all rfl
  case j0 => exact ⟨[], jh, [], rfl, ⟨by k_all⟩, ⟨fun p hp => nomatch hp⟩, trivial, rfl, .nil⟩
  case turn =>
    clear lF lN2 lN3 lY
    intro i v m₁ news₁ h tk I oI hi hJ hFI F1 N1
    obtain ⟨qv, j2, ents, rfl, hf1, hf2, hE, hql, hW⟩ := hJ
    have hiN : i < N := by
      rcases Nat.lt_or_ge i N with hh | hh
      · exact hh
      · rw [Array.getElem?_eq_none (by rw [hrl]; exact hh)] at hi; cases hi
    obtain ⟨t9, ht9⟩ := hrr.get i (a0 + (N : Int) - (i : Int)) (rev_at hiN)
    have hv9 : v = .int (a0 + (N : Int) - (i : Int)) t9 := by
      have hi2 : r.reverse[i]? = some v := by simpa using hi
      rw [ht9] at hi2; exact (Option.some.inj hi2).symm
    subst hv9
    have e1 : Far hs ents := far_sub hf1 fun p hp => by repeat (first | exact hp | refine List.mem_cons_of_mem _ ?_)
    have e3 : Far I ents := far_sub hFI fun p hp => by repeat (first | exact hp | refine List.mem_cons_of_mem _ ?_)
    replace hf1 := id hf1
    replace hFI := id hFI
    have hqz : qv.toArray.size ≤ 90 := by rw [List.size_toArray, hql]; omega
    try k_fold
    k_steps
    rename Fr _ _ _ _ => lF
    rename News _ _ _ _ => lN
    rename Young _ _ => lY
    rename @LT.lt Nat _ _ _ => lW
    refine name_lt lW fun d9 x9 ed ex => ?_
    subst ed
    subst ex
    (try dsimp only at lN)
    generalize PyData.keyHash w.params (Str.ofString "orders") = H0 at lN
    generalize PyData.keyHash w.params (Str.ofString "pc") = H1 at lN
    generalize PyData.keyHash w.params (Str.ofString "at") = H2 at lN
    generalize PyData.keyHash w.params (Str.ofString "named") = H3 at lN
    generalize PyData.keyHash w.params (Str.ofString "marks") = H4 at lN
    generalize PyData.keyHash w.params (Str.ofString "calls") = H5 at lN
    simp only [List.push_toArray] at lN
    refine' ⟨_, _, _, _, rfl, lF, news_sub lN ?sub, ⟨?far⟩, ?fg, qv ++ [.ref x9], j2 + 1, (x9, instObj 449 d9) :: (d9, wayD ⟨_, _, _, _, _, _, _, _, _, _, _, _⟩ ol (pc + 1) _ (a0 + (N : Int) - (i : Int)) _ (.ref mk)) :: ents, rfl, ⟨?f1⟩, ⟨?f2⟩, ⟨⟨?f3⟩, ⟨?f4⟩, fars_same hE rfl⟩, ?ql, ways_more (f := fun i : Nat => a0 + (N : Int) - (i : Int)) hW⟩
    case sub => refine List.forall_mem_cons.mpr ⟨by k_mem, ?_⟩; (repeat (refine List.forall_mem_cons.mpr ⟨by k_mem, ?_⟩)); exact fun p hp => by repeat (first | exact hp | refine List.mem_cons_of_mem _ ?_)
    case far => (repeat (refine List.forall_mem_cons.mpr ⟨by k_ne, ?_⟩)); exact e3.all
    case fg => intro z h1 h2; simp only [List.mem_cons, List.not_mem_nil, or_false, not_or] at h2; simp [h1, h2]
    case f1 => (repeat (refine List.forall_mem_cons.mpr ⟨by k_ne, ?_⟩)); exact e1.all
    case f2 => (repeat (refine List.forall_mem_cons.mpr ⟨by k_ne, ?_⟩)); exact hf2.all
    case f3 => (try simp only [List.cons_append, List.nil_append]); refine List.forall_mem_cons.mpr ⟨by k_ne, ?_⟩; exact List.forall_mem_append.mpr ⟨young_sub2 lW lY (fun p hp => by repeat (first | exact hp | refine List.mem_cons_of_mem _ ?_)), by ((repeat (refine List.forall_mem_cons.mpr ⟨by k_ne, ?_⟩)); exact List.forall_mem_nil _)⟩
    case f4 => exact List.forall_mem_append.mpr ⟨young_sub lY (fun p hp => by repeat (first | exact hp | refine List.mem_cons_of_mem _ ?_)), by ((repeat (refine List.forall_mem_cons.mpr ⟨by k_ne, ?_⟩)); exact List.forall_mem_nil _)⟩
    case ql => rw [List.length_append, hql]; rfl
  case done =>
    clear lF lN2 lN3
    intro m₁ news₁ h tk hJ F1 N1
    obtain ⟨qv, j2, ents, rfl, hf1, hf2, hE, hql, hW⟩ := hJ
    rw [hrl] at hW
    have e1 : Far hs ents := far_sub hf1 (fun p hp => by repeat (first | exact hp | refine List.mem_cons_of_mem _ ?_))
    replace hf1 := id hf1
    replace hF0 := id hF0
    try k_fold
    k_steps
    rename Fr _ _ _ _ => lF
    rename News _ _ _ _ => lN
    refine leaveR lF lN fun kF kN kA => ?_
    refine' hret _ _ _ _ ⟨ents, [(wd, _), (hs, _)], rfl, ?fe, (by rfl), rfl, _, _, qv, j2, rfl, hW⟩ kF (news_sub2 kN ?dsub) (apart_sub kA ?dsub)
    case fe => (try simp only [List.cons_append, List.nil_append]); refine' fars_same (l := [(wd, _), (hs, _), (D, _), (wy, _), (mt, _), (md, _)]) (fars_sub hE ?q1) ?q2; (case q1 => lcg_sub); (case q2 => exact rfl)
    case dsub => exact List.forall_mem_append.mpr ⟨fun p hp => by repeat (first | exact hp | refine List.mem_cons_of_mem _ ?_), by ((try simp only [List.cons_append, List.nil_append]); lcg_sub)⟩
end

section
set_option maxHeartbeats 1500000
theorem doneWays (w : World) (mt od ho : Addr) (wy wd ol : Addr) (T : WayT) (y1 y2 : Tok) (md hs : Addr) (sub : Str) (MT : MatchT) (c1 c2 : Tok) (pc at9 : Int) (mk : Addr) (jh N : Nat) (h0 : 0 ≤ pc) (h1 : pc < 100) (g0 : 0 ≤ at9) (hN : (N : Int) + at9 = (sub.length : Int)) (hN1 : 1 ≤ N) (g4 : sub.length ≤ 12) :
    Con w 488 [.ref mt, .ref od, .ref wy] [(wd, wayD T ol pc y1 at9 y2 (.ref mk)), (hs, W.listOf #[] jh)] [(od, (oWays c1 c2)), (wy, instObj 449 wd), (mt, instObj 526 md), (md, matchD MT sub ho hs)] 40 300
      (fun (v : Value) (made chg' : List (Addr × Obj)) => v = .bool true ∧ ∃ (t1 t2 : Tok) (qv : List Value) (j2 : Nat), chg' = [(wd, wayD T ol (pc + 1) t1 at9 t2 (.ref mk)), (hs, W.listOf qv.toArray j2)] ∧ WaysAre ol (pc + 1) (.ref mk) qv (List.map (fun i : Nat => at9 + (N : Int) - (i : Int)) (List.range N)) made) := by
  k_with_none
  (k_with "WhlIf" => ((first | (refine WhlIf.yes (by with_unfolding_all rfl) ?_) | (refine WhlIf.no (by with_unfolding_all rfl) ?_) | (refine WhlIf.yes (by decide) ?_) | (refine WhlIf.no (by decide) ?_)); (try k_fold)))
  (k_with "setAttr ref" => (k_here; k_dflt (refine set_dict_any (by k_asm) (by k_asm) (by k_asm) (by k_inst) (by exact rfl) (by k_is) (by k_is) (by k_is) (by k_is) (by k_get) (by (intro kH kt; k_put)) (by (intro kH kt; k_upd)) (by (intro kH kt; exact Nat.le_of_ble_eq_true rfl)) ?_; k_whole); intro kwh kwH kwt kwF kwN; (try k_sweep)))
  (k_with "k_allIn" => (first | exact List.forall_mem_nil _ | (refine List.forall_mem_cons.mpr ⟨by (first | exact nth_mem 0 rfl | exact nth_mem 1 rfl | exact nth_mem 2 rfl | exact nth_mem 3 rfl | exact nth_mem 4 rfl | exact nth_mem 5 rfl | exact nth_mem 6 rfl | exact nth_mem 7 rfl | exact nth_mem 8 rfl | exact nth_mem 9 rfl | exact nth_mem 10 rfl | exact nth_mem 11 rfl | exact nth_mem 12 rfl | exact nth_mem 13 rfl | exact nth_mem 14 rfl | exact nth_mem 15 rfl | exact nth_mem 16 rfl | exact nth_mem 17 rfl | exact nth_mem 18 rfl | exact nth_mem 19 rfl | exact nth_mem 20 rfl | exact nth_mem 21 rfl | exact nth_mem 22 rfl | exact nth_mem 23 rfl | exact nth_mem 24 rfl | exact nth_mem 25 rfl | k_memK), ?_⟩; k_allIn)))
  (k_with "lcg_sub" => (first | exact List.forall_mem_nil _ | (refine List.forall_mem_cons.mpr ⟨by (first | exact nth_mem 0 rfl | exact nth_mem 1 rfl | exact nth_mem 2 rfl | exact nth_mem 3 rfl | exact nth_mem 4 rfl | exact nth_mem 5 rfl | exact nth_mem 6 rfl | exact nth_mem 7 rfl | exact nth_mem 8 rfl | exact nth_mem 9 rfl | exact nth_mem 10 rfl | exact nth_mem 11 rfl | exact nth_mem 12 rfl | exact nth_mem 13 rfl | exact nth_mem 14 rfl | exact nth_mem 15 rfl | exact nth_mem 16 rfl | exact nth_mem 17 rfl | exact nth_mem 18 rfl | exact nth_mem 19 rfl | exact nth_mem 20 rfl | exact nth_mem 21 rfl | exact nth_mem 22 rfl | exact nth_mem 23 rfl | exact nth_mem 24 rfl | exact nth_mem 25 rfl | k_mem), ?_⟩; lcg_sub)))
  (k_with "k_ne" => (refine neN ?_; (try dsimp only); first
    | exact allLt_ne (by with_reducible assumption) (by k_mem)
    | exact allLt_ne' (by with_reducible assumption) (by k_mem)
    | exact far_ne (by with_reducible assumption) (by k_mem)
    | exact far_ne' (by with_reducible assumption) (by k_mem)
    | exact allLt_ne2 (by with_reducible assumption) (by with_reducible assumption) (by k_mem)
    | exact allLt_ne2' (by with_reducible assumption) (by with_reducible assumption) (by k_mem)
    | exact Nat.ne_of_lt (by assumption)
    | exact Nat.ne_of_gt (by assumption)
    | assumption
    | (refine Ne.symm ?_; assumption)
    | exact off1_ne (by assumption) (by k_mem)
    | (refine Ne.symm ?_; exact off1_ne (by assumption) (by k_mem))
    | exact apart_ne (by assumption) (by k_mem) (by k_mem)
    | exact apart_ne' (by assumption) (by k_mem) (by k_mem)
    | omega))
  (k_with "lcg_off" => first | exact True.intro | assumption | (refine And.intro ⟨by k_ne, by k_ne, by k_ne⟩ ?_; lcg_off))
  (k_with "k_room" => ((try simp only [depth_under_make, depth_under_kw, depth_in1, depth_deeper, depth_caller]); (try dsimp only [ktrTop]); first | exact Nat.le_of_ble_eq_true rfl | exact room1 (by assumption) rfl | exact room2 (by assumption) rfl | exact room3 (by assumption) rfl | exact room4 (by assumption) rfl | omega))
  (k_with "k_units" => ((try simp only [units_in1, units_deeper, Around.mark_units, units_caller]); (try dsimp only [ktrTop]); first | exact Nat.le_of_ble_eq_true rfl | exact room1 (by assumption) rfl | exact room2 (by assumption) rfl | exact room3 (by assumption) rfl | exact room4 (by assumption) rfl | omega))
  (k_with "eval ListComp" => (k_here; k_dflt (refine LCg.ListComp_U (F₀ := by k_asm) (by with_unfolding_all rfl) (by decide) (by rfl) (by decide) (by rfl) ?_)))
  (k_with "CompRest" => (with_unfolding_all first
    | (refine LCg.CompRest.succ ?_; intro kwv kwI kwoI kwC kwoC kwD kwm kwh kwtk kwE kwhv kwhC kwhx kwF kwN kwoff kwne; (first | lcg_open kwhv | (obtain ⟨kwt9, kwhv9⟩ := kwhv; subst kwhv9)))
    | refine LCg.CompRest.zero ?_))
  (k_with "FinE" => ((unfold LCg.FinE); intro kwD kwh kwtk kwF kwN kwo1; (try simp only [List.nil_append, List.cons_append] at kwN); (try dsimp only)))
  (k_with "compareOp In str ref" => (k_here; (with_reducible show wpAny _ _ (compareOp CmpOp.In (Value.str _ _) (Value.ref _)) _ _ _); k_dflt (first
    | (refine in_topTup (b := true) (by k_asm) (by k_asm) (by k_is) (by (repeat constructor)) (by decide) ?_; k_whole)
    | (refine in_topTup (b := false) (by k_asm) (by k_asm) (by k_is) (by (repeat constructor)) (by decide) ?_; k_whole))))
  (k_with "k_enter" => ((fail_if_success k_inElt); (refine code_def (by k_asm) (by k_asm) (by k_asm) (by k_asm) (by k_asm) rfl rfl rfl (by k_is) (by k_is) (by k_room) (by (first | exact binds1 rfl | exact binds2 rfl | exact binds3 rfl | exact binds4 rfl | exact binds7 rfl)) (by exact locs rfl) ?_ rfl rfl rfl (by decide); k_whole; intro kwg kwL kwh kwFG kwF kwN kwB kwX kwT; (try dsimp only [List.reverse_cons, List.reverse_nil, List.nil_append, List.cons_append]); (try k_lift kwB); (try k_fold))))
  (k_with "compareOp Eq str str" => (k_here; refine eq_str_no (by assumption) ?_))
  (k_with "subscriptTail Name Constant ref int" => (k_here; (with_reducible show wpAny _ _ (subscriptTail _ _ (Value.ref _) (Value.int 0 _)) _ _ _); k_dflt (refine head_tup (by k_asm) (by k_mem) ?_ (by with_unfolding_all rfl); k_whole)))
  (k_with "call builtin:len" => (k_here; (with_reducible show wpAny _ _ (call (Value.builtin "len") [Value.ref _]) _ _ _); k_dflt (refine len_any (by k_asm) (by k_mem) (by (first | assumption | omega | (simp only [Array.size_push]; omega))) ?_); k_whole))
  (k_with "compareOp In str ref" => (k_here; (with_reducible show wpAny _ _ (compareOp CmpOp.In (Value.str _ _) (Value.ref _)) _ _ _); k_dflt (refine in_nil (by k_asm) (by k_mem) ?_)))
  (k_with "call ref" => (k_here; (with_reducible show wpAny _ _ (call (Value.ref 390) [Value.str _ _, Value.int _ _]) _ _ _); k_dflt (refine Con.use2 (by k_asm) (by k_asm) (by k_allIn) (by ((repeat (first | exact Take.nil | (apply Take.cons; focus ((repeat (first | exact Rem.head | apply Rem.tail)); done)))); done)) (by ((repeat (first | exact fars_nil | refine fars_cons (by ((try simp only [List.cons_append, List.nil_append]); k_all)) ?_)); done)) (by ((repeat (first | exact fars_nil | refine fars_cons (by ((try simp only [List.cons_append, List.nil_append]); k_all)) ?_)); done)) (by k_asm) (by k_asm) (by k_asm) rfl (by k_room) (by k_units) (arbC _ _ _ _ _  (by (first | assumption | decide | omega)) (by (first | assumption | decide | omega)) (by (first | assumption | decide | omega))) ?_); rintro v9 made9 chg9 h9 tk9 ⟨D9, ys9, c9, e9, f9, g9, x09⟩ F9 N9 A9; subst e9; subst f9; subst g9; (try simp only [List.cons_append, List.nil_append] at N9); (try dsimp only [Fars, List.cons_append, List.nil_append] at A9); obtain ⟨A09, -⟩ := A9; (try dsimp only); (try k_sweep)))
  (k_with "call ref" => (k_here; (with_reducible show wpAny _ _ (call (Value.ref 516) [_, _, _]) _ _ _); refine hold_of ?_))
  (k_with "k_mem" => first | exact List.Mem.head _ | (refine List.Mem.tail _ ?_; k_mem) | (refine mem_id ?_; with_reducible assumption) | (refine List.mem_append_left _ ?_; with_reducible assumption) | fail)
  (k_with "k_memK" => first | exact List.Mem.head _ | (refine List.Mem.tail _ ?_; k_memK) | (refine mem_id ?_; with_reducible assumption) | (refine List.mem_append_left _ ?_; with_reducible assumption) | fail)
  (k_with "k_all" => first | exact List.forall_mem_nil _ | exact Far.all (by with_reducible assumption) | exact far_part (by with_reducible assumption) (by intro p hp; (repeat (first | exact hp | refine List.mem_cons_of_mem _ ?_)); (first | done | fail)) | exact young_sub (by with_reducible assumption) (by intro p hp; (repeat (first | exact hp | refine List.mem_cons_of_mem _ ?_)); (first | done | fail)) | exact young_sub2 (by with_reducible assumption) (by with_reducible assumption) (by intro p hp; (repeat (first | exact hp | refine List.mem_cons_of_mem _ ?_)); (first | done | fail)) | (refine List.forall_mem_cons.mpr ⟨by k_ne, ?_⟩; k_all))
  (k_with "k_allIn" => (first | exact List.forall_mem_nil _ | (refine List.forall_mem_cons.mpr ⟨by k_memK, ?_⟩; k_allIn)))
  (k_with "lcg_sub" => (first | exact List.forall_mem_nil _ | (refine List.forall_mem_cons.mpr ⟨by k_mem, ?_⟩; lcg_sub) | (intro p hp; (repeat (first | exact hp | refine List.mem_cons_of_mem _ ?_)); (first | done | fail))))
  intro hF
  unfold Spec
  k_fill
  intro dp un gd cn cs a ccd cl outer A₀ base h₀ L m s Q E mean mg mb rest B F X N dis T hk hdp hun hret
  dsimp only [Fars, List.cons_append, List.nil_append] at hF
  obtain ⟨hF0, hF1, -⟩ := hF
  try simp only [List.cons_append, List.nil_append] at N dis hret
  refine' enterR B F X N dis T hk ?room ?ho ?hcd ?bind ?loc ?_ ?hcell ?hco ?hgen ?hkk
  case room => first | exact room0 (by assumption) | omega
  case ho => k_dflt k_is
  case hcd => k_dflt k_is
  case bind => exact binds3 rfl
  case loc => exact locs rfl
  case hcell => decide
  case hco => exact rfl
  case hgen => exact rfl
  case hkk => exact rfl
  intro g L' h₁ F' N' B' X' T'
  clear B F X N T dis
  k_fold
  obtain ⟨nx, hnx⟩ : ∃ nx : Led, nx = [(od, (oWays c1 c2)), (wy, instObj 449 wd), (mt, instObj 526 md), (md, matchD MT sub ho hs)] := ⟨_, rfl⟩
  rw [← hnx] at hF0 hF1 N'
  have hall : ∀ p ∈ [(od, (oWays c1 c2)), (wy, instObj 449 wd), (mt, instObj 526 md), (md, matchD MT sub ho hs)], p ∈ nx := fun p hp => hnx ▸ hp
  (repeat (have m9 := (List.forall_mem_cons.mp hall).1; replace hall := (List.forall_mem_cons.mp hall).2))
  clear hall
  have hn : ((sub.length : Int) + 1 - at9).toNat = N + 1 := by omega
  have g1 : at9 < (sub.length : Int) := by omega
  try k_fold
  k_steps
  unfold Hold
  rename IntsAre _ _ => hI
  rw [hn, kll_cons] at hI
  cases hI with
  | cons _ ty hr =>
  rename Fr _ _ _ _ => lF
  rename News _ _ _ _ => lN
  refine' Con.use (metC _ mt ho _ wy wd ol T y1 y2 md hs sub MT ty _ _ pc at9 at9 mk jh N ?s_h0 ?s_h1 ?s_hI ?s_hN ?s_g0 ?s_g1) ?B lF ?X lN ?T ?kk ?hK ?hT ?hF ?hF2 ?room ?un ?_
  case B => k_asm
  case X => k_asm
  case T => k_asm
  case kk => exact rfl
  case hK => k_allIn
  case hT => (refine' Take.cons ?r1 ?t1; (case r1 => ((repeat (first | exact Rem.head | apply Rem.tail)); done)); (case t1 => (refine' Take.cons ?r1 ?t1; (case r1 => ((repeat (first | exact Rem.head | apply Rem.tail)); done)); (case t1 => exact Take.nil))))
  case hF2 => repeat (first | exact fars_nil | refine fars_cons (by ((try simp only [List.cons_append, List.nil_append]); k_all)) ?_)
  case hF => repeat (first | exact fars_nil | refine fars_cons (by ((try simp only [List.cons_append, List.nil_append]); k_all)) ?_)
  case room => k_room
  case un => k_units
  case s_h0 => assumption
  case s_h1 => assumption
  case s_hI => rw [kll_cons]; exact .cons _ _ hr
  case s_hN => omega
  case s_g0 => assumption
  case s_g1 => omega
  rintro v9 made9 chg9 h9 tk9 ⟨rfl, a1, a2, qv, j2, rfl, hW⟩ F9 N9 A9
  replace N9 := news_swap N9
  simp only [List.cons_append, List.nil_append] at N9 A9
  clear lF lN
  try k_fold
  k_steps
  rename Fr _ _ _ _ => lF
  rename News _ _ _ _ => lN
  refine leaveR lF lN fun kF kN kA => ?_
  refine' hret _ _ _ _ ⟨made9, [(wd, _), (hs, _)], rfl, fars_sub A9 ?fs, (by rfl), rfl, a1, a2, qv, j2, rfl, hW⟩ kF (news_sub2 kN ?dsub) (apart_sub kA ?dsub)
  case fs => (try simp only [List.cons_append, List.nil_append]); lcg_sub
  case dsub => exact List.forall_mem_append.mpr ⟨fun p hp => by repeat (first | exact hp | exact List.mem_append_right _ hp | refine List.mem_cons_of_mem _ ?_), by ((try simp only [List.cons_append, List.nil_append]); lcg_sub)⟩
end

section
set_option maxHeartbeats 1500000
theorem run1loop (w : World) (mt ol od1 od2 od3 od4 od5 od6 : Addr) (ho hd vd rl lg : Addr) (HT : HostT) (u3 : Tok) (md hs : Addr) (sub : Str) (MT : MatchT) (rf rd : Addr) (RT : RefT) (ring : Str) (c1 c2 c3 c4 c5 c6 c7 c8 c9 c10 c11 ub : Tok) (oj : Nat) (t : Nat) (kk : Int) (ovv : Obj) (itt : Array Value) (jj j0 : Nat) (mk : Addr) (cm : Tok) (n0 : 1 ≤ ring.length) (n1 : ring.length ≤ 6) (hsl : sub.length = 2 * ring.length) (t0 : 1 ≤ t) (t1 : t ≤ ring.length) (hno : ∀ a : Nat, 1 ≤ a → a < t → (PySem.Txt.slice sub (some (a : Int)) (some ((a : Int) + ring.length)) == ring) = false) (hyes : (PySem.Txt.slice sub (some (t : Int)) (some ((t : Int) + ring.length)) == ring) = true) :
    ∀ (q M a : Nat) (k : Int) (u : Tok) (wy wd : Addr) (T : WayT) (y1 y2 : Tok) (qv : List Value) (jh : Nat) (ov : Obj) (kvs : List (Str × Value)) (its : Array Value) (j : Nat) (ents : Led),
      a + q = t → 1 ≤ a → M + a = 2 * ring.length → 0 ≤ k → k < 900 - 2 * q → its.size + q ≤ 60 → (kvs = [] ∨ ∃ o, kvs = [((Str.ofString "W"), o)]) → ov.IsDictOf (PySem.strKind PySem.Challenge.rw_xm0958_01.row.prog w) kvs →
      WaysAre ol 3 (.ref mk) qv (List.map (fun i : Nat => (1 : Int) + ((2 * ring.length - 1 : Nat) : Int) - (i : Int)) (List.range M)) ents →
      Fars ((hs, W.listOf qv.toArray jh) :: (wy, instObj 449 wd) :: (wd, wayD T ol 3 y1 (a : Int) y2 (.ref mk)) :: (hd, hostD HT vd rl lg k u) :: (vd, ov) :: (lg, W.listOf its j) :: []) ([(mk, tup [.none, .int 0 cm]), (ol, W.listOf (vs6 od1 od2 od3 od4 od5 od6) oj), (od1, (oMark c1)), (od2, (oLen c2 c3 1 c4)), (od3, (oWays c5 c6)), (od4, (oSet c7 rf)), (od5, (oChars c8 c9 ring c10)), (od6, (oDone c11)), (mt, instObj 526 md), (md, matchD MT sub ho hs), (ho, instObj 589 hd), (rl, W.listOf #[] 0), (rf, instObj 208 rd), (rd, refD RT)] ++ ents) → Fars ents [(mk, tup [.none, .int 0 cm]), (ol, W.listOf (vs6 od1 od2 od3 od4 od5 od6) oj), (od1, (oMark c1)), (od2, (oLen c2 c3 1 c4)), (od3, (oWays c5 c6)), (od4, (oSet c7 rf)), (od5, (oChars c8 c9 ring c10)), (od6, (oDone c11)), (mt, instObj 526 md), (md, matchD MT sub ho hs), (ho, instObj 589 hd), (rl, W.listOf #[] 0), (rf, instObj 208 rd), (rd, refD RT)] → Far hs ents → Far hd ents →  Far vd ents → Far lg ents →
      Chain w ⟨mt, md, hs, ho, hd, vd, rl, lg, ol, HT, MT, sub, (vs6 od1 od2 od3 od4 od5 od6), oj⟩ (fun v nd => ∃ nd', (∀ p ∈ nd', p ∈ nd) ∧ ∃ made chg', nd' = made ++ (chg' ++ [(ol, W.listOf (vs6 od1 od2 od3 od4 od5 od6) oj), (od1, (oMark c1)), (od2, (oLen c2 c3 1 c4)), (od3, (oWays c5 c6)), (od4, (oSet c7 rf)), (od5, (oChars c8 c9 ring c10)), (od6, (oDone c11)), (mt, instObj 526 md), (md, matchD MT sub ho hs), (ho, instObj 589 hd), (rl, W.listOf #[] 0), (rf, instObj 208 rd), (rd, refD RT)]) ∧ Fars made (chg' ++ [(ol, W.listOf (vs6 od1 od2 od3 od4 od5 od6) oj), (od1, (oMark c1)), (od2, (oLen c2 c3 1 c4)), (od3, (oWays c5 c6)), (od4, (oSet c7 rf)), (od5, (oChars c8 c9 ring c10)), (od6, (oDone c11)), (mt, instObj 526 md), (md, matchD MT sub ho hs), (ho, instObj 589 hd), (rl, W.listOf #[] 0), (rf, instObj 208 rd), (rd, refD RT)]) ∧ chg'.map (·.1) = ([(hd, hostD HT vd rl lg kk u3), (vd, ovv), (lg, W.listOf itt jj), (hs, W.listOf #[] j0)] : Led).map (·.1) ∧ (fun (v : Value) (made chg' : List (Addr × Obj)) => ∃ (rt wy wd : Addr) (T : WayT) (t1 t2 t3 t4 t5 : Tok) (pc2 k2 : Int) (mks : Value) (o2 : Obj) (its2 its3 : Array Value) (j2 j3 : Nat), v = .ref rt ∧ made = [(rt, tup [.int 0 t1, .ref wy]), (wy, instObj 449 wd), (wd, wayD T ol pc2 t2 ((t : Int) + ring.length) t3 mks)] ∧ chg' = [(hd, hostD HT vd rl lg k2 t4), (vd, o2), (lg, W.listOf its2 j2), (hs, W.listOf its3 j3)] ∧ o2.IsDictOf (PySem.strKind PySem.Challenge.rw_xm0958_01.row.prog w) [((Str.ofString "W"), .str (PySem.Txt.slice sub (some 0) (some (t : Int))) t5)]) v made chg') (2 * q + 3) k wy ((hs, W.listOf qv.toArray jh) :: (wy, instObj 449 wd) :: (wd, wayD T ol 3 y1 (a : Int) y2 (.ref mk)) :: (hd, hostD HT vd rl lg k u) :: (vd, ov) :: (lg, W.listOf its j) :: ([(mk, tup [.none, .int 0 cm]), (ol, W.listOf (vs6 od1 od2 od3 od4 od5 od6) oj), (od1, (oMark c1)), (od2, (oLen c2 c3 1 c4)), (od3, (oWays c5 c6)), (od4, (oSet c7 rf)), (od5, (oChars c8 c9 ring c10)), (od6, (oDone c11)), (mt, instObj 526 md), (md, matchD MT sub ho hs), (ho, instObj 589 hd), (rl, W.listOf #[] 0), (rf, instObj 208 rd), (rd, refD RT)] ++ ents)) := by
  k_with_none
  (k_with "WhlIf" => ((first | (refine WhlIf.yes (by with_unfolding_all rfl) ?_) | (refine WhlIf.no (by with_unfolding_all rfl) ?_) | (refine WhlIf.yes (by decide) ?_) | (refine WhlIf.no (by decide) ?_)); (try k_fold)))
  (k_with "setAttr ref" => (k_here; k_dflt (refine set_dict_any (by k_asm) (by k_asm) (by k_asm) (by k_inst) (by exact rfl) (by k_is) (by k_is) (by k_is) (by k_is) (by k_get) (by (intro kH kt; k_put)) (by (intro kH kt; k_upd)) (by (intro kH kt; exact Nat.le_of_ble_eq_true rfl)) ?_; k_whole); intro kwh kwH kwt kwF kwN; (try k_sweep)))
  (k_with "k_allIn" => (first | exact List.forall_mem_nil _ | (refine List.forall_mem_cons.mpr ⟨by (first | exact nth_mem 0 rfl | exact nth_mem 1 rfl | exact nth_mem 2 rfl | exact nth_mem 3 rfl | exact nth_mem 4 rfl | exact nth_mem 5 rfl | exact nth_mem 6 rfl | exact nth_mem 7 rfl | exact nth_mem 8 rfl | exact nth_mem 9 rfl | exact nth_mem 10 rfl | exact nth_mem 11 rfl | exact nth_mem 12 rfl | exact nth_mem 13 rfl | exact nth_mem 14 rfl | exact nth_mem 15 rfl | exact nth_mem 16 rfl | exact nth_mem 17 rfl | exact nth_mem 18 rfl | exact nth_mem 19 rfl | exact nth_mem 20 rfl | exact nth_mem 21 rfl | exact nth_mem 22 rfl | exact nth_mem 23 rfl | exact nth_mem 24 rfl | exact nth_mem 25 rfl | k_memK), ?_⟩; k_allIn)))
  (k_with "lcg_sub" => (first | exact List.forall_mem_nil _ | (refine List.forall_mem_cons.mpr ⟨by (first | exact nth_mem 0 rfl | exact nth_mem 1 rfl | exact nth_mem 2 rfl | exact nth_mem 3 rfl | exact nth_mem 4 rfl | exact nth_mem 5 rfl | exact nth_mem 6 rfl | exact nth_mem 7 rfl | exact nth_mem 8 rfl | exact nth_mem 9 rfl | exact nth_mem 10 rfl | exact nth_mem 11 rfl | exact nth_mem 12 rfl | exact nth_mem 13 rfl | exact nth_mem 14 rfl | exact nth_mem 15 rfl | exact nth_mem 16 rfl | exact nth_mem 17 rfl | exact nth_mem 18 rfl | exact nth_mem 19 rfl | exact nth_mem 20 rfl | exact nth_mem 21 rfl | exact nth_mem 22 rfl | exact nth_mem 23 rfl | exact nth_mem 24 rfl | exact nth_mem 25 rfl | k_mem), ?_⟩; lcg_sub)))
  (k_with "k_ne" => (refine neN ?_; (try dsimp only); first
    | exact allLt_ne (by with_reducible assumption) (by k_mem)
    | exact allLt_ne' (by with_reducible assumption) (by k_mem)
    | exact far_ne (by with_reducible assumption) (by k_mem)
    | exact far_ne' (by with_reducible assumption) (by k_mem)
    | exact allLt_ne2 (by with_reducible assumption) (by with_reducible assumption) (by k_mem)
    | exact allLt_ne2' (by with_reducible assumption) (by with_reducible assumption) (by k_mem)
    | exact Nat.ne_of_lt (by assumption)
    | exact Nat.ne_of_gt (by assumption)
    | assumption
    | (refine Ne.symm ?_; assumption)
    | exact off1_ne (by assumption) (by k_mem)
    | (refine Ne.symm ?_; exact off1_ne (by assumption) (by k_mem))
    | exact apart_ne (by assumption) (by k_mem) (by k_mem)
    | exact apart_ne' (by assumption) (by k_mem) (by k_mem)
    | omega))
  (k_with "lcg_off" => first | exact True.intro | assumption | (refine And.intro ⟨by k_ne, by k_ne, by k_ne⟩ ?_; lcg_off))
  (k_with "k_room" => ((try simp only [depth_under_make, depth_under_kw, depth_in1, depth_deeper, depth_caller]); (try dsimp only [ktrTop]); first | exact Nat.le_of_ble_eq_true rfl | exact room1 (by assumption) rfl | exact room2 (by assumption) rfl | exact room3 (by assumption) rfl | exact room4 (by assumption) rfl | omega))
  (k_with "k_units" => ((try simp only [units_in1, units_deeper, Around.mark_units, units_caller]); (try dsimp only [ktrTop]); first | exact Nat.le_of_ble_eq_true rfl | exact room1 (by assumption) rfl | exact room2 (by assumption) rfl | exact room3 (by assumption) rfl | exact room4 (by assumption) rfl | omega))
  (k_with "eval ListComp" => (k_here; k_dflt (refine LCg.ListComp_U (F₀ := by k_asm) (by with_unfolding_all rfl) (by decide) (by rfl) (by decide) (by rfl) ?_)))
  (k_with "CompRest" => (with_unfolding_all first
    | (refine LCg.CompRest.succ ?_; intro kwv kwI kwoI kwC kwoC kwD kwm kwh kwtk kwE kwhv kwhC kwhx kwF kwN kwoff kwne; (first | lcg_open kwhv | (obtain ⟨kwt9, kwhv9⟩ := kwhv; subst kwhv9)))
    | refine LCg.CompRest.zero ?_))
  (k_with "FinE" => ((unfold LCg.FinE); intro kwD kwh kwtk kwF kwN kwo1; (try simp only [List.nil_append, List.cons_append] at kwN); (try dsimp only)))
  (k_with "compareOp In str ref" => (k_here; (with_reducible show wpAny _ _ (compareOp CmpOp.In (Value.str _ _) (Value.ref _)) _ _ _); k_dflt (first
    | (refine in_topTup (b := true) (by k_asm) (by k_asm) (by k_is) (by (repeat constructor)) (by decide) ?_; k_whole)
    | (refine in_topTup (b := false) (by k_asm) (by k_asm) (by k_is) (by (repeat constructor)) (by decide) ?_; k_whole))))
  (k_with "k_enter" => ((fail_if_success k_inElt); (refine code_def (by k_asm) (by k_asm) (by k_asm) (by k_asm) (by k_asm) rfl rfl rfl (by k_is) (by k_is) (by k_room) (by (first | exact binds1 rfl | exact binds2 rfl | exact binds3 rfl | exact binds4 rfl | exact binds7 rfl)) (by exact locs rfl) ?_ rfl rfl rfl (by decide); k_whole; intro kwg kwL kwh kwFG kwF kwN kwB kwX kwT; (try dsimp only [List.reverse_cons, List.reverse_nil, List.nil_append, List.cons_append]); (try k_lift kwB); (try k_fold))))
  (k_with "compareOp Eq str str" => (k_here; refine eq_str_no (by assumption) ?_))
  (k_with "subscriptTail Name Constant ref int" => (k_here; (with_reducible show wpAny _ _ (subscriptTail _ _ (Value.ref _) (Value.int 0 _)) _ _ _); k_dflt (refine head_tup (by k_asm) (by k_mem) ?_ (by with_unfolding_all rfl); k_whole)))
  (k_with "call builtin:len" => (k_here; (with_reducible show wpAny _ _ (call (Value.builtin "len") [Value.ref _]) _ _ _); k_dflt (refine len_any (by k_asm) (by k_mem) (by (first | assumption | omega | (simp only [Array.size_push]; omega))) ?_); k_whole))
  (k_with "compareOp In str ref" => (k_here; (with_reducible show wpAny _ _ (compareOp CmpOp.In (Value.str _ _) (Value.ref _)) _ _ _); k_dflt (refine in_nil (by k_asm) (by k_mem) ?_)))
  (k_with "call ref" => (k_here; (with_reducible show wpAny _ _ (call (Value.ref 4740) [Value.ref _, Value.ref _, Value.int _ _]) _ _ _); refine hold_of ?_))
  (k_with "k_memK" => assumption)
  (k_with "k_all" => first | exact Far.all (by with_reducible assumption) | fail)
  (k_with "k_all" => first | exact young_sub (by with_reducible assumption) (by intro p hp; repeat (first | exact hp | refine List.mem_cons_of_mem _ ?_); done) | exact young_sub2 (by with_reducible assumption) (by with_reducible assumption) (by intro p hp; repeat (first | exact hp | refine List.mem_cons_of_mem _ ?_); done) | fail)
  intro q
  induction q with
  | zero =>
    intro M a k u wy wd T y1 y2 qv jh ov kvs its j ents ha ha1 hM k0 k1 hz hkv hes hW hFm hFe e1 e2 e3 e4
    obtain rfl : a = t := by omega
    have hkz : kvs.length ≤ 100 := by rcases hkv with rfl | ⟨o, rfl⟩ <;> simp
    have g4 : sub.length ≤ 20 := by omega
    simp only [Fars, List.cons_append, List.nil_append] at hFm
    obtain ⟨f1, f2, f3, f4, f5, f6, -⟩ := hFm
    have w1 : Far wy ents := far_sub f2 (fun p hp => by repeat (first | exact hp | refine List.mem_cons_of_mem _ ?_))
    have w2 : Far wd ents := far_sub f3 (fun p hp => by repeat (first | exact hp | refine List.mem_cons_of_mem _ ?_))
    replace f1 := id f1
    replace f2 := id f2
    replace f3 := id f3
    replace f4 := id f4
    replace f5 := id f5
    replace f6 := id f6
    simp only [List.cons_append, List.nil_append]
    refine' Chain.go (Head.of (T := T) (g := (Str.ofString "set")) (i := 3) ?hT ?hf ?k0 ?k1 ?hho ?hmt ?hmd ?hwy ?hwd ?hol ?hi ?hod) (fun u9 => ⟨?hg, ?hg2, (doneSet _ _ _ _ _ _ _ _ _ _ _ _ _ _ _ _ _ _ _ _ _ _ _ _ _ _ _ _ _ _ _ _ _ _  ?s_h0 ?s_h1 ?s_g0 ?s_g1 ?s_g2 ?s_g4 ?s_hz ?s_hes ?s_hkz).more (by decide) (by decide), ?hK, ?hT2, ?hF, ?hF2⟩) ?hv ?hn
    case hT => (try dsimp only); (refine' Take.cons ?r1 ?t1; (case r1 => ((repeat (first | exact Rem.head | apply Rem.tail)); done)); (case t1 => exact Take.nil))
    case hho => (try dsimp only); k_memK
    case hmt => (try dsimp only); k_memK
    case hmd => (try dsimp only); k_memK
    case hwy => (try dsimp only); k_memK
    case hwd => (try dsimp only); k_memK
    case hol => (try dsimp only); k_memK
    case hi => with_unfolding_all rfl
    case hod => (try dsimp only); k_memK
    case hK => (try dsimp only); k_allIn
    case hT2 => (try dsimp only); (refine' Take.cons ?r1 ?t1; (case r1 => ((repeat (first | exact Rem.head | apply Rem.tail)); done)); (case t1 => (refine' Take.cons ?r1 ?t1; (case r1 => ((repeat (first | exact Rem.head | apply Rem.tail)); done)); (case t1 => (refine' Take.cons ?r1 ?t1; (case r1 => ((repeat (first | exact Rem.head | apply Rem.tail)); done)); (case t1 => exact Take.nil))))))
    case hf => refine ⟨?_⟩; (try dsimp only); k_all
    case hF => repeat (first | exact fars_nil | refine fars_cons (by ((try simp only [List.cons_append, List.nil_append]); k_all)) ?_)
    case hF2 => repeat (first | exact fars_nil | refine fars_cons (by ((try simp only [List.cons_append, List.nil_append]); k_all)) ?_)
    case k0 => first | assumption | omega
    case k1 => first | assumption | omega
    case hg => decide
    case hg2 => decide
    case s_h0 => decide
    case s_h1 => decide
    case s_g0 => first | decide | omega
    case s_g1 => omega
    case s_g2 => omega
    case s_g4 => assumption
    case s_hz => first | assumption | omega
    case s_hes => assumption
    case s_hkz => assumption
    case hv => rintro u9 v9 made9 chg9 ⟨q9, t19, t29, t39, t49, t59, o29, e9, -⟩; exact e9
    case hn =>
      rintro u9 v9 made9 chg9 ⟨q9, t19, t29, t39, t49, t59, o29, rfl, rfl, rfl, X09⟩ A9
      (try dsimp only [Fars, List.cons_append, List.nil_append] at A9)
      (try simp only [List.cons_append, List.nil_append])
      obtain ⟨A09, -⟩ := A9
      rw [stored_one hkv] at X09
      refine' Chain.go (Head.of (T := T) (g := (Str.ofString "one")) (i := 4) ?hT ?hf ?k0 ?k1 ?hho ?hmt ?hmd ?hwy ?hwd ?hol ?hi ?hod) (fun u9 => ⟨?hg, ?hg2, (doneChOk _ _ _ _ _ _ _ _ _ _ _ _ _ _ _ _ _ _ _ _ _  ?s_h0 ?s_h1 ?s_g0 ?s_g1 ?s_g3 ?s_g4 ?s_hsl).more (by decide) (by decide), ?hK, ?hT2, ?hF, ?hF2⟩) ?hv ?hn
      case hT => (try dsimp only); (refine' Take.cons ?r1 ?t1; (case r1 => ((repeat (first | exact Rem.head | apply Rem.tail)); done)); (case t1 => exact Take.nil))
      case hho => (try dsimp only); k_memK
      case hmt => (try dsimp only); k_memK
      case hmd => (try dsimp only); k_memK
      case hwy => (try dsimp only); k_memK
      case hwd => (try dsimp only); k_memK
      case hol => (try dsimp only); k_memK
      case hi => with_unfolding_all rfl
      case hod => (try dsimp only); k_memK
      case hK => (try dsimp only); k_allIn
      case hT2 => (try dsimp only); (refine' Take.cons ?r1 ?t1; (case r1 => ((repeat (first | exact Rem.head | apply Rem.tail)); done)); (case t1 => exact Take.nil))
      case hf => refine ⟨?_⟩; (try dsimp only); k_all
      case hF => repeat (first | exact fars_nil | refine fars_cons (by ((try simp only [List.cons_append, List.nil_append]); k_all)) ?_)
      case hF2 => repeat (first | exact fars_nil | refine fars_cons (by ((try simp only [List.cons_append, List.nil_append]); k_all)) ?_)
      case k0 => first | assumption | omega
      case k1 => first | assumption | omega
      case hg => decide
      case hg2 => decide
      case s_h0 => decide
      case s_h1 => decide
      case s_g0 => first | decide | omega
      case s_g1 => omega
      case s_g3 => omega
      case s_g4 => assumption
      case s_hsl => first | assumption | exact hno a ha1 (by omega)
      case hv => rintro u9 v9 made9 chg9 ⟨t19, t29, e9, -⟩; exact e9
      case hn =>
        rintro u9 v9 made9 chg9 ⟨t19, t29, rfl, rfl, rfl⟩ A9
        (try dsimp only [Fars, List.cons_append, List.nil_append] at A9)
        (try simp only [List.cons_append, List.nil_append])
        clear A9
        refine' Chain.ret (Head.of (T := T) (g := (Str.ofString "done")) (i := 5) ?hT ?hf ?k0 ?k1 ?hho ?hmt ?hmd ?hwy ?hwd ?hol ?hi ?hod) ?hp
        case hT => (try dsimp only); (refine' Take.cons ?r1 ?t1; (case r1 => ((repeat (first | exact Rem.head | apply Rem.tail)); done)); (case t1 => exact Take.nil))
        case hho => (try dsimp only); k_memK
        case hmt => (try dsimp only); k_memK
        case hmd => (try dsimp only); k_memK
        case hwy => (try dsimp only); k_memK
        case hwd => (try dsimp only); k_memK
        case hol => (try dsimp only); k_memK
        case hi => with_unfolding_all rfl
        case hod => (try dsimp only); k_memK
        case hf => refine ⟨?_⟩; (try dsimp only); k_all
        case k0 => first | assumption | omega
        case k1 => first | assumption | omega
        case hp =>
          intro rt9 t9 u9 hrt
          (try dsimp only at hrt)
          refine' ⟨_, ?sub, _, _, rfl, ?fars, ?mp, ?e_rt, ?e_wy, ?e_wd, ?e_T, ?e_t1, ?e_t2, ?e_t3, ?e_t4, ?e_t5, ?e_pc2, ?e_k2, ?e_mks, ?e_o2, ?e_its2, ?e_its3, ?e_j2, ?e_j3, rfl, rfl, rfl, ?x0⟩
          case sub => (try simp only [List.cons_append, List.nil_append]); lcg_sub
          case mp => exact rfl
          case x0 => assumption
          case fars => repeat (first | exact fars_nil | refine fars_cons (by ((try simp only [List.cons_append, List.nil_append]); k_all)) ?_)
  | succ q ih =>
    intro M a k u wy wd T y1 y2 qv jh ov kvs its j ents ha ha1 hM k0 k1 hz hkv hes hW hFm hFe e1 e2 e3 e4
    obtain ⟨M, rfl⟩ : ∃ M', M = M' + 1 := ⟨M - 1, by omega⟩
    obtain ⟨qv, x, d, T2, z1, z2, a3, ents, ea, rfl, rfl, hW2⟩ := ways_inv hW
    obtain rfl : a3 = ((a + 1 : Nat) : Int) := by rw [ea]; omega
    have e5 : Far hs ents := far_sub e1 fun p hp => List.mem_cons_of_mem _ (List.mem_cons_of_mem _ hp)
    have e6 : Far hd ents := far_sub e2 fun p hp => List.mem_cons_of_mem _ (List.mem_cons_of_mem _ hp)
    have e7 : Far vd ents := far_sub e3 fun p hp => List.mem_cons_of_mem _ (List.mem_cons_of_mem _ hp)
    have e8 : Far lg ents := far_sub e4 fun p hp => List.mem_cons_of_mem _ (List.mem_cons_of_mem _ hp)
    simp only [Fars, List.cons_append, List.nil_append] at hFe
    obtain ⟨hx, hd9, hFe⟩ := hFe
    have hxe : Far x ents := far_sub hx fun p hp => List.mem_cons_of_mem _ (List.mem_append_left _ hp)
    have hde : Far d ents := far_sub hd9 fun p hp => List.mem_append_left _ hp
    have hxl := far_sub hx (List.forall_mem_cons.mpr ⟨List.mem_cons_self, fun p hp => List.mem_cons_of_mem _ (List.mem_append_right _ hp)⟩)
    have hdl := far_sub hd9 (fun p hp => List.mem_append_right _ hp)
    rw [show 2 * (q + 1) + 3 = (2 * q + 3) + 1 + 1 by omega]
    have hkz : kvs.length ≤ 100 := by rcases hkv with rfl | ⟨o, rfl⟩ <;> simp
    have g4 : sub.length ≤ 20 := by omega
    simp only [Fars, List.cons_append, List.nil_append] at hFm
    obtain ⟨f1, f2, f3, f4, f5, f6, -⟩ := hFm
    have w1 : Far wy ents := far_sub f2 (fun p hp => by repeat (first | exact hp | refine List.mem_cons_of_mem _ ?_))
    have w2 : Far wd ents := far_sub f3 (fun p hp => by repeat (first | exact hp | refine List.mem_cons_of_mem _ ?_))
    replace f1 := id f1
    replace f2 := id f2
    replace f3 := id f3
    replace f4 := id f4
    replace f5 := id f5
    replace f6 := id f6
    simp only [List.cons_append, List.nil_append]
    refine' Chain.go (Head.of (T := T) (g := (Str.ofString "set")) (i := 3) ?hT ?hf ?k0 ?k1 ?hho ?hmt ?hmd ?hwy ?hwd ?hol ?hi ?hod) (fun u9 => ⟨?hg, ?hg2, (doneSet _ _ _ _ _ _ _ _ _ _ _ _ _ _ _ _ _ _ _ _ _ _ _ _ _ _ _ _ _ _ _ _ _ _  ?s_h0 ?s_h1 ?s_g0 ?s_g1 ?s_g2 ?s_g4 ?s_hz ?s_hes ?s_hkz).more (by decide) (by decide), ?hK, ?hT2, ?hF, ?hF2⟩) ?hv ?hn
    case hT => (try dsimp only); (refine' Take.cons ?r1 ?t1; (case r1 => ((repeat (first | exact Rem.head | apply Rem.tail)); done)); (case t1 => exact Take.nil))
    case hho => (try dsimp only); k_memK
    case hmt => (try dsimp only); k_memK
    case hmd => (try dsimp only); k_memK
    case hwy => (try dsimp only); k_memK
    case hwd => (try dsimp only); k_memK
    case hol => (try dsimp only); k_memK
    case hi => with_unfolding_all rfl
    case hod => (try dsimp only); k_memK
    case hK => (try dsimp only); k_allIn
    case hT2 => (try dsimp only); (refine' Take.cons ?r1 ?t1; (case r1 => ((repeat (first | exact Rem.head | apply Rem.tail)); done)); (case t1 => (refine' Take.cons ?r1 ?t1; (case r1 => ((repeat (first | exact Rem.head | apply Rem.tail)); done)); (case t1 => (refine' Take.cons ?r1 ?t1; (case r1 => ((repeat (first | exact Rem.head | apply Rem.tail)); done)); (case t1 => exact Take.nil))))))
    case hf => refine ⟨?_⟩; (try dsimp only); k_all
    case hF => repeat (first | exact fars_nil | refine fars_cons (by ((try simp only [List.cons_append, List.nil_append]); k_all)) ?_)
    case hF2 => repeat (first | exact fars_nil | refine fars_cons (by ((try simp only [List.cons_append, List.nil_append]); k_all)) ?_)
    case k0 => first | assumption | omega
    case k1 => first | assumption | omega
    case hg => decide
    case hg2 => decide
    case s_h0 => decide
    case s_h1 => decide
    case s_g0 => first | decide | omega
    case s_g1 => omega
    case s_g2 => omega
    case s_g4 => assumption
    case s_hz => first | assumption | omega
    case s_hes => assumption
    case s_hkz => assumption
    case hv => rintro u9 v9 made9 chg9 ⟨q9, t19, t29, t39, t49, t59, o29, e9, -⟩; exact e9
    case hn =>
      rintro u9 v9 made9 chg9 ⟨q9, t19, t29, t39, t49, t59, o29, rfl, rfl, rfl, X09⟩ A9
      (try dsimp only [Fars, List.cons_append, List.nil_append] at A9)
      (try simp only [List.cons_append, List.nil_append])
      obtain ⟨A09, -⟩ := A9
      rw [stored_one hkv] at X09
      refine' Chain.pop (its := qv) (wy2 := x) (wd2 := d) (T2 := T2) (r3 := fun u9 => (x, instObj 449 d) :: (d, wayD T2 ol 3 z1 ((a + 1 : Nat) : Int) z2 (.ref mk)) :: (hd, hostD HT vd rl lg (k + 1 + 1) u9) :: (vd, o29) :: (lg, W.listOf (its.push (.ref q9)) (j + 1)) :: ([(mk, tup [.none, .int 0 cm]), (ol, W.listOf (vs6 od1 od2 od3 od4 od5 od6) oj), (od1, (oMark c1)), (od2, (oLen c2 c3 1 c4)), (od3, (oWays c5 c6)), (od4, (oSet c7 rf)), (od5, (oChars c8 c9 ring c10)), (od6, (oDone c11)), (mt, instObj 526 md), (md, matchD MT sub ho hs), (ho, instObj 589 hd), (rl, W.listOf #[] 0), (rf, instObj 208 rd), (rd, refD RT)] ++ ents)) (Head.of (T := T) (g := (Str.ofString "one")) (i := 4) ?hT ?hf ?k0 ?k1 ?hho ?hmt ?hmd ?hwy ?hwd ?hol ?hi ?hod) (fun u9 => ⟨?hg, ?hg2, (doneChNo _ _ _ _ _ _ _ _ _ _ _ _ _ _ _ _ _ _ _ _ _  ?s_h0 ?s_h1 ?s_g0 ?s_g1 ?s_g3 ?s_g4 ?s_hsl).more (by decide) (by decide), ?hK, ?hT2, ?hF, ?hF2⟩) ?hlim ?hv ?hm ?hn
      case hT => (try dsimp only); (refine' Take.cons ?r1 ?t1; (case r1 => ((repeat (first | exact Rem.head | apply Rem.tail)); done)); (case t1 => exact Take.nil))
      case hho => (try dsimp only); k_memK
      case hmt => (try dsimp only); k_memK
      case hmd => (try dsimp only); k_memK
      case hwy => (try dsimp only); k_memK
      case hwd => (try dsimp only); k_memK
      case hol => (try dsimp only); k_memK
      case hi => with_unfolding_all rfl
      case hod => (try dsimp only); k_memK
      case hK => (try dsimp only); k_allIn
      case hT2 => (try dsimp only); (refine' Take.cons ?r1 ?t1; (case r1 => ((repeat (first | exact Rem.head | apply Rem.tail)); done)); (case t1 => exact Take.nil))
      case hf => refine ⟨?_⟩; (try dsimp only); k_all
      case hF => repeat (first | exact fars_nil | refine fars_cons (by ((try simp only [List.cons_append, List.nil_append]); k_all)) ?_)
      case hF2 => repeat (first | exact fars_nil | refine fars_cons (by ((try simp only [List.cons_append, List.nil_append]); k_all)) ?_)
      case k0 => first | assumption | omega
      case k1 => first | assumption | omega
      case hg => decide
      case hg2 => decide
      case s_h0 => decide
      case s_h1 => decide
      case s_g0 => first | decide | omega
      case s_g1 => omega
      case s_g3 => omega
      case s_g4 => assumption
      case s_hsl => first | assumption | exact hno a ha1 (by omega)
      case hv => rintro u9 v9 made9 chg9 ⟨e9, -⟩; exact e9
      case hlim => have h9 := ways_len hW2; simp only [List.length_map, List.length_range] at h9; rw [h9]; omega
      case hm =>
        rintro u9 v9 made9 chg9 ⟨rfl, rfl, rfl⟩ A9
        (try simp only [List.cons_append, List.nil_append])
        refine ⟨?ms, ?mf, by k_memK, by k_memK, by k_memK, by k_memK⟩
        case ms => (repeat (refine List.forall_mem_cons.mpr ⟨by k_memK, ?_⟩)); exact fun p hp => by repeat (first | exact hp | refine List.mem_cons_of_mem _ ?_)
        case mf => refine ⟨?_⟩; k_all
      case hn =>
        rintro u9 v9 made9 chg9 ⟨rfl, rfl, rfl⟩ A9 j9
        refine ih M (a + 1) (k + 1 + 1) u9 x d T2 z1 z2 qv j9 o29 _ (its.push (.ref q9)) (j + 1) ents (by omega) (by omega) (by omega) (by omega) (by omega) ?hz2 (.inr ⟨_, rfl⟩) X09 hW2 ?fm hFe e5 e6 e7 e8
        case hz2 => simp only [Array.size_push]; omega
        case fm => repeat (first | exact fars_nil | refine fars_cons (by ((try simp only [List.cons_append, List.nil_append]); k_all)) ?_)
end

section
set_option maxHeartbeats 1500000
theorem run1 (w : World) (mt ol od1 od2 od3 od4 od5 od6 : Addr) (ho hd vd rl lg : Addr) (HT : HostT) (u3 : Tok) (md hs : Addr) (sub : Str) (MT : MatchT) (rf rd : Addr) (RT : RefT) (ring : Str) (c1 c2 c3 c4 c5 c6 c7 c8 c9 c10 c11 ub : Tok) (oj : Nat) (t : Nat) (k : Int) (ov : Obj) (kvs : List (Str × Value)) (its : Array Value) (j j0 : Nat) (n0 : 1 ≤ ring.length) (n1 : ring.length ≤ 6) (hsl : sub.length = 2 * ring.length) (t0 : 1 ≤ t) (t1 : t ≤ ring.length) (hno : ∀ a : Nat, 1 ≤ a → a < t → (PySem.Txt.slice sub (some (a : Int)) (some ((a : Int) + ring.length)) == ring) = false) (hyes : (PySem.Txt.slice sub (some (t : Int)) (some ((t : Int) + ring.length)) == ring) = true) (k0 : 0 ≤ k) (k1 : k < 100) (hz : its.size ≤ 20) (hes : ov.IsDictOf (PySem.strKind PySem.Challenge.rw_xm0958_01.row.prog w) kvs) (hkv : kvs = [] ∨ ∃ o, kvs = [((Str.ofString "W"), o)]) :
    Con w 474 [.ref mt, .ref ol, .int 0 ub] [(hd, hostD HT vd rl lg k u3), (vd, ov), (lg, W.listOf its j), (hs, W.listOf #[] j0)] [(ol, W.listOf (vs6 od1 od2 od3 od4 od5 od6) oj), (od1, (oMark c1)), (od2, (oLen c2 c3 1 c4)), (od3, (oWays c5 c6)), (od4, (oSet c7 rf)), (od5, (oChars c8 c9 ring c10)), (od6, (oDone c11)), (mt, instObj 526 md), (md, matchD MT sub ho hs), (ho, instObj 589 hd), (rl, W.listOf #[] 0), (rf, instObj 208 rd), (rd, refD RT)] 60 500
      (fun (v : Value) (made chg' : List (Addr × Obj)) => ∃ (rt wy wd : Addr) (T : WayT) (t1 t2 t3 t4 t5 : Tok) (pc2 k2 : Int) (mks : Value) (o2 : Obj) (its2 its3 : Array Value) (j2 j3 : Nat), v = .ref rt ∧ made = [(rt, tup [.int 0 t1, .ref wy]), (wy, instObj 449 wd), (wd, wayD T ol pc2 t2 ((t : Int) + ring.length) t3 mks)] ∧ chg' = [(hd, hostD HT vd rl lg k2 t4), (vd, o2), (lg, W.listOf its2 j2), (hs, W.listOf its3 j3)] ∧ o2.IsDictOf (PySem.strKind PySem.Challenge.rw_xm0958_01.row.prog w) [((Str.ofString "W"), .str (PySem.Txt.slice sub (some 0) (some (t : Int))) t5)]) := by
  k_with_none
  (k_with "WhlIf" => ((first | (refine WhlIf.yes (by with_unfolding_all rfl) ?_) | (refine WhlIf.no (by with_unfolding_all rfl) ?_) | (refine WhlIf.yes (by decide) ?_) | (refine WhlIf.no (by decide) ?_)); (try k_fold)))
  (k_with "setAttr ref" => (k_here; k_dflt (refine set_dict_any (by k_asm) (by k_asm) (by k_asm) (by k_inst) (by exact rfl) (by k_is) (by k_is) (by k_is) (by k_is) (by k_get) (by (intro kH kt; k_put)) (by (intro kH kt; k_upd)) (by (intro kH kt; exact Nat.le_of_ble_eq_true rfl)) ?_; k_whole); intro kwh kwH kwt kwF kwN; (try k_sweep)))
  (k_with "k_allIn" => (first | exact List.forall_mem_nil _ | (refine List.forall_mem_cons.mpr ⟨by (first | exact nth_mem 0 rfl | exact nth_mem 1 rfl | exact nth_mem 2 rfl | exact nth_mem 3 rfl | exact nth_mem 4 rfl | exact nth_mem 5 rfl | exact nth_mem 6 rfl | exact nth_mem 7 rfl | exact nth_mem 8 rfl | exact nth_mem 9 rfl | exact nth_mem 10 rfl | exact nth_mem 11 rfl | exact nth_mem 12 rfl | exact nth_mem 13 rfl | exact nth_mem 14 rfl | exact nth_mem 15 rfl | exact nth_mem 16 rfl | exact nth_mem 17 rfl | exact nth_mem 18 rfl | exact nth_mem 19 rfl | exact nth_mem 20 rfl | exact nth_mem 21 rfl | exact nth_mem 22 rfl | exact nth_mem 23 rfl | exact nth_mem 24 rfl | exact nth_mem 25 rfl | k_memK), ?_⟩; k_allIn)))
  (k_with "lcg_sub" => (first | exact List.forall_mem_nil _ | (refine List.forall_mem_cons.mpr ⟨by (first | exact nth_mem 0 rfl | exact nth_mem 1 rfl | exact nth_mem 2 rfl | exact nth_mem 3 rfl | exact nth_mem 4 rfl | exact nth_mem 5 rfl | exact nth_mem 6 rfl | exact nth_mem 7 rfl | exact nth_mem 8 rfl | exact nth_mem 9 rfl | exact nth_mem 10 rfl | exact nth_mem 11 rfl | exact nth_mem 12 rfl | exact nth_mem 13 rfl | exact nth_mem 14 rfl | exact nth_mem 15 rfl | exact nth_mem 16 rfl | exact nth_mem 17 rfl | exact nth_mem 18 rfl | exact nth_mem 19 rfl | exact nth_mem 20 rfl | exact nth_mem 21 rfl | exact nth_mem 22 rfl | exact nth_mem 23 rfl | exact nth_mem 24 rfl | exact nth_mem 25 rfl | k_mem), ?_⟩; lcg_sub)))
  (k_with "k_ne" => (refine neN ?_; (try dsimp only); first
    | exact allLt_ne (by with_reducible assumption) (by k_mem)
    | exact allLt_ne' (by with_reducible assumption) (by k_mem)
    | exact far_ne (by with_reducible assumption) (by k_mem)
    | exact far_ne' (by with_reducible assumption) (by k_mem)
    | exact allLt_ne2 (by with_reducible assumption) (by with_reducible assumption) (by k_mem)
    | exact allLt_ne2' (by with_reducible assumption) (by with_reducible assumption) (by k_mem)
    | exact Nat.ne_of_lt (by assumption)
    | exact Nat.ne_of_gt (by assumption)
    | assumption
    | (refine Ne.symm ?_; assumption)
    | exact off1_ne (by assumption) (by k_mem)
    | (refine Ne.symm ?_; exact off1_ne (by assumption) (by k_mem))
    | exact apart_ne (by assumption) (by k_mem) (by k_mem)
    | exact apart_ne' (by assumption) (by k_mem) (by k_mem)
    | omega))
  (k_with "lcg_off" => first | exact True.intro | assumption | (refine And.intro ⟨by k_ne, by k_ne, by k_ne⟩ ?_; lcg_off))
  (k_with "k_room" => ((try simp only [depth_under_make, depth_under_kw, depth_in1, depth_deeper, depth_caller]); (try dsimp only [ktrTop]); first | exact Nat.le_of_ble_eq_true rfl | exact room1 (by assumption) rfl | exact room2 (by assumption) rfl | exact room3 (by assumption) rfl | exact room4 (by assumption) rfl | omega))
  (k_with "k_units" => ((try simp only [units_in1, units_deeper, Around.mark_units, units_caller]); (try dsimp only [ktrTop]); first | exact Nat.le_of_ble_eq_true rfl | exact room1 (by assumption) rfl | exact room2 (by assumption) rfl | exact room3 (by assumption) rfl | exact room4 (by assumption) rfl | omega))
  (k_with "eval ListComp" => (k_here; k_dflt (refine LCg.ListComp_U (F₀ := by k_asm) (by with_unfolding_all rfl) (by decide) (by rfl) (by decide) (by rfl) ?_)))
  (k_with "CompRest" => (with_unfolding_all first
    | (refine LCg.CompRest.succ ?_; intro kwv kwI kwoI kwC kwoC kwD kwm kwh kwtk kwE kwhv kwhC kwhx kwF kwN kwoff kwne; (first | lcg_open kwhv | (obtain ⟨kwt9, kwhv9⟩ := kwhv; subst kwhv9)))
    | refine LCg.CompRest.zero ?_))
  (k_with "FinE" => ((unfold LCg.FinE); intro kwD kwh kwtk kwF kwN kwo1; (try simp only [List.nil_append, List.cons_append] at kwN); (try dsimp only)))
  (k_with "compareOp In str ref" => (k_here; (with_reducible show wpAny _ _ (compareOp CmpOp.In (Value.str _ _) (Value.ref _)) _ _ _); k_dflt (first
    | (refine in_topTup (b := true) (by k_asm) (by k_asm) (by k_is) (by (repeat constructor)) (by decide) ?_; k_whole)
    | (refine in_topTup (b := false) (by k_asm) (by k_asm) (by k_is) (by (repeat constructor)) (by decide) ?_; k_whole))))
  (k_with "k_enter" => ((fail_if_success k_inElt); (refine code_def (by k_asm) (by k_asm) (by k_asm) (by k_asm) (by k_asm) rfl rfl rfl (by k_is) (by k_is) (by k_room) (by (first | exact binds1 rfl | exact binds2 rfl | exact binds3 rfl | exact binds4 rfl | exact binds7 rfl)) (by exact locs rfl) ?_ rfl rfl rfl (by decide); k_whole; intro kwg kwL kwh kwFG kwF kwN kwB kwX kwT; (try dsimp only [List.reverse_cons, List.reverse_nil, List.nil_append, List.cons_append]); (try k_lift kwB); (try k_fold))))
  (k_with "compareOp Eq str str" => (k_here; refine eq_str_no (by assumption) ?_))
  (k_with "subscriptTail Name Constant ref int" => (k_here; (with_reducible show wpAny _ _ (subscriptTail _ _ (Value.ref _) (Value.int 0 _)) _ _ _); k_dflt (refine head_tup (by k_asm) (by k_mem) ?_ (by with_unfolding_all rfl); k_whole)))
  (k_with "call builtin:len" => (k_here; (with_reducible show wpAny _ _ (call (Value.builtin "len") [Value.ref _]) _ _ _); k_dflt (refine len_any (by k_asm) (by k_mem) (by (first | assumption | omega | (simp only [Array.size_push]; omega))) ?_); k_whole))
  (k_with "compareOp In str ref" => (k_here; (with_reducible show wpAny _ _ (compareOp CmpOp.In (Value.str _ _) (Value.ref _)) _ _ _); k_dflt (refine in_nil (by k_asm) (by k_mem) ?_)))
  (k_with "call ref" => (k_here; (with_reducible show wpAny _ _ (call (Value.ref 4740) [Value.ref _, Value.ref _, Value.int _ _]) _ _ _); refine hold_of ?_))
  (k_with "k_memK" => assumption)
  (k_with "k_all" => first | exact Far.all (by with_reducible assumption) | fail)
  (k_with "k_all" => first | exact young_sub (by with_reducible assumption) (by intro p hp; repeat (first | exact hp | refine List.mem_cons_of_mem _ ?_); done) | exact young_sub2 (by with_reducible assumption) (by with_reducible assumption) (by intro p hp; repeat (first | exact hp | refine List.mem_cons_of_mem _ ?_); done) | fail)
  intro hF
  dsimp only [Fars, List.cons_append, List.nil_append] at hF
  obtain ⟨hF0, hF1, hF2, hF3, -⟩ := hF
  have g4 : sub.length ≤ 12 := by omega
  have g5 : sub.length ≤ 20 := by omega
  refine Spec.sub (runG w ⟨mt, md, hs, ho, hd, vd, rl, lg, ol, HT, MT, sub, (vs6 od1 od2 od3 od4 od5 od6), oj⟩ 0 ub (2 * (t - 1) + 3 + 1 + 1 + 1) k _ _ (Nat.lt_of_succ_le (Nat.le_of_ble_eq_true rfl)) (by dsimp only [List.cons_append, List.nil_append]; k_memK) fun wy wd T y1 y2 hW => ?_)
  simp only [Fars, List.cons_append, List.nil_append] at hW
  obtain ⟨hW1, hW2, -⟩ := hW
  simp only [List.cons_append, List.nil_append]
  refine' Chain.go (Head.of (T := T) (g := (Str.ofString "mark")) (i := 0) ?hT ?hf ?k0 ?k1 ?hho ?hmt ?hmd ?hwy ?hwd ?hol ?hi ?hod) (fun u9 => ⟨?hg, ?hg2, (doneMark _ _ _ _ _ _ _ _ _ _ _ _  ?s_h0 ?s_h1).more (by decide) (by decide), ?hK, ?hT2, ?hF, ?hF2⟩) ?hv ?hn
  case hT => (try dsimp only); (refine' Take.cons ?r1 ?t1; (case r1 => ((repeat (first | exact Rem.head | apply Rem.tail)); done)); (case t1 => exact Take.nil))
  case hho => (try dsimp only); k_memK
  case hmt => (try dsimp only); k_memK
  case hmd => (try dsimp only); k_memK
  case hwy => (try dsimp only); k_memK
  case hwd => (try dsimp only); k_memK
  case hol => (try dsimp only); k_memK
  case hi => with_unfolding_all rfl
  case hod => (try dsimp only); k_memK
  case hK => (try dsimp only); k_allIn
  case hT2 => (try dsimp only); (refine' Take.cons ?r1 ?t1; (case r1 => ((repeat (first | exact Rem.head | apply Rem.tail)); done)); (case t1 => exact Take.nil))
  case hf => refine ⟨?_⟩; (try dsimp only); k_all
  case hF => repeat (first | exact fars_nil | refine fars_cons (by ((try simp only [List.cons_append, List.nil_append]); k_all)) ?_)
  case hF2 => repeat (first | exact fars_nil | refine fars_cons (by ((try simp only [List.cons_append, List.nil_append]); k_all)) ?_)
  case k0 => first | assumption | omega
  case k1 => first | assumption | omega
  case hg => decide
  case hg2 => decide
  case s_h0 => decide
  case s_h1 => decide
  case hv => rintro u9 v9 made9 chg9 ⟨mk9, t19, t29, t39, e9, -⟩; exact e9
  case hn =>
    rintro u9 v9 made9 chg9 ⟨mk9, t19, t29, t39, rfl, rfl, rfl⟩ A9
    (try dsimp only [Fars, List.cons_append, List.nil_append] at A9)
    (try simp only [List.cons_append, List.nil_append])
    obtain ⟨A09, -⟩ := A9
    refine' Chain.go (Head.of (T := T) (g := (Str.ofString "one")) (i := 1) ?hT ?hf ?k0 ?k1 ?hho ?hmt ?hmd ?hwy ?hwd ?hol ?hi ?hod) (fun u9 => ⟨?hg, ?hg2, (doneLenOk _ _ _ _ _ _ _ _ _ _ _ _ _ _ _ _ _ _ _ _ _  ?s_h0 ?s_h1 ?s_g0 ?s_g1 ?s_g2 ?s_g3 ?s_g4 ?s_hin).more (by decide) (by decide), ?hK, ?hT2, ?hF, ?hF2⟩) ?hv ?hn
    case hT => (try dsimp only); (refine' Take.cons ?r1 ?t1; (case r1 => ((repeat (first | exact Rem.head | apply Rem.tail)); done)); (case t1 => exact Take.nil))
    case hho => (try dsimp only); k_memK
    case hmt => (try dsimp only); k_memK
    case hmd => (try dsimp only); k_memK
    case hwy => (try dsimp only); k_memK
    case hwd => (try dsimp only); k_memK
    case hol => (try dsimp only); k_memK
    case hi => with_unfolding_all rfl
    case hod => (try dsimp only); k_memK
    case hK => (try dsimp only); k_allIn
    case hT2 => (try dsimp only); (refine' Take.cons ?r1 ?t1; (case r1 => ((repeat (first | exact Rem.head | apply Rem.tail)); done)); (case t1 => exact Take.nil))
    case hf => refine ⟨?_⟩; (try dsimp only); k_all
    case hF => repeat (first | exact fars_nil | refine fars_cons (by ((try simp only [List.cons_append, List.nil_append]); k_all)) ?_)
    case hF2 => repeat (first | exact fars_nil | refine fars_cons (by ((try simp only [List.cons_append, List.nil_append]); k_all)) ?_)
    case k0 => first | assumption | omega
    case k1 => first | assumption | omega
    case hg => decide
    case hg2 => decide
    case s_h0 => decide
    case s_h1 => decide
    case s_g0 => first | decide | omega
    case s_g1 => first | decide | omega
    case s_g2 => first | decide | omega
    case s_g3 => first | decide | omega
    case s_g4 => assumption
    case s_hin => omega
    case hv => rintro u9 v9 made9 chg9 ⟨t19, t29, e9, -⟩; exact e9
    case hn =>
      rintro u9 v9 made9 chg9 ⟨t19, t29, rfl, rfl, rfl⟩ A9
      (try dsimp only [Fars, List.cons_append, List.nil_append] at A9)
      (try simp only [List.cons_append, List.nil_append])
      clear A9
      refine' Chain.go (Head.of (T := T) (g := (Str.ofString "ways")) (i := 2) ?hT ?hf ?k0 ?k1 ?hho ?hmt ?hmd ?hwy ?hwd ?hol ?hi ?hod) (fun u9 => ⟨?hg, ?hg2, (doneWays _ _ _ _ _ _ _ _ _ _ _ _ _ _ _ _ _ _ _ _ (2 * ring.length - 1)  ?s_h0 ?s_h1 ?s_g0 ?s_hN ?s_hN1 ?s_g4).more (by decide) (by decide), ?hK, ?hT2, ?hF, ?hF2⟩) ?hv ?hn
      case hT => (try dsimp only); (refine' Take.cons ?r1 ?t1; (case r1 => ((repeat (first | exact Rem.head | apply Rem.tail)); done)); (case t1 => exact Take.nil))
      case hho => (try dsimp only); k_memK
      case hmt => (try dsimp only); k_memK
      case hmd => (try dsimp only); k_memK
      case hwy => (try dsimp only); k_memK
      case hwd => (try dsimp only); k_memK
      case hol => (try dsimp only); k_memK
      case hi => with_unfolding_all rfl
      case hod => (try dsimp only); k_memK
      case hK => (try dsimp only); k_allIn
      case hT2 => (try dsimp only); (refine' Take.cons ?r1 ?t1; (case r1 => ((repeat (first | exact Rem.head | apply Rem.tail)); done)); (case t1 => (refine' Take.cons ?r1 ?t1; (case r1 => ((repeat (first | exact Rem.head | apply Rem.tail)); done)); (case t1 => exact Take.nil))))
      case hf => refine ⟨?_⟩; (try dsimp only); k_all
      case hF => repeat (first | exact fars_nil | refine fars_cons (by ((try simp only [List.cons_append, List.nil_append]); k_all)) ?_)
      case hF2 => repeat (first | exact fars_nil | refine fars_cons (by ((try simp only [List.cons_append, List.nil_append]); k_all)) ?_)
      case k0 => first | assumption | omega
      case k1 => first | assumption | omega
      case hg => decide
      case hg2 => decide
      case s_h0 => decide
      case s_h1 => decide
      case s_g0 => first | decide | omega
      case s_hN => omega
      case s_hN1 => omega
      case s_g4 => assumption
      case hv => rintro u9 v9 made9 chg9 ⟨e9, -⟩; exact e9
      case hn =>
        rintro u9 v9 made9 chg9 ⟨rfl, a1, a2, qv, j2, rfl, hW9⟩ A9
        simp only [List.cons_append, List.nil_append] at A9
        have e1 : Far hs made9 := ⟨fun p hp => fars_in A9 p hp (hs, _) (by k_memK)⟩
        have e2 : Far hd made9 := ⟨fun p hp => fars_in A9 p hp (hd, _) (by k_memK)⟩
        have e3 : Far vd made9 := ⟨fun p hp => fars_in A9 p hp (vd, _) (by k_memK)⟩
        have e4 : Far lg made9 := ⟨fun p hp => fars_in A9 p hp (lg, _) (by k_memK)⟩
        have e5 : Far wy made9 := ⟨fun p hp => fars_in A9 p hp (wy, _) (by k_memK)⟩
        have e6 : Far wd made9 := ⟨fun p hp => fars_in A9 p hp (wd, _) (by k_memK)⟩
        replace hF0 := id hF0
        replace hF1 := id hF1
        replace hF2 := id hF2
        replace hF3 := id hF3
        replace hW1 := id hW1
        replace hW2 := id hW2
        refine chain_sub (run1loop w mt ol od1 od2 od3 od4 od5 od6 ho hd vd rl lg HT u3 md hs sub MT rf rd RT ring c1 c2 c3 c4 c5 c6 c7 c8 c9 c10 c11 ub oj t k ov its j j0 mk9 t39 n0 n1 hsl t0 t1 hno hyes (t - 1) (2 * ring.length - 1) 1 (k + 1 + 1 + 1) u9 wy wd T a1 a2 qv j2 ov kvs its j made9 (by omega) (by omega) (by omega) (by omega) (by omega) (by omega) hkv hes hW9 ?fm ?fe e1 e2 e3 e4) (mem_swap ?sub)
        case fm => repeat (first | exact fars_nil | refine fars_cons (by ((try simp only [List.cons_append, List.nil_append]); k_all)) ?_)
        case fe => exact fars_sub A9 (by ((try simp only [List.cons_append, List.nil_append]); lcg_sub))
        case sub => (try simp only [List.cons_append, List.nil_append]); (repeat (refine List.forall_mem_cons.mpr ⟨by k_memK, ?_⟩)); exact fun p hp => by repeat (first | exact hp | refine List.mem_cons_of_mem _ ?_)
end

section
set_option maxHeartbeats 1500000
theorem mo1 (w : World) (ol od1 od2 od3 od4 od5 od6 : Addr) (ho hd vd rl lg : Addr) (HT : HostT) (u3 : Tok) (rf rd : Addr) (RT : RefT) (sub ring : Str) (us : Tok) (c1 c2 c3 c4 c5 c6 c7 c8 c9 c10 c11 : Tok) (oj : Nat) (t : Nat) (k : Int) (ov : Obj) (kvs : List (Str × Value)) (its : Array Value) (j : Nat) (n0 : 1 ≤ ring.length) (n1 : ring.length ≤ 6) (hsl : sub.length = 2 * ring.length) (t0 : 1 ≤ t) (t1 : t ≤ ring.length) (hno : ∀ a : Nat, 1 ≤ a → a < t → (PySem.Txt.slice sub (some (a : Int)) (some ((a : Int) + ring.length)) == ring) = false) (hyes : (PySem.Txt.slice sub (some (t : Int)) (some ((t : Int) + ring.length)) == ring) = true) (k0 : 0 ≤ k) (k1 : k < 100) (hz : its.size ≤ 20) (hes : ov.IsDictOf (PySem.strKind PySem.Challenge.rw_xm0958_01.row.prog w) kvs) (hkv : kvs = [] ∨ ∃ o, kvs = [((Str.ofString "W"), o)]) :
    Con w 544 [.ref ol, .str sub us, .bool true, .ref ho] [(hd, hostD HT vd rl lg k u3), (vd, ov), (lg, W.listOf its j)] [(ol, W.listOf (vs6 od1 od2 od3 od4 od5 od6) oj), (od1, (oMark c1)), (od2, (oLen c2 c3 1 c4)), (od3, (oWays c5 c6)), (od4, (oSet c7 rf)), (od5, (oChars c8 c9 ring c10)), (od6, (oDone c11)), (ho, instObj 589 hd), (rl, W.listOf #[] 0), (rf, instObj 208 rd), (rd, refD RT)] 90 700
      (fun (v : Value) (made chg' : List (Addr × Obj)) => ∃ (res : Addr) (t1 t2 t4 t5 : Tok) (x : Value) (k2 : Int) (o2 : Obj) (its2 : Array Value) (j2 : Nat), v = .ref res ∧ made = [(res, tup [.int 0 t1, .int ((t : Int) + ring.length) t2, x])] ∧ chg' = [(hd, hostD HT vd rl lg k2 t4), (vd, o2), (lg, W.listOf its2 j2)] ∧ o2.IsDictOf (PySem.strKind PySem.Challenge.rw_xm0958_01.row.prog w) [((Str.ofString "W"), .str (PySem.Txt.slice sub (some 0) (some (t : Int))) t5)]) := by
  k_with_none
  (k_with "WhlIf" => ((first | (refine WhlIf.yes (by with_unfolding_all rfl) ?_) | (refine WhlIf.no (by with_unfolding_all rfl) ?_) | (refine WhlIf.yes (by decide) ?_) | (refine WhlIf.no (by decide) ?_)); (try k_fold)))
  (k_with "setAttr ref" => (k_here; k_dflt (refine set_dict_any (by k_asm) (by k_asm) (by k_asm) (by k_inst) (by exact rfl) (by k_is) (by k_is) (by k_is) (by k_is) (by k_get) (by (intro kH kt; k_put)) (by (intro kH kt; k_upd)) (by (intro kH kt; exact Nat.le_of_ble_eq_true rfl)) ?_; k_whole); intro kwh kwH kwt kwF kwN; (try k_sweep)))
  (k_with "k_allIn" => (first | exact List.forall_mem_nil _ | (refine List.forall_mem_cons.mpr ⟨by (first | exact nth_mem 0 rfl | exact nth_mem 1 rfl | exact nth_mem 2 rfl | exact nth_mem 3 rfl | exact nth_mem 4 rfl | exact nth_mem 5 rfl | exact nth_mem 6 rfl | exact nth_mem 7 rfl | exact nth_mem 8 rfl | exact nth_mem 9 rfl | exact nth_mem 10 rfl | exact nth_mem 11 rfl | exact nth_mem 12 rfl | exact nth_mem 13 rfl | exact nth_mem 14 rfl | exact nth_mem 15 rfl | exact nth_mem 16 rfl | exact nth_mem 17 rfl | exact nth_mem 18 rfl | exact nth_mem 19 rfl | exact nth_mem 20 rfl | exact nth_mem 21 rfl | exact nth_mem 22 rfl | exact nth_mem 23 rfl | exact nth_mem 24 rfl | exact nth_mem 25 rfl | k_memK), ?_⟩; k_allIn)))
  (k_with "lcg_sub" => (first | exact List.forall_mem_nil _ | (refine List.forall_mem_cons.mpr ⟨by (first | exact nth_mem 0 rfl | exact nth_mem 1 rfl | exact nth_mem 2 rfl | exact nth_mem 3 rfl | exact nth_mem 4 rfl | exact nth_mem 5 rfl | exact nth_mem 6 rfl | exact nth_mem 7 rfl | exact nth_mem 8 rfl | exact nth_mem 9 rfl | exact nth_mem 10 rfl | exact nth_mem 11 rfl | exact nth_mem 12 rfl | exact nth_mem 13 rfl | exact nth_mem 14 rfl | exact nth_mem 15 rfl | exact nth_mem 16 rfl | exact nth_mem 17 rfl | exact nth_mem 18 rfl | exact nth_mem 19 rfl | exact nth_mem 20 rfl | exact nth_mem 21 rfl | exact nth_mem 22 rfl | exact nth_mem 23 rfl | exact nth_mem 24 rfl | exact nth_mem 25 rfl | k_mem), ?_⟩; lcg_sub)))
  (k_with "k_ne" => (refine neN ?_; (try dsimp only); first
    | exact allLt_ne (by with_reducible assumption) (by k_mem)
    | exact allLt_ne' (by with_reducible assumption) (by k_mem)
    | exact far_ne (by with_reducible assumption) (by k_mem)
    | exact far_ne' (by with_reducible assumption) (by k_mem)
    | exact allLt_ne2 (by with_reducible assumption) (by with_reducible assumption) (by k_mem)
    | exact allLt_ne2' (by with_reducible assumption) (by with_reducible assumption) (by k_mem)
    | exact Nat.ne_of_lt (by assumption)
    | exact Nat.ne_of_gt (by assumption)
    | assumption
    | (refine Ne.symm ?_; assumption)
    | exact off1_ne (by assumption) (by k_mem)
    | (refine Ne.symm ?_; exact off1_ne (by assumption) (by k_mem))
    | exact apart_ne (by assumption) (by k_mem) (by k_mem)
    | exact apart_ne' (by assumption) (by k_mem) (by k_mem)
    | omega))
  (k_with "lcg_off" => first | exact True.intro | assumption | (refine And.intro ⟨by k_ne, by k_ne, by k_ne⟩ ?_; lcg_off))
  (k_with "k_room" => ((try simp only [depth_under_make, depth_under_kw, depth_in1, depth_deeper, depth_caller]); (try dsimp only [ktrTop]); first | exact Nat.le_of_ble_eq_true rfl | exact room1 (by assumption) rfl | exact room2 (by assumption) rfl | exact room3 (by assumption) rfl | exact room4 (by assumption) rfl | omega))
  (k_with "k_units" => ((try simp only [units_in1, units_deeper, Around.mark_units, units_caller]); (try dsimp only [ktrTop]); first | exact Nat.le_of_ble_eq_true rfl | exact room1 (by assumption) rfl | exact room2 (by assumption) rfl | exact room3 (by assumption) rfl | exact room4 (by assumption) rfl | omega))
  (k_with "eval ListComp" => (k_here; k_dflt (refine LCg.ListComp_U (F₀ := by k_asm) (by with_unfolding_all rfl) (by decide) (by rfl) (by decide) (by rfl) ?_)))
  (k_with "CompRest" => (with_unfolding_all first
    | (refine LCg.CompRest.succ ?_; intro kwv kwI kwoI kwC kwoC kwD kwm kwh kwtk kwE kwhv kwhC kwhx kwF kwN kwoff kwne; (first | lcg_open kwhv | (obtain ⟨kwt9, kwhv9⟩ := kwhv; subst kwhv9)))
    | refine LCg.CompRest.zero ?_))
  (k_with "FinE" => ((unfold LCg.FinE); intro kwD kwh kwtk kwF kwN kwo1; (try simp only [List.nil_append, List.cons_append] at kwN); (try dsimp only)))
  (k_with "compareOp In str ref" => (k_here; (with_reducible show wpAny _ _ (compareOp CmpOp.In (Value.str _ _) (Value.ref _)) _ _ _); k_dflt (first
    | (refine in_topTup (b := true) (by k_asm) (by k_asm) (by k_is) (by (repeat constructor)) (by decide) ?_; k_whole)
    | (refine in_topTup (b := false) (by k_asm) (by k_asm) (by k_is) (by (repeat constructor)) (by decide) ?_; k_whole))))
  (k_with "k_enter" => ((fail_if_success k_inElt); (refine code_def (by k_asm) (by k_asm) (by k_asm) (by k_asm) (by k_asm) rfl rfl rfl (by k_is) (by k_is) (by k_room) (by (first | exact binds1 rfl | exact binds2 rfl | exact binds3 rfl | exact binds4 rfl | exact binds7 rfl)) (by exact locs rfl) ?_ rfl rfl rfl (by decide); k_whole; intro kwg kwL kwh kwFG kwF kwN kwB kwX kwT; (try dsimp only [List.reverse_cons, List.reverse_nil, List.nil_append, List.cons_append]); (try k_lift kwB); (try k_fold))))
  (k_with "compareOp Eq str str" => (k_here; refine eq_str_no (by assumption) ?_))
  (k_with "subscriptTail Name Constant ref int" => (k_here; (with_reducible show wpAny _ _ (subscriptTail _ _ (Value.ref _) (Value.int 0 _)) _ _ _); k_dflt (refine head_tup (by k_asm) (by k_mem) ?_ (by with_unfolding_all rfl); k_whole)))
  (k_with "call builtin:len" => (k_here; (with_reducible show wpAny _ _ (call (Value.builtin "len") [Value.ref _]) _ _ _); k_dflt (refine len_any (by k_asm) (by k_mem) (by (first | assumption | omega | (simp only [Array.size_push]; omega))) ?_); k_whole))
  (k_with "compareOp In str ref" => (k_here; (with_reducible show wpAny _ _ (compareOp CmpOp.In (Value.str _ _) (Value.ref _)) _ _ _); k_dflt (refine in_nil (by k_asm) (by k_mem) ?_)))
  (k_with "call ref" => (k_here; (with_reducible show wpAny _ _ (call (Value.ref 474) [Value.ref _, Value.ref _, Value.int _ _]) _ _ _); refine hold_of ?_))
  (k_with "k_mem" => first | exact List.Mem.head _ | (refine List.Mem.tail _ ?_; k_mem) | (refine mem_id ?_; with_reducible assumption) | (refine List.mem_append_left _ ?_; with_reducible assumption) | fail)
  (k_with "k_memK" => first | exact List.Mem.head _ | (refine List.Mem.tail _ ?_; k_memK) | (refine mem_id ?_; with_reducible assumption) | (refine List.mem_append_left _ ?_; with_reducible assumption) | fail)
  (k_with "k_all" => first | exact List.forall_mem_nil _ | exact Far.all (by with_reducible assumption) | exact far_part (by with_reducible assumption) (by intro p hp; (repeat (first | exact hp | refine List.mem_cons_of_mem _ ?_)); (first | done | fail)) | exact young_sub (by with_reducible assumption) (by intro p hp; (repeat (first | exact hp | refine List.mem_cons_of_mem _ ?_)); (first | done | fail)) | exact young_sub2 (by with_reducible assumption) (by with_reducible assumption) (by intro p hp; (repeat (first | exact hp | refine List.mem_cons_of_mem _ ?_)); (first | done | fail)) | (refine List.forall_mem_cons.mpr ⟨by k_ne, ?_⟩; k_all))
  (k_with "k_allIn" => (first | exact List.forall_mem_nil _ | (refine List.forall_mem_cons.mpr ⟨by k_memK, ?_⟩; k_allIn)))
  (k_with "lcg_sub" => (first | exact List.forall_mem_nil _ | (refine List.forall_mem_cons.mpr ⟨by k_mem, ?_⟩; lcg_sub) | (intro p hp; (repeat (first | exact hp | refine List.mem_cons_of_mem _ ?_)); (first | done | fail))))
  intro hF
  unfold Spec
  k_fill
  intro dp un gd cn cs a ccd cl outer A₀ base h₀ L m s Q E mean mg mb rest B F X N dis T hk hdp hun hret
  dsimp only [Fars, List.cons_append, List.nil_append] at hF
  obtain ⟨hF0, hF1, hF2, -⟩ := hF
  try simp only [List.cons_append, List.nil_append] at N dis hret
  refine' enterR B F X N dis T hk ?room ?ho ?hcd ?bind ?loc ?_ ?hcell ?hco ?hgen ?hkk
  case room => first | exact room0 (by assumption) | omega
  case ho => k_dflt k_is
  case hcd => k_dflt k_is
  case bind => exact binds4 rfl
  case loc => exact locs rfl
  case hcell => decide
  case hco => exact rfl
  case hgen => exact rfl
  case hkk => exact rfl
  intro g L' h₁ F' N' B' X' T'
  clear B F X N T dis
  k_fold
  obtain ⟨nx, hnx⟩ : ∃ nx : Led, nx = [(ol, W.listOf (vs6 od1 od2 od3 od4 od5 od6) oj), (od1, (oMark c1)), (od2, (oLen c2 c3 1 c4)), (od3, (oWays c5 c6)), (od4, (oSet c7 rf)), (od5, (oChars c8 c9 ring c10)), (od6, (oDone c11)), (ho, instObj 589 hd), (rl, W.listOf #[] 0), (rf, instObj 208 rd), (rd, refD RT)] := ⟨_, rfl⟩
  rw [← hnx] at hF0 hF1 hF2 N'
  have hall : ∀ p ∈ [(ol, W.listOf (vs6 od1 od2 od3 od4 od5 od6) oj), (od1, (oMark c1)), (od2, (oLen c2 c3 1 c4)), (od3, (oWays c5 c6)), (od4, (oSet c7 rf)), (od5, (oChars c8 c9 ring c10)), (od6, (oDone c11)), (ho, instObj 589 hd), (rl, W.listOf #[] 0), (rf, instObj 208 rd), (rd, refD RT)], p ∈ nx := fun p hp => hnx ▸ hp
  (repeat (have m9 := (List.forall_mem_cons.mp hall).1; replace hall := (List.forall_mem_cons.mp hall).2))
  clear hall
  have g5 : sub.length ≤ 12 := by omega
  try k_fold
  k_steps
  unfold Hold
  rename Fr _ _ _ _ => lF
  rename News _ _ _ _ => lN
  (try dsimp only at lN)
  generalize PyData.keyHash w.params (Str.ofString "subject") = H0 at lN
  generalize PyData.keyHash w.params (Str.ofString "host") = H1 at lN
  generalize PyData.keyHash w.params (Str.ofString "history") = H2 at lN
  refine' Con.use (run1 _ _ ol od1 od2 od3 od4 od5 od6 ho hd vd rl lg HT _ _ _ sub ⟨_, _, _, _, _, _, _⟩ rf rd RT ring c1 c2 c3 c4 c5 c6 c7 c8 c9 c10 c11 _ oj t k ov kvs its j _ ?s_n0 ?s_n1 ?s_hsl ?s_t0 ?s_t1 ?s_hno ?s_hyes ?s_k0 ?s_k1 ?s_hz ?s_hes ?s_hkv) ?B lF ?X lN ?T ?kk ?hK ?hT ?hF ?hF2 ?room ?un ?_
  case B => k_asm
  case X => k_asm
  case T => k_asm
  case kk => exact rfl
  case hK => k_allIn
  case hT => (refine' Take.cons ?r1 ?t1; (case r1 => ((repeat (first | exact Rem.head | apply Rem.tail)); done)); (case t1 => (refine' Take.cons ?r1 ?t1; (case r1 => ((repeat (first | exact Rem.head | apply Rem.tail)); done)); (case t1 => (refine' Take.cons ?r1 ?t1; (case r1 => ((repeat (first | exact Rem.head | apply Rem.tail)); done)); (case t1 => (refine' Take.cons ?r1 ?t1; (case r1 => ((repeat (first | exact Rem.head | apply Rem.tail)); done)); (case t1 => exact Take.nil))))))))
  case hF2 => repeat (first | exact fars_nil | refine fars_cons (by ((try simp only [List.cons_append, List.nil_append]); k_all)) ?_)
  case hF => repeat (first | exact fars_nil | refine fars_cons (by ((try simp only [List.cons_append, List.nil_append]); k_all)) ?_)
  case room => k_room
  case un => k_units
  case s_n0 => first | assumption | omega
  case s_n1 => first | assumption | omega
  case s_hsl => first | assumption | omega
  case s_t0 => first | assumption | omega
  case s_t1 => first | assumption | omega
  case s_hno => first | assumption | omega
  case s_hyes => first | assumption | omega
  case s_k0 => first | assumption | omega
  case s_k1 => first | assumption | omega
  case s_hz => first | assumption | omega
  case s_hes => first | assumption | omega
  case s_hkv => assumption
  rintro v9 made9 chg9 h9 tk9 ⟨rt9, wy9, wd9, T9, a1, a2, a3, a4, a5, pc9, k9, mk9, o9, i2, i3, j2, j3, rfl, rfl, rfl, x9⟩ F9 N9 A9
  simp only [List.cons_append, List.nil_append] at N9
  dsimp only [Fars, List.cons_append, List.nil_append] at A9
  obtain ⟨A1, A2, A3, -⟩ := A9
  clear lN lF
  try k_fold
  k_steps
  try dsimp only
  refine leaveR (by assumption) (by assumption) fun kF kN kA => ?_
  refine' hret _ _ _ _ ⟨_, _, rfl, ?fars, ?mp, ?e_res, ?e_t1, ?e_t2, ?e_t4, ?e_t5, ?e_x, ?e_k2, ?e_o2, ?e_its2, ?e_j2, rfl, rfl, rfl, ?x0⟩ kF (news_sub2 kN ?sub) (apart_sub kA ?sub)
  case sub => (try simp only [List.cons_append, List.nil_append]); lcg_sub
  case mp => exact rfl
  case fars => repeat (first | exact fars_nil | refine fars_cons (by ((try simp only [List.cons_append, List.nil_append]); k_all)) ?_)
  case x0 => assumption
end

section
set_option maxHeartbeats 1500000
theorem mc1 (w : World) (d0 d1 d2 d3 d4 d5 : Addr) (ho hd vd rl lg : Addr) (HT : HostT) (u3 : Tok) (rf rd : Addr) (RT : RefT) (sub ring : Str) (us : Tok) (s1 s2 s3 s4 s5 s6 s7 sr : Tok) (t : Nat) (k : Int) (ov : Obj) (kvs : List (Str × Value)) (its : Array Value) (j : Nat) (n0 : 1 ≤ ring.length) (n1 : ring.length ≤ 6) (hsl : sub.length = 2 * ring.length) (t0 : 1 ≤ t) (t1 : t ≤ ring.length) (hno : ∀ a : Nat, 1 ≤ a → a < t → (PySem.Txt.slice sub (some (a : Int)) (some ((a : Int) + ring.length)) == ring) = false) (hyes : (PySem.Txt.slice sub (some (t : Int)) (some ((t : Int) + ring.length)) == ring) = true) (k0 : 0 ≤ k) (k1 : k < 100) (hz : its.size ≤ 20) (hes : ov.IsDictOf (PySem.strKind PySem.Challenge.rw_xm0958_01.row.prog w) kvs) (hkv : kvs = [] ∨ ∃ o, kvs = [((Str.ofString "W"), o)]) :
    Con w 551 [.ref d0, .str sub us, .bool true, .ref ho] [(hd, hostD HT vd rl lg k u3), (vd, ov), (lg, W.listOf its j)] [(d0, (nCat s1 d1 d2)), (d1, (nNow s2 d3 rf)), (d2, (nChars s3 ring sr)), (d3, (nCat s4 d4 d5)), (d4, (nLen s5 1 s6)), (d5, (nArb s7)), (ho, instObj 589 hd), (rl, W.listOf #[] 0), (rf, instObj 208 rd), (rd, refD RT)] 120 1000
      (fun (v : Value) (made chg' : List (Addr × Obj)) => ∃ (res : Addr) (t1 t2 t4 t5 : Tok) (x : Value) (k2 : Int) (o2 : Obj) (its2 : Array Value) (j2 : Nat), v = .ref res ∧ made = [(res, tup [.int 0 t1, .int ((t : Int) + ring.length) t2, x])] ∧ chg' = [(hd, hostD HT vd rl lg k2 t4), (vd, o2), (lg, W.listOf its2 j2)] ∧ o2.IsDictOf (PySem.strKind PySem.Challenge.rw_xm0958_01.row.prog w) [((Str.ofString "W"), .str (PySem.Txt.slice sub (some 0) (some (t : Int))) t5)]) := by
  k_with_none
  (k_with "WhlIf" => ((first | (refine WhlIf.yes (by with_unfolding_all rfl) ?_) | (refine WhlIf.no (by with_unfolding_all rfl) ?_) | (refine WhlIf.yes (by decide) ?_) | (refine WhlIf.no (by decide) ?_)); (try k_fold)))
  (k_with "setAttr ref" => (k_here; k_dflt (refine set_dict_any (by k_asm) (by k_asm) (by k_asm) (by k_inst) (by exact rfl) (by k_is) (by k_is) (by k_is) (by k_is) (by k_get) (by (intro kH kt; k_put)) (by (intro kH kt; k_upd)) (by (intro kH kt; exact Nat.le_of_ble_eq_true rfl)) ?_; k_whole); intro kwh kwH kwt kwF kwN; (try k_sweep)))
  (k_with "k_allIn" => (first | exact List.forall_mem_nil _ | (refine List.forall_mem_cons.mpr ⟨by (first | exact nth_mem 0 rfl | exact nth_mem 1 rfl | exact nth_mem 2 rfl | exact nth_mem 3 rfl | exact nth_mem 4 rfl | exact nth_mem 5 rfl | exact nth_mem 6 rfl | exact nth_mem 7 rfl | exact nth_mem 8 rfl | exact nth_mem 9 rfl | exact nth_mem 10 rfl | exact nth_mem 11 rfl | exact nth_mem 12 rfl | exact nth_mem 13 rfl | exact nth_mem 14 rfl | exact nth_mem 15 rfl | exact nth_mem 16 rfl | exact nth_mem 17 rfl | exact nth_mem 18 rfl | exact nth_mem 19 rfl | exact nth_mem 20 rfl | exact nth_mem 21 rfl | exact nth_mem 22 rfl | exact nth_mem 23 rfl | exact nth_mem 24 rfl | exact nth_mem 25 rfl | k_memK), ?_⟩; k_allIn)))
  (k_with "lcg_sub" => (first | exact List.forall_mem_nil _ | (refine List.forall_mem_cons.mpr ⟨by (first | exact nth_mem 0 rfl | exact nth_mem 1 rfl | exact nth_mem 2 rfl | exact nth_mem 3 rfl | exact nth_mem 4 rfl | exact nth_mem 5 rfl | exact nth_mem 6 rfl | exact nth_mem 7 rfl | exact nth_mem 8 rfl | exact nth_mem 9 rfl | exact nth_mem 10 rfl | exact nth_mem 11 rfl | exact nth_mem 12 rfl | exact nth_mem 13 rfl | exact nth_mem 14 rfl | exact nth_mem 15 rfl | exact nth_mem 16 rfl | exact nth_mem 17 rfl | exact nth_mem 18 rfl | exact nth_mem 19 rfl | exact nth_mem 20 rfl | exact nth_mem 21 rfl | exact nth_mem 22 rfl | exact nth_mem 23 rfl | exact nth_mem 24 rfl | exact nth_mem 25 rfl | k_mem), ?_⟩; lcg_sub)))
  (k_with "k_ne" => (refine neN ?_; (try dsimp only); first
    | exact allLt_ne (by with_reducible assumption) (by k_mem)
    | exact allLt_ne' (by with_reducible assumption) (by k_mem)
    | exact far_ne (by with_reducible assumption) (by k_mem)
    | exact far_ne' (by with_reducible assumption) (by k_mem)
    | exact allLt_ne2 (by with_reducible assumption) (by with_reducible assumption) (by k_mem)
    | exact allLt_ne2' (by with_reducible assumption) (by with_reducible assumption) (by k_mem)
    | exact Nat.ne_of_lt (by assumption)
    | exact Nat.ne_of_gt (by assumption)
    | assumption
    | (refine Ne.symm ?_; assumption)
    | exact off1_ne (by assumption) (by k_mem)
    | (refine Ne.symm ?_; exact off1_ne (by assumption) (by k_mem))
    | exact apart_ne (by assumption) (by k_mem) (by k_mem)
    | exact apart_ne' (by assumption) (by k_mem) (by k_mem)
    | omega))
  (k_with "lcg_off" => first | exact True.intro | assumption | (refine And.intro ⟨by k_ne, by k_ne, by k_ne⟩ ?_; lcg_off))
  (k_with "k_room" => ((try simp only [depth_under_make, depth_under_kw, depth_in1, depth_deeper, depth_caller]); (try dsimp only [ktrTop]); first | exact Nat.le_of_ble_eq_true rfl | exact room1 (by assumption) rfl | exact room2 (by assumption) rfl | exact room3 (by assumption) rfl | exact room4 (by assumption) rfl | omega))
  (k_with "k_units" => ((try simp only [units_in1, units_deeper, Around.mark_units, units_caller]); (try dsimp only [ktrTop]); first | exact Nat.le_of_ble_eq_true rfl | exact room1 (by assumption) rfl | exact room2 (by assumption) rfl | exact room3 (by assumption) rfl | exact room4 (by assumption) rfl | omega))
  (k_with "eval ListComp" => (k_here; k_dflt (refine LCg.ListComp_U (F₀ := by k_asm) (by with_unfolding_all rfl) (by decide) (by rfl) (by decide) (by rfl) ?_)))
  (k_with "CompRest" => (with_unfolding_all first
    | (refine LCg.CompRest.succ ?_; intro kwv kwI kwoI kwC kwoC kwD kwm kwh kwtk kwE kwhv kwhC kwhx kwF kwN kwoff kwne; (first | lcg_open kwhv | (obtain ⟨kwt9, kwhv9⟩ := kwhv; subst kwhv9)))
    | refine LCg.CompRest.zero ?_))
  (k_with "FinE" => ((unfold LCg.FinE); intro kwD kwh kwtk kwF kwN kwo1; (try simp only [List.nil_append, List.cons_append] at kwN); (try dsimp only)))
  (k_with "compareOp In str ref" => (k_here; (with_reducible show wpAny _ _ (compareOp CmpOp.In (Value.str _ _) (Value.ref _)) _ _ _); k_dflt (first
    | (refine in_topTup (b := true) (by k_asm) (by k_asm) (by k_is) (by (repeat constructor)) (by decide) ?_; k_whole)
    | (refine in_topTup (b := false) (by k_asm) (by k_asm) (by k_is) (by (repeat constructor)) (by decide) ?_; k_whole))))
  (k_with "k_enter" => ((fail_if_success k_inElt); (refine code_def (by k_asm) (by k_asm) (by k_asm) (by k_asm) (by k_asm) rfl rfl rfl (by k_is) (by k_is) (by k_room) (by (first | exact binds1 rfl | exact binds2 rfl | exact binds3 rfl | exact binds4 rfl | exact binds7 rfl)) (by exact locs rfl) ?_ rfl rfl rfl (by decide); k_whole; intro kwg kwL kwh kwFG kwF kwN kwB kwX kwT; (try dsimp only [List.reverse_cons, List.reverse_nil, List.nil_append, List.cons_append]); (try k_lift kwB); (try k_fold))))
  (k_with "compareOp Eq str str" => (k_here; refine eq_str_no (by assumption) ?_))
  (k_with "subscriptTail Name Constant ref int" => (k_here; (with_reducible show wpAny _ _ (subscriptTail _ _ (Value.ref _) (Value.int 0 _)) _ _ _); k_dflt (refine head_tup (by k_asm) (by k_mem) ?_ (by with_unfolding_all rfl); k_whole)))
  (k_with "call builtin:len" => (k_here; (with_reducible show wpAny _ _ (call (Value.builtin "len") [Value.ref _]) _ _ _); k_dflt (refine len_any (by k_asm) (by k_mem) (by (first | assumption | omega | (simp only [Array.size_push]; omega))) ?_); k_whole))
  (k_with "compareOp In str ref" => (k_here; (with_reducible show wpAny _ _ (compareOp CmpOp.In (Value.str _ _) (Value.ref _)) _ _ _); k_dflt (refine in_nil (by k_asm) (by k_mem) ?_)))
  (k_with "call ref" => (k_here; (with_reducible show wpAny _ _ (call (Value.ref 112) [Value.ref _]) _ _ _); k_dflt (refine Con.use2 (by k_asm) (by k_asm) (by k_allIn) (by ((repeat (first | exact Take.nil | (apply Take.cons; focus ((repeat (first | exact Rem.head | apply Rem.tail)); done)))); done)) (by ((repeat (first | exact fars_nil | refine fars_cons (by ((try simp only [List.cons_append, List.nil_append]); k_all)) ?_)); done)) (by ((repeat (first | exact fars_nil | refine fars_cons (by ((try simp only [List.cons_append, List.nil_append]); k_all)) ?_)); done)) (by k_asm) (by k_asm) (by k_asm) rfl (by k_room) (by k_units) (compile1 _ _ _ _ _ _ _ _ _ _ _ _ _ _ _ _ _  (by (assumption))) ?_); rintro v9 made9 chg9 h9 tk9 ⟨l9, o19, o29, o39, o49, o59, o69, k9, c19, c29, c39, c49, c59, c69, c79, c89, c99, c109, c119, e9, f9, g9⟩ F9 N9 A9; subst e9; subst f9; subst g9; (try simp only [List.cons_append, List.nil_append] at N9); (try dsimp only [Fars, List.cons_append, List.nil_append] at A9); obtain ⟨A09, A19, A29, A39, A49, A59, A69, -⟩ := A9; (try dsimp only); (try k_sweep)))
  (k_with "call ref" => (k_here; (with_reducible show wpAny _ _ (call (Value.ref 544) [_, _, _, _]) _ _ _); refine hold_of ?_))
  (k_with "k_mem" => first | exact List.Mem.head _ | (refine List.Mem.tail _ ?_; k_mem) | (refine mem_id ?_; with_reducible assumption) | (refine List.mem_append_left _ ?_; with_reducible assumption) | fail)
  (k_with "k_memK" => first | exact List.Mem.head _ | (refine List.Mem.tail _ ?_; k_memK) | (refine mem_id ?_; with_reducible assumption) | (refine List.mem_append_left _ ?_; with_reducible assumption) | fail)
  (k_with "k_all" => first | exact List.forall_mem_nil _ | exact Far.all (by with_reducible assumption) | exact far_part (by with_reducible assumption) (by intro p hp; (repeat (first | exact hp | refine List.mem_cons_of_mem _ ?_)); (first | done | fail)) | exact young_sub (by with_reducible assumption) (by intro p hp; (repeat (first | exact hp | refine List.mem_cons_of_mem _ ?_)); (first | done | fail)) | exact young_sub2 (by with_reducible assumption) (by with_reducible assumption) (by intro p hp; (repeat (first | exact hp | refine List.mem_cons_of_mem _ ?_)); (first | done | fail)) | (refine List.forall_mem_cons.mpr ⟨by k_ne, ?_⟩; k_all))
  (k_with "k_allIn" => (first | exact List.forall_mem_nil _ | (refine List.forall_mem_cons.mpr ⟨by k_memK, ?_⟩; k_allIn)))
  (k_with "lcg_sub" => (first | exact List.forall_mem_nil _ | (refine List.forall_mem_cons.mpr ⟨by k_mem, ?_⟩; lcg_sub) | (intro p hp; (repeat (first | exact hp | refine List.mem_cons_of_mem _ ?_)); (first | done | fail))))
  intro hF
  unfold Spec
  k_fill
  intro dp un gd cn cs a ccd cl outer A₀ base h₀ L m s Q E mean mg mb rest B F X N dis T hk hdp hun hret
  dsimp only [Fars, List.cons_append, List.nil_append] at hF
  obtain ⟨hF0, hF1, hF2, -⟩ := hF
  try simp only [List.cons_append, List.nil_append] at N dis hret
  refine' enterR B F X N dis T hk ?room ?ho ?hcd ?bind ?loc ?_ ?hcell ?hco ?hgen ?hkk
  case room => first | exact room0 (by assumption) | omega
  case ho => k_dflt k_is
  case hcd => k_dflt k_is
  case bind => exact binds4 rfl
  case loc => exact locs rfl
  case hcell => decide
  case hco => exact rfl
  case hgen => exact rfl
  case hkk => exact rfl
  intro g L' h₁ F' N' B' X' T'
  clear B F X N T dis
  k_fold
  obtain ⟨nx, hnx⟩ : ∃ nx : Led, nx = [(d0, (nCat s1 d1 d2)), (d1, (nNow s2 d3 rf)), (d2, (nChars s3 ring sr)), (d3, (nCat s4 d4 d5)), (d4, (nLen s5 1 s6)), (d5, (nArb s7)), (ho, instObj 589 hd), (rl, W.listOf #[] 0), (rf, instObj 208 rd), (rd, refD RT)] := ⟨_, rfl⟩
  rw [← hnx] at hF0 hF1 hF2 N'
  have hall : ∀ p ∈ [(d0, (nCat s1 d1 d2)), (d1, (nNow s2 d3 rf)), (d2, (nChars s3 ring sr)), (d3, (nCat s4 d4 d5)), (d4, (nLen s5 1 s6)), (d5, (nArb s7)), (ho, instObj 589 hd), (rl, W.listOf #[] 0), (rf, instObj 208 rd), (rd, refD RT)], p ∈ nx := fun p hp => hnx ▸ hp
  (repeat (have m9 := (List.forall_mem_cons.mp hall).1; replace hall := (List.forall_mem_cons.mp hall).2))
  clear hall
  have hring : ring ≠ Str.ofString "" := by
    intro e
    rw [e] at n0
    exact absurd n0 (by decide)
  try k_fold
  k_steps
  unfold Hold
  rename Fr _ _ _ _ => lF
  rename News _ _ _ _ => lN
  refine' Con.use (mo1 _ _ _ _ _ _ _ _ ho hd vd rl lg HT _ rf rd RT sub ring _ _ _ _ _ _ _ _ _ _ _ _ _ t k ov kvs its j ?s_n0 ?s_n1 ?s_hsl ?s_t0 ?s_t1 ?s_hno ?s_hyes ?s_k0 ?s_k1 ?s_hz ?s_hes ?s_hkv) ?B lF ?X lN ?T ?kk ?hK ?hT ?hF ?hF2 ?room ?un ?_
  case B => k_asm
  case X => k_asm
  case T => k_asm
  case kk => exact rfl
  case hK => k_allIn
  case hT => (refine' Take.cons ?r1 ?t1; (case r1 => ((repeat (first | exact Rem.head | apply Rem.tail)); done)); (case t1 => (refine' Take.cons ?r1 ?t1; (case r1 => ((repeat (first | exact Rem.head | apply Rem.tail)); done)); (case t1 => (refine' Take.cons ?r1 ?t1; (case r1 => ((repeat (first | exact Rem.head | apply Rem.tail)); done)); (case t1 => exact Take.nil))))))
  case hF2 => repeat (first | exact fars_nil | refine fars_cons (by ((try simp only [List.cons_append, List.nil_append]); k_all)) ?_)
  case hF => repeat (first | exact fars_nil | refine fars_cons (by ((try simp only [List.cons_append, List.nil_append]); k_all)) ?_)
  case room => k_room
  case un => k_units
  case s_n0 => first | assumption | omega
  case s_n1 => first | assumption | omega
  case s_hsl => first | assumption | omega
  case s_t0 => first | assumption | omega
  case s_t1 => first | assumption | omega
  case s_hno => first | assumption | omega
  case s_hyes => first | assumption | omega
  case s_k0 => first | assumption | omega
  case s_k1 => first | assumption | omega
  case s_hz => first | assumption | omega
  case s_hes => first | assumption | omega
  case s_hkv => assumption
  rintro v9 made9 chg9 h9 tk9 ⟨r9, a1, a2, a4, a5, x9, k9, o9, i9, j9, rfl, rfl, rfl, X9⟩ F9 N9 A9
  simp only [List.cons_append, List.nil_append] at N9
  dsimp only [Fars, List.cons_append, List.nil_append] at A9
  obtain ⟨A1, -⟩ := A9
  clear lN lF
  try k_fold
  k_steps
  try dsimp only
  refine leaveR (by assumption) (by assumption) fun kF kN kA => ?_
  refine' hret _ _ _ _ ⟨_, _, rfl, ?fars, ?mp, ?e_res, ?e_t1, ?e_t2, ?e_t4, ?e_t5, ?e_x, ?e_k2, ?e_o2, ?e_its2, ?e_j2, rfl, rfl, rfl, ?x0⟩ kF (news_sub2 kN ?sub) (apart_sub kA ?sub)
  case sub => (try simp only [List.cons_append, List.nil_append]); lcg_sub
  case mp => exact rfl
  case fars => repeat (first | exact fars_nil | refine fars_cons (by ((try simp only [List.cons_append, List.nil_append]); k_all)) ?_)
  case x0 => assumption
end

section
set_option maxHeartbeats 1600000
/-- one more text -/
noncomputable def put1 (a : List Str) (x : Str) : List Str := if a.any (· == x) then a else a ++ [x]
/-- the unlike ones of a list of texts -/
noncomputable def unlike (l : List Str) : List Str := l.foldl put1 []
theorem put1_any (a : List Str) (x k : Str) : (put1 a x).any (· == k) = (a.any (· == k) || decide (k = x)) := by
  unfold put1
  by_cases h : a.any (· == x) = true
  · rw [if_pos h]
    by_cases e : k = x
    · rw [e, h]; rfl
    · rw [decide_eq_false e, Bool.or_false]
  · rw [if_neg h, List.any_append]
    congr 1
    by_cases e : k = x
    · simp [e]
    · simp [e, Ne.symm e]
theorem put1_len (a : List Str) (x : Str) : (put1 a x).length = if a.any (· == x) then a.length else a.length + 1 := by
  unfold put1
  by_cases h : a.any (· == x) = true
  · rw [if_pos h, if_pos h]
  · rw [if_neg h, if_neg h, List.length_append]; rfl
theorem unlike_snoc (l : List Str) (x : Str) : unlike (l ++ [x]) = put1 (unlike l) x := by
  unfold unlike; rw [List.foldl_append]; rfl
theorem unlike_le : ∀ (n : Nat) (l : List Str), (unlike (l.take n)).length ≤ n
  | 0, l => by simp [unlike]
  | n + 1, l => by
    have ih := unlike_le n l
    rcases h : l[n]? with _ | x
    · have : l.take (n + 1) = l.take n := by rw [List.take_add_one, h]; simp
      rw [this]; omega
    · have : l.take (n + 1) = l.take n ++ [x] := by rw [List.take_add_one, h]; rfl
      rw [this, unlike_snoc, put1_len]
      split <;> omega
section
variable {prog : Program} {w : World} {A : Around} {E : Value → Shared → Prop} {s : Shared}
theorem loop_texts {R : Result → Shared → Prop} {I : Addr} {fp wr : List Addr} {G : Array GenState → Array GenState → Prop} {n : Nat} {P : Nat → Value → Prop} {St : Nat → Shared → Prop} (W : WalksS prog w A.in1 I fp wr G n P St) (D : Addr) (hD : D ∉ fp)
    (l : List Str) (hval : ∀ i v, P i v → ∃ x t, l[i]? = some x ∧ v = .str x t) (hb : n + 1 < scanBound) :
    ∀ (k i : Nat) (s : Shared), n - i = k → i ≤ n → St i s →
      s.heap.SetOf (strKind prog w) D (fun y => (unlike (l.take i)).any (· == y)) (unlike (l.take i)).length →
      (∀ s', Moved (D :: wr) G s s' → s'.heap.SetOf (strKind prog w) D (fun y => (unlike (l.take n)).any (· == y)) (unlike (l.take n)).length → R (.ok (.ret .none)) s') →
      codeAny (model prog w) A (.builtin "set.update.loop" ⟨[.ref D, .ref I], []⟩) R s := by
  have hDw : D ∉ wr := fun h => hD (W.sub _ h)
  have up : ∀ b ∈ wr, b ∈ D :: wr := fun b hb => List.mem_cons_of_mem _ hb
  intro k
  induction k with
  | zero =>
    intro i s hk hi hst hS hR
    obtain rfl : i = n := by omega
    refine codeAny_builtin F.entry_set_update_loop ?_
    rw [Around.under_plainId F.plain_set_update_loop _]
    show wpAny _ A.in1 (pyNext (.ref I) >>= _) _ _ s
    refine wpAny_bind (W.done s _ _ hst fun s' hm => ?_)
    show wpAny _ A.in1 (ret Value.none) _ _ s'
    refine wpAny_pure (hR s' (hm.mono up) ?_)
    obtain ⟨o, es, ep, t, ho, rest⟩ := hS
    exact ⟨o, es, ep, t, hm.heap D _ hDw ho, rest⟩
  | succ k ih =>
    intro i s hk hi hst hS hR
    have hlt : i < n := by omega
    refine codeAny_builtin F.entry_set_update_loop ?_
    rw [Around.under_plainId F.plain_set_update_loop _]
    show wpAny _ A.in1 (pyNext (.ref I) >>= _) _ _ s
    refine wpAny_bind (W.item i s _ _ hlt hst fun v s' hP hst' hm => ?_)
    obtain ⟨x, t, hx, rfl⟩ := hval i v hP
    have hS' : s'.heap.SetOf (strKind prog w) D (fun y => (unlike (l.take i)).any (· == y)) (unlike (l.take i)).length := by
      obtain ⟨o, es, ep, tb, ho, rest⟩ := hS
      exact ⟨o, es, ep, tb, hm.heap D _ hDw ho, rest⟩
    have hnx : l.take (i + 1) = l.take i ++ [x] := by rw [List.take_add_one, hx]; rfl
    show wpAny _ A.in1 (holding [Value.str x t] (setAdd D (.str x t)) >>= _) _ _ s'
    refine wpAny_bind (wpAny_holding ?_)
    unfold setAdd
    refine wpAny_holding ?_
    refine wpAny_bind ((strKind prog w).pyHash (k := x) (strKind_is _ _ _ _) ?_)
    have hroom : (unlike (l.take i)).length + 1 < scanBound := by have := unlike_le i l; omega
    refine wpAny_setAddHashed_of (knd := strKind prog w) (s := { s' with toks := s'.toks + 1 }) (strKind_is _ _ _ _) rfl hS' hroom fun h' hsb hS2 => ?_
    have hSi : h'.SetOf (strKind prog w) D (fun y => (unlike (l.take (i + 1))).any (· == y)) (unlike (l.take (i + 1))).length :=
      SetOf_congr hS2 (fun y => by rw [hnx, unlike_snoc, put1_any]) (by rw [hnx, unlike_snoc, put1_len])
    refine wpAny_pure ⟨plainId_quiet F.plain_set_update_loop _, ih (i + 1) _ (by omega) hlt (W.frame _ s' _ _ hst' (Nat.le_succ _) fun b hb o e => ?_) hSi fun s'' hm'' hS'' => ?_⟩
    · rw [hsb.2 b (fun h : b = D => hD (by rw [← h]; exact hb))]; exact e
    · refine hR s'' (Moved.trans W.gtrans ((hm.mono up).then_heap (Nat.le_succ _) fun b o hb e => ?_) hm'') hS''
      rw [hsb.2 b (fun h : b = D => hb (by rw [h]; exact List.mem_cons_self))]; exact e
end
theorem StrsAre.nth : ∀ {vs : List Value} {xs : List Str}, StrsAre vs xs → ∀ (i : Nat) (v : Value), vs[i]? = some v → ∃ x t, xs[i]? = some x ∧ v = .str x t
  | _, _, .nil, i, v, h => by simp at h
  | _, _, .cons x t r, 0, v, h => by simp at h; exact ⟨x, t, rfl, h.symm⟩
  | _, _, .cons x t r, i + 1, v, h => by
    simp only [List.getElem?_cons_succ] at h ⊢
    exact StrsAre.nth r i v h

section
variable {prog : Program} {w : World} {A : Around} {E : Value → Shared → Prop} {s : Shared}
noncomputable abbrev freshSet (led : Bool) : Obj := { cls := .type "set", dict := none, data := .set #[] 0 (.fresh 0 0 led) }
set_option maxHeartbeats 3200000 in
theorem set_texts {a : Addr} {vs : List Value} {l : List Str} {Q : Value → Shared → Prop} (hh : A.handled = none) (hl : s.heap.IsList a vs.toArray) (hi : StrsAre vs l) (hb : vs.length + 1 < scanBound)
    (h : ∀ (h' : Heap) (tk : Nat), h'.SetOf (strKind prog w) s.heap.objs.size (fun y => (unlike l).any (· == y)) (unlike l).length →
      (∀ b o, b < s.heap.objs.size → s.heap.get? b = some o → h'.get? b = some o) → Q (.ref s.heap.objs.size) { s with heap := h', toks := tk }) :
    wpAny (model prog w) A (call (.type "set") [.ref a]) Q E s := by
  obtain ⟨c, tl, hmro⟩ := PySem.F.called_set.mro
  have hmade := PySem.F.called_set.made
  have hsub := PySem.F.called_set.sub
  refine wpAny_call (codeAny_of_tree ?_)
  show wpAny _ _ (callAny (.type "set") _) _ _ _
  refine wpAny_pure ⟨Code.quiet_builtin _ (by decide +kernel), codeAny_builtin PySem.F.entry_type_call ?_⟩
  rw [Around.under_plain (weight_type_call_type "set" [.ref a] []) rfl]
  have h1 := PySem.F.called_set.notType
  have h2 := PySem.F.called_set.canCreate
  have hct := PySem.F.typeCall_set_1 (.ref a)
  repeat (any_goals (first | assumption | wp_step))
  refine codeAny_mono (code_set_new_1 (.ref a) (E := E) (Q₁ := fun obj s₁ => ∃ led : Bool, obj = .ref s.heap.objs.size ∧ s₁ = { s with heap := s.heap.push (freshSet led) }) fun led => ⟨led, rfl, rfl⟩) fun r s₁ hr => ?_
  cases r with
  | error e => exact hr
  | ok fl =>
    cases fl with
    | ret obj =>
      obtain ⟨led, rfl, rfl⟩ := hr
      have hS : (s.heap.push (freshSet led)).get? s.heap.objs.size = some (freshSet led) := Heap.get?_push_size _ rfl
      have hT : Shared.TypeIs { s with heap := s.heap.push (freshSet led) } (.ref s.heap.objs.size) "set" := ⟨_, hS, rfl⟩
      have hli := PySem.F.called_set.init.lookup
      have hbi := PySem.F.called_set.init.bind (.ref s.heap.objs.size)
      repeat (any_goals (first | assumption | wp_step))
      refine codeAny_mono (codeAny_call_builtin (R := wants (fun r s₂ => r = .none ∧ ∃ h' tk, s₂ = { s with heap := h', toks := tk } ∧
          h'.SetOf (strKind prog w) s.heap.objs.size (fun y => (unlike l).any (· == y)) (unlike l).length ∧
          (∀ b o, b < s.heap.objs.size → s.heap.get? b = some o → h'.get? b = some o)) E) PySem.F.called_set.init.plain PySem.F.entry_set_init (check_set_init_1 hT ?_)) fun r₂ s₂ hr₂ => ?_
      · obtain ⟨ol, hol, hcl, nl, hdl⟩ := hl
        obtain ⟨ocls, odict, odata, oslots⟩ := ol
        simp only at hcl hdl
        subst hcl; subst hdl
        have hol' : (s.heap.push (freshSet led)).get? a = some { cls := .type "list", dict := odict, data := .seq vs.toArray nl, slots := oslots } := Heap.get?_push_of_some _ hol
        have hsls := PySem.F.sub_list_set
        have hslf := PySem.F.sub_list_frozenset
        have hne : (Value.type "list" == Value.type "dict") = false := by decide
        have hl1 : (s.heap.push (freshSet led)).IsList a vs.toArray := ⟨_, hol', rfl, nl, rfl⟩
        unfold Builtin.«set.__init__» noKeywords Builtin.Frozenset.updateFrom
        generalize hPI : pyIter = PI
        wp_walk
        subst hPI
        refine wpAny_pyIter_list hl1 ?_
        refine wpAny_bind (wpAny_runValue ?_)
        have hlS : a < s.heap.objs.size := Heap.lt_size hol
        have hh3 : A.in1.in1.in1.handled = none := by simp [hh]
        have hneI : a ≠ (s.heap.push (freshSet led)).objs.size := by
          rw [Heap.size_push]; exact Nat.ne_of_lt (Nat.lt_succ_of_lt hlS)
        have hSf : s.heap.objs.size ∉ [(s.heap.push (freshSet led)).objs.size, a] := by
          rw [Heap.size_push]; simp only [List.mem_cons, List.mem_singleton, List.not_mem_nil, or_false, not_or]
          exact ⟨Nat.ne_of_lt (Nat.lt_succ_self _), Nat.ne_of_gt hlS⟩
        have hval : ∀ (i : Nat) (v : Value), vs.toArray[i]? = some v → ∃ x t, l[i]? = some x ∧ v = .str x t := fun i v hv => StrsAre.nth hi i v (by simpa using hv)
        have hlen : vs.toArray.size = l.length := by rw [List.size_toArray]; exact hi.len_eq
        have hfull : l.take vs.toArray.size = l := by rw [hlen]; exact List.take_length
        refine loop_texts ((Walks.list hh3 _ a hneI vs.toArray).toS) s.heap.objs.size hSf l hval (by rw [List.size_toArray]; exact hb) (vs.toArray.size - 0) 0 _ (by omega) (Nat.zero_le _)
          ⟨⟨_, Heap.get?_push_size _ rfl, rfl, rfl⟩, (hl1.push _)⟩ ?hS0 ?hR
        case hS0 =>
          have hget : ((s.heap.push (freshSet led)).push { cls := .type "list_iterator", data := .fields #[.ref a, .int 0 0] }).get? s.heap.objs.size = some (freshSet led) := Heap.get?_push_of_some _ hS
          exact SetOf_congr ((setObjOf_fresh (knd := strKind prog w) led).setOf hget (by unfold scanBound; omega)) (fun _ => rfl) rfl
        case hR =>
          intro s' hm hS'
          rw [hfull] at hS'
          obtain ⟨h', g', d', tk', os'⟩ := s'
          have eg : g' = s.gens := hm.gens
          have ed : d' = s.drawn := hm.drawn
          have eo : os' = s.os := hm.os
          subst eg; subst ed; subst eo
          show wpAny _ _ _ _ _ _
          refine wpAny_pure ?_
          show wpAny _ _ (ret Value.none) _ _ _
          refine wpAny_pure ⟨rfl, h', tk', rfl, hS', fun b o hb e => ?_⟩
          have hb1 : b ≠ s.heap.objs.size := Nat.ne_of_lt hb
          have hb2 : b ≠ (s.heap.push (freshSet led)).objs.size := by
            rw [Heap.size_push]; exact Nat.ne_of_lt (Nat.lt_succ_of_lt hb)
          exact hm.heap b o (by simp only [List.mem_cons, List.mem_singleton, List.not_mem_nil, or_false, not_or]; exact ⟨hb1, hb2⟩) (Heap.get?_push_of_some _ (Heap.get?_push_of_some _ e))
      · cases r₂ with
        | error e => exact hr₂
        | ok fl₂ =>
          cases fl₂ with
          | ret r =>
            obtain ⟨rfl, h', tk, rfl, hS', hk'⟩ := hr₂
            repeat (any_goals (first | assumption | wp_step))
            exact h _ _ hS' hk'
          | _ => exact hr₂.elim
    | _ => exact hr.elim
theorem set_texts_N {h₀ : Heap} {L : Addr} {m : Str → Option Value} {news : Led} {a : Addr} {vs : List Value} {l : List Str} {Q : Value → Shared → Prop} (F : Fr h₀ L s.heap m) (N : News h₀ L s.heap news)
    (hh : A.handled = none) (hl : s.heap.IsList a vs.toArray) (hi : StrsAre vs l) (hb : vs.length + 1 < scanBound)
    (h : ∀ (D : Addr) h' (tk : Nat) o, Fr h₀ L h' m → News h₀ L h' ((D, o) :: news) → Young D news → o.SetObjOf (strKind prog w) (fun y => (unlike l).any (· == y)) (unlike l).length → Q (.ref D) { s with heap := h', toks := tk }) :
    wpAny (model prog w) A (call (.type "set") [.ref a]) Q E s := by
  refine set_texts hh hl hi hb fun h' tk hS hk => ?_
  obtain ⟨o, ho, hso⟩ := hS.objOf
  obtain ⟨oL, _, _, hL, _⟩ := F.ns
  have hLlt : L < s.heap.objs.size := Heap.lt_size hL
  refine h _ h' tk o ⟨F.ns.at' fun o' e => hk L o' hLlt e, fun b o' e => hk b o' (Heap.lt_size (F.keep b o' e)) (F.keep b o' e), F.above⟩ (fun p hp => ?_) (young_of fun p hp => Heap.lt_size (N p hp).1) hso
  rcases List.mem_cons.mp hp with rfl | hp
  · refine ⟨ho, Nat.ne_of_gt hLlt, ?_⟩
    cases hq : h₀.get? s.heap.objs.size with
    | none => rfl
    | some o' => exact absurd (Heap.lt_size (F.keep _ _ hq)) (Nat.lt_irrefl _)
  · exact ⟨hk _ _ (Heap.lt_size (N p hp).1) (N p hp).1, (N p hp).2.1, (N p hp).2.2⟩
end
end

section
set_option maxHeartbeats 400000
section
variable {prog : Program} {w : World} {A : Around} {E : Value → Shared → Prop} {s : Shared} {env : Env} {h₀ : Heap} {x : Str} {body : List Stmt} {Q : Flow → Shared → Prop}
/-- what a turn leaves: the name x holds a value that J tells of -/
noncomputable def TurnEndA (h₀ : Heap) (L : Addr) (x : Str) (S : List Str) (m₀ : Str → Option Value) (J : Value → Led → Prop) (I : Addr) (oI : Obj) (s₁ : Shared) (Q : Flow → Shared → Prop) (f : Flow) (s₂ : Shared) : Prop :=
  match f with
  | .ret v => Q (.ret v) s₂
  | .brk => Q .next s₂
  | _ => ∃ h' tk m' nx v, s₂ = { s₁ with heap := h', toks := tk } ∧ Fr h₀ L h' m' ∧ News h₀ L h' ((I, oI) :: nx) ∧ Far I nx ∧ (∀ z, z ≠ x → z ∉ S → m' z = m₀ z) ∧ m' x = some v ∧ J v nx
theorem forgot_held {x : Str} {S : List Str} {m₀ m : Str → Option Value} {v : Value} (h : Forgot x S m₀ m) (hv : m x = some v) : m = fun y => if y = x then some v else if y ∈ S then m y else m₀ y := by
  rw [← forgot_set h]
  funext y
  by_cases e : y = x
  · rw [if_pos e, e]; exact hv
  · rw [if_neg e]
/-- a range whose target is a name of any kind; the name x is told of by J -/
theorem iter_rangeA {tx : Str} {px : Pos} {r : Addr} {a₀ b₀ : Int} {t₀ u₀ v₀ : Tok} {n : Nat} {m₀ : Str → Option Value} {news : Led} {w₀ : Value} (S : List Str) (J : Nat → Value → Led → Prop)
    (hh : A.handled = none) (hr : IsRange s.heap r a₀ b₀ 1 t₀ u₀ v₀) (hsmall : Builtin.Range.small a₀ b₀ 1 = true) (hn : Builtin.Range.rangeSize a₀ b₀ 1 = (n : Int)) (F : Fr h₀ env.locals s.heap m₀) (N : News h₀ env.locals s.heap news) (hx : m₀ x = some w₀) (hj : J 0 w₀ news)
    (turn : ∀ (i : Nat) (t : Tok) (v : Value) (m₁ : Str → Option Value) (news₁ : Led) (h : Heap) (tk : Nat) (I : Addr) (oI : Obj), i < n → J i v news₁ → Far I news₁ → Fr h₀ env.locals h (fun y => if y = x then some v else if y ∈ S then m₁ y else m₀ y) → News h₀ env.locals h ((I, oI) :: news₁) →
      wpAny (model prog w) A (assign (.Name tx px) env (.int (a₀ + i) t)) (fun _ s₃ => wpAny (model prog w) A (execs body env) (TurnEndA h₀ env.locals x S m₀ (J (i + 1)) I oI { s with heap := h, toks := tk } Q) E s₃) E { s with heap := h, toks := tk })
    (done : ∀ (v : Value) (m₁ : Str → Option Value) (news₁ : Led) (h : Heap) (tk : Nat), J n v news₁ → Fr h₀ env.locals h (fun y => if y = x then some v else if y ∈ S then m₁ y else m₀ y) → News h₀ env.locals h news₁ → Q .next { s with heap := h, toks := tk }) :
    wpAny (model prog w) A (pyIter (.ref r)) (fun it s₂ => TurnsAt prog w A h₀ env (.Name tx px) body Q E it s₂) E s := by
  refine wpAny_pyIter_range hr hsmall ?_
  have WL : KTurns prog w A (.Name tx px) s.heap.objs.size [s.heap.objs.size] [s.heap.objs.size] n (fun i v _ => i < n ∧ ∃ t, v = .int (a₀ + i * 1) t) _
      (fun i h => IsRangeIter h s.heap.objs.size (a₀ + (i : Nat) * 1) ((n : Int) - (i : Nat)) 1) := KTurns.ofWalks (Walks.range hh _ a₀ 1 n).bound fun i v s Q E _ q => wpAny_pure q
  refine ⟨_, _, _, n, _, _, _, m₀, news, (fun i m nx => Forgot x S m₀ m ∧ ∃ v, m x = some v ∧ J i v nx), rfl, WL, ?_, ?_, ?_, (by show IsRangeIter _ _ _ _ _; rw [hn]; simpa using Heap.get?_push_size _ rfl), F.push _, (fun p hp => ⟨Heap.get?_push_of_some _ (N p hp).1, (N p hp).2⟩), ⟨fun _ _ _ => rfl, _, hx, hj⟩, ?_, ?_⟩
  · intro hm
    exact absurd F.ns.lt ((List.mem_singleton.mp hm) ▸ Nat.lt_irrefl _)
  · intro b hb
    rw [List.mem_singleton.mp hb]
    exact next_is_new F
  · intro p hp hI
    exact absurd (Heap.lt_size (N p hp).1) ((List.mem_singleton.mp hI) ▸ Nat.lt_irrefl _)
  · rintro i v m₁ news₁ hh' tk' own hin ⟨_, t, rfl⟩ ⟨hm, v1, hv1, hJ⟩ hoff hown hget hfp st F₁ N₁
    have hoI : ∃ oI, hh'.get? s.heap.objs.size = some oI := ⟨_, st⟩
    obtain ⟨oI, hoI⟩ := hoI
    have hwr : h₀.get? s.heap.objs.size = none := next_is_new F
    have hIown : (s.heap.objs.size, oI) ∈ own := hfp _ (List.mem_cons_self) hwr oI hoI
    have N₂ : News h₀ env.locals hh' ((s.heap.objs.size, oI) :: news₁) := fun p hp => by
      rcases List.mem_cons.mp hp with rfl | hp
      · exact N₁ _ (List.mem_append_left _ hIown)
      · exact N₁ p (List.mem_append_right _ hp)
    rw [forgot_held hm hv1] at F₁
    have T := turn i t v1 m₁ news₁ hh' tk' _ oI hin hJ ⟨fun p hp e => hoff p hp (List.mem_singleton.mpr e)⟩ F₁ N₂
    rw [show a₀ + (i : Int) * 1 = a₀ + (i : Int) by rw [Int.mul_one]]
    refine wpAny_mono T (fun _ s₃ T3 => wpAny_mono T3 (fun f s₂ p => ?_) fun _ _ e => e) fun _ _ e => e
    have fin : (∃ h' tk m' nx v, s₂ = { heap := h', gens := s.gens, drawn := s.drawn, toks := tk, os := s.os } ∧ Fr h₀ env.locals h' m' ∧ News h₀ env.locals h' ((s.heap.objs.size, oI) :: nx) ∧ Far s.heap.objs.size nx ∧ (∀ z, z ≠ x → z ∉ S → m' z = m₀ z) ∧ m' x = some v ∧ J (i + 1) v nx) →
        LoopStepU h₀ env.locals [s.heap.objs.size] own (fun m nx => Forgot x S m₀ m ∧ ∃ v, m x = some v ∧ J (i + 1) v nx) { s with heap := hh', toks := tk' } .next s₂ := by
      rintro ⟨h', tk, m', nx, v', e, F', N', hf, hm', hv', hJ'⟩
      refine ⟨rfl, h', tk, m', nx, e, F', fun p hp => ?_, fun p hp hI => hf.all p hp (List.mem_singleton.mp hI), hm', v', hv', hJ'⟩
      rcases List.mem_append.mp hp with h | h
      · have h2 := List.mem_singleton.mp (hown p h)
        have h3 := hget p h
        have h4 : hh'.get? p.1 = some oI := h2 ▸ hoI
        rw [h4] at h3
        have h5 : p = (s.heap.objs.size, oI) := Prod.ext h2 (Option.some.inj h3).symm
        rw [h5]; exact N' _ List.mem_cons_self
      · exact N' p (List.mem_cons_of_mem _ h)
    cases f with
    | ret v => exact .ret p
    | brk => exact .brk p
    | next => exact .next (fin p)
    | cont => exact .cont (fin p)
  · rintro h' tk m' news' F' N' _ ⟨hm, v', hv', hJ⟩
    rw [forgot_held hm hv'] at F'
    exact done v' m' news' h' tk hJ F' N'
end

theorem LogAre.len : ∀ {vs : List Value} {xs : List Str} {l : Led}, LogAre vs xs l → vs.length = xs.length
  | _, _, _, .nil => rfl
  | _, _, _, .snoc h => by rw [List.length_append, List.length_append, h.len]; rfl
theorem LogAre.at : ∀ {vs : List Value} {xs : List Str} {l : Led}, LogAre vs xs l → ∀ (i : Nat) (v : Value), vs[i]? = some v → ∃ (q : Addr) (t1 t2 : Tok) (x : Str), v = .ref q ∧ xs[i]? = some x ∧ (q, tup [.str (Str.ofString "W") t1, .str x t2]) ∈ l
  | _, _, _, .nil, i, v, h => by simp at h
  | _, _, _, .snoc (vs := vs) (xs := xs) (q := q) (t1 := t1) (t2 := t2) (x := x) h, i, v, hv => by
    have hl := h.len
    by_cases e : i < vs.length
    · rw [List.getElem?_append_left e] at hv
      obtain ⟨q', a, b, y, h1, h2, h3⟩ := h.at i v hv
      exact ⟨q', a, b, y, h1, by rw [List.getElem?_append_left (by omega)]; exact h2, List.mem_cons_of_mem _ h3⟩
    · have hi : i = vs.length := by
        have : i < (vs ++ [Value.ref q]).length := by
          rcases Nat.lt_or_ge i (vs ++ [Value.ref q]).length with h | h
          · exact h
          · rw [List.getElem?_eq_none h] at hv; cases hv
        rw [List.length_append] at this
        simp only [List.length_cons, List.length_nil] at this
        omega
      subst hi
      simp at hv
      refine ⟨q, t1, t2, x, hv.symm, by rw [hl]; simp, List.mem_cons_self⟩
section
variable {prog : Program} {w : World} {A : Around} {h₀ : Heap} {L : Addr} {m : Str → Option Value} {env : Env} {elt : PySem.Expr} {x x₂ : Str} {scope : Scope} {cl : List (Str × Addr)} {s : Shared} {S : Led → Prop} {Fin : List Value → Led → Prop} {news : Led}
theorem pairs_rest {vs : List Value} {xs : List Str} {ents : Led} (hl : LogAre vs xs ents) (hs : ∀ p ∈ ents, p ∈ news)
    (turn : ∀ (X : Str) (t : Tok) (I : Addr) (oI : Obj) (C : Addr) (oC : Obj) (D : Addr) (m₂ : Str → Option Value) (ys : List Value) (h : Heap) (tk : Nat) (E' : Value → Shared → Prop), LCg.NsObj oC m₂ → m₂ x₂ = some (.str X t) → Fr h₀ L h m → News h₀ L h ((I, oI) :: (C, oC) :: (D, LCg.lst ys) :: news) → LCg.Off3 I C D news → ((@Ne Nat I C) ∧ (@Ne Nat I D) ∧ (@Ne Nat C D)) →
      wpAny (model prog w) A (eval elt (compEnvC scope cl C env)) (LCg.CompEnd h₀ L m { s with heap := h, toks := tk } I oI C oC D (LCg.lst ys) S (fun y news' => KCtEl news X y news')) E' { s with heap := h, toks := tk })
    (fin : ∀ ys, StrsAre ys xs → Fin ys news) : LCp.CompRestP prog w A h₀ L m env elt x x₂ scope cl s S (fun i v => vs.toArray[i]? = some v) Fin vs.toArray.size 0 [] news := by
  have hlen := hl.len
  have key : ∀ (j i : Nat) (ys : List Value), i + j = vs.length → StrsAre ys (xs.take i) → LCp.CompRestP prog w A h₀ L m env elt x x₂ scope cl s S (fun i v => vs.toArray[i]? = some v) Fin j i ys news := by
    intro j
    induction j with
    | zero =>
      intro i ys hi hy
      have e : i = xs.length := by omega
      subst e
      rw [List.take_length] at hy
      exact LCp.CompRestP.zero (fin ys hy)
    | succ j ih =>
      intro i ys hi hy
      refine LCp.CompRestP.succ ?_
      intro v hv
      obtain ⟨q, t1, t2, X, rfl, hX, hq⟩ := hl.at i v (by simpa using hv)
      refine ⟨q, _, _, _, _, rfl, hs _ hq, rfl, rfl, ?_⟩
      intro I oI C oC D m₂ h tk E' hC hx hx₂ F N off ne
      refine wpAny_mono (turn X t2 I oI C oC D m₂ ys h tk E' hC hx₂ F N off ne) (fun y s₂ hq => ?_) fun _ _ e => e
      obtain ⟨h', tk', nw, e, F', N', off', hS, hn, t', hy'⟩ := hq
      rw [hn] at N' off' hS
      refine ⟨h', tk', news, e, F', N', off', hS, ?_⟩
      rw [hy']
      refine ih (i + 1) _ (by omega) ?_
      rw [List.take_add_one, hX]
      simpa using kct_snoc hy
  have := key vs.length 0 [] (by omega) (by simp only [List.take_zero]; exact .nil)
  rw [List.size_toArray]
  exact this
end

theorem tx_lay : ∀ l : List Str, (∀ x ∈ l, PyData.strOk x = true) → PyData.canLayAll0 (l.map PyData.str) = true
  | [], _ => rfl
  | a :: r, h => by simp [PyData.canLayAll0, PyData.canLay0, tx_lay r fun x hx => h x (List.mem_cons_of_mem _ hx), h a List.mem_cons_self]
theorem tx_depth : ∀ l : List Str, PyData.depthAll (l.map PyData.str) = 0
  | [] => rfl
  | _ :: r => by simp [PyData.depthAll, PyData.depth, tx_depth r]
theorem tx_shaped (l : List Str) (h : ∀ x ∈ l, PyData.strOk x = true) : SeqAt.shaped (.list (l.map PyData.str)) = true := by
  simp [SeqAt.shaped, PyData.canLay0, PyData.depth, tx_lay l h, tx_depth]
theorem tx_sameAll : ∀ l : List Str, PySem.Spec.sameAll (l.map PyData.str) (l.map PyData.str) = true
  | [] => by simp [PySem.Spec.sameAll]
  | a :: r => by simp [PySem.Spec.sameAll, PySem.Spec.same, tx_sameAll r]
section
variable {prog : Program} {w : World} {A : Around} {E : Value → Shared → Prop} {s : Shared} {a b : Addr} {xs ys : List Value} {l : List Str} {Q : Value → Shared → Prop}
theorem ne_texts (ha : s.heap.IsList a xs.toArray) (hb : s.heap.IsList b ys.toArray) (hi : StrsAre xs l) (hj : CarriedAll ys (l.map PyData.str)) (hok : ∀ x ∈ l, PyData.strOk x = true) (hu : A.units + 64 < cLine) (h : Q (.bool false) s) :
    wpAny (model prog w) A (compareOp .NotEq (.ref a) (.ref b)) Q E s :=
  ne_dataH_same (reads_newData ha hi.carried) (reads_newData hb hj) (tx_shaped _ hok) (tx_shaped _ hok) hu (SeqAt.noMix_of_shape (.list .str) rfl _ _ (list_map_has fun _ => rfl) (list_map_has fun _ => rfl)) (by
    have e : PySem.Spec.same (.list (l.map PyData.str)) (.list (l.map PyData.str)) = true := by
      simp only [PySem.Spec.same]; exact tx_sameAll l
    rw [e]; exact h)
end
end

section
set_option maxHeartbeats 400000
theorem two_cells (w : List Int) : ∃ c0 c1 : Int, 0 ≤ c0 ∧ 0 ≤ c1 ∧ (List.map (fun k' => if k' < 0 then -k' else k') (List.take 2 w) ++ List.drop ((List.take 2 w).length : Int).toNat [3, 30]) = [c0, c1] := by
  have ab : ∀ x : Int, 0 ≤ if x < 0 then -x else x := fun x => by split <;> omega
  match w with
  | [] => exact ⟨3, 30, by decide, by decide, rfl⟩
  | [a] => exact ⟨_, 30, ab a, by decide, rfl⟩
  | a :: b :: r => exact ⟨_, _, ab a, ab b, rfl⟩
theorem pow_ok {k : Int} (h0 : 0 ≤ k) (h1 : k < 6) : (3 : Int) ^ k.toNat ≠ 0 ∧ ((3 : Int) ^ k.toNat).natAbs < 1073741824 := by
  have key : ∀ n : Fin 6, (3 : Int) ^ (n : Nat) ≠ 0 ∧ ((3 : Int) ^ (n : Nat)).natAbs < 1073741824 := by decide
  exact key ⟨k.toNat, by omega⟩
theorem ring_size (c : Int) : ∃ n : Nat, 1 + c.fmod 6 = (n : Int) ∧ 1 ≤ n ∧ n ≤ 6 := by
  have h0 := Int.fmod_nonneg_of_pos c (show (0 : Int) < 6 by decide)
  have h1 := Int.fmod_lt_of_pos c (show (0 : Int) < 6 by decide)
  exact ⟨(1 + c.fmod 6).toNat, by omega, by omega, by omega⟩
theorem range_nat (n : Nat) : Builtin.Range.rangeSize 0 (n : Int) 1 = (n : Int) := by
  have := rangeSize_nat 0 n
  simpa using this
theorem range_eq {h : Heap} {r : Addr} {a b b' c : Int} {t u v : Tok} (e : b = b') (H : IsRange h r a b c t u v) : IsRange h r a b' c t u v := e ▸ H
theorem top_of {h₀ h : Heap} {L : Addr} {m mg mb : Str → Option Value} {mean : ExcName → Option Value} (_ : Fr h₀ L h m) (T : Top vw (looseW vw loose) mean mg mb h₀) : Top vw (looseW vw loose) mean mg mb h₀ := T
theorem news_d5 {h₀ h : Heap} {L : Addr} {a b1 b2 b3 b4 b5 : Addr × Obj} {l : Led} (N : News h₀ L h (a :: b1 :: b2 :: b3 :: b4 :: b5 :: l)) : News h₀ L h (a :: l) := news_sub N fun p hp => by
  rcases List.mem_cons.mp hp with h | h
  · exact h ▸ List.mem_cons_self
  · exact List.mem_cons_of_mem _ (List.mem_cons_of_mem _ (List.mem_cons_of_mem _ (List.mem_cons_of_mem _ (List.mem_cons_of_mem _ (List.mem_cons_of_mem _ h)))))
theorem len_known {prog : Program} {w : World} {A : Around} {E : Value → Shared → Prop} {s : Shared} {Q : Value → Shared → Prop} {x : Str} {t : Tok} {n : Nat} (e : x.length = n) (hn : n ≤ 1000) (h : Q (.int (n : Int) (s.toks + 1)) { s with toks := s.toks + 1 + 1 }) : wpAny (model prog w) A (call (.builtin "len") [.str x t]) Q E s := by
  subst e
  exact PyProof.Rows.len_str (by omega) h
theorem name_led {h₀ h : Heap} {L : Addr} {a1 a2 a3 a4 a5 : Addr × Obj} {xr rd cS cR : Addr} {RT : RefT} {oS oR : Obj}
    (N : News h₀ L h [a1, a2, a3, a4, a5, (xr, instObj 208 rd), (rd, refD RT), (cS, oS), (cR, oR)]) :
    ∃ (xr' rd' : Addr) (oR' oS' : Obj), xr' = xr ∧ rd' = rd ∧ oR' = oR ∧ oS' = oS ∧ News h₀ L h [(cS, oS'), (cR, oR'), (xr', instObj 208 rd'), (rd', refD RT)] :=
  ⟨xr, rd, oR, oS, rfl, rfl, rfl, rfl, news_sub N (pick_mem [7, 8, 5, 6] rfl)⟩
theorem range_nat1 (n : Nat) : Builtin.Range.rangeSize 1 ((n : Int) + 1) 1 = (n : Int) := by
  rw [rangeSize_nat]; omega
/-- the sign at a place -/
noncomputable def sgn (c1 k : Int) : Str := Txt.item (Str.ofString "abc") ((c1.fdiv ((3 : Int) ^ k.toNat)).fmod 3)
/-- the ring -/
noncomputable def ringOf (c1 : Int) (n : Nat) : Str := PySem.Txt.join (PySem.Str.ofString "") ((rangeKs 0 n).map (sgn c1))
/-- the parts of one size -/
noncomputable def parts (sub : Str) (n s : Nat) : List Str := (List.range n).map fun i : Nat => PySem.Txt.slice sub (some (i : Int)) (some ((i : Int) + (s : Int)))
/-- the number that the law's 'ahead' holds after i turns -/
noncomputable def ahead (ring : Str) (n : Nat) : Nat → Nat
  | 0 => 1
  | i + 1 => (unlike (parts (ring ++ ring) n (i + 1))).length
theorem ahead_succ (ring : Str) (n i : Nat) : ahead ring n (i + 1) = (unlike (parts (ring ++ ring) n (i + 1))).length := rfl
/-- what the law asks of a ring -/
structure Ring (ring : Str) (n t : Nat) : Prop where
  len : ring.length = n
  n1 : 1 ≤ n
  n6 : n ≤ 6
  t0 : 1 ≤ t
  t1 : t ≤ n
  hno : ∀ a : Nat, 1 ≤ a → a < t → (PySem.Txt.slice (ring ++ ring) (some (a : Int)) (some ((a : Int) + ring.length)) == ring) = false
  hyes : (PySem.Txt.slice (ring ++ ring) (some (t : Int)) (some ((t : Int) + ring.length)) == ring) = true
  wlen : (PySem.Txt.slice (ring ++ ring) (some 0) (some (t : Int))).length = t
  slen : ∀ i : Nat, i < n → (PySem.Txt.slice (ring ++ ring) none (some ((n : Int) + (1 + (i : Int)) - 1))).length = n + i
  pts : ∀ i : Nat, i < n → (List.range n).map (fun j : Nat => PySem.Txt.slice (PySem.Txt.slice (ring ++ ring) none (some ((n : Int) + (1 + (i : Int)) - 1))) (some (j : Int)) (some ((j : Int) + (1 + (i : Int))))) = parts (ring ++ ring) n (i + 1)
  ok : ∀ s : Nat, s ≤ n → ∀ x ∈ parts (ring ++ ring) n s, PyData.strOk x = true
  up : ∀ i : Nat, i < n → ahead ring n i < t → ahead ring n i < ahead ring n (i + 1)
  stay : ∀ i : Nat, i < n → t ≤ ahead ring n i → ahead ring n (i + 1) = t
  last : ahead ring n n = t
theorem range_parts (sub : Str) (n i : Nat) : ((rangeKs 0 n).map fun k => PyData.str (PySem.Txt.slice sub (some k) (some (k + (1 + (i : Int)))))) = (parts sub n (i + 1)).map PyData.str := by
  unfold rangeKs parts
  rw [List.map_map, List.map_map]
  refine List.map_congr_left fun j _ => ?_
  have e : (1 : Int) + (i : Int) = ((i + 1 : Nat) : Int) := by omega
  simp only [Function.comp, Int.zero_add, e]
theorem unlike_parts (sub : Str) (n s : Nat) : (unlike (parts sub n s)).length ≤ n := by
  have h := unlike_le n (parts sub n s)
  have e : (parts sub n s).take n = parts sub n s := List.take_of_length_le (by unfold parts; rw [List.length_map, List.length_range]; exact Nat.le_refl _)
  rw [e] at h
  exact h
/-- the ledger once the ring, the reference and the host stand-/
theorem law_led {g h : Heap} {L lg ho hd rl vd xr rd cS cR : Addr} {H0 H1 H2 H3 H4 H5 G0 G1 G2 : Int} {a0 a1 a2 a3 a4 a5 b1 b2 u c0 c1 c2 d1 d2 : Tok} {oV oS oR : Obj} {e1 e2 e3 : Addr × Obj}
    (N : News g L h [(lg, W.listOf #[] 0), (ho, instObj 589 hd), (hd, dictOf [⟨H0, .str (Str.ofString "values") a0, .ref vd⟩, ⟨H1, .str (Str.ofString "limit") a1, .int 9999 b1⟩, ⟨H2, .str (Str.ofString "refused") a2, .ref rl⟩, ⟨H3, .str (Str.ofString "width") a3, .int 64 b2⟩, ⟨H4, .str (Str.ofString "steps") a4, .int 0 u⟩, ⟨H5, .str (Str.ofString "log") a5, .ref lg⟩] 6), (rl, W.listOf #[] 0), (vd, oV), (xr, instObj 208 rd), (rd, dictOf [⟨G0, .str (Str.ofString "kind") c0, .str (Str.ofString "var") d1⟩, ⟨G1, .str (Str.ofString "owner") c1, .none⟩, ⟨G2, .str (Str.ofString "key") c2, .str (Str.ofString "W") d2⟩] 3), e1, e2, (cS, oS), (cR, oR), e3]) :
    ∃ (T : HostT) (RT : RefT) (u' : Tok), News g L h [(lg, W.listOf #[] 0), (ho, instObj 589 hd), (hd, hostD T vd rl lg 0 u'), (rl, W.listOf #[] 0), (vd, oV), (xr, instObj 208 rd), (rd, refD RT), (cS, oS), (cR, oR)] :=
  ⟨⟨H0, H1, H2, H3, H4, H5, a0, a1, a2, a3, a4, a5, b1, b2⟩, ⟨G0, G1, G2, c0, c1, c2, d1, d2⟩, u, news_sub N (pick_mem [0, 1, 2, 3, 4, 5, 6, 9, 10] rfl)⟩
theorem law_mid {g h : Heap} {L : Addr} {r a b c d1 d2 d3 d4 d5 d6 d7 ho rl x y s t : Addr × Obj} (N : News g L h [r, a, b, c, d1, d2, d3, d4, d5, d6, d7, ho, rl, x, y, s, t]) : News g L h [r, ho, a, b, x, y, s, t] := news_sub N (pick_mem [0, 11, 1, 2, 13, 14, 15, 16] rfl)
/-- the host of a turn -/
theorem host_led {g h : Heap} {L hd rl vd lg : Addr} {H0 H1 H2 H3 H4 H5 : Int} {a0 a1 a2 a3 a4 a5 b1 b2 u : Tok} {p1 p2 p3 p4 p5 x1 x2 : Addr × Obj} {r : Led}
    (N : News g L h (p1 :: p2 :: p3 :: p4 :: p5 :: x1 :: x2 :: (hd, dictOf [⟨H0, .str (Str.ofString "values") a0, .ref vd⟩, ⟨H1, .str (Str.ofString "limit") a1, .int 9999 b1⟩, ⟨H2, .str (Str.ofString "refused") a2, .ref rl⟩, ⟨H3, .str (Str.ofString "width") a3, .int 64 b2⟩, ⟨H4, .str (Str.ofString "steps") a4, .int 0 u⟩, ⟨H5, .str (Str.ofString "log") a5, .ref lg⟩] 6) :: r)) :
    ∃ (T : HostT) (u' : Tok), News g L h (p1 :: p2 :: p3 :: p4 :: x1 :: x2 :: (hd, hostD T vd rl lg 0 u') :: r) :=
  ⟨⟨H0, H1, H2, H3, H4, H5, a0, a1, a2, a3, a4, a5, b1, b2⟩, u, news_sub N fun p hp => by
    have hp : p ∈ [p1, p2, p3, p4, x1, x2, (hd, hostD ⟨H0, H1, H2, H3, H4, H5, a0, a1, a2, a3, a4, a5, b1, b2⟩ vd rl lg 0 u)] ++ r := hp
    rcases List.mem_append.mp hp with hp | hp
    · exact List.mem_append_left r (pick_mem (l := [p1, p2, p3, p4, p5, x1, x2, (hd, _)]) [0, 1, 2, 3, 5, 6, 7] rfl p hp)
    · exact List.mem_append_right [p1, p2, p3, p4, p5, x1, x2, (hd, _)] hp⟩
theorem turn_mid {g h : Heap} {L : Addr} {hd vd lg d1 d2 d3 d4 ho rl i s r x y : Addr × Obj} {m : Led} (N : News g L h (hd :: vd :: lg :: d1 :: d2 :: d3 :: d4 :: ho :: rl :: i :: s :: r :: x :: y :: m)) : News g L h (hd :: lg :: ho :: i :: s :: r :: x :: y :: m) := news_sub N fun p hp => by
  have hp : p ∈ [hd, lg, ho, i, s, r, x, y] ++ m := hp
  rcases List.mem_append.mp hp with hp | hp
  · exact List.mem_append_left m (pick_mem (l := [hd, vd, lg, d1, d2, d3, d4, ho, rl, i, s, r, x, y]) [0, 2, 7, 9, 10, 11, 12, 13] rfl p hp)
  · exact List.mem_append_right [hd, vd, lg, d1, d2, d3, d4, ho, rl, i, s, r, x, y] hp
theorem turn_sub {a1 a2 a3 a4 a5 a6 x1 x2 x3 x4 x5 : Addr × Obj} {m : Led} : ∀ p ∈ [x1, x2, x3, x4, x5], p ∈ a1 :: a2 :: a3 :: a4 :: a5 :: a6 :: x1 :: x2 :: x3 :: x4 :: x5 :: m := pick_mem [6, 7, 8, 9, 10] rfl
end

section
set_option maxHeartbeats 400000
/-! the plain law: parts of a ring -/
/-- how many unlike ones a function of a place has -/
noncomputable def cnt (g : Nat → Str) (n : Nat) : Nat := (unlike ((List.range n).map g)).length
theorem any_unlike (l : List Str) (k : Str) : (unlike l).any (· == k) = l.any (· == k) := by
  have key : ∀ (l a : List Str), (l.foldl put1 a).any (· == k) = (a.any (· == k) || l.any (· == k)) := by
    intro l
    induction l with
    | nil => intro a; simp
    | cons x r ih =>
      intro a
      rw [List.foldl_cons, ih, put1_any, List.any_cons, Bool.or_assoc]
      congr 2
      by_cases e : k = x
      · simp [e]
      · simp [e, Ne.symm e]
  rw [unlike, key]; rfl
theorem cnt_succ (g : Nat → Str) (n : Nat) : cnt g (n + 1) = if (∃ j, j < n ∧ g j = g n) then cnt g n else cnt g n + 1 := by
  unfold cnt
  rw [List.range_succ, List.map_append, List.map_singleton, unlike_snoc, put1_len, any_unlike]
  have e : (((List.range n).map g).any (· == g n) = true) ↔ ∃ j, j < n ∧ g j = g n := by
    simp [List.any_eq_true]
  by_cases h : ∃ j, j < n ∧ g j = g n
  · rw [if_pos h, if_pos (e.mpr h)]
  · rw [if_neg h, if_neg fun q => h (e.mp q)]
theorem cnt_le {g1 g2 : Nat → Str} : ∀ (n : Nat), (∀ i j, i < n → j < n → g1 i = g1 j → g2 i = g2 j) → cnt g2 n ≤ cnt g1 n
  | 0, _ => Nat.le_refl _
  | n + 1, h => by
    have ih := cnt_le n fun i j hi hj => h i j (Nat.lt_succ_of_lt hi) (Nat.lt_succ_of_lt hj)
    rw [cnt_succ, cnt_succ]
    by_cases h1 : ∃ j, j < n ∧ g1 j = g1 n
    · obtain ⟨j, hj, e⟩ := h1
      rw [if_pos ⟨j, hj, h j n (Nat.lt_succ_of_lt hj) (Nat.lt_succ_self _) e⟩, if_pos ⟨j, hj, e⟩]
      exact ih
    · rw [if_neg h1]
      split <;> omega
theorem cnt_same {g1 g2 : Nat → Str} : ∀ (n : Nat), (∀ i j, i < n → j < n → g1 i = g1 j → g2 i = g2 j) → cnt g2 n = cnt g1 n → ∀ i j, i < n → j < n → g2 i = g2 j → g1 i = g1 j
  | 0, _, _, i, _, hi, _, _ => absurd hi (Nat.not_lt_zero _)
  | n + 1, h, he, i, j, hi, hj, e => by
    have h' : ∀ i j, i < n → j < n → g1 i = g1 j → g2 i = g2 j := fun i j hi hj => h i j (Nat.lt_succ_of_lt hi) (Nat.lt_succ_of_lt hj)
    have le := cnt_le n h'
    rw [cnt_succ, cnt_succ] at he
    have both : cnt g2 n = cnt g1 n ∧ ((∃ j, j < n ∧ g2 j = g2 n) → ∃ j, j < n ∧ g1 j = g1 n) := by
      by_cases h2 : ∃ j, j < n ∧ g2 j = g2 n
      · rw [if_pos h2] at he
        by_cases h1 : ∃ j, j < n ∧ g1 j = g1 n
        · rw [if_pos h1] at he
          exact ⟨he, fun _ => h1⟩
        · rw [if_neg h1] at he
          omega
      · have h1 : ¬∃ j, j < n ∧ g1 j = g1 n := fun ⟨j, hj, e⟩ => h2 ⟨j, hj, h j n (Nat.lt_succ_of_lt hj) (Nat.lt_succ_self _) e⟩
        rw [if_neg h2, if_neg h1] at he
        exact ⟨by omega, fun q => absurd q h2⟩
    have ih := cnt_same n h' both.1
    have last : ∀ i, i < n → g2 i = g2 n → g1 i = g1 n := fun i hi e => by
      obtain ⟨k, hk, ek⟩ := both.2 ⟨i, hi, e⟩
      have : g2 k = g2 n := h k n (Nat.lt_succ_of_lt hk) (Nat.lt_succ_self _) ek
      rw [← ek]
      exact ih i k hi hk (e.trans this.symm)
    rcases Nat.lt_succ_iff_lt_or_eq.mp hi with hi | rfl
    · rcases Nat.lt_succ_iff_lt_or_eq.mp hj with hj | rfl
      · exact ih i j hi hj e
      · exact last i hi e
    · rcases Nat.lt_succ_iff_lt_or_eq.mp hj with hj | rfl
      · exact (last j hj e.symm).symm
      · rfl
theorem cnt_upto {g : Nat → Str} {t : Nat} : ∀ (n : Nat), (∀ i, t ≤ i → i < n → ∃ j, j < i ∧ g j = g i) → cnt g n ≤ min n t
  | 0, _ => by simp [cnt, unlike]
  | n + 1, h => by
    have ih := cnt_upto n fun i hi hn => h i hi (Nat.lt_succ_of_lt hn)
    rw [cnt_succ]
    by_cases ht : t ≤ n
    · rw [if_pos (h n ht (Nat.lt_succ_self _))]
      omega
    · split <;> omega
theorem cnt_grow (g : Nat → Str) (n : Nat) : ∀ m, cnt g n ≤ cnt g (n + m)
  | 0 => Nat.le_refl _
  | m + 1 => by
    have ih := cnt_grow g n m
    rw [← Nat.add_assoc, cnt_succ]
    split <;> omega
theorem cnt_inj {g : Nat → Str} : ∀ (t : Nat), (∀ i j, i < j → j < t → g i ≠ g j) → cnt g t = t
  | 0, _ => by simp [cnt, unlike]
  | t + 1, h => by
    rw [cnt_succ, if_neg (fun ⟨j, hj, e⟩ => h j t hj (Nat.lt_succ_self _) e), cnt_inj t fun i j hi hj => h i j hi (Nat.lt_succ_of_lt hj)]

/-- the sign at a place of the endless ring -/
noncomputable def fv (L : List Nat) (i : Nat) : Nat := L.getD (i % L.length) 0
noncomputable abbrev mk (l : List Nat) : Str := ⟨l.toArray⟩
/-- the part of size s at the place i -/
noncomputable def pt (L : List Nat) (s i : Nat) : Str := mk ((List.range s).map fun k => fv L (i + k))
section
variable {L : List Nat}
theorem fv_wrap (i : Nat) : fv L (i + L.length) = fv L i := by
  unfold fv; rw [Nat.add_mod_right]
theorem fv_wraps (i : Nat) : ∀ m, fv L (i + m * L.length) = fv L i
  | 0 => by simp
  | m + 1 => by rw [Nat.succ_mul, ← Nat.add_assoc, fv_wrap, fv_wraps i m]
theorem ring_get (i : Nat) (h : i < 2 * L.length) : (L ++ L)[i]? = some (fv L i) := by
  unfold fv
  by_cases h1 : i < L.length
  · rw [List.getElem?_append_left h1, Nat.mod_eq_of_lt h1, List.getElem?_eq_getElem h1, List.getD_eq_getElem?_getD, List.getElem?_eq_getElem h1]; rfl
  · have h2 : i - L.length < L.length := by omega
    have h3 : i % L.length = i - L.length := by
      rw [Nat.mod_eq_sub_mod (Nat.le_of_not_lt h1), Nat.mod_eq_of_lt h2]
    rw [List.getElem?_append_right (Nat.le_of_not_lt h1), h3, List.getElem?_eq_getElem h2, List.getD_eq_getElem?_getD, List.getElem?_eq_getElem h2]; rfl
theorem mk_inj {a b : List Nat} (h : mk a = mk b) : a = b := by
  have := congrArg (fun s : Str => s.cps.toList) h
  simpa using this
theorem cut_pt {i s : Nat} (h : i + s ≤ 2 * L.length) : ((L ++ L).drop i).take s = (List.range s).map fun k => fv L (i + k) := by
  apply List.ext_getElem?
  intro k
  by_cases hk : k < s
  · rw [List.getElem?_take_of_lt hk, List.getElem?_drop, ring_get (i + k) (by omega)]
    simp [hk]
  · have e1 : (((L ++ L).drop i).take s).length ≤ k := by rw [List.length_take]; omega
    have e2 : ((List.range s).map fun k => fv L (i + k)).length ≤ k := by simp; omega
    rw [List.getElem?_eq_none e1, List.getElem?_eq_none e2]
theorem two_list : (mk L ++ mk L).cps.toList = L ++ L := by
  rw [Str.cps_append]; simp
theorem slice_pt {i s : Nat} (h : i + s ≤ 2 * L.length) : PySem.Txt.slice (mk L ++ mk L) (some (i : Int)) (some ((i : Int) + (s : Int))) = pt L s i := by
  have hl : (L ++ L).length = 2 * L.length := by rw [List.length_append]; omega
  have q := eq_of_beq (slice_closes (x := mk L ++ mk L) (i := (i : Int)) (j := (i : Int) + (s : Int)) (by rw [two_list, hl]; omega))
  rw [q, two_list]
  unfold pt
  have e1 : ((i : Int)).toNat = i := by omega
  have e2 : ((i : Int) + (s : Int) - (i : Int)).toNat = s := by omega
  rw [e1, e2, cut_pt h]
theorem slice_to {s : Nat} (h : s ≤ 2 * L.length) : PySem.Txt.slice (mk L ++ mk L) none (some (s : Int)) = mk ((L ++ L).take s) := by
  have hl : (L ++ L).length = 2 * L.length := by rw [List.length_append]; omega
  have q := eq_of_beq (slice_closes_to (x := mk L ++ mk L) (j := (s : Int)) (by rw [two_list, hl]; omega))
  rw [q, two_list]
  have e2 : ((s : Int) - 0).toNat = s := by omega
  rw [e2]
  rfl
theorem slice_in {m i s : Nat} (hm : m ≤ 2 * L.length) (h : i + s ≤ m) : PySem.Txt.slice (mk ((L ++ L).take m)) (some (i : Int)) (some ((i : Int) + (s : Int))) = pt L s i := by
  have hl : (L ++ L).length = 2 * L.length := by rw [List.length_append]; omega
  have hc : (mk ((L ++ L).take m)).cps.toList = (L ++ L).take m := by simp
  have q := eq_of_beq (slice_closes (x := mk ((L ++ L).take m)) (i := (i : Int)) (j := (i : Int) + (s : Int)) (by rw [hc, List.length_take, hl]; omega))
  rw [q, hc]
  unfold pt
  have e1 : ((i : Int)).toNat = i := by omega
  have e2 : ((i : Int) + (s : Int) - (i : Int)).toNat = s := by omega
  rw [e1, e2, ← cut_pt (Nat.le_trans h hm), List.drop_take, List.take_take, Nat.min_eq_left (by omega)]
theorem pt_eq {s i j : Nat} : pt L s i = pt L s j ↔ ∀ k, k < s → fv L (i + k) = fv L (j + k) := by
  constructor
  · intro h k hk
    have e := mk_inj h
    have := congrArg (fun l : List Nat => l[k]?) e
    simpa [hk] using this
  · intro h
    exact congrArg mk (List.map_congr_left fun k hk => h k (List.mem_range.mp hk))
theorem pt_full (hn : 1 ≤ L.length) : pt L L.length 0 = mk L := by
  unfold pt
  congr 2
  rw [← cut_pt (by omega)]
  simp
theorem parts_pt {s : Nat} (hs : s ≤ L.length) : parts (mk L ++ mk L) L.length s = (List.range L.length).map (pt L s) := by
  unfold parts
  refine List.map_congr_left fun i hi => ?_
  have := List.mem_range.mp hi
  exact slice_pt (by omega)
/-- two places alike for ever -/
noncomputable def Same (L : List Nat) (i j : Nat) : Prop := ∀ k, fv L (i + k) = fv L (j + k)
theorem same_full {i j : Nat} (hn : 1 ≤ L.length) (h : pt L L.length i = pt L L.length j) : Same L i j := by
  intro k
  have e := pt_eq.mp h (k % L.length) (Nat.mod_lt _ (by omega))
  have r : ∀ a, fv L (a + k) = fv L (a + k % L.length) := fun a => by
    unfold fv
    rw [Nat.add_mod, Nat.add_mod a (k % L.length), Nat.mod_mod]
  rw [r, r, e]
/-- the least turning -/
theorem least (L : List Nat) (hn : 1 ≤ L.length) : ∃ t, 1 ≤ t ∧ t ≤ L.length ∧ Same L t 0 ∧ ∀ a, 1 ≤ a → a < t → ¬Same L a 0 := by
  have key : ∀ m, (∃ a, 1 ≤ a ∧ a ≤ m ∧ Same L a 0) → ∃ t, 1 ≤ t ∧ t ≤ m ∧ Same L t 0 ∧ ∀ a, 1 ≤ a → a < t → ¬Same L a 0 := by
    intro m
    induction m with
    | zero => rintro ⟨a, h1, h2, _⟩; omega
    | succ m ih =>
      rintro ⟨a, h1, h2, h3⟩
      by_cases hm : ∃ a, 1 ≤ a ∧ a ≤ m ∧ Same L a 0
      · obtain ⟨t, a1, a2, a3, a4⟩ := ih hm
        exact ⟨t, a1, by omega, a3, a4⟩
      · have e : a = m + 1 := by
          have : ¬ a ≤ m := fun h => hm ⟨a, h1, h, h3⟩
          omega
        exact ⟨a, h1, h2, h3, fun b b1 b2 hb => hm ⟨b, b1, by omega, hb⟩⟩
  exact key L.length ⟨L.length, hn, Nat.le_refl _, fun k => by rw [Nat.add_comm, fv_wrap, Nat.zero_add]⟩
variable {t : Nat}
theorem same_step (hs : Same L t 0) (i : Nat) : fv L (i + t) = fv L i := by
  have := hs i
  rw [Nat.zero_add] at this
  rw [Nat.add_comm]; exact this
theorem not_same (hn : 1 ≤ L.length) (hl : ∀ a, 1 ≤ a → a < t → ¬Same L a 0) {i j : Nat} (hij : i < j) (hj : j < t) : ¬Same L i j := by
  intro h
  refine hl (j - i) (by omega) (by omega) fun m => ?_
  have q := h (m + i * L.length - i)
  have hi : i ≤ i * L.length := Nat.le_mul_of_pos_right i hn
  have e1 : i + (m + i * L.length - i) = m + i * L.length := by omega
  have e2 : j + (m + i * L.length - i) = (j - i + m) + i * L.length := by omega
  rw [e1, e2, fv_wraps, fv_wraps] at q
  rw [Nat.zero_add, q]
theorem upto_t (hs : Same L t 0) (t0 : 1 ≤ t) (s : Nat) (tn : t ≤ L.length) : cnt (pt L s) L.length ≤ t := by
  have := cnt_upto (g := pt L s) (t := t) L.length fun i h1 h2 => ⟨i - t, by omega, pt_eq.mpr fun k _ => by
    have := same_step hs (i - t + k)
    rw [show i - t + k + t = i + k by omega] at this
    exact this.symm⟩
  omega
theorem all_t (hn : 1 ≤ L.length) (hl : ∀ a, 1 ≤ a → a < t → ¬Same L a 0) (tn : t ≤ L.length) (s : Nat) (h : ∀ i j, i < L.length → j < L.length → pt L s i = pt L s j → Same L i j) : t ≤ cnt (pt L s) L.length := by
  have h1 := cnt_inj (g := pt L s) t fun i j hij hj e => not_same hn hl hij hj (h i j (by omega) (by omega) e)
  have h2 := cnt_grow (pt L s) t (L.length - t)
  rw [show t + (L.length - t) = L.length by omega] at h2
  omega
theorem refine_s (s : Nat) {i j : Nat} (h : pt L (s + 1) i = pt L (s + 1) j) : pt L s i = pt L s j := pt_eq.mpr fun k hk => pt_eq.mp h k (Nat.lt_succ_of_lt hk)
theorem pt_mod (s i : Nat) : pt L s i = pt L s (i % L.length) := pt_eq.mpr fun k _ => by
  unfold fv
  rw [Nat.add_mod, Nat.add_mod (i % L.length) k, Nat.mod_mod]
theorem still (hn : 1 ≤ L.length) (s : Nat) (h : ∀ i j, i < L.length → j < L.length → pt L s i = pt L s j → pt L (s + 1) i = pt L (s + 1) j) {i j : Nat} (e : pt L s i = pt L s j) : Same L i j := by
  have any : ∀ i j, pt L s i = pt L s j → pt L (s + 1) i = pt L (s + 1) j := fun i j e => by
    rw [pt_mod (s + 1) i, pt_mod (s + 1) j]
    refine h _ _ (Nat.mod_lt _ hn) (Nat.mod_lt _ hn) ?_
    rw [← pt_mod, ← pt_mod]; exact e
  have walk : ∀ k, pt L s (i + k) = pt L s (j + k) := by
    intro k
    induction k with
    | zero => exact e
    | succ k ih =>
      refine pt_eq.mpr fun m hm => ?_
      have := pt_eq.mp (any _ _ ih) (m + 1) (by omega)
      rw [show i + (k + 1) + m = i + k + (m + 1) by omega, show j + (k + 1) + m = j + k + (m + 1) by omega]
      exact this
  intro k
  have := pt_eq.mp (any _ _ (walk k)) 0 (by omega)
  simpa using this
theorem rises (hn : 1 ≤ L.length) (hs : Same L t 0) (hl : ∀ a, 1 ≤ a → a < t → ¬Same L a 0) (t0 : 1 ≤ t) (tn : t ≤ L.length) (s : Nat) :
    (cnt (pt L s) L.length < t → cnt (pt L s) L.length < cnt (pt L (s + 1)) L.length) ∧ (t ≤ cnt (pt L s) L.length → cnt (pt L (s + 1)) L.length = t) := by
  have le : cnt (pt L s) L.length ≤ cnt (pt L (s + 1)) L.length := cnt_le L.length fun i j _ _ e => refine_s s e
  refine ⟨fun h => ?_, fun h => ?_⟩
  · rcases Nat.lt_or_eq_of_le le with q | q
    · exact q
    · have := all_t hn hl tn s fun i j _ _ e => still hn s (fun i j hi hj e => cnt_same L.length (fun i j _ _ e => refine_s s e) q i j hi hj e) e
      omega
  · have := upto_t hs t0 (s + 1) tn
    omega
end

/-! the ring -/
theorem ahead_cnt {L : List Nat} (hn : 1 ≤ L.length) : ∀ i, i ≤ L.length → ahead (mk L) L.length i = cnt (pt L i) L.length
  | 0, _ => by
    have h1 := cnt_upto (g := pt L 0) (t := 1) L.length fun i h1 _ => ⟨0, by omega, pt_eq.mpr fun k hk => absurd hk (Nat.not_lt_zero _)⟩
    have h2 := cnt_grow (pt L 0) 1 (L.length - 1)
    have h3 := cnt_inj (g := pt L 0) 1 fun i j hij hj => by omega
    rw [show 1 + (L.length - 1) = L.length by omega] at h2
    have : ahead (mk L) L.length 0 = 1 := rfl
    omega
  | i + 1, h => by
    show (unlike (parts (mk L ++ mk L) L.length (i + 1))).length = _
    rw [parts_pt h]; rfl
theorem fv_lt {L : List Nat} (h : ∀ x ∈ L, x < 0x110000) (i : Nat) : fv L i < 0x110000 := by
  unfold fv
  rw [List.getD_eq_getElem?_getD]
  cases e : L[i % L.length]? with
  | none => simp
  | some x => exact h x (List.mem_of_getElem? e)
theorem pt_ok {L : List Nat} (h : ∀ x ∈ L, x < 0x110000) (s i : Nat) : PyData.strOk (pt L s i) = true := by
  unfold PyData.strOk pt
  simp only [List.all_toArray, List.all_map, List.all_eq_true, Function.comp]
  intro k _
  exact decide_eq_true (fv_lt h _)
theorem ring_list (L : List Nat) (hn : 1 ≤ L.length) (h6 : L.length ≤ 6) (hok : ∀ x ∈ L, x < 0x110000) : ∃ t, Ring (mk L) L.length t := by
  obtain ⟨t, t0, tn, hs, hl⟩ := least L hn
  have hlen : (mk L).length = L.length := by simp [Str.length]
  have hfull : ∀ a : Nat, a ≤ L.length → PySem.Txt.slice (mk L ++ mk L) (some (a : Int)) (some ((a : Int) + ((mk L).length : Int))) = pt L L.length a := fun a ha => by
    rw [hlen]; exact slice_pt (by omega)
  have cast : ∀ i : Nat, (L.length : Int) + (1 + (i : Int)) - 1 = ((L.length + i : Nat) : Int) := fun i => by omega
  have cast2 : ∀ i : Nat, (1 : Int) + (i : Int) = ((i + 1 : Nat) : Int) := fun i => by omega
  have hr := fun s => rises hn hs hl t0 tn s
  refine ⟨t, ⟨hlen, hn, h6, t0, tn, ?_, ?_, ?_, ?_, ?_, ?_, ?_, ?_, ?_⟩⟩
  · intro a a0 a1
    rw [hfull a (by omega)]
    refine beq_eq_false_iff_ne.mpr fun e => hl a a0 a1 ?_
    rw [← pt_full hn] at e
    exact same_full hn e
  · rw [hfull t tn]
    refine beq_iff_eq.mpr ?_
    rw [← pt_full hn]
    exact pt_eq.mpr fun k _ => hs k
  · have := slice_pt (L := L) (i := 0) (s := t) (by omega)
    rw [show ((0 : Nat) : Int) + (t : Int) = (t : Int) by omega] at this
    rw [show (some (0 : Int)) = some ((0 : Nat) : Int) from rfl, this]
    simp [pt, Str.length]
  · intro i hi
    rw [cast, slice_to (by omega)]
    simp [Str.length]; omega
  · intro i hi
    rw [cast, slice_to (by omega), parts_pt (by omega)]
    refine List.map_congr_left fun j hj => ?_
    have := List.mem_range.mp hj
    rw [cast2]
    exact slice_in (by omega) (by omega)
  · intro s hs x hx
    rw [parts_pt hs] at hx
    obtain ⟨j, _, rfl⟩ := List.mem_map.mp hx
    exact pt_ok hok s j
  · intro i hi h
    rw [ahead_cnt hn i (by omega)] at h ⊢
    rw [ahead_cnt hn (i + 1) hi]
    exact (hr i).1 h
  · intro i hi h
    rw [ahead_cnt hn i (by omega)] at h
    rw [ahead_cnt hn (i + 1) hi]
    exact (hr i).2 h
  · rw [ahead_cnt hn L.length (Nat.le_refl _)]
    have h1 := upto_t hs t0 L.length tn
    have h2 := all_t hn hl tn L.length fun i j _ _ e => same_full hn e
    omega
/-- the sign's number -/
noncomputable def sg (c1 k : Int) : Nat := (PySem.Txt.charAt (Str.ofString "abc") ((c1.fdiv ((3 : Int) ^ k.toNat)).fmod 3)).getD 0
theorem abc_lt (i : Int) : (PySem.Txt.charAt (Str.ofString "abc") i).getD 0 < 0x110000 := by
  unfold PySem.Txt.charAt
  cases e : seqIndex? i (Str.ofString "abc").length with
  | none => decide
  | some j =>
    show ((Str.ofString "abc").cps[j]?).getD 0 < 0x110000
    have hc : (Str.ofString "abc").cps = #[97, 98, 99] := by decide
    rw [hc]
    match j with
    | 0 => decide
    | 1 => decide
    | 2 => decide
    | n + 3 => simp
theorem ringOf_eq (c1 : Int) (n : Nat) : ringOf c1 n = mk ((rangeKs 0 n).map (sg c1)) := by
  have e : (rangeKs 0 n).map (sgn c1) = ((rangeKs 0 n).map (sg c1)).map fun k => (⟨#[k]⟩ : Str) := by
    rw [List.map_map]; rfl
  unfold ringOf
  rw [e]
  show Builtin.Str.glued (PySem.Str.ofString "") _ = _
  rw [StrLaws.glued_eq_join]
  have z : PySem.Str.ofString "" = ⟨#[]⟩ := by decide
  rw [z]
  exact PyProof.Rows.join_ones _
theorem ring_ok (c1 : Int) (n : Nat) (n1 : 1 ≤ n) (n6 : n ≤ 6) : ∃ t, Ring (ringOf c1 n) n t := by
  have hl : ((rangeKs 0 n).map (sg c1)).length = n := by rw [List.length_map, rangeKs_length]
  have := ring_list ((rangeKs 0 n).map (sg c1)) (by omega) (by omega) (fun x hx => by
    obtain ⟨k, _, rfl⟩ := List.mem_map.mp hx
    exact abc_lt _)
  rw [hl] at this
  rw [ringOf_eq]
  exact this
end

section
set_option maxHeartbeats 8000000
local macro_rules | `(tactic| k_qdec) => `(tactic| decide +kernel)
local macro_rules | `(tactic| walk_at "pyIter ref") => `(tactic| (k_here; refine hold_of ?_))
theorem lawT : PySem.Challenge.rw_xm0958_01.Holds := by
  k_with_none
  (k_with "WhlIf" => ((first | (refine WhlIf.yes (by with_unfolding_all rfl) ?_) | (refine WhlIf.no (by with_unfolding_all rfl) ?_) | (refine WhlIf.yes (by decide) ?_) | (refine WhlIf.no (by decide) ?_)); (try k_fold)))
  (k_with "setAttr ref" => (k_here; k_dflt (refine set_dict_any (by k_asm) (by k_asm) (by k_asm) (by k_inst) (by exact rfl) (by k_is) (by k_is) (by k_is) (by k_is) (by k_get) (by (intro kH kt; k_put)) (by (intro kH kt; k_upd)) (by (intro kH kt; exact Nat.le_of_ble_eq_true rfl)) ?_; k_whole); intro kwh kwH kwt kwF kwN; (try k_sweep)))
  (k_with "k_allIn" => (first | exact List.forall_mem_nil _ | (refine List.forall_mem_cons.mpr ⟨by (first | exact nth_mem 0 rfl | exact nth_mem 1 rfl | exact nth_mem 2 rfl | exact nth_mem 3 rfl | exact nth_mem 4 rfl | exact nth_mem 5 rfl | exact nth_mem 6 rfl | exact nth_mem 7 rfl | exact nth_mem 8 rfl | exact nth_mem 9 rfl | exact nth_mem 10 rfl | exact nth_mem 11 rfl | exact nth_mem 12 rfl | exact nth_mem 13 rfl | exact nth_mem 14 rfl | exact nth_mem 15 rfl | exact nth_mem 16 rfl | exact nth_mem 17 rfl | exact nth_mem 18 rfl | exact nth_mem 19 rfl | exact nth_mem 20 rfl | exact nth_mem 21 rfl | exact nth_mem 22 rfl | exact nth_mem 23 rfl | exact nth_mem 24 rfl | exact nth_mem 25 rfl | k_memK), ?_⟩; k_allIn)))
  (k_with "lcg_sub" => (first | exact List.forall_mem_nil _ | (refine List.forall_mem_cons.mpr ⟨by (first | exact nth_mem 0 rfl | exact nth_mem 1 rfl | exact nth_mem 2 rfl | exact nth_mem 3 rfl | exact nth_mem 4 rfl | exact nth_mem 5 rfl | exact nth_mem 6 rfl | exact nth_mem 7 rfl | exact nth_mem 8 rfl | exact nth_mem 9 rfl | exact nth_mem 10 rfl | exact nth_mem 11 rfl | exact nth_mem 12 rfl | exact nth_mem 13 rfl | exact nth_mem 14 rfl | exact nth_mem 15 rfl | exact nth_mem 16 rfl | exact nth_mem 17 rfl | exact nth_mem 18 rfl | exact nth_mem 19 rfl | exact nth_mem 20 rfl | exact nth_mem 21 rfl | exact nth_mem 22 rfl | exact nth_mem 23 rfl | exact nth_mem 24 rfl | exact nth_mem 25 rfl | k_mem), ?_⟩; lcg_sub)))
  (k_with "k_ne" => (refine neN ?_; (try dsimp only); first
    | exact allLt_ne (by with_reducible assumption) (by k_mem)
    | exact allLt_ne' (by with_reducible assumption) (by k_mem)
    | exact far_ne (by with_reducible assumption) (by k_mem)
    | exact far_ne' (by with_reducible assumption) (by k_mem)
    | exact allLt_ne2 (by with_reducible assumption) (by with_reducible assumption) (by k_mem)
    | exact allLt_ne2' (by with_reducible assumption) (by with_reducible assumption) (by k_mem)
    | exact Nat.ne_of_lt (by assumption)
    | exact Nat.ne_of_gt (by assumption)
    | assumption
    | (refine Ne.symm ?_; assumption)
    | exact off1_ne (by assumption) (by k_mem)
    | (refine Ne.symm ?_; exact off1_ne (by assumption) (by k_mem))
    | exact apart_ne (by assumption) (by k_mem) (by k_mem)
    | exact apart_ne' (by assumption) (by k_mem) (by k_mem)
    | omega))
  (k_with "lcg_off" => first | exact True.intro | assumption | (refine And.intro ⟨by k_ne, by k_ne, by k_ne⟩ ?_; lcg_off))
  (k_with "k_room" => ((try simp only [depth_under_make, depth_under_kw, depth_in1, depth_deeper, depth_caller]); (try dsimp only [ktrTop]); first | exact Nat.le_of_ble_eq_true rfl | exact room1 (by assumption) rfl | exact room2 (by assumption) rfl | exact room3 (by assumption) rfl | exact room4 (by assumption) rfl | omega))
  (k_with "k_units" => ((try simp only [units_in1, units_deeper, Around.mark_units, units_caller]); (try dsimp only [ktrTop]); first | exact Nat.le_of_ble_eq_true rfl | exact room1 (by assumption) rfl | exact room2 (by assumption) rfl | exact room3 (by assumption) rfl | exact room4 (by assumption) rfl | omega))
  (k_with "eval ListComp" => (k_here; k_dflt (refine LCg.ListComp_U (F₀ := by k_asm) (by with_unfolding_all rfl) (by decide) (by rfl) (by decide) (by rfl) ?_)))
  (k_with "CompRest" => (with_unfolding_all first
    | (refine LCg.CompRest.succ ?_; intro kwv kwI kwoI kwC kwoC kwD kwm kwh kwtk kwE kwhv kwhC kwhx kwF kwN kwoff kwne; (first | lcg_open kwhv | (obtain ⟨kwt9, kwhv9⟩ := kwhv; subst kwhv9)))
    | refine LCg.CompRest.zero ?_))
  (k_with "FinE" => ((unfold LCg.FinE); intro kwD kwh kwtk kwF kwN kwo1; (try simp only [List.nil_append, List.cons_append] at kwN); (try dsimp only)))
  (k_with "compareOp In str ref" => (k_here; (with_reducible show wpAny _ _ (compareOp CmpOp.In (Value.str _ _) (Value.ref _)) _ _ _); k_dflt (first
    | (refine in_topTup (b := true) (by k_asm) (by k_asm) (by k_is) (by (repeat constructor)) (by decide) ?_; k_whole)
    | (refine in_topTup (b := false) (by k_asm) (by k_asm) (by k_is) (by (repeat constructor)) (by decide) ?_; k_whole))))
  (k_with "k_enter" => ((fail_if_success k_inElt); (refine code_def (by k_asm) (by k_asm) (by k_asm) (by k_asm) (by k_asm) rfl rfl rfl (by k_is) (by k_is) (by k_room) (by (first | exact binds1 rfl | exact binds2 rfl | exact binds3 rfl | exact binds4 rfl | exact binds7 rfl)) (by exact locs rfl) ?_ rfl rfl rfl (by decide); k_whole; intro kwg kwL kwh kwFG kwF kwN kwB kwX kwT; (try dsimp only [List.reverse_cons, List.reverse_nil, List.nil_append, List.cons_append]); (try k_lift kwB); (try k_fold))))
  (k_with "compareOp Eq str str" => (k_here; refine eq_str_no (by assumption) ?_))
  (k_with "subscriptTail Name Constant ref int" => (k_here; (with_reducible show wpAny _ _ (subscriptTail _ _ (Value.ref _) (Value.int 0 _)) _ _ _); k_dflt (refine head_tup (by k_asm) (by k_mem) ?_ (by with_unfolding_all rfl); k_whole)))
  (k_with "call builtin:len" => (k_here; (with_reducible show wpAny _ _ (call (Value.builtin "len") [Value.ref _]) _ _ _); k_dflt (refine len_any (by k_asm) (by k_mem) (by (first | assumption | omega | (simp only [Array.size_push]; omega))) ?_); k_whole))
  (k_with "compareOp In str ref" => (k_here; (with_reducible show wpAny _ _ (compareOp CmpOp.In (Value.str _ _) (Value.ref _)) _ _ _); k_dflt (refine in_nil (by k_asm) (by k_mem) ?_)))
  (k_with "subscriptTail Name Slice ref ref" => (k_here; (with_reducible show wpAny _ _ (subscriptTail _ (PySem.Expr.Slice (some _) _ none _) (Value.ref _) (Value.ref _)) _ _ _); k_dflt (refine kmk_slice_ints (by k_asm) (by k_asm) (by kmk_list) (by kmk_part) (by kmk_part) (by l_ints) (by exact kmk_from (by l_ints) (Int.natCast_nonneg _)) (by kmk_len) ?_ (by with_unfolding_all rfl) (by kmk_pure) (by kmk_size)); intro kwD kwws kwh kwF kwN l1 kwhI kwhC kwhL; (try k_lt l1); (try k_sweep)))
  (k_with "CompSrc" => (k_here; (with_reducible rename IsRange _ _ _ _ _ _ _ _ => hr9); refine hold_of ?_))
  (k_with "binaryOp Pow int int" => (k_here; refine pow_int_small ?pw1 ?pw2 ?pw3 ?_; (case pw1 => assumption); (case pw2 => omega); (case pw3 => decide)))
  (k_with "binaryOp FloorDiv int int" => (k_here; refine hold_of ?_))
  (k_with "newTuple" => (k_here; k_dflt (refine kup_newTuple (by k_asm) (by k_asm) ?_ (by kmk_size)); intro kwD kwh kwF kwN l1; (try k_lt l1); (try k_sweep)))
  (k_with "LeaveK" => (k_dflt (refine leaveK_ (by k_asm) (by k_asm) ?_; k_whole); intro kF kN; (try dsimp only at kF kN); ground_anew kF; (have kX := kFor kF (by k_asm)); (have kT := top_of kF (by k_asm)); (try dsimp only [InitBack]); (try refine ⟨rfl, ?_⟩); (try dsimp only)))
  (k_with "subscriptTail" => (k_here; (with_reducible show wpAny _ _ (subscriptTail _ _ (Value.str _ _) (Value.int (Int.fmod _ _) _)) _ _ _); refine item_str_fmod (by decide) (by decide) (by decide) ?_; intro _))
  (k_with "exec Return some" => (k_here; exfalso; omega))
  (k_with "exec For Name Call cons nil" => (k_here; (rename Fr _ _ _ _ => kwlF); (with_unfolding_all refine' For_turns kwlF ?_; k_whole)))
  (k_with "call builtin:len" => (k_here; (with_reducible show wpAny _ _ (call (Value.builtin "len") [Value.str _ _]) _ _ _); refine len_known (by with_reducible assumption) (by omega) ?_))
  (k_with "subscriptTail Constant BinOp str int" => (k_here; (with_reducible show wpAny _ _ (subscriptTail _ _ (Value.str _ _) (Value.int (Int.fmod _ _) _)) _ _ _); refine item_str_fmod (by decide) (by decide) (by decide) ?_; intro _))
  (k_with "CompEnd" => ((with_reducible rename IsRange _ _ _ _ _ _ _ _ => hr9); refine hold_of ?_))
  (k_with "call ref" => (k_here; (with_reducible show wpAny _ _ (call (Value.ref 551) [_, _, _, _]) _ _ _); refine hold_of ?_))
  (k_with "exec Assign cons ListComp" => (k_here; (refine LCp.Assign_ListComp_P (F₀ := by k_asm) (by rfl) (by with_unfolding_all rfl) (by with_unfolding_all rfl) (by decide) (by rfl) (by decide) (by rfl) (by rfl) (by decide) (by rfl) (by rfl) ?_)))
  (k_with "compareOp NotEq ref ref" => (refine hold_of ?_))
  (k_with "call type:set" => (k_here; refine hold_of ?_))
  (k_with "call builtin:len" => ((with_reducible rename Obj.SetObjOf _ _ _ _ => hso9); refine hold_of ?_))
  (k_with "SrcLP" => (refine hold_of ?_))
  (k_with "call ref" => (k_here; (with_reducible show wpAny _ _ (call (Value.ref 589) [Value.ref _, Value.int 9999 _, Value.ref _]) _ _ _); k_dflt (refine Con.use2 (by k_asm) (by k_asm) (by k_allIn) (by ((repeat (first | exact Take.nil | (apply Take.cons; focus ((repeat (first | exact Rem.head | apply Rem.tail)); done)))); done)) (by ((repeat (first | exact fars_nil | refine fars_cons (by ((try simp only [List.cons_append, List.nil_append]); k_all)) ?_)); done)) (by ((repeat (first | exact fars_nil | refine fars_cons (by ((try simp only [List.cons_append, List.nil_append]); k_all)) ?_)); done)) (by k_asm) (by k_asm) (by k_asm) rfl (by k_room) (by k_units) (hostC _ _ _ _  ) ?_); rintro v9 made9 chg9 h9 tk9 ⟨x9, d9, lg9, T9, u9, e9, f9, g9⟩ F9 N9 A9; subst e9; subst f9; subst g9; (try simp only [List.cons_append, List.nil_append] at N9); (try dsimp only [Fars, List.cons_append, List.nil_append] at A9); obtain ⟨A09, A19, A29, -⟩ := A9; (try dsimp only); (try k_sweep)))
  refine hd ⟨_, ⟨_, _, _, _, _, _, _⟩, _ :: _, ⟨_, _, _, _, _⟩, _⟩ (by rfl) (by rfl) (by rfl) ?_
  k_go0
  all_goals try k_fold
  try k_fold
  k_steps
  unfold Hold
  rename Heap.CodeRec _ _ _ => hcd9
  clear hcd9
  obtain ⟨c0, c1, p0, p1, hc⟩ := two_cells (by assumption)
  rename IntsAre _ (List.map _ _ ++ _) => hi
  rename IsRange _ _ _ _ _ _ _ _ => hr9
  rw [hc] at hi hr9
  cases hi with | cons _ t1 hi => ?_
  cases hi with | cons _ t2 hi => ?_
  cases hi
  obtain ⟨n, hn, n1, n6⟩ : ∃ n : Nat, 1 + c0.fmod 6 = (n : Int) ∧ 1 ≤ n ∧ n ≤ 6 := ring_size c0
  replace hr9 := range_eq hn hr9
  rename News _ _ _ _ => lN
  replace lN := news_d5 lN
  refine LCg.CompSrc.range (n := n) (by rfl) (by k_asm) (by k_asm) hr9 (by exact small_one (by omega) (by omega) (by omega) (by omega)) (by exact range_nat n) (by rw [PySem.sizeLine_eq]; omega) ?_
  intro g'
  refine' kct_range (sgn c1) (fun k' t' I' oI' C' oC' D' m' ys' h' tk' E' hlo' hhi' hC' hx' F' N' off' ne' hMark' => ?_) ?_
  · have off9 := off'
    simp only [LCg.Off3, and_true] at off'
    try k_fold
    k_steps
    unfold Hold
    obtain ⟨w1, w2⟩ := pow_ok hlo' (show k' < 6 by omega)
    refine floordiv_int w1 ?_ (Or.inl (PyProof.noPylong_small w2))
    try k_fold
    k_steps
    unfold Hold
    exact LCg.CompEnd.intro (by assumption) (by assumption) _ (fun _ h => h) off9 True.intro (kct_el rfl rfl rfl)
  · (k_with "newTuple" => (k_here; refine hold_of ?_))
    try k_fold
    k_steps
    unfold Hold
    rename World => w
    rename News _ _ _ _ => lN
    obtain ⟨T9, RT, u9, lN2⟩ := law_led lN
    clear lN
    (k_with "newTuple" => (k_here; k_dflt (refine kup_newTuple (by k_asm) (by k_asm) ?_ (by kmk_size)); intro kwD kwh kwF kwN l1; (try k_lt l1); (try k_sweep)))
    try k_fold
    k_steps
    unfold Hold
    rename Fr _ _ _ _ => lF
    rename News _ _ _ _ => lN
    obtain ⟨tn, RG⟩ := ring_ok c1 n n1 n6
    unfold ringOf at RG
    generalize hring : Txt.join (Str.ofString "") (List.map (sgn c1) (rangeKs 0 n)) = ring at *
    have hsl : (ring ++ ring).length = 2 * ring.length := by rw [PySem.Str.length_append]; omega
    refine' Con.use (mc1 w _ _ _ _ _ _ _ _ _ _ _ T9 _ _ _ RT (ring ++ ring) ring _ _ _ _ _ _ _ _ _ tn 0 _ [] #[] 0 ?s_n0 ?s_n1 ?s_hsl ?s_t0 ?s_t1 ?s_hno ?s_hyes ?s_k0 ?s_k1 ?s_hz ?s_hes ?s_hkv) ?cB lF ?cX lN ?cT ?ck ?hK ?hT ?hF ?hF2 ?room ?un ?_
    case hT => ((refine' Take.cons ?r1 ?t1; (case r1 => ((repeat (first | exact Rem.head | apply Rem.tail)); done)); (case t1 => (refine' Take.cons ?r1 ?t1; (case r1 => ((repeat (first | exact Rem.head | apply Rem.tail)); done)); (case t1 => (refine' Take.cons ?r1 ?t1; (case r1 => ((repeat (first | exact Rem.head | apply Rem.tail)); done)); (case t1 => exact Take.nil)))))))
    case hK => (k_allIn)
    case cB => k_asm
    case cX => k_asm
    case cT => k_asm
    case ck => exact rfl
    case hF2 => (repeat (first | exact fars_nil | refine fars_cons (by ((try simp only [List.cons_append, List.nil_append]); k_all)) ?_))
    case hF => (repeat (first | exact fars_nil | refine fars_cons (by ((try simp only [List.cons_append, List.nil_append]); k_all)) ?_))
    case room => k_room
    case un => k_units
    case s_n0 => rw [RG.len]; exact RG.n1
    case s_n1 => rw [RG.len]; exact RG.n6
    case s_hsl => exact hsl
    case s_t0 => exact RG.t0
    case s_t1 => rw [RG.len]; exact RG.t1
    case s_hno => exact RG.hno
    case s_hyes => exact RG.hyes
    case s_k0 => decide
    case s_k1 => decide
    case s_hz => decide
    case s_hes => assumption
    case s_hkv => exact .inl rfl
    rintro v9 made9 chg9 h9 tk9 ⟨r9, a1, a2, a4, a5, x9, k9, o9, i9, j9, rfl, rfl, rfl, X9⟩ F9 N9 A9
    simp only [List.cons_append, List.nil_append] at N9
    dsimp only [Fars, List.cons_append, List.nil_append] at A9
    obtain ⟨A1, -⟩ := A9
    clear lN lF
    replace N9 := law_mid N9
    have hwl := RG.wlen
    have hlr := RG.len
    have ht1 := RG.t1
    have ht0 := RG.t0
    try k_fold
    k_steps
    unfold Hold
    rename IsRange _ _ _ _ _ _ _ _ => rg
    rename Fr _ _ _ _ => lF
    rename News _ _ _ _ => lN
    rename Shared => s1
    obtain ⟨xr, rd, oR, oS, e1, e2, e3, e4, lM⟩ := name_led lN
    subst e1; subst e2; subst e3; subst e4
    clear lN
    have lN := lM
    clear lM
    refine' iter_rangeA (n := n) (x := Str.ofString "ahead") [Str.ofString "subject", Str.ofString "host", Str.ofString "parts", Str.ofString "many"] (fun i v nx => ∃ (t9 : Tok) (oS : Obj) (cv : Option Value), v = .int (ahead ring n i : Int) t9 ∧ nx = [(s1.heap.objs.size + 1 + 1 + 1, oS), (s1.heap.objs.size + 1 + 1, oR), (xr, instObj 208 rd), (rd, refD RT)] ∧ oS.data = Data.cell cv) ?hh rg ?small ?hn lF lN ?hx ?j0 ?turn ?done
    case hh => with_unfolding_all rfl
    case small => exact small_one (by decide) (by decide) (by omega) (by omega)
    case hn => exact range_nat1 n
    case hx => exact rfl
    case j0 => exact ⟨_, _, _, rfl, rfl, by assumption⟩
    case turn =>
      clear lF lN rg
      intro i t9 v9 m₁ news₁ h tk I oI hi hJ hFI F1 N1
      obtain ⟨t8, oS2, cv, rfl, rfl, hcS⟩ := hJ
      replace hFI := id hFI
      try k_fold
      k_steps
      unfold Hold
      rename Fr _ _ _ _ => lF
      rename News _ _ _ _ => lN
      obtain ⟨T8, u8, lN2⟩ := host_led lN
      clear lN
      have lN := lN2
      clear lN2
      have hsl2 := RG.slen i hi
      have hrl := RG.len
      have hn6 := RG.n6
      refine' Con.use (mc2 w _ _ _ _ _ _ _ _ _ T8 _ xr rd RT _ _ _ _ _ _ _ (1 + (i : Int)) 0 n _ [] 0 ?y_n0 ?y_n1 ?y_g4 ?y_k0 ?y_k1 ?y_hN ?y_hes ?y_hkz) ?yB lF ?yX lN ?yT ?yk ?yhK ?yhT ?yhF ?yhF2 ?yroom ?yun ?_
      case yhT => ((refine' Take.cons ?r1 ?t1; (case r1 => ((repeat (first | exact Rem.head | apply Rem.tail)); done)); (case t1 => (refine' Take.cons ?r1 ?t1; (case r1 => ((repeat (first | exact Rem.head | apply Rem.tail)); done)); (case t1 => (refine' Take.cons ?r1 ?t1; (case r1 => ((repeat (first | exact Rem.head | apply Rem.tail)); done)); (case t1 => exact Take.nil)))))))
      case yhK => (k_allIn)
      case yB => k_asm
      case yX => k_asm
      case yT => k_asm
      case yk => exact rfl
      case yhF2 => (repeat (first | exact fars_nil | refine fars_cons (by ((try simp only [List.cons_append, List.nil_append]); k_all)) ?_))
      case yhF => (repeat (first | exact fars_nil | refine fars_cons (by ((try simp only [List.cons_append, List.nil_append]); k_all)) ?_))
      case yroom => k_room
      case yun => k_units
      case y_n0 => omega
      case y_n1 => have hi' : @LT.lt Nat _ i n := hi; omega
      case y_g4 => have hi' : @LT.lt Nat _ i n := hi; omega
      case y_k0 => decide
      case y_k1 => decide
      case y_hN => rw [hsl2]; omega
      case y_hes => assumption
      case y_hkz => decide
      rintro v9 made9 chg9 h9 tk9 ⟨rfl, ov9, qv9, j9, k9, u9, rfl, g9⟩ F9 N9 A9
      replace N9 := news_swap N9
      simp only [List.cons_append, List.nil_append] at N9 A9
      replace N9 := turn_mid N9
      clear lF lN
      as_aux_lemma =>
        try k_fold
        k_steps
        unfold Hold
        rename News _ _ _ _ => lN
        refine LCp.SrcLP.ledger (by rfl) (by k_asm) lN (by k_mem) ?_ ?_
        · rw [List.size_toArray, g9.len, List.length_map, List.length_range, PySem.sizeLine_eq]; omega
        intro g'
        refine' pairs_rest g9 (fun p hp => by repeat (first | exact hp | refine List.mem_cons_of_mem _ ?_)) (fun X t I' oI' C' oC' D' m' ys' h' tk' E' hC' hx' F' N' off' ne' => ?_) (fun ys hys => ?_)
        · have off9 := off'
          try k_fold
          k_steps
          unfold Hold
          exact LCg.CompEnd.intro (by assumption) (by assumption) _ (fun _ h => h) off9 (.inr ⟨_, by k_mem, rfl, _, rfl⟩) (kct_el rfl rfl rfl)
        · rw [RG.pts i hi] at hys
          unfold LCg.FinA
          intro D' h' tk' F' N' o1'
          try k_fold
          k_steps
          unfold Hold
          rename IsRange _ _ _ _ _ _ _ _ => hr9
          refine LCg.CompSrc.range (n := n) (by rfl) (by k_asm) (by k_asm) hr9 (by exact small_one (by omega) (by omega) (by omega) (by omega)) (by exact range_nat n) (by rw [PySem.sizeLine_eq]; omega) ?_
          intro g'
          refine' kct_range (fun k => PySem.Txt.slice (ring ++ ring) (some k) (some (k + (1 + (i : Int))))) (fun k' t' I' oI' C' oC' D' m' ys' h' tk' E' hlo' hhi' hC' hx' F' N' off' ne' hMark' => ?_) ?_
          · have off9 := off'
            simp only [LCg.Off3, and_true] at off'
            try k_fold
            k_steps
            unfold Hold
            exact LCg.CompEnd.intro (by assumption) (by assumption) _ (fun _ h => h) off9 True.intro (kct_el rfl rfl rfl)
          · unfold KPfDone
            intro ys2 hC2 hlen2
            rw [range_parts] at hC2
            unfold LCg.FinE
            intro D2 h2 tk2 F2 N2 o2
            have hok := RG.ok (i + 1) hi
            try k_fold
            k_steps
            unfold Hold
            refine' ne_texts ?nta ?ntb ?nti ?ntj ?nto ?ntu ?_
            case nti => exact hys
            case ntj => exact hC2
            case nta => exact News.isList (by k_asm) (by k_mem)
            case ntb => exact News.isList (by k_asm) (by k_mem)
            case nto => exact hok
            case ntu => k_units
            try k_fold
            k_steps
            unfold Hold
            rename Fr _ _ _ _ => lF
            rename News _ _ _ _ => lN
            refine' set_texts_N lF lN ?vh ?vl hys ?vb ?_
            case vh => with_unfolding_all rfl
            case vl => exact News.isList lN (by k_mem)
            case vb => rw [hys.len_eq]; unfold parts; rw [List.length_map, List.length_range]; unfold scanBound; omega
            intro D3 h3 tk3 o3 F3 N3 l3 hso3
            clear lF lN
            have hup : ahead ring n i < tn → ahead ring n i < (unlike (parts (ring ++ ring) n (i + 1))).length := RG.up i hi
            have hst : tn ≤ ahead ring n i → (unlike (parts (ring ++ ring) n (i + 1))).length = tn := RG.stay i hi
            have hle : (unlike (parts (ring ++ ring) n (i + 1))).length ≤ n := unlike_parts _ _ _
            try k_fold
            k_steps
            unfold Hold
            rename Obj.SetObjOf _ _ _ _ => hso3
            refine' len_sl1 (own := []) N3 hso3 ?slz ?_
            case slz => exact Int.lt_of_le_of_lt (Int.ofNat_le.mpr (Nat.le_trans hle RG.n6)) (by decide)
            try k_fold
            k_steps
            all_goals
              unfold TurnEndA
              dsimp only
              rename Fr _ _ _ _ => lF
              rename News _ _ _ _ => lN
              replace lN := id lN
              replace lF := id lF
              refine' ⟨_, _, _, [(s1.heap.objs.size + 1 + 1 + 1, _), (s1.heap.objs.size + 1 + 1, oR), (xr, instObj 208 rd), (rd, refD RT)], _, ?tts, lF, news_sub lN ?tsub, ⟨?tfar⟩, ?tfg, ?ttm, ⟨_, _, _, ?ttv, ?ttn, ?tcell⟩⟩
              case tts => (exact rfl)
              case ttm => (exact rfl)
              case ttn => (exact rfl)
              case ttv => (exact congrArg (fun z : Nat => Value.int (z : Int) _) (ahead_succ ring n i).symm)
              case tsub => exact turn_sub
              case tcell => assumption
              case tfar => exact List.forall_mem_cons.mpr ⟨hFI.all (_, oS2) (.head _), fun p hp => hFI.all p (.tail _ hp)⟩
              case tfg => intro z h1 h2; simp only [List.mem_cons, List.not_mem_nil, or_false, not_or] at h2; simp [h1, h2.1, h2.2]
    case done =>
      clear lF lN rg
      intro v9 m₁ news₁ h tk hJ F1 N1
      obtain ⟨t8, oS2, cv, rfl, rfl, hcS⟩ := hJ
      rw [RG.last] at F1
      as_aux_lemma =>
        try k_fold
        k_steps
end
end Mine
theorem PySem.Challenge.cw_xm0958_01_holds : PySem.Challenge.rw_xm0958_01.Holds :=
  Mine.lawT
