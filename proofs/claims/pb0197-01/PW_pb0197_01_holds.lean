import PyProof.Rows.All
import Open.Line
import OpenK.KCell
import Open.Boot
import Open.Tree
import Open.FastT9
import Wide.All
import PySem.Challenge.RW_pb0197_01
set_option Elab.async false
set_option maxRecDepth 100000
set_option linter.unusedVariables false
set_option linter.unusedSimpArgs false
open PySem PySem.W PyProof.Rows PySem.Calls PySem.Spec
namespace Mine
noncomputable abbrev PG : Program := PySem.Challenge.pw_pb0197_01
noncomputable def noSt : Stmt := .Pass ⟨0, 0, 0, 0⟩
noncomputable def topAt (i : Nat) : Stmt := PySem.Challenge.pw_pb0197_01.main.body.getD i noSt
noncomputable def inAt (i j : Nat) : Stmt := match topAt i with
  | .ClassDef _ _ _ body _ _ _ _ _ _ _ => body.getD j noSt
  | _ => noSt
noncomputable def stArgs : Stmt → Arguments
  | .FunctionDef _ a _ _ _ _ _ _ _ _ => a
  | _ => default
noncomputable def stBody : Stmt → List Stmt
  | .FunctionDef _ _ b _ _ _ _ _ _ _ => b
  | _ => []
noncomputable def stScope : Stmt → Scope
  | .FunctionDef _ _ _ _ _ _ s _ _ _ => s
  | _ => default
noncomputable def F35 : FuncData := { name := (Str.ofString "__init__"), qualname := (Str.ofString "Lookup.__init__"), params := stArgs (inAt 6 0), body := .stmts (stBody (inAt 6 0)), scope := stScope (inAt 6 0), globals := 3, closure := [], defaults := .none, kwdefaults := .none, doc := .none, pyModule := (.str (Str.ofString "joinedhand.flags") 194), annotations := none, code := (.ref 34), closureTuple := .none, builtins := 0 }
noncomputable def F62 : FuncData := { name := (Str.ofString "__init__"), qualname := (Str.ofString "Scene.__init__"), params := stArgs (inAt 7 0), body := .stmts (stBody (inAt 7 0)), scope := stScope (inAt 7 0), globals := 3, closure := [], defaults := (.ref 55), kwdefaults := .none, doc := .none, pyModule := (.str (Str.ofString "joinedhand.flags") 194), annotations := none, code := (.ref 61), closureTuple := .none, builtins := 0 }
noncomputable def F83 : FuncData := { name := (Str.ofString "class_bit"), qualname := (Str.ofString "class_bit"), params := stArgs (topAt 9), body := .stmts (stBody (topAt 9)), scope := stScope (topAt 9), globals := 3, closure := [], defaults := .none, kwdefaults := .none, doc := .none, pyModule := (.str (Str.ofString "joinedhand.flags") 194), annotations := none, code := (.ref 82), closureTuple := .none, builtins := 0 }
noncomputable def F90 : FuncData := { name := (Str.ofString "is_ignored"), qualname := (Str.ofString "is_ignored"), params := stArgs (topAt 10), body := .stmts (stBody (topAt 10)), scope := stScope (topAt 10), globals := 3, closure := [], defaults := .none, kwdefaults := .none, doc := .none, pyModule := (.str (Str.ofString "joinedhand.flags") 194), annotations := none, code := (.ref 89), closureTuple := .none, builtins := 0 }
noncomputable def F97 : FuncData := { name := (Str.ofString "passes"), qualname := (Str.ofString "passes"), params := stArgs (topAt 11), body := .stmts (stBody (topAt 11)), scope := stScope (topAt 11), globals := 3, closure := [], defaults := .none, kwdefaults := .none, doc := .none, pyModule := (.str (Str.ofString "joinedhand.flags") 194), annotations := none, code := (.ref 96), closureTuple := .none, builtins := 0 }
noncomputable def F103 : FuncData := { name := (Str.ofString "glyph_tests"), qualname := (Str.ofString "glyph_tests"), params := stArgs (topAt 14), body := .stmts (stBody (topAt 14)), scope := stScope (topAt 14), globals := 3, closure := [], defaults := .none, kwdefaults := .none, doc := .none, pyModule := (.str (Str.ofString "joinedhand.matching") 319), annotations := none, code := (.ref 102), closureTuple := .none, builtins := 0 }
noncomputable def F110 : FuncData := { name := (Str.ofString "fits"), qualname := (Str.ofString "fits"), params := stArgs (topAt 15), body := .stmts (stBody (topAt 15)), scope := stScope (topAt 15), globals := 3, closure := [], defaults := .none, kwdefaults := .none, doc := .none, pyModule := (.str (Str.ofString "joinedhand.matching") 319), annotations := none, code := (.ref 109), closureTuple := .none, builtins := 0 }
noncomputable def F117 : FuncData := { name := (Str.ofString "is_borne"), qualname := (Str.ofString "is_borne"), params := stArgs (topAt 16), body := .stmts (stBody (topAt 16)), scope := stScope (topAt 16), globals := 3, closure := [], defaults := .none, kwdefaults := .none, doc := .none, pyModule := (.str (Str.ofString "joinedhand.matching") 319), annotations := none, code := (.ref 116), closureTuple := .none, builtins := 0 }
noncomputable def F124 : FuncData := { name := (Str.ofString "found_at"), qualname := (Str.ofString "found_at"), params := stArgs (topAt 17), body := .stmts (stBody (topAt 17)), scope := stScope (topAt 17), globals := 3, closure := [], defaults := .none, kwdefaults := .none, doc := .none, pyModule := (.str (Str.ofString "joinedhand.matching") 319), annotations := none, code := (.ref 123), closureTuple := .none, builtins := 0 }
noncomputable def F131 : FuncData := { name := (Str.ofString "input_at"), qualname := (Str.ofString "input_at"), params := stArgs (topAt 18), body := .stmts (stBody (topAt 18)), scope := stScope (topAt 18), globals := 3, closure := [], defaults := .none, kwdefaults := .none, doc := .none, pyModule := (.str (Str.ofString "joinedhand.matching") 319), annotations := none, code := (.ref 130), closureTuple := .none, builtins := 0 }
noncomputable def F138 : FuncData := { name := (Str.ofString "is_piece"), qualname := (Str.ofString "is_piece"), params := stArgs (topAt 19), body := .stmts (stBody (topAt 19)), scope := stScope (topAt 19), globals := 3, closure := [], defaults := .none, kwdefaults := .none, doc := .none, pyModule := (.str (Str.ofString "joinedhand.matching") 319), annotations := none, code := (.ref 137), closureTuple := .none, builtins := 0 }
noncomputable def F145 : FuncData := { name := (Str.ofString "hold_together"), qualname := (Str.ofString "hold_together"), params := stArgs (topAt 20), body := .stmts (stBody (topAt 20)), scope := stScope (topAt 20), globals := 3, closure := [], defaults := .none, kwdefaults := .none, doc := .none, pyModule := (.str (Str.ofString "joinedhand.matching") 319), annotations := none, code := (.ref 144), closureTuple := .none, builtins := 0 }
noncomputable def F159 : FuncData := { name := (Str.ofString "__init__"), qualname := (Str.ofString "Info.__init__"), params := stArgs (inAt 22 0), body := .stmts (stBody (inAt 22 0)), scope := stScope (inAt 22 0), globals := 3, closure := [], defaults := .none, kwdefaults := .none, doc := .none, pyModule := (.str (Str.ofString "joinedhand.buffer") 390), annotations := none, code := (.ref 158), closureTuple := .none, builtins := 0 }
noncomputable def F195 : FuncData := { name := (Str.ofString "__init__"), qualname := (Str.ofString "Buffer.__init__"), params := stArgs (inAt 23 0), body := .stmts (stBody (inAt 23 0)), scope := stScope (inAt 23 0), globals := 3, closure := [], defaults := (.ref 188), kwdefaults := .none, doc := .none, pyModule := (.str (Str.ofString "joinedhand.buffer") 390), annotations := none, code := (.ref 194), closureTuple := .none, builtins := 0 }
noncomputable def F217 : FuncData := { name := (Str.ofString "next_lig"), qualname := (Str.ofString "Buffer.next_lig"), params := stArgs (inAt 23 4), body := .stmts (stBody (inAt 23 4)), scope := stScope (inAt 23 4), globals := 3, closure := [], defaults := .none, kwdefaults := .none, doc := .none, pyModule := (.str (Str.ofString "joinedhand.buffer") 390), annotations := none, code := (.ref 216), closureTuple := .none, builtins := 0 }
noncomputable def F238 : FuncData := { name := (Str.ofString "set_cluster"), qualname := (Str.ofString "set_cluster"), params := stArgs (topAt 24), body := .stmts (stBody (topAt 24)), scope := stScope (topAt 24), globals := 3, closure := [], defaults := .none, kwdefaults := .none, doc := .none, pyModule := (.str (Str.ofString "joinedhand.buffer") 390), annotations := none, code := (.ref 237), closureTuple := .none, builtins := 0 }
noncomputable def F245 : FuncData := { name := (Str.ofString "widened"), qualname := (Str.ofString "widened"), params := stArgs (topAt 25), body := .stmts (stBody (topAt 25)), scope := stScope (topAt 25), globals := 3, closure := [], defaults := .none, kwdefaults := .none, doc := .none, pyModule := (.str (Str.ofString "joinedhand.buffer") 390), annotations := none, code := (.ref 244), closureTuple := .none, builtins := 0 }
noncomputable def F250 : FuncData := { name := (Str.ofString "merge"), qualname := (Str.ofString "merge"), params := stArgs (topAt 26), body := .stmts (stBody (topAt 26)), scope := stScope (topAt 26), globals := 3, closure := [], defaults := .none, kwdefaults := .none, doc := .none, pyModule := (.str (Str.ofString "joinedhand.buffer") 390), annotations := none, code := (.ref 249), closureTuple := .none, builtins := 0 }
noncomputable def F264 : FuncData := { name := (Str.ofString "__init__"), qualname := (Str.ofString "ClassDef.__init__"), params := stArgs (inAt 28 0), body := .stmts (stBody (inAt 28 0)), scope := stScope (inAt 28 0), globals := 3, closure := [], defaults := .none, kwdefaults := .none, doc := .none, pyModule := (.str (Str.ofString "joinedhand.classdefs") 542), annotations := none, code := (.ref 263), closureTuple := .none, builtins := 0 }
noncomputable def F271 : FuncData := { name := (Str.ofString "class_of"), qualname := (Str.ofString "ClassDef.class_of"), params := stArgs (inAt 28 1), body := .stmts (stBody (inAt 28 1)), scope := stScope (inAt 28 1), globals := 3, closure := [], defaults := .none, kwdefaults := .none, doc := .none, pyModule := (.str (Str.ofString "joinedhand.classdefs") 542), annotations := none, code := (.ref 270), closureTuple := .none, builtins := 0 }
noncomputable def F312 : FuncData := { name := (Str.ofString "__init__"), qualname := (Str.ofString "Gdef.__init__"), params := stArgs (inAt 33 0), body := .stmts (stBody (inAt 33 0)), scope := stScope (inAt 33 0), globals := 3, closure := [], defaults := (.ref 305), kwdefaults := .none, doc := .none, pyModule := (.str (Str.ofString "joinedhand.gdef") 604), annotations := none, code := (.ref 311), closureTuple := .none, builtins := 0 }
noncomputable def F319 : FuncData := { name := (Str.ofString "glyph_class"), qualname := (Str.ofString "Gdef.glyph_class"), params := stArgs (inAt 33 1), body := .stmts (stBody (inAt 33 1)), scope := stScope (inAt 33 1), globals := 3, closure := [], defaults := .none, kwdefaults := .none, doc := .none, pyModule := (.str (Str.ofString "joinedhand.gdef") 604), annotations := none, code := (.ref 318), closureTuple := .none, builtins := 0 }
noncomputable def F371 : FuncData := { name := (Str.ofString "__init__"), qualname := (Str.ofString "Ligature.__init__"), params := stArgs (inAt 39 0), body := .stmts (stBody (inAt 39 0)), scope := stScope (inAt 39 0), globals := 3, closure := [], defaults := .none, kwdefaults := .none, doc := .none, pyModule := (.str (Str.ofString "joinedhand.ligature") 681), annotations := none, code := (.ref 370), closureTuple := .none, builtins := 0 }
noncomputable def F390 : FuncData := { name := (Str.ofString "part_count"), qualname := (Str.ofString "part_count"), params := stArgs (topAt 40), body := .stmts (stBody (topAt 40)), scope := stScope (topAt 40), globals := 3, closure := [], defaults := .none, kwdefaults := .none, doc := .none, pyModule := (.str (Str.ofString "joinedhand.ligature") 681), annotations := none, code := (.ref 389), closureTuple := .none, builtins := 0 }
noncomputable def F395 : FuncData := { name := (Str.ofString "way_of"), qualname := (Str.ofString "way_of"), params := stArgs (topAt 41), body := .stmts (stBody (topAt 41)), scope := stScope (topAt 41), globals := 3, closure := [], defaults := .none, kwdefaults := .none, doc := .none, pyModule := (.str (Str.ofString "joinedhand.ligature") 681), annotations := none, code := (.ref 394), closureTuple := .none, builtins := 0 }
noncomputable def F402 : FuncData := { name := (Str.ofString "tie"), qualname := (Str.ofString "tie"), params := stArgs (topAt 42), body := .stmts (stBody (topAt 42)), scope := stScope (topAt 42), globals := 3, closure := [], defaults := .none, kwdefaults := .none, doc := .none, pyModule := (.str (Str.ofString "joinedhand.ligature") 681), annotations := none, code := (.ref 401), closureTuple := .none, builtins := 0 }
noncomputable def F409 : FuncData := { name := (Str.ofString "tie_behind"), qualname := (Str.ofString "tie_behind"), params := stArgs (topAt 43), body := .stmts (stBody (topAt 43)), scope := stScope (topAt 43), globals := 3, closure := [], defaults := .none, kwdefaults := .none, doc := .none, pyModule := (.str (Str.ofString "joinedhand.ligature") 681), annotations := none, code := (.ref 408), closureTuple := .none, builtins := 0 }
noncomputable def F416 : FuncData := { name := (Str.ofString "tie_all"), qualname := (Str.ofString "tie_all"), params := stArgs (topAt 44), body := .stmts (stBody (topAt 44)), scope := stScope (topAt 44), globals := 3, closure := [], defaults := .none, kwdefaults := .none, doc := .none, pyModule := (.str (Str.ofString "joinedhand.ligature") 681), annotations := none, code := (.ref 415), closureTuple := .none, builtins := 0 }
noncomputable def F421 : FuncData := { name := (Str.ofString "join"), qualname := (Str.ofString "join"), params := stArgs (topAt 45), body := .stmts (stBody (topAt 45)), scope := stScope (topAt 45), globals := 3, closure := [], defaults := .none, kwdefaults := .none, doc := .none, pyModule := (.str (Str.ofString "joinedhand.ligature") 681), annotations := none, code := (.ref 420), closureTuple := .none, builtins := 0 }
noncomputable def F428 : FuncData := { name := (Str.ofString "apply_ligature"), qualname := (Str.ofString "apply_ligature"), params := stArgs (topAt 46), body := .stmts (stBody (topAt 46)), scope := stScope (topAt 46), globals := 3, closure := [], defaults := .none, kwdefaults := .none, doc := .none, pyModule := (.str (Str.ofString "joinedhand.ligature") 681), annotations := none, code := (.ref 427), closureTuple := .none, builtins := 0 }
noncomputable def F435 : FuncData := { name := (Str.ofString "_law_take"), qualname := (Str.ofString "_law_take"), params := stArgs (topAt 48), body := .stmts (stBody (topAt 48)), scope := stScope (topAt 48), globals := 3, closure := [], defaults := .none, kwdefaults := .none, doc := .none, pyModule := (.str (Str.ofString "law_pb0197_01") 809), annotations := none, code := (.ref 434), closureTuple := .none, builtins := 0 }
noncomputable def F442 : FuncData := { name := (Str.ofString "_law_may"), qualname := (Str.ofString "_law_may"), params := stArgs (topAt 49), body := .stmts (stBody (topAt 49)), scope := stScope (topAt 49), globals := 3, closure := [], defaults := .none, kwdefaults := .none, doc := .none, pyModule := (.str (Str.ofString "law_pb0197_01") 809), annotations := none, code := (.ref 441), closureTuple := .none, builtins := 0 }
noncomputable def F447 : FuncData := { name := (Str.ofString "law"), qualname := (Str.ofString "law"), params := stArgs (topAt 50), body := .stmts (stBody (topAt 50)), scope := stScope (topAt 50), globals := 3, closure := [], defaults := .none, kwdefaults := .none, doc := .none, pyModule := (.str (Str.ofString "law_pb0197_01") 809), annotations := none, code := (.ref 446), closureTuple := .none, builtins := 0 }
noncomputable def K (P : Params) : Frag := [
  (3, ⟨(.type "dict"), none, (.dict #[⟨PyData.keyHash P (Str.ofString "__name__"), (.str (Str.ofString "__name__") 165), (.str (Str.ofString "law_pb0197_01") 809)⟩, ⟨PyData.keyHash P (Str.ofString "__doc__"), (.str (Str.ofString "__doc__") 166), .none⟩, ⟨PyData.keyHash P (Str.ofString "__package__"), (.str (Str.ofString "__package__") 167), .none⟩, ⟨PyData.keyHash P (Str.ofString "__loader__"), (.str (Str.ofString "__loader__") 168), (.builtin "__main__.__loader__#opaque")⟩, ⟨PyData.keyHash P (Str.ofString "__spec__"), (.str (Str.ofString "__spec__") 169), .none⟩, ⟨PyData.keyHash P (Str.ofString "__annotations__"), (.str (Str.ofString "__annotations__") 170), (.ref 6)⟩, ⟨PyData.keyHash P (Str.ofString "__builtins__"), (.str (Str.ofString "__builtins__") 171), (.ref 4)⟩, ⟨PyData.keyHash P (Str.ofString "__file__"), (.str (Str.ofString "__file__") 173), (.str (Str.ofString "/claim/cut.py") 172)⟩, ⟨PyData.keyHash P (Str.ofString "__cached__"), (.str (Str.ofString "__cached__") 174), .none⟩, ⟨PyData.keyHash P (Str.ofString "_wall"), (.str (Str.ofString "_wall") 193), (.ref 21)⟩, ⟨PyData.keyHash P (Str.ofString "IGNORE_BASES"), (.str (Str.ofString "IGNORE_BASES") 197), (.int 2 196)⟩, ⟨PyData.keyHash P (Str.ofString "IGNORE_LIGATURES"), (.str (Str.ofString "IGNORE_LIGATURES") 199), (.int 4 198)⟩, ⟨PyData.keyHash P (Str.ofString "IGNORE_MARKS"), (.str (Str.ofString "IGNORE_MARKS") 201), (.int 8 200)⟩, ⟨PyData.keyHash P (Str.ofString "USE_SET"), (.str (Str.ofString "USE_SET") 203), (.int 16 202)⟩, ⟨PyData.keyHash P (Str.ofString "Lookup"), (.str (Str.ofString "Lookup") 244), (.ref 43)⟩, ⟨PyData.keyHash P (Str.ofString "Scene"), (.str (Str.ofString "Scene") 285), (.ref 65)⟩, ⟨PyData.keyHash P (Str.ofString "attach_wanted"), (.str (Str.ofString "attach_wanted") 292), (.ref 76)⟩, ⟨PyData.keyHash P (Str.ofString "class_bit"), (.str (Str.ofString "class_bit") 299), (.ref 83)⟩, ⟨PyData.keyHash P (Str.ofString "is_ignored"), (.str (Str.ofString "is_ignored") 310), (.ref 90)⟩, ⟨PyData.keyHash P (Str.ofString "passes"), (.str (Str.ofString "passes") 318), (.ref 97)⟩, ⟨PyData.keyHash P (Str.ofString "KINDS_IN_INPUT"), (.str (Str.ofString "KINDS_IN_INPUT") 323), (.ref 98)⟩, ⟨PyData.keyHash P (Str.ofString "glyph_tests"), (.str (Str.ofString "glyph_tests") 329), (.ref 103)⟩, ⟨PyData.keyHash P (Str.ofString "fits"), (.str (Str.ofString "fits") 337), (.ref 110)⟩, ⟨PyData.keyHash P (Str.ofString "is_borne"), (.str (Str.ofString "is_borne") 345), (.ref 117)⟩, ⟨PyData.keyHash P (Str.ofString "found_at"), (.str (Str.ofString "found_at") 359), (.ref 124)⟩, ⟨PyData.keyHash P (Str.ofString "input_at"), (.str (Str.ofString "input_at") 371), (.ref 131)⟩, ⟨PyData.keyHash P (Str.ofString "is_piece"), (.str (Str.ofString "is_piece") 378), (.ref 138)⟩, ⟨PyData.keyHash P (Str.ofString "hold_together"), (.str (Str.ofString "hold_together") 389), (.ref 145)⟩, ⟨PyData.keyHash P (Str.ofString "Info"), (.str (Str.ofString "Info") 451), (.ref 176)⟩, ⟨PyData.keyHash P (Str.ofString "Buffer"), (.str (Str.ofString "Buffer") 516), (.ref 227)⟩, ⟨PyData.keyHash P (Str.ofString "set_cluster"), (.str (Str.ofString "set_cluster") 524), (.ref 238)⟩, ⟨PyData.keyHash P (Str.ofString "widened"), (.str (Str.ofString "widened") 535), (.ref 245)⟩, ⟨PyData.keyHash P (Str.ofString "merge"), (.str (Str.ofString "merge") 541), (.ref 250)⟩, ⟨PyData.keyHash P (Str.ofString "ClassDef"), (.str (Str.ofString "ClassDef") 603), (.ref 293)⟩, ⟨PyData.keyHash P (Str.ofString "NO_CLASS"), (.str (Str.ofString "NO_CLASS") 607), (.int 0 606)⟩, ⟨PyData.keyHash P (Str.ofString "BASE_gdef"), (.str (Str.ofString "BASE_gdef") 609), (.int 1 608)⟩, ⟨PyData.keyHash P (Str.ofString "COMPONENT"), (.str (Str.ofString "COMPONENT") 611), (.int 4 610)⟩, ⟨PyData.keyHash P (Str.ofString "Gdef"), (.str (Str.ofString "Gdef") 680), (.ref 341)⟩, ⟨PyData.keyHash P (Str.ofString "BASE_ligature"), (.str (Str.ofString "BASE_ligature") 684), (.int 1 683)⟩, ⟨PyData.keyHash P (Str.ofString "MARK"), (.str (Str.ofString "MARK") 686), (.int 3 685)⟩, ⟨PyData.keyHash P (Str.ofString "begins_with"), (.str (Str.ofString "begins_with") 694), (.ref 352)⟩, ⟨PyData.keyHash P (Str.ofString "live_rows"), (.str (Str.ofString "live_rows") 700), (.ref 357)⟩, ⟨PyData.keyHash P (Str.ofString "Ligature"), (.str (Str.ofString "Ligature") 735), (.ref 379)⟩, ⟨PyData.keyHash P (Str.ofString "part_count"), (.str (Str.ofString "part_count") 742), (.ref 390)⟩, ⟨PyData.keyHash P (Str.ofString "way_of"), (.str (Str.ofString "way_of") 748), (.ref 395)⟩, ⟨PyData.keyHash P (Str.ofString "tie"), (.str (Str.ofString "tie") 759), (.ref 402)⟩, ⟨PyData.keyHash P (Str.ofString "tie_behind"), (.str (Str.ofString "tie_behind") 772), (.ref 409)⟩, ⟨PyData.keyHash P (Str.ofString "tie_all"), (.str (Str.ofString "tie_all") 788), (.ref 416)⟩, ⟨PyData.keyHash P (Str.ofString "join"), (.str (Str.ofString "join") 794), (.ref 421)⟩, ⟨PyData.keyHash P (Str.ofString "apply_ligature"), (.str (Str.ofString "apply_ligature") 808), (.ref 428)⟩, ⟨PyData.keyHash P (Str.ofString "_law_take"), (.str (Str.ofString "_law_take") 819), (.ref 435)⟩, ⟨PyData.keyHash P (Str.ofString "_law_may"), (.str (Str.ofString "_law_may") 830), (.ref 442)⟩, ⟨PyData.keyHash P (Str.ofString "law"), (.str (Str.ofString "law") 836), (.ref 447)⟩] 53), #[]⟩),
  (34, ⟨(.type "code"), none, (.fields #[(.str (Str.ofString "__init__") 216), (.str (Str.ofString "Lookup.__init__") 217), (.str (Str.ofString "/claim/cut.py") 218), (.int 11 0), (.int 5 0), (.int 0 0), (.int 0 0), (.int 3 0), (.ref 29), (.bool true), (.int 181 0), (.ref 30), .none, (.ref 31), (.ref 32), (.ref 33), (.int 224 0), (.int 11 0), (.str (Str.ofString "/claim/cut.py") 225)]), #[]⟩),
  (35, ⟨(.type "function"), none, (.func F35), #[]⟩),
  (42, ⟨(.type "dict"), none, (.dict #[⟨PyData.keyHash P (Str.ofString "__module__"), (.str (Str.ofString "__module__") 211), (.str (Str.ofString "joinedhand.flags") 194)⟩, ⟨PyData.keyHash P (Str.ofString "__firstlineno__"), (.str (Str.ofString "__firstlineno__") 215), (.int 9 214)⟩, ⟨PyData.keyHash P (Str.ofString "__init__"), (.str (Str.ofString "__init__") 226), (.ref 35)⟩, ⟨PyData.keyHash P (Str.ofString "told"), (.str (Str.ofString "told") 232), (.ref 40)⟩, ⟨PyData.keyHash P (Str.ofString "__static_attributes__"), (.str (Str.ofString "__static_attributes__") 237), (.ref 41)⟩, ⟨PyData.keyHash P (Str.ofString "__dict__"), (.str (Str.ofString "__dict__") 239), (.ref 44)⟩, ⟨PyData.keyHash P (Str.ofString "__weakref__"), (.str (Str.ofString "__weakref__") 241), (.ref 45)⟩, ⟨PyData.keyHash P (Str.ofString "__doc__"), (.str (Str.ofString "__doc__") 242), .none⟩] 4), #[]⟩),
  (43, ⟨(.type "type"), none, (.cls { name := (Str.ofString "Lookup"), bases := [(.type "object")], mro := [(.ref 43), (.type "object")], ns := 42, qualname := (Str.ofString "Lookup"), hasDict := true, slotNames := [], subclasses := [], abstract := false, collection := none, hasDel := false }), #[none, none, (some (.str (Str.ofString "Lookup") 204)), (some (.str (Str.ofString "Lookup") 212)), (some (.builtin "object.__new__")), (some (.bool true))]⟩),
  (55, ⟨(.type "tuple"), none, (.seq #[(.int 0 257)] 0), #[]⟩),
  (61, ⟨(.type "code"), none, (.fields #[(.str (Str.ofString "__init__") 258), (.str (Str.ofString "Scene.__init__") 259), (.str (Str.ofString "/claim/cut.py") 260), (.int 22 0), (.int 7 0), (.int 0 0), (.int 0 0), (.int 3 0), (.ref 56), (.bool true), (.int 181 0), (.ref 57), .none, (.ref 58), (.ref 59), (.ref 60), (.int 268 0), (.int 22 0), (.str (Str.ofString "/claim/cut.py") 269)]), #[]⟩),
  (62, ⟨(.type "function"), none, (.func F62), #[]⟩),
  (64, ⟨(.type "dict"), none, (.dict #[⟨PyData.keyHash P (Str.ofString "__module__"), (.str (Str.ofString "__module__") 252), (.str (Str.ofString "joinedhand.flags") 194)⟩, ⟨PyData.keyHash P (Str.ofString "__firstlineno__"), (.str (Str.ofString "__firstlineno__") 256), (.int 20 255)⟩, ⟨PyData.keyHash P (Str.ofString "__init__"), (.str (Str.ofString "__init__") 270), (.ref 62)⟩, ⟨PyData.keyHash P (Str.ofString "__static_attributes__"), (.str (Str.ofString "__static_attributes__") 278), (.ref 63)⟩, ⟨PyData.keyHash P (Str.ofString "__dict__"), (.str (Str.ofString "__dict__") 280), (.ref 66)⟩, ⟨PyData.keyHash P (Str.ofString "__weakref__"), (.str (Str.ofString "__weakref__") 282), (.ref 67)⟩, ⟨PyData.keyHash P (Str.ofString "__doc__"), (.str (Str.ofString "__doc__") 283), .none⟩] 4), #[]⟩),
  (65, ⟨(.type "type"), none, (.cls { name := (Str.ofString "Scene"), bases := [(.type "object")], mro := [(.ref 65), (.type "object")], ns := 64, qualname := (Str.ofString "Scene"), hasDict := true, slotNames := [], subclasses := [], abstract := false, collection := none, hasDel := false }), #[none, none, (some (.str (Str.ofString "Scene") 245)), (some (.str (Str.ofString "Scene") 253)), (some (.builtin "object.__new__")), (some (.bool true))]⟩),
  (82, ⟨(.type "code"), none, (.fields #[(.str (Str.ofString "class_bit") 293), (.str (Str.ofString "class_bit") 294), (.str (Str.ofString "/claim/cut.py") 295), (.int 32 0), (.int 1 0), (.int 0 0), (.int 0 0), (.int 3 0), (.ref 77), (.bool true), (.int 181 0), (.ref 78), .none, (.ref 79), (.ref 80), (.ref 81), (.int 297 0), (.int 32 0), (.str (Str.ofString "/claim/cut.py") 298)]), #[]⟩),
  (83, ⟨(.type "function"), none, (.func F83), #[]⟩),
  (89, ⟨(.type "code"), none, (.fields #[(.str (Str.ofString "is_ignored") 300), (.str (Str.ofString "is_ignored") 301), (.str (Str.ofString "/claim/cut.py") 302), (.int 34 0), (.int 3 0), (.int 0 0), (.int 0 0), (.int 3 0), (.ref 84), (.bool true), (.int 181 0), (.ref 85), .none, (.ref 86), (.ref 87), (.ref 88), (.int 308 0), (.int 34 0), (.str (Str.ofString "/claim/cut.py") 309)]), #[]⟩),
  (90, ⟨(.type "function"), none, (.func F90), #[]⟩),
  (96, ⟨(.type "code"), none, (.fields #[(.str (Str.ofString "passes") 311), (.str (Str.ofString "passes") 312), (.str (Str.ofString "/claim/cut.py") 313), (.int 44 0), (.int 2 0), (.int 0 0), (.int 0 0), (.int 3 0), (.ref 91), (.bool true), (.int 181 0), (.ref 92), .none, (.ref 93), (.ref 94), (.ref 95), (.int 316 0), (.int 44 0), (.str (Str.ofString "/claim/cut.py") 317)]), #[]⟩),
  (97, ⟨(.type "function"), none, (.func F97), #[]⟩),
  (98, ⟨(.type "tuple"), none, (.seq #[(.str (Str.ofString "zwj") 321), (.str (Str.ofString "hidden") 322)] 0), #[]⟩),
  (102, ⟨(.type "code"), none, (.fields #[(.str (Str.ofString "glyph_tests") 324), (.str (Str.ofString "glyph_tests") 325), (.str (Str.ofString "/claim/cut.py") 326), (.int 48 0), (.int 1 0), (.int 0 0), (.int 0 0), (.int 3 0), (.ref 99), (.bool true), (.int 181 0), (.ref 100), .none, .none, .none, (.ref 101), (.int 327 0), (.int 48 0), (.str (Str.ofString "/claim/cut.py") 328)]), #[]⟩),
  (103, ⟨(.type "function"), none, (.func F103), #[]⟩),
  (109, ⟨(.type "code"), none, (.fields #[(.str (Str.ofString "fits") 330), (.str (Str.ofString "fits") 331), (.str (Str.ofString "/claim/cut.py") 332), (.int 50 0), (.int 2 0), (.int 0 0), (.int 0 0), (.int 3 0), (.ref 104), (.bool true), (.int 181 0), (.ref 105), .none, (.ref 106), (.ref 107), (.ref 108), (.int 335 0), (.int 50 0), (.str (Str.ofString "/claim/cut.py") 336)]), #[]⟩),
  (110, ⟨(.type "function"), none, (.func F110), #[]⟩),
  (116, ⟨(.type "code"), none, (.fields #[(.str (Str.ofString "is_borne") 338), (.str (Str.ofString "is_borne") 339), (.str (Str.ofString "/claim/cut.py") 340), (.int 56 0), (.int 2 0), (.int 0 0), (.int 0 0), (.int 3 0), (.ref 111), (.bool true), (.int 181 0), (.ref 112), .none, (.ref 113), (.ref 114), (.ref 115), (.int 343 0), (.int 56 0), (.str (Str.ofString "/claim/cut.py") 344)]), #[]⟩),
  (117, ⟨(.type "function"), none, (.func F117), #[]⟩),
  (123, ⟨(.type "code"), none, (.fields #[(.str (Str.ofString "found_at") 346), (.str (Str.ofString "found_at") 347), (.str (Str.ofString "/claim/cut.py") 348), (.int 58 0), (.int 6 0), (.int 0 0), (.int 0 0), (.int 3 0), (.ref 118), (.bool true), (.int 181 0), (.ref 119), .none, (.ref 120), (.ref 121), (.ref 122), (.int 357 0), (.int 58 0), (.str (Str.ofString "/claim/cut.py") 358)]), #[]⟩),
  (124, ⟨(.type "function"), none, (.func F124), #[]⟩),
  (130, ⟨(.type "code"), none, (.fields #[(.str (Str.ofString "input_at") 360), (.str (Str.ofString "input_at") 361), (.str (Str.ofString "/claim/cut.py") 362), (.int 69 0), (.int 3 0), (.int 0 0), (.int 0 0), (.int 3 0), (.ref 125), (.bool true), (.int 181 0), (.ref 126), .none, (.ref 127), (.ref 128), (.ref 129), (.int 369 0), (.int 69 0), (.str (Str.ofString "/claim/cut.py") 370)]), #[]⟩),
  (131, ⟨(.type "function"), none, (.func F131), #[]⟩),
  (137, ⟨(.type "code"), none, (.fields #[(.str (Str.ofString "is_piece") 372), (.str (Str.ofString "is_piece") 373), (.str (Str.ofString "/claim/cut.py") 374), (.int 79 0), (.int 1 0), (.int 0 0), (.int 0 0), (.int 3 0), (.ref 132), (.bool true), (.int 181 0), (.ref 133), .none, (.ref 134), (.ref 135), (.ref 136), (.int 376 0), (.int 79 0), (.str (Str.ofString "/claim/cut.py") 377)]), #[]⟩),
  (138, ⟨(.type "function"), none, (.func F138), #[]⟩),
  (144, ⟨(.type "code"), none, (.fields #[(.str (Str.ofString "hold_together") 379), (.str (Str.ofString "hold_together") 380), (.str (Str.ofString "/claim/cut.py") 381), (.int 81 0), (.int 2 0), (.int 0 0), (.int 0 0), (.int 3 0), (.ref 139), (.bool true), (.int 181 0), (.ref 140), .none, (.ref 141), (.ref 142), (.ref 143), (.int 387 0), (.int 81 0), (.str (Str.ofString "/claim/cut.py") 388)]), #[]⟩),
  (145, ⟨(.type "function"), none, (.func F145), #[]⟩),
  (158, ⟨(.type "code"), none, (.fields #[(.str (Str.ofString "__init__") 404), (.str (Str.ofString "Info.__init__") 405), (.str (Str.ofString "/claim/cut.py") 406), (.int 94 0), (.int 4 0), (.int 0 0), (.int 0 0), (.int 3 0), (.ref 153), (.bool true), (.int 181 0), (.ref 154), .none, (.ref 155), (.ref 156), (.ref 157), (.int 411 0), (.int 94 0), (.str (Str.ofString "/claim/cut.py") 412)]), #[]⟩),
  (159, ⟨(.type "function"), none, (.func F159), #[]⟩),
  (175, ⟨(.type "dict"), none, (.dict #[⟨PyData.keyHash P (Str.ofString "__module__"), (.str (Str.ofString "__module__") 399), (.str (Str.ofString "joinedhand.buffer") 390)⟩, ⟨PyData.keyHash P (Str.ofString "__firstlineno__"), (.str (Str.ofString "__firstlineno__") 403), (.int 92 402)⟩, ⟨PyData.keyHash P (Str.ofString "__init__"), (.str (Str.ofString "__init__") 413), (.ref 159)⟩, ⟨PyData.keyHash P (Str.ofString "copied"), (.str (Str.ofString "copied") 420), (.ref 166)⟩, ⟨PyData.keyHash P (Str.ofString "told"), (.str (Str.ofString "told") 427), (.ref 173)⟩, ⟨PyData.keyHash P (Str.ofString "__static_attributes__"), (.str (Str.ofString "__static_attributes__") 444), (.ref 174)⟩, ⟨PyData.keyHash P (Str.ofString "__dict__"), (.str (Str.ofString "__dict__") 446), (.ref 177)⟩, ⟨PyData.keyHash P (Str.ofString "__weakref__"), (.str (Str.ofString "__weakref__") 448), (.ref 178)⟩, ⟨PyData.keyHash P (Str.ofString "__doc__"), (.str (Str.ofString "__doc__") 449), .none⟩] 4), #[]⟩),
  (176, ⟨(.type "type"), none, (.cls { name := (Str.ofString "Info"), bases := [(.type "object")], mro := [(.ref 176), (.type "object")], ns := 175, qualname := (Str.ofString "Info"), hasDict := true, slotNames := [], subclasses := [], abstract := false, collection := none, hasDel := false }), #[none, none, (some (.str (Str.ofString "Info") 392)), (some (.str (Str.ofString "Info") 400)), (some (.builtin "object.__new__")), (some (.bool true))]⟩),
  (188, ⟨(.type "tuple"), none, (.seq #[(.bool false)] 0), #[]⟩),
  (194, ⟨(.type "code"), none, (.fields #[(.str (Str.ofString "__init__") 464), (.str (Str.ofString "Buffer.__init__") 465), (.str (Str.ofString "/claim/cut.py") 466), (.int 119 0), (.int 3 0), (.int 0 0), (.int 0 0), (.int 3 0), (.ref 189), (.bool true), (.int 181 0), (.ref 190), .none, (.ref 191), (.ref 192), (.ref 193), (.int 470 0), (.int 119 0), (.str (Str.ofString "/claim/cut.py") 471)]), #[]⟩),
  (195, ⟨(.type "function"), none, (.func F195), #[]⟩),
  (216, ⟨(.type "code"), none, (.fields #[(.str (Str.ofString "next_lig") 491), (.str (Str.ofString "Buffer.next_lig") 492), (.str (Str.ofString "/claim/cut.py") 493), (.int 134 0), (.int 1 0), (.int 0 0), (.int 0 0), (.int 3 0), (.ref 211), (.bool true), (.int 181 0), (.ref 212), .none, (.ref 213), (.ref 214), (.ref 215), (.int 495 0), (.int 134 0), (.str (Str.ofString "/claim/cut.py") 496)]), #[]⟩),
  (217, ⟨(.type "function"), none, (.func F217), #[]⟩),
  (226, ⟨(.type "dict"), none, (.dict #[⟨PyData.keyHash P (Str.ofString "__module__"), (.str (Str.ofString "__module__") 459), (.str (Str.ofString "joinedhand.buffer") 390)⟩, ⟨PyData.keyHash P (Str.ofString "__firstlineno__"), (.str (Str.ofString "__firstlineno__") 463), (.int 117 462)⟩, ⟨PyData.keyHash P (Str.ofString "__init__"), (.str (Str.ofString "__init__") 472), (.ref 195)⟩, ⟨PyData.keyHash P (Str.ofString "glyphs"), (.str (Str.ofString "glyphs") 478), (.ref 200)⟩, ⟨PyData.keyHash P (Str.ofString "clusters"), (.str (Str.ofString "clusters") 484), (.ref 205)⟩, ⟨PyData.keyHash P (Str.ofString "told"), (.str (Str.ofString "told") 490), (.ref 210)⟩, ⟨PyData.keyHash P (Str.ofString "next_lig"), (.str (Str.ofString "next_lig") 497), (.ref 217)⟩, ⟨PyData.keyHash P (Str.ofString "next_split"), (.str (Str.ofString "next_split") 504), (.ref 224)⟩, ⟨PyData.keyHash P (Str.ofString "__static_attributes__"), (.str (Str.ofString "__static_attributes__") 509), (.ref 225)⟩, ⟨PyData.keyHash P (Str.ofString "__dict__"), (.str (Str.ofString "__dict__") 511), (.ref 228)⟩, ⟨PyData.keyHash P (Str.ofString "__weakref__"), (.str (Str.ofString "__weakref__") 513), (.ref 229)⟩, ⟨PyData.keyHash P (Str.ofString "__doc__"), (.str (Str.ofString "__doc__") 514), .none⟩] 4), #[]⟩),
  (227, ⟨(.type "type"), none, (.cls { name := (Str.ofString "Buffer"), bases := [(.type "object")], mro := [(.ref 227), (.type "object")], ns := 226, qualname := (Str.ofString "Buffer"), hasDict := true, slotNames := [], subclasses := [], abstract := false, collection := none, hasDel := false }), #[none, none, (some (.str (Str.ofString "Buffer") 452)), (some (.str (Str.ofString "Buffer") 460)), (some (.builtin "object.__new__")), (some (.bool true))]⟩),
  (237, ⟨(.type "code"), none, (.fields #[(.str (Str.ofString "set_cluster") 517), (.str (Str.ofString "set_cluster") 518), (.str (Str.ofString "/claim/cut.py") 519), (.int 140 0), (.int 2 0), (.int 0 0), (.int 0 0), (.int 3 0), (.ref 232), (.bool true), (.int 181 0), (.ref 233), .none, (.ref 234), (.ref 235), (.ref 236), (.int 522 0), (.int 140 0), (.str (Str.ofString "/claim/cut.py") 523)]), #[]⟩),
  (238, ⟨(.type "function"), none, (.func F238), #[]⟩),
  (244, ⟨(.type "code"), none, (.fields #[(.str (Str.ofString "widened") 525), (.str (Str.ofString "widened") 526), (.str (Str.ofString "/claim/cut.py") 527), (.int 144 0), (.int 3 0), (.int 0 0), (.int 0 0), (.int 3 0), (.ref 239), (.bool true), (.int 181 0), (.ref 240), .none, (.ref 241), (.ref 242), (.ref 243), (.int 533 0), (.int 144 0), (.str (Str.ofString "/claim/cut.py") 534)]), #[]⟩),
  (245, ⟨(.type "function"), none, (.func F245), #[]⟩),
  (249, ⟨(.type "code"), none, (.fields #[(.str (Str.ofString "merge") 536), (.str (Str.ofString "merge") 537), (.str (Str.ofString "/claim/cut.py") 538), (.int 152 0), (.int 3 0), (.int 0 0), (.int 0 0), (.int 3 0), (.ref 246), (.bool true), (.int 181 0), (.ref 247), .none, .none, .none, (.ref 248), (.int 539 0), (.int 152 0), (.str (Str.ofString "/claim/cut.py") 540)]), #[]⟩),
  (250, ⟨(.type "function"), none, (.func F250), #[]⟩),
  (263, ⟨(.type "code"), none, (.fields #[(.str (Str.ofString "__init__") 556), (.str (Str.ofString "ClassDef.__init__") 557), (.str (Str.ofString "/claim/cut.py") 558), (.int 162 0), (.int 2 0), (.int 0 0), (.int 0 0), (.int 3 0), (.ref 258), (.bool true), (.int 181 0), (.ref 259), .none, (.ref 260), (.ref 261), (.ref 262), (.int 561 0), (.int 162 0), (.str (Str.ofString "/claim/cut.py") 562)]), #[]⟩),
  (264, ⟨(.type "function"), none, (.func F264), #[]⟩),
  (270, ⟨(.type "code"), none, (.fields #[(.str (Str.ofString "class_of") 564), (.str (Str.ofString "ClassDef.class_of") 565), (.str (Str.ofString "/claim/cut.py") 566), (.int 165 0), (.int 2 0), (.int 0 0), (.int 0 0), (.int 3 0), (.ref 265), (.bool true), (.int 181 0), (.ref 266), .none, (.ref 267), (.ref 268), (.ref 269), (.int 569 0), (.int 165 0), (.str (Str.ofString "/claim/cut.py") 570)]), #[]⟩),
  (271, ⟨(.type "function"), none, (.func F271), #[]⟩),
  (292, ⟨(.type "dict"), none, (.dict #[⟨PyData.keyHash P (Str.ofString "__module__"), (.str (Str.ofString "__module__") 551), (.str (Str.ofString "joinedhand.classdefs") 542)⟩, ⟨PyData.keyHash P (Str.ofString "__firstlineno__"), (.str (Str.ofString "__firstlineno__") 555), (.int 160 554)⟩, ⟨PyData.keyHash P (Str.ofString "__init__"), (.str (Str.ofString "__init__") 563), (.ref 264)⟩, ⟨PyData.keyHash P (Str.ofString "class_of"), (.str (Str.ofString "class_of") 571), (.ref 271)⟩, ⟨PyData.keyHash P (Str.ofString "glyphs_of"), (.str (Str.ofString "glyphs_of") 579), (.ref 278)⟩, ⟨PyData.keyHash P (Str.ofString "count"), (.str (Str.ofString "count") 588), (.ref 285)⟩, ⟨PyData.keyHash P (Str.ofString "told"), (.str (Str.ofString "told") 594), (.ref 290)⟩, ⟨PyData.keyHash P (Str.ofString "__static_attributes__"), (.str (Str.ofString "__static_attributes__") 596), (.ref 291)⟩, ⟨PyData.keyHash P (Str.ofString "__dict__"), (.str (Str.ofString "__dict__") 598), (.ref 294)⟩, ⟨PyData.keyHash P (Str.ofString "__weakref__"), (.str (Str.ofString "__weakref__") 600), (.ref 295)⟩, ⟨PyData.keyHash P (Str.ofString "__doc__"), (.str (Str.ofString "__doc__") 601), .none⟩] 4), #[]⟩),
  (293, ⟨(.type "type"), none, (.cls { name := (Str.ofString "ClassDef"), bases := [(.type "object")], mro := [(.ref 293), (.type "object")], ns := 292, qualname := (Str.ofString "ClassDef"), hasDict := true, slotNames := [], subclasses := [], abstract := false, collection := none, hasDel := false }), #[none, none, (some (.str (Str.ofString "ClassDef") 544)), (some (.str (Str.ofString "ClassDef") 552)), (some (.builtin "object.__new__")), (some (.bool true))]⟩),
  (305, ⟨(.type "tuple"), none, (.seq #[.none, .none] 0), #[]⟩),
  (311, ⟨(.type "code"), none, (.fields #[(.str (Str.ofString "__init__") 624), (.str (Str.ofString "Gdef.__init__") 625), (.str (Str.ofString "/claim/cut.py") 626), (.int 185 0), (.int 6 0), (.int 0 0), (.int 0 0), (.int 3 0), (.ref 306), (.bool true), (.int 181 0), (.ref 307), .none, (.ref 308), (.ref 309), (.ref 310), (.int 633 0), (.int 185 0), (.str (Str.ofString "/claim/cut.py") 634)]), #[]⟩),
  (312, ⟨(.type "function"), none, (.func F312), #[]⟩),
  (318, ⟨(.type "code"), none, (.fields #[(.str (Str.ofString "glyph_class") 636), (.str (Str.ofString "Gdef.glyph_class") 637), (.str (Str.ofString "/claim/cut.py") 638), (.int 192 0), (.int 2 0), (.int 0 0), (.int 0 0), (.int 3 0), (.ref 313), (.bool true), (.int 181 0), (.ref 314), .none, (.ref 315), (.ref 316), (.ref 317), (.int 642 0), (.int 192 0), (.str (Str.ofString "/claim/cut.py") 643)]), #[]⟩),
  (319, ⟨(.type "function"), none, (.func F319), #[]⟩),
  (340, ⟨(.type "dict"), none, (.dict #[⟨PyData.keyHash P (Str.ofString "__module__"), (.str (Str.ofString "__module__") 619), (.str (Str.ofString "joinedhand.gdef") 604)⟩, ⟨PyData.keyHash P (Str.ofString "__firstlineno__"), (.str (Str.ofString "__firstlineno__") 623), (.int 183 622)⟩, ⟨PyData.keyHash P (Str.ofString "__init__"), (.str (Str.ofString "__init__") 635), (.ref 312)⟩, ⟨PyData.keyHash P (Str.ofString "glyph_class"), (.str (Str.ofString "glyph_class") 644), (.ref 319)⟩, ⟨PyData.keyHash P (Str.ofString "attach_class"), (.str (Str.ofString "attach_class") 652), (.ref 326)⟩, ⟨PyData.keyHash P (Str.ofString "is_in_set"), (.str (Str.ofString "is_in_set") 661), (.ref 333)⟩, ⟨PyData.keyHash P (Str.ofString "told"), (.str (Str.ofString "told") 667), (.ref 338)⟩, ⟨PyData.keyHash P (Str.ofString "__static_attributes__"), (.str (Str.ofString "__static_attributes__") 673), (.ref 339)⟩, ⟨PyData.keyHash P (Str.ofString "__dict__"), (.str (Str.ofString "__dict__") 675), (.ref 342)⟩, ⟨PyData.keyHash P (Str.ofString "__weakref__"), (.str (Str.ofString "__weakref__") 677), (.ref 343)⟩, ⟨PyData.keyHash P (Str.ofString "__doc__"), (.str (Str.ofString "__doc__") 678), .none⟩] 4), #[]⟩),
  (341, ⟨(.type "type"), none, (.cls { name := (Str.ofString "Gdef"), bases := [(.type "object")], mro := [(.ref 341), (.type "object")], ns := 340, qualname := (Str.ofString "Gdef"), hasDict := true, slotNames := [], subclasses := [], abstract := false, collection := none, hasDel := false }), #[none, none, (some (.str (Str.ofString "Gdef") 612)), (some (.str (Str.ofString "Gdef") 620)), (some (.builtin "object.__new__")), (some (.bool true))]⟩),
  (370, ⟨(.type "code"), none, (.fields #[(.str (Str.ofString "__init__") 713), (.str (Str.ofString "Ligature.__init__") 714), (.str (Str.ofString "/claim/cut.py") 715), (.int 219 0), (.int 2 0), (.int 0 0), (.int 0 0), (.int 3 0), (.ref 365), (.bool true), (.int 181 0), (.ref 366), .none, (.ref 367), (.ref 368), (.ref 369), (.int 718 0), (.int 219 0), (.str (Str.ofString "/claim/cut.py") 719)]), #[]⟩),
  (371, ⟨(.type "function"), none, (.func F371), #[]⟩),
  (378, ⟨(.type "dict"), none, (.dict #[⟨PyData.keyHash P (Str.ofString "__module__"), (.str (Str.ofString "__module__") 708), (.str (Str.ofString "joinedhand.ligature") 681)⟩, ⟨PyData.keyHash P (Str.ofString "__firstlineno__"), (.str (Str.ofString "__firstlineno__") 712), (.int 217 711)⟩, ⟨PyData.keyHash P (Str.ofString "__init__"), (.str (Str.ofString "__init__") 720), (.ref 371)⟩, ⟨PyData.keyHash P (Str.ofString "told"), (.str (Str.ofString "told") 726), (.ref 376)⟩, ⟨PyData.keyHash P (Str.ofString "__static_attributes__"), (.str (Str.ofString "__static_attributes__") 728), (.ref 377)⟩, ⟨PyData.keyHash P (Str.ofString "__dict__"), (.str (Str.ofString "__dict__") 730), (.ref 380)⟩, ⟨PyData.keyHash P (Str.ofString "__weakref__"), (.str (Str.ofString "__weakref__") 732), (.ref 381)⟩, ⟨PyData.keyHash P (Str.ofString "__doc__"), (.str (Str.ofString "__doc__") 733), .none⟩] 4), #[]⟩),
  (379, ⟨(.type "type"), none, (.cls { name := (Str.ofString "Ligature"), bases := [(.type "object")], mro := [(.ref 379), (.type "object")], ns := 378, qualname := (Str.ofString "Ligature"), hasDict := true, slotNames := [], subclasses := [], abstract := false, collection := none, hasDel := false }), #[none, none, (some (.str (Str.ofString "Ligature") 701)), (some (.str (Str.ofString "Ligature") 709)), (some (.builtin "object.__new__")), (some (.bool true))]⟩),
  (389, ⟨(.type "code"), none, (.fields #[(.str (Str.ofString "part_count") 736), (.str (Str.ofString "part_count") 737), (.str (Str.ofString "/claim/cut.py") 738), (.int 225 0), (.int 1 0), (.int 0 0), (.int 0 0), (.int 3 0), (.ref 384), (.bool true), (.int 181 0), (.ref 385), .none, (.ref 386), (.ref 387), (.ref 388), (.int 740 0), (.int 225 0), (.str (Str.ofString "/claim/cut.py") 741)]), #[]⟩),
  (390, ⟨(.type "function"), none, (.func F390), #[]⟩),
  (394, ⟨(.type "code"), none, (.fields #[(.str (Str.ofString "way_of") 743), (.str (Str.ofString "way_of") 744), (.str (Str.ofString "/claim/cut.py") 745), (.int 227 0), (.int 2 0), (.int 0 0), (.int 0 0), (.int 3 0), (.ref 391), (.bool true), (.int 181 0), (.ref 392), .none, .none, .none, (.ref 393), (.int 746 0), (.int 227 0), (.str (Str.ofString "/claim/cut.py") 747)]), #[]⟩),
  (395, ⟨(.type "function"), none, (.func F395), #[]⟩),
  (401, ⟨(.type "code"), none, (.fields #[(.str (Str.ofString "tie") 749), (.str (Str.ofString "tie") 750), (.str (Str.ofString "/claim/cut.py") 751), (.int 231 0), (.int 4 0), (.int 0 0), (.int 0 0), (.int 3 0), (.ref 396), (.bool true), (.int 181 0), (.ref 397), .none, (.ref 398), (.ref 399), (.ref 400), (.int 757 0), (.int 231 0), (.str (Str.ofString "/claim/cut.py") 758)]), #[]⟩),
  (402, ⟨(.type "function"), none, (.func F402), #[]⟩),
  (408, ⟨(.type "code"), none, (.fields #[(.str (Str.ofString "tie_behind") 760), (.str (Str.ofString "tie_behind") 761), (.str (Str.ofString "/claim/cut.py") 762), (.int 236 0), (.int 6 0), (.int 0 0), (.int 0 0), (.int 3 0), (.ref 403), (.bool true), (.int 181 0), (.ref 404), .none, (.ref 405), (.ref 406), (.ref 407), (.int 770 0), (.int 236 0), (.str (Str.ofString "/claim/cut.py") 771)]), #[]⟩),
  (409, ⟨(.type "function"), none, (.func F409), #[]⟩),
  (415, ⟨(.type "code"), none, (.fields #[(.str (Str.ofString "tie_all") 773), (.str (Str.ofString "tie_all") 774), (.str (Str.ofString "/claim/cut.py") 775), (.int 241 0), (.int 4 0), (.int 0 0), (.int 0 0), (.int 3 0), (.ref 410), (.bool true), (.int 181 0), (.ref 411), .none, (.ref 412), (.ref 413), (.ref 414), (.int 786 0), (.int 241 0), (.str (Str.ofString "/claim/cut.py") 787)]), #[]⟩),
  (416, ⟨(.type "function"), none, (.func F416), #[]⟩),
  (420, ⟨(.type "code"), none, (.fields #[(.str (Str.ofString "join") 789), (.str (Str.ofString "join") 790), (.str (Str.ofString "/claim/cut.py") 791), (.int 253 0), (.int 3 0), (.int 0 0), (.int 0 0), (.int 3 0), (.ref 417), (.bool true), (.int 181 0), (.ref 418), .none, .none, .none, (.ref 419), (.int 792 0), (.int 253 0), (.str (Str.ofString "/claim/cut.py") 793)]), #[]⟩),
  (421, ⟨(.type "function"), none, (.func F421), #[]⟩),
  (427, ⟨(.type "code"), none, (.fields #[(.str (Str.ofString "apply_ligature") 795), (.str (Str.ofString "apply_ligature") 796), (.str (Str.ofString "/claim/cut.py") 797), (.int 269 0), (.int 3 0), (.int 0 0), (.int 0 0), (.int 3 0), (.ref 422), (.bool true), (.int 181 0), (.ref 423), .none, (.ref 424), (.ref 425), (.ref 426), (.int 806 0), (.int 269 0), (.str (Str.ofString "/claim/cut.py") 807)]), #[]⟩),
  (428, ⟨(.type "function"), none, (.func F428), #[]⟩),
  (434, ⟨(.type "code"), none, (.fields #[(.str (Str.ofString "_law_take") 811), (.str (Str.ofString "_law_take") 812), (.str (Str.ofString "/claim/cut.py") 813), (.int 282 0), (.int 2 0), (.int 0 0), (.int 0 0), (.int 3 0), (.ref 429), (.bool true), (.int 181 0), (.ref 430), .none, (.ref 431), (.ref 432), (.ref 433), (.int 817 0), (.int 282 0), (.str (Str.ofString "/claim/cut.py") 818)]), #[]⟩),
  (435, ⟨(.type "function"), none, (.func F435), #[]⟩),
  (441, ⟨(.type "code"), none, (.fields #[(.str (Str.ofString "_law_may") 820), (.str (Str.ofString "_law_may") 821), (.str (Str.ofString "/claim/cut.py") 822), (.int 290 0), (.int 2 0), (.int 0 0), (.int 0 0), (.int 3 0), (.ref 436), (.bool true), (.int 181 0), (.ref 437), .none, (.ref 438), (.ref 439), (.ref 440), (.int 828 0), (.int 290 0), (.str (Str.ofString "/claim/cut.py") 829)]), #[]⟩),
  (442, ⟨(.type "function"), none, (.func F442), #[]⟩),
  (446, ⟨(.type "code"), none, (.fields #[(.str (Str.ofString "law") 831), (.str (Str.ofString "law") 832), (.str (Str.ofString "/claim/cut.py") 833), (.int 300 0), (.int 1 0), (.int 0 0), (.int 0 0), (.int 3 0), (.ref 443), (.bool true), (.int 181 0), (.ref 444), .none, .none, .none, (.ref 445), (.int 834 0), (.int 300 0), (.str (Str.ofString "/claim/cut.py") 835)]), #[]⟩),
  (447, ⟨(.type "function"), none, (.func F447), #[]⟩)]
noncomputable def KA : List Addr := [3, 34, 35, 42, 43, 55, 61, 62, 64, 65, 82, 83, 89, 90, 96, 97, 98, 102, 103, 109, 110, 116, 117, 123, 124, 130, 131, 137, 138, 144, 145, 158, 159, 175, 176, 188, 194, 195, 216, 217, 226, 227, 237, 238, 244, 245, 249, 250, 263, 264, 270, 271, 292, 293, 305, 311, 312, 318, 319, 340, 341, 370, 371, 378, 379, 389, 390, 394, 395, 401, 402, 408, 409, 415, 416, 420, 421, 427, 428, 434, 435, 441, 442, 446, 447]
theorem KA_eq : ∀ P, KA = (K P).map (·.1) := fun _ => rfl
end Mine
namespace Mine
/-- values up to the identity of ints and texts -/
inductive V where
  | none
  | bool (b : Bool)
  | int (i : Int)
  | str (x : Str)
  | ref (a : Addr)
noncomputable def V.to : V → Tok → Value
  | .none, _ => .none
  | .bool b, _ => .bool b
  | .int i, t => .int i t
  | .str x, t => .str x t
  | .ref a, _ => .ref a
noncomputable def VL : List V → List Value → Prop
  | [], [] => True
  | a :: r, c :: s => (∃ t, c = a.to t) ∧ VL r s
  | _, _ => False
theorem VL.length : ∀ {vs : List V} {cs : List Value}, VL vs cs → cs.length = vs.length
  | [], [], _ => rfl
  | _ :: _, _ :: _, h => by simp [VL.length h.2]
  | [], _ :: _, h => h.elim
  | _ :: _, [], h => h.elim
theorem VL.get : ∀ {vs : List V} {cs : List Value}, VL vs cs → ∀ {i : Nat} {v : V}, vs[i]? = some v → ∃ t, cs[i]? = some (v.to t)
  | _ :: _, _ :: _, h, 0, v, e => by
    obtain ⟨⟨t, rfl⟩, _⟩ := h
    simp at e
    subst e
    exact ⟨t, by simp⟩
  | _ :: _, _ :: _, h, i + 1, v, e => by
    obtain ⟨t, q⟩ := VL.get h.2 (i := i) (v := v) (by simpa using e)
    exact ⟨t, by simpa using q⟩
  | [], _, _, _, _, e => by simp at e
  | _ :: _, [], h, _, _, _ => h.elim
theorem VL.append : ∀ {vs ws : List V} {cs ds : List Value}, VL vs cs → VL ws ds → VL (vs ++ ws) (cs ++ ds)
  | [], _, [], _, _, h => h
  | _ :: _, _, _ :: _, _, h, k => ⟨h.1, VL.append h.2 k⟩
  | [], _, _ :: _, _, h, _ => h.elim
  | _ :: _, _, [], _, h, _ => h.elim
theorem VL.one (v : V) (t : Tok) : VL [v] [v.to t] := ⟨⟨t, rfl⟩, trivial⟩
theorem VL.take : ∀ {vs : List V} {cs : List Value} (n : Nat), VL vs cs → VL (vs.take n) (cs.take n)
  | _, _, 0, _ => by simp [VL]
  | [], [], n + 1, _ => by simp [VL]
  | _ :: _, _ :: _, n + 1, h => ⟨h.1, VL.take n h.2⟩
  | [], _ :: _, _ + 1, h => h.elim
  | _ :: _, [], _ + 1, h => h.elim
theorem VL.drop : ∀ {vs : List V} {cs : List Value} (n : Nat), VL vs cs → VL (vs.drop n) (cs.drop n)
  | _, _, 0, h => h
  | [], [], n + 1, _ => by simp [VL]
  | _ :: _, _ :: _, n + 1, h => VL.drop n h.2
  | [], _ :: _, _ + 1, h => h.elim
  | _ :: _, [], _ + 1, h => h.elim
noncomputable abbrev Loc := List (Str × V)
/-- a namespace bears these locals -/
noncomputable def nsIs (l : Loc) (m : Str → Option Value) : Prop := ∀ x v, l.lookup x = some v → ∃ t, m x = some (v.to t)
/-- the abstract objects -/
inductive AO where
  | list (vs : List V)
  | tup (vs : List V)
  | inst (C dx : Addr)
  | attrs (fs : Loc)
  | ns (l : Loc)
  | cell (v : V)
  | cell0
  | raw (o : Obj)
  | liter (a : Addr) (i : Nat)
  | titer (a : Addr) (i : Nat)
  | idict (kvs : List (Int × V))
  | range (a b : Int)
  | slice (a b : V)
noncomputable def IKV : List (Int × V) → List (Int × Value) → Prop
  | [], [] => True
  | a :: r, c :: s => c.1 = a.1 ∧ (∃ t, c.2 = a.2.to t) ∧ IKV r s
  | _, _ => False
noncomputable def fsIs : Loc → List DictEntry → Prop
  | [], [] => True
  | f :: r, e :: s => (∃ t, e.key = .str f.1 t) ∧ (∃ t, e.val = f.2.to t) ∧ fsIs r s
  | _, _ => False
noncomputable def AO.is : AO → Obj → Prop
  | .list vs, o => ∃ cs n, o = { cls := .type "list", data := .seq cs n } ∧ VL vs cs.toList
  | .tup vs, o => ∃ cs n, o = { cls := .type "tuple", data := .seq cs n } ∧ VL vs cs.toList
  | .inst C dx, o => o = instObj C dx
  | .attrs fs, o => ∃ es n, o = dictOf es n ∧ fsIs fs es
  | .ns l, o => ∃ es ep m, o.data = .dict es ep ∧ StrKeys es ∧ (∀ name, nsFind es name = m name) ∧ nsIs l m
  | .cell v, o => ∃ t, o.data = .cell (some (v.to t))
  | .cell0, o => o.data = .cell none
  | .raw p, o => o = p
  | .liter a i, o => o.cls = .type "list_iterator" ∧ o.data = .fields #[.ref a, .int i 0]
  | .titer a i, o => o.cls = .type "tuple_iterator" ∧ o.data = .fields #[.ref a, .int i 0]
  | .range a b, o => ∃ t u v, o = { cls := .type "range", data := .fields #[.int a t, .int b u, .int 1 v] }
  | .slice a b, o => ∃ t u, o = { cls := .type "slice", data := .fields #[a.to t, b.to u, .none] }
  | .idict kvs, o => ∃ ks : List (Int × Value), (∀ w, Obj.IsDictOf (intKind PG w) o ks) ∧ IKV kvs ks
noncomputable abbrev St := Addr → Option AO
noncomputable def upd (σ : St) (a : Addr) (x : AO) : St := fun b => if b = a then some x else σ b
theorem upd_self (σ : St) (a : Addr) (x : AO) : upd σ a x a = some x := by simp [upd]
theorem upd_ne {σ : St} {a b : Addr} {x : AO} (h : b ≠ a) : upd σ a x b = σ b := by simp [upd, h]
theorem upd_upd (σ : St) (a : Addr) (x y : AO) : upd (upd σ a x) a y = upd σ a y := by
  funext b; by_cases h : b = a <;> simp [upd, h]
theorem upd_comm {σ : St} {a b : Addr} {x y : AO} (h : a ≠ b) : upd (upd σ a x) b y = upd (upd σ b y) a x := by
  funext c
  by_cases h1 : c = a
  · subst h1; simp [upd, h]
  · by_cases h2 : c = b
    · subst h2; simp [upd, h1]
    · simp [upd, h1, h2]
theorem ne_of_none {σ : St} {a b : Addr} {y : AO} (h : σ a = none) (k : σ b = some y) : b ≠ a := by
  rintro rfl; rw [h] at k; cases k
/-- a read past a thing made later -/
theorem upd_old {σ : St} {a b : Addr} {x y : AO} (h : σ a = none) (k : σ b = some y) : upd σ a x b = some y := by
  rw [upd_ne (ne_of_none h k)]; exact k
theorem upd_none {σ : St} {a b : Addr} {x : AO} (h : b ≠ a) (k : σ b = none) : upd σ a x b = none := by
  rw [upd_ne h]; exact k
noncomputable def Sub (σ τ : St) : Prop := ∀ a x, σ a = some x → τ a = some x
theorem Sub.refl (σ : St) : Sub σ σ := fun _ _ h => h
theorem Sub.trans {σ τ ρ : St} (h : Sub σ τ) (k : Sub τ ρ) : Sub σ ρ := fun a x e => k a x (h a x e)
theorem Sub.new {σ τ : St} {a : Addr} {x : AO} (h : Sub σ τ) (n : τ a = none) : Sub σ (upd τ a x) := fun _ _ e => upd_old n (h _ _ e)
theorem Sub.upd {σ τ : St} {a : Addr} {x : AO} (h : Sub σ τ) : Sub (upd σ a x) (upd τ a x) := fun b y e => by
  by_cases q : b = a
  · subst q; rw [upd_self] at e ⊢; exact e
  · rw [upd_ne q] at e ⊢; exact h b y e
theorem Sub.self {σ : St} {a : Addr} {x : AO} (h : σ a = some x) : Sub (Mine.upd σ a x) σ := fun b y e => by
  by_cases q : b = a
  · subst q; rw [upd_self] at e; cases e; exact h
  · rw [upd_ne q] at e; exact e
structure Mod (h₀ : Heap) (σ : St) (h : Heap) : Prop where
  base : ∀ b o, h₀.get? b = some o → h.get? b = some o
  obj : ∀ a x, σ a = some x → h₀.get? a = none ∧ ∃ o, h.get? a = some o ∧ x.is o
section
variable {h₀ h h' : Heap} {σ τ : St} {a : Addr} {x y : AO}
theorem Mod.sub (H : Mod h₀ τ h) (k : Sub σ τ) : Mod h₀ σ h := ⟨H.base, fun a x e => H.obj a x (k a x e)⟩
theorem Mod.fresh (H : Mod h₀ σ h) : σ h.objs.size = none := by
  cases e : σ h.objs.size with
  | none => rfl
  | some x =>
    obtain ⟨_, o, ho, _⟩ := H.obj _ _ e
    exact absurd (Heap.lt_size ho) (Nat.lt_irrefl _)
theorem Mod.fresh0 (H : Mod h₀ σ h) : h₀.get? h.objs.size = none := by
  cases e : h₀.get? h.objs.size with
  | none => rfl
  | some o => exact absurd (Heap.lt_size (H.base _ _ e)) (Nat.lt_irrefl _)
theorem Mod.push (H : Mod h₀ σ h) {o : Obj} (ho : x.is o) (hf : o.isFreed = false) : Mod h₀ (upd σ h.objs.size x) (h.push o) := by
  refine ⟨fun b o' e => Heap.get?_push_of_some _ (H.base b o' e), fun b z e => ?_⟩
  by_cases q : b = h.objs.size
  · subst q
    rw [upd_self] at e
    cases e
    exact ⟨H.fresh0, o, Heap.get?_push_size _ hf, ho⟩
  · rw [upd_ne q] at e
    obtain ⟨h1, o', h2, h3⟩ := H.obj b z e
    exact ⟨h1, o', Heap.get?_push_of_some _ h2, h3⟩
/-- nothing new is told of what was made -/
theorem Mod.push' (H : Mod h₀ σ h) (o : Obj) : Mod h₀ σ (h.push o) :=
  ⟨fun b o' e => Heap.get?_push_of_some _ (H.base b o' e), fun b z e => let ⟨h1, o', h2, h3⟩ := H.obj b z e; ⟨h1, o', Heap.get?_push_of_some _ h2, h3⟩⟩
theorem Mod.keeps (H : Mod h₀ σ h) (k : ∀ b o, h.get? b = some o → h'.get? b = some o) : Mod h₀ σ h' :=
  ⟨fun b o e => k _ _ (H.base b o e), fun b z e => let ⟨h1, o', h2, h3⟩ := H.obj b z e; ⟨h1, o', k _ _ h2, h3⟩⟩
theorem Mod.ne_base (H : Mod h₀ σ h) (e : σ a = some y) {b : Addr} {o : Obj} (hb : h₀.get? b = some o) : b ≠ a := by
  rintro rfl
  rw [(H.obj _ _ e).1] at hb; cases hb
theorem Mod.put (H : Mod h₀ σ h) (e : σ a = some y) (k : ∀ b o, b ≠ a → h.get? b = some o → h'.get? b = some o) (n : ∃ o, h'.get? a = some o ∧ x.is o) : Mod h₀ (upd σ a x) h' := by
  refine ⟨fun b o hb => k b o (H.ne_base e hb) (H.base b o hb), fun b z q => ?_⟩
  by_cases c : b = a
  · subst c
    rw [upd_self] at q
    cases q
    exact ⟨(H.obj _ _ e).1, n⟩
  · rw [upd_ne c] at q
    obtain ⟨h1, o', h2, h3⟩ := H.obj b z q
    exact ⟨h1, o', k b o' c h2, h3⟩
theorem Mod.keeps' (H : Mod h₀ σ h) {L : Addr} (s : Heap.SameBut L h h') (n : h₀.get? L = none) (o : σ L = none) : Mod h₀ σ h' :=
  ⟨fun b o' e => s.extBut b o' (by rintro rfl; rw [n] at e; cases e) (H.base b o' e), fun b z e => let ⟨h1, o', h2, h3⟩ := H.obj b z e; ⟨h1, o', s.extBut b o' (by rintro rfl; rw [o] at e; cases e) h2, h3⟩⟩
theorem Mod.isList (H : Mod h₀ σ h) {vs : List V} (e : σ a = some (.list vs)) : ∃ cs : List Value, h.IsList a cs.toArray ∧ VL vs cs := by
  obtain ⟨_, o, ho, ⟨cs⟩, n, rfl, hv⟩ := H.obj _ _ e
  exact ⟨cs, ⟨_, ho, rfl, n, rfl⟩, hv⟩
theorem Mod.plain (H : Mod h₀ σ h) {vs : List V} (e : σ a = some (.list vs)) : ∃ cs : List Value, ∃ n, h.get? a = some { cls := .type "list", data := .seq cs.toArray n } ∧ VL vs cs := by
  obtain ⟨_, o, ho, ⟨cs⟩, n, rfl, hv⟩ := H.obj _ _ e
  exact ⟨cs, n, ho, hv⟩
theorem Mod.isTup (H : Mod h₀ σ h) {vs : List V} (e : σ a = some (.tup vs)) : ∃ cs : List Value, h.IsTuple a cs.toArray ∧ VL vs cs := by
  obtain ⟨_, o, ho, ⟨cs⟩, n, rfl, hv⟩ := H.obj _ _ e
  exact ⟨cs, ⟨_, ho, rfl, n, rfl⟩, hv⟩
theorem Mod.ns (H : Mod h₀ σ h) {l : Loc} (e : σ a = some (.ns l)) : ∃ m, h.Ns a m ∧ nsIs l m := by
  obtain ⟨_, o, ho, es, ep, m, h1, h2, h3, h4⟩ := H.obj _ _ e
  exact ⟨m, ⟨o, es, ep, ho, h1, h2, h3⟩, h4⟩
end
theorem ns_is {h : Heap} {a : Addr} {m : Str → Option Value} {l : Loc} (n : h.Ns a m) (k : nsIs l m) : ∃ o, h.get? a = some o ∧ (AO.ns l).is o := by
  obtain ⟨o, es, ep, ho, h1, h2, h3⟩ := n
  exact ⟨o, ho, es, ep, m, h1, h2, h3, k⟩
theorem list_is {h : Heap} {a : Addr} {cs : Array Value} {vs : List V} (n : h.PlainList a cs) (k : VL vs cs.toList) : ∃ o, h.get? a = some o ∧ (AO.list vs).is o := by
  obtain ⟨n, ho⟩ := n
  exact ⟨_, ho, cs, n, rfl, k⟩
/-- the frame at hand is apart -/
structure ModL (h₀ : Heap) (L : Addr) (l : Loc) (σ : St) (h : Heap) : Prop where
  mod : Mod h₀ σ h
  ns : ∃ m, h.Ns L m ∧ nsIs l m
  off : σ L = none
  new : h₀.get? L = none
theorem ModL.in (h₀ : Heap) {L : Addr} {l : Loc} {σ : St} {h : Heap} (H : ModL h₀ L l σ h) : Mod h₀ (upd σ L (.ns l)) h := by
  refine ⟨H.mod.base, fun b z q => ?_⟩
  by_cases c : b = L
  · subst c
    rw [upd_self] at q
    cases q
    obtain ⟨m, hn, hm⟩ := H.ns
    exact ⟨H.new, ns_is hn hm⟩
  · rw [upd_ne c] at q
    exact H.mod.obj b z q
theorem ModL.out {h₀ : Heap} {L : Addr} {l : Loc} {σ : St} {h : Heap} (H : Mod h₀ (upd σ L (.ns l)) h) (off : σ L = none) : ModL h₀ L l σ h :=
  ⟨H.sub fun _ _ e => upd_old off e, H.ns (upd_self ..), off, (H.obj L _ (upd_self ..)).1⟩
section
variable (w : World) (h₀ : Heap) (A : Around)
/-- a tree, whatever frame is at hand -/
noncomputable def AC {α : Type} (t : Sem α) (Q : α → St → Prop) (σ : St) : Prop := ∀ (E : Value → Shared → Prop) (s : Shared), Mod h₀ σ s.heap →
  wpAny (model PG w) A t (fun a s' => ∃ h' tk' σ', s' = { s with heap := h', toks := tk' } ∧ Mod h₀ σ' h' ∧ Q a σ') E s
/-- a tree in the frame L with the locals l -/
noncomputable def AW (L : Addr) {α : Type} (t : Sem α) (Q : α → Loc → St → Prop) (l : Loc) (σ : St) : Prop := ∀ (E : Value → Shared → Prop) (s : Shared), ModL h₀ L l σ s.heap →
  wpAny (model PG w) A t (fun a s' => ∃ h' tk' l' σ', s' = { s with heap := h', toks := tk' } ∧ ModL h₀ L l' σ' h' ∧ Q a l' σ') E s
end
section
variable {w : World} {h₀ : Heap} {A : Around} {L : Addr} {l : Loc} {σ τ : St} {α β : Type}
theorem AC.use {t : Sem α} {Q : α → St → Prop} (h : AC w h₀ A t Q σ) {E : Value → Shared → Prop} {s : Shared} (H : Mod h₀ σ s.heap) {R : α → Shared → Prop}
    (k : ∀ a h' tk' σ', Mod h₀ σ' h' → Q a σ' → R a { s with heap := h', toks := tk' }) : wpAny (model PG w) A t R E s :=
  wpAny_mono (h E s H) (fun a _ ⟨h', tk', σ', e, H', q⟩ => e ▸ k a h' tk' σ' H' q) fun _ _ e => e
theorem AW.use {t : Sem α} {Q : α → Loc → St → Prop} (h : AW w h₀ A L t Q l σ) {E : Value → Shared → Prop} {s : Shared} (H : ModL h₀ L l σ s.heap) {R : α → Shared → Prop}
    (k : ∀ a h' tk' l' σ', ModL h₀ L l' σ' h' → Q a l' σ' → R a { s with heap := h', toks := tk' }) : wpAny (model PG w) A t R E s :=
  wpAny_mono (h E s H) (fun a _ ⟨h', tk', l', σ', e, H', q⟩ => e ▸ k a h' tk' l' σ' H' q) fun _ _ e => e
theorem AC.end {a : α} {Q : α → St → Prop} {s : Shared} {h' : Heap} {tk' : Nat} (H : Mod h₀ σ h') (q : Q a σ) :
    ∃ h'' tk'' σ', ({ s with heap := h', toks := tk' } : Shared) = { s with heap := h'', toks := tk'' } ∧ Mod h₀ σ' h'' ∧ Q a σ' := ⟨h', tk', σ, rfl, H, q⟩
theorem AW.end {a : α} {Q : α → Loc → St → Prop} {s : Shared} {h' : Heap} {tk' : Nat} (H : ModL h₀ L l σ h') (q : Q a l σ) :
    ∃ h'' tk'' l' σ', ({ s with heap := h', toks := tk' } : Shared) = { s with heap := h'', toks := tk'' } ∧ ModL h₀ L l' σ' h'' ∧ Q a l' σ' := ⟨h', tk', l, σ, rfl, H, q⟩
theorem AC.mono {t : Sem α} {Q R : α → St → Prop} (h : AC w h₀ A t Q σ) (k : ∀ a σ', Q a σ' → R a σ') : AC w h₀ A t R σ :=
  fun _ _ H => h.use H fun a _ _ σ' H' q => AC.end H' (k a σ' q)
theorem AW.mono {t : Sem α} {Q R : α → Loc → St → Prop} (h : AW w h₀ A L t Q l σ) (k : ∀ a l' σ', Q a l' σ' → R a l' σ') : AW w h₀ A L t R l σ :=
  fun _ _ H => h.use H fun a _ _ l' σ' H' q => AW.end H' (k a l' σ' q)
theorem AW.sub {t : Sem α} {Q : α → Loc → St → Prop} (h : AW w h₀ A L t Q l σ) (k : Sub σ τ) : AW w h₀ A L t Q l τ :=
  fun E s H => h E s ⟨H.mod.sub k, H.ns, (by
    cases e : σ L with
    | none => rfl
    | some x =>
      have q := k _ _ e
      rw [H.off] at q
      cases q), H.new⟩
theorem AC.sub {t : Sem α} {Q : α → St → Prop} (h : AC w h₀ A t Q σ) (k : Sub σ τ) : AC w h₀ A t Q τ := fun E s H => h E s (H.sub k)
noncomputable def locLe (l l' : Loc) : Prop := ∀ x v, l.lookup x = some v → l'.lookup x = some v
theorem AW.loc {t : Sem α} {Q : α → Loc → St → Prop} {l' : Loc} (h : AW w h₀ A L t Q l σ) (k : locLe l l') : AW w h₀ A L t Q l' σ :=
  fun E s H => h E s ⟨H.mod, let ⟨m, a, b⟩ := H.ns; ⟨m, a, fun x v e => b x v (k x v e)⟩, H.off, H.new⟩
theorem AW.bind {t : Sem α} {f : α → Sem β} {Q : β → Loc → St → Prop} (h : AW w h₀ A L t (fun a l' σ' => AW w h₀ A L (f a) Q l' σ') l σ) : AW w h₀ A L (t >>= f) Q l σ :=
  fun _ _ H => wpAny_bind (h.use H fun _ _ _ _ _ H' q => q.use H' fun _ _ _ _ _ H'' q' => AW.end H'' q')
theorem AC.bind {t : Sem α} {f : α → Sem β} {Q : β → St → Prop} (h : AC w h₀ A t (fun a σ' => AC w h₀ A (f a) Q σ') σ) : AC w h₀ A (t >>= f) Q σ :=
  fun _ _ H => wpAny_bind (h.use H fun _ _ _ _ H' q => q.use H' fun _ _ _ _ H'' q' => AC.end H'' q')
theorem AW.pure {a : α} {Q : α → Loc → St → Prop} (h : Q a l σ) : AW w h₀ A L (pure a : Sem α) Q l σ := fun _ _ H => wpAny_pure (AW.end H h)
theorem AC.pure {a : α} {Q : α → St → Prop} (h : Q a σ) : AC w h₀ A (Pure.pure a : Sem α) Q σ := fun _ _ H => wpAny_pure (AC.end H h)
/-- a tree that knows no frame, in a frame -/
theorem AW.of {t : Sem α} {Q : α → Loc → St → Prop} {Q' : α → St → Prop} (off : σ L = none → AC w h₀ A t Q' (upd σ L (.ns l)))
    (k : σ L = none → ∀ a σ'', Q' a σ'' → ∃ σ', Sub (upd σ' L (.ns l)) σ'' ∧ σ' L = none ∧ Q a l σ') : AW w h₀ A L t Q l σ := fun _ _ H =>
  (off H.off).use (ModL.in h₀ H) fun a _ _ σ'' H' q =>
    let ⟨_, k1, k2, k3⟩ := k H.off a σ'' q
    AW.end (ModL.out (H'.sub k1) k2) k3
theorem AW.off {t : Sem α} {Q : α → Loc → St → Prop} (k : σ L = none → AW w h₀ A L t Q l σ) : AW w h₀ A L t Q l σ := fun E s H => k H.off E s H
/-- it changes nothing that is told -/
theorem AW.still {t : Sem α} {Q : α → Loc → St → Prop} {R : α → Prop} (off : σ L = none → AC w h₀ A t (fun a σ' => R a ∧ σ' = upd σ L (.ns l)) (upd σ L (.ns l)))
    (k : ∀ a, R a → Q a l σ) : AW w h₀ A L t Q l σ :=
  AW.of off fun h a _ ⟨r, e⟩ => ⟨σ, e ▸ Sub.refl _, h, k a r⟩
/-- it turns one object -/
theorem AW.turn {t : Sem α} {Q : α → Loc → St → Prop} {R : α → Prop} {d : Addr} {x y : AO} (hd : σ d = some y)
    (off : σ L = none → AC w h₀ A t (fun a σ' => R a ∧ σ' = upd (upd σ L (.ns l)) d x) (upd σ L (.ns l)))
    (k : ∀ a, R a → Q a l (upd σ d x)) : AW w h₀ A L t Q l σ :=
  AW.of off fun h a _ ⟨r, e⟩ => ⟨upd σ d x, e ▸ (upd_comm (ne_of_none h hd) ▸ Sub.refl _), upd_none (ne_of_none h hd).symm h, k a r⟩
end
end Mine
namespace Mine
structure Gnd (w : World) (h₀ : Heap) : Prop where
  X : (K w.params).In h₀
  g : ∃ mg, h₀.Ns mainGlobals mg
  b : ∃ mb, h₀.Ns builtinsNs mb ∧ ∀ x : Str, x ≠ "__name__" → mb x = bootBuiltins x
  lim : h₀.NoLimit
  sys : ∃ o, h₀.get? sysModules = some o
structure Room (A : Around) (n : Nat) : Prop where
  hh : A.handled = none
  dep : A.depth + n < 900
  un : A.units + 8 * n < 9000
theorem Room.deeper {A : Around} {n : Nat} {env : Env} (r : Room A (n + 1)) : Room (A.deeper env) n :=
  ⟨r.hh, by have := r.dep; rw [depth_deeper]; omega, by have := r.un; rw [Around.deeper_units]; omega⟩
theorem Room.less {A : Around} {n k : Nat} (r : Room A n) (h : k ≤ n) : Room A k := ⟨r.hh, by have := r.dep; omega, by have := r.un; omega⟩
theorem Room.depth {A : Around} {n : Nat} (r : Room A n) : A.depth < recursionLimit := by have := r.dep; unfold recursionLimit; omega
theorem Room.units {A : Around} {n : Nat} (r : Room A n) : A.units < cLine := by have := r.un; rw [cLine_is]; omega
structure EnvOk (env : Env) (L : Addr) (lo gl : List Str) (ce : List (Str × Addr)) : Prop where
  kind : env.scope.kind = .function
  loc : env.locals = L
  glob : env.globals = mainGlobals
  blt : env.builtins = builtinsNs
  nd : ∀ x, x ∈ lo ∨ x ∈ gl → (x == ("__debug__" : Str)) = false
  nn : ∀ x ∈ gl, x ≠ "__name__"
  lo : ∀ x ∈ lo, env.kindOf x = some .local
  gl : ∀ x ∈ gl, env.kindOf x = some .globalImplicit
  ce : ∀ p ∈ ce, (env.kindOf p.1 = some .cell ∨ env.kindOf p.1 = some .free) ∧ env.cells.lookup p.1 = some p.2
/-- the ends of a block, with values up to identities -/
inductive Fl where
  | next | brk | cont
  | ret (v : V)
noncomputable def Fl.is : Fl → Flow → Prop
  | .next, f => f = .next
  | .brk, f => f = .brk
  | .cont, f => f = .cont
  | .ret v, f => ∃ t, f = .ret (v.to t)
section
variable (w : World) (h₀ : Heap) (A : Around) (L : Addr)
noncomputable def AE (env : Env) (e : Expr) (Q : V → Loc → St → Prop) (l : Loc) (σ : St) : Prop :=
  AW w h₀ A L (eval e env) (fun c l' σ' => ∃ v t, c = v.to t ∧ Q v l' σ') l σ
noncomputable def AT (env : Env) (e : Expr) (Q : Bool → Loc → St → Prop) (l : Loc) (σ : St) : Prop := AW w h₀ A L (isTrue e env (eval e env)) Q l σ
noncomputable def AX (env : Env) (st : Stmt) (Q : Fl → Loc → St → Prop) (l : Loc) (σ : St) : Prop :=
  AW w h₀ A L (exec st env) (fun f l' σ' => ∃ g : Fl, g.is f ∧ Q g l' σ') l σ
noncomputable def AXs (env : Env) (sts : List Stmt) (Q : Fl → Loc → St → Prop) (l : Loc) (σ : St) : Prop :=
  AW w h₀ A L (execs sts env) (fun f l' σ' => ∃ g : Fl, g.is f ∧ Q g l' σ') l σ
noncomputable def AA (env : Env) (target : Expr) (v : V) (Q : Loc → St → Prop) (l : Loc) (σ : St) : Prop :=
  ∀ t, AW w h₀ A L (assign target env (v.to t)) (fun _ l' σ' => Q l' σ') l σ
/-- a tree over two values -/
noncomputable def AB (f : Value → Value → Sem Value) (a b : V) (Q : V → Loc → St → Prop) (l : Loc) (σ : St) : Prop :=
  ∀ t u, AW w h₀ A L (f (a.to t) (b.to u)) (fun c l' σ' => ∃ v t, c = v.to t ∧ Q v l' σ') l σ
/-- a value's truth -/
noncomputable def AV (a : V) (Q : Bool → Loc → St → Prop) (l : Loc) (σ : St) : Prop := ∀ t, AW w h₀ A L (truthy (a.to t)) Q l σ
/-- a call in a frame -/
noncomputable def AK (f : Value) (vs : List V) (Q : V → Loc → St → Prop) (l : Loc) (σ : St) : Prop :=
  ∀ cs, VL vs cs → AW w h₀ A L (call f cs) (fun c l' σ' => ∃ v t, c = v.to t ∧ Q v l' σ') l σ
/-- a call, whatever the frame: a def's contract -/
noncomputable def AF (f : Value) (vs : List V) (Q : V → St → Prop) (σ : St) : Prop :=
  ∀ cs, VL vs cs → AC w h₀ A (call f cs) (fun c σ' => ∃ v t, c = v.to t ∧ Q v σ') σ
/-- expressions, one behind the other -/
noncomputable def AEs (env : Env) : List Expr → (List V → Loc → St → Prop) → Loc → St → Prop
  | [], Q => Q []
  | e :: r, Q => AE w h₀ A L env e fun v => AEs env r fun vs => Q (v :: vs)
end
section
variable {w : World} {h₀ : Heap} {A : Around} {L : Addr} {l : Loc} {σ τ : St} {env : Env} {lo gl : List Str} {ce : List (Str × Addr)}
theorem AE.mono {e : Expr} {Q R : V → Loc → St → Prop} (h : AE w h₀ A L env e Q l σ) (k : ∀ v l' σ', Q v l' σ' → R v l' σ') : AE w h₀ A L env e R l σ :=
  AW.mono h fun _ _ _ ⟨v, t, e, q⟩ => ⟨v, t, e, k v _ _ q⟩
theorem AXs.mono {e : List Stmt} {Q R : Fl → Loc → St → Prop} (h : AXs w h₀ A L env e Q l σ) (k : ∀ v l' σ', Q v l' σ' → R v l' σ') : AXs w h₀ A L env e R l σ :=
  AW.mono h fun _ _ _ ⟨v, t, q⟩ => ⟨v, t, k v _ _ q⟩
theorem AE.usev {e : Expr} {Q : V → Loc → St → Prop} (h : AE w h₀ A L env e Q l σ) {E : Value → Shared → Prop} {s : Shared} (H : ModL h₀ L l σ s.heap) {R : Value → Shared → Prop}
    (k : ∀ v t h' tk' l' σ', ModL h₀ L l' σ' h' → Q v l' σ' → R (v.to t) { s with heap := h', toks := tk' }) : wpAny (model PG w) A (eval e env) R E s :=
  AW.use h H fun _ h' tk' l' σ' H' ⟨v, t, e, q⟩ => e ▸ k v t h' tk' l' σ' H' q
-- blocks
theorem x_nil {Q : Fl → Loc → St → Prop} (q : Q .next l σ) : AXs w h₀ A L env [] Q l σ := fun _ _ H => wpAny_execs_nil (⟨_, _, _, _, rfl, H, ⟨.next, rfl, q⟩⟩)
theorem x_cons {st : Stmt} {r : List Stmt} {Q : Fl → Loc → St → Prop}
    (h : AX w h₀ A L env st (fun f l' σ' => match f with | .next => AXs w h₀ A L env r Q l' σ' | f => Q f l' σ') l σ) : AXs w h₀ A L env (st :: r) Q l σ := fun E s H =>
  wpAny_execs_cons (AW.use h H fun f h' tk' l' σ' H' ⟨g, hg, q⟩ => by
    cases g with
    | next => cases hg; exact AW.use q H' fun f h' tk' l' σ' H' ⟨g, hg, q⟩ => ⟨_, _, _, _, rfl, H', ⟨g, hg, q⟩⟩
    | brk => cases hg; exact ⟨_, _, _, _, rfl, H', ⟨.brk, rfl, q⟩⟩
    | cont => cases hg; exact ⟨_, _, _, _, rfl, H', ⟨.cont, rfl, q⟩⟩
    | ret v => obtain ⟨t, rfl⟩ := hg; exact ⟨_, _, _, _, rfl, H', ⟨.ret v, ⟨t, rfl⟩, q⟩⟩)
theorem x_ret {e : Expr} {p : Pos} {Q : Fl → Loc → St → Prop} (h : AE w h₀ A L env e (fun v => Q (.ret v)) l σ) : AX w h₀ A L env (.Return (some e) p) Q l σ := fun _ _ H =>
  wpAny_Return_some (h.usev H fun v t _ _ _ _ H' q => ⟨_, _, _, _, rfl, H', ⟨.ret v, ⟨t, rfl⟩, q⟩⟩)
theorem x_retn {p : Pos} {Q : Fl → Loc → St → Prop} (q : Q (.ret .none) l σ) : AX w h₀ A L env (.Return none p) Q l σ := fun _ _ H =>
  wpAny_Return_none (⟨_, _, _, _, rfl, H, ⟨.ret .none, ⟨0, rfl⟩, q⟩⟩)
theorem x_if {test : Expr} {body orelse : List Stmt} {p : Pos} {Q : Fl → Loc → St → Prop}
    (h : AT w h₀ A L env test (fun b l' σ' => (b = true → AXs w h₀ A L env body Q l' σ') ∧ (b = false → AXs w h₀ A L env orelse Q l' σ')) l σ) : AX w h₀ A L env (.If test body orelse p) Q l σ := fun _ _ H =>
  wpAny_If (AW.use h H fun b _ _ _ _ H' q => by
    cases b with
    | true => rw [if_pos rfl]; exact AW.use (q.1 rfl) H' fun f _ _ _ _ H'' q => ⟨_, _, _, _, rfl, H'', q⟩
    | false => rw [if_neg (by decide)]; exact AW.use (q.2 rfl) H' fun f _ _ _ _ H'' q => ⟨_, _, _, _, rfl, H'', q⟩)
theorem x_expr (O : EnvOk env L lo gl ce) {e : Expr} {p : Pos} {Q : Fl → Loc → St → Prop} (h : AE w h₀ A L env e (fun _ => Q .next) l σ)
    (hs : swapsWith e none p.line env = pure false := by rfl) : AX w h₀ A L env (.Expr e p) Q l σ := fun _ _ H =>
  wpAny_Expr_any (h.usev H fun _ _ _ _ _ _ H' q => ⟨_, _, _, _, rfl, H', ⟨.next, rfl, q⟩⟩) (by unfold interactive; rw [O.kind]; rfl) hs
theorem a_store (O : EnvOk env L lo gl ce) {x : Str} {v : V} {t : Tok} {Q : Loc → St → Prop} (hx : x ∈ lo) (q : Q ((x, v) :: l) σ) :
    AW w h₀ A L (storeName env x (v.to t)) (fun _ => Q) l σ := fun E s H => by
  obtain ⟨m, hn, hm⟩ := H.ns
  have hL := O.loc
  subst hL
  refine wpAny_storeName_local (O.lo x hx) hn (fun h' hn' hs => ?_) (by rw [O.kind]; rfl)
  refine ⟨_, _, _, _, rfl, ⟨H.mod.keeps' hs H.new H.off, ⟨_, hn', fun y u e => ?_⟩, H.off, H.new⟩, q⟩
  rw [List.lookup_cons] at e
  by_cases c : y = x
  · subst c
    rw [beq_self_eq_true] at e
    cases e
    exact ⟨t, by simp⟩
  · rw [show (y == x) = false from by simpa using c] at e
    obtain ⟨t', z⟩ := hm y u e
    exact ⟨t', by simp only [if_neg c]; exact z⟩
theorem x_assign (O : EnvOk env L lo gl ce) {x : Str} {xp p : Pos} {e : Expr} {Q : Fl → Loc → St → Prop} (hx : x ∈ lo) (h : AE w h₀ A L env e (fun v l' σ' => Q .next ((x, v) :: l') σ') l σ)
    (hs : swapsWith e (some (.Name x xp)) p.line env = pure false := by rfl) : AX w h₀ A L env (.Assign [.Name x xp] e p) Q l σ := fun _ _ H =>
  wpAny_Assign_Name (h.usev H fun v t _ _ _ _ H' q => AW.use (a_store (t := t) (Q := fun l' σ' => Q .next l' σ') O hx q) H' fun _ _ _ _ _ H'' q => ⟨_, _, _, _, rfl, H'', ⟨.next, rfl, q⟩⟩) hs
theorem a_name (O : EnvOk env L lo gl ce) {x : Str} {p : Pos} {v : V} {Q : Loc → St → Prop} (hx : x ∈ lo) (q : Q ((x, v) :: l) σ) : AA w h₀ A L env (.Name x p) v Q l σ := fun t _ _ H =>
  wpAny_assign_Name (AW.use (a_store (t := t) O hx q) H fun _ _ _ _ _ H'' q => ⟨_, _, _, _, rfl, H'', q⟩)
-- names, constants
theorem e_local (O : EnvOk env L lo gl ce) {x : Str} {p : Pos} {v : V} {Q : V → Loc → St → Prop} (hx : x ∈ lo) (hv : l.lookup x = some v) (q : Q v l σ) : AE w h₀ A L env (.Name x p) Q l σ := fun E s H => by
  obtain ⟨m, hn, hm⟩ := H.ns
  obtain ⟨t, e⟩ := hm x v hv
  have hL := O.loc
  subst hL
  exact wpAny_Name (wpAny_loadName_local O.kind (O.lo x hx) hn e (⟨s.heap, s.toks, _, _, rfl, H, ⟨v, t, rfl, q⟩⟩)) (O.nd x (.inl hx))
theorem mg_at {K : Frag} {h : Heap} {mg : Str → Option Value} {n : Str} {v : Value} (X : K.In h) (G : h.Ns mainGlobals mg) (e : nsIn K mainGlobals n = some (some v)) : mg n = some v := mg_of X G e
theorem e_glob (G : Gnd w h₀) (O : EnvOk env L lo gl ce) {x : Str} {p : Pos} {v : V} {t : Tok} {Q : V → Loc → St → Prop} (hx : x ∈ gl) (e : nsIn (K w.params) mainGlobals x = some (some (v.to t))) (q : Q v l σ) : AE w h₀ A L env (.Name x p) Q l σ := fun E s H => by
  obtain ⟨mg, hg⟩ := G.g
  exact Name_function_global O.kind (O.gl x hx) (loadGlobal_global (env := env) (by rw [O.glob]; exact hg.keeps H.mod.base) (mg_of G.X hg e) (⟨s.heap, s.toks, _, _, rfl, H, ⟨v, t, rfl, q⟩⟩)) (O.nd x (.inr hx))
theorem w_blt (G : Gnd w h₀) (O : EnvOk env L lo gl ce) {x : Str} {p : Pos} {v : Value} {Q : Value → Loc → St → Prop} (hx : x ∈ gl) (e : nsIn (K w.params) mainGlobals x = some none) (hv : bootBuiltins x = some v) (q : Q v l σ) : AW w h₀ A L (eval (.Name x p) env) Q l σ := fun E s H => by
  obtain ⟨mg, hg⟩ := G.g
  obtain ⟨mb, hb, hbb⟩ := G.b
  exact Name_function_global O.kind (O.gl x hx) (loadGlobal_builtin (env := env) (by rw [O.glob]; exact hg.keeps H.mod.base) (mg_none_of G.X hg e) (by rw [O.blt]; exact hb.keeps H.mod.base) ((hbb x (O.nn x hx)).trans hv)
    (⟨s.heap, s.toks, _, _, rfl, H, q⟩)) (O.nd x (.inr hx))
theorem e_int {i : Int} {k : Nat} {p : Pos} {Q : V → Loc → St → Prop} (q : Q (.int i) l σ) : AE w h₀ A L env (.Constant (.int i) k p) Q l σ := fun _ s H =>
  wpAny_Constant_int (⟨s.heap, _, _, _, rfl, H, ⟨.int i, _, rfl, q⟩⟩)
theorem e_str {x : Str} {k : Nat} {p : Pos} {Q : V → Loc → St → Prop} (q : Q (.str x) l σ) : AE w h₀ A L env (.Constant (.str x) k p) Q l σ := fun _ s H =>
  wpAny_Constant_str (⟨s.heap, _, _, _, rfl, H, ⟨.str x, _, rfl, q⟩⟩)
theorem e_bool {b : Bool} {k : Nat} {p : Pos} {Q : V → Loc → St → Prop} (q : Q (.bool b) l σ) : AE w h₀ A L env (.Constant (.bool b) k p) Q l σ := fun _ s H =>
  wpAny_Constant_bool (⟨s.heap, s.toks, _, _, rfl, H, ⟨.bool b, 0, rfl, q⟩⟩)
theorem e_none {k : Nat} {p : Pos} {Q : V → Loc → St → Prop} (q : Q .none l σ) : AE w h₀ A L env (.Constant .none k p) Q l σ := fun _ s H =>
  wpAny_Constant_none (⟨s.heap, s.toks, _, _, rfl, H, ⟨.none, 0, rfl, q⟩⟩)
-- operators
theorem e_bin {a b : Expr} {op : Operator} {p : Pos} {Q : V → Loc → St → Prop}
    (h : AE w h₀ A L env a (fun v => AE w h₀ A L env b fun u => AB w h₀ A L (binaryOp op) v u Q) l σ) : AE w h₀ A L env (.BinOp a op b p) Q l σ := fun _ _ H =>
  wpAny_BinOp (h.usev H fun _ t _ _ _ _ H' q => q.usev H' fun _ u _ _ _ _ H'' q => AW.use (q t u) H'' fun _ _ _ _ _ H q => ⟨_, _, _, _, rfl, H, q⟩)
theorem e_un {a : Expr} {op : UnaryOp} {p : Pos} {Q : V → Loc → St → Prop}
    (h : AE w h₀ A L env a (fun v l' σ' => ∀ t, AW w h₀ A L (unaryOp op (v.to t)) (fun c l' σ' => ∃ v t, c = v.to t ∧ Q v l' σ') l' σ') l σ) : AE w h₀ A L env (.UnaryOp op a p) Q l σ := fun _ _ H =>
  wpAny_UnaryOp (h.usev H fun _ t _ _ _ _ H' q => AW.use (q t) H' fun _ _ _ _ _ H q => ⟨_, _, _, _, rfl, H, q⟩)
theorem e_cmp {a b : Expr} {op : CmpOp} {p : Pos} {Q : V → Loc → St → Prop}
    (h : AE w h₀ A L env a (fun v => AE w h₀ A L env b fun u => AB w h₀ A L (compareOp op) v u Q) l σ) (hm : behindInMarks op b = false := by with_unfolding_all rfl) : AE w h₀ A L env (.Compare a [op] [b] p) Q l σ := fun _ _ H =>
  wpAny_Compare1 (h.usev H fun _ t _ _ _ _ H' q => q.usev H' fun _ u _ _ _ _ H'' q => AW.use (q t u) H'' fun _ _ _ _ _ H q => ⟨_, _, _, _, rfl, H, q⟩) hm
theorem e_and {a b : Expr} {p : Pos} {Q : V → Loc → St → Prop}
    (h : AE w h₀ A L env a (fun v => AV w h₀ A L v fun t l' σ' => (t = true → AE w h₀ A L env b Q l' σ') ∧ (t = false → Q v l' σ')) l σ) : AE w h₀ A L env (.BoolOp .And [a, b] p) Q l σ := fun _ _ H =>
  wpAny_And2 (h.usev H fun v u _ _ _ _ H' q => AW.use (q u) H' fun t _ _ _ _ H'' q => by
    cases t with
    | true => rw [if_pos rfl]; exact AW.use (q.1 rfl) H'' fun _ _ _ _ _ H q => ⟨_, _, _, _, rfl, H, q⟩
    | false => rw [if_neg (by decide)]; exact ⟨_, _, _, _, rfl, H'', ⟨v, u, rfl, q.2 rfl⟩⟩)
theorem e_or {a b : Expr} {p : Pos} {Q : V → Loc → St → Prop}
    (h : AE w h₀ A L env a (fun v => AV w h₀ A L v fun t l' σ' => (t = true → Q v l' σ') ∧ (t = false → AE w h₀ A L env b Q l' σ')) l σ) : AE w h₀ A L env (.BoolOp .Or [a, b] p) Q l σ := fun _ _ H =>
  wpAny_Or2 (h.usev H fun v u _ _ _ _ H' q => AW.use (q u) H' fun t _ _ _ _ H'' q => by
    cases t with
    | true => rw [if_pos rfl]; exact ⟨_, _, _, _, rfl, H'', ⟨v, u, rfl, q.1 rfl⟩⟩
    | false => rw [if_neg (by decide)]; exact AW.use (q.2 rfl) H'' fun _ _ _ _ _ H q => ⟨_, _, _, _, rfl, H, q⟩)
theorem e_ifexp {c a b : Expr} {p : Pos} {Q : V → Loc → St → Prop}
    (h : AT w h₀ A L env c (fun t l' σ' => (t = true → AE w h₀ A L env a Q l' σ') ∧ (t = false → AE w h₀ A L env b Q l' σ')) l σ) : AE w h₀ A L env (.IfExp c a b p) Q l σ := fun _ _ H =>
  wpAny_IfExp (AW.use h H fun t _ _ _ _ H' q => by
    cases t with
    | true => rw [if_pos rfl]; exact AW.use (q.1 rfl) H' fun _ _ _ _ _ H q => ⟨_, _, _, _, rfl, H, q⟩
    | false => rw [if_neg (by decide)]; exact AW.use (q.2 rfl) H' fun _ _ _ _ _ H q => ⟨_, _, _, _, rfl, H, q⟩)
-- tests
theorem t_not {a : Expr} {p : Pos} {Q : Bool → Loc → St → Prop} (h : AT w h₀ A L env a (fun b => Q (!b)) l σ) : AT w h₀ A L env (.UnaryOp .Not a p) Q l σ := fun _ _ H =>
  isTrue_not (AW.use h H fun _ _ _ _ _ H q => ⟨_, _, _, _, rfl, H, q⟩)
noncomputable def ATn (w : World) (h₀ : Heap) (A : Around) (L : Addr) (env : Env) (op : BoolOp) (es : List Expr) (Q : Bool → Loc → St → Prop) (l : Loc) (σ : St) : Prop :=
  ∀ p whole, AW w h₀ A L (isTrue (.BoolOp op es p) env whole) Q l σ
theorem t_bool {op : BoolOp} {es : List Expr} {p : Pos} {Q : Bool → Loc → St → Prop} (h : ATn w h₀ A L env op es Q l σ) : AT w h₀ A L env (.BoolOp op es p) Q l σ := h p _
theorem tn_and {a : Expr} {r : List Expr} {Q : Bool → Loc → St → Prop}
    (h : AT w h₀ A L env a (fun b l' σ' => (b = true → ATn w h₀ A L env .And r Q l' σ') ∧ (b = false → Q false l' σ')) l σ) : ATn w h₀ A L env .And (a :: r) Q l σ := fun p whole _ _ H =>
  isTrue_and (AW.use h H fun b _ _ _ _ H' q => by
    cases b with
    | true => rw [if_pos rfl]; exact AW.use (q.1 rfl p whole) H' fun _ _ _ _ _ H q => ⟨_, _, _, _, rfl, H, q⟩
    | false => rw [if_neg (by decide)]; exact ⟨_, _, _, _, rfl, H', (q.2 rfl)⟩)
theorem tn_and0 {Q : Bool → Loc → St → Prop} (q : Q true l σ) : ATn w h₀ A L env .And [] Q l σ := fun _ _ _ s H => isTrue_and_nil (⟨s.heap, s.toks, _, _, rfl, H, q⟩)
theorem tn_or {a : Expr} {r : List Expr} {Q : Bool → Loc → St → Prop}
    (h : AT w h₀ A L env a (fun b l' σ' => (b = true → Q true l' σ') ∧ (b = false → ATn w h₀ A L env .Or r Q l' σ')) l σ) : ATn w h₀ A L env .Or (a :: r) Q l σ := fun p whole _ _ H =>
  isTrue_or (AW.use h H fun b _ _ _ _ H' q => by
    cases b with
    | true => rw [if_pos rfl]; exact ⟨_, _, _, _, rfl, H', (q.1 rfl)⟩
    | false => rw [if_neg (by decide)]; exact AW.use (q.2 rfl p whole) H' fun _ _ _ _ _ H q => ⟨_, _, _, _, rfl, H, q⟩)
theorem tn_or0 {Q : Bool → Loc → St → Prop} (q : Q false l σ) : ATn w h₀ A L env .Or [] Q l σ := fun _ _ _ s H => isTrue_or_nil (⟨s.heap, s.toks, _, _, rfl, H, q⟩)
theorem t_cmp {a b : Expr} {op : CmpOp} {p : Pos} {Q : Bool → Loc → St → Prop}
    (h : AE w h₀ A L env a (fun v => AE w h₀ A L env b fun u => AB w h₀ A L (compareOp op) v u fun c => AV w h₀ A L c Q) l σ) (hm : behindInMarks op b = false := by with_unfolding_all rfl) :
    AT w h₀ A L env (.Compare a [op] [b] p) Q l σ := fun _ _ H =>
  wpAny_isTrue_Compare1 (h.usev H fun _ t _ _ _ _ H' q => q.usev H' fun _ u _ _ _ _ H'' q => AW.use (q t u) H'' fun _ _ _ _ _ H ⟨_, t, e, q⟩ => e ▸ AW.use (q t) H fun _ _ _ _ _ H q => ⟨_, _, _, _, rfl, H, q⟩) hm
theorem t_cmp2 {a b c : Expr} {op op' : CmpOp} {p : Pos} {Q : Bool → Loc → St → Prop}
    (h : AE w h₀ A L env a (fun v => AE w h₀ A L env b fun u => AB w h₀ A L (compareOp op) v u fun x => AV w h₀ A L x fun t l' σ' =>
      (t = true → AE w h₀ A L env c (fun y => AB w h₀ A L (compareOp op') u y fun z => AV w h₀ A L z Q) l' σ') ∧ (t = false → Q false l' σ')) l σ)
    (hm : lastMarks [op, op'] [b, c] = false := by with_unfolding_all rfl) : AT w h₀ A L env (.Compare a [op, op'] [b, c] p) Q l σ := fun _ _ H =>
  isTrue_chain (h.usev H fun _ t _ _ _ _ H' q => test_link (q.usev H' fun _ u _ _ _ _ H'' q => AW.use (q t u) H'' fun _ _ _ _ _ H ⟨_, t', e, q⟩ => e ▸ AW.use (q t') H fun b _ _ _ _ H q => by
    cases b with
    | true =>
      rw [if_pos rfl]
      exact test_last ((q.1 rfl).usev H fun _ y _ _ _ _ H q => AW.use (q u y) H fun _ _ _ _ _ H ⟨_, t', e, q⟩ => e ▸ AW.use (q t') H fun _ _ _ _ _ H q => ⟨_, _, _, _, rfl, H, q⟩)
    | false => rw [if_neg (by decide)]; exact ⟨_, _, _, _, rfl, H, (q.2 rfl)⟩)) hm
theorem t_plain {e : Expr} {Q : Bool → Loc → St → Prop} (h : AE w h₀ A L env e (fun v => AV w h₀ A L v Q) l σ)
    (he : ∀ whole : Sem Value, isTrue e env whole = (do let v ← whole; standAt e.pos; holding [v] (truthy v)) := by intro _; rfl) : AT w h₀ A L env e Q l σ := fun _ _ H =>
  isTrue_plain (h.usev H fun _ t _ _ _ _ H' q => AW.use (q t) H' fun _ _ _ _ _ H q => ⟨_, _, _, _, rfl, H, q⟩) (he _)
theorem v_bool {b : Bool} {Q : Bool → Loc → St → Prop} (q : Q b l σ) : AV w h₀ A L (.bool b) Q l σ := fun _ _ s H => wpAny_truthy_bool (⟨s.heap, s.toks, _, _, rfl, H, q⟩)
end
end Mine
namespace Mine
section
variable {w : World} {h₀ : Heap} {A : Around} {L : Addr} {l : Loc} {σ τ : St} {env : Env} {lo gl : List Str} {ce : List (Str × Addr)} {Q : V → Loc → St → Prop}
-- ints
theorem b_add {a b : Int} (q : Q (.int (a + b)) l σ) : AB w h₀ A L (binaryOp .Add) (.int a) (.int b) Q l σ := fun _ _ _ s H => P.add_int (⟨s.heap, _, _, _, rfl, H, ⟨_, _, rfl, q⟩⟩)
theorem b_sub {a b : Int} (q : Q (.int (a - b)) l σ) : AB w h₀ A L (binaryOp .Sub) (.int a) (.int b) Q l σ := fun _ _ _ s H => P.sub_int (⟨s.heap, _, _, _, rfl, H, ⟨_, _, rfl, q⟩⟩)
theorem b_mod {a b : Int} (hb : b ≠ 0) (q : Q (.int (a.fmod b)) l σ) : AB w h₀ A L (binaryOp .Mod) (.int a) (.int b) Q l σ := fun _ _ _ s H => mod_int' hb (⟨s.heap, _, _, _, rfl, H, ⟨_, _, rfl, q⟩⟩)
theorem b_div {a b : Int} (hb : b ≠ 0) (hp : Builtin.divisionGoesByPylong a b = false) (q : Q (.int (a.fdiv b)) l σ) : AB w h₀ A L (binaryOp .FloorDiv) (.int a) (.int b) Q l σ := fun _ _ _ s H =>
  floordiv_int hb (⟨s.heap, _, _, _, rfl, H, ⟨_, _, rfl, q⟩⟩) (.inl hp)
theorem b_band {a b : Int} (q : Q (.int (Builtin.bitAnd a b)) l σ) : AB w h₀ A L (binaryOp .BitAnd) (.int a) (.int b) Q l σ := fun _ _ _ s H => and_int (⟨s.heap, _, _, _, rfl, H, ⟨_, _, rfl, q⟩⟩)
theorem b_pow {a b : Int} (hn : 0 ≤ b) (hsz : (Builtin.Int.intBits a : Int) * b ≤ 2 ^ 27) (q : Q (.int (a ^ b.toNat)) l σ) : AB w h₀ A L (binaryOp .Pow) (.int a) (.int b) Q l σ := fun _ _ _ s H =>
  pow_int hn hsz (⟨s.heap, _, _, _, rfl, H, ⟨_, _, rfl, q⟩⟩)
theorem b_eq {a b : Int} (q : Q (.bool (a == b)) l σ) : AB w h₀ A L (compareOp .Eq) (.int a) (.int b) Q l σ := fun _ _ _ s H => P.eq_int (⟨s.heap, s.toks, _, _, rfl, H, ⟨.bool _, 0, rfl, q⟩⟩)
theorem b_ne {a b : Int} (q : Q (.bool (a != b)) l σ) : AB w h₀ A L (compareOp .NotEq) (.int a) (.int b) Q l σ := fun _ _ _ s H => P.ne_int (⟨s.heap, s.toks, _, _, rfl, H, ⟨.bool _, 0, rfl, q⟩⟩)
theorem b_lt {a b : Int} (q : Q (.bool (decide (a < b))) l σ) : AB w h₀ A L (compareOp .Lt) (.int a) (.int b) Q l σ := fun _ _ _ s H => P.lt_int (⟨s.heap, s.toks, _, _, rfl, H, ⟨.bool _, 0, rfl, q⟩⟩)
theorem b_le {a b : Int} (q : Q (.bool (decide (a ≤ b))) l σ) : AB w h₀ A L (compareOp .LtE) (.int a) (.int b) Q l σ := fun _ _ _ s H => P.le_int (⟨s.heap, s.toks, _, _, rfl, H, ⟨.bool _, 0, rfl, q⟩⟩)
theorem b_gt {a b : Int} (q : Q (.bool (decide (a > b))) l σ) : AB w h₀ A L (compareOp .Gt) (.int a) (.int b) Q l σ := fun _ _ _ s H => P.gt_int (⟨s.heap, s.toks, _, _, rfl, H, ⟨.bool _, 0, rfl, q⟩⟩)
theorem b_ge {a b : Int} (q : Q (.bool (decide (a ≥ b))) l σ) : AB w h₀ A L (compareOp .GtE) (.int a) (.int b) Q l σ := fun _ _ _ s H => P.ge_int (⟨s.heap, s.toks, _, _, rfl, H, ⟨.bool _, 0, rfl, q⟩⟩)
theorem u_neg {a : Int} (q : Q (.int (-a)) l σ) (t : Tok) : AW w h₀ A L (unaryOp .USub ((V.int a).to t)) (fun c l' σ' => ∃ v t, c = v.to t ∧ Q v l' σ') l σ := fun _ s H => P.neg_int (⟨s.heap, _, _, _, rfl, H, ⟨_, _, rfl, q⟩⟩)
theorem v_int {a : Int} {Q : Bool → Loc → St → Prop} (q : Q (a != 0) l σ) : AV w h₀ A L (.int a) Q l σ := fun _ _ s H => P.truthy_int (⟨s.heap, s.toks, _, _, rfl, H, q⟩)
-- texts, none
theorem b_eqs {x y : Str} (q : Q (.bool (x.cps.toList == y.cps.toList)) l σ) : AB w h₀ A L (compareOp .Eq) (.str x) (.str y) Q l σ := fun _ _ _ s H => P.eq_str (⟨s.heap, s.toks, _, _, rfl, H, ⟨.bool _, 0, rfl, q⟩⟩)
theorem b_nes {x y : Str} (q : Q (.bool (x.cps.toList != y.cps.toList)) l σ) : AB w h₀ A L (compareOp .NotEq) (.str x) (.str y) Q l σ := fun _ _ _ s H => P.ne_str (⟨s.heap, s.toks, _, _, rfl, H, ⟨.bool _, 0, rfl, q⟩⟩)
theorem b_isnot_ref {a : Addr} (q : Q (.bool true) l σ) : AB w h₀ A L (compareOp .IsNot) (.ref a) .none Q l σ := fun _ _ _ s H => wpAny_isNot_other rfl (by intro e; cases e) (⟨s.heap, s.toks, _, _, rfl, H, ⟨.bool _, 0, rfl, q⟩⟩)
theorem b_isnot_none (q : Q (.bool false) l σ) : AB w h₀ A L (compareOp .IsNot) .none .none Q l σ := fun _ _ _ s H => wpAny_isNot_self rfl (⟨s.heap, s.toks, _, _, rfl, H, ⟨.bool _, 0, rfl, q⟩⟩)
theorem b_is_ref {a : Addr} (q : Q (.bool false) l σ) : AB w h₀ A L (compareOp .Is) (.ref a) .none Q l σ := fun _ _ _ s H => wpAny_is_other rfl (by intro e; cases e) (⟨s.heap, s.toks, _, _, rfl, H, ⟨.bool _, 0, rfl, q⟩⟩)
theorem b_is_none (q : Q (.bool true) l σ) : AB w h₀ A L (compareOp .Is) .none .none Q l σ := fun _ _ _ s H => wpAny_is_self rfl (⟨s.heap, s.toks, _, _, rfl, H, ⟨.bool _, 0, rfl, q⟩⟩)
-- items
theorem e_sub {o i : Expr} {p : Pos} (h : AE w h₀ A L env o (fun v => AE w h₀ A L env i fun u => AB w h₀ A L (subscriptTail o i) v u Q) l σ) : AE w h₀ A L env (.Subscript o i p) Q l σ := fun _ _ H =>
  Subscript_ (h.usev H fun _ t _ _ _ _ H' q => q.usev H' fun _ u _ _ _ _ H'' q => AW.use (q t u) H'' fun _ _ _ _ _ H q => ⟨_, _, _, _, rfl, H, q⟩)
theorem s_list {o i : Expr} {a : Addr} {vs : List V} {k : Int} {v : V} (ha : σ a = some (.list vs)) (h0 : 0 ≤ k) (hk : k < 2 ^ 63) (hv : vs[k.toNat]? = some v) (q : Q v l σ)
    (hs : ∀ t, subscripted i false (.ref a) (.int k t) = operate [.ref a, .int k t] (getItem (.ref a) (.int k t)) := by intro _; with_unfolding_all rfl) : AB w h₀ A L (subscriptTail o i) (.ref a) (.int k) Q l σ := fun t u E s H => by
  obtain ⟨cs, hl, hc⟩ := H.mod.isList ha
  obtain ⟨t', e⟩ := hc.get hv
  exact tail_any hl.typeIs slot_list_getitem.lookup (wpAny_getItem_list hl h0 hk (by simpa using e) (⟨s.heap, s.toks, _, _, rfl, H, ⟨v, t', rfl, q⟩⟩)) (hs u)
theorem s_list_neg {o i : Expr} {a : Addr} {vs : List V} {k : Int} {v : V} (ha : σ a = some (.list vs)) (h0 : k < 0) (h1 : -(vs.length : Int) ≤ k) (hk : -(2 ^ 63) ≤ k) (hv : vs[(k + vs.length).toNat]? = some v) (q : Q v l σ)
    (hs : ∀ t, subscripted i false (.ref a) (.int k t) = operate [.ref a, .int k t] (getItem (.ref a) (.int k t)) := by intro _; with_unfolding_all rfl) : AB w h₀ A L (subscriptTail o i) (.ref a) (.int k) Q l σ := fun t u E s H => by
  obtain ⟨cs, hl, hc⟩ := H.mod.isList ha
  obtain ⟨t', e⟩ := hc.get hv
  have hz : cs.toArray.size = vs.length := by simpa using hc.length
  exact tail_any hl.typeIs slot_list_getitem.lookup (wpAny_getItem_list_neg hl h0 (by rw [hz]; exact h1) hk (by rw [hz]; simpa using e) (⟨s.heap, s.toks, _, _, rfl, H, ⟨v, t', rfl, q⟩⟩)) (hs u)
theorem s_tup {o i : Expr} {a : Addr} {vs : List V} {k : Int} {j : Nat} {v : V} (ha : σ a = some (.tup vs)) (hlo : -(2 ^ 63) ≤ k) (hhi : k < 2 ^ 63) (hj : seqIndex? k vs.length = some j) (hv : vs[j]? = some v) (q : Q v l σ)
    (hs : ∀ t, subscripted i false (.ref a) (.int k t) = operate [.ref a, .int k t] (getItem (.ref a) (.int k t)) := by intro _; with_unfolding_all rfl) : AB w h₀ A L (subscriptTail o i) (.ref a) (.int k) Q l σ := fun t u E s H => by
  obtain ⟨cs, hl, hc⟩ := H.mod.isTup ha
  obtain ⟨t', e⟩ := hc.get hv
  exact item_tupleT hl hlo hhi (by rw [hc.length]; exact hj) e (⟨s.heap, s.toks, _, _, rfl, H, ⟨v, t', rfl, q⟩⟩) (hs u)
-- displays
noncomputable def noStar (es : List Expr) : Bool := es.all fun e => match e with | .Starred .. => false | _ => true
theorem starEach_cons {e : Expr} {es : List Expr} (h : noStar (e :: es) = true) : starEach (e :: es) env = (false, eval e env) :: starEach es env ∧ noStar es = true := by
  unfold noStar at h ⊢
  rw [List.all_cons, Bool.and_eq_true] at h
  refine ⟨?_, h.2⟩
  cases e <;> first | rfl | (exact absurd h.1 (by simp))
theorem w_spliced {p : Pos} : ∀ {es : List Expr} {Q : List V → Loc → St → Prop} {l : Loc} {σ : St}, noStar es = true → AEs w h₀ A L env es Q l σ →
    AW w h₀ A L (spliced (backTo p (starEach es env))) (fun cs l' σ' => ∃ vs, VL vs cs ∧ Q vs l' σ') l σ
  | [], _, _, _, _, q => fun _ s H => spliced_nil (⟨s.heap, s.toks, _, _, rfl, H, ⟨[], trivial, q⟩⟩)
  | e :: es, Q, l, σ, hn, q => fun E s H => by
    obtain ⟨h1, h2⟩ := starEach_cons (env := env) hn
    rw [h1]
    refine spliced_cons (AE.usev q H fun v t _ _ l' σ' H' q => ?_)
    exact AW.use (w_spliced (p := p) (es := es) (Q := fun vs => Q (v :: vs)) h2 q) H' fun cs _ _ _ _ H' ⟨vs, hv, q⟩ => ⟨_, _, _, _, rfl, H', ⟨v :: vs, ⟨⟨t, rfl⟩, hv⟩, q⟩⟩
theorem ModL.push {h : Heap} (H : ModL h₀ L l σ h) {x : AO} {o : Obj} (ho : x.is o) (hf : o.isFreed = false) : ModL h₀ L l (upd σ h.objs.size x) (h.push o) := by
  obtain ⟨m, hn, hm⟩ := H.ns
  exact ⟨H.mod.push ho hf, ⟨m, hn.push o, hm⟩, upd_none (Nat.ne_of_lt hn.lt) H.off, H.new⟩
theorem ModL.push' {h : Heap} (H : ModL h₀ L l σ h) (o : Obj) : ModL h₀ L l σ (h.push o) := by
  obtain ⟨m, hn, hm⟩ := H.ns
  exact ⟨H.mod.push' o, ⟨m, hn.push o, hm⟩, H.off, H.new⟩
theorem VL.toArray {vs : List V} {cs : List Value} (h : VL vs cs) : VL vs cs.toArray.toList := by simpa using h
theorem e_tup {es : List Expr} {k : Nat} {p : Pos} (hn : noStar es = true)
    (h : AEs w h₀ A L env es (fun vs l' σ' => vs.length ≤ 1000 ∧ ∀ a, σ' a = none → Q (.ref a) l' (upd σ' a (.tup vs))) l σ) : AE w h₀ A L env (.Tuple es k p) Q l σ := fun E s H => by
  refine Tuple_ (AW.use (w_spliced hn h) H fun cs h' tk' l' σ' H' ⟨vs, hv, hz, q⟩ => ?_)
  refine wpAny_newTuple (⟨h'.push _, _, _, _, rfl, (H'.push (x := AO.tup vs) ⟨_, 0, rfl, hv.toArray⟩ rfl), ⟨.ref h'.objs.size, 0, rfl, q _ H'.mod.fresh⟩⟩) (by rw [hv.length, sizeLine_eq]; omega)
theorem e_list {es : List Expr} {p : Pos} (hn : noStar es = true)
    (h : AEs w h₀ A L env es (fun vs l' σ' => vs.length ≤ 1000 ∧ ∀ a, σ' a = none → Q (.ref a) l' (upd σ' a (.list vs))) l σ) : AE w h₀ A L env (.List es p) Q l σ := fun E s H => by
  refine List_ (AW.use (w_spliced hn h) H fun cs h' tk' l' σ' H' ⟨vs, hv, hz, q⟩ => ?_)
  refine wpAny_newList (⟨h'.push _, _, _, _, rfl, (H'.push (x := AO.list vs) ⟨_, 0, rfl, hv.toArray⟩ rfl), ⟨.ref h'.objs.size, 0, rfl, q _ H'.mod.fresh⟩⟩) (by rw [hv.length, sizeLine_eq]; omega)
-- attributes
noncomputable def AG (w : World) (h₀ : Heap) (A : Around) (L : Addr) (name : Str) (v : V) (Q : V → Loc → St → Prop) (l : Loc) (σ : St) : Prop :=
  ∀ t, AW w h₀ A L (getAttr (v.to t) name true) (fun c l' σ' => ∃ v t, c = v.to t ∧ Q v l' σ') l σ
theorem e_attr {o : Expr} {name : Str} {p : Pos} (h : AE w h₀ A L env o (fun v => AG w h₀ A L name v Q) l σ)
    (he : eval (.Attribute o name p) env = (do
      let o' ← eval o env
      standAt p.atName
      let r ← holding [o'] (getAttr o' name true)
      letTemporaryGo o o' r
      pure r) := by with_unfolding_all rfl) : AE w h₀ A L env (.Attribute o name p) Q l σ := fun _ _ H =>
  Attribute_any_ (h.usev H fun _ t _ _ _ _ H' q => AW.use (q t) H' fun _ _ _ _ _ H q => ⟨_, _, _, _, rfl, H, q⟩) he
structure ClsOk (K : Frag) (C : Addr) : Prop where
  get : plainGet K C "" = true
  has : hasDictIn K C = true
  set : findIn K (.ref C) "__setattr__" = some (some (.builtin "object.__setattr__"))
  over : plainOver K C = true
/-- a name that the class does not hold -/
structure Field (K : Frag) (C : Addr) (name : Str) : Prop where
  find : findIn K (.ref C) name = some none
theorem handed_to (v : V) (t : Tok) : handedIn (v.to t) = true := by cases v <;> rfl
theorem getL_of {name : Str} {u : V} : ∀ {fs : Loc} {es : List DictEntry}, fsIs fs es → fs.lookup name = some u → ∃ t, getL name es = some (some (u.to t))
  | f :: r, e :: s, ⟨⟨tk, hk⟩, ⟨tv, hv⟩, hr⟩, hl => by
    rw [List.lookup_cons] at hl
    unfold getL
    rw [List.find?_cons]
    by_cases c : name = f.1
    · subst c
      rw [beq_self_eq_true] at hl
      cases hl
      refine ⟨tv, ?_⟩
      rw [hk, ← hv]
      simp [Value.isStr]
    · rw [show (name == f.1) = false from by simpa using c] at hl
      obtain ⟨t, q⟩ := getL_of hr hl
      refine ⟨t, ?_⟩
      have z : e.key.isStr name = false := by rw [hk]; simp [Value.isStr]; exact fun e => c e.symm
      rw [z]
      unfold getL at q
      split at q
      · rename_i y hy
        simp only [hy]
        exact q
      · split at q <;> cases q
  | [], _, _, hl => by simp at hl
  | _ :: _, [], h, _ => h.elim
theorem inst_at {h : Heap} (H : Mod h₀ σ h) {x C dx : Addr} {fs : Loc} (hx : σ x = some (.inst C dx)) (hd : σ dx = some (.attrs fs)) : ∃ es n, InstAt h x (instObj C dx) C (some (dictOf es n)) ∧ fsIs fs es := by
  obtain ⟨_, o, ho, e⟩ := H.obj _ _ hx
  obtain ⟨_, o', ho', es, n, e', hf⟩ := H.obj _ _ hd
  cases e
  cases e'
  exact ⟨es, n, ⟨ho, rfl, rfl, ho'⟩, hf⟩
theorem plainGet_any {K : Frag} {C : Addr} {a b : Str} (h : plainGet K C a = true) : plainGet K C b = true := h
theorem g_attr (G : Gnd w h₀) {name : Str} {x C dx : Addr} {fs : Loc} {u : V} (hx : σ x = some (.inst C dx)) (hd : σ dx = some (.attrs fs)) (hf : fs.lookup name = some u) (c : ClsOk (K w.params) C) (f : Field (K w.params) C name)
    (q : Q u l σ) : AG w h₀ A L name (.ref x) Q l σ := fun _ E s H => by
  obtain ⟨es, n, I, hfs⟩ := inst_at H.mod hx hd
  obtain ⟨t, e⟩ := getL_of hfs hf
  exact get_value (G.X.keeps H.mod.base) I (plainGet_of c.get).1 (findObj_own c.has f.find rfl (by rw [lookIn_dict]; exact e)) (handed_to u t) (⟨s.heap, _, _, _, rfl, H, ⟨u, t, rfl, q⟩⟩)
-- the whole heap as a ledger
noncomputable def others (h : Heap) (L dx : Addr) : List (Addr × Obj) := (List.range h.objs.size).filterMap fun a => if a = L ∨ a = dx then none else (h.get? a).map fun o => (a, o)
theorem others_mem {h : Heap} {L dx a : Addr} {o : Obj} : (a, o) ∈ others h L dx ↔ a ≠ L ∧ a ≠ dx ∧ h.get? a = some o := by
  unfold others
  rw [List.mem_filterMap]
  constructor
  · rintro ⟨b, hb, e⟩
    split at e
    · cases e
    · rename_i c
      obtain ⟨o', ho, e'⟩ := Option.map_eq_some_iff.mp e
      cases e'
      exact ⟨fun z => c (.inl z), fun z => c (.inr z), ho⟩
  · rintro ⟨h1, h2, h3⟩
    refine ⟨a, List.mem_range.mpr (Heap.lt_size h3), ?_⟩
    rw [if_neg (by rintro (z | z); exact h1 z; exact h2 z), h3]
    rfl
theorem none_get (a : Addr) : ({} : Heap).get? a = none := by
  cases e : ({} : Heap).get? a with
  | none => rfl
  | some o => exact absurd (Heap.lt_size e) (Nat.not_lt_zero _)
theorem others_news {h : Heap} {L dx : Addr} : News {} L h (others h L dx) := fun p hp => by
  obtain ⟨a, o⟩ := p
  obtain ⟨h1, _, h3⟩ := others_mem.mp hp
  exact ⟨h3, h1, none_get a⟩
theorem fr_none {h : Heap} {L : Addr} {m : Str → Option Value} (n : h.Ns L m) : Fr {} L h m := ⟨n, fun b o e => (by rw [none_get] at e; cases e), Nat.zero_le _⟩
/-- only dx was turned -/
theorem ModL.turned {h h' : Heap} (H : ModL h₀ L l σ h) {m : Str → Option Value} (hm : nsIs l m) (n : h'.Ns L m) {dx : Addr} {x y : AO} (hd : σ dx = some y) (k : ∀ p ∈ others h L dx, h'.get? p.1 = some p.2) (hx : ∃ o, h'.get? dx = some o ∧ x.is o) :
    ModL h₀ L l (upd σ dx x) h' := by
  have hne := ne_of_none H.off hd
  refine ⟨⟨fun b o e => k (b, o) (others_mem.mpr ⟨?_, ?_, H.mod.base b o e⟩), fun b z e => ?_⟩, ⟨m, n, hm⟩, upd_none hne.symm H.off, H.new⟩
  · rintro rfl; rw [H.new] at e; cases e
  · rintro rfl; rw [(H.mod.obj _ _ hd).1] at e; cases e
  · by_cases c : b = dx
    · subst c
      rw [upd_self] at e
      cases e
      exact ⟨(H.mod.obj _ _ hd).1, hx⟩
    · rw [upd_ne c] at e
      obtain ⟨h1, o, h2, h3⟩ := H.mod.obj _ _ e
      exact ⟨h1, o, k (b, o) (others_mem.mpr ⟨ne_of_none H.off e, c, h2⟩), h3⟩
/-- a store into a field -/
noncomputable def setF (fs : Loc) (name : Str) (v : V) : Loc := match fs with
  | [] => [(name, v)]
  | f :: r => if f.1 = name then (f.1, v) :: r else f :: setF r name v
theorem fsIs_put {name : Str} {v : V} {t tk : Tok} {hsh : Int} : ∀ {fs : Loc} {es : List DictEntry}, fsIs fs es → fsIs (setF fs name v) (putL name hsh (.str name tk) (v.to t) es)
  | [], [], _ => ⟨⟨tk, rfl⟩, ⟨t, rfl⟩, trivial⟩
  | f :: r, e :: s, ⟨⟨k1, hk⟩, ⟨tv, hv⟩, hr⟩ => by
    unfold setF putL
    by_cases c : f.1 = name
    · rw [if_pos c, if_pos (by rw [hk, c]; simp [Value.isStr])]
      exact ⟨⟨k1, hk⟩, ⟨t, rfl⟩, hr⟩
    · rw [if_neg c, if_neg (by rw [hk]; simp [Value.isStr]; exact c)]
      exact ⟨⟨k1, hk⟩, ⟨tv, hv⟩, fsIs_put hr⟩
  | [], _ :: _, h => h.elim
  | _ :: _, [], h => h.elim
theorem fsIs_length : ∀ {fs : Loc} {es : List DictEntry}, fsIs fs es → es.length = fs.length
  | [], [], _ => rfl
  | _ :: _, _ :: _, ⟨_, _, h⟩ => by simp [fsIs_length h]
  | [], _ :: _, h => h.elim
  | _ :: _, [], h => h.elim
theorem setF_length {name : Str} {v : V} : ∀ {fs : Loc}, (setF fs name v).length ≤ fs.length + 1
  | [] => by simp [setF]
  | f :: r => by
    unfold setF
    split
    · simp
    · have := setF_length (name := name) (v := v) (fs := r)
      simp only [List.length_cons]; omega
theorem getL_some {name : Str} : ∀ {fs : Loc} {es : List DictEntry}, fsIs fs es → (getL name es).isSome = true := fun {fs es} h => by
  have nr : es.any (·.refKey) = false := by
    induction fs generalizing es with
    | nil => cases es with
      | nil => rfl
      | cons _ _ => exact h.elim
    | cons f r ih => cases es with
      | nil => exact h.elim
      | cons e s =>
        obtain ⟨⟨k1, hk⟩, _, hr⟩ := h
        rw [List.any_cons, ih hr]
        simp [DictEntry.refKey, hk]
  unfold getL
  split
  · rfl
  · rw [nr]; rfl
theorem w_set (G : Gnd w h₀) {name : Str} {x C dx : Addr} {fs : Loc} {u : V} {t : Tok} {Q : Loc → St → Prop} (hx : σ x = some (.inst C dx)) (hd : σ dx = some (.attrs fs)) (c : ClsOk (K w.params) C) (f : Field (K w.params) C name) (hz : fs.length ≤ 500)
    (q : Q l (upd σ dx (.attrs (setF fs name u)))) : AW w h₀ A L (setAttr (.ref x) name (u.to t)) (fun _ => Q) l σ := fun E s H => by
  obtain ⟨es, n, I, hfs⟩ := inst_at H.mod hx hd
  obtain ⟨m, hn, hm⟩ := H.ns
  have hD : s.heap.get? dx = some (dictOf es n) := I.dict
  have hne := ne_of_none H.off hd
  have N : News {} L s.heap ((dx, dictOf es n) :: others s.heap L dx) := fun p hp => by
    rcases List.mem_cons.mp hp with rfl | hp
    · exact ⟨hD, hne, none_get _⟩
    · exact others_news p hp
  refine set_plain (G.X.keeps H.mod.base) I c.set (osa_dict (pre := []) (post := others s.heap L dx) (s := { s with toks := s.toks + 1 }) (fr_none hn) N (G.X.keeps H.mod.base) I rfl c.over (by unfold takerIn; rw [f.find]; rfl) c.has
    (by rw [lookIn_dict]; exact getL_some hfs) (fun _ hp => nomatch hp) (fun p hp => (others_mem.mp hp).2.1) (putName_dict _ _ _ _ _ _) rfl ?_ fun h' F' N' => ?_)
  · rw [fsIs_length (fsIs_put (name := name) (v := u) (t := t) hfs)]
    have := setF_length (name := name) (v := u) (fs := fs)
    omega
  · exact ⟨_, _, _, _, rfl, (H.turned (x := AO.attrs (setF fs name u)) hm F'.ns hd (fun p hp => (N' p (List.mem_cons_of_mem _ hp)).1) ⟨_, (N' _ (List.mem_cons_self ..)).1, _, _, rfl, fsIs_put hfs⟩), q⟩
end
end Mine
namespace Mine
section
variable {w : World} {h₀ : Heap} {A : Around} {L : Addr} {l : Loc} {σ τ : St} {env : Env} {lo gl : List Str} {ce : List (Str × Addr)} {Q : V → Loc → St → Prop}
theorem backTo_any {p : Pos} : ∀ {es : List Expr}, noStar es = true → (backTo p (starEach es env)).any (·.1) = false
  | [], _ => rfl
  | e :: es, h => by
    obtain ⟨h1, h2⟩ := starEach_cons (env := env) h
    rw [h1]
    show (false || (backTo p (starEach es env)).any (·.1)) = false
    rw [backTo_any h2]; rfl
theorem w_args {f : Value} {p : Pos} {es : List Expr} {Q : List V → Loc → St → Prop} (hn : noStar es = true) (h : AEs w h₀ A L env es Q l σ) :
    AW w h₀ A L (evalArgs f true (backTo p (starEach es env)) []) (fun x l' σ' => ∃ vs cs, x = ⟨cs, []⟩ ∧ VL vs cs ∧ Q vs l' σ') l σ := fun E s H => by
  cases es with
  | nil => exact evalArgs_nil3 ⟨s.heap, s.toks, _, _, rfl, H, [], [], rfl, trivial, h⟩
  | cons e es =>
    have hs := w_spliced (p := p) hn h
    obtain ⟨h1, h2⟩ := starEach_cons (env := env) hn
    rw [h1] at hs ⊢
    exact evalArgs_plain (AW.use hs H fun cs _ _ _ _ H' ⟨vs, hv, q⟩ => ⟨_, _, _, _, rfl, H', vs, cs, rfl, hv, q⟩)
/-- a call of what stands, its first arguments at hand -/
noncomputable def ACW (w : World) (h₀ : Heap) (A : Around) (L : Addr) (env : Env) (f : Value) (first : List Value) (args : List Expr) (Q : V → Loc → St → Prop) (l : Loc) (σ : St) : Prop :=
  ∀ p, AW w h₀ A L (callWith p f first (backTo p (starEach args env)) []) (fun c l' σ' => ∃ v t, c = v.to t ∧ Q v l' σ') l σ
noncomputable def AKf (w : World) (h₀ : Heap) (A : Around) (L : Addr) (f : Value) (first : List Value) (vs : List V) (Q : V → Loc → St → Prop) (l : Loc) (σ : St) : Prop :=
  ∀ cs, VL vs cs → AW w h₀ A L (call f (first ++ cs)) (fun c l' σ' => ∃ v t, c = v.to t ∧ Q v l' σ') l σ
theorem cw_K (G : Gnd w h₀) {f : Value} {first : List Value} {args : List Expr} (hk : keepIn (K w.params) f = true) (hn : noStar args = true) (h : AEs w h₀ A L env args (fun vs => AKf w h₀ A L f first vs Q) l σ) :
    ACW w h₀ A L env f first args Q l σ := fun p E s H => by
  refine callWith_of (P := fun h => (K w.params).In h) (by rw [backTo_any hn]; rfl) (keeps_K hk) (AW.use (w_args hn h) H fun x h' tk' l' σ' H' ⟨vs, cs, e, hv, q⟩ => ?_)
  subst e
  exact ⟨G.X.keeps H'.mod.base, AW.use (q cs hv) H' fun _ _ _ _ _ H q => ⟨_, _, _, _, rfl, H, q⟩⟩
theorem cw_B {id : String} {first : List Value} {args : List Expr} (hn : noStar args = true) (h : AEs w h₀ A L env args (fun vs => AKf w h₀ A L (.builtin id) first vs Q) l σ) :
    ACW w h₀ A L env (.builtin id) first args Q l σ := fun p E s H => by
  refine callWith_builtin (backTo_any hn) (AW.use (w_args hn h) H fun x h' tk' l' σ' H' ⟨vs, cs, e, hv, q⟩ => ?_)
  subst e
  exact AW.use (q cs hv) H' fun _ _ _ _ _ H q => ⟨_, _, _, _, rfl, H, q⟩
theorem cw_T {T : String} {first : List Value} {args : List Expr} (hn : noStar args = true) (h : AEs w h₀ A L env args (fun vs => AKf w h₀ A L (.type T) first vs Q) l σ) :
    ACW w h₀ A L env (.type T) first args Q l σ := fun p E s H => by
  refine PySem.callWith_type (backTo_any hn) (AW.use (w_args hn h) H fun x h' tk' l' σ' H' ⟨vs, cs, e, hv, q⟩ => ?_)
  subst e
  exact AW.use (q cs hv) H' fun _ _ _ _ _ H q => ⟨_, _, _, _, rfl, H, q⟩
/-- a call by a global name -/
theorem e_call (G : Gnd w h₀) (O : EnvOk env L lo gl ce) {x : Str} {fa : Addr} {xp p : Pos} {args : List Expr} (hx : x ∈ gl) (e : nsIn (K w.params) mainGlobals x = some (some (.ref fa))) (hk : keepIn (K w.params) (.ref fa) = true)
    (hn : noStar args = true) (h : AEs w h₀ A L env args (fun vs => AK w h₀ A L (.ref fa) vs Q) l σ) : AE w h₀ A L env (.Call (.Name x xp) args [] p) Q l σ := fun E s H => by
  refine Call_Name rfl ((e_glob (v := .ref fa) (t := 0) (Q := fun v l' σ' => v = .ref fa ∧ l' = l ∧ σ' = σ) G O hx e ⟨rfl, rfl, rfl⟩).usev H fun v t h' tk' l' σ' H' ⟨e1, e2, e3⟩ => ?_)
  subst e1 e2 e3
  exact AW.use (cw_K (first := []) G hk hn h p) H' fun _ _ _ _ _ H q => ⟨_, _, _, _, rfl, H, q⟩
theorem e_callB (G : Gnd w h₀) (O : EnvOk env L lo gl ce) {x : Str} {id : String} {xp p : Pos} {args : List Expr} (hx : x ∈ gl) (e : nsIn (K w.params) mainGlobals x = some none) (hv : bootBuiltins x = some (.builtin id))
    (hn : noStar args = true) (h : AEs w h₀ A L env args (fun vs => AK w h₀ A L (.builtin id) vs Q) l σ) : AE w h₀ A L env (.Call (.Name x xp) args [] p) Q l σ := fun E s H => by
  refine Call_Name rfl (AW.use (w_blt (Q := fun v l' σ' => v = .builtin id ∧ l' = l ∧ σ' = σ) G O hx e hv ⟨rfl, rfl, rfl⟩) H fun v h' tk' l' σ' H' ⟨e1, e2, e3⟩ => ?_)
  subst e1 e2 e3
  exact AW.use (cw_B (first := []) hn h p) H' fun _ _ _ _ _ H q => ⟨_, _, _, _, rfl, H, q⟩
theorem e_callT (G : Gnd w h₀) (O : EnvOk env L lo gl ce) {x : Str} {T : String} {xp p : Pos} {args : List Expr} (hx : x ∈ gl) (e : nsIn (K w.params) mainGlobals x = some none) (hv : bootBuiltins x = some (.type T))
    (hn : noStar args = true) (h : AEs w h₀ A L env args (fun vs => AK w h₀ A L (.type T) vs Q) l σ) : AE w h₀ A L env (.Call (.Name x xp) args [] p) Q l σ := fun E s H => by
  refine Call_Name rfl (AW.use (w_blt (Q := fun v l' σ' => v = .type T ∧ l' = l ∧ σ' = σ) G O hx e hv ⟨rfl, rfl, rfl⟩) H fun v h' tk' l' σ' H' ⟨e1, e2, e3⟩ => ?_)
  subst e1 e2 e3
  exact AW.use (cw_T (first := []) hn h p) H' fun _ _ _ _ _ H q => ⟨_, _, _, _, rfl, H, q⟩
/-- a method's call -/
theorem e_meth {o : Expr} {name : Str} {ap p : Pos} {args : List Expr} {pl : Sem Bool}
    (h : AE w h₀ A L env o (fun v l' σ' => ∀ t, AW w h₀ A L (getMethod (v.to t) name pl) (fun fx l' σ' => ACW w h₀ A L env fx.1 fx.2 args Q l' σ') l' σ') l σ)
    (he : eval (.Call (.Attribute o name ap) args [] p) env = (do
      let ov ← eval o env
      standAt ap.atName
      let (f, first) ← holding [ov] (getMethod ov name pl)
      callWith p f first (backTo p (starEach args env)) (backToKw p (keywordEach [] env))) := by rfl) : AE w h₀ A L env (.Call (.Attribute o name ap) args [] p) Q l σ := fun E s H => by
  refine methodCall_KW (h.usev H fun v t _ _ _ _ H' q => AW.use (q t) H' fun fx _ _ _ _ H' q => ?_) he
  exact AW.use (q p) H' fun _ _ _ _ _ H q => ⟨_, _, _, _, rfl, H, q⟩
theorem m_inst (G : Gnd w h₀) {name : Str} {x C dx f : Addr} {fs : Loc} {pl : Sem Bool} {Q : Value × List Value → Loc → St → Prop} (hx : σ x = some (.inst C dx)) (hd : σ dx = some (.attrs fs)) (c : ClsOk (K w.params) C)
    (hf : findIn (K w.params) (.ref C) name = some (some (.ref f))) (ht : typeIn (K w.params) (.ref f) = some (.type "function")) (hs : fs.lookup name = none) (q : Q (.ref f, [.ref x]) l σ) (t : Tok) :
    AW w h₀ A L (getMethod ((V.ref x).to t) name pl) Q l σ := fun E s H => by
  obtain ⟨es, n, I, hfs⟩ := inst_at H.mod hx hd
  refine method_fn (G.X.keeps H.mod.base) I (plainGet_of c.get).1 (plainGet_of c.get).2 hf ht ?_ (⟨s.heap, s.toks, _, _, rfl, H, q⟩)
  show (getL name es).map (·.isSome) = some false
  have h1 := getL_some (name := name) hfs
  have h2 : es.find? (·.key.isStr name) = none := by
    clear h1 I H hx hd
    induction fs generalizing es with
    | nil => cases es with
      | nil => rfl
      | cons _ _ => exact hfs.elim
    | cons g r ih => cases es with
      | nil => exact hfs.elim
      | cons e s =>
        obtain ⟨⟨k1, hk⟩, _, hr⟩ := hfs
        rw [List.lookup_cons] at hs
        by_cases z : name = g.1
        · rw [z, beq_self_eq_true] at hs; cases hs
        · rw [show (name == g.1) = false from by simpa using z] at hs
          rw [List.find?_cons, show e.key.isStr name = false from by rw [hk]; simp [Value.isStr]; exact fun e => z e.symm]
          exact ih hs _ hr
  unfold getL at h1 ⊢
  rw [h2] at h1 ⊢
  dsimp only at h1 ⊢
  split at h1
  · cases h1
  · rename_i z; rw [if_neg z]; rfl
theorem m_append {a : Addr} {vs : List V} {pl : Sem Bool} {Q : Value × List Value → Loc → St → Prop} (ha : σ a = some (.list vs)) (q : Q (.builtin "list.append", [.ref a]) l σ) (t : Tok) :
    AW w h₀ A L (getMethod ((V.ref a).to t) "append" pl) Q l σ := fun E s H => by
  obtain ⟨cs, n, ho, _⟩ := H.mod.plain ha
  exact Calls.getMethod_list_append ho rfl rfl ⟨s.heap, s.toks, _, _, rfl, H, q⟩
theorem m_list {a : Addr} {vs : List V} {name : Str} {id : String} {pl : Sem Bool} {Q : Value × List Value → Loc → St → Prop} (slot : Slot "list" name id) (hty : typeOf (.builtin id) = pure (.type "method_descriptor"))
    (ha : σ a = some (.list vs)) (q : Q (.builtin id, [.ref a]) l σ) (t : Tok) : AW w h₀ A L (getMethod ((V.ref a).to t) name pl) Q l σ := fun E s H => by
  obtain ⟨cs, hl, _⟩ := H.mod.isList ha
  obtain ⟨cs', n, ho, _⟩ := H.mod.plain ha
  exact getMethod_list_of slot hty hl ⟨_, ho, rfl⟩ ⟨s.heap, s.toks, _, _, rfl, H, q⟩
-- the ways out of a call
theorem k_still {f : Value} {vs : List V} {R : V → Prop} (h : σ L = none → AF w h₀ A f vs (fun v σ' => R v ∧ σ' = upd σ L (.ns l)) (upd σ L (.ns l))) (k : ∀ v, R v → Q v l σ) : AK w h₀ A L f vs Q l σ := fun cs hv =>
  AW.of (Q' := fun c σ' => ∃ v t, c = v.to t ∧ R v ∧ σ' = upd σ L (.ns l)) (fun off => h off cs hv) fun off c σ'' ⟨v, t, e, r, e'⟩ => ⟨σ, e' ▸ Sub.refl _, off, v, t, e, k v r⟩
theorem k_turn {f : Value} {vs : List V} {R : V → Prop} {d : Addr} {x y : AO} (hd : σ d = some y) (h : σ L = none → AF w h₀ A f vs (fun v σ' => R v ∧ σ' = upd (upd σ L (.ns l)) d x) (upd σ L (.ns l))) (k : ∀ v, R v → Q v l (upd σ d x)) :
    AK w h₀ A L f vs Q l σ := fun cs hv =>
  AW.of (Q' := fun c σ' => ∃ v t, c = v.to t ∧ R v ∧ σ' = upd (upd σ L (.ns l)) d x) (fun off => h off cs hv) fun off c σ'' ⟨v, t, e, r, e'⟩ =>
    ⟨upd σ d x, e' ▸ (upd_comm (ne_of_none off hd) ▸ Sub.refl _), upd_none (ne_of_none off hd).symm off, v, t, e, k v r⟩
/-- any end: the frame stands in it, and what is told behind it is a part of it -/
theorem k_any {f : Value} {vs : List V} {P : V → St → Prop} (h : σ L = none → AF w h₀ A f vs P (upd σ L (.ns l))) (k : σ L = none → ∀ v σ'', P v σ'' → ∃ σ', Sub (upd σ' L (.ns l)) σ'' ∧ σ' L = none ∧ Q v l σ') : AK w h₀ A L f vs Q l σ := fun cs hv =>
  AW.of (Q' := fun c σ' => ∃ v t, c = v.to t ∧ P v σ') (fun off => h off cs hv) fun off c σ'' ⟨v, t, e, p⟩ => let ⟨σ', h1, h2, h3⟩ := k off v σ'' p; ⟨σ', h1, h2, v, t, e, h3⟩
/-- a def's contract, at the call's code -/
noncomputable def AD (w : World) (h₀ : Heap) (A : Around) (f : Value) (vs : List V) (Q : V → St → Prop) (σ : St) : Prop :=
  ∀ cs, VL vs cs → ∀ (R : Result → Shared → Prop) (s : Shared), Mod h₀ σ s.heap → (∀ v t h' tk' σ', Mod h₀ σ' h' → Q v σ' → R (.ok (.ret (v.to t))) { s with heap := h', toks := tk' }) →
    codeAny (model PG w) A (.call f ⟨cs, []⟩) R s
theorem AD.af {f : Value} {vs : List V} {Q : V → St → Prop} (h : AD w h₀ A f vs Q σ) : AF w h₀ A f vs Q σ := fun cs hv E s H =>
  wpAny_call (h cs hv _ s H fun v t h' tk' σ' H' q => ⟨h', tk', σ', rfl, H', v, t, rfl, q⟩)
theorem AD.mono {f : Value} {vs : List V} {Q R : V → St → Prop} (h : AD w h₀ A f vs Q σ) (k : ∀ v σ', Q v σ' → R v σ') : AD w h₀ A f vs R σ := fun cs hv R' s H q =>
  h cs hv R' s H fun v t h' tk' σ' H' z => q v t h' tk' σ' H' (k v σ' z)
noncomputable def Fl.val : Fl → V
  | .ret v => v
  | _ => .none
theorem zip_rev : ∀ {ns : List Str} {cs : List Value} {vs : List V}, VL vs cs → ns.Nodup → nsIs (ns.zip vs) (fun x => (ns.zip cs).reverse.lookup x)
  | [], _, _, _, _ => fun x v e => by simp at e
  | _ :: _, [], [], _, _ => fun x v e => by simp at e
  | n :: ns, c :: cs, u :: us, ⟨⟨t, hc⟩, hv⟩, hn => fun x v e => by
    rw [List.zip_cons_cons, List.lookup_cons] at e
    rw [List.nodup_cons] at hn
    show ∃ t, ((n, c) :: ns.zip cs).reverse.lookup x = _
    rw [List.reverse_cons, List.lookup_append]
    by_cases z : x = n
    · subst z
      rw [beq_self_eq_true] at e
      cases e
      refine ⟨t, ?_⟩
      have : (ns.zip cs).reverse.lookup x = none := by
        rw [List.lookup_eq_none_iff]
        intro p hp
        have := List.mem_reverse.mp hp
        obtain ⟨a, b⟩ := p
        have := (List.of_mem_zip this).1
        rw [bne_iff_ne]
        rintro rfl
        exact hn.1 this
      rw [this, hc]
      simp
    · rw [show (x == n) = false from by simpa using z] at e
      obtain ⟨t', q⟩ := zip_rev hv hn.2 x v e
      exact ⟨t', by dsimp only at q; rw [q]; rfl⟩
  | _ :: _, _ :: _, [], h, _ => h.elim
  | _ :: _, [], _ :: _, h, _ => h.elim
/-- a def is entered -/
theorem d_call {n : Nat} (G : Gnd w h₀) (r : Room A (n + 1)) {fa : Addr} {fd : FuncData} {body : List Stmt} {names : List Str} {vs : List V} {Q : V → St → Prop}
    (ho : (K w.params).lookup fa = some ⟨.type "function", none, .func fd, #[]⟩) (hcd : codeIn (K w.params) fd.code fd.qualname = true) (hbody : fd.body = .stmts body) (hb : ∀ cs, VL vs cs → bindArgs fd ⟨cs, []⟩ = pure (names.zip cs)) (hn : names.Nodup)
    (hcell : ∀ x ∈ fd.scope.names, x.2 ≠ .cell) (hloc : ∀ x ∈ names, fd.scope.names.lookup x = some .local) (hco : fd.scope.isCoroutine = false) (hgen : fd.scope.isGenerator = false) (hk : fd.scope.kind = .function)
    (h : ∀ L A', σ L = none → Room A' n → AXs w h₀ A' L (callEnv fd L fa) body (fun f _ σ' => ∃ σ'', Sub σ'' σ' ∧ Q f.val σ'') (names.zip vs) σ) : AD w h₀ A (.ref fa) vs Q σ := fun cs hv R s H q => by
  refine codeAny_call_def r.depth ((G.X.keeps H.base) _ _ ho) rfl (G.lim.keeps H.base) (codeRec_of (G.X.keeps H.base) hcd) hbody (.of_eq (hb cs hv)) hcell (fun x hx => hloc x.1 (List.of_mem_zip hx).1) (fun h₁ hns hk₁ => ?_) hco hgen hk
  refine AW.use (h s.heap.objs.size _ H.fresh r.deeper) ⟨H.keeps hk₁, ⟨_, hns, zip_rev hv hn⟩, H.fresh, H.fresh0⟩ fun f h' tk' l' σ' H' ⟨g, hg, σ'', sub, z⟩ => ?_
  have H'' := H'.mod.sub sub
  cases g with
  | next => cases hg; exact q .none 0 h' tk' σ'' H'' z
  | brk => cases hg; exact q .none 0 h' tk' σ'' H'' z
  | cont => cases hg; exact q .none 0 h' tk' σ'' H'' z
  | ret v => obtain ⟨t, rfl⟩ := hg; exact q v t h' tk' σ'' H'' z
end
end Mine
namespace Mine
section
variable {w : World} {h₀ : Heap} {A : Around} {L : Addr} {l : Loc} {σ τ : St} {env : Env} {lo gl : List Str} {ce : List (Str × Addr)} {Q : V → Loc → St → Prop}
-- stores
theorem x_attr (G : Gnd w h₀) {o e : Expr} {name : Str} {ap p : Pos} {Q : Fl → Loc → St → Prop}
    (h : AE w h₀ A L env e (fun u => AE w h₀ A L env o fun v l' σ' => ∃ x C dx fs, v = .ref x ∧ σ' x = some (.inst C dx) ∧ σ' dx = some (.attrs fs) ∧ ClsOk (K w.params) C ∧ Field (K w.params) C name ∧ fs.length ≤ 500 ∧ Q .next l' (upd σ' dx (.attrs (setF fs name u)))) l σ)
    (hs : swapsWith e (some (.Attribute o name ap)) p.line env = pure false := by rfl) : AX w h₀ A L env (.Assign [.Attribute o name ap] e p) Q l σ := fun E s H =>
  plainObj_wpAny_Assign_Attribute (h.usev H fun u t _ _ _ _ H' q => q.usev H' fun v t' _ _ _ _ H' ⟨x, C, dx, fs, e1, h1, h2, h3, h4, h5, q⟩ => by
    subst e1
    exact AW.use (w_set (t := t) (Q := fun l' σ' => Q .next l' σ') G h1 h2 h3 h4 h5 q) H' fun _ _ _ _ _ H q => ⟨_, _, _, _, rfl, H, .next, rfl, q⟩) hs
noncomputable def ASI (w : World) (h₀ : Heap) (A : Around) (L : Addr) (o i u : V) (Q : Loc → St → Prop) (l : Loc) (σ : St) : Prop :=
  ∀ t1 t2 t3, AW w h₀ A L (setItem (o.to t1) (i.to t2) (u.to t3)) (fun _ => Q) l σ
theorem x_item {o i e : Expr} {ap p : Pos} {Q : Fl → Loc → St → Prop}
    (h : AE w h₀ A L env e (fun u => AE w h₀ A L env o fun v => AE w h₀ A L env i fun k => ASI w h₀ A L v k u (fun l' σ' => Q .next l' σ')) l σ)
    (hs : swapsWith e (some (.Subscript o i ap)) p.line env = pure false := by rfl) : AX w h₀ A L env (.Assign [.Subscript o i ap] e p) Q l σ := fun E s H =>
  wpAny_Assign_Subscript (h.usev H fun u t _ _ _ _ H' q => q.usev H' fun v t' _ _ _ _ H' q => q.usev H' fun k t2 _ _ _ _ H' q =>
    AW.use (q t' t2 t) H' fun _ _ _ _ _ H q => ⟨_, _, _, _, rfl, H, .next, rfl, q⟩) hs
-- several targets
theorem x_tuple {es : List Expr} {k : Nat} {e : Expr} {tp p : Pos} {Q : Fl → Loc → St → Prop}
    (h : AE w h₀ A L env e (fun u => AA w h₀ A L env (.Tuple es k tp) u fun l' σ' => Q .next l' σ') l σ)
    (hs : swapsWithSole [.Tuple es k tp] e p.line env = pure false) (hw : swappedStores [.Tuple es k tp] e env = pure none) : AX w h₀ A L env (.Assign [.Tuple es k tp] e p) Q l σ := fun E s H =>
  Assign_Tuple (h.usev H fun u t _ _ _ _ H' q => AW.use (q t) H' fun _ _ _ _ _ H q => ⟨_, _, _, _, rfl, H, .next, rfl, q⟩) hs hw
noncomputable def AAs (w : World) (h₀ : Heap) (A : Around) (L : Addr) (env : Env) : List Expr → List V → (Loc → St → Prop) → Loc → St → Prop
  | [], [], Q => Q
  | e :: r, v :: s, Q => AA w h₀ A L env e v (AAs w h₀ A L env r s Q)
  | _, _, _ => fun _ _ => False
theorem assignEach_cons {e : Expr} {es : List Expr} (h : noStar (e :: es) = true) : assignEach (e :: es) env = (false, assign e env) :: assignEach es env ∧ noStar es = true := by
  unfold noStar at h ⊢
  rw [List.all_cons, Bool.and_eq_true] at h
  refine ⟨?_, h.2⟩
  cases e <;> first | rfl | (exact absurd h.1 (by simp))
theorem assignEach_len : ∀ {es : List Expr}, noStar es = true → (assignEach es env).length = es.length ∧ (assignEach es env).findIdx? (·.1) = none
  | [], _ => ⟨rfl, rfl⟩
  | e :: es, h => by
    obtain ⟨h1, h2⟩ := assignEach_cons (env := env) h
    obtain ⟨h3, h4⟩ := assignEach_len (es := es) h2
    rw [h1]
    refine ⟨by simp [h3], ?_⟩
    rw [List.findIdx?_cons]
    simp [h4]
theorem w_inOrder : ∀ {es : List Expr} {vs : List V} {cs : List Value} {Q : Loc → St → Prop} {l : Loc} {σ : St}, noStar es = true → VL vs cs → AAs w h₀ A L env es vs Q l σ →
    AW w h₀ A L (assignInOrder ((assignEach es env).map (·.2)) cs) (fun _ => Q) l σ
  | [], [], [], Q, l, σ, _, _, q => fun E s H => by
    show wpAny _ _ (assignInOrder [] []) _ _ _
    exact wpAny_assignInOrder_none ⟨s.heap, s.toks, _, _, rfl, H, q⟩
  | e :: es, v :: vs, c :: cs, Q, l, σ, hn, ⟨⟨t, hc⟩, hv⟩, q => fun E s H => by
    obtain ⟨h1, h2⟩ := assignEach_cons (env := env) hn
    rw [h1]
    subst hc
    show wpAny _ _ (assignInOrder (assign e env :: (assignEach es env).map (·.2)) (v.to t :: cs)) _ _ _
    refine wpAny_assignInOrder_more (AW.use (q t) H fun _ _ _ _ _ H' q' => ?_)
    exact AW.use (w_inOrder h2 hv q') H' fun _ _ _ _ _ H q => ⟨_, _, _, _, rfl, H, q⟩
  | [], _ :: _, _, _, _, _, _, _, q => q.elim
  | _ :: _, [], _, _, _, _, _, _, q => q.elim
  | [], [], _ :: _, _, _, _, _, h, _ => h.elim
  | _ :: _, _ :: _, [], _, _, _, _, h, _ => h.elim
theorem a_tuple (r : A.handled = none) {es : List Expr} {k : Nat} {tp : Pos} {a : Addr} {vs : List V} {Q : Loc → St → Prop} (hn : noStar es = true) (ha : σ a = some (.tup vs)) (hz : es.length = vs.length) (q : AAs w h₀ A L env es vs Q l σ) :
    AA w h₀ A L env (.Tuple es k tp) (.ref a) Q l σ := fun t E s H => by
  obtain ⟨cs, hl, hc⟩ := H.mod.isTup ha
  obtain ⟨h1, h2⟩ := assignEach_len (env := env) hn
  have hlen := hc.length
  refine wpAny_assign_Tuple r hl (by rw [h1, hz]; simp [hlen]) h2 fun h' he => ?_
  obtain ⟨m, n, hm⟩ := H.ns
  have H' : ModL h₀ L l σ h' := by
    have k : ∀ b o, s.heap.get? b = some o → h'.get? b = some o := fun b o e => he b o (Nat.ne_of_lt (Heap.lt_size e)) e
    exact ⟨H.mod.keeps k, ⟨m, n.keeps k, hm⟩, H.off, H.new⟩
  exact AW.use (w_inOrder (cs := cs) hn hc q) (s := { s with heap := h' }) H' fun _ _ _ _ _ H q => ⟨_, _, _, _, rfl, H, q⟩
-- loops
/-- a for's turns over a value -/
noncomputable def AFor (w : World) (h₀ : Heap) (A : Around) (L : Addr) (env : Env) (target : Expr) (body : List Stmt) (v : V) (Q : Fl → Loc → St → Prop) (l : Loc) (σ : St) : Prop :=
  ∀ t (E : Value → Shared → Prop) (s : Shared), ModL h₀ L l σ s.heap → wpAny (model PG w) A (pyIter (v.to t)) (fun it s₂ =>
    codeAny (model PG w) A (.forLoop target it body [] env) (fun r s' => match r with
      | .ok f => ∃ h' tk' l' σ', s' = { s with heap := h', toks := tk' } ∧ ModL h₀ L l' σ' h' ∧ ∃ g : Fl, g.is f ∧ Q g l' σ'
      | .error e => cameBackBy (model PG w) A env E e s') s₂) E s
theorem x_for {target iter : Expr} {body : List Stmt} {p : Pos} {Q : Fl → Loc → St → Prop} (h : AE w h₀ A L env iter (fun v => AFor w h₀ A L env target body v Q) l σ)
    (hs : ∀ x, foldedSetIterable iter env x = pure x := by intro _; rfl) : AX w h₀ A L env (.For target iter body [] p) Q l σ := fun E s H =>
  wpAny_For (h.usev H fun v t _ _ _ _ H' q => wpAny_mono (q t E _ H') (fun it s₂ z => codeAny_mono z fun r s' y => by cases r <;> exact y) fun _ _ e => e) hs
/-- what a turn's end asks of the state -/
noncomputable def Turn (J : Loc → St → Prop) (I : Addr) (it : AO) (Q : Fl → Loc → St → Prop) (f : Fl) (l : Loc) (σ : St) : Prop := match f with
  | .next | .cont => ∃ σ'', Sub (upd σ'' I it) σ ∧ σ'' I = none ∧ J l σ''
  | .brk => Q .next l σ
  | .ret v => Q (.ret v) l σ
noncomputable def rm (σ : St) (I : Addr) : St := fun b => if b = I then none else σ b
theorem rm_of {I : Addr} {x : AO} (h : σ I = none) : rm (upd σ I x) I = σ := by
  funext b
  by_cases c : b = I
  · subst c; simp [rm, h]
  · simp [rm, c, upd]
theorem ModL.rm' {h h' : Heap} {I : Addr} {x : AO} (H : ModL h₀ L l (upd σ I x) h) (hI : σ I = none) (k : Heap.ExtBut I h h') (n : I ≠ L) : ModL h₀ L l σ h' := by
  have hb := (H.mod.obj I x (upd_self ..)).1
  obtain ⟨m, hn, hm⟩ := H.ns
  refine ⟨⟨fun b o e => k b o (by rintro rfl; rw [hb] at e; cases e) (H.mod.base b o e), fun b z e => ?_⟩, ⟨m, ?_, hm⟩, ?_, H.new⟩
  · have c : b ≠ I := ne_of_none hI e
    obtain ⟨h1, o, h2, h3⟩ := H.mod.obj b z (upd_old hI e)
    exact ⟨h1, o, k b o c h2, h3⟩
  · obtain ⟨o, es, ep, ho, r⟩ := hn
    exact ⟨o, es, ep, k L o n.symm ho, r⟩
  · have := H.off
    rw [upd_ne n.symm] at this
    exact this
/-- the turns, whatever is iterated -/
theorem loop_any {target : Expr} {body : List Stmt} {I : Addr} {n : Nat} {it : Nat → AO} {item : Nat → V} {J : Nat → Loc → St → Prop} {Q : Fl → Loc → St → Prop}
    (hI : σ I = none) (hL : I ≠ L) (h0 : J 0 l σ)
    (next : ∀ i l σ, i < n → J i l σ → σ I = none → AW w h₀ A L (pyNext (.ref I)) (fun r l' σ' => l' = l ∧ σ' = upd σ I (it (i + 1)) ∧ ∃ t, r = some ((item i).to t)) l (upd σ I (it i)))
    (done : ∀ l σ (E : Value → Shared → Prop) (s : Shared), J n l σ → σ I = none → ModL h₀ L l (upd σ I (it n)) s.heap → ∀ R : Option Value → Shared → Prop, (∀ h', ModL h₀ L l σ h' → R none { s with heap := h' }) → wpAny (model PG w) A (pyNext (.ref I)) R E s)
    (own : ∀ i l σ (E : Value → Shared → Prop) (s : Shared) c R, i < n → J i l σ → σ I = none → ModL h₀ L l (upd σ I (it (i + 1))) s.heap → R s → wpAny (model PG w) A (letOwnedTupleGo target (.ref I) ((item i).to c)) (fun _ => R) E s)
    (turn : ∀ i l σ, i < n → J i l σ → σ I = none → AA w h₀ A L env target (item i) (AXs w h₀ A L env body (Turn (J (i + 1)) I (it (i + 1)) Q)) l (upd σ I (it (i + 1))))
    (fin : ∀ l σ, J n l σ → Q .next l σ) (E : Value → Shared → Prop) (s : Shared) (H : ModL h₀ L l (upd σ I (it 0)) s.heap) :
    codeAny (model PG w) A (.forLoop target (.ref I) body [] env) (fun r s' => match r with
      | .ok f => ∃ h' tk' l' σ', s' = { s with heap := h', toks := tk' } ∧ ModL h₀ L l' σ' h' ∧ ∃ g : Fl, g.is f ∧ Q g l' σ'
      | .error e => cameBackBy (model PG w) A env E e s') s := by
  refine codeAny_forLoop_any (fun k s' => ∃ h' tk' l' σ' i, s' = { s with heap := h', toks := tk' } ∧ i ≤ n ∧ k = n - i ∧ J i l' σ' ∧ σ' I = none ∧ ModL h₀ L l' (upd σ' I (it i)) h') ?_ n ⟨s.heap, s.toks, l, σ, 0, rfl, Nat.zero_le _, rfl, h0, hI, H⟩
  rintro k s' ⟨h', tk', l', σ', i, rfl, hi, rfl, hJ, hI', H'⟩
  by_cases c : i = n
  · subst c
    refine done l' σ' _ _ hJ hI' H' _ fun h'' H'' => ?_
    exact wpAny_execs_nil ⟨h'', tk', l', σ', rfl, H'', .next, rfl, fin _ _ hJ⟩
  · have hlt : i < n := by omega
    refine AW.use (next i l' σ' hlt hJ hI') H' fun r h'' tk'' l'' σ'' H'' ⟨e1, e2, t, e3⟩ => ?_
    subst e1 e2 e3
    refine own i _ σ' _ _ t _ hlt hJ hI' H'' ?_
    refine AW.use (turn i _ σ' hlt hJ hI' t) H'' fun _ h3 tk3 l3 σ3 H3 q3 => ?_
    refine AW.use q3 H3 fun f h4 tk4 l4 σ4 H4 ⟨g, hg, q4⟩ => ?_
    cases g with
    | next =>
      cases hg
      obtain ⟨σ5, sub, hn, hj⟩ := q4
      refine ⟨n - (i + 1), by omega, h4, tk4, l4, σ5, i + 1, rfl, by omega, rfl, hj, hn, ⟨H4.mod.sub sub, H4.ns, ?_, H4.new⟩⟩
      cases e : upd σ5 I (it (i + 1)) L with
      | none => rfl
      | some x => have := sub _ _ e; rw [H4.off] at this; cases this
    | cont =>
      cases hg
      obtain ⟨σ5, sub, hn, hj⟩ := q4
      refine ⟨n - (i + 1), by omega, h4, tk4, l4, σ5, i + 1, rfl, by omega, rfl, hj, hn, ⟨H4.mod.sub sub, H4.ns, ?_, H4.new⟩⟩
      cases e : upd σ5 I (it (i + 1)) L with
      | none => rfl
      | some x => have := sub _ _ e; rw [H4.off] at this; cases this
    | brk => cases hg; exact ⟨h4, tk4, l4, σ4, rfl, H4, .next, rfl, q4⟩
    | ret v => obtain ⟨t', rfl⟩ := hg; exact ⟨h4, tk4, l4, σ4, rfl, H4, .ret v, ⟨t', rfl⟩, q4⟩
end
end Mine
namespace Mine
section
variable {w : World} {h₀ : Heap} {A : Around} {L : Addr} {l : Loc} {σ τ : St} {env : Env} {lo gl : List Str} {ce : List (Str × Addr)}
theorem Mod.liter {h : Heap} (H : Mod h₀ σ h) {I a : Addr} {i : Nat} (e : σ I = some (.liter a i)) : h.IsListIter I a i := by
  obtain ⟨_, o, ho, hc, hd⟩ := H.obj _ _ e
  exact ⟨o, ho, hc, hd⟩
theorem Mod.titer {h : Heap} (H : Mod h₀ σ h) {I a : Addr} {i : Nat} (e : σ I = some (.titer a i)) : h.IsTupleIter I a i := by
  obtain ⟨_, o, ho, hc, hd⟩ := H.obj _ _ e
  exact ⟨o, ho, hc, hd⟩
/-- one object is another -/
theorem ModL.put {h h' : Heap} {I : Addr} {x y : AO} (H : ModL h₀ L l σ h) (hI : σ I = some y) (s : Heap.SameBut I h h') (n : ∃ o, h'.get? I = some o ∧ x.is o) : ModL h₀ L l (upd σ I x) h' := by
  have hne := ne_of_none H.off hI
  obtain ⟨m, hn, hm⟩ := H.ns
  exact ⟨H.mod.put hI (fun b o c e => s.extBut b o c e) n, ⟨m, hn.sameBut s hne.symm, hm⟩, upd_none hne.symm H.off, H.new⟩
/-- how an iterator goes -/
structure Goes (w : World) (h₀ : Heap) (A : Around) (I : Addr) (n : Nat) (it : Nat → AO) (item : Nat → V) (ok : St → Prop) : Prop where
  next : ∀ L i l σ, i < n → ok σ → σ I = none → I ≠ L → AW w h₀ A L (pyNext (.ref I)) (fun r l' σ' => l' = l ∧ σ' = upd σ I (it (i + 1)) ∧ ∃ t, r = some ((item i).to t)) l (upd σ I (it i))
  done : ∀ L l σ (E : Value → Shared → Prop) (s : Shared), ok σ → σ I = none → I ≠ L → ModL h₀ L l (upd σ I (it n)) s.heap → ∀ R : Option Value → Shared → Prop, (∀ h', ModL h₀ L l σ h' → R none { s with heap := h' }) → wpAny (model PG w) A (pyNext (.ref I)) R E s
  own : ∀ L i l σ (E : Value → Shared → Prop) (s : Shared) es k p T R, ok σ → σ I = none → I ≠ L → ModL h₀ L l (upd σ I (it (i + 1))) s.heap → R s → wpAny (model PG w) A (letOwnedTupleGo (.Tuple es k p) (.ref I) (.ref T)) (fun _ => R) E s
  self : ∀ L i l σ (E : Value → Shared → Prop) (s : Shared) (R : Value → Shared → Prop), ok σ → σ I = none → I ≠ L → ModL h₀ L l (upd σ I (it i)) s.heap → R (.ref I) s → wpAny (model PG w) A (pyIter (.ref I)) R E s
theorem Goes.list (hh : A.handled = none) {I a : Addr} {vs : List V} {d : V} (hIa : I ≠ a) : Goes w h₀ A I vs.length (.liter a) (fun i => vs.getD i d) (fun σ => σ a = some (.list vs)) where
  next := fun L i l σ hi ha hI hL E s H => by
    obtain ⟨cs, hl, hc⟩ := H.mod.isList (upd_old hI ha)
    have e : vs[i]? = some (vs.getD i d) := by rw [List.getD_eq_getElem?_getD, List.getElem?_eq_getElem hi]; rfl
    obtain ⟨t, ht⟩ := hc.get e
    refine wpAny_pyNext_list_item (H.mod.liter (upd_self ..)) hl (by simpa using ht) fun h' hit hs => ?_
    obtain ⟨o, h1, h2, h3⟩ := hit
    have H' := H.put (x := .liter a (i + 1)) (upd_self ..) hs ⟨o, h1, h2, h3⟩
    rw [upd_upd] at H'
    exact ⟨h', s.toks, _, _, rfl, H', rfl, rfl, t, rfl⟩
  done := fun L l σ E s ha hI hL H R q => by
    obtain ⟨cs, hl, hc⟩ := H.mod.isList (upd_old hI ha)
    refine wpAny_pyNext_list_end hh (H.mod.liter (upd_self ..)) hl (by simp [hc.length]) fun h' he => q h' (H.rm' hI he hL)
  own := fun L i l σ E s es k p T R ha hI hL H q => wpAny_letOwnedTupleGo_listiter (H.mod.liter (upd_self ..)) q
  self := fun L i l σ E s R ha hI hL H q => wpAny_pyIter_listiter (H.mod.liter (upd_self ..)) q
noncomputable def rit (a : Int) (n : Nat) (i : Nat) : AO := .raw { cls := .type "range_iterator", data := .fields #[rawInt (a + i), rawInt ((n : Int) - i), rawInt 1] }
theorem Mod.rit {h : Heap} (H : Mod h₀ σ h) {I : Addr} {a : Int} {n i : Nat} (e : σ I = some (rit a n i)) : IsRangeIter h I (a + i) ((n : Int) - i) 1 := by
  obtain ⟨_, o, ho, hc⟩ := H.obj _ _ e
  cases hc
  exact ho
theorem Goes.range (hh : A.handled = none) {I : Addr} {a : Int} {n : Nat} : Goes w h₀ A I n (rit a n) (fun i => .int (a + i)) (fun _ => True) where
  next := fun L i l σ hi _ hI hL E s H => by
    refine wpAny_pyNext_range_item (H.mod.rit (upd_self ..)) (by omega) fun h' hit hs => ?_
    have e1 : a + (i : Int) + 1 = a + ((i + 1 : Nat) : Int) := by omega
    have e2 : (n : Int) - i - 1 = (n : Int) - ((i + 1 : Nat) : Int) := by omega
    rw [e1, e2] at hit
    have H' := H.put (x := Mine.rit a n (i + 1)) (upd_self ..) hs ⟨_, hit, rfl⟩
    rw [upd_upd] at H'
    exact ⟨h', _, _, _, rfl, H', rfl, rfl, _, rfl⟩
  done := fun L l σ E s _ hI hL H R q => wpAny_pyNext_range_end hh (H.mod.rit (upd_self ..)) (by omega) fun h' he => q h' (H.rm' hI he hL)
  own := fun L i l σ E s es k p T R _ hI hL H q => by
    have hi := H.mod.rit (upd_self ..)
    unfold letOwnedTupleGo
    refine wpAny_bind (wpAny_load hi ?_)
    dsimp only
    rw [if_neg (by simp [rawInt])]
    exact wpAny_pure q
  self := fun L i l σ E s R _ hI hL H q => wpAny_pyIter_rangeiter (H.mod.rit (upd_self ..)) q
theorem Goes.tup (hh : A.handled = none) {I a : Addr} {vs : List V} {d : V} (hIa : I ≠ a) : Goes w h₀ A I vs.length (.titer a) (fun i => vs.getD i d) (fun σ => σ a = some (.tup vs)) where
  next := fun L i l σ hi ha hI hL E s H => by
    obtain ⟨cs, hl, hc⟩ := H.mod.isTup (upd_old hI ha)
    have e : vs[i]? = some (vs.getD i d) := by rw [List.getD_eq_getElem?_getD, List.getElem?_eq_getElem hi]; rfl
    obtain ⟨t, ht⟩ := hc.get e
    refine wpAny_pyNext_tuple_item (H.mod.titer (upd_self ..)) hl (by simpa using ht) fun h' hit hs => ?_
    obtain ⟨o, h1, h2, h3⟩ := hit
    have H' := H.put (x := .titer a (i + 1)) (upd_self ..) hs ⟨o, h1, h2, h3⟩
    rw [upd_upd] at H'
    exact ⟨h', s.toks, _, _, rfl, H', rfl, rfl, t, rfl⟩
  done := fun L l σ E s ha hI hL H R q => by
    obtain ⟨cs, hl, hc⟩ := H.mod.isTup (upd_old hI ha)
    refine wpAny_pyNext_tuple_end hh (H.mod.titer (upd_self ..)) hl (by simp [hc.length]) fun h' he => q h' (H.rm' hI he hL)
  own := fun L i l σ E s es k p T R ha hI hL H q => by
    obtain ⟨o, h1, h2, h3⟩ := H.mod.titer (upd_self ..)
    unfold letOwnedTupleGo
    refine wpAny_bind (wpAny_load h1 ?_)
    rw [h2, h3]
    dsimp only
    rw [if_neg (by simp)]
    exact wpAny_pure q
  self := fun L i l σ E s R ha hI hL H q => by
    obtain ⟨o, h1, h2, h3⟩ := H.mod.titer (upd_self ..)
    exact wpAny_pyIter_tupleiter (H.mod.titer (upd_self ..)) q
/-- the start of an iteration -/
noncomputable def Starts (w : World) (h₀ : Heap) (A : Around) (v : V) (n : Nat) (it : Nat → AO) (item : Nat → V) (ok : St → Prop) (σ : St) : Prop :=
  ok σ ∧ ∀ t L l (E : Value → Shared → Prop) (s : Shared) (R : Value → Shared → Prop), ModL h₀ L l σ s.heap → (∀ I h', σ I = none → I ≠ L → Goes w h₀ A I n it item ok → ModL h₀ L l (upd σ I (it 0)) h' → R (.ref I) { s with heap := h' }) → wpAny (model PG w) A (pyIter (v.to t)) R E s
theorem Starts.list (hh : A.handled = none) {a : Addr} {vs : List V} (d : V) (ha : σ a = some (.list vs)) : Starts w h₀ A (.ref a) vs.length (.liter a) (fun i => vs.getD i d) (fun σ => σ a = some (.list vs)) σ := by
  refine ⟨ha, fun t L l E s R H q => ?_⟩
  obtain ⟨cs, hl, hc⟩ := H.mod.isList ha
  obtain ⟨m, hn, _⟩ := H.ns
  have hf := H.mod.fresh
  exact wpAny_pyIter_list hl (q _ _ hf (Nat.ne_of_gt hn.lt) (.list hh (by rintro rfl; rw [hf] at ha; cases ha)) (H.push (x := .liter a 0) ⟨rfl, rfl⟩ rfl))
theorem Starts.tup (hh : A.handled = none) {a : Addr} {vs : List V} (d : V) (ha : σ a = some (.tup vs)) : Starts w h₀ A (.ref a) vs.length (.titer a) (fun i => vs.getD i d) (fun σ => σ a = some (.tup vs)) σ := by
  refine ⟨ha, fun t L l E s R H q => ?_⟩
  obtain ⟨cs, hl, hc⟩ := H.mod.isTup ha
  obtain ⟨m, hn, _⟩ := H.ns
  have hf := H.mod.fresh
  exact wpAny_pyIter_tuple hl (q _ _ hf (Nat.ne_of_gt hn.lt) (.tup hh (by rintro rfl; rw [hf] at ha; cases ha)) (H.push (x := .titer a 0) ⟨rfl, rfl⟩ rfl))
theorem Starts.range (hh : A.handled = none) {r : Addr} {a b : Int} (ha : σ r = some (.range a b)) (hs : Builtin.Range.small a b 1 = true) : Starts w h₀ A (.ref r) (b - a).toNat (rit a (b - a).toNat) (fun i => .int (a + i)) (fun _ => True) σ := by
  refine ⟨trivial, fun t L l E s R H q => ?_⟩
  obtain ⟨_, o, ho, t, u, v, e⟩ := H.mod.obj _ _ ha
  subst e
  obtain ⟨m, hn, _⟩ := H.ns
  refine wpAny_pyIter_range ho hs ?_
  rw [rangeSize_nat]
  refine q _ _ H.mod.fresh (Nat.ne_of_gt hn.lt) (.range hh) (H.push (x := rit a (b - a).toNat 0) ?_ rfl)
  show _ = _
  simp
/-- a for over what starts so -/
theorem f_loop {x : Str} {xp : Pos} {body : List Stmt} {v : V} {n : Nat} {it : Nat → AO} {item : Nat → V} {ok : St → Prop} {Q : Fl → Loc → St → Prop} (J : Nat → Loc → St → Prop) (st : Starts w h₀ A v n it item ok σ)
    (h0 : J 0 l σ) (hok : ∀ i l σ, J i l σ → ok σ)
    (turn : ∀ I i l σ, i < n → J i l σ → σ I = none → I ≠ L → AA w h₀ A L env (.Name x xp) (item i) (AXs w h₀ A L env body (Turn (J (i + 1)) I (it (i + 1)) Q)) l (upd σ I (it (i + 1))))
    (fin : ∀ l σ, J n l σ → Q .next l σ) : AFor w h₀ A L env (.Name x xp) body v Q l σ := fun t E s H => by
  refine st.2 t L l E s _ H fun I h' hI hL g H' => ?_
  exact loop_any (J := J) hI hL h0 (fun i l σ hi hj hn => g.next L i l σ hi (hok _ _ _ hj) hn hL) (fun l σ E s hj hn H R q => g.done L l σ E s (hok _ _ _ hj) hn hL H R q) (fun i l σ E s c R _ _ _ _ q => wpAny_pure q) (fun i l σ hi hj hn => turn I i l σ hi hj hn hL) fin E { s with heap := h' } H'
theorem f_loopT {es : List Expr} {k : Nat} {tp : Pos} {body : List Stmt} {v : V} {n : Nat} {it : Nat → AO} {item : Nat → V} {ok : St → Prop} {Q : Fl → Loc → St → Prop} (J : Nat → Loc → St → Prop) (st : Starts w h₀ A v n it item ok σ)
    (h0 : J 0 l σ) (hok : ∀ i l σ, J i l σ → ok σ) (hitem : ∀ i, i < n → ∃ a, item i = .ref a)
    (turn : ∀ I i l σ, i < n → J i l σ → σ I = none → I ≠ L → AA w h₀ A L env (.Tuple es k tp) (item i) (AXs w h₀ A L env body (Turn (J (i + 1)) I (it (i + 1)) Q)) l (upd σ I (it (i + 1))))
    (fin : ∀ l σ, J n l σ → Q .next l σ) : AFor w h₀ A L env (.Tuple es k tp) body v Q l σ := fun t E s H => by
  refine st.2 t L l E s _ H fun I h' hI hL g H' => ?_
  exact loop_any (J := J) hI hL h0 (fun i l σ hi hj hn => g.next L i l σ hi (hok _ _ _ hj) hn hL) (fun l σ E s hj hn H R q => g.done L l σ E s (hok _ _ _ hj) hn hL H R q)
    (fun i l σ E s c R hi hj hn H q => by
      obtain ⟨a, e⟩ := hitem i hi
      rw [e]
      exact g.own L i l σ E s es k tp a R (hok _ _ _ hj) hn hL H q) (fun i l σ hi hj hn => turn I i l σ hi hj hn hL) fin E { s with heap := h' } H'
/-- a while, by an invariant and a measure -/
theorem x_while {test : Expr} {body : List Stmt} {p : Pos} {Q : Fl → Loc → St → Prop} (J : Nat → Loc → St → Prop) (n : Nat) (h0 : J n l σ)
    (turn : ∀ k l σ, J k l σ → AT w h₀ A L env test (fun b l' σ' => (b = true → AXs w h₀ A L env body (fun f l'' σ'' => match f with
        | .next | .cont => ∃ m, m < k ∧ ∃ σ3, Sub σ3 σ'' ∧ J m l'' σ3
        | .brk => Q .next l'' σ''
        | .ret v => Q (.ret v) l'' σ'') l' σ') ∧ (b = false → Q .next l' σ')) l σ) : AX w h₀ A L env (.While test body [] p) Q l σ := fun E s H => by
  refine wpAny_While (codeAny_whileLoop (fun k s' => ∃ h' tk' l' σ', s' = { s with heap := h', toks := tk' } ∧ ModL h₀ L l' σ' h' ∧ J k l' σ') ?_ n ⟨s.heap, s.toks, l, σ, rfl, H, h0⟩)
  rintro k s' ⟨h', tk', l', σ', rfl, H', hj⟩
  refine AW.use (turn k l' σ' hj) H' fun b h2 tk2 l2 σ2 H2 q => ?_
  cases b with
  | false =>
    rw [if_neg (by decide)]
    exact wpAny_execs_nil ⟨h2, tk2, l2, σ2, rfl, H2, .next, rfl, q.2 rfl⟩
  | true =>
    rw [if_pos rfl]
    refine AW.use (q.1 rfl) H2 fun f h3 tk3 l3 σ3 H3 ⟨g, hg, q⟩ => ?_
    have fit : ∀ {σ4 : St}, Sub σ4 σ3 → ModL h₀ L l3 σ4 h3 := fun sub => ⟨H3.mod.sub sub, H3.ns, (by
      rename_i σ4
      cases e : σ4 L with
      | none => rfl
      | some x =>
        have q := sub _ _ e
        rw [H3.off] at q
        cases q), H3.new⟩
    cases g with
    | next => cases hg; obtain ⟨m, hm, σ4, sub, hj⟩ := q; exact ⟨m, hm, h3, tk3, l3, σ4, rfl, fit sub, hj⟩
    | cont => cases hg; obtain ⟨m, hm, σ4, sub, hj⟩ := q; exact ⟨m, hm, h3, tk3, l3, σ4, rfl, fit sub, hj⟩
    | brk => cases hg; exact ⟨h3, tk3, l3, σ3, rfl, H3, .next, rfl, q⟩
    | ret v => obtain ⟨t, rfl⟩ := hg; exact ⟨h3, tk3, l3, σ3, rfl, H3, .ret v, ⟨t, rfl⟩, q⟩
end
end Mine
namespace Mine
section
variable {w : World} {h₀ : Heap} {A : Around} {L : Addr} {l : Loc} {σ τ : St} {env : Env} {lo gl : List Str} {ce : List (Str × Addr)} {Q : V → Loc → St → Prop}
theorem VL.set : ∀ {vs : List V} {cs : List Value}, VL vs cs → ∀ (i : Nat) (v : V) (t : Tok), VL (vs.set i v) (cs.set i (v.to t))
  | [], [], _, _, _, _ => trivial
  | _ :: _, _ :: _, h, 0, v, t => ⟨⟨t, rfl⟩, h.2⟩
  | _ :: _, _ :: _, h, i + 1, v, t => ⟨h.1, VL.set h.2 i v t⟩
  | [], _ :: _, h, _, _, _ => h.elim
  | _ :: _, [], h, _, _, _ => h.elim
theorem vl1 {a : V} {cs : List Value} (h : VL [a] cs) : ∃ t, cs = [a.to t] := by
  match cs, h with
  | [c], ⟨⟨t, e⟩, _⟩ => exact ⟨t, by rw [e]⟩
theorem vl2 {a b : V} {cs : List Value} (h : VL [a, b] cs) : ∃ t u, cs = [a.to t, b.to u] := by
  match cs, h with
  | [c, d], ⟨⟨t, e⟩, ⟨u, f⟩, _⟩ => exact ⟨t, u, by rw [e, f]⟩
theorem len_small {n : Nat} (h : n ≤ 1000) : n ≤ sizeLine := by rw [sizeLine_eq]; omega
-- calls
theorem c_len {a : Addr} {vs : List V} (ha : σ a = some (.list vs)) (hz : vs.length ≤ 1000) (q : Q (.int vs.length) l σ) : AK w h₀ A L (.builtin "len") [.ref a] Q l σ := fun cs hv E s H => by
  obtain ⟨t, rfl⟩ := vl1 hv
  obtain ⟨cs, hl, hc⟩ := H.mod.isList ha
  have hn := hc.length
  have e : (cs.toArray.size : Int) = (vs.length : Int) := by rw [List.size_toArray, hn]
  exact call_len_list hl (by rw [e]; omega) ⟨s.heap, _, _, _, rfl, H, .int vs.length, s.toks + 1, by rw [e]; rfl, q⟩
theorem c_append {a : Addr} {vs : List V} {v : V} (ha : σ a = some (.list vs)) (hz : vs.length ≤ 1000) (q : Q .none l (upd σ a (.list (vs ++ [v])))) : AKf w h₀ A L (.builtin "list.append") [.ref a] [v] Q l σ := fun cs hv E s H => by
  obtain ⟨t, rfl⟩ := vl1 hv
  obtain ⟨cs, n, ho, hc⟩ := H.mod.plain ha
  have hn := hc.length
  refine wpAny_list_append_plain ⟨n, ho⟩ (fun h' hl hs => ⟨h', _, _, _, rfl, H.put ha hs (list_is hl ?_), .none, 0, rfl, q⟩) (by rw [List.size_toArray, hn]; exact len_small hz)
  simpa using hc.append (VL.one v t)
theorem c_range1 {b : Int} (q : ∀ r, σ r = none → Q (.ref r) l (upd σ r (.range 0 b))) : AK w h₀ A L (.type "range") [.int b] Q l σ := fun cs hv E s H => by
  obtain ⟨t, rfl⟩ := vl1 hv
  exact call_range_1 ⟨_, _, _, _, rfl, H.push (x := .range 0 b) ⟨_, _, _, rfl⟩ rfl, .ref s.heap.objs.size, 0, rfl, q _ H.mod.fresh⟩
theorem c_range2 {a b : Int} (q : ∀ r, σ r = none → Q (.ref r) l (upd σ r (.range a b))) : AK w h₀ A L (.type "range") [.int a, .int b] Q l σ := fun cs hv E s H => by
  obtain ⟨t, u, rfl⟩ := vl2 hv
  exact call_range_2 ⟨_, _, _, _, rfl, H.push (x := .range a b) ⟨_, _, _, rfl⟩ rfl, .ref s.heap.objs.size, 0, rfl, q _ H.mod.fresh⟩
theorem c_abs {a : Int} (q : Q (.int (if a < 0 then -a else a)) l σ) : AK w h₀ A L (.builtin "abs") [.int a] Q l σ := fun cs hv E s H => by
  obtain ⟨t, rfl⟩ := vl1 hv
  exact call_abs_int fun u tk => ⟨s.heap, tk, _, _, rfl, H, .int _, u, rfl, q⟩
theorem c_pop0 {a : Addr} {v : V} {vs : List V} (ha : σ a = some (.list (v :: vs))) (hz : (v :: vs).length ≤ 1000) (q : Q v l (upd σ a (.list vs))) : AKf w h₀ A L (.builtin "list.pop") [.ref a] [.int 0] Q l σ := fun cs hv E s H => by
  obtain ⟨u, rfl⟩ := vl1 hv
  obtain ⟨cs, n, ho, hc⟩ := H.mod.plain ha
  match cs, hc with
  | c :: cs, hc =>
    obtain ⟨⟨t, e⟩, hr⟩ := hc
    have hn := hr.length
    have hsz : (c :: cs).toArray.size ≤ sizeLine := by
      rw [List.size_toArray, List.length_cons, hn]; exact len_small hz
    refine call_meets PySem.F.slot_list_pop ⟨_, ho, rfl⟩ PySem.F.entry_list_pop (PySem.F.args_list_pop_2 _ _) (PySem.MeetsSeq.list_pop_at a _ n 0 u 0 c (by decide +kernel) (by
      unfold seqIndex?; simp) (by simp) hsz) ⟨ho, ?_⟩
    refine ⟨_, _, _, _, rfl, H.put ha (Heap.SameBut.update ..) (x := .list vs) ?_, v, t, e, q⟩
    have hq := PySem.IsL.update ho (fun xs : Array Value => xs.eraseIdxIfInBounds 0)
    have he : ((c :: cs).toArray).eraseIdxIfInBounds 0 = cs.toArray := by
      unfold Array.eraseIdxIfInBounds
      rw [dif_pos (by simp)]
      apply Array.toList_inj.mp
      rw [Array.toList_eraseIdx]
      rfl
    rw [he] at hq
    exact ⟨_, hq, cs.toArray, _, rfl, by simpa using hr⟩
theorem i_list {a : Addr} {vs : List V} {k : Int} {u : V} {Q : Loc → St → Prop} (ha : σ a = some (.list vs)) (h0 : 0 ≤ k) (hk : k < vs.length) (hz : vs.length ≤ 1000) (q : Q l (upd σ a (.list (vs.set k.toNat u)))) : ASI w h₀ A L (.ref a) (.int k) u Q l σ := fun t1 t2 t3 E s H => by
  obtain ⟨cs, n, ho, hc⟩ := H.mod.plain ha
  have hn := hc.length
  have hl : s.heap.IsList a cs.toArray := ⟨_, ho, rfl, n, rfl⟩
  have hlt : k.toNat < cs.length := by rw [hn]; omega
  unfold setItem
  try with_reducible refine wpAny_holding ?_
  first | refine wpAny_bind (wpAny_pure ?_) | skip
  refine wpAny_bind (wpAny_sequenceKey hl.typeIs (by decide) ?_)
  refine wpAny_bind (wpAny_callSpecial?_slot (name := Str.ofString "__setitem__") hl.typeIs PySem.F.slot_list_setitem
    (wpAny_call_entry PySem.F.slot_list_setitem hl.typeIs PySem.F.entry_list_setitem ?_ (PySem.F.args_list_setitem_3 _ _ _)))
  show wpAny _ _ (Builtin.List.listSubscript? (.int k t2) >>= _) _ _ s
  refine wpAny_bind (wpAny_listSubscript_int (fitsIndex_of h0 (by omega)) ?_)
  obtain ⟨j, rfl⟩ := Int.eq_ofNat_of_zero_le h0
  have hj : j < cs.toArray.size := by rw [List.size_toArray]; exact hlt
  have hx' : cs.toArray[j]? = some cs.toArray[j] := Array.getElem?_eq_getElem hj
  show wpAny _ _ ((seqItemAt a j >>= fun r => pure (r.map (j, ·))) >>= _) _ _ s
  refine wpAny_bind (wpAny_bind (wpAny_seqItemAt ho rfl (wpAny_pure ?_)))
  rw [hx']
  show wpAny _ _ (setSeqItemAt a j _ >>= _) _ _ s
  refine wpAny_bind (wpAny_setSeqItemAt ho rfl ?_)
  have hq := PySem.IsL.update ho (fun xs : Array Value => xs.setIfInBounds j (u.to t3))
  have fin : ∃ h' tk' l' σ', ({ s with heap := s.heap.update a (Obj.mapSeq (·.setIfInBounds j (u.to t3))) } : Shared) = { s with heap := h', toks := tk' } ∧ ModL h₀ L l' σ' h' ∧ Q l' σ' := by
    refine ⟨_, _, _, _, rfl, H.put ha (Heap.SameBut.update ..) (x := .list (vs.set j u)) ⟨_, hq, _, _, rfl, ?_⟩, q⟩
    simpa using VL.set hc j u t3
  first
    | exact wpAny_bind (wpAny_pure (wpAny_pure ⟨.none, rfl, wpAny_pure fin⟩))
    | exact wpAny_pure ⟨.none, rfl, wpAny_pure fin⟩
end
end Mine
open PySem PySem.W PyProof.Rows PySem.Calls PySem.Spec PySem.SeqAt
namespace Mine
section
variable {w : World} {h₀ : Heap} {A : Around} {L : Addr} {l : Loc} {σ τ : St} {env : Env} {lo gl : List Str} {ce : List (Str × Addr)} {Q : V → Loc → St → Prop}
theorem ModL.keeps {h h' : Heap} (H : ModL h₀ L l σ h) (k : ∀ b o, h.get? b = some o → h'.get? b = some o) : ModL h₀ L l σ h' := by
  obtain ⟨m, hn, hm⟩ := H.ns
  exact ⟨H.mod.keeps k, ⟨m, hn.keeps k, hm⟩, H.off, H.new⟩
theorem V.int_to (a : Int) (t : Tok) : (V.int a).to t = .int a t := rfl
theorem c_max {a b : Int} (hh : A.handled = none) (q : Q (.int (if b > a then b else a)) l σ) : AK w h₀ A L (.builtin "max") [.int a, .int b] Q l σ := fun cs hv E s H => by
  obtain ⟨t, u, rfl⟩ := vl2 hv
  refine max_two_ints hh fun h' tk hk => ⟨h', tk, _, _, rfl, H.keeps hk, .int (if b > a then b else a), if b > a then u else t, ?_, q⟩
  by_cases c : b > a
  · simp only [if_pos c]; rfl
  · simp only [if_neg c]; rfl
theorem c_min {a b : Int} (hh : A.handled = none) (q : Q (.int (if b < a then b else a)) l σ) : AK w h₀ A L (.builtin "min") [.int a, .int b] Q l σ := fun cs hv E s H => by
  obtain ⟨t, u, rfl⟩ := vl2 hv
  refine min_two_ints hh fun h' tk hk => ⟨h', tk, _, _, rfl, H.keeps hk, .int (if b < a then b else a), if b < a then u else t, ?_, q⟩
  by_cases c : b < a
  · simp only [if_pos c]; rfl
  · simp only [if_neg c]; rfl
theorem vl_ints : ∀ {ns : List Int} {cs : List Value}, VL (ns.map V.int) cs → IntsAre cs ns
  | [], [], _ => .nil
  | _ :: _, _ :: _, ⟨⟨t, e⟩, h⟩ => e ▸ .cons _ t (vl_ints h)
  | [], _ :: _, h => h.elim
  | _ :: _, [], h => h.elim
theorem ints_vl : ∀ {ns : List Int} {cs : List Value}, IntsAre cs ns → VL (ns.map V.int) cs
  | _, _, .nil => trivial
  | _, _, .cons n t h => ⟨⟨t, rfl⟩, ints_vl h⟩
/-- something more stands -/
theorem ModL.plus {h h' : Heap} {b : Addr} {x : AO} {o : Obj} (H : ModL h₀ L l σ h) (k : ∀ b o, h.get? b = some o → h'.get? b = some o) (hb : h.objs.size ≤ b) (ho : h'.get? b = some o) (hx : x.is o) : ModL h₀ L l (upd σ b x) h' ∧ σ b = none := by
  have nb : h.get? b = none := Heap.get?_none_of_le hb
  have sb : σ b = none := by
    cases e : σ b with
    | none => rfl
    | some y => obtain ⟨_, o', ho', _⟩ := H.mod.obj _ _ e; rw [nb] at ho'; cases ho'
  have bb : h₀.get? b = none := by
    cases e : h₀.get? b with
    | none => rfl
    | some y => have := H.mod.base _ _ e; rw [nb] at this; cases this
  obtain ⟨m, hn, hm⟩ := H.ns
  have hL : L ≠ b := Nat.ne_of_lt (Nat.lt_of_lt_of_le hn.lt hb)
  refine ⟨⟨⟨fun c o e => k _ _ (H.mod.base c o e), fun c z e => ?_⟩, ⟨m, hn.keeps k, hm⟩, upd_none hL H.off, H.new⟩, sb⟩
  by_cases q : c = b
  · subst q; rw [upd_self] at e; cases e; exact ⟨bb, o, ho, hx⟩
  · rw [upd_ne q] at e
    obtain ⟨h1, o', h2, h3⟩ := H.mod.obj c z e
    exact ⟨h1, o', k _ _ h2, h3⟩
theorem c_minl {a : Addr} {ns : List Int} (hh : A.handled = none) (ha : σ a = some (.list (ns.map V.int))) (hne : ns ≠ []) (q : ∀ M, Q (.int M) l σ) : AK w h₀ A L (.builtin "min") [.ref a] Q l σ := fun cs hv E s H => by
  obtain ⟨t, rfl⟩ := vl1 hv
  obtain ⟨cs, hl, hc⟩ := H.mod.isList ha
  have hi := vl_ints hc
  obtain ⟨xs, e⟩ := hi.allInts.items
  have hns : ns = xs.toList.map (·.1) := by rw [← hi.numsOf, ← nums_intItems, ← e]
  have hsz : 0 < xs.size := by
    have h3 := List.length_pos_iff.mpr hne
    rw [hns, List.length_map, Array.length_toList] at h3; exact h3
  rw [e] at hl
  refine min_intList hh hl hsz fun v h' tk hv hk => ?_
  obtain ⟨t, rfl⟩ := intItems_at hv
  exact ⟨h', tk, _, _, rfl, H.keeps hk, .int _, t, rfl, q _⟩
theorem c_sorted {a : Addr} {ns : List Int} (ha : σ a = some (.list (ns.map V.int))) (hz : ns.length < 64) (q : ∀ (ns' : List Int) b, ns'.Perm ns → σ b = none → Q (.ref b) l (upd σ b (.list (ns'.map V.int)))) : AK w h₀ A L (.builtin "sorted") [.ref a] Q l σ := fun cs hv E s H => by
  obtain ⟨t, rfl⟩ := vl1 hv
  obtain ⟨cs, hl, hc⟩ := H.mod.isList ha
  refine sorted_ints hl (vl_ints hc) (by rw [hc.length, List.length_map]; exact hz) fun out ns' a1 a2 a3 => ?_
  obtain ⟨e, he⟩ := sortedAll_at s.heap cs out
  obtain ⟨H', hn⟩ := H.plus (x := .list (ns'.map V.int)) (fun _ _ => sortedAll_old) (Nat.le_succ _) he ⟨out, e, rfl, ints_vl a1⟩
  exact ⟨_, _, _, _, rfl, H', .ref _, 0, rfl, q _ _ a2 hn⟩
theorem c_tuple {a : Addr} {vs : List V} (ha : σ a = some (.list vs)) (hz : vs.length ≤ 1000) (q : ∀ b, σ b = none → Q (.ref b) l (upd σ b (.tup vs))) : AK w h₀ A L (.type "tuple") [.ref a] Q l σ := fun cs hv E s H => by
  obtain ⟨t, rfl⟩ := vl1 hv
  obtain ⟨cs, hl, hc⟩ := H.mod.isList ha
  refine call_tuple_list hl (fun h' hk => ?_) (by rw [List.size_toArray, hc.length]; exact len_small hz)
  have H' := H.keeps hk
  exact ⟨_, _, _, _, rfl, H'.push (x := .tup vs) ⟨_, _, rfl, hc.toArray⟩ rfl, .ref h'.objs.size, 0, rfl, q _ H'.mod.fresh⟩
theorem b_addt {a b : Addr} {vs us : List V} (ha : σ a = some (.tup vs)) (hb : σ b = some (.tup us)) (h1 : vs ≠ []) (h2 : us ≠ []) (hz : vs.length + us.length ≤ 1000) (q : ∀ c, σ c = none → Q (.ref c) l (upd σ c (.tup (vs ++ us)))) :
    AB w h₀ A L (binaryOp .Add) (.ref a) (.ref b) Q l σ := fun t u E s H => by
  obtain ⟨_, o, ho, ⟨cs⟩, n, rfl, hv⟩ := H.mod.obj _ _ ha
  obtain ⟨_, o, ho', ⟨ds⟩, n', rfl, hu⟩ := H.mod.obj _ _ hb
  have e1 := hv.length
  have e2 := hu.length
  simp only at e1 e2 hv hu
  refine P.add_tuple ho ho' ?_ ?_ ?_ ?_
  · intro e; apply h1; apply List.length_eq_zero_iff.mp; rw [← e1]; simpa using e
  · intro e; apply h2; apply List.length_eq_zero_iff.mp; rw [← e2]; simpa using e
  · exact ⟨_, _, _, _, rfl, H.push (x := .tup (vs ++ us)) ⟨_, _, rfl, by simpa using hv.append hu⟩ rfl, .ref s.heap.objs.size, 0, rfl, q _ H.mod.fresh⟩
  · rw [List.size_toArray, List.size_toArray, e1, e2]; exact len_small hz
-- slices
theorem e_sliceL {a : Expr} {p : Pos} {Q : V → Loc → St → Prop} (h : AE w h₀ A L env a (fun x l' σ' => ∀ c, σ' c = none → Q (.ref c) l' (upd σ' c (.slice x .none))) l σ) : AE w h₀ A L env (.Slice (some a) none none p) Q l σ := fun E s H => by
  refine wpAny_Slice (AE.usev h H fun x t h' tk' l' σ' H' q => ?_)
  rw [evalPart_none]
  exact wpAny_pure (wpAny_pure ⟨_, _, _, _, rfl, H'.push (x := .slice x .none) ⟨t, 0, rfl⟩ rfl, .ref h'.objs.size, 0, rfl, q _ H'.mod.fresh⟩)
theorem e_sliceU {a : Expr} {p : Pos} {Q : V → Loc → St → Prop} (h : AE w h₀ A L env a (fun x l' σ' => ∀ c, σ' c = none → Q (.ref c) l' (upd σ' c (.slice .none x))) l σ) : AE w h₀ A L env (.Slice none (some a) none p) Q l σ := fun E s H => by
  refine wpAny_Slice ?_
  rw [evalPart_none]
  refine wpAny_pure (AE.usev h H fun x t h' tk' l' σ' H' q => ?_)
  exact wpAny_pure ⟨_, _, _, _, rfl, H'.push (x := .slice .none x) ⟨0, t, rfl⟩ rfl, .ref h'.objs.size, 0, rfl, q _ H'.mod.fresh⟩
theorem e_sliceLU {a b : Expr} {p : Pos} {Q : V → Loc → St → Prop} (h : AE w h₀ A L env a (fun x => AE w h₀ A L env b fun y l' σ' => ∀ c, σ' c = none → Q (.ref c) l' (upd σ' c (.slice x y))) l σ) : AE w h₀ A L env (.Slice (some a) (some b) none p) Q l σ := fun E s H => by
  refine wpAny_Slice (AE.usev h H fun x t h' tk' l' σ' H' q => AE.usev q H' fun y t' h' tk' l' σ' H' q => ?_)
  rw [evalPart_none]
  exact wpAny_pure ⟨_, _, _, _, rfl, H'.push (x := .slice x y) ⟨t, t', rfl⟩ rfl, .ref h'.objs.size, 0, rfl, q _ H'.mod.fresh⟩
inductive Part : V → Option Int → Prop
  | none : Part .none none
  | int (i : Int) : Part (.int i) (some i)
theorem Part.is {v : V} {i : Option Int} (h : Part v i) (t : Tok) : IsPart (v.to t) i := by
  cases h with
  | none => exact .none
  | int i => exact .int i t
/-- what a slice picks -/
noncomputable def picks (vs : List V) (lo hi : Option Int) (us : List V) : Prop := ∀ cs, VL vs cs → VL us (slicePick cs.toArray lo hi none).toList
theorem picks_from (vs : List V) (n : Nat) : picks vs (some n) none (vs.drop n) := fun cs h => by rw [slicePick_from']; simpa using h.drop n
theorem picks_upto (vs : List V) (n : Nat) : picks vs none (some n) (vs.take n) := fun cs h => by rw [slicePick_upto']; simpa using h.take n
theorem picks_run (vs : List V) (a b : Nat) (hb : b ≤ vs.length) (hab : a ≤ b) : picks vs (some a) (some b) ((vs.drop a).take (b - a)) := fun cs h => by
  rw [slicePick_run _ _ _ (by rw [List.size_toArray, h.length]; exact hb) hab]; simpa using (h.drop a).take (b - a)
theorem s_slice {o i : Expr} {a b : Addr} {vs us : List V} {x y : V} {lo' hi' : Option Int} (ha : σ a = some (.list vs)) (hb : σ b = some (.slice x y)) (hx : Part x lo') (hy : Part y hi') (hz : vs.length ≤ 1000) (hp : picks vs lo' hi' us)
    (q : ∀ c, σ c = none → Q (.ref c) l (upd σ c (.list us)))
    (hs : subscripted i false (.ref a) (.ref b) = operate [.ref b, .ref a] (getItem (.ref a) (.ref b)) := by with_unfolding_all rfl) :
    AB w h₀ A L (subscriptTail o i) (.ref a) (.ref b) Q l σ := fun t u E s H => by
  obtain ⟨cs, hl, hc⟩ := H.mod.isList ha
  obtain ⟨_, os, hos, t1, t2, rfl⟩ := H.mod.obj _ _ hb
  refine tail_any hl.typeIs list_getitem_lookup (wpAny_getItem_list_slice hl ⟨_, hos, rfl, rfl⟩ (hx.is t1) (hy.is t2) .none (by simp) ?_ (by rw [List.size_toArray, hc.length]; exact len_small hz)) hs
  exact ⟨_, _, _, _, rfl, H.push (x := .list us) ⟨_, _, rfl, hp cs hc⟩ rfl, .ref s.heap.objs.size, 0, rfl, q _ H.mod.fresh⟩
theorem s_sliceT {o i : Expr} {a b : Addr} {vs : List V} {n : Nat} (ha : σ a = some (.tup vs)) (hb : σ b = some (.slice (.int n) .none)) (h1 : 1 ≤ n) (hn : n ≤ vs.length) (hz : vs.length ≤ 1000)
    (q : ∀ c, σ c = none → Q (.ref c) l (upd σ c (.tup (vs.drop n))))
    (hs : subscripted i false (.ref a) (.ref b) = operate [.ref b, .ref a] (getItem (.ref a) (.ref b)) := by with_unfolding_all rfl) :
    AB w h₀ A L (subscriptTail o i) (.ref a) (.ref b) Q l σ := fun t u E s H => by
  obtain ⟨cs, hl, hc⟩ := H.mod.isTup ha
  obtain ⟨_, os, hos, t1, t2, rfl⟩ := H.mod.obj _ _ hb
  have hsz : cs.toArray.size = vs.length := by rw [List.size_toArray, hc.length]
  refine tail_any hl.typeIs slot_tuple_getitem.lookup (getItem_tuple_from hl ⟨_, hos, rfl, rfl⟩ h1 (by rw [hsz]; exact hn) ?_ (by rw [hsz]; exact len_small hz)) hs
  exact ⟨_, _, _, _, rfl, H.push (x := .tup (vs.drop n)) ⟨_, _, rfl, by simpa using hc.drop n⟩ rfl, .ref s.heap.objs.size, 0, rfl, q _ H.mod.fresh⟩
end
end Mine
namespace Mine
section
variable {w : World} {h₀ : Heap} {A : Around} {L : Addr} {l : Loc} {σ τ : St} {env : Env} {lo gl : List Str} {ce : List (Str × Addr)} {Q : V → Loc → St → Prop}
/-- two values are equal as b says -/
noncomputable def EqV (h₀ : Heap) (σ : St) (n : Nat) (x y : V) (b : Bool) : Prop := ∀ (A : Around) (L : Addr) (l : Loc) (s : Shared) (t u : Tok), A.units + n < cLine → ModL h₀ L l σ s.heap → EqAt A s (x.to t) (y.to u) b
theorem EqV.int (a b : Int) : EqV h₀ σ 0 (.int a) (.int b) (a == b) := fun A _ _ s t u _ _ => EqAt.int_int a t b u
theorem EqV.str (a b : Str) : EqV h₀ σ 0 (.str a) (.str b) (a == b) := fun A _ _ s t u _ _ => EqAt.str_str a t b u
theorem VL.at {vs : List V} {cs : List Value} (h : VL vs cs) (j : Nat) (h1 : j < cs.toArray.size) : ∃ v t, vs[j]? = some v ∧ cs.toArray[j] = v.to t := by
  have hj : j < vs.length := by rw [← h.length]; simpa using h1
  obtain ⟨t, e⟩ := h.get (List.getElem?_eq_getElem hj)
  refine ⟨vs[j], t, List.getElem?_eq_getElem hj, ?_⟩
  rw [List.getElem?_eq_some_iff] at e
  obtain ⟨_, e⟩ := e
  simpa using e
theorem EqV.list {n : Nat} {a b : Addr} {vs us : List V} (ha : σ a = some (.list vs)) (hb : σ b = some (.list us)) (hlen : vs.length = us.length) (e : Nat → Bool) (he : ∀ j v u, vs[j]? = some v → us[j]? = some u → EqV h₀ σ n v u (e j)) (hab : a ≠ b) :
    EqV h₀ σ (n + 1) (.ref a) (.ref b) ((List.range vs.length).all e) := fun A L l s t u hu H => by
  obtain ⟨cs, hl, hc⟩ := H.mod.isList ha
  obtain ⟨ds, hl', hd⟩ := H.mod.isList hb
  have e1 : cs.toArray.size = vs.length := by simpa using hc.length
  have e2 : ds.toArray.size = us.length := by simpa using hd.length
  have := EqAt.of_refs hab (RcAt.lists (A := A) (s := s) (e := e) hl hl' (by rw [e1, e2, hlen]) (by omega) fun j h1 h2 => by
    obtain ⟨v, t1, q1, q2⟩ := hc.at j h1
    obtain ⟨v', t2, q3, q4⟩ := hd.at j h2
    rw [q2, q4]
    exact he j v v' q1 q3 A.in1 L l s t1 t2 (by rw [Around.in1_units]; omega) H)
  rw [e1] at this
  exact this
theorem EqV.list_len {a b : Addr} {vs us : List V} (ha : σ a = some (.list vs)) (hb : σ b = some (.list us)) (hlen : vs.length ≠ us.length) : EqV h₀ σ 1 (.ref a) (.ref b) false := fun A L l s t u hu H => by
  obtain ⟨cs, hl, hc⟩ := H.mod.isList ha
  obtain ⟨ds, hl', hd⟩ := H.mod.isList hb
  have hab : a ≠ b := by rintro rfl; rw [ha] at hb; cases hb; exact hlen rfl
  have e1 : cs.toArray.size = vs.length := by simpa using hc.length
  have e2 : ds.toArray.size = us.length := by simpa using hd.length
  exact EqAt.of_refs hab (RcAt.lists_lengths hl hl' (by rw [e1, e2]; simpa using hlen) (by omega))
theorem b_ne_list {n : Nat} {a b : Addr} {vs us : List V} (hu : A.units + n + 1 < cLine) (ha : σ a = some (.list vs)) (hb : σ b = some (.list us)) (hlen : vs.length = us.length) (e : Nat → Bool) (he : ∀ j v u, vs[j]? = some v → us[j]? = some u → EqV h₀ σ n v u (e j))
    (q : Q (.bool (!(List.range vs.length).all e)) l σ) : AB w h₀ A L (compareOp .NotEq) (.ref a) (.ref b) Q l σ := fun t u E s H => by
  obtain ⟨cs, hl, hc⟩ := H.mod.isList ha
  obtain ⟨ds, hl', hd⟩ := H.mod.isList hb
  have e1 : cs.toArray.size = vs.length := by simpa using hc.length
  have e2 : ds.toArray.size = us.length := by simpa using hd.length
  refine RcNeAt.lists (A := A) (s := s) (e := e) hl hl' (by rw [e1, e2, hlen]) (by omega) (fun j h1 h2 => ?_) PG w E _ ?_
  · obtain ⟨v, t1, q1, q2⟩ := hc.at j h1
    obtain ⟨v', t2, q3, q4⟩ := hd.at j h2
    rw [q2, q4]
    exact he j v v' q1 q3 A.in1 L l s t1 t2 (by rw [Around.in1_units]; omega) H
  · rw [e1]
    exact ⟨s.heap, s.toks, _, _, rfl, H, .bool _, 0, rfl, q⟩
theorem b_ne_len {a b : Addr} {vs us : List V} (hu : A.units < cLine) (ha : σ a = some (.list vs)) (hb : σ b = some (.list us)) (hlen : vs.length ≠ us.length)
    (q : Q (.bool true) l σ) : AB w h₀ A L (compareOp .NotEq) (.ref a) (.ref b) Q l σ := fun t u E s H => by
  obtain ⟨cs, hl, hc⟩ := H.mod.isList ha
  obtain ⟨ds, hl', hd⟩ := H.mod.isList hb
  have e1 : cs.toArray.size = vs.length := by simpa using hc.length
  have e2 : ds.toArray.size = us.length := by simpa using hd.length
  exact RcNeAt.lists_lengths (A := A) (s := s) hl hl' (by rw [e1, e2]; simpa using hlen) hu PG w E _ ⟨s.heap, s.toks, _, _, rfl, H, .bool _, 0, rfl, q⟩
theorem b_ne_tup {n : Nat} {a b : Addr} {vs us : List V} (hu : A.units + n + 1 < cLine) (ha : σ a = some (.tup vs)) (hb : σ b = some (.tup us)) (e : Nat → Bool) (he : ∀ j v u, vs[j]? = some v → us[j]? = some u → EqV h₀ σ n v u (e j))
    (q : Q (.bool (!((List.range (min vs.length us.length)).all e && vs.length == us.length))) l σ) : AB w h₀ A L (compareOp .NotEq) (.ref a) (.ref b) Q l σ := fun t u E s H => by
  obtain ⟨cs, hl, hc⟩ := H.mod.isTup ha
  obtain ⟨ds, hl', hd⟩ := H.mod.isTup hb
  have e1 : cs.toArray.size = vs.length := by simpa using hc.length
  have e2 : ds.toArray.size = us.length := by simpa using hd.length
  refine RcNeAt.tuples (A := A) (s := s) (e := e) hl hl' (by omega) (fun j h1 h2 => ?_) PG w E _ ?_
  · obtain ⟨v, t1, q1, q2⟩ := hc.at j h1
    obtain ⟨v', t2, q3, q4⟩ := hd.at j h2
    rw [q2, q4]
    exact he j v v' q1 q3 A.in1 L l s t1 t2 (by rw [Around.in1_units]; omega) H
  · rw [e1, e2]
    exact ⟨s.heap, s.toks, _, _, rfl, H, .bool _, 0, rfl, q⟩
theorem b_eq_tup0 {a b : Addr} {vs : List V} (hu : A.units < cLine) (ha : σ a = some (.tup vs)) (hb : σ b = some (.tup []))
    (q : Q (.bool (decide (vs = []))) l σ) : AB w h₀ A L (compareOp .Eq) (.ref a) (.ref b) Q l σ := fun t u E s H => by
  obtain ⟨cs, hl, hc⟩ := H.mod.isTup ha
  obtain ⟨ds, hl', hd⟩ := H.mod.isTup hb
  have e1 : cs.toArray.size = vs.length := by simpa using hc.length
  have e2 : ds.toArray.size = 0 := by simpa using hd.length
  refine RcAt.tuples (A := A) (s := s) (e := fun _ => true) hl hl' hu (fun j h1 h2 => absurd h2 (by rw [e2]; exact Nat.not_lt_zero _)) PG w E _ ?_
  rw [e1, e2]
  refine ⟨s.heap, s.toks, _, _, rfl, H, .bool _, 0, ?_, q⟩
  cases vs <;> rfl
theorem b_neb {a b : Bool} (q : Q (.bool (a != b)) l σ) : AB w h₀ A L (compareOp .NotEq) (.bool a) (.bool b) Q l σ := fun t u E s H => PyProof.Rows.ne_bool ⟨s.heap, s.toks, _, _, rfl, H, .bool _, 0, rfl, q⟩
theorem b_eqb {a b : Bool} (q : Q (.bool (a == b)) l σ) : AB w h₀ A L (compareOp .Eq) (.bool a) (.bool b) Q l σ := fun t u E s H => PyProof.Rows.eq_bool ⟨s.heap, s.toks, _, _, rfl, H, .bool _, 0, rfl, q⟩
noncomputable def isInt (k : Int) : Value → Bool
  | .int n _ => n == k
  | _ => false
theorem b_notin {a : Addr} {ns : List Int} {k : Int} (ha : σ a = some (.list (ns.map V.int))) (q : Q (.bool (!ns.any (· == k))) l σ) : AB w h₀ A L (compareOp .NotIn) (.int k) (.ref a) Q l σ := fun t u E s H => by
  obtain ⟨cs, hl, hc⟩ := H.mod.isList ha
  have hi := vl_ints hc
  refine notIn_listAt (isInt k) hl (fun y hy => ?_) ?_
  · have hy' : y ∈ cs := by simpa using hy
    have : ∃ n t, y = .int n t := by
      clear hl hy hc ha q H
      induction hi with
      | nil => cases hy'
      | cons n t _ ih =>
        rcases List.mem_cons.mp hy' with rfl | hy'
        · exact ⟨n, t, rfl⟩
        · exact ih hy'
    obtain ⟨n, t', rfl⟩ := this
    exact EqAt.int_int n t' k t
  · have : cs.toArray.any (isInt k) = ns.any (· == k) := by
      rw [List.any_toArray]
      clear hl hc ha q H
      induction hi with
      | nil => rfl
      | cons n t _ ih => rw [List.any_cons, List.any_cons, ih]; rfl
    rw [this]
    exact ⟨s.heap, s.toks, _, _, rfl, H, .bool _, 0, rfl, q⟩
theorem all_eq {α : Type} [DecidableEq α] : ∀ {xs ys : List α}, xs.length = ys.length → (List.range xs.length).all (fun j => decide (xs[j]? = ys[j]?)) = decide (xs = ys) := fun {xs ys} h => by
  by_cases c : xs = ys
  · subst c; simp
  · rw [decide_eq_false c]
    rw [Bool.eq_false_iff]
    intro q
    apply c
    rw [List.all_eq_true] at q
    apply List.ext_getElem? 
    intro j
    by_cases hj : j < xs.length
    · simpa using q j (List.mem_range.mpr hj)
    · rw [List.getElem?_eq_none (by omega), List.getElem?_eq_none (by omega)]
end
end Mine
namespace Mine
section
variable {w : World} {h₀ : Heap} {A : Around} {L : Addr} {l : Loc} {σ τ : St} {env : Env} {lo gl : List Str} {ce : List (Str × Addr)}
theorem setSlice {A : Around} {E : Value → Shared → Prop} {s : Shared} {a b v : Addr} {cs ds : List Value} {n n' : Nat} {x y : Nat} {t u : Tok} {Q : Unit → Shared → Prop}
    (ho : s.heap.get? a = some { cls := .type "list", data := .seq cs.toArray n }) (hv : s.heap.get? v = some { cls := .type "list", data := .seq ds.toArray n' }) (hs : s.heap.IsSliceOf b (.int x t) (.int y u) .none)
    (hav : a ≠ v) (hxy : x ≤ y) (hy : y ≤ cs.length) (hz : cs.length + ds.length ≤ 1000)
    (q : ∀ h' n'', h'.get? a = some { cls := .type "list", data := .seq (cs.take x ++ ds ++ cs.drop y).toArray n'' } → Heap.SameBut a s.heap h' → Q () { s with heap := h' }) :
    wpAny (model PG w) A (setItem (.ref a) (.ref b) (.ref v)) Q E s := by
  obtain ⟨os, hos, hcs, hds⟩ := id hs
  have hTs : s.TypeIs (.ref b) "slice" := ⟨os, hos, hcs⟩
  have hTa : s.TypeIs (.ref a) "list" := ⟨_, ho, rfl⟩
  have hTv : s.TypeIs (.ref v) "list" := ⟨_, hv, rfl⟩
  unfold setItem
  try with_reducible refine wpAny_holding ?_
  first | refine wpAny_bind (wpAny_pure ?_) | skip
  refine wpAny_bind (wpAny_sequenceKey hTa (by decide) ?_)
  refine wpAny_bind (wpAny_callSpecial?_slot (name := Str.ofString "__setitem__") hTa PySem.F.slot_list_setitem
    (wpAny_call_entry PySem.F.slot_list_setitem hTa PySem.F.entry_list_setitem ?_ (PySem.F.args_list_setitem_3 _ _ _)))
  show wpAny _ _ (Builtin.List.listSubscript? (.ref b) >>= _) _ _ s
  refine wpAny_bind ?_
  unfold Builtin.List.listSubscript?
  refine wpAny_bind (wpAny_specialOf hTs slice_no_index ?_)
  simp only [Option.isNone_none, if_true]
  refine wpAny_pure ?_
  show wpAny _ _ (typeOf (.ref b) >>= _) _ _ s
  refine wpAny_bind (wpAny_typeOf hTs ?_)
  rw [if_neg (by decide)]
  rw [listSliceParts_eq]
  have hstep : ¬ ((rawPart none == rawInt 0) = true) := Bool.false_ne_true
  refine wpAny_bind (wpAny_bind (wpAny_field hos hds (x := .none) rfl (wpAny_bind (wpAny_listPart .none ?_))))
  rw [if_neg hstep]
  refine wpAny_bind (wpAny_field hos hds (x := .int x t) rfl (wpAny_bind (wpAny_listPart (.int _ _) ?_)))
  refine wpAny_bind (wpAny_field hos hds (x := .int y u) rfl (wpAny_bind (wpAny_listPart (.int _ _) (wpAny_pure ?_))))
  dsimp only
  rw [if_neg (by show ¬ ((a == v) = true); simpa using hav)]
  refine wpAny_bind (m := Builtin.List.listAllItems (.ref v) _) ?_
  unfold Builtin.List.listAllItems
  refine wpAny_bind (wpAny_typeOf hTv ?_)
  rw [if_pos (by decide)]
  unfold Builtin.List.listItems
  refine wpAny_bind (wpAny_seqItems hv rfl (wpAny_pure ?_))
  refine wpAny_bind (wpAny_bind (wpAny_seqItems ho rfl (wpAny_pure ?_)))
  refine wpAny_bind (wpAny_of_eq (sliceIndices_raw (some (x : Int)) (some (y : Int)) none cs.toArray.size (by simp)) ?_)
  have eb : sliceBounds (some (x : Int)) (some (y : Int)) none cs.toArray.size = ((x : Int), (y : Int), 1) := by
    rw [List.size_toArray]
    simp only [sliceBounds, Option.getD_none, show (1 : Int) > 0 by decide, if_true]
    rw [if_neg (by omega), if_neg (by omega)]
    congr 1
    · omega
    · congr 1
      omega
  rw [eb]
  dsimp only
  rw [if_pos (by decide)]
  refine wpAny_bind (wpAny_rule ?_)
  rw [if_neg (by unfold Builtin.List.listTooLong; rw [List.size_toArray, List.size_toArray]; have := len_small hz; simpa using this)]
  have ef : ((cs.toArray.extract 0 (x : Int).toNat ++ ds.toArray ++ cs.toArray.extract (max (x : Int) (y : Int)).toNat cs.toArray.size) : Array Value) = (cs.take x ++ ds ++ cs.drop y).toArray := by
    have e1 : (max (x : Int) (y : Int)).toNat = y := by omega
    rw [e1]
    simp [List.take_of_length_le]
  have hsz : cs.toArray.size ≤ sizeLine := by rw [List.size_toArray]; exact len_small (by omega)
  refine wpAny_bind (m := updateSeq a _) (wpAny_updateSeq ho rfl ?_ (hz := hsz) (_hz' := ?_))
  · refine wpAny_bind (wpAny_letGo ?_)
    have hq := PySem.IsL.update ho (fun xs : Array Value => xs.extract 0 (x : Int).toNat ++ ds.toArray ++ xs.extract (max (x : Int) (y : Int)).toNat xs.size)
    have hq' := hq
    dsimp only [PySem.IsL] at hq'
    rw [ef] at hq'
    exact wpAny_pure ⟨.none, rfl, wpAny_pure (q _ _ hq' (Heap.SameBut.update ..))⟩
  · rw [ef, List.size_toArray]
    simp only [List.length_append, List.length_take, List.length_drop]
    have := len_small (n := 1000) (Nat.le_refl _)
    omega
theorem i_slice {a b v : Addr} {vs us : List V} {x y : Nat} {Q : Loc → St → Prop} (ha : σ a = some (.list vs)) (hb : σ b = some (.slice (.int x) (.int y))) (hv : σ v = some (.list us)) (hav : a ≠ v) (hxy : x ≤ y) (hy : y ≤ vs.length) (hz : vs.length + us.length ≤ 1000)
    (q : Q l (upd σ a (.list (vs.take x ++ us ++ vs.drop y)))) : ASI w h₀ A L (.ref a) (.ref b) (.ref v) Q l σ := fun t1 t2 t3 E s H => by
  obtain ⟨cs, n, ho, hc⟩ := H.mod.plain ha
  obtain ⟨ds, n', ho', hd⟩ := H.mod.plain hv
  obtain ⟨_, os, hos, t4, t5, rfl⟩ := H.mod.obj _ _ hb
  refine setSlice ho ho' ⟨_, hos, rfl, rfl⟩ hav hxy (by rw [hc.length]; exact hy) (by rw [hc.length, hd.length]; exact hz) fun h' n'' hq hs => ?_
  exact ⟨h', _, _, _, rfl, H.put ha hs (x := .list (vs.take x ++ us ++ vs.drop y)) ⟨_, hq, _, _, rfl, by simpa using ((hc.take x).append hd).append (hc.drop y)⟩, q⟩
end
end Mine
namespace Mine
section
variable {w : World} {h₀ : Heap} {A : Around} {L : Addr} {l : Loc} {σ τ : St} {env : Env} {lo gl : List Str} {ce : List (Str × Addr)}
noncomputable def ATs (w : World) (h₀ : Heap) (A : Around) (L : Addr) (env : Env) (ifs : List Expr) (Q : Bool → Loc → St → Prop) (l : Loc) (σ : St) : Prop :=
  AW w h₀ A L (forIn ifs true fun c r => if r = true then do let ok ← isTrue c env (eval c env); pure (ForInStep.yield ok) else pure (ForInStep.yield r)) Q l σ
theorem ts_nil {Q : Bool → Loc → St → Prop} (q : Q true l σ) : ATs w h₀ A L env [] Q l σ := fun E s H => wpAny_tests_nil ⟨s.heap, s.toks, _, _, rfl, H, q⟩
theorem ts_one {c : Expr} {Q : Bool → Loc → St → Prop} (h : AT w h₀ A L env c Q l σ) : ATs w h₀ A L env [c] Q l σ := fun E s H => wpAny_tests_one (h E s H)
noncomputable def ACo (w : World) (h₀ : Heap) (A : Around) (L : Addr) (env : Env) (e : Expr) (scope : Scope) (cl : List (Str × Addr)) (v : V) (Q : V → Loc → St → Prop) (l : Loc) (σ : St) : Prop :=
  ∀ t (E : Value → Shared → Prop) (s : Shared), ModL h₀ L l σ s.heap → wpAny (model PG w) A (pyIter (v.to t)) (fun it s₂ => wpAny (model PG w) A (newList []) (fun acc s₃ =>
      wpAny (model PG w) A (newFunctionEnv scope env.globals cl [] env.qual none .none (some env)) (fun cenv s₄ =>
        codeAny (model PG w) A (.compStart e 0 it acc { cenv with scope := relabel scope env }) (compPost (model PG w) A E none (fun c s' => ∃ h' tk' l' σ', s' = { s with heap := h', toks := tk' } ∧ ModL h₀ L l' σ' h' ∧ ∃ v t, c = v.to t ∧ Q v l' σ') acc cenv.locals) s₄) E s₃) E s₂) E s
theorem e_comp {elt target iter : Expr} {ifs : List Expr} {scope : Scope} {cl : List (Str × Addr)} {pos : Pos} {Q : V → Loc → St → Prop} (hclos : closureFor scope env = pure cl) (hkind : scope.kind = .function)
    (hnames : ∀ y ∈ scope.names, y.2 = .local → scope.names.lookup y.1 = some .local)
    (h : AE w h₀ A L env iter (fun v => ACo w h₀ A L env (.ListComp elt [⟨target, iter, ifs, 0⟩] scope pos) scope cl v Q) l σ) (hs : ∀ x, foldedSetIterable iter env x = pure x := by intro _; rfl) :
    AE w h₀ A L env (.ListComp elt [⟨target, iter, ifs, 0⟩] scope pos) Q l σ := fun E s H => by
  rw [eval_ListComp]
  refine wpAny_comprehension_free (use := none) rfl hs hclos hkind hnames (h.usev H fun v t h' tk' l' σ' H' q => ?_)
  exact wpAny_mono (q t E _ H') (fun _ _ z => z) fun _ _ e => e
/-- the state in a turn: the frame outside, what was gathered, the iterator -/
noncomputable def FR (σ : St) (L D I : Addr) (l : Loc) (acc : List V) (x : AO) : St := upd (upd (upd σ L (.ns l)) D (.list acc)) I x
structure Fits4 (σ : St) (L C D I : Addr) : Prop where
  nL : σ L = none
  nD : σ D = none
  nI : σ I = none
  LC : L ≠ C
  LD : L ≠ D
  LI : L ≠ I
  CD : C ≠ D
  CI : C ≠ I
  DI : D ≠ I
theorem FR_I {σ : St} {L D I : Addr} {l : Loc} {acc : List V} {x : AO} : FR σ L D I l acc x I = some x := upd_self ..
theorem FR_D {σ : St} {L D I : Addr} {l : Loc} {acc : List V} {x : AO} (h : D ≠ I) : FR σ L D I l acc x D = some (.list acc) := by unfold FR; rw [upd_ne h, upd_self]
theorem FR_app {σ : St} {L D I : Addr} {l : Loc} {acc acc' : List V} {x : AO} (h : D ≠ I) : upd (FR σ L D I l acc x) D (.list acc') = FR σ L D I l acc' x := by
  unfold FR
  rw [upd_comm h.symm, upd_upd]
theorem FR_old {σ : St} {L D I a : Addr} {l : Loc} {acc : List V} {x y : AO} (h1 : σ L = none) (h2 : σ D = none) (h3 : σ I = none) (h : σ a = some y) : FR σ L D I l acc x a = some y := by
  unfold FR
  rw [upd_ne (ne_of_none h3 h), upd_ne (ne_of_none h2 h), upd_ne (ne_of_none h1 h)]; exact h
theorem sub_off {σ τ : St} {a : Addr} (h : Sub σ τ) (n : τ a = none) : σ a = none := by
  cases e : σ a with
  | none => rfl
  | some y => have := h _ _ e; rw [n] at this; cases this
theorem none_ne {σ : St} {a b : Addr} {x : AO} (h : upd σ a x b = none) : b ≠ a ∧ σ b = none := by
  have : b ≠ a := by rintro rfl; rw [upd_self] at h; cases h
  rw [upd_ne this] at h
  exact ⟨this, h⟩
theorem ModL.sub {h : Heap} (H : ModL h₀ L l τ h) (k : Sub σ τ) : ModL h₀ L l σ h := ⟨H.mod.sub k, H.ns, sub_off k H.off, H.new⟩
theorem FR_new {σ : St} {L C D I a : Addr} {l : Loc} {acc : List V} {x y : AO} (P : Fits4 σ L C D I) (h : FR σ L D I l acc x a = none) :
    σ a = none ∧ Fits4 (upd σ a y) L C D I ∧ FR (upd σ a y) L D I l acc x = upd (FR σ L D I l acc x) a y := by
  unfold FR at h
  obtain ⟨h1, h⟩ := none_ne h
  obtain ⟨h2, h⟩ := none_ne h
  obtain ⟨h3, h⟩ := none_ne h
  refine ⟨h, ⟨upd_none h3.symm P.nL, upd_none h2.symm P.nD, upd_none h1.symm P.nI, P.LC, P.LD, P.LI, P.CD, P.CI, P.DI⟩, ?_⟩
  unfold FR
  rw [upd_comm (a := a) (b := L) h3, upd_comm (a := a) (b := D) h2, upd_comm (a := a) (b := I) h1]
theorem FR_sub {σ : St} {L C D I : Addr} {l : Loc} {acc : List V} {x : AO} (P : Fits4 σ L C D I) : Sub σ (FR σ L D I l acc x) := fun a y e => FR_old P.nL P.nD P.nI e
theorem co_loop {elt iter : Expr} {x : Str} {px : Pos} {ifs : List Expr} {scope : Scope} {cl : List (Str × Addr)} {pos : Pos} {Q : V → Loc → St → Prop} {v : V} {n : Nat} {it : Nat → AO} {item : Nat → V} {ok : St → Prop} {lo' gl' : List Str} {ce' : List (Str × Addr)}
    (hcell : ∀ y ∈ scope.names, y.2 ≠ .cell) (hkind : scope.kind = .function) (O : ∀ C, EnvOk (compEnvC scope cl C env) C lo' gl' ce') (hx : x ∈ lo')
    (J : Nat → List V → St → Prop) (st : Starts w h₀ A v n it item ok σ) (hmono : ∀ σ τ, ok σ → Sub σ τ → ok τ) (hn : n ≤ 1000) (h0 : J 0 [] σ) (hok : ∀ i acc σ, J i acc σ → ok σ)
    (turn : ∀ env' C D I i acc σ, EnvOk env' C lo' gl' ce' → i < n → J i acc σ → Fits4 σ L C D I → ATs w h₀ A C env' ifs (fun b l' σ' =>
      (b = true → AE w h₀ A C env' elt (fun u _ σ'' => ∃ τ, Sub (FR τ L D I l acc (it (i + 1))) σ'' ∧ Fits4 τ L C D I ∧ J (i + 1) (acc ++ [u]) τ) l' σ') ∧
      (b = false → ∃ τ, Sub (FR τ L D I l acc (it (i + 1))) σ' ∧ Fits4 τ L C D I ∧ J (i + 1) acc τ)) [(x, item i)] (FR σ L D I l acc (it (i + 1))))
    (fin : ∀ D acc σ, J n acc σ → σ D = none → σ L = none → Q (.ref D) l (upd σ D (.list acc))) :
    ACo w h₀ A L env (.ListComp elt [⟨.Name x px, iter, ifs, 0⟩] scope pos) scope cl v Q l σ := fun t E s H => by
  refine st.2 t L l E s _ H fun I h1 hI hIL g H1 => ?_
  have hD1 := H1.mod.fresh
  have H2 := H1.push (x := .list []) (o := { cls := .type "list", data := .seq ([] : List Value).toArray 0 }) ⟨#[], 0, rfl, trivial⟩ rfl
  refine wpAny_newList ?_
  refine wpAny_newFunctionEnv hcell (by intro y hy; simp at hy) (fun h3 hns hsb => ?_) hkind
  have hC2 := (H2.in h₀).fresh
  have hC2' := (H2.in h₀).fresh0
  generalize hH2 : h1.push { cls := .type "list", data := .seq ([] : List Value).toArray 0 } = h2 at *
  generalize hDe : h1.objs.size = D at *
  generalize hCe : h2.objs.size = C at *
  have lt : L ≠ D := hDe ▸ (let ⟨_, q, _⟩ := H1.ns; Nat.ne_of_lt q.lt)
  obtain ⟨dI, sD⟩ := none_ne hD1
  obtain ⟨cL, z⟩ := none_ne hC2
  obtain ⟨cD, z⟩ := none_ne z
  obtain ⟨cI, sC⟩ := none_ne z
  have P0 : Fits4 σ L C D I := ⟨H.off, sD, hI, cL.symm, lt, hIL.symm, cD, cI, dI⟩
  have e0 : upd (upd (upd σ I (it 0)) D (.list [])) L (.ns l) = FR σ L D I l [] (it 0) := by
    unfold FR
    rw [upd_comm lt.symm, upd_comm (a := I) (b := L) hIL, upd_comm (a := I) (b := D) dI.symm]
  have M2 := H2.in h₀
  rw [e0] at M2
  have k3 : ∀ b o, h2.get? b = some o → h3.get? b = some o := fun b o e => by
    have hb : b ≠ C := hCe ▸ Nat.ne_of_lt (Heap.lt_size e)
    exact hsb.extBut b o hb (Heap.get?_push_of_some _ e)
  have M3 : ModL h₀ C [] (FR σ L D I l [] (it 0)) h3 := ⟨M2.keeps k3, ⟨_, hns, fun _ _ e => by cases e⟩, by rw [← e0]; exact hC2, hC2'⟩
  have fr : ∀ {τ : St} {acc : List V}, upd (upd τ L (.ns l)) D (.list acc) = upd (upd τ L (.ns l)) D (.list acc) := rfl
  have loop : ∀ tk, codeAny (model PG w) A (.compLoop (.ListComp elt [⟨.Name x px, iter, ifs, 0⟩] scope pos) 0 (.ref I) (.ref D) (compEnvC scope cl C env))
      (compPost (model PG w) A E none (fun c s' => ∃ h' tk' l' σ', s' = { s with heap := h', toks := tk' } ∧ ModL h₀ L l' σ' h' ∧ ∃ v t, c = v.to t ∧ Q v l' σ') (.ref D) C) { s with heap := h3, toks := tk } := fun tk => by
    refine codeAny_compLoop_tests (fun k s' => ∃ h' tk' lc acc σ' i, s' = { s with heap := h', toks := tk' } ∧ i ≤ n ∧ k = n - i ∧ acc.length ≤ i ∧ J i acc σ' ∧ Fits4 σ' L C D I ∧ ModL h₀ C lc (FR σ' L D I l acc (it i)) h') ?_ n ⟨h3, tk, [], [], σ, 0, rfl, Nat.zero_le _, rfl, Nat.le_refl _, h0, P0, M3⟩
    rintro k s' ⟨h', tk', lc, acc, σ', i, rfl, hi, rfl, hacc, hJ, P, H'⟩
    have hI' : upd (upd σ' L (.ns l)) D (.list acc) I = none := by rw [upd_ne P.DI.symm, upd_ne P.LI.symm]; exact P.nI
    have ok' : ok (upd (upd σ' L (.ns l)) D (.list acc)) := hmono _ _ (hok _ _ _ hJ) fun b y e => by
      rw [upd_ne (ne_of_none P.nD e), upd_ne (ne_of_none P.nL e)]; exact e
    by_cases c : i = n
    · subst c
      refine g.done C lc _ _ { s with heap := h', toks := tk' } ok' hI' P.CI.symm H' _ fun h'' H'' => ?_
      obtain ⟨m, hm, _⟩ := H''.ns
      refine ⟨m, hm, fun h4 hs => ⟨h4, tk', l, upd σ' D (.list acc), rfl, ?_, .ref D, 0, rfl, fin D acc σ' hJ P.nD P.nL⟩⟩
      have M4 := H''.mod.keeps' hs H''.new H''.off
      rw [upd_comm P.LD] at M4
      exact ModL.out M4 (by rw [upd_ne P.LD]; exact P.nL)
    · have hlt : i < n := by omega
      refine AW.use (g.next C i lc _ hlt ok' hI' P.CI.symm) (s := { s with heap := h', toks := tk' }) H' fun r h'' tk'' l'' σ'' H'' ⟨e1, e2, t, e3⟩ => ?_
      subst e1 e2 e3
      refine AW.use (a_name (Q := fun l' σ' => ATs w h₀ A C (compEnvC scope cl C env) ifs _ l' σ') (O C) hx ((turn _ C D I i acc σ' (O C) hlt hJ P).loc fun y v e => ?_) t) H'' fun _ h5 tk5 l5 σ5 H5 q5 => ?_
      · rw [List.lookup_cons] at e ⊢
        split at e
        · exact e
        · cases e
      refine AW.use q5 H5 fun b h6 tk6 l6 σ6 H6 q6 => ?_
      cases b with
      | true =>
        rw [if_pos rfl]
        refine AE.usev (q6.1 rfl) H6 fun u tu h7 tk7 l7 σ7 H7 ⟨τ, sub, P7, hj⟩ => ?_
        have H7' := H7.sub sub
        have := c_append (w := w) (h₀ := h₀) (A := A) (L := C) (v := u) (Q := fun _ l' σ' => l' = l7 ∧ σ' = FR τ L D I l (acc ++ [u]) (it (i + 1))) (FR_D P7.DI) (by omega) ⟨rfl, FR_app P7.DI⟩ [u.to tu] (VL.one u tu)
        refine AW.use this H7' fun _ h8 tk8 l8 σ8 H8 ⟨_, _, _, e1, e2⟩ => ?_
        subst e1 e2
        exact ⟨n - (i + 1), by omega, h8, tk8, _, acc ++ [u], τ, i + 1, rfl, by omega, rfl, by simp; omega, hj, P7, H8⟩
      | false =>
        rw [if_neg (by decide)]
        obtain ⟨τ, sub, P7, hj⟩ := q6.2 rfl
        exact ⟨n - (i + 1), by omega, h6, tk6, _, acc, τ, i + 1, rfl, by omega, rfl, by omega, hj, P7, H6.sub sub⟩
  refine codeAny_compStart_list (loop _) ?_
  have ok0 : ok (upd (upd σ L (.ns l)) D (.list [])) := hmono _ _ st.1 fun b y e => by
    rw [upd_ne (ne_of_none P0.nD e), upd_ne (ne_of_none P0.nL e)]; exact e
  exact g.self C 0 [] (upd (upd σ L (.ns l)) D (.list [])) _ _ _ ok0 (by rw [upd_ne P0.DI.symm, upd_ne P0.LI.symm]; exact P0.nI) P0.CI.symm M3 (loop _)
end
end Mine
namespace Mine
section
variable {w : World} {h₀ : Heap} {A : Around} {L : Addr} {l : Loc} {σ τ : St} {env : Env} {lo gl : List Str} {ce : List (Str × Addr)}
noncomputable def IKof : List (Int × V) → List (Int × Value) → Prop := IKV
theorem IKV.keys : ∀ {kvs : List (Int × V)} {ks : List (Int × Value)}, IKV kvs ks → ks.map (·.1) = kvs.map (·.1)
  | [], [], _ => rfl
  | a :: r, c :: s, h => by rw [List.map_cons, List.map_cons, h.1, IKV.keys h.2.2]
  | [], _ :: _, h => h.elim
  | _ :: _, [], h => h.elim
theorem IKV.get : ∀ {kvs : List (Int × V)} {ks : List (Int × Value)}, IKV kvs ks → ∀ (k : Int) (d : V) (dv : Value) (t : Tok), dv = d.to t → ∃ t', (valueAt ks k).getD dv = ((kvs.lookup k).getD d).to t'
  | [], [], _, k, d, dv, t, e => ⟨t, by simpa [valueAt] using e⟩
  | (i, a) :: r, c :: s, ⟨h1, ⟨t1, h2⟩, h3⟩, k, d, dv, t, e => by
    dsimp only at h1 h2
    by_cases q : c.1 = k
    · refine ⟨t1, ?_⟩
      have q' : (k == i) = true := by rw [beq_iff_eq, ← h1, q]
      simp [valueAt, List.find?_cons, q, List.lookup_cons, q', h2]
    · obtain ⟨t', z⟩ := IKV.get h3 k d dv t e
      refine ⟨t', ?_⟩
      have q' : (k == i) = false := by rw [beq_eq_false_iff_ne, ← h1]; exact fun e => q e.symm
      simpa [valueAt, List.find?_cons, q, List.lookup_cons, q'] using z
  | [], _ :: _, h, _, _, _, _, _ => h.elim
  | _ :: _, [], h, _, _, _, _, _ => h.elim
theorem isDict_any {w w' : World} {o : Obj} {ks : List (Int × Value)} (h : o.IsDictOf (intKind PG w) ks) : o.IsDictOf (intKind PG w') ks := by
  obtain ⟨es, ep, h1, h2, h3, h4, h5⟩ := h
  refine ⟨es, ep, h1, h2, h3, ?_, h5⟩
  clear h1 h2 h3 h5
  generalize es.toList = l at h4 ⊢
  induction h4 with
  | nil => exact .nil
  | cons a b _ ih => exact .cons a b ih
theorem Mod.dict {h : Heap} (H : Mod h₀ σ h) {d : Addr} {kvs : List (Int × V)} (e : σ d = some (.idict kvs)) : ∃ ks, h.DictOf (intKind PG w) d ks ∧ IKV kvs ks := by
  obtain ⟨_, o, ho, ks, h1, h2⟩ := H.obj _ _ e
  exact ⟨ks, Heap.dictOf_iff.mpr ⟨o, ho, h1 w⟩, h2⟩
theorem idict_is {h : Heap} {d : Addr} {ks : List (Int × Value)} {kvs : List (Int × V)} (D : h.DictOf (intKind PG w) d ks) (k : IKV kvs ks) : ∃ o, h.get? d = some o ∧ (AO.idict kvs).is o := by
  obtain ⟨o, ho, hd⟩ := Heap.dictOf_iff.mp D
  exact ⟨o, ho, ks, fun w' => isDict_any hd, k⟩
theorem not_sys (G : Gnd w h₀) {h : Heap} (H : Mod h₀ σ h) {d : Addr} {x : AO} (e : σ d = some x) : (d == sysModules) = false := by
  rw [beq_eq_false_iff_ne]
  rintro rfl
  obtain ⟨o, ho⟩ := G.sys
  rw [(H.obj _ _ e).1] at ho
  cases ho
theorem m_dget {d : Addr} {kvs : List (Int × V)} {pl : Sem Bool} {Q : Value × List Value → Loc → St → Prop} (hd : σ d = some (.idict kvs)) (q : Q (.builtin "dict.get", [.ref d]) l σ) (t : Tok) :
    AW w h₀ A L (getMethod ((V.ref d).to t) "get" pl) Q l σ := fun E s H => by
  obtain ⟨ks, D, _⟩ := H.mod.dict (w := w) hd
  exact getMethod_builtin D.typeIs PySem.F.plainAttrs_dict PySem.F.slot_dict_get PySem.F.type_dict_get D.mapOf.noDict ⟨s.heap, s.toks, _, _, rfl, H, q⟩
theorem c_dget (G : Gnd w h₀) {d : Addr} {kvs : List (Int × V)} {k : Int} {dv : V} {Q : V → Loc → St → Prop} (hd : σ d = some (.idict kvs)) (q : Q ((kvs.lookup k).getD dv) l σ) :
    AKf w h₀ A L (.builtin "dict.get") [.ref d] [.int k, dv] Q l σ := fun cs hv E s H => by
  obtain ⟨t, u, rfl⟩ := vl2 hv
  obtain ⟨ks, D, hk⟩ := H.mod.dict (w := w) hd
  obtain ⟨t', e⟩ := hk.get k dv (dv.to u) u rfl
  refine call_meetsIn PySem.F.slot_dict_get D.typeIs PySem.F.entry_dict_get (PySem.F.args_dict_get_3 _ _ _) (meets_dict_get_default (intKind PG w) d (intKind_is PG w k t) (not_sys G H.mod hd) (dv.to u)) ⟨valueAt ks, D.mapOf, ?_⟩
  exact ⟨s.heap, _, _, _, rfl, H, _, t', e, q⟩
-- displays
theorem e_dict0 {p : Pos} {Q : V → Loc → St → Prop} (q : ∀ d, σ d = none → Q (.ref d) l (upd σ d (.idict []))) : AE w h₀ A L env (.Dict [] [] p) Q l σ := fun E s H => by
  refine wpAny_Dict_empty ?_
  refine ⟨_, _, _, _, rfl, H.push (x := .idict []) ⟨[], fun w' => ?_, trivial⟩ rfl, .ref s.heap.objs.size, 0, rfl, q _ H.mod.fresh⟩
  exact ⟨#[], 0, ⟨rfl, rfl, rfl⟩, rfl, fun e he => by simp at he, .nil, List.nodup_nil⟩
/-- the pairs of a display -/
noncomputable def APs (w : World) (h₀ : Heap) (A : Around) (L : Addr) (env : Env) : List (Option Expr) → List Expr → (List (Int × V) → Loc → St → Prop) → Loc → St → Prop
  | some k :: ks, v :: vs, Q => AE w h₀ A L env k fun kv => AE w h₀ A L env v fun vv => APs w h₀ A L env ks vs fun r l' σ' => ∃ i, kv = .int i ∧ Q ((i, vv) :: r) l' σ'
  | [], [], Q => Q []
  | _, _, _ => fun _ _ => False
theorem stored_new {ks : List (Int × Value)} {k : Int} {v : Value} (h : k ∉ ks.map (·.1)) : stored ks k v = ks ++ [(k, v)] := by
  unfold stored
  rw [if_neg]
  intro q
  rw [List.any_eq_true] at q
  obtain ⟨x, hx, e⟩ := q
  exact h (List.mem_map.mpr ⟨x, hx, by simpa using e⟩)
theorem merged_new : ∀ (more ks : List (Int × Value)), (ks.map (·.1) ++ more.map (·.1)).Nodup → merged ks more = ks ++ more
  | [], ks, _ => by simp [merged]
  | (k, v) :: r, ks, h => by
    have hk : k ∉ ks.map (·.1) := fun q => by
      rw [List.nodup_append] at h
      exact h.2.2 k q k (by simp) rfl
    have : merged ks ((k, v) :: r) = merged (stored ks k v) r := rfl
    rw [this, stored_new hk, merged_new r (ks ++ [(k, v)]) (by simpa using h)]
    simp
theorem w_pairs : ∀ {keys : List (Option Expr)} {vals : List Expr} {p : Pos} {Q : List (Int × V) → Loc → St → Prop} {l : Loc} {σ : St}, APs w h₀ A L env keys vals Q l σ →
    AW w h₀ A L (evalPairs (pairTrees keys vals env p)) (fun vs l' σ' => ∃ kvs ks, Carries (intKind PG w) vs ks ∧ IKV kvs ks ∧ Q kvs l' σ') l σ
  | [], [], _, _, _, _, q => fun E s H => evalPairs_nil ⟨s.heap, s.toks, _, _, rfl, H, [], [], trivial, trivial, q⟩
  | some k :: ks, v :: vs, p, Q, l, σ, q => fun E s H => by
    show wpAny _ _ (evalPairs ((eval k env, do let x ← eval v env; standAt p; pure x) :: pairTrees ks vs env p)) _ _ _
    refine evalPairs_cons (AE.usev q H fun kv t h' tk' l' σ' H' q => wpAny_bind (AE.usev q H' fun vv t' h' tk' l' σ' H' q => wpAny_bind (wpAny_standAt (wpAny_pure ?_))))
    refine AW.use (w_pairs (p := p) q) H' fun xs h' tk' l' σ' H' ⟨kvs, ks', c, i, k', e, z⟩ => ?_
    subst e
    exact ⟨h', tk', _, _, rfl, H', (k', vv) :: kvs, (k', vv.to t') :: ks', ⟨intKind_is PG w k' t, rfl, c⟩, ⟨rfl, ⟨t', rfl⟩, i⟩, z⟩
  | [], _ :: _, _, _, _, _, q => q.elim
  | none :: _, _, _, _, _, _, q => q.elim
  | some _ :: _, [], _, _, _, _, q => q.elim
theorem e_dict {keys : List (Option Expr)} {vals : List Expr} {p : Pos} {Q : V → Loc → St → Prop} (hall : keys.all (·.isSome) = true) (hl : keys.length = vals.length) (h0 : keys ≠ []) (hlen : keys.length ≤ 15)
    (h : ∀ d, σ d = none → d ≠ L → APs w h₀ A L env keys vals (fun kvs l' σ' => (kvs.map (·.1)).Nodup ∧ ∃ τ, Sub (upd τ d (.idict [])) σ' ∧ τ d = none ∧ Q (.ref d) l' (upd τ d (.idict kvs))) l (upd σ d (.idict []))) :
    AE w h₀ A L env (.Dict keys vals p) Q l σ := fun E s H => by
  have hn := pairTrees_length keys vals env p hall hl
  have hp0 : pairTrees keys vals env p ≠ [] := by
    intro he
    rw [he] at hn
    exact h0 (List.length_eq_zero_iff.mp hn.symm)
  have H0 := H.push (x := .idict []) (o := { cls := .type "dict", data := .dict #[] }) ⟨[], fun w' => ⟨#[], 0, ⟨rfl, rfl, rfl⟩, rfl, fun e he => by simp at he, .nil, List.nodup_nil⟩, trivial⟩ rfl
  have hdL : s.heap.objs.size ≠ L := by
    obtain ⟨m, hn, _⟩ := H.ns
    exact (Nat.ne_of_lt hn.lt).symm
  refine wpAny_Dict_pairs (knd := intKind PG w) (zip_pairTrees keys vals env p hall hl) hp0 (by rw [hn]; exact hlen) (AW.use (w_pairs (h _ H.mod.fresh hdL)) H0 fun vs h' tk' l' σ' H' ⟨kvs, ks, c, i, nd, τ, sub, off, q⟩ => ⟨ks, c, ?_, fun h2 hD hs => ?_⟩)
  · obtain ⟨ks0, D, i0⟩ := H'.mod.dict (w := w) (sub _ _ (upd_self ..))
    cases ks0 with
    | nil => exact D
    | cons _ _ => exact i0.elim
  · rw [merged_new ks [] (by simpa [i.keys] using nd)] at hD
    have H2 := H'.sub sub
    refine ⟨h2, _, _, _, rfl, ?_, .ref s.heap.objs.size, 0, rfl, q⟩
    have := H2.put (x := .idict kvs) (upd_self ..) hs (idict_is (by simpa using hD) i)
    rw [upd_upd] at this
    exact this
end
end Mine
namespace Mine
section
variable {w : World} {h₀ : Heap} {A : Around} {L : Addr} {l : Loc} {σ τ : St} {env : Env} {lo gl : List Str} {ce : List (Str × Addr)}
/-- a def is entered, whose last arguments may stand in its defaults -/
theorem d_callB {n : Nat} (G : Gnd w h₀) (r : Room A (n + 1)) {fa : Addr} {fd : FuncData} {body : List Stmt} {names : List Str} {vs us : List V} {Q : V → St → Prop}
    (ho : (K w.params).lookup fa = some ⟨.type "function", none, .func fd, #[]⟩) (hcd : codeIn (K w.params) fd.code fd.qualname = true) (hbody : fd.body = .stmts body)
    (hb : ∀ cs, VL vs cs → ∃ ds, VL us ds ∧ ∀ s : Shared, (K w.params).In s.heap → BindsTo s fd ⟨cs, []⟩ (names.zip ds)) (hn : names.Nodup)
    (hcell : ∀ x ∈ fd.scope.names, x.2 ≠ .cell) (hloc : ∀ x ∈ names, fd.scope.names.lookup x = some .local) (hco : fd.scope.isCoroutine = false) (hgen : fd.scope.isGenerator = false) (hk : fd.scope.kind = .function)
    (h : ∀ L A', σ L = none → Room A' n → AXs w h₀ A' L (callEnv fd L fa) body (fun f _ σ' => ∃ σ'', Sub σ'' σ' ∧ Q f.val σ'') (names.zip us) σ) : AD w h₀ A (.ref fa) vs Q σ := fun cs hv R s H q => by
  obtain ⟨ds, hd, hb⟩ := hb cs hv
  refine codeAny_call_def r.depth ((G.X.keeps H.base) _ _ ho) rfl (G.lim.keeps H.base) (codeRec_of (G.X.keeps H.base) hcd) hbody (hb s (G.X.keeps H.base)) hcell (fun x hx => hloc x.1 (List.of_mem_zip hx).1) (fun h₁ hns hk₁ => ?_) hco hgen hk
  refine AW.use (h s.heap.objs.size _ H.fresh r.deeper) ⟨H.keeps hk₁, ⟨_, hns, zip_rev hd hn⟩, H.fresh, H.fresh0⟩ fun f h' tk' l' σ' H' ⟨g, hg, σ'', sub, z⟩ => ?_
  have H'' := H'.mod.sub sub
  cases g with
  | next => cases hg; exact q .none 0 h' tk' σ'' H'' z
  | brk => cases hg; exact q .none 0 h' tk' σ'' H'' z
  | cont => cases hg; exact q .none 0 h' tk' σ'' H'' z
  | ret v => obtain ⟨t, rfl⟩ := hg; exact q v t h' tk' σ'' H'' z
theorem Room.make {n : Nat} {C : Addr} {vals : List Value} (r : Room A (n + 1)) : Room (A.under (.builtin "type.__call__" ⟨.ref C :: vals, []⟩)) n :=
  ⟨r.hh, by have := r.dep; rw [depth_under_make]; omega, by have := r.un; rw [units_under_make]; omega⟩
/-- an object of a class is made -/
theorem d_make {n : Nat} (G : Gnd w h₀) (r : Room A (n + 1)) {C init : Addr} {vs : List V} {Q : V → St → Prop} (hm : makesIn (K w.params) C = true) (hi : findIn (K w.params) (.ref C) "__init__" = some (some (.ref init)))
    (hf : typeIn (K w.params) (.ref init) = some (.type "function"))
    (h : ∀ x dx A', Room A' n → σ dx = none → σ x = none → x ≠ dx → AD w h₀ A' (.ref init) (.ref x :: vs) (fun v σ' => v = .none ∧ Q (.ref x) σ') (upd (upd σ dx (.attrs [])) x (.inst C dx))) : AD w h₀ A (.ref C) vs Q σ := fun cs hv R s H q => by
  obtain ⟨hh, g, d, t, os⟩ := s
  have X := G.X.keeps H.base
  refine make_core (makes_of X hm) (looks_findIn X hi) (fun self => bind_fn X self hf) (.inl rfl) ?_
  have H1 := H.push (x := .attrs []) (o := emptyDict) ⟨[], 0, rfl, trivial⟩ rfl
  have H2 := H1.push (x := .inst C hh.objs.size) (o := instObj C hh.objs.size) rfl rfl
  have f1 := H.fresh
  have f2 := H1.fresh
  rw [Heap.size_push] at H2 f2
  obtain ⟨hne, f3⟩ := none_ne f2
  refine h (hh.objs.size + 1) hh.objs.size _ r.make f1 f3 hne (.ref (hh.objs.size + 1) :: cs) ⟨⟨0, rfl⟩, hv⟩ _ ⟨_, g, d, t, os⟩ H2 fun v t h' tk' σ' H' ⟨e, z⟩ => ?_
  subst e
  exact ⟨rfl, q (.ref (hh.objs.size + 1)) 0 h' tk' σ' H' z⟩
/-- what a scope says of its names -/
noncomputable def envChk (env : Env) (lo gl : List Str) : Bool :=
  env.scope.kind == .function && lo.all (fun x => env.kindOf x == some .local && !(x == ("__debug__" : Str))) && gl.all (fun x => env.kindOf x == some .globalImplicit && !(x == ("__debug__" : Str)) && !(x == ("__name__" : Str)))
theorem EnvOk.of (h : envChk env lo gl = true) (hl : env.locals = L) (hg : env.globals = mainGlobals) (hb : env.builtins = builtinsNs)
    (hc : ∀ p ∈ ce, (env.kindOf p.1 = some .cell ∨ env.kindOf p.1 = some .free) ∧ env.cells.lookup p.1 = some p.2 := by exact fun _ h => nomatch h) : EnvOk env L lo gl ce := by
  unfold envChk at h
  simp only [Bool.and_eq_true, List.all_eq_true, beq_iff_eq, Bool.not_eq_true'] at h
  obtain ⟨⟨h1, h2⟩, h3⟩ := h
  refine ⟨h1, hl, hg, hb, fun x hx => ?_, fun x hx e => ?_, fun x hx => (h2 x hx).1, fun x hx => (h3 x hx).1.1, hc⟩
  · rcases hx with hx | hx
    · exact (h2 x hx).2
    · exact (h3 x hx).1.2
  · have := (h3 x hx).2
    rw [e] at this
    exact absurd this (by decide)
theorem with_env (lo gl : List Str) {b : List Stmt} {Q : Fl → Loc → St → Prop} (hc : envChk env lo gl = true) (hl : env.locals = L) (hg : env.globals = mainGlobals) (hb : env.builtins = builtinsNs)
    (h : ∀ env, EnvOk env L lo gl [] → AXs w h₀ A L env b Q l σ) : AXs w h₀ A L env b Q l σ := h env (.of hc hl hg hb)
theorem ps_nil {Q : List (Int × V) → Loc → St → Prop} (q : Q [] l σ) : APs w h₀ A L env [] [] Q l σ := q
theorem ps_cons {k v : Expr} {ks : List (Option Expr)} {vs : List Expr} {Q : List (Int × V) → Loc → St → Prop} (h : AE w h₀ A L env k (fun kv => AE w h₀ A L env v fun vv => APs w h₀ A L env ks vs fun r l' σ' => ∃ i, kv = .int i ∧ Q ((i, vv) :: r) l' σ') l σ) :
    APs w h₀ A L env (some k :: ks) (v :: vs) Q l σ := h
theorem aas_nil {Q : Loc → St → Prop} (q : Q l σ) : AAs w h₀ A L env [] [] Q l σ := q
theorem aas_cons {e : Expr} {r : List Expr} {v : V} {s : List V} {Q : Loc → St → Prop} (h : AA w h₀ A L env e v (AAs w h₀ A L env r s Q) l σ) : AAs w h₀ A L env (e :: r) (v :: s) Q l σ := h
theorem es_nil {Q : List V → Loc → St → Prop} (q : Q [] l σ) : AEs w h₀ A L env [] Q l σ := q
theorem es_cons {e : Expr} {r : List Expr} {Q : List V → Loc → St → Prop} (h : AE w h₀ A L env e (fun v => AEs w h₀ A L env r fun vs => Q (v :: vs)) l σ) : AEs w h₀ A L env (e :: r) Q l σ := h
theorem AXs.loc {b : List Stmt} {Q : Fl → Loc → St → Prop} {l l' : Loc} (k : locLe l l') (h : AXs w h₀ A L env b Q l σ) : AXs w h₀ A L env b Q l' σ := AW.loc h k
theorem AXs.sub {b : List Stmt} {Q : Fl → Loc → St → Prop} {σ τ : St} (k : Sub σ τ) (h : AXs w h₀ A L env b Q l σ) : AXs w h₀ A L env b Q l τ := AW.sub h k
theorem AX.loc {b : Stmt} {Q : Fl → Loc → St → Prop} {l l' : Loc} (k : locLe l l') (h : AX w h₀ A L env b Q l σ) : AX w h₀ A L env b Q l' σ := AW.loc h k
theorem AT.loc {b : Expr} {Q : Bool → Loc → St → Prop} {l l' : Loc} (k : locLe l l') (h : AT w h₀ A L env b Q l σ) : AT w h₀ A L env b Q l' σ := AW.loc h k
theorem AA.loc {b : Expr} {v : V} {Q : Loc → St → Prop} {l l' : Loc} (k : locLe l l') (h : AA w h₀ A L env b v Q l σ) : AA w h₀ A L env b v Q l' σ := fun t => AW.loc (h t) k
noncomputable def locChk : Loc → List (Str × V) → Prop
  | _, [] => True
  | l, (x, v) :: r => l.lookup x = some v ∧ locChk l r
theorem locLe.of {l' : Loc} : ∀ {l : Loc}, locChk l' l → locLe l l'
  | [], _ => fun x v e => by cases e
  | (y, u) :: r, h => fun x v e => by
    rw [List.lookup_cons] at e
    by_cases q : x = y
    · subst q
      rw [beq_self_eq_true] at e
      cases e
      exact h.1
    · rw [show (x == y) = false from by simpa using q] at e
      exact locLe.of h.2 x v e
theorem locChk.of {l' : Loc} : ∀ {l : Loc}, (l.map (·.1)).Nodup → locLe l l' → locChk l' l
  | [], _, _ => trivial
  | (y, u) :: r, n, h => by
    rw [List.map_cons, List.nodup_cons] at n
    refine ⟨h y u (by rw [List.lookup_cons, beq_self_eq_true]), locChk.of n.2 fun x v e => h x v ?_⟩
    rw [List.lookup_cons]
    have : x ≠ y := by
      rintro rfl
      refine n.1 ?_
      clear h n
      induction r with
      | nil => cases e
      | cons p s ih =>
        obtain ⟨a, b⟩ := p
        rw [List.lookup_cons] at e
        by_cases q : x = a
        · subst q; simp
        · rw [show (x == a) = false from by simpa using q] at e
          exact List.mem_cons_of_mem _ (ih e)
    rw [show (x == y) = false from by simpa using this]
    exact e
theorem locLe.trans {a b c : Loc} (h : locLe a b) (k : locLe b c) : locLe a c := fun x v e => k x v (h x v e)
theorem locLe.cons {a b : Loc} {x : Str} {v : V} (h : locLe a b) (n : a.lookup x = none) : locLe a ((x, v) :: b) := fun y u e => by
  rw [List.lookup_cons]
  have : y ≠ x := by rintro rfl; rw [n] at e; cases e
  rw [show (y == x) = false from by simpa using this]
  exact h y u e
theorem ne_ao {a b : Addr} {x y : AO} (h : σ a = some x) (k : σ b = some y) (n : x ≠ y) : a ≠ b := by rintro rfl; rw [h] at k; cases k; exact n rfl
structure Inf where
  g : Int
  cl : Int
  id : Int
  part : Int
  cnt : Int
noncomputable def infoFs (r : Inf) : Loc := [("code", .int 65), ("glyph", .int r.g), ("cluster", .int r.cl), ("mask", .int 1), ("is_unsafe", .bool false), ("lig_id", .int r.id), ("lig_part", .int r.part), ("lig_count", .int r.cnt), ("split_id", .int 0),
  ("kind", .str ""), ("x_advance", .int 0), ("y_advance", .int 0), ("x_offset", .int 0), ("y_offset", .int 0), ("parent", .int 0), ("bond", .str "")]
noncomputable abbrev Rec := Addr × Addr × Inf
/-- an info stands -/
noncomputable def InfoAt (σ : St) (e : Rec) : Prop := σ e.1 = some (.inst 176 e.2.1) ∧ σ e.2.1 = some (.attrs (infoFs e.2.2))
/-- a row of infos stands -/
structure RowAt (σ : St) (ra : Addr) (rs : List Rec) : Prop where
  lst : σ ra = some (.list (rs.map fun e => V.ref e.1))
  obj : ∀ e ∈ rs, InfoAt σ e
theorem InfoAt.sub {σ τ : St} {e : Rec} (h : InfoAt σ e) (k : Sub σ τ) : InfoAt τ e := ⟨k _ _ h.1, k _ _ h.2⟩
theorem RowAt.sub {σ τ : St} {ra : Addr} {rs : List Rec} (h : RowAt σ ra rs) (k : Sub σ τ) : RowAt τ ra rs := ⟨k _ _ h.lst, fun e he => (h.obj e he).sub k⟩
theorem RowAt.get {σ : St} {ra : Addr} {rs : List Rec} (h : RowAt σ ra rs) {i : Nat} {e : Rec} (he : rs[i]? = some e) : InfoAt σ e ∧ (rs.map fun e => V.ref e.1)[i]? = some (.ref e.1) :=
  ⟨h.obj e (List.mem_of_getElem? he), by rw [List.getElem?_map, he]; rfl⟩
noncomputable abbrev nv (n : Nat) : V := .int n
theorem Room.u {n : Nat} (r : Room A n) : A.units + 100 < cLine := by have := r.un; rw [cLine_is]; omega
theorem Sub.ap {σ τ : St} {a : Addr} {x : AO} (h : Sub σ τ) (e : σ a = some x) : τ a = some x := h a x e
theorem sub_upd {σ : St} {a : Addr} {x : AO} (h : σ a = none) : Sub σ (upd σ a x) := fun b y e => upd_old h e
theorem vl3 {a b c : V} {cs : List Value} (h : VL [a, b, c] cs) : ∃ t u v, cs = [a.to t, b.to u, c.to v] := by
  match cs, h with
  | x :: r, ⟨⟨t, e⟩, h⟩ => obtain ⟨u, v, rfl⟩ := vl2 h; exact ⟨t, u, v, by rw [e]⟩
theorem vl4 {a b c d : V} {cs : List Value} (h : VL [a, b, c, d] cs) : ∃ t u v x, cs = [a.to t, b.to u, c.to v, d.to x] := by
  match cs, h with
  | x :: r, ⟨⟨t, e⟩, h⟩ => obtain ⟨u, v, z, rfl⟩ := vl3 h; exact ⟨t, u, v, z, by rw [e]⟩
theorem vl5 {a b c d e : V} {cs : List Value} (h : VL [a, b, c, d, e] cs) : ∃ t u v x y, cs = [a.to t, b.to u, c.to v, d.to x, e.to y] := by
  match cs, h with
  | x :: r, ⟨⟨t, e⟩, h⟩ => obtain ⟨u, v, z, y, rfl⟩ := vl4 h; exact ⟨t, u, v, z, y, by rw [e]⟩
theorem vl6 {a b c d e f : V} {cs : List Value} (h : VL [a, b, c, d, e, f] cs) : ∃ t u v x y z, cs = [a.to t, b.to u, c.to v, d.to x, e.to y, f.to z] := by
  match cs, h with
  | x :: r, ⟨⟨t, e⟩, h⟩ => obtain ⟨u, v, z, y, q, rfl⟩ := vl5 h; exact ⟨t, u, v, z, y, q, by rw [e]⟩
theorem rm_get {σ : St} {L a : Addr} {l : Loc} {x : AO} (hL : σ L = some (.ns l)) (h : σ a = some x) (n : ∀ l, x ≠ .ns l) : rm σ L a = some x := by
  have : a ≠ L := by rintro rfl; rw [hL] at h; cases h; exact n _ rfl
  unfold rm; rw [if_neg this]; exact h
theorem rm_self (σ : St) (L : Addr) : rm σ L L = none := by unfold rm; rw [if_pos rfl]
theorem rm_sub {σ τ : St} {L : Addr} (h : Sub σ τ) (n : σ L = none) : Sub σ (rm τ L) := fun a x e => by
  have : a ≠ L := by rintro rfl; rw [n] at e; cases e
  unfold rm; rw [if_neg this]; exact h _ _ e
theorem sub_rm {σ : St} {L : Addr} {l : Loc} (h : σ L = some (.ns l)) : Sub (upd (rm σ L) L (.ns l)) σ := fun a x e => by
  by_cases c : a = L
  · subst c; rw [upd_self] at e; rw [h]; exact e
  · rw [upd_ne c] at e; unfold rm at e; rw [if_neg c] at e; exact e
theorem k_new {Q : V → Loc → St → Prop} {f : Value} {vs : List V} {P : V → St → Prop} (h : σ L = none → AF w h₀ A f vs (fun v σ' => Sub (upd σ L (.ns l)) σ' ∧ P v σ') (upd σ L (.ns l)))
    (hP : ∀ v σ', P v σ' → σ' L = some (.ns l) → P v (rm σ' L)) (k : ∀ v σ', Sub σ σ' → σ' L = none → P v σ' → Q v l σ') : AK w h₀ A L f vs Q l σ :=
  k_any h fun off v σ'' ⟨sub, p⟩ => by
    have hL := sub _ _ (upd_self ..)
    refine ⟨rm σ'' L, sub_rm hL, rm_self _ _, k v _ (rm_sub (fun a x e => sub _ _ (upd_old off e)) off) (rm_self _ _) (hP v _ p hL)⟩
/-- an update elsewhere and new things -/
theorem k_upd {Q : V → Loc → St → Prop} {f : Value} {vs : List V} {d : Addr} {x y : AO} {P : V → St → Prop} (hd : σ d = some y) (hy : ∀ l, y ≠ .ns l) (h : σ L = none → AF w h₀ A f vs (fun v σ' => Sub (upd (upd σ L (.ns l)) d x) σ' ∧ P v σ') (upd σ L (.ns l)))
    (hP : ∀ v σ', P v σ' → σ' L = some (.ns l) → P v (rm σ' L)) (k : ∀ v σ', Sub (upd σ d x) σ' → σ' L = none → P v σ' → Q v l σ') : AK w h₀ A L f vs Q l σ :=
  k_any h fun off v σ'' ⟨sub, p⟩ => by
    have hne : d ≠ L := by rintro rfl; rw [off] at hd; cases hd
    rw [upd_comm hne.symm] at sub
    have hL := sub _ _ (upd_self ..)
    refine ⟨rm σ'' L, sub_rm hL, rm_self _ _, k v _ (rm_sub (fun a x e => sub _ _ (upd_old (upd_none hne.symm off) e)) (upd_none hne.symm off)) (rm_self _ _) (hP v _ p hL)⟩
end
end Mine
namespace Mine
section
variable {w : World} {h₀ : Heap} {A : Around} {L : Addr} {l : Loc} {σ τ : St} {env : Env} {lo gl : List Str} {ce : List (Str × Addr)}
noncomputable def updC : St → List (Addr × AO) → St
  | σ, [] => σ
  | σ, (c, x) :: r => updC (upd σ c x) r
theorem Mod.know {h : Heap} (H : Mod h₀ σ h) {c : Addr} {x : AO} (n : h₀.get? c = none) (k : ∃ o, h.get? c = some o ∧ x.is o) : Mod h₀ (upd σ c x) h := by
  refine ⟨H.base, fun b y e => ?_⟩
  by_cases q : b = c
  · subst q; rw [upd_self] at e; cases e; exact ⟨n, k⟩
  · rw [upd_ne q] at e; exact H.obj b y e
theorem Mod.knowAll {h : Heap} : ∀ {cs : List (Addr × AO)} {σ : St}, Mod h₀ σ h → (∀ p ∈ cs, h₀.get? p.1 = none ∧ ∃ o, h.get? p.1 = some o ∧ p.2.is o) → Mod h₀ (updC σ cs) h
  | [], _, H, _ => H
  | (c, x) :: r, _, H, k => Mod.knowAll (cs := r) (H.know (k _ (.head _)).1 (k _ (.head _)).2) fun p hp => k p (.tail _ hp)
theorem updC_off : ∀ {cs : List (Addr × AO)} {σ : St} {a : Addr}, σ a = none → (∀ p ∈ cs, p.1 ≠ a) → updC σ cs a = none
  | [], _, _, h, _ => h
  | (c, x) :: r, _, _, h, k => updC_off (cs := r) (upd_none (k _ (.head _)).symm h) fun p hp => k p (.tail _ hp)
theorem nsIs.of {m : Str → Option Value} : ∀ {l : Loc}, (∀ p ∈ l, ∃ t, m p.1 = some (p.2.to t)) → nsIs l m
  | [], _ => fun x v e => by cases e
  | (y, u) :: r, h => fun x v e => by
    rw [List.lookup_cons] at e
    by_cases q : x = y
    · subst q
      rw [beq_self_eq_true] at e
      cases e
      exact h _ (.head _)
    · rw [show (x == y) = false from by simpa using q] at e
      exact nsIs.of (fun p hp => h p (.tail _ hp)) x v e
/-- what a cell bears at the start -/
noncomputable def cellIs (x : AO) (v : Option Value) : Prop := match x with
  | .cell u => ∃ t, v = some (u.to t)
  | .cell0 => v = none
  | _ => False
theorem cell_is {h : Heap} {c : Addr} {x : AO} {v : Option Value} (H : h.IsCell c v) (k : cellIs x v) : ∃ o, h.get? c = some o ∧ x.is o := by
  obtain ⟨o, ho, hd⟩ := H
  refine ⟨o, ho, ?_⟩
  cases x with
  | cell u => obtain ⟨t, e⟩ := k; exact ⟨t, by rw [hd, e]⟩
  | cell0 => have : v = none := k; rw [this] at hd; exact hd
  | _ => exact k.elim
/-- a def with cells is entered -/
theorem d_callC {n : Nat} (G : Gnd w h₀) (r : Room A (n + 1)) {fa : Addr} {fd : FuncData} {body : List Stmt} {names : List Str} {vs : List V} {Q : V → St → Prop} (l : Loc) (cl : Addr → List (Str × Addr × AO))
    (ho : (K w.params).lookup fa = some ⟨.type "function", none, .func fd, #[]⟩) (hcd : codeIn (K w.params) fd.code fd.qualname = true) (hbody : fd.body = .stmts body) (hb : ∀ cs, VL vs cs → bindArgs fd ⟨cs, []⟩ = pure (names.zip cs)) (hclo : fd.closure = [])
    (hkind : ∀ n, ∀ x ∈ names, fd.scope.names.lookup x = some .local ∨ (fd.scope.names.lookup x = some .cell ∧ ((cellsFrom n fd.scope.names []).lookup x).isSome = true))
    (hl : ∀ L cs, VL vs cs → ∀ p ∈ l, ∃ t, bindL (callEnvC fd L fa).kindOf (names.zip cs) (fun _ => none) p.1 = some (p.2.to t))
    (hc : ∀ L cs, VL vs cs → ∀ p ∈ cl L, (callEnvC fd L fa).cells.lookup p.1 = some p.2.1 ∧ cellIs p.2.2 (bindC (callEnvC fd L fa).kindOf (names.zip cs) (fun _ => none) p.1))
    (hco : fd.scope.isCoroutine = false) (hgen : fd.scope.isGenerator = false) (hk : fd.scope.kind = .function)
    (h : ∀ L A', σ L = none → (∀ p ∈ cl L, σ p.2.1 = none ∧ p.2.1 ≠ L) → Room A' n → AXs w h₀ A' L (callEnvC fd L fa) body (fun f _ σ' => ∃ σ'', Sub σ'' σ' ∧ Q f.val σ'') l (updC σ ((cl L).map (·.2)))) : AD w h₀ A (.ref fa) vs Q σ := fun cs hv R s H q => by
  refine codeAny_call_cells r.depth ((G.X.keeps H.base) _ _ ho) rfl (G.lim.keeps H.base) (codeRec_of (G.X.keeps H.base) hcd) hbody (hb cs hv) hclo (fun x hx => hkind _ x.1 (List.of_mem_zip hx).1) (fun s₁ x => ?_) hco hgen hk
  have hkp := x.toInCall.keep
  have H1 : Mod h₀ σ s₁.heap := H.keeps hkp
  have fr : ∀ p ∈ cl s.heap.objs.size, σ p.2.1 = none ∧ p.2.1 ≠ s.heap.objs.size ∧ h₀.get? p.2.1 = none := fun p hp => by
    have hlt := x.above p.1 p.2.1 (mem_of_lookup (hc s.heap.objs.size cs hv p hp).1)
    have hno : s.heap.get? p.2.1 = none := Heap.get?_none_of_le (Nat.le_of_lt hlt)
    refine ⟨?_, Nat.ne_of_gt hlt, ?_⟩
    · cases e : σ p.2.1 with
      | none => rfl
      | some y => obtain ⟨_, o, ho', _⟩ := H.obj _ _ e; rw [hno] at ho'; cases ho'
    · cases e : h₀.get? p.2.1 with
      | none => rfl
      | some y => have := H.base _ _ e; rw [hno] at this; cases this
  have H2 : Mod h₀ (updC σ ((cl s.heap.objs.size).map (·.2))) s₁.heap := Mod.knowAll H1 fun p hp => by
    obtain ⟨q, hq, rfl⟩ := List.mem_map.mp hp
    obtain ⟨c1, c2⟩ := hc s.heap.objs.size cs hv q hq
    exact ⟨(fr q hq).2.2, cell_is (x.cell _ _ c1) c2⟩
  obtain ⟨h₁, tk₁, e, _⟩ := x.done
  have HL : ModL h₀ s.heap.objs.size l (updC σ ((cl s.heap.objs.size).map (·.2))) s₁.heap := ⟨H2, ⟨_, x.toInCall.ns, nsIs.of (hl _ cs hv)⟩, updC_off H.fresh fun p hp => by
    obtain ⟨q, hq, rfl⟩ := List.mem_map.mp hp
    exact (fr q hq).2.1, H.fresh0⟩
  subst e
  refine AW.use (h s.heap.objs.size _ H.fresh (fun p hp => ⟨(fr p hp).1, (fr p hp).2.1⟩) r.deeper) HL fun f h' tk' l' σ' H' ⟨g, hg, σ'', sub, z⟩ => ?_
  have H'' := H'.mod.sub sub
  cases g with
  | next => cases hg; exact q .none 0 h' tk' σ'' H'' z
  | brk => cases hg; exact q .none 0 h' tk' σ'' H'' z
  | cont => cases hg; exact q .none 0 h' tk' σ'' H'' z
  | ret v => obtain ⟨t, rfl⟩ := hg; exact q v t h' tk' σ'' H'' z
theorem e_cell (O : EnvOk env L lo gl ce) {x : Str} {p : Pos} {c : Addr} {v : V} {Q : V → Loc → St → Prop} (hx : (x, c) ∈ ce) (hσ : σ c = some (.cell v)) (q : Q v l σ) (hd : (x == ("__debug__" : Str)) = false) (hn : (x == ("__classdict__" : Str)) = false) :
    AE w h₀ A L env (.Name x p) Q l σ := fun E s H => by
  obtain ⟨_, o, ho, t, hd'⟩ := H.mod.obj _ _ hσ
  obtain ⟨k, hc⟩ := O.ce _ hx
  rcases k with k | k
  · exact wpAny_Name (wpAny_loadName_cell O.kind k hc ⟨o, ho, hd'⟩ ⟨s.heap, s.toks, _, _, rfl, H, v, t, rfl, q⟩) hd
  · exact wpAny_Name (wpAny_loadName_free O.kind k hc ⟨o, ho, hd'⟩ ⟨s.heap, s.toks, _, _, rfl, H, v, t, rfl, q⟩ hn) hd
theorem st_cell (O : EnvOk env L lo gl ce) {x : Str} {c : Addr} {v : V} {t : Tok} {y : AO} {Q : Loc → St → Prop} (hx : (x, c) ∈ ce) (hk : env.kindOf x = some .cell) (hσ : σ c = some y) (hy : y = .cell0 ∨ ∃ u, y = .cell u) (q : Q l (upd σ c (.cell v))) :
    AW w h₀ A L (storeName env x (v.to t)) (fun _ => Q) l σ := fun E s H => by
  obtain ⟨_, o, ho, hd⟩ := H.mod.obj _ _ hσ
  have hcell : ∃ v0, s.heap.IsCell c v0 := by
    rcases hy with rfl | ⟨u, rfl⟩
    · exact ⟨none, o, ho, hd⟩
    · obtain ⟨t', e⟩ := hd; exact ⟨_, o, ho, e⟩
  obtain ⟨v0, hv⟩ := hcell
  refine wpAny_storeName_cell O.kind hk (O.ce _ hx).2 hv fun h' hv' hs => ?_
  obtain ⟨o', ho', hd'⟩ := hv'
  exact ⟨h', _, _, _, rfl, H.put hσ hs (x := .cell v) ⟨o', ho', t, hd'⟩, q⟩
theorem a_cell (O : EnvOk env L lo gl ce) {x : Str} {p : Pos} {c : Addr} {v : V} {y : AO} {Q : Loc → St → Prop} (hx : (x, c) ∈ ce) (hk : env.kindOf x = some .cell) (hσ : σ c = some y) (hy : y = .cell0 ∨ ∃ u, y = .cell u) (q : Q l (upd σ c (.cell v))) :
    AA w h₀ A L env (.Name x p) v Q l σ := fun t _ _ H =>
  wpAny_assign_Name (AW.use (st_cell (t := t) O hx hk hσ hy q) H fun _ _ _ _ _ H'' q => ⟨_, _, _, _, rfl, H'', q⟩)
theorem x_cell (O : EnvOk env L lo gl ce) {x : Str} {xp p : Pos} {e : Expr} {c : Addr} {Q : Fl → Loc → St → Prop} (hx : (x, c) ∈ ce) (hk : env.kindOf x = some .cell)
    (h : AE w h₀ A L env e (fun v l' σ' => ∃ y, σ' c = some y ∧ (y = .cell0 ∨ ∃ u, y = .cell u) ∧ Q .next l' (upd σ' c (.cell v))) l σ)
    (hs : swapsWith e (some (.Name x xp)) p.line env = pure false) : AX w h₀ A L env (.Assign [.Name x xp] e p) Q l σ := fun _ _ H =>
  wpAny_Assign_Name (h.usev H fun v t h' tk' l' σ' H' ⟨y, h1, h2, q⟩ => AW.use (st_cell (t := t) (Q := fun l' σ' => Q .next l' σ') O hx hk h1 h2 q) H' fun _ _ _ _ _ H'' q => ⟨_, _, _, _, rfl, H'', ⟨.next, rfl, q⟩⟩) hs
theorem lookup_relabel_free {env : Env} : ∀ {names : List (Str × NameKind)} {x : Str}, names.lookup x = some .free →
    (names.map fun (n, k) => if (k == NameKind.free && env.scope.kind == .function && env.kindOf n == some .cell) then (n, NameKind.cell) else (n, k)).lookup x = some .cell ∨
    (names.map fun (n, k) => if (k == NameKind.free && env.scope.kind == .function && env.kindOf n == some .cell) then (n, NameKind.cell) else (n, k)).lookup x = some .free
  | [], _, h => by simp at h
  | (n, k) :: r, x, h => by
    have ih := @lookup_relabel_free env r x
    rw [List.map_cons]
    by_cases hx : x = n
    · subst hx
      rw [List.lookup_cons, beq_self_eq_true] at h
      cases h
      dsimp only
      split
      · left; rw [List.lookup_cons, beq_self_eq_true]
      · right; rw [List.lookup_cons, beq_self_eq_true]
    · have hb : (x == n) = false := by simpa using hx
      rw [List.lookup_cons, hb] at h
      dsimp only
      split
      · rw [List.lookup_cons, hb]; exact ih h
      · rw [List.lookup_cons, hb]; exact ih h
theorem comp_envC {scope : Scope} {cl : List (Str × Addr)} {C : Addr} (O : EnvOk env L lo gl ce) (lo' gl' : List Str) (ce' : List (Str × Addr)) (hc : envChk (compEnvC scope cl C env) lo' gl' = true) (hce : ∀ p ∈ ce', scope.names.lookup p.1 = some .free ∧ cl.lookup p.1 = some p.2) : EnvOk (compEnvC scope cl C env) C lo' gl' ce' :=
  .of hc rfl O.glob O.blt fun p hp => ⟨lookup_relabel_free (hce p hp).1, (hce p hp).2⟩
theorem cellOf_eq (O : EnvOk env L lo gl ce) {x : Str} {c : Addr} (hx : (x, c) ∈ ce) : cellOf env x = pure c := by unfold cellOf; rw [(O.ce _ hx).2]
noncomputable def freeCells (ce : List (Str × Addr)) : List (Str × NameKind) → List (Str × Addr) → List (Str × Addr)
  | [], acc => acc
  | (n, k) :: r, acc => if k == .free then freeCells ce r ((n, (ce.lookup n).getD 0) :: acc) else freeCells ce r acc
theorem closureFor_ce (O : EnvOk env L lo gl ce) {scope : Scope} (h : ∀ x ∈ scope.names, x.2 = .free → (x.1, (ce.lookup x.1).getD 0) ∈ ce) : closureFor scope env = pure (freeCells ce scope.names []) := by
  have key : ∀ (f : Str × NameKind → List (Str × Addr) → Sem (ForInStep (List (Str × Addr)))), (∀ n k r, f (n, k) r = if (k == .free) = true then (do let c ← cellOf env n; pure (ForInStep.yield ((n, c) :: r))) else pure (ForInStep.yield r)) →
      ∀ (names : List (Str × NameKind)) (acc : List (Str × Addr)), (∀ x ∈ names, x.2 = .free → (x.1, (ce.lookup x.1).getD 0) ∈ ce) → forIn names acc f = pure (freeCells ce names acc) := by
    intro f hf names
    induction names with
    | nil => intro acc _; rfl
    | cons x r ih =>
      intro acc hx
      obtain ⟨n, k⟩ := x
      rw [List.forIn_cons, hf]
      unfold freeCells
      by_cases c : (k == NameKind.free) = true
      · rw [if_pos c, if_pos c, cellOf_eq O (hx _ (.head _) (by simpa using c)), pure_bind, pure_bind]
        exact ih _ fun y hy => hx y (.tail _ hy)
      · rw [if_neg c, if_neg c, pure_bind]
        exact ih _ fun y hy => hx y (.tail _ hy)
  unfold closureFor
  dsimp only
  rw [bind_pure]
  exact key _ (fun n k r => rfl) scope.names [] h
theorem lookup_in : ∀ {ce : List (Str × Addr)} {x : Str}, x ∈ ce.map (·.1) → (x, (ce.lookup x).getD 0) ∈ ce
  | (y, c) :: r, x, h => by
    by_cases q : x = y
    · subst q; rw [List.lookup_cons, beq_self_eq_true]; exact .head _
    · rw [List.lookup_cons, show (x == y) = false from by simpa using q]
      rcases List.mem_cons.mp h with e | h
      · exact absurd e q
      · exact .tail _ (lookup_in h)
  | [], _, h => by cases h
theorem closureFor_is (O : EnvOk env L lo gl ce) {scope : Scope} (h : scope.names.all (fun x => x.2 != .free || (ce.map (·.1)).contains x.1) = true) : closureFor scope env = pure (freeCells ce scope.names []) :=
  closureFor_ce O fun x hx hf => by
    rw [List.all_eq_true] at h
    have := h x hx
    rw [hf] at this
    exact lookup_in (by simpa using this)
theorem with_envC (lo gl : List Str) (ce : List (Str × Addr)) {b : List Stmt} {Q : Fl → Loc → St → Prop} (hc : envChk env lo gl = true) (hl : env.locals = L) (hg : env.globals = mainGlobals) (hb : env.builtins = builtinsNs)
    (hce : ∀ p ∈ ce, env.kindOf p.1 = some .cell ∧ env.cells.lookup p.1 = some p.2)
    (h : ∀ env, EnvOk env L lo gl ce → (∀ p ∈ ce, env.kindOf p.1 = some .cell) → AXs w h₀ A L env b Q l σ) : AXs w h₀ A L env b Q l σ :=
  h env (.of hc hl hg hb fun p hp => ⟨.inl (hce p hp).1, (hce p hp).2⟩) fun p hp => (hce p hp).1
end
end Mine
set_option maxHeartbeats 4000000
namespace Mine
local macro_rules | `(tactic| walk_at "st") => `(tactic| first
  | assumption
  | exact upd_self ..
  | exact RowAt.lst (by assumption)
  | (refine upd_old (by assumption) ?_; walk_at "st")
  | (refine (upd_ne ?_).trans ?_; (first | assumption | (exact Ne.symm (by assumption))); walk_at "st"))
local macro_rules | `(tactic| walk_at "loc") => `(tactic| first | rfl | assumption | exact And.left (by assumption))
local macro_rules | `(tactic| walk_at "v") => `(tactic| with_reducible first
  | refine es_nil ?_
  | refine aas_cons ?_
  | refine aas_nil ?_
  | refine ps_cons ?_
  | refine ps_nil ?_
  | refine es_cons ?_
  | refine x_cons ?_
  | refine x_nil ?_
  | refine x_ret ?_
  | refine x_retn ?_
  | refine x_if ?_
  | refine x_expr (by assumption) ?_ (by with_unfolding_all rfl)
  | refine x_assign (by assumption) (by decide +kernel) ?_ (by with_unfolding_all rfl)
  | refine x_attr (by assumption) ?_ (by with_unfolding_all rfl)
  | refine x_item ?_ (by with_unfolding_all rfl)
  | refine x_for ?_ (by intro _; with_unfolding_all rfl)
  | refine a_name (by assumption) (by decide +kernel) ?_
  | refine e_int ?_
  | refine e_str ?_
  | refine e_bool ?_
  | refine e_none ?_
  | refine e_local (by assumption) (by decide +kernel) (by with_unfolding_all rfl) ?_
  | refine e_bin ?_
  | refine e_cmp ?_ (by with_unfolding_all rfl)
  | refine e_and ?_
  | refine e_or ?_
  | refine e_ifexp ?_
  | refine e_sub ?_
  | refine e_attr ?_ (by with_unfolding_all rfl)
  | refine e_meth ?_ (by with_unfolding_all rfl)
  | refine e_tup (by with_unfolding_all rfl) ?_
  | refine e_list (by with_unfolding_all rfl) ?_
  | refine e_dict0 ?_
  | refine e_un ?_
  | refine e_sliceL ?_
  | refine e_sliceU ?_
  | refine e_sliceLU ?_
  | refine t_not ?_
  | refine t_bool ?_
  | refine tn_and ?_
  | refine tn_and0 ?_
  | refine tn_or ?_
  | refine tn_or0 ?_
  | refine t_cmp ?_ (by with_unfolding_all rfl)
  | refine t_cmp2 ?_ (by with_unfolding_all rfl)
  | refine b_add ?_
  | refine b_sub ?_
  | refine b_band ?_
  | refine b_eq ?_
  | refine b_ne ?_
  | refine b_lt ?_
  | refine b_le ?_
  | refine b_gt ?_
  | refine b_ge ?_
  | refine b_eqs ?_
  | refine b_nes ?_
  | refine b_eqb ?_
  | refine b_neb ?_
  | refine t_plain ?_ (by intro _; with_unfolding_all rfl)
  | refine v_bool ?_
  | refine v_int ?_
  | refine u_neg ?_)
theorem cls_Info (P : Params) : ClsOk (K P) 176 := ⟨by kernel_rfl, by kernel_rfl, by kernel_rfl, by kernel_rfl⟩
theorem f_lig_id (P : Params) : Field (K P) 176 "lig_id" := ⟨by kernel_rfl⟩
theorem f_lig_part (P : Params) : Field (K P) 176 "lig_part" := ⟨by kernel_rfl⟩
theorem f_lig_count (P : Params) : Field (K P) 176 "lig_count" := ⟨by kernel_rfl⟩
theorem f_glyph (P : Params) : Field (K P) 176 "glyph" := ⟨by kernel_rfl⟩
theorem f_cluster (P : Params) : Field (K P) 176 "cluster" := ⟨by kernel_rfl⟩
theorem f_mask (P : Params) : Field (K P) 176 "mask" := ⟨by kernel_rfl⟩
theorem f_unsafe (P : Params) : Field (K P) 176 "is_unsafe" := ⟨by kernel_rfl⟩
theorem f_split (P : Params) : Field (K P) 176 "split_id" := ⟨by kernel_rfl⟩
theorem f_kind (P : Params) : Field (K P) 176 "kind" := ⟨by kernel_rfl⟩
theorem l_lig_id (r : Inf) : (infoFs r).lookup ("lig_id" : Str) = some (.int r.id) := by kernel_rfl
theorem l_lig_part (r : Inf) : (infoFs r).lookup ("lig_part" : Str) = some (.int r.part) := by kernel_rfl
theorem l_lig_count (r : Inf) : (infoFs r).lookup ("lig_count" : Str) = some (.int r.cnt) := by kernel_rfl
theorem l_glyph (r : Inf) : (infoFs r).lookup ("glyph" : Str) = some (.int r.g) := by kernel_rfl
theorem l_cluster (r : Inf) : (infoFs r).lookup ("cluster" : Str) = some (.int r.cl) := by kernel_rfl
theorem l_mask (r : Inf) : (infoFs r).lookup ("mask" : Str) = some (.int 1) := by kernel_rfl
theorem l_unsafe (r : Inf) : (infoFs r).lookup ("is_unsafe" : Str) = some (.bool false) := by kernel_rfl
theorem l_kind (r : Inf) : (infoFs r).lookup ("kind" : Str) = some (.str "") := by kernel_rfl
theorem s_lig_id (r : Inf) (v : Int) : setF (infoFs r) ("lig_id" : Str) (.int v) = infoFs { r with id := v } := by kernel_rfl
theorem s_lig_part (r : Inf) (v : Int) : setF (infoFs r) ("lig_part" : Str) (.int v) = infoFs { r with part := v } := by kernel_rfl
theorem s_lig_count (r : Inf) (v : Int) : setF (infoFs r) ("lig_count" : Str) (.int v) = infoFs { r with cnt := v } := by kernel_rfl
theorem s_glyph (r : Inf) (v : Int) : setF (infoFs r) ("glyph" : Str) (.int v) = infoFs { r with g := v } := by kernel_rfl
theorem s_cluster (r : Inf) (v : Int) : setF (infoFs r) ("cluster" : Str) (.int v) = infoFs { r with cl := v } := by kernel_rfl
theorem s_unsafe (r : Inf) : setF (infoFs r) ("is_unsafe" : Str) (.bool false) = infoFs r := by kernel_rfl
theorem s_split (r : Inf) : setF (infoFs r) ("split_id" : Str) (.int 0) = infoFs r := by kernel_rfl
theorem s_mask (r : Inf) : setF (infoFs r) ("mask" : Str) (.int 1) = infoFs r := by kernel_rfl
section
variable {w : World} {h₀ : Heap} {A : Around} {L : Addr} {l : Loc} {σ τ : St} {Q : V → Loc → St → Prop}
section
variable {e : Rec}
theorem g_lig_id (G : Gnd w h₀) (I : InfoAt σ e) (q : Q (.int e.2.2.id) l σ) : AG w h₀ A L "lig_id" (.ref e.1) Q l σ := g_attr G I.1 I.2 (l_lig_id _) (cls_Info _) (f_lig_id _) q
theorem g_lig_part (G : Gnd w h₀) (I : InfoAt σ e) (q : Q (.int e.2.2.part) l σ) : AG w h₀ A L "lig_part" (.ref e.1) Q l σ := g_attr G I.1 I.2 (l_lig_part _) (cls_Info _) (f_lig_part _) q
theorem g_lig_count (G : Gnd w h₀) (I : InfoAt σ e) (q : Q (.int e.2.2.cnt) l σ) : AG w h₀ A L "lig_count" (.ref e.1) Q l σ := g_attr G I.1 I.2 (l_lig_count _) (cls_Info _) (f_lig_count _) q
theorem g_glyph (G : Gnd w h₀) (I : InfoAt σ e) (q : Q (.int e.2.2.g) l σ) : AG w h₀ A L "glyph" (.ref e.1) Q l σ := g_attr G I.1 I.2 (l_glyph _) (cls_Info _) (f_glyph _) q
theorem g_cluster (G : Gnd w h₀) (I : InfoAt σ e) (q : Q (.int e.2.2.cl) l σ) : AG w h₀ A L "cluster" (.ref e.1) Q l σ := g_attr G I.1 I.2 (l_cluster _) (cls_Info _) (f_cluster _) q
theorem g_mask (G : Gnd w h₀) (I : InfoAt σ e) (q : Q (.int 1) l σ) : AG w h₀ A L "mask" (.ref e.1) Q l σ := g_attr G I.1 I.2 (l_mask _) (cls_Info _) (f_mask _) q
theorem g_unsafe (G : Gnd w h₀) (I : InfoAt σ e) (q : Q (.bool false) l σ) : AG w h₀ A L "is_unsafe" (.ref e.1) Q l σ := g_attr G I.1 I.2 (l_unsafe _) (cls_Info _) (f_unsafe _) q
theorem g_kind (G : Gnd w h₀) (I : InfoAt σ e) (q : Q (.str "") l σ) : AG w h₀ A L "kind" (.ref e.1) Q l σ := g_attr G I.1 I.2 (l_kind _) (cls_Info _) (f_kind _) q
end
noncomputable def piece (i : Inf) : Bool := i.id != 0 && i.part != 0
theorem ad_is_piece (G : Gnd w h₀) (r : Room A 1) {e : Rec} (I : InfoAt σ e) :
    AD w h₀ A (.ref 138) [.ref e.1] (fun v σ' => v = .bool (piece e.2.2) ∧ σ' = σ) σ := by
  refine d_call (fd := F138) (names := ["info"]) (n := 0) G r (by kernel_rfl) (by kernel_rfl) (by rfl) (fun cs hv => ?_) (by decide +kernel) (by decide +kernel) (by decide +kernel) (by rfl) (by rfl) (by rfl) fun L A' hL r' => ?_
  · obtain ⟨t0, rfl⟩ := vl1 hv
    kernel_rfl
  with_reducible refine with_env ["info"] [] (by kernel_rfl) (by kernel_rfl) (by kernel_rfl) (by kernel_rfl) fun env O => ?_
  refine x_cons ?_
  walk_at "v"; walk_at "v"; walk_at "v"; walk_at "v"; walk_at "v"
  with_reducible refine g_lig_id G I ?_
  walk_at "v"; walk_at "v"; walk_at "v"
  with_reducible refine ⟨fun hb => ?_, fun hb => ?_⟩
  · walk_at "v"; walk_at "v"; walk_at "v"
    with_reducible refine g_lig_part G I ?_
    walk_at "v"; walk_at "v"
    exact ⟨_, Sub.refl _, by unfold piece Fl.val; rw [hb]; rfl, rfl⟩
  · exact ⟨_, Sub.refl _, by unfold piece Fl.val; rw [hb]; rfl, rfl⟩
end
theorem gl_bases (P : Params) : nsIn (K P) mainGlobals ("IGNORE_BASES" : Str) = some (some ((V.int 2).to 196)) := by kernel_rfl
theorem gl_ligs (P : Params) : nsIn (K P) mainGlobals ("IGNORE_LIGATURES" : Str) = some (some ((V.int 4).to 198)) := by kernel_rfl
theorem gl_marks (P : Params) : nsIn (K P) mainGlobals ("IGNORE_MARKS" : Str) = some (some ((V.int 8).to 200)) := by kernel_rfl
section
variable {w : World} {h₀ : Heap} {A : Around} {L : Addr} {l : Loc} {σ τ : St} {Q : V → Loc → St → Prop}
noncomputable def bit (n : Int) : Int := if n = 1 then 2 else if n = 2 then 4 else if n = 3 then 8 else 0
theorem bit_is (n : Int) : (([(1, V.int 2), (2, V.int 4), (3, V.int 8)] : List (Int × V)).lookup n).getD (V.int 0) = .int (bit n) := by
  unfold bit
  rw [List.lookup_cons, List.lookup_cons, List.lookup_cons]
  by_cases h1 : n = 1
  · subst h1; rfl
  by_cases h2 : n = 2
  · subst h2; rfl
  by_cases h3 : n = 3
  · subst h3; rfl
  rw [show (n == 1) = false from by simpa using h1, show (n == 2) = false from by simpa using h2, show (n == 3) = false from by simpa using h3, if_neg h1, if_neg h2, if_neg h3]
  rfl
theorem ad_class_bit (G : Gnd w h₀) (r : Room A 1) {n : Int} : AD w h₀ A (.ref 83) [.int n] (fun v σ' => v = .int (bit n) ∧ σ' = σ) σ := by
  refine d_call (fd := F83) (names := ["number"]) (n := 0) G r (by kernel_rfl) (by kernel_rfl) (by rfl) (fun cs hv => ?_) (by decide +kernel) (by decide +kernel) (by decide +kernel) (by rfl) (by rfl) (by rfl) fun L A' hL r' => ?_
  · obtain ⟨t0, rfl⟩ := vl1 hv
    kernel_rfl
  with_reducible refine with_env ["number"] ["IGNORE_BASES", "IGNORE_LIGATURES", "IGNORE_MARKS"] (by kernel_rfl) (by kernel_rfl) (by kernel_rfl) (by kernel_rfl) fun env O => ?_
  refine x_cons ?_
  repeat walk_at "v"
  with_reducible refine e_dict (by with_unfolding_all rfl) (by with_unfolding_all rfl) (by simp) (by decide) fun d hd hdL => ?_
  repeat walk_at "v"
  with_reducible refine e_glob G O (by decide +kernel) (gl_bases _) ?_
  repeat walk_at "v"
  with_reducible refine e_glob G O (by decide +kernel) (gl_ligs _) ?_
  repeat walk_at "v"
  with_reducible refine e_glob G O (by decide +kernel) (gl_marks _) ?_
  repeat walk_at "v"
  with_reducible refine ⟨_, rfl, _, rfl, _, rfl, by decide, σ, Sub.refl _, hd, fun t => m_dget (upd_self ..) ?_ t⟩
  with_reducible refine cw_B (by with_unfolding_all rfl) ?_
  repeat walk_at "v"
  with_reducible refine c_dget G (upd_self ..) ?_
  rw [bit_is]
  exact ⟨σ, sub_upd hd, rfl, rfl⟩
structure Sc where
  (sc scx bu bux gd gdx ls lk lkx cd cdx cdd ad st sets pt ct ra tb tab tabx tabd t22 t2 p7 p6 lst : Addr)
noncomputable def scFs (S : Sc) : Loc := [("buffer", .ref S.bu), ("gdef", .ref S.gd), ("lookups", .ref S.ls), ("lookup", .ref S.lk), ("mask", .int 1), ("depth", .int 0), ("steps", .ref S.st)]
noncomputable def gdFs (S : Sc) : Loc := [("classes", .ref S.cd), ("attach", .ref S.ad), ("sets", .ref S.sets), ("points", .ref S.pt), ("carets", .ref S.ct)]
noncomputable def lkFs (S : Sc) : Loc := [("kind", .str "ligature"), ("flag", .int 8), ("mark_set", .int 0), ("tables", .ref S.tb)]
noncomputable def cdFs (S : Sc) : Loc := [("classes", .ref S.cdd)]
noncomputable def tabFs (S : Sc) : Loc := [("sets", .ref S.tabd)]
structure ScAt (σ : St) (S : Sc) : Prop where
  h_sc : σ S.sc = some (.inst 65 S.scx)
  h_scx : σ S.scx = some (.attrs (scFs S))
  h_gd : σ S.gd = some (.inst 341 S.gdx)
  h_gdx : σ S.gdx = some (.attrs (gdFs S))
  h_lk : σ S.lk = some (.inst 43 S.lkx)
  h_lkx : σ S.lkx = some (.attrs (lkFs S))
  h_cd : σ S.cd = some (.inst 293 S.cdx)
  h_cdx : σ S.cdx = some (.attrs (cdFs S))
  h_tab : σ S.tab = some (.inst 379 S.tabx)
  h_tabx : σ S.tabx = some (.attrs (tabFs S))
  h_bu : σ S.bu = some (.inst 227 S.bux)
  h_cdd : σ S.cdd = some (.idict [(1, .int 1), (2, .int 1), (5, .int 1), (9, .int 3)])
  h_tabd : σ S.tabd = some (.idict [(1, .ref S.lst)])
  h_lst : σ S.lst = some (.list [.ref S.p7, .ref S.p6])
  h_p7 : σ S.p7 = some (.tup [.ref S.t22, .int 7])
  h_p6 : σ S.p6 = some (.tup [.ref S.t2, .int 6])
  h_t22 : σ S.t22 = some (.tup [.int 2, .int 2])
  h_t2 : σ S.t2 = some (.tup [.int 2])
theorem ScAt.sub {σ τ : St} {S : Sc} (h : ScAt σ S) (k : Sub σ τ) : ScAt τ S := ⟨k _ _ h.h_sc, k _ _ h.h_scx, k _ _ h.h_gd, k _ _ h.h_gdx, k _ _ h.h_lk, k _ _ h.h_lkx, k _ _ h.h_cd, k _ _ h.h_cdx, k _ _ h.h_tab, k _ _ h.h_tabx, k _ _ h.h_bu, k _ _ h.h_cdd, k _ _ h.h_tabd, k _ _ h.h_lst, k _ _ h.h_p7, k _ _ h.h_p6, k _ _ h.h_t22, k _ _ h.h_t2⟩
theorem cls_Scene (P : Params) : ClsOk (K P) 65 := ⟨by kernel_rfl, by kernel_rfl, by kernel_rfl, by kernel_rfl⟩
theorem g_sc_buffer {S : Sc} (G : Gnd w h₀) (I : ScAt σ S) (q : Q (.ref S.bu) l σ) : AG w h₀ A L "buffer" (.ref S.sc) Q l σ := g_attr G I.h_sc I.h_scx (by kernel_rfl) (cls_Scene _) ⟨by kernel_rfl⟩ q
theorem g_sc_gdef {S : Sc} (G : Gnd w h₀) (I : ScAt σ S) (q : Q (.ref S.gd) l σ) : AG w h₀ A L "gdef" (.ref S.sc) Q l σ := g_attr G I.h_sc I.h_scx (by kernel_rfl) (cls_Scene _) ⟨by kernel_rfl⟩ q
theorem g_sc_lookup {S : Sc} (G : Gnd w h₀) (I : ScAt σ S) (q : Q (.ref S.lk) l σ) : AG w h₀ A L "lookup" (.ref S.sc) Q l σ := g_attr G I.h_sc I.h_scx (by kernel_rfl) (cls_Scene _) ⟨by kernel_rfl⟩ q
theorem g_sc_mask {S : Sc} (G : Gnd w h₀) (I : ScAt σ S) (q : Q (.int 1) l σ) : AG w h₀ A L "mask" (.ref S.sc) Q l σ := g_attr G I.h_sc I.h_scx (by kernel_rfl) (cls_Scene _) ⟨by kernel_rfl⟩ q
theorem cls_Gdef (P : Params) : ClsOk (K P) 341 := ⟨by kernel_rfl, by kernel_rfl, by kernel_rfl, by kernel_rfl⟩
theorem g_gd_classes {S : Sc} (G : Gnd w h₀) (I : ScAt σ S) (q : Q (.ref S.cd) l σ) : AG w h₀ A L "classes" (.ref S.gd) Q l σ := g_attr G I.h_gd I.h_gdx (by kernel_rfl) (cls_Gdef _) ⟨by kernel_rfl⟩ q
theorem cls_Lookup (P : Params) : ClsOk (K P) 43 := ⟨by kernel_rfl, by kernel_rfl, by kernel_rfl, by kernel_rfl⟩
theorem g_lk_flag {S : Sc} (G : Gnd w h₀) (I : ScAt σ S) (q : Q (.int 8) l σ) : AG w h₀ A L "flag" (.ref S.lk) Q l σ := g_attr G I.h_lk I.h_lkx (by kernel_rfl) (cls_Lookup _) ⟨by kernel_rfl⟩ q
theorem cls_ClassDef (P : Params) : ClsOk (K P) 293 := ⟨by kernel_rfl, by kernel_rfl, by kernel_rfl, by kernel_rfl⟩
theorem g_cd_classes {S : Sc} (G : Gnd w h₀) (I : ScAt σ S) (q : Q (.ref S.cdd) l σ) : AG w h₀ A L "classes" (.ref S.cd) Q l σ := g_attr G I.h_cd I.h_cdx (by kernel_rfl) (cls_ClassDef _) ⟨by kernel_rfl⟩ q
theorem cls_Ligature (P : Params) : ClsOk (K P) 379 := ⟨by kernel_rfl, by kernel_rfl, by kernel_rfl, by kernel_rfl⟩
theorem g_tab_sets {S : Sc} (G : Gnd w h₀) (I : ScAt σ S) (q : Q (.ref S.tabd) l σ) : AG w h₀ A L "sets" (.ref S.tab) Q l σ := g_attr G I.h_tab I.h_tabx (by kernel_rfl) (cls_Ligature _) ⟨by kernel_rfl⟩ q
noncomputable def bufFs (S : Sc) (k : Int) : Loc := [("row", .ref S.ra), ("is_backward", .bool false), ("last_lig", .int k), ("last_split", .int 0)]
theorem cls_Buffer (P : Params) : ClsOk (K P) 227 := ⟨by kernel_rfl, by kernel_rfl, by kernel_rfl, by kernel_rfl⟩
theorem g_bu_row {S : Sc} {k : Int} (G : Gnd w h₀) (I : ScAt σ S) (hb : σ S.bux = some (.attrs (bufFs S k))) (q : Q (.ref S.ra) l σ) : AG w h₀ A L "row" (.ref S.bu) Q l σ := g_attr G I.h_bu hb (by kernel_rfl) (cls_Buffer _) ⟨by kernel_rfl⟩ q
theorem g_bu_last {S : Sc} {k : Int} (G : Gnd w h₀) (I : ScAt σ S) (hb : σ S.bux = some (.attrs (bufFs S k))) (q : Q (.int k) l σ) : AG w h₀ A L "last_lig" (.ref S.bu) Q l σ := g_attr G I.h_bu hb (by kernel_rfl) (cls_Buffer _) ⟨by kernel_rfl⟩ q
noncomputable def cls (g : Int) : Int := if g = 1 then 1 else if g = 2 then 1 else if g = 5 then 1 else if g = 9 then 3 else 0
theorem cls_is (n : Int) : (([(1, V.int 1), (2, V.int 1), (5, V.int 1), (9, V.int 3)] : List (Int × V)).lookup n).getD (V.int 0) = .int (cls n) := by
  unfold cls
  rw [List.lookup_cons, List.lookup_cons, List.lookup_cons, List.lookup_cons]
  by_cases h1 : n = 1
  · subst h1; rfl
  by_cases h2 : n = 2
  · subst h2; rfl
  by_cases h3 : n = 5
  · subst h3; rfl
  by_cases h4 : n = 9
  · subst h4; rfl
  rw [show (n == 1) = false from by simpa using h1, show (n == 2) = false from by simpa using h2, show (n == 5) = false from by simpa using h3, show (n == 9) = false from by simpa using h4, if_neg h1, if_neg h2, if_neg h3, if_neg h4]
  rfl
theorem ad_class_of (G : Gnd w h₀) (r : Room A 1) {S : Sc} (I : ScAt σ S) {g : Int} : AD w h₀ A (.ref 271) [.ref S.cd, .int g] (fun v σ' => v = .int (cls g) ∧ σ' = σ) σ := by
  refine d_call (fd := F271) (names := ["self", "glyph"]) (n := 0) G r (by kernel_rfl) (by kernel_rfl) (by rfl) (fun cs hv => ?_) (by decide +kernel) (by decide +kernel) (by decide +kernel) (by rfl) (by rfl) (by rfl) fun L A' hL r' => ?_
  · obtain ⟨t0, t1, rfl⟩ := vl2 hv
    kernel_rfl
  with_reducible refine with_env ["self", "glyph"] [] (by kernel_rfl) (by kernel_rfl) (by kernel_rfl) (by kernel_rfl) fun env O => ?_
  refine x_cons ?_
  repeat walk_at "v"
  with_reducible refine g_cd_classes G I fun t => m_dget I.h_cdd ?_ t
  with_reducible refine cw_B (by with_unfolding_all rfl) ?_
  repeat walk_at "v"
  with_reducible refine c_dget G I.h_cdd ?_
  rw [cls_is]
  exact ⟨σ, Sub.refl _, rfl, rfl⟩
theorem gl_base (P : Params) : nsIn (K P) mainGlobals ("BASE_gdef" : Str) = some (some ((V.int 1).to 608)) := by kernel_rfl
theorem gl_comp (P : Params) : nsIn (K P) mainGlobals ("COMPONENT" : Str) = some (some ((V.int 4).to 610)) := by kernel_rfl
theorem gl_nocls (P : Params) : nsIn (K P) mainGlobals ("NO_CLASS" : Str) = some (some ((V.int 0).to 606)) := by kernel_rfl
theorem gl_basel (P : Params) : nsIn (K P) mainGlobals ("BASE_ligature" : Str) = some (some ((V.int 1).to 683)) := by kernel_rfl
theorem gl_mark (P : Params) : nsIn (K P) mainGlobals ("MARK" : Str) = some (some ((V.int 3).to 685)) := by kernel_rfl
theorem gl_kinds (P : Params) : nsIn (K P) mainGlobals ("KINDS_IN_INPUT" : Str) = some (some ((V.ref 98).to 0)) := by kernel_rfl
theorem kf_of {f : Value} {a : Addr} {vs : List V} (h : AK w h₀ A L f (.ref a :: vs) Q l σ) : AKf w h₀ A L f [.ref a] vs Q l σ := fun cs hv => h (.ref a :: cs) ⟨⟨0, rfl⟩, hv⟩
theorem s_listN {o i : Expr} {a : Addr} {vs : List V} {k : Nat} {v : V} (ha : σ a = some (.list vs)) (hk : k < 1000) (hv : vs[k]? = some v) (q : Q v l σ)
    (hs : ∀ t, subscripted i false (.ref a) (.int k t) = operate [.ref a, .int k t] (getItem (.ref a) (.int k t)) := by intro _; with_unfolding_all rfl) : AB w h₀ A L (subscriptTail o i) (.ref a) (.int k) Q l σ :=
  s_list ha (by omega) (by omega) (by simpa using hv) q hs
/-- a call that leaves the state -/
theorem k_ret {f : Value} {vs : List V} {r : V} (h : ∀ τ, Sub σ τ → AD w h₀ A f vs (fun v σ' => v = r ∧ σ' = τ) τ) (q : Q r l σ) : AK w h₀ A L f vs Q l σ :=
  k_still (R := fun v => v = r) (fun off => (h _ (sub_upd off)).af) fun v e => e ▸ q
end
section
variable {w : World} {h₀ : Heap} {A : Around} {L : Addr} {l : Loc} {σ τ : St} {Q : V → Loc → St → Prop}
theorem cls_range (g : Int) : 0 ≤ cls g ∧ cls g ≤ 3 := by
  unfold cls; split <;> (try split) <;> (try split) <;> (try split) <;> decide
theorem ad_glyph_class (G : Gnd w h₀) (r : Room A 2) {S : Sc} (I : ScAt σ S) {g : Int} : AD w h₀ A (.ref 319) [.ref S.gd, .int g] (fun v σ' => v = .int (cls g) ∧ σ' = σ) σ := by
  refine d_call (fd := F319) (names := ["self", "glyph"]) (n := 1) G r (by kernel_rfl) (by kernel_rfl) (by rfl) (fun cs hv => ?_) (by decide +kernel) (by decide +kernel) (by decide +kernel) (by rfl) (by rfl) (by rfl) fun L A' hL r' => ?_
  · obtain ⟨t0, t1, rfl⟩ := vl2 hv
    kernel_rfl
  with_reducible refine with_env ["self", "glyph", "number"] ["BASE_gdef", "COMPONENT", "NO_CLASS"] (by kernel_rfl) (by kernel_rfl) (by kernel_rfl) (by kernel_rfl) fun env O => ?_
  refine x_cons ?_
  repeat walk_at "v"
  with_reducible refine g_gd_classes G I fun t => m_inst (f := 271) G I.h_cd I.h_cdx (cls_ClassDef _) (by kernel_rfl) (by kernel_rfl) (by kernel_rfl) ?_ t
  with_reducible refine cw_K G (by kernel_rfl) (by with_unfolding_all rfl) ?_
  repeat walk_at "v"
  with_reducible refine kf_of (k_ret (fun τ k => ad_class_of G r' (I.sub k)) ?_)
  repeat walk_at "v"
  with_reducible refine e_glob G O (by decide +kernel) (gl_base _) ?_
  repeat walk_at "v"
  with_reducible refine ⟨fun hb => ?_, fun hb => ?_⟩
  · with_reducible refine e_glob G O (by decide +kernel) (gl_comp _) ?_
    repeat walk_at "v"
    with_reducible refine ⟨fun hc => ?_, fun hc => ?_⟩
    · repeat walk_at "v"
      exact ⟨σ, Sub.refl _, rfl, rfl⟩
    · exfalso
      have := cls_range g
      rw [decide_eq_false_iff_not] at hc
      omega
  · with_reducible refine ⟨fun hc => (nomatch hc), fun _ => ?_⟩
    with_reducible refine e_glob G O (by decide +kernel) (gl_nocls _) ?_
    refine  ⟨σ, Sub.refl _, ?_, rfl⟩
    have := cls_range g
    rw [decide_eq_false_iff_not] at hb
    have : cls g = 0 := by omega
    rw [this]
    rfl
theorem ign (g : Int) : (Builtin.bitAnd 8 (bit (cls g)) != 0) = (g == 9) := by
  by_cases h : g = 9
  · subst h; decide +kernel
  · rw [show (g == 9) = false from by simpa using h]
    have : cls g = 1 ∨ cls g = 0 := by unfold cls; simp only [h, if_false]; split <;> (try split) <;> (try split) <;> simp
    rcases this with e | e <;> rw [e] <;> decide +kernel
theorem cls3 (g : Int) : (cls g != 3) = !(g == 9) := by
  by_cases h : g = 9
  · subst h; decide +kernel
  · rw [show (g == 9) = false from by simpa using h]
    have : cls g = 1 ∨ cls g = 0 := by unfold cls; simp only [h, if_false]; split <;> (try split) <;> (try split) <;> simp
    rcases this with e | e <;> rw [e] <;> decide
theorem ad_is_ignored (G : Gnd w h₀) (r : Room A 3) {S : Sc} (I : ScAt σ S) {g : Int} : AD w h₀ A (.ref 90) [.ref S.gd, .ref S.lk, .int g] (fun v σ' => v = .bool (g == 9) ∧ σ' = σ) σ := by
  refine d_call (fd := F90) (names := ["gdef", "lookup", "glyph"]) (n := 2) G r (by kernel_rfl) (by kernel_rfl) (by rfl) (fun cs hv => ?_) (by decide +kernel) (by decide +kernel) (by decide +kernel) (by rfl) (by rfl) (by rfl) fun L A' hL r' => ?_
  · obtain ⟨t0, t1, t2, rfl⟩ := vl3 hv
    kernel_rfl
  with_reducible refine with_env ["gdef", "lookup", "glyph", "number"] ["class_bit"] (by kernel_rfl) (by kernel_rfl) (by kernel_rfl) (by kernel_rfl) fun env O => ?_
  refine x_cons ?_
  repeat walk_at "v"
  intro t
  with_reducible refine m_inst (f := 319) G I.h_gd I.h_gdx (cls_Gdef _) (by kernel_rfl) (by kernel_rfl) (by kernel_rfl) ?_ t
  with_reducible refine cw_K G (by kernel_rfl) (by with_unfolding_all rfl) ?_
  repeat walk_at "v"
  with_reducible refine kf_of (k_ret (fun τ k => ad_glyph_class G r' (I.sub k)) ?_)
  repeat walk_at "v"
  with_reducible refine g_lk_flag G I ?_
  repeat walk_at "v"
  with_reducible refine e_call (fa := 83) G O (by decide +kernel) (by kernel_rfl) (by kernel_rfl) (by with_unfolding_all rfl) ?_
  repeat walk_at "v"
  with_reducible refine k_ret (fun τ k => ad_class_bit G (r'.less (by omega))) ?_
  repeat walk_at "v"
  rw [ign]
  with_reducible refine ⟨fun hb => ?_, fun hb => ?_⟩
  · repeat walk_at "v"
    exact ⟨σ, Sub.refl _, by rw [hb]; rfl, rfl⟩
  · repeat walk_at "v"
    rw [cls3, hb]
    with_reducible refine ⟨fun hc => ?_, fun hc => (nomatch hc)⟩
    repeat walk_at "v"
    exact ⟨σ, Sub.refl _, rfl, rfl⟩
theorem ad_passes (G : Gnd w h₀) (r : Room A 4) {S : Sc} (I : ScAt σ S) {k : Int} (hb : σ S.bux = some (.attrs (bufFs S k))) {rs : List Rec} (R : RowAt σ S.ra rs) {i : Nat} {e : Rec} (he : rs[i]? = some e) (hi : i < 1000) :
    AD w h₀ A (.ref 97) [.ref S.sc, .int i] (fun v σ' => v = .bool (e.2.2.g == 9) ∧ σ' = σ) σ := by
  refine d_call (fd := F97) (names := ["scene", "at"]) (n := 3) G r (by kernel_rfl) (by kernel_rfl) (by rfl) (fun cs hv => ?_) (by decide +kernel) (by decide +kernel) (by decide +kernel) (by rfl) (by rfl) (by rfl) fun L A' hL r' => ?_
  · obtain ⟨t0, t1, rfl⟩ := vl2 hv
    kernel_rfl
  with_reducible refine with_env ["scene", "at"] ["is_ignored"] (by kernel_rfl) (by kernel_rfl) (by kernel_rfl) (by kernel_rfl) fun env O => ?_
  refine x_cons ?_
  repeat walk_at "v"
  with_reducible refine e_call (fa := 90) G O (by decide +kernel) (by kernel_rfl) (by kernel_rfl) (by with_unfolding_all rfl) ?_
  repeat walk_at "v"
  with_reducible refine g_sc_gdef G I ?_
  repeat walk_at "v"
  with_reducible refine g_sc_lookup G I ?_
  repeat walk_at "v"
  with_reducible refine g_sc_buffer G I ?_
  with_reducible refine g_bu_row G I hb ?_
  repeat walk_at "v"
  with_reducible refine s_listN R.lst hi (R.get he).2 ?_ (by intro _; with_unfolding_all rfl)
  with_reducible refine g_glyph G (R.get he).1 ?_
  repeat walk_at "v"
  with_reducible refine k_ret (fun τ k => ad_is_ignored G r' (I.sub k)) ?_
  exact ⟨σ, Sub.refl _, rfl, rfl⟩
theorem ad_fits (G : Gnd w h₀) (r : Room A 1) {a : Addr} {t g : Int} (ha : σ a = some (.tup [.str "glyph", .int t])) : AD w h₀ A (.ref 110) [.ref a, .int g] (fun v σ' => v = .bool (t == g) ∧ σ' = σ) σ := by
  refine d_call (fd := F110) (names := ["test", "glyph"]) (n := 0) G r (by kernel_rfl) (by kernel_rfl) (by rfl) (fun cs hv => ?_) (by decide +kernel) (by decide +kernel) (by decide +kernel) (by rfl) (by rfl) (by rfl) fun L A' hL r' => ?_
  · obtain ⟨t0, t1, rfl⟩ := vl2 hv
    kernel_rfl
  with_reducible refine with_env ["test", "glyph"] [] (by kernel_rfl) (by kernel_rfl) (by kernel_rfl) (by kernel_rfl) fun env O => ?_
  refine x_cons ?_
  repeat walk_at "v"
  with_reducible refine s_tup ha (by decide) (by decide) (by with_unfolding_all rfl) (by with_unfolding_all rfl) ?_ (by intro _; with_unfolding_all rfl)
  repeat walk_at "v"
  with_reducible refine ⟨fun _ => ?_, fun hc => absurd hc (by decide +kernel)⟩
  repeat walk_at "v"
  with_reducible refine s_tup ha (by decide) (by decide) (by with_unfolding_all rfl) (by with_unfolding_all rfl) ?_ (by intro _; with_unfolding_all rfl)
  repeat walk_at "v"
  exact ⟨σ, Sub.refl _, rfl, rfl⟩
theorem ad_is_borne (G : Gnd w h₀) (r : Room A 1) {S : Sc} (I : ScAt σ S) {e : Rec} (H : InfoAt σ e) : AD w h₀ A (.ref 117) [.ref S.sc, .ref e.1] (fun v σ' => v = .bool true ∧ σ' = σ) σ := by
  refine d_call (fd := F117) (names := ["scene", "info"]) (n := 0) G r (by kernel_rfl) (by kernel_rfl) (by rfl) (fun cs hv => ?_) (by decide +kernel) (by decide +kernel) (by decide +kernel) (by rfl) (by rfl) (by rfl) fun L A' hL r' => ?_
  · obtain ⟨t0, t1, rfl⟩ := vl2 hv
    kernel_rfl
  with_reducible refine with_env ["scene", "info"] [] (by kernel_rfl) (by kernel_rfl) (by kernel_rfl) (by kernel_rfl) fun env O => ?_
  refine x_cons ?_
  repeat walk_at "v"
  with_reducible refine g_mask G H ?_
  repeat walk_at "v"
  with_reducible refine g_sc_mask G I ?_
  repeat walk_at "v"
  exact ⟨σ, Sub.refl _, rfl, rfl⟩
end
section
variable {w : World} {h₀ : Heap} {A : Around} {L : Addr} {l : Loc} {σ τ : St} {Q : V → Loc → St → Prop}
theorem gl98 (P : Params) : ∃ t u n, (K P).lookup 98 = some ⟨.type "tuple", none, .seq #[.str "zwj" t, .str "hidden" u] n, #[]⟩ := ⟨321, 322, 0, by kernel_rfl⟩
theorem b_notin_kinds (G : Gnd w h₀) (q : Q (.bool true) l σ) : AB w h₀ A L (compareOp .NotIn) (.str "") (.ref 98) Q l σ := fun t u E s H => by
  obtain ⟨t1, u1, n, e⟩ := gl98 w.params
  have := (G.X.keeps H.mod.base) _ _ e
  refine   notin_tuple_strs (items := #[.str "zwj" t1, .str "hidden" u1]) (ys := ["zwj", "hidden"]) ⟨_, this, rfl, n, rfl⟩ (.cons _ _ (.cons _ _ .nil)) ⟨s.heap, s.toks, _, _, rfl, H, .bool _, 0, rfl, q⟩
noncomputable def fnd (t : Int) : List Inf → Nat → Int
  | [], _ => -1
  | x :: r, i => if x.g = 9 then fnd t r (i + 1) else if x.g = t then (i : Int) else -1
theorem boot_len : bootBuiltins "len" = some (.builtin "len") := by decide +kernel
theorem RowAt.len {σ : St} {ra : Addr} {rs : List Rec} (h : RowAt σ ra rs) : σ ra = some (.list (rs.map fun e => V.ref e.1)) := h.lst
noncomputable def infs (rs : List Rec) : List Inf := rs.map fun e => e.2.2
theorem infs_drop {rs : List Rec} {i : Nat} {e : Rec} (he : rs[i]? = some e) : (infs rs).drop i = e.2.2 :: (infs rs).drop (i + 1) := by
  obtain ⟨h, e'⟩ := List.getElem?_eq_some_iff.mp he
  unfold infs
  rw [List.drop_eq_getElem_cons (by rw [List.length_map]; exact h), List.getElem_map, e']
theorem ad_found_at (G : Gnd w h₀) (r : Room A 5) {S : Sc} (I : ScAt σ S) {k : Int} (hb : σ S.bux = some (.attrs (bufFs S k))) {rs : List Rec} (R : RowAt σ S.ra rs) (hz : rs.length ≤ 900) {a : Nat} (ha : a < rs.length) {tst : Addr} {t : Int} (ht : σ tst = some (.tup [.str "glyph", .int t])) :
    AD w h₀ A (.ref 124) [.ref S.sc, .int a, .int 1, .ref tst, .ref 98, .bool true] (fun v σ' => v = .int (fnd t ((infs rs).drop (a + 1)) (a + 1)) ∧ σ' = σ) σ := by
  generalize hT : fnd t ((infs rs).drop (a + 1)) (a + 1) = T
  refine d_call (fd := F124) (names := ["scene", "at", "step", "test", "kinds", "is_input"]) (n := 4) G r (by kernel_rfl) (by kernel_rfl) (by rfl) (fun cs hv => ?_) (by decide +kernel) (by decide +kernel) (by decide +kernel) (by rfl) (by rfl) (by rfl) fun L A' hL r' => ?_
  · obtain ⟨t0, t1, t2, t3, t4, t5, rfl⟩ := vl6 hv
    kernel_rfl
  with_reducible refine with_env ["scene", "at", "step", "test", "kinds", "is_input", "here", "info"] ["passes", "fits", "is_borne", "len"] (by kernel_rfl) (by kernel_rfl) (by kernel_rfl) (by kernel_rfl) fun env O => ?_
  refine x_cons ?_
  repeat walk_at "v"
  with_reducible refine x_while (fun k l' σ' => σ' = σ ∧ ∃ i : Nat, i ≤ rs.length ∧ k = rs.length - i ∧ locChk l' [("scene", .ref S.sc), ("step", .int 1), ("test", .ref tst), ("kinds", .ref 98), ("is_input", .bool true), ("here", .int i)] ∧ fnd t ((infs rs).drop i) i = T) (rs.length - (a + 1)) ?_ ?_
  · refine  ⟨rfl, a + 1, ha, rfl, ⟨rfl, rfl, rfl, rfl, rfl, rfl, trivial⟩, hT⟩
  rintro k' l' σ' ⟨rfl, i, hi, rfl, hl, hf⟩
  with_reducible refine AT.loc (locLe.of hl) ?_
  repeat walk_at "v"
  with_reducible refine ⟨fun _ => ?_, fun hc => absurd hc (by simp)⟩
  with_reducible refine e_callB G O (by decide +kernel) (by kernel_rfl) boot_len (by with_unfolding_all rfl) ?_
  repeat walk_at "v"
  with_reducible refine g_sc_buffer G I ?_
  with_reducible refine g_bu_row G I hb ?_
  repeat walk_at "v"
  with_reducible refine c_len R.lst (by rw [List.length_map]; omega) ?_
  repeat walk_at "v"
  rw [List.length_map]
  with_reducible refine ⟨fun hlt => ?_, fun hge => ?_⟩
  · rw [decide_eq_true_iff] at hlt
    have hlt' : i < rs.length := by omega
    obtain ⟨e, he⟩ : ∃ e, rs[i]? = some e := ⟨_, List.getElem?_eq_getElem hlt'⟩
    rw [infs_drop he] at hf
    unfold fnd at hf
    with_reducible refine x_cons ?_
    repeat walk_at "v"
    with_reducible refine e_call (fa := 97) G O (by decide +kernel) (by kernel_rfl) (by kernel_rfl) (by with_unfolding_all rfl) ?_
    repeat walk_at "v"
    with_reducible refine k_ret (fun τ k => ad_passes G r' (I.sub k) (k.ap hb) (R.sub k) he (by omega)) ?_
    repeat walk_at "v"
    with_reducible refine ⟨fun hc => ?_, fun hc => ?_⟩
    · have h9 : ¬ e.2.2.g = 9 := by simpa using hc
      rw [if_neg h9] at hf
      repeat walk_at "v"
      with_reducible refine g_sc_buffer G I ?_
      with_reducible refine g_bu_row G I hb ?_
      repeat walk_at "v"
      with_reducible refine s_listN R.lst (by omega) (R.get he).2 ?_ (by intro _; with_unfolding_all rfl)
      repeat walk_at "v"
      with_reducible refine e_call (fa := 110) G O (by decide +kernel) (by kernel_rfl) (by kernel_rfl) (by with_unfolding_all rfl) ?_
      repeat walk_at "v"
      with_reducible refine g_glyph G (R.get he).1 ?_
      repeat walk_at "v"
      with_reducible refine k_ret (fun τ k => ad_fits G (r'.less (by omega)) (k.ap ht)) ?_
      repeat walk_at "v"
      with_reducible refine ⟨fun hc => ?_, fun hc => ?_⟩
      · repeat walk_at "v"
        with_reducible refine e_call (fa := 117) G O (by decide +kernel) (by kernel_rfl) (by kernel_rfl) (by with_unfolding_all rfl) ?_
        repeat walk_at "v"
        with_reducible refine k_ret (fun τ k => ad_is_borne G (r'.less (by omega)) (I.sub k) ((R.get he).1.sub k)) ?_
        repeat walk_at "v"
        with_reducible refine ⟨fun _ => ?_, fun hc => (nomatch hc)⟩
        with_reducible refine ⟨fun _ => ?_, fun hc => (nomatch hc)⟩
        repeat walk_at "v"
        with_reducible refine ⟨fun _ => ?_, fun hc => (nomatch hc)⟩
        repeat walk_at "v"
        rw [if_pos (by have := beq_iff_eq.mp hc; exact this.symm)] at hf
        exact ⟨_, Sub.refl _, by rw [← hf]; rfl, rfl⟩
      · with_reducible refine ⟨fun hd => (nomatch hd), fun _ => ?_⟩
        repeat walk_at "v"
        with_reducible refine g_kind G (R.get he).1 ?_
        repeat walk_at "v"
        with_reducible refine b_notin_kinds G ?_
        repeat walk_at "v"
        with_reducible refine ⟨fun _ => ?_, fun hc => (nomatch hc)⟩
        repeat walk_at "v"
        rw [if_neg (by have := beq_eq_false_iff_ne.mp hc; exact fun e => this e.symm)] at hf
        exact ⟨_, Sub.refl _, by rw [← hf]; rfl, rfl⟩
    · have h9 : e.2.2.g = 9 := by simpa using hc
      rw [if_pos h9] at hf
      repeat walk_at "v"
      refine  ⟨rs.length - (i + 1), by omega, σ', Sub.refl _, rfl, i + 1, hlt', rfl, ⟨rfl, rfl, rfl, rfl, rfl, rfl, trivial⟩, hf⟩
  · rw [decide_eq_false_iff_not] at hge
    have hi' : i = rs.length := by omega
    subst hi'
    repeat walk_at "v"
    rw [List.drop_of_length_le (by unfold infs; rw [List.length_map]; exact Nat.le_refl _)] at hf
    exact ⟨_, Sub.refl _, by rw [← hf]; rfl, rfl⟩
end
section
variable {w : World} {h₀ : Heap} {A : Around} {L : Addr} {l : Loc} {σ τ : St} {Q : V → Loc → St → Prop}
/-- of two infos: do they hold together -/
noncomputable def holdsTo (f o : Inf) : Bool := if piece f then (o.id == f.id && o.part == f.part) else !(piece o && o.id != f.id)
theorem getD_at {rs : List Rec} {i : Nat} {d : Rec} (h : i < rs.length) : rs[i]? = some (rs.getD i d) := by
  rw [List.getD_eq_getElem?_getD, List.getElem?_eq_getElem h]; rfl
theorem turn_ok {J : Loc → St → Prop} {I : Addr} {it : AO} {Q : Fl → Loc → St → Prop} {l : Loc} {σ τ : St} (h : σ I = none) (s : Sub (upd σ I it) τ) (j : J l σ) : Turn J I it Q .next l τ := ⟨σ, s, h, j⟩
theorem turn_end {J : Loc → St → Prop} {I : Addr} {it : AO} {Q : Fl → Loc → St → Prop} {l : Loc} {σ : St} (h : σ I = none) (j : J l σ) : Turn J I it Q .next l (upd σ I it) := ⟨σ, Sub.refl _, h, j⟩
theorem getD_map {α : Type} {f : α → V} {ps : List α} {i : Nat} {d : V} {d' : α} (h : i < ps.length) : (ps.map f).getD i d = f (ps.getD i d') := by
  rw [List.getD_eq_getElem?_getD, List.getD_eq_getElem?_getD, List.getElem?_map, List.getElem?_eq_getElem h]; rfl
theorem b_ne_pair {n : Nat} (r : Room A n) {a b : Addr} {i p j q : Int} (ha : σ a = some (.tup [.int i, .int p])) (hb : σ b = some (.tup [.int j, .int q])) (z : Q (.bool (!(i == j && p == q))) l σ) : AB w h₀ A L (compareOp .NotEq) (.ref a) (.ref b) Q l σ := by
  refine  b_ne_tup (n := 0) (by have := r.u; omega) ha hb (fun k => if k = 0 then i == j else p == q) (fun k v u h1 h2 => ?_) (by
    show Q (.bool (!((List.range 2).all (fun k => if k = 0 then i == j else p == q) && (2 : Nat) == 2))) l σ
    rw [show (!((List.range 2).all (fun k => if k = 0 then i == j else p == q) && (2 : Nat) == 2)) = (!(i == j && p == q)) from by cases (i == j) <;> cases (p == q) <;> rfl]
    exact z)
  match k, h1, h2 with
  | 0, h1, h2 => cases h1; cases h2; exact .int _ _
  | 1, h1, h2 => cases h1; cases h2; exact .int _ _
theorem picks_tail (v : V) (vs : List V) : picks (v :: vs) (some 1) none vs := by simpa using picks_from (v :: vs) 1
theorem take_all {α : Type} {ps : List α} {f : α → Bool} {i : Nat} {d : α} (h : i < ps.length) (k : (ps.take i).all f = true) (e : f (ps.getD i d) = true) : (ps.take (i + 1)).all f = true := by
  rw [List.take_add_one, List.all_append, k, List.getElem?_eq_getElem h]
  rw [List.getD_eq_getElem?_getD, List.getElem?_eq_getElem h] at e
  simpa using e
theorem not_all {α : Type} {ps : List α} {f : α → Bool} {i : Nat} {d : α} (h : i < ps.length) (e : f (ps.getD i d) = false) : ps.all f = false := by
  rw [List.getD_eq_getElem?_getD, List.getElem?_eq_getElem h] at e
  rw [Bool.eq_false_iff]
  intro q
  rw [List.all_eq_true] at q
  have := q _ (List.getElem_mem h)
  simp at e
  rw [e] at this
  cases this
theorem ad_hold_together (G : Gnd w h₀) (r : Room A 2) {ra : Addr} {rs : List Rec} (R : RowAt σ ra rs) (hz : rs.length ≤ 900) {pa : Addr} {p0 : Nat} {ps : List Nat} (hp : σ pa = some (.list (nv p0 :: ps.map nv))) (hzp : ps.length ≤ 900) {d : Rec} (h0 : p0 < rs.length) (hps : ∀ p ∈ ps, p < rs.length) :
    AD w h₀ A (.ref 145) [.ref ra, .ref pa] (fun v σ' => v = .bool (ps.all fun p => holdsTo (rs.getD p0 d).2.2 (rs.getD p d).2.2) ∧ σ' = σ) σ := by
  have e0 := getD_at (d := d) h0
  refine d_call (fd := F145) (names := ["row", "positions"]) (n := 1) G r (by kernel_rfl) (by kernel_rfl) (by rfl) (fun cs hv => ?_) (by decide +kernel) (by decide +kernel) (by decide +kernel) (by rfl) (by rfl) (by rfl) fun L A' hL r' => ?_
  · obtain ⟨t0, t1, rfl⟩ := vl2 hv
    kernel_rfl
  with_reducible refine with_env ["row", "positions", "first", "at", "other"] ["is_piece"] (by kernel_rfl) (by kernel_rfl) (by kernel_rfl) (by kernel_rfl) fun env O => ?_
  refine x_cons ?_
  repeat walk_at "v"
  with_reducible refine s_list hp (by decide) (by decide) (by with_unfolding_all rfl) ?_ (by intro _; with_unfolding_all rfl)
  with_reducible refine s_listN R.lst (by omega) (R.get e0).2 ?_ (by intro _; with_unfolding_all rfl)
  repeat walk_at "v"
  intro c hc
  with_reducible refine s_slice (us := ps.map nv) (upd_old hc hp) (upd_self ..) (.int 1) .none (by simp; omega) (picks_tail _ _) (fun b hb => ?_) (by with_unfolding_all rfl)
  have hb' := (none_ne hb).2
  refine  f_loop (fun i l' σ' => σ' = upd (upd σ c (AO.slice (V.int 1) V.none)) b (AO.list (ps.map nv)) ∧ locChk l' [("row", .ref ra), ("first", .ref (rs.getD p0 d).1)] ∧ (ps.take i).all (fun p => holdsTo (rs.getD p0 d).2.2 (rs.getD p d).2.2) = true) (Starts.list r'.hh (nv 0) (upd_self ..)) ⟨rfl, ⟨rfl, rfl, trivial⟩, rfl⟩ (fun i l' σ' h => by rw [h.1]; exact upd_self ..) ?_ ?_
  · rintro I i l' σ' hi ⟨rfl, hl, hall⟩ hI hIL
    rw [List.length_map] at hi
    rw [getD_map (d' := 0) hi]
    have hpi := getD_at (d := d) (hps _ (List.getElem_mem hi))
    have egd : ps.getD i 0 = ps[i] := by rw [List.getD_eq_getElem?_getD, List.getElem?_eq_getElem hi]; rfl
    have sub : Sub σ (upd (upd (upd σ c (AO.slice (V.int 1) V.none)) b (AO.list (ps.map nv))) I (.liter b (i + 1))) := ((sub_upd hc).trans (sub_upd hb)).trans (sub_upd hI)
    with_reducible refine AA.loc (locLe.of hl) ?_
    repeat walk_at "v"
    have hplt := hps _ (List.getElem_mem hi)
    rw [egd]
    with_reducible refine s_listN (R.sub sub).lst (by omega) (R.get hpi).2 ?_ (by intro _; with_unfolding_all rfl)
    repeat walk_at "v"
    with_reducible refine e_call (fa := 138) G O (by decide +kernel) (by kernel_rfl) (by kernel_rfl) (by with_unfolding_all rfl) ?_
    repeat walk_at "v"
    with_reducible refine k_ret (fun τ k => ad_is_piece G r' (((R.get e0).1.sub sub).sub k)) ?_
    repeat walk_at "v"
    with_reducible refine ⟨fun hc => ?_, fun hc => ?_⟩
    · repeat walk_at "v"
      with_reducible refine g_lig_id G ((R.get hpi).1.sub sub) ?_
      repeat walk_at "v"
      with_reducible refine g_lig_part G ((R.get hpi).1.sub sub) ?_
      repeat walk_at "v"
      with_reducible refine ⟨by simp, fun a ha => ?_⟩
      repeat walk_at "v"
      with_reducible refine g_lig_id G (((R.get e0).1.sub sub).sub (sub_upd ha)) ?_
      repeat walk_at "v"
      with_reducible refine g_lig_part G (((R.get e0).1.sub sub).sub (sub_upd ha)) ?_
      repeat walk_at "v"
      with_reducible refine ⟨by simp, fun a' ha' => ?_⟩
      with_reducible refine b_ne_pair r' (upd_old ha' (upd_self ..)) (upd_self ..) ?_
      repeat walk_at "v"
      with_reducible refine ⟨fun hd => ?_, fun hd => ?_⟩
      · repeat walk_at "v"
        refine  ⟨σ, (sub.trans (sub_upd ha)).trans (sub_upd ha'), ?_, rfl⟩
        rw [not_all (d := 0) hi (by rw [egd]; unfold holdsTo; rw [hc, if_pos rfl]; simpa only [Bool.not_eq_true'] using hd)]
        rfl
      · repeat walk_at "v"
        refine  turn_ok hI ((sub_upd ha).trans (sub_upd ha')) ⟨rfl, ⟨rfl, rfl, trivial⟩, take_all (d := 0) hi hall ?_⟩
        rw [egd]; unfold holdsTo; rw [hc, if_pos rfl]; simpa using hd
    · repeat walk_at "v"
      with_reducible refine e_call (fa := 138) G O (by decide +kernel) (by kernel_rfl) (by kernel_rfl) (by with_unfolding_all rfl) ?_
      repeat walk_at "v"
      with_reducible refine k_ret (fun τ k => ad_is_piece G r' (((R.get hpi).1.sub sub).sub k)) ?_
      repeat walk_at "v"
      have key : ∀ b, (piece (rs.getD ps[i] d).2.2 && (rs.getD ps[i] d).2.2.id != (rs.getD p0 d).2.2.id) = b → holdsTo (rs.getD p0 d).2.2 (rs.getD (ps.getD i 0) d).2.2 = !b := fun b hb => by
        rw [egd]; unfold holdsTo; rw [hc, if_neg (by decide), hb]
      with_reducible refine ⟨fun hd => ?_, fun hd => ?_⟩
      · repeat walk_at "v"
        with_reducible refine g_lig_id G ((R.get hpi).1.sub sub) ?_
        repeat walk_at "v"
        with_reducible refine g_lig_id G ((R.get e0).1.sub sub) ?_
        repeat walk_at "v"
        with_reducible refine ⟨fun he => ?_, fun he => ?_⟩
        · repeat walk_at "v"
          with_reducible refine ⟨fun _ => ?_, fun hc => (nomatch hc)⟩
          repeat walk_at "v"
          refine  ⟨σ, sub, ?_, rfl⟩
          rw [not_all (d := 0) hi (key true (by rw [hd, he]; rfl))]
          rfl
        · with_reducible refine ⟨fun hc => (nomatch hc), fun _ => ?_⟩
          repeat walk_at "v"
          refine  turn_ok hI (Sub.refl _) ⟨rfl, ⟨rfl, rfl, trivial⟩, take_all (d := 0) hi hall (key false (by rw [hd, he]; rfl))⟩
      · with_reducible refine ⟨fun hc => (nomatch hc), fun _ => ?_⟩
        repeat walk_at "v"
        refine  turn_ok hI (Sub.refl _) ⟨rfl, ⟨rfl, rfl, trivial⟩, take_all (d := 0) hi hall (key false (by rw [hd]; rfl))⟩
  · rintro l' σ' ⟨rfl, hl, hall⟩
    repeat walk_at "v"
    rw [List.length_map, List.take_of_length_le (Nat.le_refl _)] at hall
    refine  ⟨σ, (sub_upd hc).trans (sub_upd hb), by rw [hall]; rfl, rfl⟩
end
section
variable {w : World} {h₀ : Heap} {A : Around} {L : Addr} {l : Loc} {σ τ : St} {Q : V → Loc → St → Prop} {env : Env} {lo gl : List Str} {ce : List (Str × Addr)}
theorem comp_env {scope : Scope} {cl : List (Str × Addr)} {C : Addr} (O : EnvOk env L lo gl ce) (lo' gl' : List Str) (hc : envChk (compEnvC scope cl C env) lo' gl' = true) : EnvOk (compEnvC scope cl C env) C lo' gl' [] := .of hc rfl O.glob O.blt
noncomputable def Tests (σ : St) : List Addr → List Int → Prop
  | [], [] => True
  | a :: r, g :: s => σ a = some (.tup [.str "glyph", .int g]) ∧ Tests σ r s
  | _, _ => False
theorem Tests.sub {σ τ : St} (k : Sub σ τ) : ∀ {bs : List Addr} {gs : List Int}, Tests σ bs gs → Tests τ bs gs
  | [], [], _ => trivial
  | _ :: _, _ :: _, h => ⟨k _ _ h.1, Tests.sub k h.2⟩
  | [], _ :: _, h => h.elim
  | _ :: _, [], h => h.elim
theorem Tests.snoc {σ : St} {a : Addr} {g : Int} (e : σ a = some (.tup [.str "glyph", .int g])) : ∀ {bs : List Addr} {gs : List Int}, Tests σ bs gs → Tests σ (bs ++ [a]) (gs ++ [g])
  | [], [], _ => ⟨e, trivial⟩
  | _ :: _, _ :: _, h => ⟨h.1, Tests.snoc e h.2⟩
  | [], _ :: _, h => h.elim
  | _ :: _, [], h => h.elim
theorem Tests.len {σ : St} : ∀ {bs : List Addr} {gs : List Int}, Tests σ bs gs → bs.length = gs.length
  | [], [], _ => rfl
  | _ :: _, _ :: _, h => by simp [Tests.len h.2]
  | [], _ :: _, h => h.elim
  | _ :: _, [], h => h.elim
theorem Tests.rm {σ : St} {L : Addr} {l : Loc} (hL : σ L = some (.ns l)) : ∀ {bs : List Addr} {gs : List Int}, Tests σ bs gs → Tests (rm σ L) bs gs
  | [], [], _ => trivial
  | _ :: _, _ :: _, h => ⟨rm_get hL h.1 (by intro _ h; cases h), Tests.rm hL h.2⟩
  | [], _ :: _, h => h.elim
  | _ :: _, [], h => h.elim
theorem boot_tuple : bootBuiltins "tuple" = some (.type "tuple") := by decide +kernel
theorem ad_glyph_tests (G : Gnd w h₀) (r : Room A 1) {ga : Addr} {gs : List Int} (hg : σ ga = some (.tup (gs.map V.int))) (hz : gs.length ≤ 900) :
    AD w h₀ A (.ref 103) [.ref ga] (fun v σ' => Sub σ σ' ∧ ∃ b bs, v = .ref b ∧ σ' b = some (.tup (bs.map V.ref)) ∧ Tests σ' bs gs) σ := by
  refine d_call (fd := F103) (names := ["glyphs"]) (n := 0) G r (by kernel_rfl) (by kernel_rfl) (by rfl) (fun cs hv => ?_) (by decide +kernel) (by decide +kernel) (by decide +kernel) (by rfl) (by rfl) (by rfl) fun L A' hL r' => ?_
  · obtain ⟨t0, rfl⟩ := vl1 hv
    kernel_rfl
  with_reducible refine with_env ["glyphs"] ["tuple"] (by kernel_rfl) (by kernel_rfl) (by kernel_rfl) (by kernel_rfl) fun env O => ?_
  refine x_cons ?_
  repeat walk_at "v"
  with_reducible refine e_callT G O (by decide +kernel) (by kernel_rfl) boot_tuple (by with_unfolding_all rfl) ?_
  repeat walk_at "v"
  with_reducible refine e_comp (closureFor_none (by decide)) (by with_unfolding_all rfl) (by decide +kernel) ?_ (by intro _; with_unfolding_all rfl)
  repeat walk_at "v"
  refine  co_loop (lo' := ["glyph"]) (gl' := []) (by decide) rfl (fun C => comp_env O _ _ (by kernel_rfl)) (by decide +kernel) (fun i acc σ' => ∃ bs : List Addr, acc = bs.map V.ref ∧ Sub σ σ' ∧ Tests σ' bs (gs.take i)) (Starts.tup r'.hh (.int 0) hg) (fun _ _ h k => k.ap h) (by rw [List.length_map]; omega) ⟨[], rfl, Sub.refl _, trivial⟩
    (fun i acc σ' ⟨_, _, k, _⟩ => k.ap hg) ?_ ?_
  · rintro env' C D I i acc σ' OC hi ⟨bs, rfl, hs, ht⟩ P
    rw [List.length_map] at hi
    rw [getD_map (d' := 0) hi]
    with_reducible refine ts_nil ⟨fun _ => ?_, fun hc => (nomatch hc)⟩
    repeat walk_at "v"
    with_reducible refine ⟨by simp, fun a ha => ?_⟩
    obtain ⟨h1, P', e⟩ := FR_new (y := .tup [.str "glyph", .int (gs.getD i 0)]) P ha
    refine  ⟨_, by rw [e]; exact Sub.refl _, P', bs ++ [a], by simp, hs.trans (sub_upd h1), ?_⟩
    have := (ht.sub (sub_upd (x := .tup [.str "glyph", .int (gs.getD i 0)]) h1)).snoc (upd_self ..)
    rw [List.take_add_one, List.getElem?_eq_getElem hi]
    rw [List.getD_eq_getElem?_getD, List.getElem?_eq_getElem hi] at this ⊢
    exact this
  · rintro D acc σ' ⟨bs, rfl, hs, ht⟩ hD hL'
    rw [List.length_map, List.take_of_length_le (Nat.le_refl _)] at ht
    have hl := ht.len
    repeat walk_at "v"
    with_reducible refine c_tuple (vs := bs.map V.ref) (upd_self ..) (by rw [List.length_map]; omega) fun b hb => ?_
    refine  ⟨_, Sub.refl _, (hs.trans (sub_upd hD)).trans (sub_upd hb), b, bs, rfl, upd_self .., (ht.sub (sub_upd hD)).sub (sub_upd hb)⟩
theorem s_tup0 {o i : Expr} {a : Addr} {v : V} {vs : List V} (ha : σ a = some (.tup (v :: vs))) (q : Q v l σ)
    (hs : ∀ t, subscripted i false (.ref a) (.int 0 t) = operate [.ref a, .int 0 t] (getItem (.ref a) (.int 0 t)) := by intro _; with_unfolding_all rfl) : AB w h₀ A L (subscriptTail o i) (.ref a) (.int 0) Q l σ :=
  s_tup (j := 0) ha (by decide) (by decide) (by unfold seqIndex?; simp) rfl q hs
theorem s_last {o i : Expr} {a : Addr} {vs : List V} {v : V} (ha : σ a = some (.list (vs ++ [v]))) (hz : vs.length ≤ 1000) (q : Q v l σ)
    (hs : ∀ t, subscripted i false (.ref a) (.int (-1) t) = operate [.ref a, .int (-1) t] (getItem (.ref a) (.int (-1) t)) := by intro _; with_unfolding_all rfl) : AB w h₀ A L (subscriptTail o i) (.ref a) (.int (-1)) Q l σ :=
  s_list_neg ha (by decide) (by simp; omega) (by decide) (by rw [show ((-1 : Int) + ((vs ++ [v]).length : Nat)).toNat = vs.length by simp; omega]; simp) q hs
theorem Sub.at_new {σ σ' : St} {f : Addr} {x : AO} (k : Sub σ σ') (n : σ f = none) : Sub σ (Mine.upd σ' f x) := fun a y e => by
  rw [upd_ne (by rintro rfl; rw [n] at e; cases e)]; exact k a y e
/-- places found behind each other -/
noncomputable def inpGo (xs : List Inf) : List Int → Nat → List Nat → Option (List Nat)
  | [], _, acc => some acc
  | t :: ts, last, acc => let h := fnd t (xs.drop (last + 1)) (last + 1); if h < 0 then none else inpGo xs ts h.toNat (acc ++ [h.toNat])
noncomputable def inp (xs : List Inf) (t0 : Int) (ts : List Int) (a : Nat) : Option (List Nat) := match xs[a]? with
  | some x => if t0 = x.g then inpGo xs ts a [a] else none
  | none => none
theorem fnd_lt (t : Int) : ∀ (xs : List Inf) (i : Nat), fnd t xs i = -1 ∨ ∃ j : Nat, fnd t xs i = j ∧ i ≤ j ∧ j < i + xs.length
  | [], i => .inl rfl
  | x :: r, i => by
    unfold fnd
    split
    · rcases fnd_lt t r (i + 1) with h | ⟨j, h, h1, h2⟩
      · exact .inl h
      · exact .inr ⟨j, h, by omega, by rw [List.length_cons]; omega⟩
    · split
      · exact .inr ⟨i, rfl, Nat.le_refl _, by rw [List.length_cons]; omega⟩
      · exact .inl rfl
theorem Tests.at {σ : St} : ∀ {bs : List Addr} {gs : List Int}, Tests σ bs gs → ∀ {i : Nat}, i < bs.length → σ (bs.getD i 0) = some (.tup [.str "glyph", .int (gs.getD i 0)])
  | b :: bs, g :: gs, h, 0, _ => by simpa using h.1
  | b :: bs, g :: gs, h, i + 1, hi => by simpa using Tests.at h.2 (i := i) (by simpa using hi)
  | [], _, _, i, hi => absurd hi (by simp)
  | _ :: _, [], h, _, _ => h.elim
theorem ad_input_at (G : Gnd w h₀) (r : Room A 6) {S : Sc} (I : ScAt σ S) {k : Int} (hb : σ S.bux = some (.attrs (bufFs S k))) {rs : List Rec} (R : RowAt σ S.ra rs) (hz : rs.length ≤ 900) {a : Nat} {e : Rec} (ha : rs[a]? = some e) {ta b0 : Addr} {bs : List Addr} {t0 : Int} {ts : List Int} (hta : σ ta = some (.tup (V.ref b0 :: bs.map V.ref)))
    (hts : Tests σ (b0 :: bs) (t0 :: ts)) (hzt : ts.length ≤ 900) :
    AD w h₀ A (.ref 131) [.ref S.sc, .int a, .ref ta] (fun v σ' => Sub σ σ' ∧ match inp (infs rs) t0 ts a with | none => v = .none | some ps => ∃ pa, v = .ref pa ∧ σ' pa = some (.list (ps.map nv))) σ := by
  have hlen := hts.2.len
  have ht0 := hts.1
  have htr := hts.2
  have halt : a < rs.length := (List.getElem?_eq_some_iff.mp ha).1
  have hx : (infs rs)[a]? = some e.2.2 := by unfold infs; rw [List.getElem?_map, ha]; rfl
  generalize hT : inp (infs rs) t0 ts a = T
  unfold inp at hT
  rw [hx] at hT
  dsimp only at hT
  refine d_call (fd := F131) (names := ["scene", "at", "tests"]) (n := 5) G r (by kernel_rfl) (by kernel_rfl) (by rfl) (fun cs hv => ?_) (by decide +kernel) (by decide +kernel) (by decide +kernel) (by rfl) (by rfl) (by rfl) fun L A' hL r' => ?_
  · obtain ⟨t0, t1, t2, rfl⟩ := vl3 hv
    kernel_rfl
  with_reducible refine with_env ["scene", "at", "tests", "found", "test", "here"] ["fits", "found_at", "KINDS_IN_INPUT"] (by kernel_rfl) (by kernel_rfl) (by kernel_rfl) (by kernel_rfl) fun env O => ?_
  refine x_cons ?_
  repeat walk_at "v"
  with_reducible refine e_call (fa := 110) G O (by decide +kernel) (by kernel_rfl) (by kernel_rfl) (by with_unfolding_all rfl) ?_
  repeat walk_at "v"
  with_reducible refine s_tup0 hta ?_ (by intro _; with_unfolding_all rfl)
  repeat walk_at "v"
  with_reducible refine g_sc_buffer G I ?_
  with_reducible refine g_bu_row G I hb ?_
  repeat walk_at "v"
  with_reducible refine s_listN R.lst (by omega) (R.get ha).2 ?_ (by intro _; with_unfolding_all rfl)
  with_reducible refine g_glyph G (R.get ha).1 ?_
  repeat walk_at "v"
  with_reducible refine k_ret (fun τ k => ad_fits G (r'.less (by omega)) (k.ap ht0)) ?_
  repeat walk_at "v"
  with_reducible refine ⟨fun hc => ?_, fun hc => ?_⟩
  · repeat walk_at "v"
    have : ¬ t0 = e.2.2.g := by simpa using hc
    rw [if_neg this] at hT
    subst hT
    exact ⟨_, Sub.refl _, Sub.refl _, rfl⟩
  · have : t0 = e.2.2.g := by simpa using hc
    rw [if_pos this] at hT
    repeat walk_at "v"
    with_reducible refine ⟨by simp, fun f hf => ?_⟩
    repeat walk_at "v"
    intro c hc
    have hl1 : ((V.ref b0 :: bs.map V.ref)).length = bs.length + 1 := by simp
    with_reducible refine s_sliceT (n := 1) (upd_old hc (upd_old hf hta)) (upd_self ..) (by decide) (by rw [hl1]; omega) (by rw [hl1]; omega) (fun b hb2 => ?_) (by with_unfolding_all rfl)
    have hf2 : upd (upd σ f (.list [V.int a])) c (.slice (.int 1) .none) f = some (.list (([] ++ [a]).map nv)) := upd_old hc (upd_self ..)
    have hb3 : upd (upd (upd σ f (.list [V.int a])) c (.slice (.int 1) .none)) b (.tup (bs.map V.ref)) f = some (.list (([] ++ [a]).map nv)) := upd_old hb2 hf2
    have hsub : Sub σ (upd (upd (upd σ f (.list [V.int a])) c (.slice (.int 1) .none)) b (.tup (bs.map V.ref))) := ((sub_upd hf).trans (sub_upd hc)).trans (sub_upd hb2)
    refine  f_loop (fun i l' σ' => Sub σ σ' ∧ σ' b = some (.tup (bs.map V.ref)) ∧ locChk l' [("scene", .ref S.sc), ("found", .ref f)] ∧ ∃ (pre : List Nat) (last : Nat), σ' f = some (.list ((pre ++ [last]).map nv)) ∧ pre.length ≤ i ∧ last < rs.length ∧ inpGo (infs rs) (ts.drop i) last (pre ++ [last]) = T)
      (Starts.tup r'.hh (.ref 0) (upd_self ..)) ⟨hsub, upd_self .., ⟨rfl, rfl, trivial⟩, [], a, hb3, Nat.le_refl _, halt, hT⟩ (fun i l' σ' h => h.2.1) ?_ ?_
    · rintro J i l' σ' hi ⟨hs, htb, hl, pre, last, hfd, hpre, hlast, hgo⟩ hI hIL
      have hi' : i < bs.length := by simpa using hi
      have hfJ : f ≠ J := ne_of_none hI hfd
      rw [show List.drop 1 (V.ref b0 :: bs.map V.ref) = bs.map V.ref from rfl, getD_map (d' := 0) hi']
      have sub1 : Sub σ (upd σ' J (.titer b (i + 1))) := hs.trans (sub_upd hI)
      have htest := sub1.ap (htr.at hi')
      have hfd' : upd σ' J (.titer b (i + 1)) f = some (.list (pre.map nv ++ [nv last])) := by rw [upd_old hI hfd]; simp
      have hdrop : ts.drop i = ts.getD i 0 :: ts.drop (i + 1) := by
        rw [List.drop_eq_getElem_cons (by omega), List.getD_eq_getElem?_getD, List.getElem?_eq_getElem (by omega)]; rfl
      rw [hdrop] at hgo
      unfold inpGo at hgo
      dsimp only at hgo
      with_reducible refine AA.loc (locLe.of hl) ?_
      repeat walk_at "v"
      with_reducible refine e_call (fa := 124) G O (by decide +kernel) (by kernel_rfl) (by kernel_rfl) (by with_unfolding_all rfl) ?_
      repeat walk_at "v"
      with_reducible refine s_last hfd' (by rw [List.length_map]; omega) ?_ (by intro _; with_unfolding_all rfl)
      repeat walk_at "v"
      with_reducible refine e_glob G O (by decide +kernel) (gl_kinds _) ?_
      repeat walk_at "v"
      with_reducible refine k_ret (fun τ k => ad_found_at G r' (I.sub (sub1.trans k)) ((sub1.trans k).ap hb) (R.sub (sub1.trans k)) hz hlast (k.ap htest)) ?_
      repeat walk_at "v"
      with_reducible refine ⟨fun hd => ?_, fun hd => ?_⟩
      · repeat walk_at "v"
        rw [if_pos (of_decide_eq_true hd)] at hgo
        subst hgo
        refine  ⟨_, Sub.refl _, sub1, rfl⟩
      · rw [if_neg (of_decide_eq_false hd)] at hgo
        rcases fnd_lt (ts.getD i 0) ((infs rs).drop (last + 1)) (last + 1) with h | ⟨j, h, hj1, hj2⟩
        · rw [h] at hd
          exact absurd hd (by decide)
        rw [h, Int.toNat_natCast] at hgo
        rw [h]
        have hjl : j < rs.length := by
          rw [List.length_drop] at hj2
          have : (infs rs).length = rs.length := by unfold infs; rw [List.length_map]
          omega
        repeat walk_at "v"
        intro t
        with_reducible refine m_append hfd' ?_ t
        with_reducible refine cw_B (by with_unfolding_all rfl) ?_
        repeat walk_at "v"
        with_reducible refine c_append hfd' (by simp; omega) ?_
        repeat walk_at "v"
        refine  ⟨upd σ' f (.list (((pre ++ [last]) ++ [j]).map nv)), ?_, upd_none hfJ.symm hI, hs.at_new hf, ?_, ⟨rfl, rfl, trivial⟩, pre ++ [last], j, upd_self .., by simp; omega, hjl, hgo⟩
        · rw [upd_comm hfJ]
          simp only [List.map_append, List.map_cons, List.map_nil]
          exact Sub.refl _
        · rw [upd_ne (ne_ao htb hfd (by simp))]
          exact htb
    · rintro l' σ' ⟨hs, htb, hl, pre, last, hfd, hpre, hlast, hgo⟩
      rw [show List.drop 1 (V.ref b0 :: bs.map V.ref) = bs.map V.ref from rfl, List.length_map, List.drop_of_length_le (by omega)] at hgo
      unfold inpGo at hgo
      subst hgo
      with_reducible refine AXs.loc (locLe.of hl) ?_
      repeat walk_at "v"
      refine  ⟨σ', Sub.refl _, hs, f, rfl, hfd⟩
end
/-- what stood outside S stands -/
noncomputable def Keep (S : Addr → Prop) (σ τ : St) : Prop := ∀ a x, ¬ S a → σ a = some x → τ a = some x
theorem Keep.refl (S : Addr → Prop) (σ : St) : Keep S σ σ := fun _ _ _ h => h
theorem Keep.trans {S : Addr → Prop} {σ τ ρ : St} (h : Keep S σ τ) (k : Keep S τ ρ) : Keep S σ ρ := fun a x n e => k a x n (h a x n e)
theorem Keep.of {S : Addr → Prop} {σ τ : St} (h : Sub σ τ) : Keep S σ τ := fun a x _ e => h a x e
theorem Keep.upd {S : Addr → Prop} {σ τ : St} {d : Addr} {y : AO} (h : Keep S σ τ) (n : S d ∨ σ d = none) : Keep S σ (Mine.upd τ d y) := fun a x k e => by
  rw [upd_ne]
  · exact h a x k e
  · rintro rfl
    rcases n with n | n
    · exact k n
    · rw [n] at e; cases e
theorem Keep.mono {S T : Addr → Prop} {σ τ : St} (h : Keep S σ τ) (k : ∀ a, S a → T a) : Keep T σ τ := fun a x n e => h a x (fun s => n (k a s)) e
theorem keep_rm {S : Addr → Prop} {σ τ : St} {L : Addr} (h : Keep S σ τ) (n : σ L = none) : Keep S σ (rm τ L) := fun a x k e => by
  have : a ≠ L := by rintro rfl; rw [n] at e; cases e
  unfold rm; rw [if_neg this]; exact h a x k e
section
variable {w : World} {h₀ : Heap} {A : Around} {L : Addr} {l : Loc} {σ τ : St} {Q : V → Loc → St → Prop} {env : Env} {lo gl : List Str} {ce : List (Str × Addr)}
theorem k_keep {f : Value} {vs : List V} {S : Addr → Prop} {P : V → St → Prop} (hS : ∀ a, S a → σ a ≠ none) (h : σ L = none → AF w h₀ A f vs (fun v σ' => Keep S (upd σ L (.ns l)) σ' ∧ P v σ') (upd σ L (.ns l)))
    (hP : ∀ v σ', P v σ' → σ' L = some (.ns l) → P v (rm σ' L)) (k : ∀ v σ', Keep S σ σ' → σ' L = none → P v σ' → Q v l σ') : AK w h₀ A L f vs Q l σ :=
  k_any h fun off v σ'' ⟨kp, p⟩ => by
    have hL := kp L _ (fun s => hS _ s off) (upd_self ..)
    have kp' : Keep S σ σ'' := fun a x n e => kp a x n (upd_old off e)
    exact ⟨rm σ'' L, sub_rm hL, rm_self _ _, k v _ (keep_rm kp' off) (rm_self _ _) (hP v _ p hL)⟩
theorem AE.cut {e : Expr} (P : V → Prop) (h : AE w h₀ A L env e (fun v l' σ' => P v ∧ l' = l ∧ σ' = σ) l σ) (k : ∀ v, P v → Q v l σ) : AE w h₀ A L env e Q l σ :=
  AE.mono h fun v l' σ' ⟨p, e1, e2⟩ => by subst e1 e2; exact k v p
noncomputable def dxs (rs : List Rec) (a : Addr) : Prop := a ∈ rs.map fun e => e.2.1
theorem RowAt.rm {σ : St} {L ra : Addr} {l : Loc} {rs : List Rec} (R : RowAt σ ra rs) (hL : σ L = some (.ns l)) : RowAt (Mine.rm σ L) ra rs :=
  ⟨rm_get hL R.lst (by intro _ h; cases h), fun e he => ⟨rm_get hL (R.obj e he).1 (by intro _ h; cases h), rm_get hL (R.obj e he).2 (by intro _ h; cases h)⟩⟩
theorem RowAt.dxs {σ : St} {ra a : Addr} {rs : List Rec} (R : RowAt σ ra rs) (h : dxs rs a) : ∃ r, σ a = some (.attrs (infoFs r)) := by
  obtain ⟨e, he, rfl⟩ := List.mem_map.mp h
  exact ⟨_, (R.obj e he).2⟩
theorem RowAt.dxs' {σ : St} {ra : Addr} {rs : List Rec} (R : RowAt σ ra rs) (a : Addr) (h : Mine.dxs rs a) : σ a ≠ none := by
  obtain ⟨r, e⟩ := R.dxs h
  rw [e]; simp
noncomputable def Nd (rs : List Rec) : Prop := (rs.map fun e => e.2.1).Nodup
theorem Nd.inj {rs : List Rec} (hn : Nd rs) {i j : Nat} {e f : Rec} (he : rs[i]? = some e) (hf : rs[j]? = some f) (h : e.2.1 = f.2.1) : i = j := by
  obtain ⟨hi, e1⟩ := List.getElem?_eq_some_iff.mp he
  obtain ⟨hj, e2⟩ := List.getElem?_eq_some_iff.mp hf
  have h1 : (rs.map fun e => e.2.1)[i]'(by simpa using hi) = (rs.map fun e => e.2.1)[j]'(by simpa using hj) := by simp [e1, e2, h]
  have := List.pairwise_iff_getElem.mp hn
  rcases Nat.lt_trichotomy i j with c | c | c
  · exact absurd h1 (this i j _ _ c)
  · exact c
  · exact absurd h1.symm (this j i _ _ c)
/-- one info is turned -/
theorem RowAt.set {σ : St} {ra : Addr} {rs : List Rec} (R : RowAt σ ra rs) (hn : Nd rs) {i : Nat} {e : Rec} (he : rs[i]? = some e) (v : Inf) : RowAt (upd σ e.2.1 (.attrs (infoFs v))) ra (rs.set i (e.1, e.2.1, v)) := by
  have hE := (R.get he).1
  obtain ⟨hi, e1⟩ := List.getElem?_eq_some_iff.mp he
  with_reducible refine ⟨?_, fun f hf => ?_⟩
  · have : (rs.set i (e.1, e.2.1, v)).map (fun e => V.ref e.1) = rs.map fun e => V.ref e.1 := by
      rw [List.map_set]
      apply List.ext_getElem (by simp)
      intro j h1 h2
      rw [List.getElem_set]
      split
      · rename_i h; subst h; simp [e1]
      · rfl
    rw [this, upd_ne (ne_ao R.lst hE.2 (by simp))]
    exact R.lst
  · obtain ⟨j, hj, e2⟩ := List.getElem_of_mem hf
    rw [List.getElem_set] at e2
    split at e2
    · subst e2
      exact ⟨by rw [upd_ne (ne_ao hE.1 hE.2 (by simp))]; exact hE.1, upd_self ..⟩
    · rename_i hne
      have hj' : j < rs.length := by simpa using hj
      have hF := (R.get (i := j) (e := f) (by rw [List.getElem?_eq_getElem hj', e2])).1
      have hd : f.2.1 ≠ e.2.1 := fun h => hne (hn.inj he (j := j) (f := f) (by rw [List.getElem?_eq_getElem hj', e2]) h.symm)
      exact ⟨by rw [upd_ne (ne_ao hF.1 hE.2 (by simp))]; exact hF.1, by rw [upd_ne hd]; exact hF.2⟩
theorem set_adr {rs : List Rec} {i : Nat} {e : Rec} (he : rs[i]? = some e) (v : Inf) : (rs.set i (e.1, e.2.1, v)).map (fun e => (e.1, e.2.1)) = rs.map fun e => (e.1, e.2.1) := by
  obtain ⟨hi, e1⟩ := List.getElem?_eq_some_iff.mp he
  rw [List.map_set]
  apply List.ext_getElem (by simp)
  intro j h1 h2
  rw [List.getElem_set]
  split
  · rename_i h; subst h; simp [e1]
  · rfl
/-- a store into an info -/
noncomputable def SF (w : World) (h₀ : Heap) (G : Gnd w h₀) : Prop := True
theorem x_info (G : Gnd w h₀) {o ex : Expr} {name : Str} {ap p : Pos} {Q : Fl → Loc → St → Prop} (f : Field (K w.params) 176 name)
    (h : AE w h₀ A L env ex (fun u => AE w h₀ A L env o fun v l' σ' => ∃ e i', v = .ref e.1 ∧ InfoAt σ' e ∧ setF (infoFs e.2.2) name u = infoFs i' ∧ Q .next l' (upd σ' e.2.1 (.attrs (infoFs i')))) l σ)
    (hs : swapsWith ex (some (.Attribute o name ap)) p.line env = pure false) : AX w h₀ A L env (.Assign [.Attribute o name ap] ex p) Q l σ :=
  x_attr G (h.mono fun u l1 σ1 q => q.mono fun v l2 σ2 ⟨e, i', e1, I, s, q⟩ => ⟨e.1, 176, e.2.1, infoFs e.2.2, e1, I.1, I.2, cls_Info _, f, Nat.le_of_ble_eq_true rfl, by rw [s]; exact q⟩) hs
theorem info_upd {σ : St} {e : Rec} (I : InfoAt σ e) (v : Inf) : InfoAt (upd σ e.2.1 (.attrs (infoFs v))) (e.1, e.2.1, v) := ⟨by rw [upd_ne (ne_ao I.1 I.2 (by simp))]; exact I.1, upd_self ..⟩
theorem ad_set_cluster (G : Gnd w h₀) (r : Room A 1) {e : Rec} (I : InfoAt σ e) {c : Int} : AD w h₀ A (.ref 238) [.ref e.1, .int c] (fun v σ' => v = .none ∧ σ' = upd σ e.2.1 (.attrs (infoFs { e.2.2 with cl := c }))) σ := by
  refine d_call (fd := F238) (names := ["info", "cluster"]) (n := 0) G r (by kernel_rfl) (by kernel_rfl) (by rfl) (fun cs hv => ?_) (by decide +kernel) (by decide +kernel) (by decide +kernel) (by rfl) (by rfl) (by rfl) fun L A' hL r' => ?_
  · obtain ⟨t0, t1, rfl⟩ := vl2 hv
    kernel_rfl
  with_reducible refine with_env ["info", "cluster"] [] (by kernel_rfl) (by kernel_rfl) (by kernel_rfl) (by kernel_rfl) fun env O => ?_
  refine x_cons ?_
  repeat walk_at "v"
  with_reducible refine g_cluster G I ?_
  repeat walk_at "v"
  with_reducible refine ⟨fun hc => ?_, fun hc => ?_⟩
  · with_reducible refine x_cons ?_
    with_reducible refine x_info G (f_cluster _) ?_ (by with_unfolding_all rfl)
    repeat walk_at "v"
    with_reducible refine ⟨e, _, rfl, I, s_cluster _ _, ?_⟩
    with_reducible refine x_cons ?_
    with_reducible refine x_info G (f_unsafe _) ?_ (by with_unfolding_all rfl)
    repeat walk_at "v"
    with_reducible refine ⟨(e.1, e.2.1, { e.2.2 with cl := c }), _, rfl, info_upd I _, s_unsafe _, ?_⟩
    repeat walk_at "v"
    refine  ⟨_, Sub.refl _, rfl, ?_⟩
    rw [upd_upd]
  · repeat walk_at "v"
    have : e.2.2.cl = c := by simpa using hc
    refine  ⟨_, Sub.self (x := .attrs (infoFs { e.2.2 with cl := c })) (by rw [← this]; exact I.2), rfl, rfl⟩
theorem ad_part_count (G : Gnd w h₀) (r : Room A 1) {e : Rec} (I : InfoAt σ e) : AD w h₀ A (.ref 390) [.ref e.1] (fun v σ' => v = .int (if 1 > e.2.2.cnt then 1 else e.2.2.cnt) ∧ σ' = σ) σ := by
  refine d_call (fd := F390) (names := ["info"]) (n := 0) G r (by kernel_rfl) (by kernel_rfl) (by rfl) (fun cs hv => ?_) (by decide +kernel) (by decide +kernel) (by decide +kernel) (by rfl) (by rfl) (by rfl) fun L A' hL r' => ?_
  · obtain ⟨t0, rfl⟩ := vl1 hv
    kernel_rfl
  with_reducible refine with_env ["info"] ["max"] (by kernel_rfl) (by kernel_rfl) (by kernel_rfl) (by kernel_rfl) fun env O => ?_
  refine x_cons ?_
  repeat walk_at "v"
  with_reducible refine e_callB G O (by decide +kernel) (by kernel_rfl) boot_max (by with_unfolding_all rfl) ?_
  repeat walk_at "v"
  with_reducible refine g_lig_count G I ?_
  repeat walk_at "v"
  with_reducible refine c_max r'.hh ?_
  exact ⟨_, Sub.refl _, rfl, rfl⟩
noncomputable def tieInf (lig ahead count : Int) (x : Inf) : Inf := { x with id := lig, part := ahead + (if count < (if x.part > 0 then x.part else count) then count else (if x.part > 0 then x.part else count)), cnt := 0 }
theorem ad_tie (G : Gnd w h₀) (r : Room A 1) {e : Rec} (I : InfoAt σ e) {lig ahead count : Int} : AD w h₀ A (.ref 402) [.ref e.1, .int lig, .int ahead, .int count] (fun v σ' => v = .none ∧ σ' = upd σ e.2.1 (.attrs (infoFs (tieInf lig ahead count e.2.2)))) σ := by
  refine d_call (fd := F402) (names := ["info", "lig_id", "ahead", "count"]) (n := 0) G r (by kernel_rfl) (by kernel_rfl) (by rfl) (fun cs hv => ?_) (by decide +kernel) (by decide +kernel) (by decide +kernel) (by rfl) (by rfl) (by rfl) fun L A' hL r' => ?_
  · obtain ⟨t0, t1, t2, t3, rfl⟩ := vl4 hv
    kernel_rfl
  with_reducible refine with_env ["info", "lig_id", "ahead", "count", "part"] ["min"] (by kernel_rfl) (by kernel_rfl) (by kernel_rfl) (by kernel_rfl) fun env O => ?_
  refine x_cons ?_
  refine  x_assign (by assumption) (by decide +kernel) (AE.cut (fun v => v = .int (if e.2.2.part > 0 then e.2.2.part else count)) ?_ ?_) (by with_unfolding_all rfl)
  · repeat walk_at "v"
    with_reducible refine g_lig_part G I ?_
    repeat walk_at "v"
    with_reducible refine ⟨fun hc => ?_, fun hc => ?_⟩
    · repeat walk_at "v"
      with_reducible refine g_lig_part G I ?_
      rw [if_pos (of_decide_eq_true hc)]
      exact ⟨rfl, rfl, rfl⟩
    · repeat walk_at "v"
      rw [if_neg (of_decide_eq_false hc)]
      exact ⟨rfl, rfl, rfl⟩
  rintro v rfl
  with_reducible refine x_cons ?_
  with_reducible refine x_info G (f_lig_id _) ?_ (by with_unfolding_all rfl)
  repeat walk_at "v"
  with_reducible refine ⟨e, _, rfl, I, s_lig_id _ _, ?_⟩
  have I1 := info_upd I { e.2.2 with id := lig }
  with_reducible refine x_cons ?_
  with_reducible refine x_info G (f_lig_part _) ?_ (by with_unfolding_all rfl)
  repeat walk_at "v"
  with_reducible refine e_callB G O (by decide +kernel) (by kernel_rfl) boot_min (by with_unfolding_all rfl) ?_
  repeat walk_at "v"
  with_reducible refine c_min r'.hh ?_
  repeat walk_at "v"
  with_reducible refine ⟨(e.1, e.2.1, { e.2.2 with id := lig }), _, rfl, I1, s_lig_part _ _, ?_⟩
  have I2 := info_upd I1 { e.2.2 with id := lig, part := ahead + (if count < (if e.2.2.part > 0 then e.2.2.part else count) then count else (if e.2.2.part > 0 then e.2.2.part else count)) }
  with_reducible refine x_cons ?_
  with_reducible refine x_info G (f_lig_count _) ?_ (by with_unfolding_all rfl)
  repeat walk_at "v"
  with_reducible refine ⟨(e.1, e.2.1, { e.2.2 with id := lig, part := ahead + (if count < (if e.2.2.part > 0 then e.2.2.part else count) then count else (if e.2.2.part > 0 then e.2.2.part else count)) }), _, rfl, I2, s_lig_count _ _, ?_⟩
  repeat walk_at "v"
  refine  ⟨_, Sub.refl _, rfl, ?_⟩
  rw [upd_upd, upd_upd]
  rfl
end
section
variable {w : World} {h₀ : Heap} {A : Around} {L : Addr} {l : Loc} {σ τ : St} {Q : V → Loc → St → Prop} {env : Env} {lo gl : List Str} {ce : List (Str × Addr)}
theorem AX.sub {b : Stmt} {Q : Fl → Loc → St → Prop} {σ τ : St} (k : Sub σ τ) (h : AX w h₀ A L env b Q l σ) : AX w h₀ A L env b Q l τ := AW.sub h k
theorem AT.cut {e : Expr} {Q : Bool → Loc → St → Prop} (P : Bool → Prop) (h : AT w h₀ A L env e (fun v l' σ' => P v ∧ l' = l ∧ σ' = σ) l σ) (k : ∀ v, P v → Q v l σ) : AT w h₀ A L env e Q l σ :=
  AW.mono h fun v l' σ' ⟨p, e1, e2⟩ => by subst e1 e2; exact k v p
theorem ad_widened (G : Gnd w h₀) (r : Room A 1) {ra : Addr} {rs : List Rec} (R : RowAt σ ra rs) (hz : rs.length ≤ 900) {b e : Nat} (hb : b < rs.length) (he1 : 1 ≤ e) (he : e ≤ rs.length) :
    AD w h₀ A (.ref 245) [.ref ra, nv b, nv e] (fun v σ' => Sub σ σ' ∧ ∃ (t : Addr) (f c : Nat), v = .ref t ∧ σ' t = some (.tup [nv f, nv c]) ∧ f ≤ b ∧ e ≤ c ∧ c ≤ rs.length) σ := by
  refine d_call (fd := F245) (names := ["row", "begin", "end"]) (n := 0) G r (by kernel_rfl) (by kernel_rfl) (by rfl) (fun cs hv => ?_) (by decide +kernel) (by decide +kernel) (by decide +kernel) (by rfl) (by rfl) (by rfl) fun L A' hL r' => ?_
  · obtain ⟨t0, t1, t2, rfl⟩ := vl3 hv
    kernel_rfl
  with_reducible refine with_env ["row", "begin", "end", "first", "behind"] ["len"] (by kernel_rfl) (by kernel_rfl) (by kernel_rfl) (by kernel_rfl) fun env O => ?_
  refine x_cons ?_
  repeat walk_at "v"
  with_reducible refine x_while (fun k l' σ' => σ' = σ ∧ ∃ c : Nat, e ≤ c ∧ c ≤ rs.length ∧ k = rs.length - c ∧ locChk l' [("row", .ref ra), ("first", nv b), ("behind", nv c)]) (rs.length - e) ?_ ?_
  · refine  ⟨rfl, e, Nat.le_refl _, he, rfl, rfl, rfl, rfl, trivial⟩
  rintro k l' σ' ⟨rfl, c, hc1, hc2, rfl, hl⟩
  with_reducible refine AT.loc (locLe.of hl) ?_
  with_reducible refine AT.cut (fun t => t = true → c < rs.length) ?_ ?_
  · repeat walk_at "v"
    with_reducible refine e_callB G O (by decide +kernel) (by kernel_rfl) boot_len (by with_unfolding_all rfl) ?_
    repeat walk_at "v"
    with_reducible refine c_len R.lst (by rw [List.length_map]; omega) ?_
    repeat walk_at "v"
    rw [List.length_map]
    with_reducible refine ⟨fun hlt => ?_, fun hge => ?_⟩
    · have hlt' : c < rs.length := by have := of_decide_eq_true hlt; omega
      have hx := List.getElem?_eq_getElem hlt'
      have hy := List.getElem?_eq_getElem (show c - 1 < rs.length by omega)
      repeat walk_at "v"
      with_reducible refine s_listN R.lst (by omega) (R.get hx).2 ?_ (by intro _; with_unfolding_all rfl)
      with_reducible refine g_cluster G (R.get hx).1 ?_
      repeat walk_at "v"
      rw [show ((c : Int) - 1) = ((c - 1 : Nat) : Int) by omega]
      with_reducible refine s_listN R.lst (by omega) (R.get hy).2 ?_ (by intro _; with_unfolding_all rfl)
      with_reducible refine g_cluster G (R.get hy).1 ?_
      repeat walk_at "v"
      with_reducible refine ⟨fun _ => ?_, fun _ => ?_⟩
      · repeat walk_at "v"
        exact ⟨fun _ => hlt', rfl, rfl⟩
      · exact ⟨fun h => (nomatch h), rfl, rfl⟩
    · exact ⟨fun h => (nomatch h), rfl, rfl⟩
  rintro t ht
  with_reducible refine ⟨fun hlt => ?_, fun _ => ?_⟩
  · have := ht hlt
    with_reducible refine x_cons ?_
    repeat walk_at "v"
    refine  ⟨rs.length - (c + 1), by omega, σ', Sub.refl _, rfl, c + 1, by omega, by omega, rfl, ⟨rfl, rfl, rfl, trivial⟩⟩
  with_reducible refine x_cons ?_
  with_reducible refine x_while (fun k l' σ'' => σ'' = σ' ∧ ∃ f : Nat, f ≤ b ∧ k = f ∧ locChk l' [("row", .ref ra), ("first", nv f), ("behind", nv c)]) b ?_ ?_
  · refine  ⟨rfl, b, Nat.le_refl _, rfl, rfl, rfl, rfl, trivial⟩
  rintro k l' σ' ⟨rfl, f, hf, hk, hl⟩
  subst k
  with_reducible refine AT.loc (locLe.of hl) ?_
  with_reducible refine AT.cut (fun t => t = true → 0 < f) ?_ ?_
  · repeat walk_at "v"
    with_reducible refine ⟨fun hlt => ?_, fun hge => ?_⟩
    · have hlt' : 0 < f := by have := of_decide_eq_true hlt; omega
      have hx := List.getElem?_eq_getElem (show f < rs.length by omega)
      have hy := List.getElem?_eq_getElem (show f - 1 < rs.length by omega)
      repeat walk_at "v"
      rw [show ((f : Int) - 1) = ((f - 1 : Nat) : Int) by omega]
      with_reducible refine s_listN R.lst (by omega) (R.get hy).2 ?_ (by intro _; with_unfolding_all rfl)
      with_reducible refine g_cluster G (R.get hy).1 ?_
      repeat walk_at "v"
      with_reducible refine s_listN R.lst (by omega) (R.get hx).2 ?_ (by intro _; with_unfolding_all rfl)
      with_reducible refine g_cluster G (R.get hx).1 ?_
      repeat walk_at "v"
      with_reducible refine ⟨fun _ => ?_, fun _ => ?_⟩
      · repeat walk_at "v"
        exact ⟨fun _ => hlt', rfl, rfl⟩
      · exact ⟨fun h => (nomatch h), rfl, rfl⟩
    · exact ⟨fun h => (nomatch h), rfl, rfl⟩
  rintro t ht
  with_reducible refine ⟨fun hlt => ?_, fun _ => ?_⟩
  · have := ht hlt
    with_reducible refine x_cons ?_
    repeat walk_at "v"
    refine  ⟨f - 1, by omega, σ', Sub.refl _, rfl, f - 1, by omega, rfl, ⟨rfl, by unfold nv; rw [show ((f - 1 : Nat) : Int) = (f : Int) - 1 by omega]; rfl, rfl, trivial⟩⟩
  · repeat walk_at "v"
    with_reducible refine ⟨by simp, fun a ha => ?_⟩
    exact ⟨_, Sub.refl _, sub_upd ha, a, f, c, rfl, upd_self .., hf, hc1, hc2⟩
/-- an info without its cluster -/
noncomputable def sk (e : Rec) : Rec := (e.1, e.2.1, { e.2.2 with cl := 0 })
theorem sk_len {rs rs' : List Rec} (h : rs'.map sk = rs.map sk) : rs'.length = rs.length := by simpa using congrArg List.length h
theorem sk_get {rs rs' : List Rec} (h : rs'.map sk = rs.map sk) {i : Nat} {e : Rec} (he : rs[i]? = some e) : ∃ e', rs'[i]? = some e' ∧ sk e' = sk e := by
  have := congrArg (fun l => l[i]?) h
  simp only [List.getElem?_map, he] at this
  cases q : rs'[i]? with
  | none => rw [q] at this; cases this
  | some e' => rw [q] at this; exact ⟨e', rfl, by simpa using this⟩
theorem sk_dxs {rs rs' : List Rec} (h : rs'.map sk = rs.map sk) : (rs'.map fun e => e.2.1) = rs.map fun e => e.2.1 := by
  have := congrArg (List.map fun e : Rec => e.2.1) h
  rw [List.map_map, List.map_map] at this; exact this
theorem sk_refs {rs rs' : List Rec} (h : rs'.map sk = rs.map sk) : (rs'.map fun e => V.ref e.1) = rs.map fun e => V.ref e.1 := by
  have := congrArg (List.map fun e : Rec => V.ref e.1) h
  rw [List.map_map, List.map_map] at this; exact this
theorem sk_set {rs : List Rec} {i : Nat} {e : Rec} (he : rs[i]? = some e) (c : Int) : (rs.set i (e.1, e.2.1, { e.2.2 with cl := c })).map sk = rs.map sk := by
  obtain ⟨hi, e1⟩ := List.getElem?_eq_some_iff.mp he
  rw [List.map_set]
  apply List.ext_getElem (by simp)
  intro j h1 h2
  rw [List.getElem_set]
  split
  · rename_i h; subst h; simp [e1, sk]
  · rfl
end
section
variable {w : World} {h₀ : Heap} {A : Around} {L : Addr} {l : Loc} {σ τ : St} {Q : V → Loc → St → Prop} {env : Env} {lo gl : List Str} {ce : List (Str × Addr)}
theorem dxs_of {rs rs' : List Rec} (h : rs'.map sk = rs.map sk) (a : Addr) : dxs rs' a ↔ dxs rs a := by unfold dxs; rw [sk_dxs h]
theorem ad_merge (G : Gnd w h₀) (r : Room A 2) {S : Sc} (I : ScAt σ S) {k : Int} (hbx : σ S.bux = some (.attrs (bufFs S k))) {rs : List Rec} (R : RowAt σ S.ra rs) (hn : Nd rs) (hz : rs.length ≤ 900) {b e : Nat} (hbe : b + 2 ≤ e) (he : e ≤ rs.length) :
    AD w h₀ A (.ref 250) [.ref S.bu, nv b, nv e] (fun v σ' => Keep (dxs rs) σ σ' ∧ v = .none ∧ ∃ rs', RowAt σ' S.ra rs' ∧ rs'.map sk = rs.map sk) σ := by
  refine d_call (fd := F250) (names := ["buffer", "begin", "end"]) (n := 1) G r (by kernel_rfl) (by kernel_rfl) (by rfl) (fun cs hv => ?_) (by decide +kernel) (by decide +kernel) (by decide +kernel) (by rfl) (by rfl) (by rfl) fun L A' hL r' => ?_
  · obtain ⟨t0, t1, t2, rfl⟩ := vl3 hv
    kernel_rfl
  with_reducible refine with_env ["buffer", "begin", "end", "least_cluster", "first", "behind", "info"] ["min", "widened", "set_cluster"] (by kernel_rfl) (by kernel_rfl) (by kernel_rfl) (by kernel_rfl) fun env O => ?_
  refine x_cons ?_
  repeat walk_at "v"
  with_reducible refine ⟨fun hlt => ?_, fun _ => ?_⟩
  · exfalso
    have := of_decide_eq_true hlt
    omega
  repeat walk_at "v"
  with_reducible refine e_callB G O (by decide +kernel) (by kernel_rfl) boot_min (by with_unfolding_all rfl) ?_
  repeat walk_at "v"
  with_reducible refine e_comp (closureFor_none (by decide)) (by with_unfolding_all rfl) (by decide +kernel) ?_ (by intro _; with_unfolding_all rfl)
  repeat walk_at "v"
  with_reducible refine g_bu_row G I hbx ?_
  repeat walk_at "v"
  intro c hc
  with_reducible refine s_slice (upd_old hc R.lst) (upd_self ..) (.int _) (.int _) (by rw [List.length_map]; omega) (picks_run _ b e (by rw [List.length_map]; exact he) (by omega)) (fun d hd => ?_) (by with_unfolding_all rfl)
  have sub1 : Sub σ (upd (upd σ c (AO.slice (nv b) (nv e))) d (.list (((rs.map fun e => V.ref e.1).drop b).take (e - b)))) := (sub_upd hc).trans (sub_upd hd)
  have hlen : (((rs.map fun e => V.ref e.1).drop b).take (e - b)).length = e - b := by simp; omega
  refine  co_loop (lo' := ["info"]) (gl' := []) (by decide) rfl (fun C => comp_env O _ _ (by kernel_rfl)) (by decide +kernel) (fun i acc σ' => ∃ ns : List Int, acc = ns.map V.int ∧ ns.length = i ∧ Sub (upd (upd σ c (AO.slice (nv b) (nv e))) d (.list (((rs.map fun e => V.ref e.1).drop b).take (e - b)))) σ') (Starts.list r'.hh (.int 0) (upd_self ..)) (fun _ _ h k => k.ap h) (by rw [hlen]; omega) ⟨[], rfl, rfl, Sub.refl _⟩
    (fun i acc σ' ⟨_, _, _, k⟩ => k.ap (upd_self ..)) ?_ ?_
  · rintro env' C D J i acc σ' OC hi ⟨ns, rfl, hns, hs⟩ P
    rw [hlen] at hi
    have hx := List.getElem?_eq_getElem (show b + i < rs.length by omega)
    have hitem : (((rs.map fun e => V.ref e.1).drop b).take (e - b)).getD i (.int 0) = .ref rs[b + i].1 := by
      rw [List.getD_eq_getElem?_getD, List.getElem?_take_of_lt hi, List.getElem?_drop, List.getElem?_map, hx]; rfl
    rw [hitem]
    with_reducible refine ts_nil ⟨fun _ => ?_, fun hc => (nomatch hc)⟩
    repeat walk_at "v"
    with_reducible refine g_cluster G ((((R.get hx).1.sub sub1).sub hs).sub (FR_sub P)) ?_
    refine  ⟨σ', Sub.refl _, P, ns ++ [rs[b + i].2.2.cl], by simp, by simp [hns], hs⟩
  · rintro D acc σ' ⟨ns, rfl, hns, hs⟩ hD hL'
    rw [hlen] at hns
    repeat walk_at "v"
    have hne : ns ≠ [] := by intro h; rw [h] at hns; simp at hns; omega
    with_reducible refine c_minl r'.hh (upd_self ..) hne fun M => ?_
    have sub2 : Sub σ (upd σ' D (.list (ns.map V.int))) := (sub1.trans hs).trans (sub_upd hD)
    with_reducible refine AXs.sub sub2 ?_
    with_reducible refine x_cons ?_
    with_reducible refine x_tuple ?_ (by with_unfolding_all rfl) (by with_unfolding_all rfl)
    with_reducible refine e_call (fa := 245) G O (by decide +kernel) (by kernel_rfl) (by kernel_rfl) (by with_unfolding_all rfl) ?_
    repeat walk_at "v"
    with_reducible refine g_bu_row G I hbx ?_
    repeat walk_at "v"
    refine  k_new (P := fun v σ' => ∃ (t : Addr) (f c : Nat), v = .ref t ∧ σ' t = some (.tup [nv f, nv c]) ∧ f ≤ b ∧ e ≤ c ∧ c ≤ rs.length) (fun off => (ad_widened G r' (R.sub (sub_upd off)) hz (by omega) (by omega) he).af) ?_ ?_
    · rintro v τ ⟨t, f, c, e1, e2, e3⟩ hτ
      exact ⟨t, f, c, e1, rm_get hτ e2 (by intro _ h; cases h), e3⟩
    rintro v τ hτ hτL ⟨t, f, c, rfl, ht, hf, hc1, hc2⟩
    with_reducible refine a_tuple r'.hh (by with_unfolding_all rfl) ht (by with_unfolding_all rfl) ?_
    repeat walk_at "v"
    with_reducible refine g_bu_row G (I.sub hτ) (hτ.ap hbx) ?_
    repeat walk_at "v"
    intro sl hsl
    have R1 := R.sub hτ
    with_reducible refine s_slice (upd_old hsl R1.lst) (upd_self ..) (.int _) (.int _) (by rw [List.length_map]; omega) (picks_run _ f c (by rw [List.length_map]; exact hc2) (by omega)) (fun d2 hd2 => ?_) (by with_unfolding_all rfl)
    have hlen2 : (((rs.map fun e => V.ref e.1).drop f).take (c - f)).length = c - f := by simp; omega
    have sub3 : Sub σ (upd (upd τ sl (AO.slice (nv f) (nv c))) d2 (.list (((rs.map fun e => V.ref e.1).drop f).take (c - f)))) := (hτ.trans (sub_upd hsl)).trans (sub_upd hd2)
    refine  f_loop (fun i l' σ' => locChk l' [("least_cluster", .int M)] ∧ σ' d2 = some (.list (((rs.map fun e => V.ref e.1).drop f).take (c - f))) ∧ Keep (dxs rs) σ σ' ∧ ∃ rs', RowAt σ' S.ra rs' ∧ rs'.map sk = rs.map sk)
      (Starts.list r'.hh (.int 0) (upd_self ..)) ⟨⟨rfl, trivial⟩, upd_self .., Keep.of sub3, rs, R.sub sub3, rfl⟩ (fun i l' σ' h => h.2.1) ?_ ?_
    · rintro J i l' σ' hi ⟨hl, hd2', hk, rs', R', hsk⟩ hJ hJL
      rw [hlen2] at hi
      have hx0 := List.getElem?_eq_getElem (show f + i < rs.length by omega)
      obtain ⟨x, hx, hxs⟩ := sk_get hsk hx0
      have hitem : (((rs.map fun e => V.ref e.1).drop f).take (c - f)).getD i (.int 0) = .ref x.1 := by
        rw [List.getD_eq_getElem?_getD, List.getElem?_take_of_lt hi, List.getElem?_drop, ← sk_refs hsk, List.getElem?_map, hx]; rfl
      rw [hitem]
      have hn' : Nd rs' := by unfold Nd; rw [sk_dxs hsk]; exact hn
      have Ix := (R'.get hx).1
      have hxJ : x.2.1 ≠ J := ne_of_none hJ Ix.2
      with_reducible refine AA.loc (locLe.of hl) ?_
      repeat walk_at "v"
      with_reducible refine e_call (fa := 238) G O (by decide +kernel) (by kernel_rfl) (by kernel_rfl) (by with_unfolding_all rfl) ?_
      repeat walk_at "v"
      refine  k_turn (R := fun v => v = .none) (upd_old hJ Ix.2) (fun off => (ad_set_cluster G r' ((Ix.sub (sub_upd hJ)).sub (sub_upd off))).af) fun v hv => ?_
      repeat walk_at "v"
      refine  turn_ok (σ := upd σ' x.2.1 (.attrs (infoFs { x.2.2 with cl := M }))) (upd_none hxJ.symm hJ) (by rw [upd_comm hxJ]; exact Sub.refl _) ⟨⟨rfl, trivial⟩, ?_, hk.upd (.inl ?_), _, R'.set hn' hx _, ?_⟩
      · rw [upd_ne (ne_ao hd2' Ix.2 (by simp))]; exact hd2'
      · exact (dxs_of hsk _).mp (List.mem_map.mpr ⟨x, List.mem_of_getElem? hx, rfl⟩)
      · rw [sk_set hx]; exact hsk
    · rintro l' σ' ⟨hl, hd2', hk, rs', R', hsk⟩
      repeat walk_at "v"
      exact ⟨σ', Sub.refl _, hk, rfl, rs', R', hsk⟩
end
section
variable {w : World} {h₀ : Heap} {A : Around} {L : Addr} {l : Loc} {σ τ : St} {Q : V → Loc → St → Prop} {env : Env} {lo gl : List Str} {ce : List (Str × Addr)}
theorem ad_tie_behind (G : Gnd w h₀) (r : Room A 1) {ra : Addr} {at_ lig ahead count : Int} : AD w h₀ A (.ref 409) [.ref ra, .int at_, .int 0, .int lig, .int ahead, .int count] (fun v σ' => v = .none ∧ σ' = σ) σ := by
  refine d_call (fd := F409) (names := ["row", "at", "old_id", "lig_id", "ahead", "count"]) (n := 0) G r (by kernel_rfl) (by kernel_rfl) (by rfl) (fun cs hv => ?_) (by decide +kernel) (by decide +kernel) (by decide +kernel) (by rfl) (by rfl) (by rfl) fun L A' hL r' => ?_
  · obtain ⟨t0, t1, t2, t3, t4, t5, rfl⟩ := vl6 hv
    kernel_rfl
  with_reducible refine with_env ["row", "at", "old_id", "lig_id", "ahead", "count", "spot"] ["len", "tie"] (by kernel_rfl) (by kernel_rfl) (by kernel_rfl) (by kernel_rfl) fun env O => ?_
  refine x_cons ?_
  repeat walk_at "v"
  with_reducible refine x_while (fun k l' σ' => σ' = σ ∧ locChk l' [("old_id", .int 0)]) 0 ?_ ?_
  · refine  ⟨rfl, rfl, trivial⟩
  rintro k l' σ' ⟨rfl, hl⟩
  with_reducible refine AT.loc (locLe.of hl) ?_
  repeat walk_at "v"
  with_reducible refine ⟨fun hc => absurd hc (by decide), fun _ => ?_⟩
  with_reducible refine ⟨fun hc => (nomatch hc), fun _ => ?_⟩
  repeat walk_at "v"
  exact ⟨_, Sub.refl _, rfl, rfl⟩
theorem f_last (P : Params) : Field (K P) 227 "last_lig" := ⟨by kernel_rfl⟩
theorem s_last_lig (S : Sc) (k v : Int) : setF (bufFs S k) ("last_lig" : Str) (.int v) = bufFs S v := by kernel_rfl
theorem ad_next_lig (G : Gnd w h₀) (r : Room A 1) {S : Sc} (I : ScAt σ S) {k : Int} (hb : σ S.bux = some (.attrs (bufFs S k))) : AD w h₀ A (.ref 217) [.ref S.bu] (fun v σ' => v = .int (k + 1) ∧ σ' = upd σ S.bux (.attrs (bufFs S (k + 1)))) σ := by
  refine d_call (fd := F217) (names := ["self"]) (n := 0) G r (by kernel_rfl) (by kernel_rfl) (by rfl) (fun cs hv => ?_) (by decide +kernel) (by decide +kernel) (by decide +kernel) (by rfl) (by rfl) (by rfl) fun L A' hL r' => ?_
  · obtain ⟨t0, rfl⟩ := vl1 hv
    kernel_rfl
  with_reducible refine with_env ["self"] [] (by kernel_rfl) (by kernel_rfl) (by kernel_rfl) (by kernel_rfl) fun env O => ?_
  refine x_cons ?_
  with_reducible refine x_attr G ?_ (by with_unfolding_all rfl)
  repeat walk_at "v"
  with_reducible refine g_bu_last G I hb ?_
  repeat walk_at "v"
  refine  ⟨S.bu, 227, S.bux, _, rfl, I.h_bu, hb, cls_Buffer _, f_last _, Nat.le_of_ble_eq_true rfl, ?_⟩
  rw [s_last_lig]
  repeat walk_at "v"
  refine  g_attr G (x := S.bu) (dx := S.bux) (by rw [upd_ne (ne_ao I.h_bu hb (by simp))]; exact I.h_bu) (upd_self ..) (u := .int (k + 1)) (by kernel_rfl) (cls_Buffer _) (f_last _) ?_
  exact ⟨_, Sub.refl _, rfl, rfl⟩
/-- infos tied as f says: no, or behind which part -/
noncomputable def tied (lig : Int) (f : Nat → Nat) (rs : List Rec) : List Rec := rs.mapIdx fun i e => (e.1, e.2.1, if f i = 0 then e.2.2 else { e.2.2 with id := lig, part := f i, cnt := 0 })
theorem tied_len (lig : Int) (f : Nat → Nat) (rs : List Rec) : (tied lig f rs).length = rs.length := by unfold tied; simp
theorem tied_get {lig : Int} {f : Nat → Nat} {rs : List Rec} {i : Nat} {e : Rec} (he : rs[i]? = some e) : (tied lig f rs)[i]? = some (e.1, e.2.1, if f i = 0 then e.2.2 else { e.2.2 with id := lig, part := f i, cnt := 0 }) := by
  unfold tied; rw [List.getElem?_mapIdx, he]; rfl
theorem tied_refs (lig : Int) (f : Nat → Nat) (rs : List Rec) : (tied lig f rs).map (fun e => V.ref e.1) = rs.map fun e => V.ref e.1 := by
  unfold tied
  apply List.ext_getElem (by simp)
  intro j h1 h2
  simp
theorem tied_dxs (lig : Int) (f : Nat → Nat) (rs : List Rec) : (tied lig f rs).map (fun e => e.2.1) = rs.map fun e => e.2.1 := by
  unfold tied
  apply List.ext_getElem (by simp)
  intro j h1 h2
  simp
theorem tied_zero (lig : Int) (rs : List Rec) : tied lig (fun _ => 0) rs = rs := by
  unfold tied
  apply List.ext_getElem (by simp)
  intro j h1 h2
  simp
theorem tied_set {lig : Int} {f : Nat → Nat} {rs : List Rec} {q k : Nat} {e : Rec} (he : rs[q]? = some e) (hq : f q = 0) (hk : k ≠ 0) :
    (tied lig f rs).set q (e.1, e.2.1, { e.2.2 with id := lig, part := k, cnt := 0 }) = tied lig (fun i => if i = q then k else f i) rs := by
  obtain ⟨hlt, e1⟩ := List.getElem?_eq_some_iff.mp he
  unfold tied
  apply List.ext_getElem (by simp)
  intro j h1 h2
  rw [List.getElem_set]
  split
  · rename_i h; subst h; simp [e1, hk]
  · rename_i h
    have : ¬ j = q := fun e => h e.symm
    simp [this]
theorem tied_congr {lig : Int} {f g : Nat → Nat} (rs : List Rec) (h : ∀ i, i < rs.length → f i = g i) : tied lig f rs = tied lig g rs := by
  unfold tied
  apply List.ext_getElem (by simp)
  intro j h1 h2
  simp [h j (by simpa using h1)]
/-- in which gap of the places does i lie? -/
noncomputable def gapIn (P : List Nat) : Nat → Nat → Nat
  | 0, _ => 0
  | s + 1, i => if P.getD s 0 < i ∧ i < P.getD (s + 1) 0 then s + 1 else gapIn P s i
theorem gapIn_lt (P : List Nat) (hP : ∀ s, s + 1 < P.length → P.getD s 0 < P.getD (s + 1) 0) : ∀ s, s < P.length → ∀ i, P.getD s 0 ≤ i → gapIn P s i = 0
  | 0, _, _, _ => rfl
  | s + 1, hs, i, hi => by
    unfold gapIn
    rw [if_neg (by omega)]
    exact gapIn_lt P hP s (by omega) i (by have := hP s hs; omega)
end
section
variable {w : World} {h₀ : Heap} {A : Around} {L : Addr} {l : Loc} {σ τ : St} {Q : V → Loc → St → Prop} {env : Env} {lo gl : List Str} {ce : List (Str × Addr)}
theorem fm_name3 {f : Expr → Option Str} {x y z : Expr} {a b c : Str} (h1 : f x = some a) (h2 : f y = some b) (h3 : f z = some c) : List.filterMap f [x, y, z] = [a, b, c] := by
  rw [List.filterMap_cons_some h1, List.filterMap_cons_some h2, List.filterMap_cons_some h3, List.filterMap_nil]
theorem swapped3 (O : EnvOk env L lo gl ce) {a b c : Str} {pa pb pc tp vp : Pos} {k k' : Nat} {e1 e2 e3 : Expr} (ha : a ∈ lo) (hb : b ∈ lo) (hc : c ∈ lo) (l1 : (pa.line == pa.line) = true) (l2 : (pb.line == pa.line) = true) (l3 : (pc.line == pa.line) = true)
    (hd : ([a, b, c].eraseDups.length != [a, b, c].length) = false) (hn : ([e1, e2, e3].any fun | .Starred .. => true | _ => false) = false) (hf : [e1, e2, e3].all (foldedForSure 8) = false) (hk : [e1, e2, e3].all (constantsAlone 8) = false) :
    swappedStores [.Tuple [.Name a pa, .Name b pb, .Name c pc] k tp] (.Tuple [e1, e2, e3] k' vp) env = pure (some [a, b, c]) := by
  have hbk : (env.blockKind != .function) = false := by unfold Env.blockKind; rw [O.kind]; decide
  have k1 := O.lo a ha
  have k2 := O.lo b hb
  have k3 := O.lo c hc
  refine  Eq.trans (b := ite _ (pure none) (ite _ (pure none) (ite _ (pure none) (ite _ (pure none) (ite _ _ _))))) rfl ?_
  rw [hbk]
  refine  (if_neg (fun hC => absurd (show false = true from hC) (by decide))).trans ?_
  refine  (if_neg fun hC => ?_).trans ?_
  · have : ([e1, e2, e3].any fun | .Starred .. => true | _ => false) = true := hC
    rw [hn] at this
    cases this
  rw [fm_name3 (a := a) (b := b) (c := c) (if_pos (show (env.kindOf a == some NameKind.local && pa.line == pa.line) = true by rw [k1, l1]; rfl)) (if_pos (show (env.kindOf b == some NameKind.local && pb.line == pa.line) = true by rw [k2, l2]; rfl)) (if_pos (show (env.kindOf c == some NameKind.local && pc.line == pa.line) = true by rw [k3, l3]; rfl))]
  refine  (if_neg fun hC => ?_).trans ?_
  · have : ([a, b, c].eraseDups.length != [a, b, c].length) = true := hC
    rw [hd] at this
    cases this
  rw [hf, hk]
  rfl
theorem x_swap3 (r : A.handled = none) (O : EnvOk env L lo gl ce) {a b c : Str} {elts : List Expr} {k : Nat} {tp p : Pos} {value : Expr} {Q : Fl → Loc → St → Prop} (ha : a ∈ lo) (hb : b ∈ lo) (hc : c ∈ lo)
    (hw : swappedStores [.Tuple elts k tp] value env = pure (some [a, b, c])) (hs : swapsWithSole [.Tuple elts k tp] value p.line env = pure false)
    (h : AE w h₀ A L env value (fun u l' σ' => ∃ t va vb vc, u = .ref t ∧ σ' t = some (.tup [va, vb, vc]) ∧ Q .next ((a, va) :: (b, vb) :: (c, vc) :: l') σ') l σ) :
    AX w h₀ A L env (.Assign [.Tuple elts k tp] value p) Q l σ := fun E s H => by
  refine  Assign_Tuple_swapped (AE.usev h H fun u tk h' tk' l' σ' H' ⟨t, va, vb, vc, e, ht, q⟩ => ?_) hs hw
  subst e
  obtain ⟨cs, hl, hv⟩ := H'.mod.isTup ht
  match cs, hv with
  | [ca, cb, cc], ⟨⟨ta, ea⟩, ⟨tb, eb⟩, ⟨tc, ec⟩, _⟩ =>
    refine  unpackItems_tuple (items := #[ca, cb, cc]) (s := { s with heap := h', toks := tk' }) r hl fun h2 he => ?_
    have H2 := ModL.keeps (h' := h2) H' fun b o e => he b o (Nat.ne_of_lt (Heap.lt_size e)) e
    show wpAny _ _ (assignInOrder [fun v => bindName env c v, fun v => bindName env b v, fun v => bindName env a v] [cc, cb, ca]) _ _ _
    subst ea eb ec
    refine  wpAny_assignInOrder_more (bindName_ (AW.use (a_store (t := tc) (Q := fun l' σ' => AW w h₀ A L (assignInOrder [fun v => bindName env b v, fun v => bindName env a v] [vb.to tb, va.to ta]) (fun _ l' σ' => Q .next l' σ') l' σ') O hc ?_) (s := { s with heap := h2, toks := tk' }) H2 fun _ h3 tk3 l3 σ3 H3 q3 => AW.use q3 H3 fun _ _ _ _ _ H q => ⟨_, _, _, _, rfl, H, .next, rfl, q⟩))
    intro E s H
    refine  wpAny_assignInOrder_more (bindName_ (AW.use (a_store (t := tb) (Q := fun l' σ' => AW w h₀ A L (assignInOrder [fun v => bindName env a v] [va.to ta]) (fun _ l' σ' => Q .next l' σ') l' σ') O hb ?_) H fun _ h3 tk3 l3 σ3 H3 q3 => AW.use q3 H3 fun _ _ _ _ _ H q => ⟨_, _, _, _, rfl, H, q⟩))
    intro E s H
    refine  wpAny_assignInOrder_more (bindName_ (AW.use (a_store (t := ta) (Q := fun l' σ' => Q .next l' σ') O ha q) H fun _ h3 tk3 l3 σ3 H3 q3 => ?_))
    exact wpAny_assignInOrder_none ⟨_, _, _, _, rfl, H3, q3⟩
end
section
variable {w : World} {h₀ : Heap} {A : Around} {L : Addr} {l : Loc} {σ τ : St} {Q : V → Loc → St → Prop} {env : Env} {lo gl : List Str} {ce : List (Str × Addr)}
theorem boot_range : bootBuiltins "range" = some (.type "range") := by decide +kernel
theorem getD_nat {P : List Nat} {i : Nat} (h : i < P.length) : (P.map nv)[i]? = some (nv (P.getD i 0)) := by
  rw [List.getElem?_map, List.getD_eq_getElem?_getD, List.getElem?_eq_getElem h]; rfl
theorem s_list0 {o i : Expr} {a : Addr} {vs : List V} {v : V} (ha : σ a = some (.list vs)) (hv : vs[0]? = some v) (q : Q v l σ)
    (hs : ∀ t, subscripted i false (.ref a) (.int 0 t) = operate [.ref a, .int 0 t] (getItem (.ref a) (.int 0 t)) := by intro _; with_unfolding_all rfl) : AB w h₀ A L (subscriptTail o i) (.ref a) (.int 0) Q l σ :=
  s_list ha (by decide) (by decide) hv q hs
theorem last_split {P : List Nat} (h : P.length ≠ 0) : ∃ Q q, P = Q ++ [q] := by
  rcases List.eq_nil_or_concat P with e | ⟨Q, q, e⟩
  · rw [e] at h; exact absurd rfl h
  · exact ⟨Q, q, by simpa using e⟩
theorem ad_tie_all (G : Gnd w h₀) (r : Room A 2) {ra pa : Addr} {rs : List Rec} (R : RowAt σ ra rs) (hn : Nd rs) (hz : rs.length ≤ 900) {P : List Nat} (hp : σ pa = some (.list (P.map nv))) (hzP : P.length ≤ 900) (h1 : 1 ≤ P.length)
    (hP : ∀ s, s + 1 < P.length → P.getD s 0 < P.getD (s + 1) 0) (hb : ∀ s, s < P.length → P.getD s 0 < rs.length) (fresh : ∀ i e, P.getD 0 0 ≤ i → i ≤ P.getD (P.length - 1) 0 → rs[i]? = some e → e.2.2.id = 0 ∧ e.2.2.part = 0 ∧ e.2.2.cnt = 0) {lig : Int} :
    AD w h₀ A (.ref 416) [.ref ra, .ref pa, .str "ligature", .int lig] (fun v σ' => Keep (dxs rs) σ σ' ∧ v = nv P.length ∧ RowAt σ' ra (tied lig (gapIn P (P.length - 1)) rs)) σ := by
  have mono : ∀ s t, s ≤ t → t < P.length → P.getD s 0 ≤ P.getD t 0 := fun s t hst => by
    induction t with
    | zero => intro _; rw [show s = 0 by omega]; exact Nat.le_refl _
    | succ t ih =>
      intro ht
      rcases Nat.lt_or_ge s (t + 1) with c | c
      · have := ih (by omega) (by omega)
        have := hP t ht
        omega
      · rw [show s = t + 1 by omega]; exact Nat.le_refl _
  have place : ∀ s, s < P.length → ∃ e, rs[P.getD s 0]? = some e ∧ e.2.2.id = 0 ∧ e.2.2.part = 0 ∧ e.2.2.cnt = 0 := fun s hs => by
    have := List.getElem?_eq_getElem (hb s hs)
    exact ⟨_, this, fresh _ _ (mono 0 s (Nat.zero_le _) hs) (mono s _ (by omega) (by omega)) this⟩
  obtain ⟨e0, he0, f1, f2, f3⟩ := place 0 (by omega)
  have hb0 := hb 0 (by omega)
  refine d_call (fd := F416) (names := ["row", "places", "way", "lig_id"]) (n := 1) G r (by kernel_rfl) (by kernel_rfl) (by rfl) (fun cs hv => ?_) (by decide +kernel) (by decide +kernel) (by decide +kernel) (by rfl) (by rfl) (by rfl) fun L A' hL r' => ?_
  · obtain ⟨t0, t1, t2, t3, rfl⟩ := vl4 hv
    kernel_rfl
  with_reducible refine with_env ["row", "places", "way", "lig_id", "last", "ahead", "count", "old_id", "spot", "passed"] ["part_count", "len", "range", "tie", "tie_behind"] (by kernel_rfl) (by kernel_rfl) (by kernel_rfl) (by kernel_rfl) fun env O => ?_
  refine x_cons ?_
  repeat walk_at "v"
  with_reducible refine s_list0 hp (getD_nat (by omega)) ?_ (by intro _; with_unfolding_all rfl)
  with_reducible refine s_listN R.lst (by omega) (R.get he0).2 ?_ (by intro _; with_unfolding_all rfl)
  repeat walk_at "v"
  with_reducible refine x_swap3 r'.hh O (by decide +kernel) (by decide +kernel) (by decide +kernel) (swapped3 O (by decide +kernel) (by decide +kernel) (by decide +kernel) (by with_unfolding_all rfl) (by with_unfolding_all rfl) (by with_unfolding_all rfl) (by decide +kernel) (by with_unfolding_all rfl) (by decide +kernel) (by decide +kernel)) (by with_unfolding_all rfl) ?_
  repeat walk_at "v"
  with_reducible refine e_call (fa := 390) G O (by decide +kernel) (by kernel_rfl) (by kernel_rfl) (by with_unfolding_all rfl) ?_
  repeat walk_at "v"
  with_reducible refine k_ret (fun τ k => ad_part_count G r' ((R.get he0).1.sub k)) ?_
  repeat walk_at "v"
  with_reducible refine g_lig_id G (R.get he0).1 ?_
  repeat walk_at "v"
  with_reducible refine ⟨by simp, fun t ht => ?_⟩
  refine  ⟨t, _, _, _, rfl, upd_self .., ?_⟩
  rw [f1, f3, if_pos (by decide)]
  with_reducible refine AXs.sub (sub_upd ht) ?_
  repeat walk_at "v"
  with_reducible refine e_callT G O (by decide +kernel) (by kernel_rfl) boot_range (by with_unfolding_all rfl) ?_
  repeat walk_at "v"
  with_reducible refine e_callB G O (by decide +kernel) (by kernel_rfl) boot_len (by with_unfolding_all rfl) ?_
  repeat walk_at "v"
  with_reducible refine c_len hp (by rw [List.length_map]; omega) ?_
  repeat walk_at "v"
  with_reducible refine c_range2 fun rg hrg => ?_
  rw [List.length_map]
  refine  f_loop (fun i l' σ' => locChk l' [("row", .ref ra), ("places", .ref pa), ("way", .str "ligature"), ("lig_id", .int lig), ("ahead", .int (i : Int)), ("count", .int 1), ("old_id", .int 0)] ∧ Keep (dxs rs) σ σ' ∧ RowAt σ' ra (tied lig (gapIn P i) rs) ∧ σ' pa = some (.list (P.map nv)))
    (Starts.range r'.hh (upd_self ..) (small_one (by decide) (by decide) (by omega) (by omega))) ⟨⟨rfl, rfl, rfl, rfl, rfl, rfl, rfl, trivial⟩, Keep.of (sub_upd hrg), by show RowAt _ ra (tied lig (fun _ => 0) rs); rw [tied_zero]; exact R.sub (sub_upd hrg), upd_old hrg hp⟩ (fun _ _ _ _ => trivial) ?_ ?_
  · rintro I i l' σ' hi ⟨hl, hk, R', hp'⟩ hI hIL
    have hi' : i + 1 < P.length := by omega
    rw [show ((1 : Int) + (i : Int)) = ((i + 1 : Nat) : Int) by omega]
    with_reducible refine AA.loc (locLe.of hl) ?_
    repeat walk_at "v"
    with_reducible refine ⟨fun _ => ?_, fun hc => absurd hc (by decide +kernel)⟩
    have hbi := hb i (by omega)
    have hbi1 := hb (i + 1) hi'
    have hPi := hP i hi'
    have hpI := upd_old (x := rit 1 ((P.length : Int) - 1).toNat (i + 1)) hI hp'
    repeat walk_at "v"
    with_reducible refine e_callT G O (by decide +kernel) (by kernel_rfl) boot_range (by with_unfolding_all rfl) ?_
    repeat walk_at "v"
    rw [show (((i + 1 : Nat) : Int) - 1) = (i : Int) by omega]
    with_reducible refine s_listN hpI (by omega) (getD_nat (by omega)) ?_ (by intro _; with_unfolding_all rfl)
    repeat walk_at "v"
    with_reducible refine s_listN hpI (by omega) (getD_nat hi') ?_ (by intro _; with_unfolding_all rfl)
    repeat walk_at "v"
    with_reducible refine c_range2 fun rg2 hrg2 => ?_
    have hIrg : I ≠ rg2 := by rintro rfl; rw [upd_self] at hrg2; cases hrg2
    refine  f_loop (fun j l'' σ'' => locChk l'' [("row", .ref ra), ("places", .ref pa), ("way", .str "ligature"), ("lig_id", .int lig), ("ahead", .int (i : Int)), ("count", .int 1), ("old_id", .int 0), ("spot", nv (i + 1))] ∧ ∃ σ3, σ'' = upd (upd σ3 I (rit 1 ((P.length : Int) - 1).toNat (i + 1))) rg2 (.range ((P.getD i 0 : Nat) + 1) (P.getD (i + 1) 0 : Nat)) ∧ σ3 I = none ∧ (upd σ3 I (rit 1 ((P.length : Int) - 1).toNat (i + 1))) rg2 = none ∧ Keep (dxs rs) σ σ3 ∧ RowAt σ3 ra (tied lig (fun x => if P.getD i 0 < x ∧ x < P.getD i 0 + 1 + j then i + 1 else gapIn P i x) rs) ∧ σ3 pa = some (.list (P.map nv)))
      (Starts.range r'.hh (upd_self ..) (small_one (by omega) (by omega) (by omega) (by omega))) ⟨⟨rfl, rfl, rfl, rfl, rfl, rfl, rfl, rfl, trivial⟩, σ', rfl, hI, hrg2, hk, ?_, hp'⟩ (fun _ _ _ _ => trivial) ?_ ?_
    · rw [tied_congr (g := gapIn P i) rs fun x hx => by rw [if_neg (by omega)]]
      exact R'
    · rintro I2 j l2 σ2 hj ⟨hl2, σ3, rfl, h3I, h3r, hk3, R3, hp3⟩ hI2 hI2L
      have hj' : P.getD i 0 + 1 + j < P.getD (i + 1) 0 := by omega
      rw [show (((P.getD i 0 : Nat) : Int) + 1 + (j : Int)) = ((P.getD i 0 + 1 + j : Nat) : Int) by omega]
      have hx0 := List.getElem?_eq_getElem (show P.getD i 0 + 1 + j < rs.length by omega)
      have hfz : (fun x => if P.getD i 0 < x ∧ x < P.getD i 0 + 1 + j then i + 1 else gapIn P i x) (P.getD i 0 + 1 + j) = 0 := by
        dsimp only
        rw [if_neg (by omega)]
        exact gapIn_lt P hP i (by omega) _ (by omega)
      have hx := tied_get (lig := lig) (f := fun x => if P.getD i 0 < x ∧ x < P.getD i 0 + 1 + j then i + 1 else gapIn P i x) hx0
      rw [if_pos hfz] at hx
      have hfr := fresh _ _ (by have := mono 0 i (Nat.zero_le _) (by omega); omega) (by have := mono (i + 1) (P.length - 1) (by omega) (by omega); omega) hx0
      have Ix := (R3.get hx).1
      have sub : Sub σ3 (upd (upd (upd σ3 I (rit 1 ((P.length : Int) - 1).toNat (i + 1))) rg2 (.range ((P.getD i 0 : Nat) + 1) (P.getD (i + 1) 0 : Nat))) I2 (rit ((P.getD i 0 : Nat) + 1) (((P.getD (i + 1) 0 : Nat) : Int) - ((P.getD i 0 : Nat) + 1)).toNat (j + 1))) := ((sub_upd h3I).trans (sub_upd h3r)).trans (sub_upd hI2)
      have Ix' := Ix.sub sub
      with_reducible refine AA.loc (locLe.of hl2) ?_
      repeat walk_at "v"
      with_reducible refine e_call (fa := 402) G O (by decide +kernel) (by kernel_rfl) (by kernel_rfl) (by with_unfolding_all rfl) ?_
      repeat walk_at "v"
      with_reducible refine s_listN (R3.sub sub).lst (by omega) (R3.get hx).2 ?_ (by intro _; with_unfolding_all rfl)
      repeat walk_at "v"
      refine  k_turn (R := fun v => v = .none) Ix'.2 (fun off => (ad_tie G r' (Ix'.sub (sub_upd off))).af) fun v hv => ?_
      repeat walk_at "v"
      have hne1 : (rs[P.getD i 0 + 1 + j]).2.1 ≠ I := ne_of_none h3I Ix.2
      have hne2 : (rs[P.getD i 0 + 1 + j]).2.1 ≠ rg2 := ne_of_none h3r (upd_old h3I Ix.2)
      have hne3 : (rs[P.getD i 0 + 1 + j]).2.1 ≠ I2 := ne_of_none hI2 (upd_old h3r (upd_old h3I Ix.2))
      have hti : tieInf lig (i : Int) 1 (rs[P.getD i 0 + 1 + j]).2.2 = { (rs[P.getD i 0 + 1 + j]).2.2 with id := lig, part := ((i + 1 : Nat) : Int), cnt := 0 } := by
        unfold tieInf
        rw [hfr.2.1]
        simp
      refine  turn_ok (σ := upd (upd (upd σ3 (rs[P.getD i 0 + 1 + j]).2.1 (.attrs (infoFs (tieInf lig (i : Int) 1 (rs[P.getD i 0 + 1 + j]).2.2)))) I (rit 1 ((P.length : Int) - 1).toNat (i + 1))) rg2 (.range ((P.getD i 0 : Nat) + 1) (P.getD (i + 1) 0 : Nat))) ?_ ?_ ⟨⟨rfl, rfl, rfl, rfl, rfl, rfl, rfl, rfl, trivial⟩, _, rfl, upd_none hne1.symm h3I, ?_, hk3.upd (.inl (List.mem_map.mpr ⟨_, List.mem_of_getElem? hx0, rfl⟩)), ?_, ?_⟩
      · rw [upd_comm hne1, upd_comm hne2, upd_ne hne3.symm]; exact hI2
      · rw [upd_comm hne1, upd_comm hne2, upd_comm hne3]; exact Sub.refl _
      · rw [upd_comm hne1, upd_ne hne2.symm]; exact h3r
      · have := R3.set (by unfold Nd; rw [tied_dxs]; exact hn) hx (tieInf lig (i : Int) 1 (rs[P.getD i 0 + 1 + j]).2.2)
        dsimp only at this
        rw [hti] at this ⊢
        rw [tied_set hx0 hfz (by omega)] at this
        rw [tied_congr (g := fun x => if x = P.getD i 0 + 1 + j then i + 1 else if P.getD i 0 < x ∧ x < P.getD i 0 + 1 + j then i + 1 else gapIn P i x) rs fun x hx => ?_]
        · exact this
        · by_cases c1 : x = P.getD i 0 + 1 + j
          · rw [if_pos c1, if_pos (by omega)]
          · rw [if_neg c1]
            by_cases c2 : P.getD i 0 < x ∧ x < P.getD i 0 + 1 + j
            · rw [if_pos c2, if_pos (by omega)]
            · rw [if_neg c2, if_neg (by omega)]
      · rw [upd_ne (ne_ao hp3 Ix.2 (by simp))]; exact hp3
    · rintro l2 σ2 ⟨hl2, σ3, rfl, h3I, h3r, hk3, R3, hp3⟩
      rw [tied_congr (g := gapIn P (i + 1)) rs fun x hx => by
        rw [gapIn]
        by_cases c2 : P.getD i 0 < x ∧ x < P.getD (i + 1) 0
        · rw [if_pos c2, if_pos (by omega)]
        · rw [if_neg c2, if_neg (by omega)]] at R3
      obtain ⟨e2, he2, g1, g2, g3⟩ := place (i + 1) hi'
      have hx := tied_get (lig := lig) (f := gapIn P (i + 1)) he2
      rw [if_pos (gapIn_lt P hP (i + 1) hi' _ (Nat.le_refl _))] at hx
      have sub : Sub σ3 (upd (upd σ3 I (rit 1 ((P.length : Int) - 1).toNat (i + 1))) rg2 (.range ((P.getD i 0 : Nat) + 1) (P.getD (i + 1) 0 : Nat))) := (sub_upd h3I).trans (sub_upd h3r)
      have Ix := (R3.get hx).1.sub sub
      with_reducible refine AXs.loc (locLe.of hl2) ?_
      repeat walk_at "v"
      with_reducible refine s_listN (sub.ap hp3) (by omega) (getD_nat hi') ?_ (by intro _; with_unfolding_all rfl)
      with_reducible refine s_listN (R3.sub sub).lst (by omega) (R3.get hx).2 ?_ (by intro _; with_unfolding_all rfl)
      repeat walk_at "v"
      with_reducible refine x_swap3 r'.hh O (by decide +kernel) (by decide +kernel) (by decide +kernel) (swapped3 O (by decide +kernel) (by decide +kernel) (by decide +kernel) (by with_unfolding_all rfl) (by with_unfolding_all rfl) (by with_unfolding_all rfl) (by decide +kernel) (by with_unfolding_all rfl) (by decide +kernel) (by decide +kernel)) (by with_unfolding_all rfl) ?_
      repeat walk_at "v"
      with_reducible refine e_call (fa := 390) G O (by decide +kernel) (by kernel_rfl) (by kernel_rfl) (by with_unfolding_all rfl) ?_
      repeat walk_at "v"
      with_reducible refine k_ret (fun τ k => ad_part_count G r' (Ix.sub k)) ?_
      repeat walk_at "v"
      with_reducible refine g_lig_id G Ix ?_
      repeat walk_at "v"
      with_reducible refine ⟨by simp, fun t ht => ?_⟩
      refine  ⟨t, _, _, _, rfl, upd_self .., ?_⟩
      dsimp only
      rw [g1, g3, if_pos (by decide)]
      repeat walk_at "v"
      refine  turn_ok h3I ((sub_upd h3r).trans (sub_upd ht)) ⟨⟨rfl, rfl, rfl, rfl, by rw [show ((i + 1 : Nat) : Int) = (i : Int) + 1 by omega]; rfl, rfl, rfl, trivial⟩, hk3, R3, hp3⟩
  · rintro l' σ' ⟨hl, hk, R', hp'⟩
    have hlen : ((P.length : Int) - 1).toNat = P.length - 1 := by omega
    rw [hlen] at hl R'
    with_reducible refine AXs.loc (locLe.of hl) ?_
    repeat walk_at "v"
    with_reducible refine ⟨fun _ => ?_, fun hc => absurd hc (by decide +kernel)⟩
    repeat walk_at "v"
    with_reducible refine e_call (fa := 409) G O (by decide +kernel) (by kernel_rfl) (by kernel_rfl) (by with_unfolding_all rfl) ?_
    repeat walk_at "v"
    obtain ⟨Pr, pl, hPr⟩ := last_split (by omega : P.length ≠ 0)
    have hv1 : P.map nv = Pr.map nv ++ [nv pl] := by rw [hPr]; simp
    have hv2 : (Pr.map nv).length ≤ 1000 := by have := congrArg List.length hPr; simp at this; rw [List.length_map]; omega
    rw [hv1] at hp'
    with_reducible refine s_last hp' hv2 ?_ (by intro _; with_unfolding_all rfl)
    repeat walk_at "v"
    with_reducible refine k_ret (fun τ k => ad_tie_behind G r') ?_
    repeat walk_at "v"
    refine  ⟨σ', Sub.refl _, hk, ?_, R'⟩
    show V.int _ = _
    congr 1
    omega
end
section
variable {w : World} {h₀ : Heap} {A : Around} {L : Addr} {l : Loc} {σ τ : St} {Q : V → Loc → St → Prop} {env : Env} {lo gl : List Str} {ce : List (Str × Addr)}
theorem cls_not3 {g : Int} (h : g ≠ 9) : (cls g != 3) = true := by
  rw [cls3]; simpa using h
theorem ad_way_of (G : Gnd w h₀) (r : Room A 3) {S : Sc} (I : ScAt σ S) {ga : Addr} {g0 g1 : Int} {gs : List Int} (hg : σ ga = some (.list ((g0 :: g1 :: gs).map V.int))) (hz : gs.length ≤ 900) (h9 : ∀ g ∈ g1 :: gs, g ≠ 9) :
    AD w h₀ A (.ref 395) [.ref S.gd, .ref ga] (fun v σ' => v = .str "ligature" ∧ σ' = σ) σ := by
  refine  d_callC (fd := F395) (names := ["gdef", "glyphs"]) (n := 2) G r [("glyphs", .ref ga)] (fun L => [("gdef", L + 1, .cell (.ref S.gd))]) (by kernel_rfl) (by kernel_rfl) (by rfl) (fun cs hv => ?_) (by rfl) (fun n x hx => ?_) (fun L cs hv p hp => ?_) (fun L cs hv p hp => ?_) (by rfl) (by rfl) (by rfl) fun L A' hL hcl r' => ?_
  · obtain ⟨t0, t1, rfl⟩ := vl2 hv
    kernel_rfl
  · rcases List.mem_cons.mp hx with rfl | hx
    · exact .inr ⟨by kernel_rfl, by kernel_rfl⟩
    rcases List.mem_cons.mp hx with rfl | hx
    · exact .inl (by kernel_rfl)
    · cases hx
  · obtain ⟨t0, t1, rfl⟩ := vl2 hv
    rcases List.mem_cons.mp hp with rfl | hp
    · exact ⟨t1, by kernel_rfl⟩
    · cases hp
  · obtain ⟨t0, t1, rfl⟩ := vl2 hv
    rcases List.mem_cons.mp hp with rfl | hp
    · exact ⟨by kernel_rfl, t0, by kernel_rfl⟩
    · cases hp
  obtain ⟨hc1, hc2⟩ := hcl _ (.head _)
  dsimp only at hc1 hc2
  have hsc : Sub σ (upd σ (L + 1) (.cell (.ref S.gd))) := sub_upd hc1
  with_reducible refine with_envC ["glyphs"] ["BASE_ligature", "MARK"] [("gdef", L + 1)] (by kernel_rfl) (by kernel_rfl) (by kernel_rfl) (by kernel_rfl) (fun p hp => ?_) fun env O hk => ?_
  · rcases List.mem_cons.mp hp with rfl | hp
    · exact ⟨by kernel_rfl, by kernel_rfl⟩
    · cases hp
  show AXs w h₀ A' L env _ _ _ (upd σ (L + 1) (.cell (.ref S.gd)))
  refine  x_cons ?_
  repeat walk_at "v"
  with_reducible refine e_comp (closureFor_is O (by kernel_rfl)) (by with_unfolding_all rfl) (by decide +kernel) ?_ (by intro _; with_unfolding_all rfl)
  repeat walk_at "v"
  intro c hc
  have hgz : ((g0 :: g1 :: gs).map V.int).length = gs.length + 2 := by simp
  refine  s_slice (us := (g1 :: gs).map V.int) (upd_old hc (hsc.ap hg)) (upd_self ..) (.int 1) .none (by rw [hgz]; omega) (picks_tail (V.int g0) ((g1 :: gs).map V.int)) (fun d hd => ?_) (by with_unfolding_all rfl)
  have sub1 : Sub σ (upd (upd (upd σ (L + 1) (.cell (.ref S.gd))) c (.slice (.int 1) .none)) d (.list ((g1 :: gs).map V.int))) := (hsc.trans (sub_upd hc)).trans (sub_upd hd)
  have hcell : upd (upd (upd σ (L + 1) (.cell (.ref S.gd))) c (.slice (.int 1) .none)) d (.list ((g1 :: gs).map V.int)) (L + 1) = some (.cell (.ref S.gd)) := upd_old hd (upd_old hc (upd_self ..))
  have hgl : ((g1 :: gs).map V.int).length = gs.length + 1 := by simp
  refine  co_loop (lo' := ["glyph"]) (gl' := ["MARK"]) (ce' := [("gdef", L + 1)]) (by decide) rfl (fun C => comp_envC O _ _ _ (by kernel_rfl) (fun p hp => ?_)) (by decide +kernel) (fun i acc σ' => acc.length = i ∧ Sub (upd (upd (upd σ (L + 1) (.cell (.ref S.gd))) c (.slice (.int 1) .none)) d (.list ((g1 :: gs).map V.int))) σ') (Starts.list r'.hh (.int 0) (upd_self ..)) (fun _ _ h k => k.ap h) (by rw [hgl]; omega) ⟨rfl, Sub.refl _⟩
    (fun i acc σ' h => h.2.ap (upd_self ..)) ?_ ?_
  · rcases List.mem_cons.mp hp with rfl | hp
    · exact ⟨by kernel_rfl, by kernel_rfl⟩
    · cases hp
  · rintro env' C D J i acc σ' OC hi ⟨hacc, hs⟩ P
    rw [hgl] at hi
    have hi' : i < (g1 :: gs).length := by simpa using hi
    rw [getD_map (d' := 0) hi']
    have hg9 : (g1 :: gs).getD i 0 ≠ 9 := by
      rw [List.getD_eq_getElem?_getD, List.getElem?_eq_getElem hi']
      exact h9 _ (List.getElem_mem hi')
    have sFR := FR_sub (l := [("glyphs", .ref ga)]) (acc := acc) (x := AO.liter d (i + 1)) P
    with_reducible refine ts_one ?_
    repeat walk_at "v"
    with_reducible refine e_cell OC (List.mem_cons_self ..) (sFR.ap (hs.ap hcell)) ?_ (by decide +kernel) (by decide +kernel)
    intro t
    with_reducible refine m_inst (f := 319) G (((I.sub sub1).sub hs).sub sFR).h_gd (((I.sub sub1).sub hs).sub sFR).h_gdx (cls_Gdef _) (by kernel_rfl) (by kernel_rfl) (by kernel_rfl) ?_ t
    with_reducible refine cw_K G (by kernel_rfl) (by with_unfolding_all rfl) ?_
    repeat walk_at "v"
    with_reducible refine kf_of (k_ret (fun τ k => ad_glyph_class G r' ((((I.sub sub1).sub hs).sub sFR).sub k)) ?_)
    with_reducible refine e_glob G OC (by decide +kernel) (gl_mark _) ?_
    repeat walk_at "v"
    rw [cls_not3 hg9]
    with_reducible refine ⟨fun _ => ?_, fun hc => (nomatch hc)⟩
    repeat walk_at "v"
    refine  ⟨σ', Sub.refl _, P, by simp [hacc], hs⟩
  · rintro D acc σ' ⟨hacc, hs⟩ hD hL'
    rw [hgl] at hacc
    repeat walk_at "v"
    with_reducible refine ⟨by simp, fun em hem => ?_⟩
    with_reducible refine b_ne_len (by have := r'.u; omega) (upd_old hem (upd_self ..)) (upd_self ..) (by rw [hacc]; simp) ?_
    repeat walk_at "v"
    with_reducible refine ⟨fun _ => ?_, fun hc => (nomatch hc)⟩
    repeat walk_at "v"
    refine  ⟨σ, ((sub1.trans hs).trans (sub_upd hD)).trans (sub_upd hem), rfl, rfl⟩
end
section
variable {w : World} {h₀ : Heap} {A : Around} {L : Addr} {l : Loc} {σ τ : St} {Q : V → Loc → St → Prop} {env : Env} {lo gl : List Str} {ce : List (Str × Addr)}
theorem Keep.row {σ τ : St} {ra a : Addr} {rs : List Rec} {x : AO} (k : Keep (dxs rs) σ τ) (R : RowAt σ ra rs) (e : σ a = some x) (hx : ∀ r, x ≠ .attrs (infoFs r)) : τ a = some x :=
  k a x (fun h => by obtain ⟨r, er⟩ := R.dxs h; rw [e] at er; cases er; exact hx r rfl) e
theorem fs_ne {l : Loc} {x : Str} {v : V} {r : Inf} (h : x ≠ "code") : ((x, v) :: l) ≠ infoFs r := fun e => by
  unfold infoFs at e
  injection e with e1 e2
  injection e1 with e3 e4
  exact h e3
theorem ScAt.row {σ τ : St} {ra : Addr} {rs : List Rec} {S : Sc} (I : ScAt σ S) (k : Keep (dxs rs) σ τ) (R : RowAt σ ra rs) : ScAt τ S where
  h_sc := k.row R I.h_sc (fun _ h => by cases h)
  h_scx := k.row R I.h_scx (fun _ h => fs_ne (by decide) (AO.attrs.inj h))
  h_gd := k.row R I.h_gd (fun _ h => by cases h)
  h_gdx := k.row R I.h_gdx (fun _ h => fs_ne (by decide) (AO.attrs.inj h))
  h_lk := k.row R I.h_lk (fun _ h => by cases h)
  h_lkx := k.row R I.h_lkx (fun _ h => fs_ne (by decide) (AO.attrs.inj h))
  h_cd := k.row R I.h_cd (fun _ h => by cases h)
  h_cdx := k.row R I.h_cdx (fun _ h => fs_ne (by decide) (AO.attrs.inj h))
  h_tab := k.row R I.h_tab (fun _ h => by cases h)
  h_tabx := k.row R I.h_tabx (fun _ h => fs_ne (by decide) (AO.attrs.inj h))
  h_bu := k.row R I.h_bu (fun _ h => by cases h)
  h_cdd := k.row R I.h_cdd (fun _ h => by cases h)
  h_tabd := k.row R I.h_tabd (fun _ h => by cases h)
  h_lst := k.row R I.h_lst (fun _ h => by cases h)
  h_p7 := k.row R I.h_p7 (fun _ h => by cases h)
  h_p6 := k.row R I.h_p6 (fun _ h => by cases h)
  h_t22 := k.row R I.h_t22 (fun _ h => by cases h)
  h_t2 := k.row R I.h_t2 (fun _ h => by cases h)
/-- what is none of the scene's things -/
noncomputable def NotSc (σ : St) (S : Sc) (a : Addr) : Prop := (∃ x v l, σ a = some (.attrs ((x, v) :: l)) ∧ x ≠ "buffer" ∧ x ≠ "classes" ∧ x ≠ "kind" ∧ x ≠ "sets") ∨ (∃ vs, σ a = some (.list vs) ∧ ∀ r, vs ≠ .ref S.p7 :: r)
theorem ScAt.keep {σ τ : St} {S : Sc} {T : Addr → Prop} (I : ScAt σ S) (k : Keep T σ τ) (hT : ∀ a, T a → NotSc σ S a) : ScAt τ S where
  h_sc := k _ _ (fun h => by
    rcases hT _ h with ⟨x, v, l, e, n1, n2, n3, n4⟩ | ⟨vs, e, n⟩
    · rw [I.h_sc] at e; first | (cases e; done) | (injection e with e; injection e with e; injection e with e e'; injection e with e e''; subst e; first | exact n1 rfl | exact n2 rfl | exact n3 rfl | exact n4 rfl)
    · rw [I.h_sc] at e; first | (cases e; done) | (cases e; exact n _ rfl)) I.h_sc
  h_scx := k _ _ (fun h => by
    rcases hT _ h with ⟨x, v, l, e, n1, n2, n3, n4⟩ | ⟨vs, e, n⟩
    · rw [I.h_scx] at e; unfold scFs at e; first | (cases e; done) | (injection e with e; injection e with e; injection e with e e'; injection e with e e''; subst e; first | exact n1 rfl | exact n2 rfl | exact n3 rfl | exact n4 rfl)
    · rw [I.h_scx] at e; first | (cases e; done) | (cases e; exact n _ rfl)) I.h_scx
  h_gd := k _ _ (fun h => by
    rcases hT _ h with ⟨x, v, l, e, n1, n2, n3, n4⟩ | ⟨vs, e, n⟩
    · rw [I.h_gd] at e; first | (cases e; done) | (injection e with e; injection e with e; injection e with e e'; injection e with e e''; subst e; first | exact n1 rfl | exact n2 rfl | exact n3 rfl | exact n4 rfl)
    · rw [I.h_gd] at e; first | (cases e; done) | (cases e; exact n _ rfl)) I.h_gd
  h_gdx := k _ _ (fun h => by
    rcases hT _ h with ⟨x, v, l, e, n1, n2, n3, n4⟩ | ⟨vs, e, n⟩
    · rw [I.h_gdx] at e; unfold gdFs at e; first | (cases e; done) | (injection e with e; injection e with e; injection e with e e'; injection e with e e''; subst e; first | exact n1 rfl | exact n2 rfl | exact n3 rfl | exact n4 rfl)
    · rw [I.h_gdx] at e; first | (cases e; done) | (cases e; exact n _ rfl)) I.h_gdx
  h_lk := k _ _ (fun h => by
    rcases hT _ h with ⟨x, v, l, e, n1, n2, n3, n4⟩ | ⟨vs, e, n⟩
    · rw [I.h_lk] at e; first | (cases e; done) | (injection e with e; injection e with e; injection e with e e'; injection e with e e''; subst e; first | exact n1 rfl | exact n2 rfl | exact n3 rfl | exact n4 rfl)
    · rw [I.h_lk] at e; first | (cases e; done) | (cases e; exact n _ rfl)) I.h_lk
  h_lkx := k _ _ (fun h => by
    rcases hT _ h with ⟨x, v, l, e, n1, n2, n3, n4⟩ | ⟨vs, e, n⟩
    · rw [I.h_lkx] at e; unfold lkFs at e; first | (cases e; done) | (injection e with e; injection e with e; injection e with e e'; injection e with e e''; subst e; first | exact n1 rfl | exact n2 rfl | exact n3 rfl | exact n4 rfl)
    · rw [I.h_lkx] at e; first | (cases e; done) | (cases e; exact n _ rfl)) I.h_lkx
  h_cd := k _ _ (fun h => by
    rcases hT _ h with ⟨x, v, l, e, n1, n2, n3, n4⟩ | ⟨vs, e, n⟩
    · rw [I.h_cd] at e; first | (cases e; done) | (injection e with e; injection e with e; injection e with e e'; injection e with e e''; subst e; first | exact n1 rfl | exact n2 rfl | exact n3 rfl | exact n4 rfl)
    · rw [I.h_cd] at e; first | (cases e; done) | (cases e; exact n _ rfl)) I.h_cd
  h_cdx := k _ _ (fun h => by
    rcases hT _ h with ⟨x, v, l, e, n1, n2, n3, n4⟩ | ⟨vs, e, n⟩
    · rw [I.h_cdx] at e; unfold cdFs at e; first | (cases e; done) | (injection e with e; injection e with e; injection e with e e'; injection e with e e''; subst e; first | exact n1 rfl | exact n2 rfl | exact n3 rfl | exact n4 rfl)
    · rw [I.h_cdx] at e; first | (cases e; done) | (cases e; exact n _ rfl)) I.h_cdx
  h_tab := k _ _ (fun h => by
    rcases hT _ h with ⟨x, v, l, e, n1, n2, n3, n4⟩ | ⟨vs, e, n⟩
    · rw [I.h_tab] at e; first | (cases e; done) | (injection e with e; injection e with e; injection e with e e'; injection e with e e''; subst e; first | exact n1 rfl | exact n2 rfl | exact n3 rfl | exact n4 rfl)
    · rw [I.h_tab] at e; first | (cases e; done) | (cases e; exact n _ rfl)) I.h_tab
  h_tabx := k _ _ (fun h => by
    rcases hT _ h with ⟨x, v, l, e, n1, n2, n3, n4⟩ | ⟨vs, e, n⟩
    · rw [I.h_tabx] at e; unfold tabFs at e; first | (cases e; done) | (injection e with e; injection e with e; injection e with e e'; injection e with e e''; subst e; first | exact n1 rfl | exact n2 rfl | exact n3 rfl | exact n4 rfl)
    · rw [I.h_tabx] at e; first | (cases e; done) | (cases e; exact n _ rfl)) I.h_tabx
  h_bu := k _ _ (fun h => by
    rcases hT _ h with ⟨x, v, l, e, n1, n2, n3, n4⟩ | ⟨vs, e, n⟩
    · rw [I.h_bu] at e; first | (cases e; done) | (injection e with e; injection e with e; injection e with e e'; injection e with e e''; subst e; first | exact n1 rfl | exact n2 rfl | exact n3 rfl | exact n4 rfl)
    · rw [I.h_bu] at e; first | (cases e; done) | (cases e; exact n _ rfl)) I.h_bu
  h_cdd := k _ _ (fun h => by
    rcases hT _ h with ⟨x, v, l, e, n1, n2, n3, n4⟩ | ⟨vs, e, n⟩
    · rw [I.h_cdd] at e; first | (cases e; done) | (injection e with e; injection e with e; injection e with e e'; injection e with e e''; subst e; first | exact n1 rfl | exact n2 rfl | exact n3 rfl | exact n4 rfl)
    · rw [I.h_cdd] at e; first | (cases e; done) | (cases e; exact n _ rfl)) I.h_cdd
  h_tabd := k _ _ (fun h => by
    rcases hT _ h with ⟨x, v, l, e, n1, n2, n3, n4⟩ | ⟨vs, e, n⟩
    · rw [I.h_tabd] at e; first | (cases e; done) | (injection e with e; injection e with e; injection e with e e'; injection e with e e''; subst e; first | exact n1 rfl | exact n2 rfl | exact n3 rfl | exact n4 rfl)
    · rw [I.h_tabd] at e; first | (cases e; done) | (cases e; exact n _ rfl)) I.h_tabd
  h_lst := k _ _ (fun h => by
    rcases hT _ h with ⟨x, v, l, e, n1, n2, n3, n4⟩ | ⟨vs, e, n⟩
    · rw [I.h_lst] at e; first | (cases e; done) | (injection e with e; injection e with e; injection e with e e'; injection e with e e''; subst e; first | exact n1 rfl | exact n2 rfl | exact n3 rfl | exact n4 rfl)
    · rw [I.h_lst] at e; first | (cases e; done) | (cases e; exact n _ rfl)) I.h_lst
  h_p7 := k _ _ (fun h => by
    rcases hT _ h with ⟨x, v, l, e, n1, n2, n3, n4⟩ | ⟨vs, e, n⟩
    · rw [I.h_p7] at e; first | (cases e; done) | (injection e with e; injection e with e; injection e with e e'; injection e with e e''; subst e; first | exact n1 rfl | exact n2 rfl | exact n3 rfl | exact n4 rfl)
    · rw [I.h_p7] at e; first | (cases e; done) | (cases e; exact n _ rfl)) I.h_p7
  h_p6 := k _ _ (fun h => by
    rcases hT _ h with ⟨x, v, l, e, n1, n2, n3, n4⟩ | ⟨vs, e, n⟩
    · rw [I.h_p6] at e; first | (cases e; done) | (injection e with e; injection e with e; injection e with e e'; injection e with e e''; subst e; first | exact n1 rfl | exact n2 rfl | exact n3 rfl | exact n4 rfl)
    · rw [I.h_p6] at e; first | (cases e; done) | (cases e; exact n _ rfl)) I.h_p6
  h_t22 := k _ _ (fun h => by
    rcases hT _ h with ⟨x, v, l, e, n1, n2, n3, n4⟩ | ⟨vs, e, n⟩
    · rw [I.h_t22] at e; first | (cases e; done) | (injection e with e; injection e with e; injection e with e e'; injection e with e e''; subst e; first | exact n1 rfl | exact n2 rfl | exact n3 rfl | exact n4 rfl)
    · rw [I.h_t22] at e; first | (cases e; done) | (cases e; exact n _ rfl)) I.h_t22
  h_t2 := k _ _ (fun h => by
    rcases hT _ h with ⟨x, v, l, e, n1, n2, n3, n4⟩ | ⟨vs, e, n⟩
    · rw [I.h_t2] at e; first | (cases e; done) | (injection e with e; injection e with e; injection e with e e'; injection e with e e''; subst e; first | exact n1 rfl | exact n2 rfl | exact n3 rfl | exact n4 rfl)
    · rw [I.h_t2] at e; first | (cases e; done) | (cases e; exact n _ rfl)) I.h_t2
theorem RowAt.notSc {σ : St} {ra a : Addr} {rs : List Rec} {S : Sc} (R : RowAt σ ra rs) (h : Mine.dxs rs a) : NotSc σ S a := by
  obtain ⟨r, e⟩ := R.dxs h
  exact .inl ⟨"code", _, _, e, by decide, by decide, by decide, by decide⟩
theorem bux_notSc {σ : St} {S : Sc} {k : Int} (hb : σ S.bux = some (.attrs (bufFs S k))) : NotSc σ S S.bux := .inl ⟨"row", _, _, hb, by decide, by decide, by decide, by decide⟩
theorem ra_notSc {σ : St} {S : Sc} {rs : List Rec} (I : ScAt σ S) (R : RowAt σ S.ra rs) (h : 0 < rs.length) : NotSc σ S S.ra := by
  match rs, R, h with
  | e :: r, R, _ => exact .inr ⟨_, R.lst, fun q hq => ne_ao (R.obj e (.head _)).1 I.h_p7 (by simp) (by rw [List.map_cons] at hq; injection hq with h1 _; injection h1)⟩
theorem RowAt.keep {σ τ : St} {ra : Addr} {rs : List Rec} {T : Addr → Prop} (R : RowAt σ ra rs) (k : Keep T σ τ) (h1 : ¬ T ra) (h2 : ∀ e ∈ rs, ¬ T e.1 ∧ ¬ T e.2.1) : RowAt τ ra rs :=
  ⟨k _ _ h1 R.lst, fun e he => ⟨k _ _ (h2 e he).1 (R.obj e he).1, k _ _ (h2 e he).2 (R.obj e he).2⟩⟩
theorem keep_one {σ : St} {d : Addr} {x : AO} : Keep (fun a => a = d) σ (Mine.upd σ d x) := (Keep.refl _ _).upd (.inl rfl)
theorem last_nat {P : List Nat} (h : 1 ≤ P.length) : ∃ Q : List Nat, P.map nv = Q.map nv ++ [nv (P.getD (P.length - 1) 0)] ∧ Q.length + 1 = P.length := by
  obtain ⟨Q, q, e⟩ := last_split (by omega : P.length ≠ 0)
  with_reducible refine ⟨Q, ?_, by rw [e]; simp⟩
  rw [e]
  simp
theorem sk_inf {e e' : Rec} (h : sk e' = sk e) : e'.1 = e.1 ∧ e'.2.1 = e.2.1 ∧ e'.2.2.g = e.2.2.g ∧ e'.2.2.id = e.2.2.id ∧ e'.2.2.part = e.2.2.part ∧ e'.2.2.cnt = e.2.2.cnt := by
  unfold sk at h
  injection h with h1 h2
  injection h2 with h2 h3
  injection h3 with h3 h4 h5 h6 h7
  exact ⟨h1, h2, h3, h5, h6, h7⟩
theorem sub_same {σ τ : St} {d : Addr} {x : AO} (h : Sub σ τ) (e : τ d = some x) : Sub σ (Mine.upd τ d x) := fun a y h' => by
  by_cases c : a = d
  · subst c; have := h _ _ h'; rw [e] at this; cases this; exact upd_self ..
  · rw [upd_ne c]; exact h _ _ h'
/-- the row behind a join -/
noncomputable def keepSpot (P : List Nat) (s : Nat) : Bool := s == P.getD 0 0 || !P.contains s
noncomputable def headInf (g id n : Int) (x : Inf) : Inf := { x with g := g, id := id, part := 0, cnt := n }
noncomputable def turnAt (rs : List Rec) (i : Nat) (f : Inf → Inf) : List Rec := match rs[i]? with
  | some e => rs.set i (e.1, e.2.1, f e.2.2)
  | none => rs
noncomputable def segOf (P : List Nat) (rs : List Rec) (m : Nat) : List Rec := (((List.range m).map fun i => P.getD 0 0 + i).filter (keepSpot P)).filterMap fun s => rs[s]?
noncomputable def joinRow (g id : Int) (P : List Nat) (rs : List Rec) : List Rec :=
  let rf := turnAt (tied id (gapIn P (P.length - 1)) rs) (P.getD 0 0) (headInf g id P.length)
  let z := P.getD (P.length - 1) 0 + 1
  rf.take (P.getD 0 0) ++ segOf P rf (z - P.getD 0 0) ++ rf.drop z
theorem segOf_succ (P : List Nat) (rs : List Rec) (m : Nat) {e : Rec} (he : rs[P.getD 0 0 + m]? = some e) : segOf P rs (m + 1) = if keepSpot P (P.getD 0 0 + m) then segOf P rs m ++ [e] else segOf P rs m := by
  unfold segOf
  rw [List.range_succ, List.map_append, List.filter_append, List.filterMap_append]
  generalize P.getD 0 0 = q at he ⊢
  by_cases c : keepSpot P (q + m) = true
  · rw [if_pos c]
    simp [c, he]
  · rw [if_neg c]
    simp [c]
theorem seg_mem {P : List Nat} {rs : List Rec} {m : Nat} {e : Rec} (h : e ∈ segOf P rs m) : e ∈ rs := by
  unfold segOf at h
  obtain ⟨s, _, hs⟩ := List.mem_filterMap.mp h
  exact List.mem_of_getElem? hs
theorem seg_len {P : List Nat} {rs : List Rec} {m : Nat} : (segOf P rs m).length ≤ m := by
  unfold segOf
  with_reducible refine Nat.le_trans (List.length_filterMap_le _ _) (Nat.le_trans (List.length_filter_le _ _) ?_)
  simp
theorem turnAt_is {rs : List Rec} {i : Nat} {e : Rec} (he : rs[i]? = some e) (f : Inf → Inf) : turnAt rs i f = rs.set i (e.1, e.2.1, f e.2.2) := by unfold turnAt; rw [he]
theorem any_nat (P : List Nat) (s : Nat) : ((P.map fun n : Nat => (n : Int)).any fun x => x == (s : Int)) = P.contains s := by
  induction P with
  | nil => rfl
  | cons a r ih =>
    rw [List.map_cons, List.any_cons, ih, List.contains_cons]
    congr 1
    by_cases c : a = s
    · subst c; simp
    · rw [show ((a : Int) == (s : Int)) = false from by rw [beq_eq_false_iff_ne]; intro e; exact c (by omega), show (s == a) = false from by simpa using fun e => c e.symm]
theorem nv_map (P : List Nat) : P.map nv = (P.map fun n : Nat => (n : Int)).map V.int := by rw [List.map_map]; rfl
theorem ad_join (G : Gnd w h₀) (r : Room A 5) {S : Sc} (I : ScAt σ S) {k : Int} (hbx : σ S.bux = some (.attrs (bufFs S k))) {rs : List Rec} (R : RowAt σ S.ra rs) (hn : Nd rs) (hz : rs.length ≤ 400) {pa : Addr} {P : List Nat} (hp : σ pa = some (.list (P.map nv))) (hzP : P.length ≤ 400) (h2 : 2 ≤ P.length)
    (hP : ∀ s, s + 1 < P.length → P.getD s 0 < P.getD (s + 1) 0) (hb : ∀ s, s < P.length → P.getD s 0 < rs.length) (fresh : ∀ i e, P.getD 0 0 ≤ i → i ≤ P.getD (P.length - 1) 0 → rs[i]? = some e → e.2.2.id = 0 ∧ e.2.2.part = 0 ∧ e.2.2.cnt = 0)
    (h9 : ∀ s e, 1 ≤ s → s < P.length → rs[P.getD s 0]? = some e → e.2.2.g ≠ 9) {g : Int} :
    AD w h₀ A (.ref 421) [.ref S.sc, .ref pa, .int g] (fun v σ' => Keep (fun a => dxs rs a ∨ a = S.bux ∨ a = S.ra) σ σ' ∧ v = .none ∧ σ' S.bux = some (.attrs (bufFs S (k + 1))) ∧ ∃ rs1, rs1.map sk = rs.map sk ∧ RowAt σ' S.ra (joinRow g (k + 1) P rs1)) σ := by
  refine  d_callC (fd := F421) (names := ["scene", "places", "ligature"]) (n := 4) G r [("scene", .ref S.sc), ("ligature", .int g)] (fun L => [("places", L + 1, .cell (.ref pa)), ("row", L + 2, .cell0)]) (by kernel_rfl) (by kernel_rfl) (by rfl) (fun cs hv => ?_) (by rfl) (fun n x hx => ?_) (fun L cs hv p hp => ?_) (fun L cs hv p hp => ?_) (by rfl) (by rfl) (by rfl) fun L A' hL hcl r' => ?_
  · obtain ⟨t0, t1, t2, rfl⟩ := vl3 hv
    kernel_rfl
  · rcases List.mem_cons.mp hx with rfl | hx
    · exact .inl (by kernel_rfl)
    rcases List.mem_cons.mp hx with rfl | hx
    · exact .inr ⟨by kernel_rfl, by kernel_rfl⟩
    rcases List.mem_cons.mp hx with rfl | hx
    · exact .inl (by kernel_rfl)
    · cases hx
  · obtain ⟨t0, t1, t2, rfl⟩ := vl3 hv
    rcases List.mem_cons.mp hp with rfl | hp
    · exact ⟨t0, by kernel_rfl⟩
    rcases List.mem_cons.mp hp with rfl | hp
    · exact ⟨t2, by kernel_rfl⟩
    · cases hp
  · obtain ⟨t0, t1, t2, rfl⟩ := vl3 hv
    rcases List.mem_cons.mp hp with rfl | hp
    · exact ⟨by kernel_rfl, t1, by kernel_rfl⟩
    rcases List.mem_cons.mp hp with rfl | hp
    · exact ⟨by kernel_rfl, by show bindC _ _ _ _ = none; kernel_rfl⟩
    · cases hp
  have hc1 : σ (L + 1) = none := (hcl ("places", L + 1, .cell (.ref pa)) (.head _)).1
  have hc2 : σ (L + 2) = none := (hcl ("row", L + 2, .cell0) (.tail _ (.head _))).1
  with_reducible refine with_envC ["scene", "ligature", "buffer", "way", "lig_id", "total", "first"] ["way_of", "merge", "tie_all", "range"] [("places", L + 1), ("row", L + 2)] (by kernel_rfl) (by kernel_rfl) (by kernel_rfl) (by kernel_rfl) (fun p hp => ?_) fun env O hk => ?_
  · rcases List.mem_cons.mp hp with rfl | hp
    · exact ⟨by kernel_rfl, by kernel_rfl⟩
    rcases List.mem_cons.mp hp with rfl | hp
    · exact ⟨by kernel_rfl, by kernel_rfl⟩
    · cases hp
  have hkr : env.kindOf "row" = some .cell := hk ("row", L + 2) (.tail _ (.head _))
  have mp : (("places" : Str), L + 1) ∈ [(("places" : Str), L + 1), (("row" : Str), L + 2)] := .head _
  have mr : (("row" : Str), L + 2) ∈ [(("places" : Str), L + 1), (("row" : Str), L + 2)] := .tail _ (.head _)
  show AXs w h₀ A' L env _ _ _ (upd (upd σ (L + 1) (.cell (.ref pa))) (L + 2) .cell0)
  have hc2' : upd σ (L + 1) (.cell (.ref pa)) (L + 2) = none := upd_none (Nat.ne_of_gt (Nat.lt_succ_self (L + 1))) hc2
  have hs0 : Sub σ (upd (upd σ (L + 1) (.cell (.ref pa))) (L + 2) .cell0) := (sub_upd hc1).trans (sub_upd hc2')
  refine  x_cons ?_
  repeat walk_at "v"
  with_reducible refine g_sc_buffer G (I.sub hs0) ?_
  repeat walk_at "v"
  with_reducible refine x_cell O mr hkr ?_ (by with_unfolding_all rfl)
  repeat walk_at "v"
  with_reducible refine g_bu_row G (I.sub hs0) (hs0.ap hbx) ?_
  with_reducible refine ⟨.cell0, upd_self .., .inl rfl, ?_⟩
  rw [upd_upd]
  generalize hσ1 : upd (upd σ (L + 1) (.cell (.ref pa))) (L + 2) (.cell (.ref S.ra)) = σ1
  have hs1 : Sub σ σ1 := by rw [← hσ1]; exact (sub_upd hc1).trans (sub_upd hc2')
  have cp : σ1 (L + 1) = some (.cell (.ref pa)) := by rw [← hσ1]; exact upd_old hc2' (upd_self ..)
  have cr : σ1 (L + 2) = some (.cell (.ref S.ra)) := by rw [← hσ1]; exact upd_self ..
  have I1 := I.sub hs1
  have R1 := R.sub hs1
  have hp1 := hs1.ap hp
  have hbx1 := hs1.ap hbx
  repeat walk_at "v"
  with_reducible refine e_call (fa := 395) G O (by decide +kernel) (by kernel_rfl) (by kernel_rfl) (by with_unfolding_all rfl) ?_
  repeat walk_at "v"
  with_reducible refine g_sc_gdef G I1 ?_
  repeat walk_at "v"
  with_reducible refine e_comp (closureFor_is O (by kernel_rfl)) (by with_unfolding_all rfl) (by decide +kernel) ?_ (by intro _; with_unfolding_all rfl)
  with_reducible refine e_cell O mp cp ?_ (by decide +kernel) (by decide +kernel)
  have hPl : (P.map nv).length = P.length := by simp
  have place : ∀ i, i < P.length → ∃ e, rs[P.getD i 0]? = some e := fun i hi => ⟨_, List.getElem?_eq_getElem (hb i hi)⟩
  let gl0 : Nat → Int := fun i => (((rs[P.getD i 0]?).map fun e : Rec => e.2.2.g).getD 0)
  refine  co_loop (lo' := ["place"]) (gl' := []) (ce' := [("row", L + 2)]) (by decide) rfl (fun C => comp_envC O _ _ _ (by kernel_rfl) (fun p hp => ?_)) (by decide +kernel) (fun i acc σ' => acc = ((List.range i).map gl0).map V.int ∧ Sub σ1 σ') (Starts.list r'.hh (.int 0) hp1) (fun _ _ h k => k.ap h) (by rw [hPl]; omega) ⟨rfl, Sub.refl _⟩
    (fun i acc σ' h => h.2.ap hp1) ?_ ?_
  · rcases List.mem_cons.mp hp with rfl | hp
    · exact ⟨by kernel_rfl, by kernel_rfl⟩
    · cases hp
  · rintro env' C D J i acc σ' OC hi ⟨rfl, hs⟩ PF
    rw [hPl] at hi
    rw [getD_map (d' := 0) hi]
    obtain ⟨e, he⟩ := place i hi
    have hbi := hb i hi
    with_reducible refine ts_nil ⟨fun _ => ?_, fun hc => (nomatch hc)⟩
    repeat walk_at "v"
    with_reducible refine e_cell OC (List.mem_cons_self ..) ((FR_sub PF).ap (hs.ap cr)) ?_ (by decide +kernel) (by decide +kernel)
    repeat walk_at "v"
    with_reducible refine s_listN ((R1.sub hs).sub (FR_sub PF)).lst (by omega) (R1.get he).2 ?_ (by intro _; with_unfolding_all rfl)
    with_reducible refine g_glyph G (((R1.get he).1.sub hs).sub (FR_sub PF)) ?_
    refine  ⟨σ', Sub.refl _, PF, ?_, hs⟩
    have : gl0 i = e.2.2.g := by show (((rs[P.getD i 0]?).map fun e : Rec => e.2.2.g).getD 0) = _; rw [he]; rfl
    rw [List.range_succ, List.map_append, List.map_append, List.map_singleton, List.map_singleton, this]
  rintro D acc σ' ⟨rfl, hs⟩ hD hL'
  rw [hPl]
  repeat walk_at "v"
  have hgs : ∃ g0 g1 gs, (List.range P.length).map gl0 = g0 :: g1 :: gs ∧ gs.length ≤ 900 ∧ ∀ x ∈ g1 :: gs, x ≠ 9 := by
    obtain ⟨m, hm⟩ : ∃ m, P.length = m + 2 := ⟨P.length - 2, by omega⟩
    with_reducible refine ⟨gl0 0, gl0 1, (List.range m).map (fun i => gl0 (i + 2)), ?_, by simp; omega, fun x hx => ?_⟩
    · rw [hm, List.range_succ_eq_map, List.range_succ_eq_map]
      simp [Function.comp_def]
    · have : ∃ s, 1 ≤ s ∧ s < P.length ∧ x = gl0 s := by
        rcases List.mem_cons.mp hx with rfl | hx
        · exact ⟨1, by omega, by omega, rfl⟩
        · obtain ⟨i, hi, rfl⟩ := List.mem_map.mp hx
          exact ⟨i + 2, by omega, by have := List.mem_range.mp hi; omega, rfl⟩
      obtain ⟨s, s1, s2, rfl⟩ := this
      obtain ⟨e, he⟩ := place s s2
      have : gl0 s = e.2.2.g := by show (((rs[P.getD s 0]?).map fun e : Rec => e.2.2.g).getD 0) = _; rw [he]; rfl
      rw [this]
      exact h9 s e s1 s2 he
  obtain ⟨g0, g1, gs, egs, hgz, hg9⟩ := hgs
  rw [egs]
  with_reducible refine k_ret (fun τ k => ad_way_of G (r'.less (by omega)) ((I1.sub (hs.trans (sub_upd hD))).sub k) (k.ap (upd_self ..)) hgz hg9) ?_
  with_reducible refine AXs.sub (hs.trans (sub_upd hD)) ?_
  repeat walk_at "v"
  with_reducible refine e_call (fa := 250) G O (by decide +kernel) (by kernel_rfl) (by kernel_rfl) (by with_unfolding_all rfl) ?_
  repeat walk_at "v"
  with_reducible refine e_cell O mp cp ?_ (by decide +kernel) (by decide +kernel)
  repeat walk_at "v"
  with_reducible refine s_list0 hp1 (getD_nat (by omega)) ?_ (by intro _; with_unfolding_all rfl)
  repeat walk_at "v"
  with_reducible refine e_cell O mp cp ?_ (by decide +kernel) (by decide +kernel)
  repeat walk_at "v"
  obtain ⟨Pq, hPq, hPq'⟩ := last_nat (by omega : 1 ≤ P.length)
  have hp1' : σ1 pa = some (.list (Pq.map nv ++ [nv (P.getD (P.length - 1) 0)])) := by rw [← hPq]; exact hp1
  have mono : ∀ s t, s ≤ t → t < P.length → P.getD s 0 ≤ P.getD t 0 := fun s t hst => by
    induction t with
    | zero => intro _; rw [show s = 0 by omega]; exact Nat.le_refl _
    | succ t ih =>
      intro ht
      rcases Nat.lt_or_ge s (t + 1) with c | c
      · have := ih (by omega) (by omega)
        have := hP t ht
        omega
      · rw [show s = t + 1 by omega]; exact Nat.le_refl _
  have hfl : P.getD 0 0 + 2 ≤ P.getD (P.length - 1) 0 + 1 := by
    have h1 : P.getD 0 0 < P.getD 1 0 := hP 0 (by omega)
    have h2 := mono 1 (P.length - 1) (by omega) (by omega)
    omega
  have hll := hb (P.length - 1) (by omega)
  with_reducible refine s_last hp1' (by rw [List.length_map]; omega) ?_ (by intro _; with_unfolding_all rfl)
  repeat walk_at "v"
  rw [show ((P.getD (P.length - 1) 0 : Nat) : Int) + 1 = ((P.getD (P.length - 1) 0 + 1 : Nat) : Int) by omega]
  refine  k_keep (S := dxs rs) (P := fun v σ' => v = .none ∧ ∃ rs', RowAt σ' S.ra rs' ∧ rs'.map sk = rs.map sk) R1.dxs' (fun off => (ad_merge G (r'.less (by omega)) (I1.sub (sub_upd off)) ((sub_upd off).ap hbx1) (R1.sub (sub_upd off)) hn (by omega) hfl (by omega)).af) ?_ ?_
  · rintro v τ ⟨e, rs', R', hsk⟩ hτ
    exact ⟨e, rs', R'.rm hτ, hsk⟩
  rintro v σ2 kk hσ2L ⟨_, rs1, R2, hsk⟩
  have cp2 := kk.row R1 cp (fun _ h => by cases h)
  have cr2 := kk.row R1 cr (fun _ h => by cases h)
  have hp2 := kk.row R1 hp1 (fun _ h => by cases h)
  have hbx2 := kk.row R1 hbx1 (fun _ h => fs_ne (by decide) (AO.attrs.inj h))
  have I2 := I1.keep kk fun a h => R1.notSc h
  have hlen1 := sk_len hsk
  have hn1 : Nd rs1 := by unfold Nd; rw [sk_dxs hsk]; exact hn
  repeat walk_at "v"
  with_reducible refine ⟨fun _ => ?_, fun hc => absurd hc (by decide +kernel)⟩
  repeat walk_at "v"
  intro t
  with_reducible refine m_inst (f := 217) G I2.h_bu hbx2 (cls_Buffer _) (by kernel_rfl) (by kernel_rfl) (by kernel_rfl) ?_ t
  with_reducible refine cw_K G (by kernel_rfl) (by with_unfolding_all rfl) ?_
  repeat walk_at "v"
  refine  kf_of (k_turn (R := fun v => v = .int (k + 1)) hbx2 (fun off => (ad_next_lig G (r'.less (by omega)) (I2.sub (sub_upd off)) ((sub_upd off).ap hbx2)).af) fun v hv => ?_)
  subst hv
  have hnb : ∀ {a : Addr} {y : AO}, σ2 a = some y → y ≠ .attrs (bufFs S k) → ¬ a = S.bux := fun {a y} e n h => by subst h; rw [hbx2] at e; cases e; exact n rfl
  generalize hσ3 : upd σ2 S.bux (.attrs (bufFs S (k + 1))) = σ3
  have k3 : Keep (fun a => a = S.bux) σ2 σ3 := by rw [← hσ3]; exact keep_one
  have cp3 := k3 _ _ (hnb cp2 (by simp)) cp2
  have cr3 := k3 _ _ (hnb cr2 (by simp)) cr2
  have hp3 := k3 _ _ (hnb hp2 (by simp)) hp2
  have hbx3 : σ3 S.bux = some (.attrs (bufFs S (k + 1))) := by rw [← hσ3]; exact upd_self ..
  have I3 := I2.keep k3 fun a h => by subst h; exact bux_notSc hbx2
  have R3 : RowAt σ3 S.ra rs1 := R2.keep k3 (hnb R2.lst (by simp)) fun e he => ⟨hnb (R2.obj e he).1 (by simp), hnb (R2.obj e he).2 (fun h => fs_ne (by decide) (AO.attrs.inj h).symm)⟩
  have hdx : ∀ a, dxs rs1 a ↔ dxs rs a := dxs_of hsk
  have fresh1 : ∀ i e, P.getD 0 0 ≤ i → i ≤ P.getD (P.length - 1) 0 → rs1[i]? = some e → e.2.2.id = 0 ∧ e.2.2.part = 0 ∧ e.2.2.cnt = 0 := fun i e h1 h2 he => by
    obtain ⟨e0, he0, hs0⟩ := sk_get hsk.symm he
    obtain ⟨_, _, _, q1, q2, q3⟩ := sk_inf hs0
    have := fresh i e0 h1 h2 he0
    rw [q1, q2, q3] at this
    exact this
  repeat walk_at "v"
  with_reducible refine e_call (fa := 416) G O (by decide +kernel) (by kernel_rfl) (by kernel_rfl) (by with_unfolding_all rfl) ?_
  repeat walk_at "v"
  with_reducible refine e_cell O mr cr3 ?_ (by decide +kernel) (by decide +kernel)
  repeat walk_at "v"
  with_reducible refine e_cell O mp cp3 ?_ (by decide +kernel) (by decide +kernel)
  repeat walk_at "v"
  refine  k_keep (S := dxs rs1) (P := fun v σ' => v = nv P.length ∧ RowAt σ' S.ra (tied (k + 1) (gapIn P (P.length - 1)) rs1)) R3.dxs' (fun off => (ad_tie_all G (r'.less (by omega)) (R3.sub (sub_upd off)) hn1 (by omega) ((sub_upd off).ap hp3) (by omega) (by omega) hP (fun s hs => by rw [hlen1]; exact hb s hs) fresh1).af) ?_ ?_
  · rintro v τ ⟨e, R'⟩ hτ
    exact ⟨e, R'.rm hτ⟩
  rintro v σ4 k4 hσ4L ⟨rfl, R4⟩
  have cp4 := k4.row R3 cp3 (fun _ h => by cases h)
  have cr4 := k4.row R3 cr3 (fun _ h => by cases h)
  have hp4 := k4.row R3 hp3 (fun _ h => by cases h)
  have hbx4 := k4.row R3 hbx3 (fun _ h => fs_ne (by decide) (AO.attrs.inj h))
  have I4 := I3.keep k4 fun a h => R3.notSc h
  have hb0 := hb 0 (by omega)
  obtain ⟨e0, he0⟩ : ∃ e, rs1[P.getD 0 0]? = some e := ⟨_, List.getElem?_eq_getElem (by omega)⟩
  have hx4 := tied_get (lig := k + 1) (f := gapIn P (P.length - 1)) he0
  have hgz : gapIn P (P.length - 1) (P.getD 0 0) = 0 := by
    have : ∀ s, s < P.length → gapIn P s (P.getD 0 0) = 0 := fun s => by
      induction s with
      | zero => intro _; rfl
      | succ s ih =>
        intro hs
        unfold gapIn
        rw [if_neg (by have := mono 0 s (Nat.zero_le _) (by omega); omega)]
        exact ih (by omega)
    exact this _ (by omega)
  rw [if_pos hgz] at hx4
  have Ie := (R4.get hx4).1
  repeat walk_at "v"
  with_reducible refine e_cell O mr cr4 ?_ (by decide +kernel) (by decide +kernel)
  repeat walk_at "v"
  with_reducible refine e_cell O mp cp4 ?_ (by decide +kernel) (by decide +kernel)
  repeat walk_at "v"
  with_reducible refine s_list0 hp4 (getD_nat (by omega)) ?_ (by intro _; with_unfolding_all rfl)
  with_reducible refine s_listN R4.lst (by omega) (R4.get hx4).2 ?_ (by intro _; with_unfolding_all rfl)
  repeat walk_at "v"
  refine  ⟨_, 176, _, _, rfl, Ie.1, Ie.2, cls_Info _, f_glyph _, Nat.le_of_ble_eq_true rfl, ?_⟩
  rw [s_glyph]
  have hn4 : Nd (tied (k + 1) (gapIn P (P.length - 1)) rs1) := by unfold Nd; rw [tied_dxs]; exact hn1
  have R5 := R4.set hn4 hx4 { e0.2.2 with g := g }
  dsimp only at R5 Ie ⊢
  have Ie5 := info_upd Ie { e0.2.2 with g := g }
  dsimp only at Ie5
  have hd4 : ∀ {a : Addr} {y : AO}, σ4 a = some y → (∀ r, y ≠ .attrs (infoFs r)) → upd σ4 e0.2.1 (.attrs (infoFs { e0.2.2 with g := g })) a = some y := fun {a y} h n => by
    rw [upd_ne (ne_ao h Ie.2 (n _))]; exact h
  have cp5 := hd4 cp4 (fun _ h => by cases h)
  have cr5 := hd4 cr4 (fun _ h => by cases h)
  have hp5 := hd4 hp4 (fun _ h => by cases h)
  repeat walk_at "v"
  refine  ⟨_, 176, _, _, rfl, Ie5.1, Ie5.2, cls_Info _, f_split _, Nat.le_of_ble_eq_true rfl, ?_⟩
  rw [s_split, upd_upd]
  generalize hσ5 : upd σ4 e0.2.1 (.attrs (infoFs { e0.2.2 with g := g })) = σ5 at *
  repeat walk_at "v"
  with_reducible refine e_comp (closureFor_is O (by kernel_rfl)) (by with_unfolding_all rfl) (by decide +kernel) ?_ (by intro _; with_unfolding_all rfl)
  with_reducible refine e_cell O mp cp5 ?_ (by decide +kernel) (by decide +kernel)
  refine  co_loop (lo' := ["place"]) (gl' := []) (ce' := [("row", L + 2)]) (by decide) rfl (fun C => comp_envC O _ _ _ (by kernel_rfl) (fun p hp => ?_)) (by decide +kernel) (fun i acc σ' => acc = [] ∧ Sub σ5 σ') (Starts.list r'.hh (.int 0) hp5) (fun _ _ h k => k.ap h) (by rw [hPl]; omega) ⟨rfl, Sub.refl _⟩
    (fun i acc σ' h => h.2.ap hp5) ?_ ?_
  · rcases List.mem_cons.mp hp with rfl | hp
    · exact ⟨by kernel_rfl, by kernel_rfl⟩
    · cases hp
  · rintro env' C D J i acc σ' OC hi ⟨rfl, hs⟩ PF
    rw [hPl] at hi
    rw [getD_map (d' := 0) hi]
    have hbi := hb i hi
    obtain ⟨e, he⟩ : ∃ e, ((tied (k + 1) (gapIn P (P.length - 1)) rs1).set (P.getD 0 0) (e0.1, e0.2.1, { e0.2.2 with g := g }))[P.getD i 0]? = some e := ⟨_, List.getElem?_eq_getElem (by rw [List.length_set, tied_len]; omega)⟩
    with_reducible refine ts_one ?_
    repeat walk_at "v"
    with_reducible refine e_cell OC (List.mem_cons_self ..) ((FR_sub PF).ap (hs.ap cr5)) ?_ (by decide +kernel) (by decide +kernel)
    repeat walk_at "v"
    with_reducible refine s_listN ((R5.sub hs).sub (FR_sub PF)).lst (by omega) (R5.get he).2 ?_ (by intro _; with_unfolding_all rfl)
    with_reducible refine g_unsafe G (((R5.get he).1.sub hs).sub (FR_sub PF)) ?_
    repeat walk_at "v"
    with_reducible refine ⟨fun hc => (nomatch hc), fun _ => ?_⟩
    refine  ⟨σ', Sub.refl _, PF, rfl, hs⟩
  rintro D acc σ' ⟨rfl, hs⟩ hD hL'
  repeat walk_at "v"
  with_reducible refine ⟨by simp, fun em hem => ?_⟩
  refine  b_ne_list (n := 0) (by have := r'.u; omega) (upd_old hem (upd_self ..)) (upd_self ..) rfl (fun _ => true) (fun j v u h => by cases h) ?_
  repeat walk_at "v"
  have sub6 : Sub σ5 (upd (upd σ' D (.list [])) em (.list [])) := (hs.trans (sub_upd hD)).trans (sub_upd hem)
  have Ie6 := Ie5.sub sub6
  have Ie6d := Ie6.2
  refine  ⟨_, 176, _, _, rfl, Ie6.1, Ie6.2, cls_Info _, f_unsafe _, Nat.le_of_ble_eq_true rfl, ?_⟩
  rw [show (!(List.range ([] : List V).length).all fun _ => true) = false from rfl, s_unsafe]
  with_reducible refine AXs.sub (sub_same sub6 Ie6d) ?_
  repeat walk_at "v"
  with_reducible refine ⟨fun _ => ?_, fun hc => absurd hc (by decide +kernel)⟩
  repeat walk_at "v"
  refine  ⟨_, 176, _, _, rfl, Ie5.1, Ie5.2, cls_Info _, f_lig_id _, Nat.le_of_ble_eq_true rfl, ?_⟩
  rw [s_lig_id]
  have Ie7 := info_upd Ie5 { e0.2.2 with g := g, id := k + 1 }
  dsimp only at Ie7
  repeat walk_at "v"
  refine  ⟨_, 176, _, _, rfl, Ie7.1, Ie7.2, cls_Info _, f_lig_part _, Nat.le_of_ble_eq_true rfl, ?_⟩
  rw [s_lig_part, upd_upd]
  have Ie8 := info_upd Ie5 { e0.2.2 with g := g, id := k + 1, part := 0 }
  dsimp only at Ie8
  repeat walk_at "v"
  refine  ⟨_, 176, _, _, rfl, Ie8.1, Ie8.2, cls_Info _, f_lig_count _, Nat.le_of_ble_eq_true rfl, ?_⟩
  rw [s_lig_count, upd_upd]
  repeat walk_at "v"
  have hx5 : ((tied (k + 1) (gapIn P (P.length - 1)) rs1).set (P.getD 0 0) (e0.1, e0.2.1, { e0.2.2 with g := g }))[P.getD 0 0]? = some (e0.1, e0.2.1, { e0.2.2 with g := g }) := by
    rw [List.getElem?_set_self (by rw [tied_len]; omega)]
  have hn5 : Nd ((tied (k + 1) (gapIn P (P.length - 1)) rs1).set (P.getD 0 0) (e0.1, e0.2.1, { e0.2.2 with g := g })) := by
    have := set_adr hx4 { e0.2.2 with g := g }
    have := congrArg (List.map fun p : Addr × Addr => p.2) this
    rw [List.map_map, List.map_map] at this
    unfold Nd at hn4 ⊢
    exact (show List.map (fun e : Rec => e.2.1) _ = List.map (fun e : Rec => e.2.1) _ from this) ▸ hn4
  have R9 := R5.set hn5 hx5 (headInf g (k + 1) P.length e0.2.2)
  dsimp only at R9
  rw [List.set_set] at R9
  have erf := turnAt_is hx4 (headInf g (k + 1) P.length)
  dsimp only at erf
  rw [← erf] at R9
  have hd5 : ∀ {a : Addr} {y : AO}, σ5 a = some y → (∀ r, y ≠ .attrs (infoFs r)) → upd σ5 e0.2.1 (.attrs (infoFs (headInf g (k + 1) P.length e0.2.2))) a = some y := fun {a y} h n => by
    rw [upd_ne (ne_ao h Ie5.2 (n _))]; exact h
  have cp9 := hd5 cp5 (fun _ h => by cases h)
  have cr9 := hd5 cr5 (fun _ h => by cases h)
  have hp9 := hd5 hp5 (fun _ h => by cases h)
  have k45 : Keep (dxs rs) σ4 σ5 := by
    rw [← hσ5]
    exact (Keep.refl _ _).upd (.inl ((hdx _).mp (List.mem_map.mpr ⟨e0, List.mem_of_getElem? he0, rfl⟩)))
  have k59 : Keep (dxs rs) σ5 (upd σ5 e0.2.1 (.attrs (infoFs (headInf g (k + 1) P.length e0.2.2)))) := (Keep.refl _ _).upd (.inl ((hdx _).mp (List.mem_map.mpr ⟨e0, List.mem_of_getElem? he0, rfl⟩)))
  have k49 := k45.trans k59
  have k49' : Keep (dxs (tied (k + 1) (gapIn P (P.length - 1)) rs1)) σ4 (upd σ5 e0.2.1 (.attrs (infoFs (headInf g (k + 1) P.length e0.2.2)))) := k49.mono fun a h => by
    unfold dxs at h ⊢
    rw [tied_dxs, sk_dxs hsk]
    exact h
  have I9 := I4.keep k49' fun a h => R4.notSc h
  have hbx9 := k49'.row R4 hbx4 (fun _ h => fs_ne (by decide) (AO.attrs.inj h))
  have hrl : (turnAt (tied (k + 1) (gapIn P (P.length - 1)) rs1) (P.getD 0 0) (headInf g (k + 1) P.length)).length = rs.length := by
    rw [erf, List.length_set, tied_len, hlen1]
  show AE w h₀ A' L env _ _ _ (upd σ5 e0.2.1 (.attrs (infoFs (headInf g (k + 1) P.length e0.2.2))))
  generalize hrf : turnAt (tied (k + 1) (gapIn P (P.length - 1)) rs1) (P.getD 0 0) (headInf g (k + 1) P.length) = rf at *
  generalize hσ9 : upd σ5 e0.2.1 (.attrs (infoFs (headInf g (k + 1) P.length e0.2.2))) = σ9 at *
  have hpq9 : σ9 pa = some (.list (Pq.map nv ++ [nv (P.getD (P.length - 1) 0)])) := by rw [← hPq]; exact hp9
  with_reducible refine e_comp (closureFor_is O (by kernel_rfl)) (by with_unfolding_all rfl) (by decide +kernel) ?_ (by intro _; with_unfolding_all rfl)
  with_reducible refine e_callT G O (by decide +kernel) (by kernel_rfl) boot_range (by with_unfolding_all rfl) ?_
  repeat walk_at "v"
  with_reducible refine e_cell O mp cp9 ?_ (by decide +kernel) (by decide +kernel)
  repeat walk_at "v"
  with_reducible refine s_list0 hp9 (getD_nat (by omega)) ?_ (by intro _; with_unfolding_all rfl)
  repeat walk_at "v"
  with_reducible refine e_cell O mp cp9 ?_ (by decide +kernel) (by decide +kernel)
  repeat walk_at "v"
  with_reducible refine s_last hpq9 (by rw [List.length_map]; omega) ?_ (by intro _; with_unfolding_all rfl)
  repeat walk_at "v"
  with_reducible refine c_range2 fun rg hrg => ?_
  have hn : (((P.getD (P.length - 1) 0 : Nat) : Int) + 1 - (P.getD 0 0 : Nat)).toNat = P.getD (P.length - 1) 0 + 1 - P.getD 0 0 := by omega
  refine  co_loop (lo' := ["spot"]) (gl' := []) (ce' := [("places", L + 1), ("row", L + 2)]) (by decide) rfl (fun C => comp_envC O _ _ _ (by kernel_rfl) (fun p hp => ?_)) (by decide +kernel) (fun i acc σ' => acc = (segOf P rf i).map (fun e => V.ref e.1) ∧ Sub σ9 σ') (Starts.range r'.hh (upd_self ..) (small_one (by omega) (by omega) (by omega) (by omega))) (fun _ _ _ _ => trivial) (by omega) ⟨rfl, sub_upd hrg⟩
    (fun _ _ _ _ => trivial) ?_ ?_
  · rcases List.mem_cons.mp hp with rfl | hp
    · exact ⟨by kernel_rfl, by kernel_rfl⟩
    rcases List.mem_cons.mp hp with rfl | hp
    · exact ⟨by kernel_rfl, by kernel_rfl⟩
    · cases hp
  · rintro env' C D J i acc σ' OC hi ⟨rfl, hs⟩ PF
    rw [hn] at hi
    rw [show (((P.getD 0 0 : Nat) : Int) + (i : Int)) = ((P.getD 0 0 + i : Nat) : Int) by omega]
    obtain ⟨e, he⟩ : ∃ e, rf[P.getD 0 0 + i]? = some e := ⟨_, List.getElem?_eq_getElem (by omega)⟩
    have hss := segOf_succ P rf i he
    with_reducible refine ts_one (AT.cut (fun b => b = keepSpot P (P.getD 0 0 + i)) ?_ ?_)
    · repeat walk_at "v"
      with_reducible refine e_cell OC (List.mem_cons_self ..) ((FR_sub PF).ap (hs.ap cp9)) ?_ (by decide +kernel) (by decide +kernel)
      repeat walk_at "v"
      with_reducible refine s_list0 ((FR_sub PF).ap (hs.ap hp9)) (getD_nat (by omega)) ?_ (by intro _; with_unfolding_all rfl)
      repeat walk_at "v"
      with_reducible refine ⟨fun hc => ?_, fun hc => ?_⟩
      · refine  ⟨?_, rfl, rfl⟩
        have : P.getD 0 0 + i = P.getD 0 0 := by have := eq_of_beq hc; omega
        unfold keepSpot
        rw [this, beq_self_eq_true]
        rfl
      · repeat walk_at "v"
        with_reducible refine e_cell OC (List.mem_cons_self ..) ((FR_sub PF).ap (hs.ap cp9)) ?_ (by decide +kernel) (by decide +kernel)
        refine  b_notin (ns := P.map fun n : Nat => (n : Int)) (by rw [← nv_map]; exact (FR_sub PF).ap (hs.ap hp9)) ?_
        rw [any_nat]
        have hne : (P.getD 0 0 + i == P.getD 0 0) = false := by
          rw [beq_eq_false_iff_ne]
          intro e
          rw [beq_eq_false_iff_ne] at hc
          exact hc (by omega)
        repeat walk_at "v"
        with_reducible refine ⟨fun hd => ?_, fun hd => ?_⟩
        · refine  ⟨?_, rfl, rfl⟩
          unfold keepSpot
          rw [hne, hd]
          rfl
        · repeat walk_at "v"
          refine  ⟨?_, rfl, rfl⟩
          unfold keepSpot
          rw [hne, hd]
          rfl
    rintro b hb2
    with_reducible refine ⟨fun hc => ?_, fun hc => ?_⟩
    · rw [← hb2, hc, if_pos rfl] at hss
      repeat walk_at "v"
      with_reducible refine e_cell OC (List.mem_cons_of_mem _ (List.mem_cons_self ..)) ((FR_sub PF).ap (hs.ap cr9)) ?_ (by decide +kernel) (by decide +kernel)
      repeat walk_at "v"
      with_reducible refine s_listN ((R9.sub hs).sub (FR_sub PF)).lst (by omega) (R9.get he).2 ?_ (by intro _; with_unfolding_all rfl)
      refine  ⟨σ', Sub.refl _, PF, by rw [hss]; simp, hs⟩
    · rw [← hb2, hc, if_neg (by decide)] at hss
      refine  ⟨σ', Sub.refl _, PF, by rw [hss], hs⟩
  rintro D acc σ' ⟨rfl, hs⟩ hD hL'
  rw [hn]
  have sub10 : Sub σ9 (upd σ' D (.list ((segOf P rf (P.getD (P.length - 1) 0 + 1 - P.getD 0 0)).map fun e => V.ref e.1))) := hs.trans (sub_upd hD)
  repeat walk_at "v"
  with_reducible refine g_bu_row G (I9.sub sub10) (sub10.ap hbx9) ?_
  repeat walk_at "v"
  with_reducible refine e_cell O mp (sub10.ap cp9) ?_ (by decide +kernel) (by decide +kernel)
  repeat walk_at "v"
  with_reducible refine s_list0 (sub10.ap hp9) (getD_nat (by omega)) ?_ (by intro _; with_unfolding_all rfl)
  repeat walk_at "v"
  with_reducible refine e_cell O mp (sub10.ap cp9) ?_ (by decide +kernel) (by decide +kernel)
  repeat walk_at "v"
  with_reducible refine s_last (sub10.ap hpq9) (by rw [List.length_map]; omega) ?_ (by intro _; with_unfolding_all rfl)
  repeat walk_at "v"
  rw [show ((P.getD (P.length - 1) 0 : Nat) : Int) + 1 = ((P.getD (P.length - 1) 0 + 1 : Nat) : Int) by omega]
  intro c hc
  have hsl := seg_len (P := P) (rs := rf) (m := P.getD (P.length - 1) 0 + 1 - P.getD 0 0)
  have hDra : S.ra ≠ D := by
    rintro h
    have := hs.ap R9.lst
    rw [h, hD] at this
    cases this
  refine  i_slice (upd_old hc (sub10.ap R9.lst)) (upd_self ..) (upd_old hc (upd_self ..)) hDra (by omega) (by rw [List.length_map]; omega) (by rw [List.length_map, List.length_map]; omega) ?_
  have sub11 : Sub σ9 (upd (upd σ' D (.list ((segOf P rf (P.getD (P.length - 1) 0 + 1 - P.getD 0 0)).map fun e => V.ref e.1))) c (.slice (.int (P.getD 0 0 : Nat)) (.int (P.getD (P.length - 1) 0 + 1 : Nat)))) := sub10.trans (sub_upd hc)
  have R11 := R9.sub sub11
  repeat walk_at "v"
  refine  ⟨_, Sub.refl _, ?_, rfl, ?_, rs1, hsk, ?_, ?_⟩
  · with_reducible refine Keep.upd ?_ (.inl (.inr (.inr rfl)))
    with_reducible refine Keep.trans (Keep.of hs1) ?_
    with_reducible refine Keep.trans (kk.mono fun a h => .inl h) ?_
    with_reducible refine Keep.trans (k3.mono fun a h => .inr (.inl h)) ?_
    with_reducible refine Keep.trans (k4.mono fun a h => .inl ((hdx a).mp h)) ?_
    exact Keep.trans (k49.mono fun a h => .inl h) (Keep.of sub11)
  · rw [upd_ne (ne_ao hbx9 R9.lst (by simp))]
    exact sub11.ap hbx9
  · have ej : joinRow g (k + 1) P rs1 = rf.take (P.getD 0 0) ++ segOf P rf (P.getD (P.length - 1) 0 + 1 - P.getD 0 0) ++ rf.drop (P.getD (P.length - 1) 0 + 1) := by
      unfold joinRow
      rw [hrf]
    rw [ej, upd_self]
    simp only [List.map_append, List.map_take, List.map_drop]
  · intro e he
    have hm : e ∈ rf := by
      have ej : joinRow g (k + 1) P rs1 = rf.take (P.getD 0 0) ++ segOf P rf (P.getD (P.length - 1) 0 + 1 - P.getD 0 0) ++ rf.drop (P.getD (P.length - 1) 0 + 1) := by
        unfold joinRow
        rw [hrf]
      rw [ej] at he
      rcases List.mem_append.mp he with h | h
      · rcases List.mem_append.mp h with h | h
        · exact List.mem_of_mem_take h
        · exact seg_mem h
      · exact List.mem_of_mem_drop h
    obtain ⟨q1, q2⟩ := R11.obj e hm
    exact ⟨by rw [upd_ne (ne_ao q1 R11.lst (by simp))]; exact q1, by rw [upd_ne (ne_ao q2 R11.lst (by simp))]; exact q2⟩
end
section
variable {w : World} {h₀ : Heap} {A : Around} {L : Addr} {l : Loc} {σ τ : St} {Q : V → Loc → St → Prop} {env : Env} {lo gl : List Str} {ce : List (Str × Addr)}
theorem c_lent {a : Addr} {vs : List V} (ha : σ a = some (.tup vs)) (hz : vs.length ≤ 1000) (q : Q (.int vs.length) l σ) : AK w h₀ A L (.builtin "len") [.ref a] Q l σ := fun cs hv E s H => by
  obtain ⟨t, rfl⟩ := vl1 hv
  obtain ⟨_, o, ho, ⟨cs⟩, n, rfl, hc⟩ := H.mod.obj _ _ ha
  have hn := hc.length
  have e : (((⟨cs⟩ : Array Value)).size : Int) = (vs.length : Int) := by rw [← hn]; rfl
  exact P.len_tuple ho (by rw [e]; omega) ⟨s.heap, _, _, _, rfl, H, .int vs.length, s.toks + 1, by rw [e]; rfl, q⟩
theorem dget1 (a : Addr) (d : V) : (([(1, V.ref a)] : List (Int × V)).lookup 1).getD d = .ref a := rfl
theorem ad_apply (G : Gnd w h₀) (r : Room A 7) {S : Sc} (I : ScAt σ S) {k : Int} (hbx : σ S.bux = some (.attrs (bufFs S k))) {rs : List Rec} (R : RowAt σ S.ra rs) (hn : Nd rs) (hz : rs.length ≤ 400) {a : Nat} {e : Rec} (ha : rs[a]? = some e) (hg1 : e.2.2.g = 1)
    {g : Int} {P : List Nat} {m : Nat} (hin : (inp (infs rs) 1 [2, 2] a = some P ∧ g = 7 ∧ m = 2) ∨ (inp (infs rs) 1 [2, 2] a = none ∧ inp (infs rs) 1 [2] a = some P ∧ g = 6 ∧ m = 1)) (h2 : 2 ≤ P.length) (hzP : P.length ≤ 400)
    (hP : ∀ s, s + 1 < P.length → P.getD s 0 < P.getD (s + 1) 0) (hb : ∀ s, s < P.length → P.getD s 0 < rs.length) (fresh : ∀ i e, P.getD 0 0 ≤ i → i ≤ P.getD (P.length - 1) 0 → rs[i]? = some e → e.2.2.id = 0 ∧ e.2.2.part = 0 ∧ e.2.2.cnt = 0)
    (h9 : ∀ s e, 1 ≤ s → s < P.length → rs[P.getD s 0]? = some e → e.2.2.g ≠ 9) :
    AD w h₀ A (.ref 428) [.ref S.sc, .ref S.tab, nv a] (fun v σ' => Keep (fun a => dxs rs a ∨ a = S.bux ∨ a = S.ra) σ σ' ∧ v = .int ((P.getD (P.length - 1) 0 : Nat) + 1 - m) ∧ σ' S.bux = some (.attrs (bufFs S (k + 1))) ∧ ∃ rs1, rs1.map sk = rs.map sk ∧ RowAt σ' S.ra (joinRow g (k + 1) P rs1)) σ := by
  have halt : a < rs.length := (List.getElem?_eq_some_iff.mp ha).1
  have mono : ∀ s t, s ≤ t → t < P.length → P.getD s 0 ≤ P.getD t 0 := fun s t hst => by
    induction t with
    | zero => intro _; rw [show s = 0 by omega]; exact Nat.le_refl _
    | succ t ih =>
      intro ht
      rcases Nat.lt_or_ge s (t + 1) with c | c
      · have := ih (by omega) (by omega)
        have := hP t ht
        omega
      · rw [show s = t + 1 by omega]; exact Nat.le_refl _
  refine d_call (fd := F428) (names := ["scene", "table", "at"]) (n := 6) G r (by kernel_rfl) (by kernel_rfl) (by rfl) (fun cs hv => ?_) (by decide +kernel) (by decide +kernel) (by decide +kernel) (by rfl) (by rfl) (by rfl) fun L A' hL r' => ?_
  · obtain ⟨t0, t1, t2, rfl⟩ := vl3 hv
    kernel_rfl
  with_reducible refine with_env ["scene", "table", "at", "row", "first", "rest", "ligature", "places"] ["input_at", "glyph_tests", "hold_together", "join", "len"] (by kernel_rfl) (by kernel_rfl) (by kernel_rfl) (by kernel_rfl) fun env O => ?_
  refine x_cons ?_
  repeat walk_at "v"
  with_reducible refine g_sc_buffer G I ?_
  with_reducible refine g_bu_row G I hbx ?_
  repeat walk_at "v"
  with_reducible refine s_listN R.lst (by omega) (R.get ha).2 ?_ (by intro _; with_unfolding_all rfl)
  with_reducible refine g_glyph G (R.get ha).1 ?_
  rw [hg1]
  repeat walk_at "v"
  with_reducible refine g_tab_sets G I fun t => m_dget I.h_tabd ?_ t
  with_reducible refine cw_B (by with_unfolding_all rfl) ?_
  repeat walk_at "v"
  with_reducible refine ⟨by simp, fun em hem => ?_⟩
  repeat walk_at "v"
  with_reducible refine c_dget G (upd_old hem I.h_tabd) ?_
  rw [dget1]
  have hse : Sub σ (upd σ em (.list [])) := sub_upd hem
  refine  f_loopT (fun i l' σ' => Sub σ σ' ∧ locChk l' [("scene", .ref S.sc), ("at", nv a), ("row", .ref S.ra), ("first", .int 1)] ∧ (i = 1 → m = 1) ∧ i < 2) (Starts.list r'.hh (.ref 0) (hse.ap I.h_lst)) ⟨hse, ⟨rfl, rfl, rfl, rfl, trivial⟩, by omega, by omega⟩ (fun i l' σ' h => h.1.ap I.h_lst) ?_ ?_ ?_
  · intro i hi
    match i, hi with
    | 0, _ => exact ⟨_, rfl⟩
    | 1, _ => exact ⟨_, rfl⟩
  · rintro J i l' σ' hi ⟨hs, hl, him, hi2⟩ hJ hJL
    obtain ⟨pi, tr, ts, gg, e1, e2, e3, e4, e5⟩ : ∃ (pi tr : Addr) (ts : List Int) (gg : Int), [V.ref S.p7, V.ref S.p6].getD i (.ref 0) = .ref pi ∧ σ pi = some (.tup [.ref tr, .int gg]) ∧ σ tr = some (.tup (ts.map V.int)) ∧ (ts ≠ [] ∧ ts.length ≤ 10) ∧ ((inp (infs rs) 1 ts a = some P ∧ gg = g ∧ m = ts.length) ∨ (inp (infs rs) 1 ts a = none ∧ i = 0 ∧ m = 1)) := by
      match i, hi2 with
      | 0, _ =>
        refine  ⟨S.p7, S.t22, [2, 2], 7, rfl, I.h_p7, I.h_t22, ⟨by simp, by simp⟩, ?_⟩
        rcases hin with ⟨q1, q2, q3⟩ | ⟨q1, q2, q3, q4⟩
        · exact .inl ⟨q1, q2.symm, q3⟩
        · exact .inr ⟨q1, rfl, q4⟩
      | 1, _ =>
        refine  ⟨S.p6, S.t2, [2], 6, rfl, I.h_p6, I.h_t2, ⟨by simp, by simp⟩, ?_⟩
        rcases hin with ⟨q1, q2, q3⟩ | ⟨q1, q2, q3, q4⟩
        · have := him rfl; omega
        · exact .inl ⟨q2, q3.symm, q4⟩
    rw [e1]
    have sJ : Sub σ (upd σ' J (.liter S.lst (i + 1))) := hs.trans (sub_upd hJ)
    with_reducible refine AA.loc (locLe.of hl) ?_
    with_reducible refine a_tuple r'.hh (by with_unfolding_all rfl) (sJ.ap e2) (by with_unfolding_all rfl) ?_
    repeat walk_at "v"
    with_reducible refine ⟨by simp, fun e0 he0 => ?_⟩
    with_reducible refine b_eq_tup0 (by have := r'.u; omega) (upd_old he0 (sJ.ap e3)) (upd_self ..) ?_
    have htsn : ¬ ts.map V.int = [] := by simpa using e4.1
    rw [decide_eq_false htsn]
    repeat walk_at "v"
    with_reducible refine ⟨fun hc => (nomatch hc), fun _ => ?_⟩
    repeat walk_at "v"
    have s0 : Sub σ (upd (upd σ' J (.liter S.lst (i + 1))) e0 (.tup [])) := sJ.trans (sub_upd he0)
    with_reducible refine e_call (fa := 131) G O (by decide +kernel) (by kernel_rfl) (by kernel_rfl) (by with_unfolding_all rfl) ?_
    repeat walk_at "v"
    with_reducible refine e_call (fa := 103) G O (by decide +kernel) (by kernel_rfl) (by kernel_rfl) (by with_unfolding_all rfl) ?_
    repeat walk_at "v"
    with_reducible refine ⟨by simp, fun f1 hf1 => ?_⟩
    repeat walk_at "v"
    with_reducible refine b_addt (upd_self ..) (upd_old hf1 (s0.ap e3)) (by simp) htsn (by simp; omega) fun f2 hf2 => ?_
    repeat walk_at "v"
    have sf : Sub σ (upd (upd (upd (upd σ' J (.liter S.lst (i + 1))) e0 (.tup [])) f1 (.tup [.int 1])) f2 (.tup ([.int 1] ++ ts.map V.int))) := (s0.trans (sub_upd hf1)).trans (sub_upd hf2)
    have hf2' : upd (upd (upd (upd σ' J (.liter S.lst (i + 1))) e0 (.tup [])) f1 (.tup [.int 1])) f2 (.tup ([.int 1] ++ ts.map V.int)) f2 = some (.tup ((1 :: ts).map V.int)) := upd_self ..
    have sJ2 : Sub (upd σ' J (.liter S.lst (i + 1))) (upd (upd (upd (upd σ' J (.liter S.lst (i + 1))) e0 (.tup [])) f1 (.tup [.int 1])) f2 (.tup ([.int 1] ++ ts.map V.int))) := ((sub_upd he0).trans (sub_upd hf1)).trans (sub_upd hf2)
    generalize upd (upd (upd (upd σ' J (.liter S.lst (i + 1))) e0 (.tup [])) f1 (.tup [.int 1])) f2 (.tup ([.int 1] ++ ts.map V.int)) = σ3 at *
    refine  k_new (P := fun v σ' => ∃ b bs, v = .ref b ∧ σ' b = some (.tup (bs.map V.ref)) ∧ Tests σ' bs (1 :: ts)) (fun off => (ad_glyph_tests G (r'.less (by omega)) ((sub_upd off).ap hf2') (by rw [List.length_cons]; omega)).af) ?_ ?_
    · rintro v τ ⟨b, bs, e1, e2, e3⟩ hτ
      exact ⟨b, bs, e1, rm_get hτ e2 (by intro _ h; cases h), Tests.rm hτ e3⟩
    rintro v σ4 s4 hσ4L ⟨b, bs, rfl, hb4, ht4⟩
    have sf4 := sf.trans s4
    repeat walk_at "v"
    obtain ⟨b0, br, rfl⟩ : ∃ b0 br, bs = b0 :: br := by
      match bs, ht4 with
      | b0 :: br, _ => exact ⟨b0, br, rfl⟩
    refine  k_new (P := fun v σ' => match inp (infs rs) 1 ts a with | none => v = .none | some ps => ∃ pa, v = .ref pa ∧ σ' pa = some (.list (ps.map nv))) (fun off => (ad_input_at G r' ((I.sub sf4).sub (sub_upd off)) ((sub_upd off).ap (sf4.ap hbx)) ((R.sub sf4).sub (sub_upd off)) (by omega) ha ((sub_upd off).ap hb4) (ht4.sub (sub_upd off)) (by omega)).af) ?_ ?_
    · intro v τ h hτ
      split at h <;> rename_i heq
      · exact h
      · obtain ⟨pa, e1, e2⟩ := h
        exact ⟨pa, e1, rm_get hτ e2 (by intro _ h; cases h)⟩
    rintro v σ5 s5 hσ5L h5
    have sf5 := sf4.trans s5
    have sJ5 := (sJ2.trans s4).trans s5
    repeat walk_at "v"
    rcases e5 with ⟨q1, q2, q3⟩ | ⟨q1, q2, q3⟩
    · rw [q1] at h5
      obtain ⟨pa, rfl, hpa⟩ := h5
      with_reducible refine b_isnot_ref ?_
      repeat walk_at "v"
      with_reducible refine ⟨fun _ => ?_, fun hc => (nomatch hc)⟩
      repeat walk_at "v"
      with_reducible refine e_call (fa := 145) G O (by decide +kernel) (by kernel_rfl) (by kernel_rfl) (by with_unfolding_all rfl) ?_
      repeat walk_at "v"
      obtain ⟨p0, pr, rfl⟩ : ∃ p0 pr, P = p0 :: pr := by
        match P, h2 with
        | p0 :: pr, _ => exact ⟨p0, pr, rfl⟩
      have hp0 := hb 0 (by omega)
      have hpr : ∀ p ∈ pr, p < rs.length := fun p hp => by
        obtain ⟨j, hj, rfl⟩ := List.getElem_of_mem hp
        have := hb (j + 1) (by rw [List.length_cons]; omega)
        simpa [List.getD_eq_getElem?_getD, List.getElem?_eq_getElem hj] using this
      with_reducible refine k_ret (fun τ k => ad_hold_together (d := e) G (r'.less (by omega)) ((R.sub sf5).sub k) (by omega) (k.ap hpa) (by rw [List.length_cons] at hzP; omega) hp0 hpr) ?_
      have hid : ∀ s, s < (p0 :: pr).length → piece (rs.getD ((p0 :: pr).getD s 0) e).2.2 = false := fun s hs => by
        have := fresh _ _ (mono 0 s (Nat.zero_le _) hs) (mono s _ (by omega) (by omega)) (getD_at (d := e) (hb s hs))
        unfold piece
        rw [this.1]
        rfl
      have hall : (pr.all fun p => holdsTo (rs.getD ((p0 :: pr).getD 0 0) e).2.2 (rs.getD p e).2.2) = true := by
        rw [List.all_eq_true]
        intro p hp
        obtain ⟨j, hj, rfl⟩ := List.getElem_of_mem hp
        have h1 := hid 0 (by rw [List.length_cons]; omega)
        have h2 := hid (j + 1) (by rw [List.length_cons]; omega)
        rw [show (p0 :: pr).getD (j + 1) 0 = pr[j] by simp [List.getD_eq_getElem?_getD, List.getElem?_eq_getElem hj]] at h2
        unfold holdsTo
        rw [h1, h2]
        rfl
      rw [hall]
      repeat walk_at "v"
      with_reducible refine ⟨fun _ => ?_, fun hc => (nomatch hc)⟩
      repeat walk_at "v"
      with_reducible refine ⟨fun _ => ?_, fun hc => (nomatch hc)⟩
      repeat walk_at "v"
      with_reducible refine e_call (fa := 421) G O (by decide +kernel) (by kernel_rfl) (by kernel_rfl) (by with_unfolding_all rfl) ?_
      repeat walk_at "v"
      have R5 := R.sub sf5
      have hbx5 := sf5.ap hbx
      refine  k_keep (S := fun a => dxs rs a ∨ a = S.bux ∨ a = S.ra) (P := fun v σ' => v = .none ∧ σ' S.bux = some (.attrs (bufFs S (k + 1))) ∧ ∃ rs1, rs1.map sk = rs.map sk ∧ RowAt σ' S.ra (joinRow gg (k + 1) (p0 :: pr) rs1)) ?_ (fun off => (ad_join G (r'.less (by omega)) ((I.sub sf5).sub (sub_upd off)) ((sub_upd off).ap hbx5) (R5.sub (sub_upd off)) hn hz ((sub_upd off).ap hpa) hzP h2 hP hb fresh h9).af) ?_ ?_
      · rintro x (h | h | h)
        · exact R5.dxs' x h
        · rw [h, hbx5]; simp
        · rw [h, R5.lst]; simp
      · rintro v τ ⟨e1, e2, rs1, e3, e4⟩ hτ
        exact ⟨e1, rm_get hτ e2 (by intro _ h; cases h), rs1, e3, e4.rm hτ⟩
      rintro v σ6 k6 hσ6L ⟨_, hb6, rs1, hsk, R6⟩
      have ht5 := sf5.ap e3
      have hpa6 := k6 _ _ (by
        rintro (h | h | h)
        · obtain ⟨r, er⟩ := R5.dxs h; rw [hpa] at er; cases er
        · rw [h, hbx5] at hpa; cases hpa
        · rw [h, R5.lst] at hpa
          match rs, halt, hpa with
          | y :: ys, _, hpa => cases hpa) hpa
      have ht6 := k6 _ _ (by
        rintro (h | h | h)
        · obtain ⟨r, er⟩ := R5.dxs h; rw [ht5] at er; cases er
        · rw [h, hbx5] at ht5; cases ht5
        · rw [h, R5.lst] at ht5; cases ht5) ht5
      repeat walk_at "v"
      obtain ⟨Pq, hPq, hPq'⟩ := last_nat (P := p0 :: pr) (by omega)
      have hpa6' : σ6 pa = some (.list (Pq.map nv ++ [nv ((p0 :: pr).getD ((p0 :: pr).length - 1) 0)])) := by rw [← hPq]; exact hpa6
      with_reducible refine s_last hpa6' (by rw [List.length_map]; omega) ?_ (by intro _; with_unfolding_all rfl)
      repeat walk_at "v"
      with_reducible refine e_callB G O (by decide +kernel) (by kernel_rfl) boot_len (by with_unfolding_all rfl) ?_
      repeat walk_at "v"
      with_reducible refine c_lent ht6 (by rw [List.length_map]; omega) ?_
      repeat walk_at "v"
      refine  ⟨σ6, Sub.refl _, ?_, ?_, hb6, rs1, hsk, ?_⟩
      · exact Keep.trans (Keep.of sf5) k6
      · rw [List.length_map, q3]
        rfl
      · rw [← q2]; exact R6
    · rw [q1] at h5
      obtain rfl : v = .none := h5
      with_reducible refine b_isnot_none ?_
      repeat walk_at "v"
      with_reducible refine ⟨fun hc => (nomatch hc), fun _ => ?_⟩
      repeat walk_at "v"
      with_reducible refine ⟨fun hc => (nomatch hc), fun _ => ?_⟩
      repeat walk_at "v"
      refine  turn_ok hJ sJ5 ⟨hs, ⟨rfl, rfl, rfl, rfl, trivial⟩, fun _ => q3, by omega⟩
  · rintro l' σ' ⟨_, _, _, h⟩
    exact absurd h (by simp)
end
section
variable {w : World} {h₀ : Heap} {A : Around} {L : Addr} {l : Loc} {σ σ₀ τ : St} {Q : V → Loc → St → Prop} {env : Env} {lo gl : List Str} {ce : List (Str × Addr)}
theorem x_init (G : Gnd w h₀) (O : EnvOk env L lo gl ce) {x C dx : Addr} {fs : Loc} {name : Str} {ex : Expr} {sp ap p : Pos} {r : List Stmt} {Q : Fl → Loc → St → Prop} (P : V → Prop) (hself : ("self" : Str) ∈ lo) (hl : l.lookup ("self" : Str) = some (.ref x))
    (hx : σ x = some (.inst C dx)) (hd : σ dx = some (.attrs fs)) (hs : Sub σ₀ σ) (hn : σ₀ dx = none) (c : ClsOk (K w.params) C) (f : Field (K w.params) C name) (hlen : fs.length ≤ 500) (hsw : swapsWith ex (some (.Attribute (.Name "self" sp) name ap)) p.line env = pure false)
    (he : AE w h₀ A L env ex (fun v l' σ' => l' = l ∧ Sub σ σ' ∧ P v) l σ) (h : ∀ v τ, P v → τ x = some (.inst C dx) → τ dx = some (.attrs (setF fs name v)) → Sub σ₀ τ → AXs w h₀ A L env r Q l τ) :
    AXs w h₀ A L env (.Assign [.Attribute (.Name "self" sp) name ap] ex p :: r) Q l σ := by
  refine  x_cons (x_attr G (he.mono fun v l' σ' ⟨e, k, q⟩ => ?_) hsw)
  subst e
  refine  e_local O hself hl ⟨x, C, dx, fs, rfl, k _ _ hx, k _ _ hd, c, f, hlen, ?_⟩
  exact h v _ q (by rw [upd_ne (ne_ao (k _ _ hx) (k _ _ hd) (by simp))]; exact k _ _ hx) (upd_self ..) ((hs.trans k).at_new hn)
theorem x_init0 (G : Gnd w h₀) (O : EnvOk env L lo gl ce) {x C dx : Addr} {fs fs' : Loc} {name : Str} {ex : Expr} {sp ap p : Pos} {r : List Stmt} {Q : Fl → Loc → St → Prop} (v0 : V) (hf' : setF fs name v0 = fs') (hself : ("self" : Str) ∈ lo) (hl : l.lookup ("self" : Str) = some (.ref x))
    (hx : σ x = some (.inst C dx)) (hd : σ dx = some (.attrs fs)) (hs : Sub σ₀ σ) (hn : σ₀ dx = none) (c : ClsOk (K w.params) C) (f : Field (K w.params) C name) (hlen : fs.length ≤ 500) (hsw : swapsWith ex (some (.Attribute (.Name "self" sp) name ap)) p.line env = pure false)
    (he : AE w h₀ A L env ex (fun v l' σ' => l' = l ∧ Sub σ σ' ∧ v = v0) l σ) (h : ∀ τ, τ x = some (.inst C dx) → τ dx = some (.attrs fs') → Sub σ₀ τ → AXs w h₀ A L env r Q l τ) :
    AXs w h₀ A L env (.Assign [.Attribute (.Name "self" sp) name ap] ex p :: r) Q l σ :=
  x_init G O (fun v => v = v0) hself hl hx hd hs hn c f hlen hsw he fun v τ e h1 h2 h3 => h τ h1 (by subst e; rw [hf'] at h2; exact h2) h3
noncomputable def Made (σ : St) (C : Addr) (fs : Loc) (v : V) (σ' : St) : Prop := ∃ x dx, v = .ref x ∧ σ' x = some (.inst C dx) ∧ σ' dx = some (.attrs fs) ∧ σ x = none ∧ σ dx = none
theorem Made.rm {C : Addr} {fs : Loc} {v : V} {σ' : St} {l : Loc} (h : Made σ C fs v σ') (hL : σ' L = some (.ns l)) : Made σ C fs v (Mine.rm σ' L) := by
  obtain ⟨x, dx, e1, e2, e3, e4, e5⟩ := h
  exact ⟨x, dx, e1, rm_get hL e2 (by intro _ h; cases h), rm_get hL e3 (by intro _ h; cases h), e4, e5⟩
/-- a class's call, its thing made -/
theorem k_made {C : Addr} {vs : List V} {fs : Loc} (h : ∀ τ, Sub σ τ → (∀ a, τ a = none → σ a = none) → AD w h₀ A (.ref C) vs (fun v σ' => Sub τ σ' ∧ Made τ C fs v σ') τ) (q : ∀ v σ', Sub σ σ' → σ' L = none → Made σ C fs v σ' → Q v l σ') : AK w h₀ A L (.ref C) vs Q l σ :=
  k_new (P := fun v σ' => Made σ C fs v σ') (fun off => ((h _ (sub_upd off) fun a e => (none_ne e).2).mono fun v σ' ⟨k, x, dx, e1, e2, e3, e4, e5⟩ => ⟨k, x, dx, e1, e2, e3, (none_ne e4).2, (none_ne e5).2⟩).af) (fun v σ' m hL => m.rm hL) q
theorem gl188 (P : Params) : ∃ n, (K P).lookup 188 = some ⟨.type "tuple", none, .seq #[.bool false] n, #[]⟩ := ⟨0, by kernel_rfl⟩
theorem dflt_Buffer {w : World} {x d : Addr} {t0 t1 : Tok} (hv : VL [.ref x, .ref d] [(V.ref x).to t0, (V.ref d).to t1]) : ∃ ds, VL (.ref x :: [.ref d] ++ [.bool false]) ds ∧ ∀ s : Shared, (K w.params).In s.heap → BindsTo s F195 ⟨[(V.ref x).to t0, (V.ref d).to t1], []⟩ ((["self", "infos", "is_backward"] : List Str).zip ds) := by
  refine  ⟨[(V.ref x).to t0, (V.ref d).to t1, .bool false], ⟨⟨t0, rfl⟩, ⟨t1, rfl⟩, ⟨0, rfl⟩, trivial⟩, fun s X => ?_⟩
  obtain ⟨n, e⟩ := gl188 w.params
  exact BindsTo.of_defaults (T := 188) rfl (X _ _ e) rfl rfl rfl
theorem ad_mk_Info (G : Gnd w h₀) (r : Room A 2) {g c : Int} : AD w h₀ A (.ref 176) [.int 65, .int g, .int c] (fun v σ' => Sub σ σ' ∧ Made σ 176 [("code", .int 65), ("glyph", .int g), ("cluster", .int c), ("mask", .int 0), ("is_unsafe", .bool false), ("lig_id", .int 0), ("lig_part", .int 0), ("lig_count", .int 0), ("split_id", .int 0), ("kind", .str ""), ("x_advance", .int 0), ("y_advance", .int 0), ("x_offset", .int 0), ("y_offset", .int 0), ("parent", .int 0), ("bond", .str "")] v σ') σ := by
  refine  d_make (n := 1) G r (init := 159) (by kernel_rfl) (by kernel_rfl) (by kernel_rfl) fun x dx A' r' hdx hx hne => ?_
  refine  d_call (fd := F159) (names := ["self", "code", "glyph", "cluster"]) (n := 0) G r' (by kernel_rfl) (by kernel_rfl) (by rfl) (fun cs hv => ?_) (by decide +kernel) (by decide +kernel) (by decide +kernel) (by rfl) (by rfl) (by rfl) fun L A2 hL r2 => ?_
  · obtain ⟨t0, t1, t2, t3, rfl⟩ := vl4 hv
    kernel_rfl
  have hx0 : upd (upd σ dx (.attrs [])) x (.inst 176 dx) x = some (.inst 176 dx) := upd_self ..
  have hd0 : upd (upd σ dx (.attrs [])) x (.inst 176 dx) dx = some (.attrs []) := by rw [upd_ne hne.symm, upd_self]
  have hs0 : Sub σ (upd (upd σ dx (.attrs [])) x (.inst 176 dx)) := (sub_upd hdx).trans (sub_upd (upd_none hne hx))
  generalize upd (upd σ dx (.attrs [])) x (.inst 176 dx) = σ0 at *
  with_reducible refine with_env ["self", "code", "glyph", "cluster"] [] (by kernel_rfl) (by kernel_rfl) (by kernel_rfl) (by kernel_rfl) fun env O => ?_
  refine  x_init0 (fs' := [("code", .int 65)]) G O (.int 65) (by kernel_rfl) (by decide +kernel) (by with_unfolding_all rfl) hx0 hd0 hs0 hdx (cls_Info _) ⟨by kernel_rfl⟩ (Nat.le_of_ble_eq_true rfl) (by with_unfolding_all rfl) ?_ fun σ1 hx1 hd1 hs1 => ?_
  · repeat walk_at "v"
    exact ⟨rfl, Sub.refl _, rfl⟩
  refine  x_init0 (fs' := [("code", .int 65), ("glyph", .int g)]) G O (.int g) (by kernel_rfl) (by decide +kernel) (by with_unfolding_all rfl) hx1 hd1 hs1 hdx (cls_Info _) ⟨by kernel_rfl⟩ (Nat.le_of_ble_eq_true rfl) (by with_unfolding_all rfl) ?_ fun σ2 hx2 hd2 hs2 => ?_
  · repeat walk_at "v"
    exact ⟨rfl, Sub.refl _, rfl⟩
  refine  x_init0 (fs' := [("code", .int 65), ("glyph", .int g), ("cluster", .int c)]) G O (.int c) (by kernel_rfl) (by decide +kernel) (by with_unfolding_all rfl) hx2 hd2 hs2 hdx (cls_Info _) ⟨by kernel_rfl⟩ (Nat.le_of_ble_eq_true rfl) (by with_unfolding_all rfl) ?_ fun σ3 hx3 hd3 hs3 => ?_
  · repeat walk_at "v"
    exact ⟨rfl, Sub.refl _, rfl⟩
  refine  x_init0 (fs' := [("code", .int 65), ("glyph", .int g), ("cluster", .int c), ("mask", .int 0)]) G O (.int 0) (by kernel_rfl) (by decide +kernel) (by with_unfolding_all rfl) hx3 hd3 hs3 hdx (cls_Info _) ⟨by kernel_rfl⟩ (Nat.le_of_ble_eq_true rfl) (by with_unfolding_all rfl) ?_ fun σ4 hx4 hd4 hs4 => ?_
  · repeat walk_at "v"
    exact ⟨rfl, Sub.refl _, rfl⟩
  refine  x_init0 (fs' := [("code", .int 65), ("glyph", .int g), ("cluster", .int c), ("mask", .int 0), ("is_unsafe", .bool false)]) G O (.bool false) (by kernel_rfl) (by decide +kernel) (by with_unfolding_all rfl) hx4 hd4 hs4 hdx (cls_Info _) ⟨by kernel_rfl⟩ (Nat.le_of_ble_eq_true rfl) (by with_unfolding_all rfl) ?_ fun σ5 hx5 hd5 hs5 => ?_
  · repeat walk_at "v"
    exact ⟨rfl, Sub.refl _, rfl⟩
  refine  x_init0 (fs' := [("code", .int 65), ("glyph", .int g), ("cluster", .int c), ("mask", .int 0), ("is_unsafe", .bool false), ("lig_id", .int 0)]) G O (.int 0) (by kernel_rfl) (by decide +kernel) (by with_unfolding_all rfl) hx5 hd5 hs5 hdx (cls_Info _) ⟨by kernel_rfl⟩ (Nat.le_of_ble_eq_true rfl) (by with_unfolding_all rfl) ?_ fun σ6 hx6 hd6 hs6 => ?_
  · repeat walk_at "v"
    exact ⟨rfl, Sub.refl _, rfl⟩
  refine  x_init0 (fs' := [("code", .int 65), ("glyph", .int g), ("cluster", .int c), ("mask", .int 0), ("is_unsafe", .bool false), ("lig_id", .int 0), ("lig_part", .int 0)]) G O (.int 0) (by kernel_rfl) (by decide +kernel) (by with_unfolding_all rfl) hx6 hd6 hs6 hdx (cls_Info _) ⟨by kernel_rfl⟩ (Nat.le_of_ble_eq_true rfl) (by with_unfolding_all rfl) ?_ fun σ7 hx7 hd7 hs7 => ?_
  · repeat walk_at "v"
    exact ⟨rfl, Sub.refl _, rfl⟩
  refine  x_init0 (fs' := [("code", .int 65), ("glyph", .int g), ("cluster", .int c), ("mask", .int 0), ("is_unsafe", .bool false), ("lig_id", .int 0), ("lig_part", .int 0), ("lig_count", .int 0)]) G O (.int 0) (by kernel_rfl) (by decide +kernel) (by with_unfolding_all rfl) hx7 hd7 hs7 hdx (cls_Info _) ⟨by kernel_rfl⟩ (Nat.le_of_ble_eq_true rfl) (by with_unfolding_all rfl) ?_ fun σ8 hx8 hd8 hs8 => ?_
  · repeat walk_at "v"
    exact ⟨rfl, Sub.refl _, rfl⟩
  refine  x_init0 (fs' := [("code", .int 65), ("glyph", .int g), ("cluster", .int c), ("mask", .int 0), ("is_unsafe", .bool false), ("lig_id", .int 0), ("lig_part", .int 0), ("lig_count", .int 0), ("split_id", .int 0)]) G O (.int 0) (by kernel_rfl) (by decide +kernel) (by with_unfolding_all rfl) hx8 hd8 hs8 hdx (cls_Info _) ⟨by kernel_rfl⟩ (Nat.le_of_ble_eq_true rfl) (by with_unfolding_all rfl) ?_ fun σ9 hx9 hd9 hs9 => ?_
  · repeat walk_at "v"
    exact ⟨rfl, Sub.refl _, rfl⟩
  refine  x_init0 (fs' := [("code", .int 65), ("glyph", .int g), ("cluster", .int c), ("mask", .int 0), ("is_unsafe", .bool false), ("lig_id", .int 0), ("lig_part", .int 0), ("lig_count", .int 0), ("split_id", .int 0), ("kind", .str "")]) G O (.str "") (by kernel_rfl) (by decide +kernel) (by with_unfolding_all rfl) hx9 hd9 hs9 hdx (cls_Info _) ⟨by kernel_rfl⟩ (Nat.le_of_ble_eq_true rfl) (by with_unfolding_all rfl) ?_ fun σ10 hx10 hd10 hs10 => ?_
  · repeat walk_at "v"
    exact ⟨rfl, Sub.refl _, rfl⟩
  refine  x_init0 (fs' := [("code", .int 65), ("glyph", .int g), ("cluster", .int c), ("mask", .int 0), ("is_unsafe", .bool false), ("lig_id", .int 0), ("lig_part", .int 0), ("lig_count", .int 0), ("split_id", .int 0), ("kind", .str ""), ("x_advance", .int 0)]) G O (.int 0) (by kernel_rfl) (by decide +kernel) (by with_unfolding_all rfl) hx10 hd10 hs10 hdx (cls_Info _) ⟨by kernel_rfl⟩ (Nat.le_of_ble_eq_true rfl) (by with_unfolding_all rfl) ?_ fun σ11 hx11 hd11 hs11 => ?_
  · repeat walk_at "v"
    exact ⟨rfl, Sub.refl _, rfl⟩
  refine  x_init0 (fs' := [("code", .int 65), ("glyph", .int g), ("cluster", .int c), ("mask", .int 0), ("is_unsafe", .bool false), ("lig_id", .int 0), ("lig_part", .int 0), ("lig_count", .int 0), ("split_id", .int 0), ("kind", .str ""), ("x_advance", .int 0), ("y_advance", .int 0)]) G O (.int 0) (by kernel_rfl) (by decide +kernel) (by with_unfolding_all rfl) hx11 hd11 hs11 hdx (cls_Info _) ⟨by kernel_rfl⟩ (Nat.le_of_ble_eq_true rfl) (by with_unfolding_all rfl) ?_ fun σ12 hx12 hd12 hs12 => ?_
  · repeat walk_at "v"
    exact ⟨rfl, Sub.refl _, rfl⟩
  refine  x_init0 (fs' := [("code", .int 65), ("glyph", .int g), ("cluster", .int c), ("mask", .int 0), ("is_unsafe", .bool false), ("lig_id", .int 0), ("lig_part", .int 0), ("lig_count", .int 0), ("split_id", .int 0), ("kind", .str ""), ("x_advance", .int 0), ("y_advance", .int 0), ("x_offset", .int 0)]) G O (.int 0) (by kernel_rfl) (by decide +kernel) (by with_unfolding_all rfl) hx12 hd12 hs12 hdx (cls_Info _) ⟨by kernel_rfl⟩ (Nat.le_of_ble_eq_true rfl) (by with_unfolding_all rfl) ?_ fun σ13 hx13 hd13 hs13 => ?_
  · repeat walk_at "v"
    exact ⟨rfl, Sub.refl _, rfl⟩
  refine  x_init0 (fs' := [("code", .int 65), ("glyph", .int g), ("cluster", .int c), ("mask", .int 0), ("is_unsafe", .bool false), ("lig_id", .int 0), ("lig_part", .int 0), ("lig_count", .int 0), ("split_id", .int 0), ("kind", .str ""), ("x_advance", .int 0), ("y_advance", .int 0), ("x_offset", .int 0), ("y_offset", .int 0)]) G O (.int 0) (by kernel_rfl) (by decide +kernel) (by with_unfolding_all rfl) hx13 hd13 hs13 hdx (cls_Info _) ⟨by kernel_rfl⟩ (Nat.le_of_ble_eq_true rfl) (by with_unfolding_all rfl) ?_ fun σ14 hx14 hd14 hs14 => ?_
  · repeat walk_at "v"
    exact ⟨rfl, Sub.refl _, rfl⟩
  refine  x_init0 (fs' := [("code", .int 65), ("glyph", .int g), ("cluster", .int c), ("mask", .int 0), ("is_unsafe", .bool false), ("lig_id", .int 0), ("lig_part", .int 0), ("lig_count", .int 0), ("split_id", .int 0), ("kind", .str ""), ("x_advance", .int 0), ("y_advance", .int 0), ("x_offset", .int 0), ("y_offset", .int 0), ("parent", .int 0)]) G O (.int 0) (by kernel_rfl) (by decide +kernel) (by with_unfolding_all rfl) hx14 hd14 hs14 hdx (cls_Info _) ⟨by kernel_rfl⟩ (Nat.le_of_ble_eq_true rfl) (by with_unfolding_all rfl) ?_ fun σ15 hx15 hd15 hs15 => ?_
  · repeat walk_at "v"
    exact ⟨rfl, Sub.refl _, rfl⟩
  refine  x_init0 (fs' := [("code", .int 65), ("glyph", .int g), ("cluster", .int c), ("mask", .int 0), ("is_unsafe", .bool false), ("lig_id", .int 0), ("lig_part", .int 0), ("lig_count", .int 0), ("split_id", .int 0), ("kind", .str ""), ("x_advance", .int 0), ("y_advance", .int 0), ("x_offset", .int 0), ("y_offset", .int 0), ("parent", .int 0), ("bond", .str "")]) G O (.str "") (by kernel_rfl) (by decide +kernel) (by with_unfolding_all rfl) hx15 hd15 hs15 hdx (cls_Info _) ⟨by kernel_rfl⟩ (Nat.le_of_ble_eq_true rfl) (by with_unfolding_all rfl) ?_ fun σ16 hx16 hd16 hs16 => ?_
  · repeat walk_at "v"
    exact ⟨rfl, Sub.refl _, rfl⟩
  refine  x_nil ⟨σ16, Sub.refl _, rfl, hs16, x, dx, rfl, hx16, hd16, hx, hdx⟩
theorem ad_mk_Lookup (G : Gnd w h₀) (r : Room A 2) {tb : Addr} : AD w h₀ A (.ref 43) [.str "ligature", .int 8, .int 0, .ref tb] (fun v σ' => Sub σ σ' ∧ Made σ 43 [("kind", .str "ligature"), ("flag", .int 8), ("mark_set", .int 0), ("tables", .ref tb)] v σ') σ := by
  refine  d_make (n := 1) G r (init := 35) (by kernel_rfl) (by kernel_rfl) (by kernel_rfl) fun x dx A' r' hdx hx hne => ?_
  refine  d_call (fd := F35) (names := ["self", "kind", "flag", "mark_set", "tables"]) (n := 0) G r' (by kernel_rfl) (by kernel_rfl) (by rfl) (fun cs hv => ?_) (by decide +kernel) (by decide +kernel) (by decide +kernel) (by rfl) (by rfl) (by rfl) fun L A2 hL r2 => ?_
  · obtain ⟨t0, t1, t2, t3, t4, rfl⟩ := vl5 hv
    kernel_rfl
  have hx0 : upd (upd σ dx (.attrs [])) x (.inst 43 dx) x = some (.inst 43 dx) := upd_self ..
  have hd0 : upd (upd σ dx (.attrs [])) x (.inst 43 dx) dx = some (.attrs []) := by rw [upd_ne hne.symm, upd_self]
  have hs0 : Sub σ (upd (upd σ dx (.attrs [])) x (.inst 43 dx)) := (sub_upd hdx).trans (sub_upd (upd_none hne hx))
  generalize upd (upd σ dx (.attrs [])) x (.inst 43 dx) = σ0 at *
  with_reducible refine with_env ["self", "kind", "flag", "mark_set", "tables"] [] (by kernel_rfl) (by kernel_rfl) (by kernel_rfl) (by kernel_rfl) fun env O => ?_
  refine  x_init0 (fs' := [("kind", .str "ligature")]) G O (.str "ligature") (by kernel_rfl) (by decide +kernel) (by with_unfolding_all rfl) hx0 hd0 hs0 hdx (cls_Lookup _) ⟨by kernel_rfl⟩ (Nat.le_of_ble_eq_true rfl) (by with_unfolding_all rfl) ?_ fun σ1 hx1 hd1 hs1 => ?_
  · repeat walk_at "v"
    exact ⟨rfl, Sub.refl _, rfl⟩
  refine  x_init0 (fs' := [("kind", .str "ligature"), ("flag", .int 8)]) G O (.int 8) (by kernel_rfl) (by decide +kernel) (by with_unfolding_all rfl) hx1 hd1 hs1 hdx (cls_Lookup _) ⟨by kernel_rfl⟩ (Nat.le_of_ble_eq_true rfl) (by with_unfolding_all rfl) ?_ fun σ2 hx2 hd2 hs2 => ?_
  · repeat walk_at "v"
    exact ⟨rfl, Sub.refl _, rfl⟩
  refine  x_init0 (fs' := [("kind", .str "ligature"), ("flag", .int 8), ("mark_set", .int 0)]) G O (.int 0) (by kernel_rfl) (by decide +kernel) (by with_unfolding_all rfl) hx2 hd2 hs2 hdx (cls_Lookup _) ⟨by kernel_rfl⟩ (Nat.le_of_ble_eq_true rfl) (by with_unfolding_all rfl) ?_ fun σ3 hx3 hd3 hs3 => ?_
  · repeat walk_at "v"
    exact ⟨rfl, Sub.refl _, rfl⟩
  refine  x_init0 (fs' := [("kind", .str "ligature"), ("flag", .int 8), ("mark_set", .int 0), ("tables", .ref tb)]) G O (.ref tb) (by kernel_rfl) (by decide +kernel) (by with_unfolding_all rfl) hx3 hd3 hs3 hdx (cls_Lookup _) ⟨by kernel_rfl⟩ (Nat.le_of_ble_eq_true rfl) (by with_unfolding_all rfl) ?_ fun σ4 hx4 hd4 hs4 => ?_
  · repeat walk_at "v"
    exact ⟨rfl, Sub.refl _, rfl⟩
  refine  x_nil ⟨σ4, Sub.refl _, rfl, hs4, x, dx, rfl, hx4, hd4, hx, hdx⟩
theorem ad_mk_ClassDef (G : Gnd w h₀) (r : Room A 2) {d : Addr} : AD w h₀ A (.ref 293) [.ref d] (fun v σ' => Sub σ σ' ∧ Made σ 293 [("classes", .ref d)] v σ') σ := by
  refine  d_make (n := 1) G r (init := 264) (by kernel_rfl) (by kernel_rfl) (by kernel_rfl) fun x dx A' r' hdx hx hne => ?_
  refine  d_call (fd := F264) (names := ["self", "classes"]) (n := 0) G r' (by kernel_rfl) (by kernel_rfl) (by rfl) (fun cs hv => ?_) (by decide +kernel) (by decide +kernel) (by decide +kernel) (by rfl) (by rfl) (by rfl) fun L A2 hL r2 => ?_
  · obtain ⟨t0, t1, rfl⟩ := vl2 hv
    kernel_rfl
  have hx0 : upd (upd σ dx (.attrs [])) x (.inst 293 dx) x = some (.inst 293 dx) := upd_self ..
  have hd0 : upd (upd σ dx (.attrs [])) x (.inst 293 dx) dx = some (.attrs []) := by rw [upd_ne hne.symm, upd_self]
  have hs0 : Sub σ (upd (upd σ dx (.attrs [])) x (.inst 293 dx)) := (sub_upd hdx).trans (sub_upd (upd_none hne hx))
  generalize upd (upd σ dx (.attrs [])) x (.inst 293 dx) = σ0 at *
  with_reducible refine with_env ["self", "classes"] [] (by kernel_rfl) (by kernel_rfl) (by kernel_rfl) (by kernel_rfl) fun env O => ?_
  refine  x_init0 (fs' := [("classes", .ref d)]) G O (.ref d) (by kernel_rfl) (by decide +kernel) (by with_unfolding_all rfl) hx0 hd0 hs0 hdx (cls_ClassDef _) ⟨by kernel_rfl⟩ (Nat.le_of_ble_eq_true rfl) (by with_unfolding_all rfl) ?_ fun σ1 hx1 hd1 hs1 => ?_
  · repeat walk_at "v"
    exact ⟨rfl, Sub.refl _, rfl⟩
  refine  x_nil ⟨σ1, Sub.refl _, rfl, hs1, x, dx, rfl, hx1, hd1, hx, hdx⟩
theorem ad_mk_Ligature (G : Gnd w h₀) (r : Room A 2) {d : Addr} : AD w h₀ A (.ref 379) [.ref d] (fun v σ' => Sub σ σ' ∧ Made σ 379 [("sets", .ref d)] v σ') σ := by
  refine  d_make (n := 1) G r (init := 371) (by kernel_rfl) (by kernel_rfl) (by kernel_rfl) fun x dx A' r' hdx hx hne => ?_
  refine  d_call (fd := F371) (names := ["self", "sets"]) (n := 0) G r' (by kernel_rfl) (by kernel_rfl) (by rfl) (fun cs hv => ?_) (by decide +kernel) (by decide +kernel) (by decide +kernel) (by rfl) (by rfl) (by rfl) fun L A2 hL r2 => ?_
  · obtain ⟨t0, t1, rfl⟩ := vl2 hv
    kernel_rfl
  have hx0 : upd (upd σ dx (.attrs [])) x (.inst 379 dx) x = some (.inst 379 dx) := upd_self ..
  have hd0 : upd (upd σ dx (.attrs [])) x (.inst 379 dx) dx = some (.attrs []) := by rw [upd_ne hne.symm, upd_self]
  have hs0 : Sub σ (upd (upd σ dx (.attrs [])) x (.inst 379 dx)) := (sub_upd hdx).trans (sub_upd (upd_none hne hx))
  generalize upd (upd σ dx (.attrs [])) x (.inst 379 dx) = σ0 at *
  with_reducible refine with_env ["self", "sets"] [] (by kernel_rfl) (by kernel_rfl) (by kernel_rfl) (by kernel_rfl) fun env O => ?_
  refine  x_init0 (fs' := [("sets", .ref d)]) G O (.ref d) (by kernel_rfl) (by decide +kernel) (by with_unfolding_all rfl) hx0 hd0 hs0 hdx (cls_Ligature _) ⟨by kernel_rfl⟩ (Nat.le_of_ble_eq_true rfl) (by with_unfolding_all rfl) ?_ fun σ1 hx1 hd1 hs1 => ?_
  · repeat walk_at "v"
    exact ⟨rfl, Sub.refl _, rfl⟩
  refine  x_nil ⟨σ1, Sub.refl _, rfl, hs1, x, dx, rfl, hx1, hd1, hx, hdx⟩
theorem ad_mk_Buffer (G : Gnd w h₀) (r : Room A 2) {d : Addr} : AD w h₀ A (.ref 227) [.ref d] (fun v σ' => Sub σ σ' ∧ Made σ 227 [("row", .ref d), ("is_backward", .bool false), ("last_lig", .int 0), ("last_split", .int 0)] v σ') σ := by
  refine  d_make (n := 1) G r (init := 195) (by kernel_rfl) (by kernel_rfl) (by kernel_rfl) fun x dx A' r' hdx hx hne => ?_
  refine  d_callB (fd := F195) (names := ["self", "infos", "is_backward"]) (us := .ref x :: [.ref d] ++ [.bool false]) (n := 0) G r' (by kernel_rfl) (by kernel_rfl) (by rfl) (fun cs hv => ?_) (by decide +kernel) (by decide +kernel) (by decide +kernel) (by rfl) (by rfl) (by rfl) fun L A2 hL r2 => ?_
  · obtain ⟨t0, t1, rfl⟩ := vl2 hv
    exact dflt_Buffer hv
  have hx0 : upd (upd σ dx (.attrs [])) x (.inst 227 dx) x = some (.inst 227 dx) := upd_self ..
  have hd0 : upd (upd σ dx (.attrs [])) x (.inst 227 dx) dx = some (.attrs []) := by rw [upd_ne hne.symm, upd_self]
  have hs0 : Sub σ (upd (upd σ dx (.attrs [])) x (.inst 227 dx)) := (sub_upd hdx).trans (sub_upd (upd_none hne hx))
  generalize upd (upd σ dx (.attrs [])) x (.inst 227 dx) = σ0 at *
  with_reducible refine with_env ["self", "infos", "is_backward"] [] (by kernel_rfl) (by kernel_rfl) (by kernel_rfl) (by kernel_rfl) fun env O => ?_
  refine  x_init0 (fs' := [("row", .ref d)]) G O (.ref d) (by kernel_rfl) (by decide +kernel) (by with_unfolding_all rfl) hx0 hd0 hs0 hdx (cls_Buffer _) ⟨by kernel_rfl⟩ (Nat.le_of_ble_eq_true rfl) (by with_unfolding_all rfl) ?_ fun σ1 hx1 hd1 hs1 => ?_
  · repeat walk_at "v"
    exact ⟨rfl, Sub.refl _, rfl⟩
  refine  x_init0 (fs' := [("row", .ref d), ("is_backward", .bool false)]) G O (.bool false) (by kernel_rfl) (by decide +kernel) (by with_unfolding_all rfl) hx1 hd1 hs1 hdx (cls_Buffer _) ⟨by kernel_rfl⟩ (Nat.le_of_ble_eq_true rfl) (by with_unfolding_all rfl) ?_ fun σ2 hx2 hd2 hs2 => ?_
  · repeat walk_at "v"
    exact ⟨rfl, Sub.refl _, rfl⟩
  refine  x_init0 (fs' := [("row", .ref d), ("is_backward", .bool false), ("last_lig", .int 0)]) G O (.int 0) (by kernel_rfl) (by decide +kernel) (by with_unfolding_all rfl) hx2 hd2 hs2 hdx (cls_Buffer _) ⟨by kernel_rfl⟩ (Nat.le_of_ble_eq_true rfl) (by with_unfolding_all rfl) ?_ fun σ3 hx3 hd3 hs3 => ?_
  · repeat walk_at "v"
    exact ⟨rfl, Sub.refl _, rfl⟩
  refine  x_init0 (fs' := [("row", .ref d), ("is_backward", .bool false), ("last_lig", .int 0), ("last_split", .int 0)]) G O (.int 0) (by kernel_rfl) (by decide +kernel) (by with_unfolding_all rfl) hx3 hd3 hs3 hdx (cls_Buffer _) ⟨by kernel_rfl⟩ (Nat.le_of_ble_eq_true rfl) (by with_unfolding_all rfl) ?_ fun σ4 hx4 hd4 hs4 => ?_
  · repeat walk_at "v"
    exact ⟨rfl, Sub.refl _, rfl⟩
  refine  x_nil ⟨σ4, Sub.refl _, rfl, hs4, x, dx, rfl, hx4, hd4, hx, hdx⟩
end
section
variable {w : World} {h₀ : Heap} {A : Around} {L : Addr} {l : Loc} {σ σ₀ τ : St} {Q : V → Loc → St → Prop} {env : Env} {lo gl : List Str} {ce : List (Str × Addr)}
theorem gl55 (P : Params) : (K P).lookup 55 = some ⟨.type "tuple", none, .seq #[.int 0 257] 0, #[]⟩ := by kernel_rfl
theorem gl305 (P : Params) : (K P).lookup 305 = some ⟨.type "tuple", none, .seq #[.none, .none] 0, #[]⟩ := by kernel_rfl
theorem ad_mk_Scene (G : Gnd w h₀) (r : Room A 2) {bu gd ls lk : Addr} : AD w h₀ A (.ref 65) [.ref bu, .ref gd, .ref ls, .ref lk, .int 1] (fun v σ' => Sub σ σ' ∧ ∃ st : Addr, Made σ 65 [("buffer", .ref bu), ("gdef", .ref gd), ("lookups", .ref ls), ("lookup", .ref lk), ("mask", .int 1), ("depth", .int 0), ("steps", .ref st)] v σ') σ := by
  refine  d_make (n := 1) G r (init := 62) (by kernel_rfl) (by kernel_rfl) (by kernel_rfl) fun x dx A' r' hdx hx hne => ?_
  refine  d_callB (fd := F62) (names := ["self", "buffer", "gdef", "lookups", "lookup", "mask", "depth"]) (us := .ref x :: [.ref bu, .ref gd, .ref ls, .ref lk, .int 1] ++ [.int 0]) (n := 0) G r' (by kernel_rfl) (by kernel_rfl) (by rfl) (fun cs hv => ?_) (by decide +kernel) (by decide +kernel) (by decide +kernel) (by rfl) (by rfl) (by rfl) fun L A2 hL r2 => ?_
  · obtain ⟨t0, t1, t2, t3, t4, t5, rfl⟩ := vl6 hv
    refine  ⟨[(V.ref x).to t0, (V.ref bu).to t1, (V.ref gd).to t2, (V.ref ls).to t3, (V.ref lk).to t4, (V.int 1).to t5, .int 0 257], ⟨⟨t0, rfl⟩, ⟨t1, rfl⟩, ⟨t2, rfl⟩, ⟨t3, rfl⟩, ⟨t4, rfl⟩, ⟨t5, rfl⟩, ⟨257, rfl⟩, trivial⟩, fun s X => ?_⟩
    exact BindsTo.of_defaults (T := 55) rfl (X _ _ (gl55 _)) rfl rfl rfl
  have hx0 : upd (upd σ dx (.attrs [])) x (.inst 65 dx) x = some (.inst 65 dx) := upd_self ..
  have hd0 : upd (upd σ dx (.attrs [])) x (.inst 65 dx) dx = some (.attrs []) := by rw [upd_ne hne.symm, upd_self]
  have hs0 : Sub σ (upd (upd σ dx (.attrs [])) x (.inst 65 dx)) := (sub_upd hdx).trans (sub_upd (upd_none hne hx))
  generalize upd (upd σ dx (.attrs [])) x (.inst 65 dx) = σ0 at *
  with_reducible refine with_env ["self", "buffer", "gdef", "lookups", "lookup", "mask", "depth"] [] (by kernel_rfl) (by kernel_rfl) (by kernel_rfl) (by kernel_rfl) fun env O => ?_
  refine  x_init0 (fs' := [("buffer", .ref bu)]) G O (.ref bu) (by kernel_rfl) (by decide +kernel) (by with_unfolding_all rfl) hx0 hd0 hs0 hdx (cls_Scene _) ⟨by kernel_rfl⟩ (Nat.le_of_ble_eq_true rfl) (by with_unfolding_all rfl) ?_ fun σ1 hx1 hd1 hs1 => ?_
  · repeat walk_at "v"
    exact ⟨rfl, Sub.refl _, rfl⟩
  refine  x_init0 (fs' := [("buffer", .ref bu), ("gdef", .ref gd)]) G O (.ref gd) (by kernel_rfl) (by decide +kernel) (by with_unfolding_all rfl) hx1 hd1 hs1 hdx (cls_Scene _) ⟨by kernel_rfl⟩ (Nat.le_of_ble_eq_true rfl) (by with_unfolding_all rfl) ?_ fun σ2 hx2 hd2 hs2 => ?_
  · repeat walk_at "v"
    exact ⟨rfl, Sub.refl _, rfl⟩
  refine  x_init0 (fs' := [("buffer", .ref bu), ("gdef", .ref gd), ("lookups", .ref ls)]) G O (.ref ls) (by kernel_rfl) (by decide +kernel) (by with_unfolding_all rfl) hx2 hd2 hs2 hdx (cls_Scene _) ⟨by kernel_rfl⟩ (Nat.le_of_ble_eq_true rfl) (by with_unfolding_all rfl) ?_ fun σ3 hx3 hd3 hs3 => ?_
  · repeat walk_at "v"
    exact ⟨rfl, Sub.refl _, rfl⟩
  refine  x_init0 (fs' := [("buffer", .ref bu), ("gdef", .ref gd), ("lookups", .ref ls), ("lookup", .ref lk)]) G O (.ref lk) (by kernel_rfl) (by decide +kernel) (by with_unfolding_all rfl) hx3 hd3 hs3 hdx (cls_Scene _) ⟨by kernel_rfl⟩ (Nat.le_of_ble_eq_true rfl) (by with_unfolding_all rfl) ?_ fun σ4 hx4 hd4 hs4 => ?_
  · repeat walk_at "v"
    exact ⟨rfl, Sub.refl _, rfl⟩
  refine  x_init0 (fs' := [("buffer", .ref bu), ("gdef", .ref gd), ("lookups", .ref ls), ("lookup", .ref lk), ("mask", .int 1)]) G O (.int 1) (by kernel_rfl) (by decide +kernel) (by with_unfolding_all rfl) hx4 hd4 hs4 hdx (cls_Scene _) ⟨by kernel_rfl⟩ (Nat.le_of_ble_eq_true rfl) (by with_unfolding_all rfl) ?_ fun σ5 hx5 hd5 hs5 => ?_
  · repeat walk_at "v"
    exact ⟨rfl, Sub.refl _, rfl⟩
  refine  x_init0 (fs' := [("buffer", .ref bu), ("gdef", .ref gd), ("lookups", .ref ls), ("lookup", .ref lk), ("mask", .int 1), ("depth", .int 0)]) G O (.int 0) (by kernel_rfl) (by decide +kernel) (by with_unfolding_all rfl) hx5 hd5 hs5 hdx (cls_Scene _) ⟨by kernel_rfl⟩ (Nat.le_of_ble_eq_true rfl) (by with_unfolding_all rfl) ?_ fun σ6 hx6 hd6 hs6 => ?_
  · repeat walk_at "v"
    exact ⟨rfl, Sub.refl _, rfl⟩
  refine  x_init G O (fun v => ∃ b, v = .ref b) (by decide +kernel) (by with_unfolding_all rfl) hx6 hd6 hs6 hdx (cls_Scene _) ⟨by kernel_rfl⟩ (Nat.le_of_ble_eq_true rfl) (by with_unfolding_all rfl) ?_ fun v σ7 hv hx7 hd7 hs7 => ?_
  · repeat walk_at "v"
    exact ⟨by simp, fun b hb => ⟨rfl, sub_upd hb, b, rfl⟩⟩
  obtain ⟨st, rfl⟩ := hv
  rw [show setF [("buffer", .ref bu), ("gdef", .ref gd), ("lookups", .ref ls), ("lookup", .ref lk), ("mask", .int 1), ("depth", .int 0)] ("steps" : Str) (.ref st) = ([("buffer", .ref bu), ("gdef", .ref gd), ("lookups", .ref ls), ("lookup", .ref lk), ("mask", .int 1), ("depth", .int 0), ("steps", .ref st)] : Loc) by kernel_rfl] at hd7
  refine  x_nil ⟨σ7, Sub.refl _, rfl, hs7, st, x, dx, rfl, hx7, hd7, hx, hdx⟩
theorem ad_mk_Gdef (G : Gnd w h₀) (r : Room A 2) {cd ad sets : Addr} : AD w h₀ A (.ref 341) [.ref cd, .ref ad, .ref sets] (fun v σ' => Sub σ σ' ∧ ∃ pt ct : Addr, Made σ 341 [("classes", .ref cd), ("attach", .ref ad), ("sets", .ref sets), ("points", .ref pt), ("carets", .ref ct)] v σ') σ := by
  refine  d_make (n := 1) G r (init := 312) (by kernel_rfl) (by kernel_rfl) (by kernel_rfl) fun x dx A' r' hdx hx hne => ?_
  refine  d_callB (fd := F312) (names := ["self", "classes", "attach", "sets", "points", "carets"]) (us := .ref x :: [.ref cd, .ref ad, .ref sets] ++ [.none, .none]) (n := 0) G r' (by kernel_rfl) (by kernel_rfl) (by rfl) (fun cs hv => ?_) (by decide +kernel) (by decide +kernel) (by decide +kernel) (by rfl) (by rfl) (by rfl) fun L A2 hL r2 => ?_
  · obtain ⟨t0, t1, t2, t3, rfl⟩ := vl4 hv
    refine  ⟨[(V.ref x).to t0, (V.ref cd).to t1, (V.ref ad).to t2, (V.ref sets).to t3, .none, .none], ⟨⟨t0, rfl⟩, ⟨t1, rfl⟩, ⟨t2, rfl⟩, ⟨t3, rfl⟩, ⟨0, rfl⟩, ⟨0, rfl⟩, trivial⟩, fun s X => ?_⟩
    exact BindsTo.of_defaults (T := 305) rfl (X _ _ (gl305 _)) rfl rfl rfl
  have hx0 : upd (upd σ dx (.attrs [])) x (.inst 341 dx) x = some (.inst 341 dx) := upd_self ..
  have hd0 : upd (upd σ dx (.attrs [])) x (.inst 341 dx) dx = some (.attrs []) := by rw [upd_ne hne.symm, upd_self]
  have hs0 : Sub σ (upd (upd σ dx (.attrs [])) x (.inst 341 dx)) := (sub_upd hdx).trans (sub_upd (upd_none hne hx))
  generalize upd (upd σ dx (.attrs [])) x (.inst 341 dx) = σ0 at *
  with_reducible refine with_env ["self", "classes", "attach", "sets", "points", "carets"] [] (by kernel_rfl) (by kernel_rfl) (by kernel_rfl) (by kernel_rfl) fun env O => ?_
  refine  x_init0 (fs' := [("classes", .ref cd)]) G O (.ref cd) (by kernel_rfl) (by decide +kernel) (by with_unfolding_all rfl) hx0 hd0 hs0 hdx (cls_Gdef _) ⟨by kernel_rfl⟩ (Nat.le_of_ble_eq_true rfl) (by with_unfolding_all rfl) ?_ fun σ1 hx1 hd1 hs1 => ?_
  · repeat walk_at "v"
    exact ⟨rfl, Sub.refl _, rfl⟩
  refine  x_init0 (fs' := [("classes", .ref cd), ("attach", .ref ad)]) G O (.ref ad) (by kernel_rfl) (by decide +kernel) (by with_unfolding_all rfl) hx1 hd1 hs1 hdx (cls_Gdef _) ⟨by kernel_rfl⟩ (Nat.le_of_ble_eq_true rfl) (by with_unfolding_all rfl) ?_ fun σ2 hx2 hd2 hs2 => ?_
  · repeat walk_at "v"
    exact ⟨rfl, Sub.refl _, rfl⟩
  refine  x_init0 (fs' := [("classes", .ref cd), ("attach", .ref ad), ("sets", .ref sets)]) G O (.ref sets) (by kernel_rfl) (by decide +kernel) (by with_unfolding_all rfl) hx2 hd2 hs2 hdx (cls_Gdef _) ⟨by kernel_rfl⟩ (Nat.le_of_ble_eq_true rfl) (by with_unfolding_all rfl) ?_ fun σ3 hx3 hd3 hs3 => ?_
  · repeat walk_at "v"
    exact ⟨rfl, Sub.refl _, rfl⟩
  refine  x_init G O (fun v => ∃ b, v = .ref b) (by decide +kernel) (by with_unfolding_all rfl) hx3 hd3 hs3 hdx (cls_Gdef _) ⟨by kernel_rfl⟩ (Nat.le_of_ble_eq_true rfl) (by with_unfolding_all rfl) ?_ fun v σ4 hv hx4 hd4 hs4 => ?_
  · repeat walk_at "v"
    with_reducible refine b_is_none ?_
    repeat walk_at "v"
    with_reducible refine ⟨fun _ => ?_, fun hc => (nomatch hc)⟩
    repeat walk_at "v"
    exact fun b hb => ⟨rfl, sub_upd hb, b, rfl⟩
  obtain ⟨pt, rfl⟩ := hv
  rw [show setF [("classes", .ref cd), ("attach", .ref ad), ("sets", .ref sets)] ("points" : Str) (.ref pt) = ([("classes", .ref cd), ("attach", .ref ad), ("sets", .ref sets), ("points", .ref pt)] : Loc) by kernel_rfl] at hd4
  refine  x_init G O (fun v => ∃ b, v = .ref b) (by decide +kernel) (by with_unfolding_all rfl) hx4 hd4 hs4 hdx (cls_Gdef _) ⟨by kernel_rfl⟩ (Nat.le_of_ble_eq_true rfl) (by with_unfolding_all rfl) ?_ fun v σ5 hv hx5 hd5 hs5 => ?_
  · repeat walk_at "v"
    with_reducible refine b_is_none ?_
    repeat walk_at "v"
    with_reducible refine ⟨fun _ => ?_, fun hc => (nomatch hc)⟩
    repeat walk_at "v"
    exact fun b hb => ⟨rfl, sub_upd hb, b, rfl⟩
  obtain ⟨ct, rfl⟩ := hv
  rw [show setF [("classes", .ref cd), ("attach", .ref ad), ("sets", .ref sets), ("points", .ref pt)] ("carets" : Str) (.ref ct) = ([("classes", .ref cd), ("attach", .ref ad), ("sets", .ref sets), ("points", .ref pt), ("carets", .ref ct)] : Loc) by kernel_rfl] at hd5
  refine  x_nil ⟨σ5, Sub.refl _, rfl, hs5, pt, ct, x, dx, rfl, hx5, hd5, hx, hdx⟩
end
section
variable {w : World} {h₀ : Heap} {A : Around} {L : Addr} {l : Loc} {σ σ₀ τ : St} {Q : V → Loc → St → Prop} {env : Env} {lo gl : List Str} {ce : List (Str × Addr)}
theorem keep_self {σ : St} {a : Addr} {x y : AO} (h : σ a = some y) : Keep (fun b => b = a) σ (Mine.upd σ a x) := (Keep.refl _ _).upd (.inl rfl)
theorem ad_take (G : Gnd w h₀) (r : Room A 1) {pa : Addr} {ns : List Int} (hp : σ pa = some (.list (ns.map V.int))) (hz : ns.length ≤ 900) {m : Int} (hm : 0 < m) (hm2 : m < 1000) :
    AD w h₀ A (.ref 435) [.ref pa, .int m] (fun v σ' => Keep (fun b => b = pa) σ σ' ∧ ∃ (d : Int) (ns' : List Int), v = .int d ∧ 0 ≤ d ∧ d < m ∧ ns'.length ≤ ns.length ∧ σ' pa = some (.list (ns'.map V.int))) σ := by
  refine d_call (fd := F435) (names := ["pool", "many"]) (n := 0) G r (by kernel_rfl) (by kernel_rfl) (by rfl) (fun cs hv => ?_) (by decide +kernel) (by decide +kernel) (by decide +kernel) (by rfl) (by rfl) (by rfl) fun L A' hL r' => ?_
  · obtain ⟨t0, t1, rfl⟩ := vl2 hv
    kernel_rfl
  with_reducible refine with_env ["pool", "many", "digit"] ["len"] (by kernel_rfl) (by kernel_rfl) (by kernel_rfl) (by kernel_rfl) fun env O => ?_
  refine x_cons ?_
  repeat walk_at "v"
  with_reducible refine e_callB G O (by decide +kernel) (by kernel_rfl) boot_len (by with_unfolding_all rfl) ?_
  repeat walk_at "v"
  with_reducible refine c_len hp (by rw [List.length_map]; omega) ?_
  repeat walk_at "v"
  rw [List.length_map]
  with_reducible refine ⟨fun hc => ?_, fun hc => ?_⟩
  · repeat walk_at "v"
    refine  ⟨σ, Sub.refl _, Keep.refl _ _, 0, ns, rfl, by omega, hm, Nat.le_refl _, hp⟩
  have hne : ns.length ≠ 0 := by
    rw [beq_eq_false_iff_ne] at hc
    omega
  obtain ⟨n, nr, rfl⟩ : ∃ n nr, ns = n :: nr := by
    match ns, hne with
    | n :: nr, _ => exact ⟨n, nr, rfl⟩
  rw [List.length_cons] at hz
  repeat walk_at "v"
  with_reducible refine s_list0 hp rfl ?_ (by intro _; with_unfolding_all rfl)
  repeat walk_at "v"
  with_reducible refine b_mod (by omega) ?_
  repeat walk_at "v"
  with_reducible refine s_list0 hp rfl ?_ (by intro _; with_unfolding_all rfl)
  repeat walk_at "v"
  with_reducible refine b_div (by omega) (PyProof.noPylong_small (by omega)) ?_
  repeat walk_at "v"
  refine  i_list hp (by decide) (by simp <;> omega) (by simp <;> omega) ?_
  have hp2 : upd σ pa (.list (((n :: nr).map V.int).set (0 : Int).toNat (.int (n.fdiv m)))) pa = some (.list ((n.fdiv m :: nr).map V.int)) := upd_self ..
  have k2 : Keep (fun b => b = pa) σ (upd σ pa (.list (((n :: nr).map V.int).set (0 : Int).toNat (.int (n.fdiv m))))) := keep_self hp
  generalize upd σ pa (.list (((n :: nr).map V.int).set (0 : Int).toNat (.int (n.fdiv m)))) = σ2 at *
  have hd0 : 0 ≤ n.fmod m := Int.fmod_nonneg_of_pos _ hm
  have hd1 : n.fmod m < m := Int.fmod_lt_of_pos _ hm
  repeat walk_at "v"
  with_reducible refine s_list0 hp2 rfl ?_ (by intro _; with_unfolding_all rfl)
  repeat walk_at "v"
  with_reducible refine ⟨fun hc => ?_, fun hc => ?_⟩
  · repeat walk_at "v"
    intro t
    with_reducible refine m_list PySem.F.slot_list_pop PySem.F.type_list_pop hp2 ?_ t
    with_reducible refine cw_B (by with_unfolding_all rfl) ?_
    repeat walk_at "v"
    refine  c_pop0 (v := .int (n.fdiv m)) (vs := nr.map V.int) hp2 (by simp; omega) ?_
    repeat walk_at "v"
    refine  ⟨_, Sub.refl _, k2.upd (.inl rfl), n.fmod m, nr, rfl, hd0, hd1, by simp, upd_self ..⟩
  · repeat walk_at "v"
    refine  ⟨σ2, Sub.refl _, k2, n.fmod m, n.fdiv m :: nr, rfl, hd0, hd1, by simp, hp2⟩
/-- a row of the plan -/
noncomputable abbrev PRec := Addr × Int × Int × Int
structure PlanAt (σ : St) (pl : Addr) (rows : List PRec) : Prop where
  lst : σ pl = some (.list (rows.map fun e => V.ref e.1))
  obj : ∀ e ∈ rows, σ e.1 = some (.list [.int e.2.1, .int e.2.2.1, .int e.2.2.2])
theorem PlanAt.sub {σ τ : St} {pl : Addr} {rows : List PRec} (h : PlanAt σ pl rows) (k : Sub σ τ) : PlanAt τ pl rows := ⟨k _ _ h.lst, fun e he => k _ _ (h.obj e he)⟩
theorem PlanAt.get {σ : St} {pl : Addr} {rows : List PRec} (h : PlanAt σ pl rows) {i : Nat} {e : PRec} (he : rows[i]? = some e) : σ e.1 = some (.list [.int e.2.1, .int e.2.2.1, .int e.2.2.2]) ∧ (rows.map fun e => V.ref e.1)[i]? = some (.ref e.1) :=
  ⟨h.obj e (List.mem_of_getElem? he), by rw [List.getElem?_map, he]; rfl⟩
noncomputable def mayTo (f o : PRec) : Bool := if f.2.2.1 > 0 then (o.2.1 == f.2.1 && o.2.2.1 == f.2.2.1) else !(decide (o.2.2.1 > 0) && o.2.1 != f.2.1)
theorem getD_atP {rs : List PRec} {i : Nat} {d : PRec} (h : i < rs.length) : rs[i]? = some (rs.getD i d) := by
  rw [List.getD_eq_getElem?_getD, List.getElem?_eq_getElem h]; rfl
theorem b_ne_two {n : Nat} (r : Room A n) {a b : Addr} {i p j q : Int} (ha : σ a = some (.list [.int i, .int p])) (hb : σ b = some (.list [.int j, .int q])) (z : Q (.bool (!(i == j && p == q))) l σ) : AB w h₀ A L (compareOp .NotEq) (.ref a) (.ref b) Q l σ := by
  refine  b_ne_list (n := 0) (by have := r.u; omega) ha hb rfl (fun k => if k = 0 then i == j else p == q) (fun k v u h1 h2 => ?_) (by
    show Q (.bool (!((List.range 2).all (fun k => if k = 0 then i == j else p == q)))) l σ
    rw [show (!((List.range 2).all (fun k => if k = 0 then i == j else p == q))) = (!(i == j && p == q)) from by cases (i == j) <;> cases (p == q) <;> rfl]
    exact z)
  match k, h1, h2 with
  | 0, h1, h2 => cases h1; cases h2; exact .int _ _
  | 1, h1, h2 => cases h1; cases h2; exact .int _ _
theorem picks2 (a b c : V) : picks [a, b, c] none (some 2) [a, b] := picks_upto [a, b, c] 2
theorem ad_may (G : Gnd w h₀) (r : Room A 2) {pl : Addr} {rs : List PRec} (R : PlanAt σ pl rs) (hz : rs.length ≤ 900) {pa : Addr} {p0 : Nat} {ps : List Nat} (hp : σ pa = some (.list (nv p0 :: ps.map nv))) (hzp : ps.length ≤ 900) {d : PRec} (h0 : p0 < rs.length) (hps : ∀ p ∈ ps, p < rs.length) :
    AD w h₀ A (.ref 442) [.ref pl, .ref pa] (fun v σ' => v = .bool (ps.all fun p => mayTo (rs.getD p0 d) (rs.getD p d)) ∧ σ' = σ) σ := by
  have e0 := getD_atP (d := d) h0
  refine d_call (fd := F442) (names := ["plan", "spots"]) (n := 1) G r (by kernel_rfl) (by kernel_rfl) (by rfl) (fun cs hv => ?_) (by decide +kernel) (by decide +kernel) (by decide +kernel) (by rfl) (by rfl) (by rfl) fun L A' hL r' => ?_
  · obtain ⟨t0, t1, rfl⟩ := vl2 hv
    kernel_rfl
  with_reducible refine with_env ["plan", "spots", "first", "at", "other"] [] (by kernel_rfl) (by kernel_rfl) (by kernel_rfl) (by kernel_rfl) fun env O => ?_
  refine x_cons ?_
  repeat walk_at "v"
  with_reducible refine s_list hp (by decide) (by decide) (by with_unfolding_all rfl) ?_ (by intro _; with_unfolding_all rfl)
  with_reducible refine s_listN R.lst (by omega) (R.get e0).2 ?_ (by intro _; with_unfolding_all rfl)
  repeat walk_at "v"
  intro c hc
  with_reducible refine s_slice (us := ps.map nv) (upd_old hc hp) (upd_self ..) (.int 1) .none (by simp; omega) (picks_tail _ _) (fun b hb => ?_) (by with_unfolding_all rfl)
  have hb' := (none_ne hb).2
  refine  f_loop (fun i l' σ' => σ' = upd (upd σ c (AO.slice (V.int 1) V.none)) b (AO.list (ps.map nv)) ∧ locChk l' [("plan", .ref pl), ("first", .ref (rs.getD p0 d).1)] ∧ (ps.take i).all (fun p => mayTo (rs.getD p0 d) (rs.getD p d)) = true) (Starts.list r'.hh (nv 0) (upd_self ..)) ⟨rfl, ⟨rfl, rfl, trivial⟩, rfl⟩ (fun i l' σ' h => by rw [h.1]; exact upd_self ..) ?_ ?_
  · rintro I i l' σ' hi ⟨rfl, hl, hall⟩ hI hIL
    rw [List.length_map] at hi
    rw [getD_map (d' := 0) hi]
    have hpi := getD_atP (d := d) (hps _ (List.getElem_mem hi))
    have egd : ps.getD i 0 = ps[i] := by rw [List.getD_eq_getElem?_getD, List.getElem?_eq_getElem hi]; rfl
    have sub : Sub σ (upd (upd (upd σ c (AO.slice (V.int 1) V.none)) b (AO.list (ps.map nv))) I (.liter b (i + 1))) := ((sub_upd hc).trans (sub_upd hb)).trans (sub_upd hI)
    have of := sub.ap (R.get e0).1
    have oo := sub.ap (R.get hpi).1
    with_reducible refine AA.loc (locLe.of hl) ?_
    repeat walk_at "v"
    have hplt := hps _ (List.getElem_mem hi)
    rw [egd]
    with_reducible refine s_listN (R.sub sub).lst (by omega) (R.get hpi).2 ?_ (by intro _; with_unfolding_all rfl)
    repeat walk_at "v"
    with_reducible refine s_list of (by decide) (by decide) (by with_unfolding_all rfl) ?_ (by intro _; with_unfolding_all rfl)
    repeat walk_at "v"
    with_reducible refine ⟨fun hc => ?_, fun hc => ?_⟩
    · have hf := of_decide_eq_true hc
      repeat walk_at "v"
      intro s1 hs1
      with_reducible refine s_slice (us := [.int (rs.getD ps[i] d).2.1, .int (rs.getD ps[i] d).2.2.1]) (upd_old hs1 oo) (upd_self ..) .none (.int 2) (by simp) (picks2 _ _ _) (fun t1 ht1 => ?_) (by with_unfolding_all rfl)
      repeat walk_at "v"
      intro s2 hs2
      with_reducible refine s_slice (us := [.int (rs.getD p0 d).2.1, .int (rs.getD p0 d).2.2.1]) (upd_old hs2 (upd_old ht1 (upd_old hs1 of))) (upd_self ..) .none (.int 2) (by simp) (picks2 _ _ _) (fun t2 ht2 => ?_) (by with_unfolding_all rfl)
      with_reducible refine b_ne_two r' (upd_old ht2 (upd_old hs2 (upd_self ..))) (upd_self ..) ?_
      have sub4 := (((sub_upd (x := AO.slice V.none (V.int 2)) hs1).trans (sub_upd (x := AO.list [.int (rs.getD ps[i] d).2.1, .int (rs.getD ps[i] d).2.2.1]) ht1)).trans (sub_upd (x := AO.slice V.none (V.int 2)) hs2)).trans (sub_upd (x := AO.list [.int (rs.getD p0 d).2.1, .int (rs.getD p0 d).2.2.1]) ht2)
      repeat walk_at "v"
      have key : ∀ b, ((rs.getD ps[i] d).2.1 == (rs.getD p0 d).2.1 && (rs.getD ps[i] d).2.2.1 == (rs.getD p0 d).2.2.1) = b → mayTo (rs.getD p0 d) (rs.getD (ps.getD i 0) d) = b := fun b hb => by
        rw [egd]; unfold mayTo; rw [if_pos hf, hb]
      with_reducible refine ⟨fun hd => ?_, fun hd => ?_⟩
      · repeat walk_at "v"
        refine  ⟨σ, sub.trans sub4, ?_, rfl⟩
        rw [not_all (d := 0) hi (key false (by simpa only [Bool.not_eq_true'] using hd))]
        rfl
      · repeat walk_at "v"
        refine  turn_ok hI sub4 ⟨rfl, ⟨rfl, rfl, trivial⟩, take_all (d := 0) hi hall (key true (by simpa only [Bool.not_eq_false'] using hd))⟩
    · have hf := of_decide_eq_false hc
      repeat walk_at "v"
      with_reducible refine s_list oo (by decide) (by decide) (by with_unfolding_all rfl) ?_ (by intro _; with_unfolding_all rfl)
      repeat walk_at "v"
      have key : ∀ b, (decide ((rs.getD ps[i] d).2.2.1 > 0) && (rs.getD ps[i] d).2.1 != (rs.getD p0 d).2.1) = b → mayTo (rs.getD p0 d) (rs.getD (ps.getD i 0) d) = !b := fun b hb => by
        rw [egd]; unfold mayTo; rw [if_neg hf, hb]
      with_reducible refine ⟨fun hd => ?_, fun hd => ?_⟩
      · repeat walk_at "v"
        with_reducible refine s_list0 oo rfl ?_ (by intro _; with_unfolding_all rfl)
        repeat walk_at "v"
        with_reducible refine s_list0 of rfl ?_ (by intro _; with_unfolding_all rfl)
        repeat walk_at "v"
        with_reducible refine ⟨fun he => ?_, fun he => ?_⟩
        · repeat walk_at "v"
          with_reducible refine ⟨fun _ => ?_, fun hc => (nomatch hc)⟩
          repeat walk_at "v"
          refine  ⟨σ, sub, ?_, rfl⟩
          rw [not_all (d := 0) hi (key true (by rw [hd, he]; rfl))]
          rfl
        · with_reducible refine ⟨fun hc => (nomatch hc), fun _ => ?_⟩
          repeat walk_at "v"
          refine  turn_ok hI (Sub.refl _) ⟨rfl, ⟨rfl, rfl, trivial⟩, take_all (d := 0) hi hall (key false (by rw [hd, he]; rfl))⟩
      · with_reducible refine ⟨fun hc => (nomatch hc), fun _ => ?_⟩
        repeat walk_at "v"
        refine  turn_ok hI (Sub.refl _) ⟨rfl, ⟨rfl, rfl, trivial⟩, take_all (d := 0) hi hall (key false (by rw [hd]; rfl))⟩
  · rintro l' σ' ⟨rfl, hl, hall⟩
    repeat walk_at "v"
    rw [List.length_map, List.take_of_length_le (Nat.le_refl _)] at hall
    refine  ⟨σ, (sub_upd hc).trans (sub_upd hb), by rw [hall]; rfl, rfl⟩
end
section
variable {w : World} {h₀ : Heap} {A : Around} {L : Addr} {l : Loc} {σ σ₀ τ : St} {env : Env} {lo gl : List Str} {ce : List (Str × Addr)}
noncomputable def pv : Option PRec → V
  | none => .none
  | some e => .ref e.1
/-- the plan as it is built: rows or nothing -/
structure PlanO (σ : St) (pl : Addr) (PL : List (Option PRec)) : Prop where
  lst : σ pl = some (.list (PL.map pv))
  obj : ∀ e, some e ∈ PL → σ e.1 = some (.list [.int e.2.1, .int e.2.2.1, .int e.2.2.2])
theorem PlanO.sub {σ τ : St} {pl : Addr} {PL : List (Option PRec)} (h : PlanO σ pl PL) (k : Sub σ τ) : PlanO τ pl PL := ⟨k _ _ h.lst, fun e he => k _ _ (h.obj e he)⟩
noncomputable def trip (i : Inf) : Int × Int × Int := (i.id, i.part, i.cnt)
noncomputable def okInf (i : Inf) : Prop := 0 ≤ i.part ∧ (i.part > 0 → i.id ≠ 0)
theorem hold_may {f o : Inf} {f' o' : PRec} (hf : trip f = f'.2) (ho : trip o = o'.2) (kf : okInf f) (ko : okInf o) : holdsTo f o = mayTo f' o' := by
  have e1 : f'.2.1 = f.id := by rw [← hf]; rfl
  have e2 : f'.2.2.1 = f.part := by rw [← hf]; rfl
  have e3 : o'.2.1 = o.id := by rw [← ho]; rfl
  have e4 : o'.2.2.1 = o.part := by rw [← ho]; rfl
  have piece_is : ∀ i : Inf, okInf i → piece i = decide (i.part > 0) := fun i ⟨h1, h2⟩ => by
    unfold piece
    by_cases c : i.part > 0
    · rw [decide_eq_true c]
      have := h2 c
      have c' : i.part ≠ 0 := by omega
      simp [this, c']
    · rw [decide_eq_false c]
      have : i.part = 0 := by omega
      simp [this]
  unfold holdsTo mayTo
  rw [e1, e2, e3, e4, piece_is f kf, piece_is o ko]
  by_cases c : f.part > 0
  · rw [decide_eq_true c, if_pos rfl, if_pos c]
  · rw [decide_eq_false c, if_neg (by decide), if_neg c]
noncomputable abbrev lawLo : List Str := ["script", "number", "glyphs", "begins", "parts", "part", "turn", "infos", "at", "buffer", "lookup", "scene", "table", "gone", "begin", "size", "one", "other", "spots"]
noncomputable abbrev lawGl : List Str := ["range", "_law_take", "len", "Info", "Buffer", "Lookup", "IGNORE_MARKS", "Scene", "Gdef", "ClassDef", "Ligature", "apply_ligature", "hold_together", "_law_may", "sorted"]
noncomputable def lawBody : List Stmt := match F447.body with
  | .stmts b => b
  | _ => []
theorem planF {PL : List (Option PRec)} {i : Nat} {e : Option PRec} (he : PL[i]? = some e) : (PL.take (i + 1)).filterMap id = (PL.take i).filterMap id ++ e.toList := by
  rw [List.take_add_one, he, List.filterMap_append]
  cases e <;> simp
theorem swaps_cell {elt : Expr} {gens : List Comprehension} {scope : Scope} {sp pos : Pos} {t : Str} {line : Nat} (hk : env.kindOf t = some .cell) : swapsWith (.ListComp elt gens scope sp) (some (.Name t pos)) line env = pure false := by
  unfold swapsWith
  dsimp only
  rw [hk]
  rw [show (some NameKind.cell == some NameKind.local) = false from rfl, Bool.and_false, Bool.false_and, Bool.false_and]
/-- the plan without the gaps -/
theorem law11 (G : Gnd w h₀) (r : Room A 3) (O : EnvOk env L lawLo lawGl [("pool", L + 1), ("plan", L + 2)]) (hk : env.kindOf "plan" = some .cell) {Q : Fl → Loc → St → Prop} {pl : Addr} {PL : List (Option PRec)} (hc : σ (L + 2) = some (.cell (.ref pl))) (hP : PlanO σ pl PL) (hz : PL.length ≤ 200)
    (h : ∀ (D : Addr) τ, τ (L + 2) = some (.cell (.ref D)) → (∀ a x, a ≠ L + 2 → σ a = some x → τ a = some x) → σ D = none → PlanAt τ D (PL.filterMap id) → AXs w h₀ A L env (lawBody.drop 12) Q l τ) : AXs w h₀ A L env (lawBody.drop 11) Q l σ := by
  have mp : (("plan" : Str), L + 2) ∈ [(("pool" : Str), L + 1), (("plan" : Str), L + 2)] := .tail _ (.head _)
  refine  x_cons ?_
  with_reducible refine x_cell O mp hk ?_ (swaps_cell hk)
  with_reducible refine e_comp (closureFor_none (by decide)) (by with_unfolding_all rfl) (by decide +kernel) ?_ (by intro _; with_unfolding_all rfl)
  with_reducible refine e_cell O mp hc ?_ (by decide +kernel) (by decide +kernel)
  have hPl : (PL.map pv).length = PL.length := by simp
  refine  co_loop (lo' := ["row"]) (gl' := []) (by decide) rfl (fun C => comp_env O _ _ (by kernel_rfl)) (by decide +kernel) (fun i acc σ' => acc = ((PL.take i).filterMap id).map (fun e => V.ref e.1) ∧ Sub σ σ') (Starts.list r.hh .none hP.lst) (fun _ _ h k => k.ap h) (by rw [hPl]; omega) ⟨rfl, Sub.refl _⟩
    (fun i acc σ' h => h.2.ap hP.lst) ?_ ?_
  · rintro env' C D J i acc σ' OC hi ⟨rfl, hs⟩ PF
    rw [hPl] at hi
    obtain ⟨e, he⟩ : ∃ e, PL[i]? = some e := ⟨_, List.getElem?_eq_getElem hi⟩
    have hit : (PL.map pv).getD i .none = pv e := by rw [List.getD_eq_getElem?_getD, List.getElem?_map, he]; rfl
    rw [hit]
    have hF := planF he
    with_reducible refine ts_one ?_
    repeat walk_at "v"
    cases e with
    | none =>
      refine  b_isnot_none ?_
      repeat walk_at "v"
      with_reducible refine ⟨fun hc => (nomatch hc), fun _ => ?_⟩
      refine  ⟨σ', Sub.refl _, PF, by rw [hF]; simp, hs⟩
    | some x =>
      refine  b_isnot_ref ?_
      repeat walk_at "v"
      with_reducible refine ⟨fun _ => ?_, fun hc => (nomatch hc)⟩
      repeat walk_at "v"
      refine  ⟨σ', Sub.refl _, PF, by rw [hF]; simp [pv], hs⟩
  · rintro D acc σ' ⟨rfl, hs⟩ hD hL'
    rw [hPl, List.take_of_length_le (Nat.le_refl _)]
    have hs2 := hs.trans (sub_upd (x := .list ((PL.filterMap id).map fun e => V.ref e.1)) hD)
    refine  ⟨_, hs2.ap hc, .inr ⟨_, rfl⟩, ?_⟩
    refine  h D _ (upd_self ..) (fun a x n e => by rw [upd_ne n]; exact hs2.ap e) (sub_off hs hD) ⟨?_, fun e he => ?_⟩
    · have hne : D ≠ L + 2 := by rintro rfl; have := hs.ap hc; rw [hD] at this; cases this
      rw [upd_ne hne, upd_self]
    · obtain ⟨o, ho, e'⟩ := List.mem_filterMap.mp he
      have ho' : o = some e := by simpa using e'
      subst ho'
      have := hP.obj e ho
      rw [upd_ne (ne_ao this hc (by simp))]
      exact hs2.ap this
end
section
variable {w : World} {h₀ : Heap} {A : Around} {L : Addr} {l : Loc} {σ σ₀ τ : St} {env : Env} {lo gl : List Str} {ce : List (Str × Addr)}
/-- the law's things behind the ligatures -/
structure LawAt (σ : St) (L : Addr) (S : Sc) (k : Int) (pa D : Addr) (ns : List Int) (rows : List PRec) (rs : List Rec) : Prop where
  cp : σ (L + 1) = some (.cell (.ref pa))
  cd : σ (L + 2) = some (.cell (.ref D))
  pool : σ pa = some (.list (ns.map V.int))
  plan : PlanAt σ D rows
  sc : ScAt σ S
  bux : σ S.bux = some (.attrs (bufFs S k))
  row : RowAt σ S.ra rs
  con : (rs.map fun e => trip e.2.2) = rows.map fun e => e.2
  ok : ∀ e ∈ rs, okInf e.2.2
  pos : 0 < rs.length
  few : rs.length ≤ 200
  fewn : ns.length ≤ 200
  ap1 : pa ≠ S.ra
  ap2 : pa ≠ D
  ap3 : ∀ e ∈ rows, e.1 ≠ pa
theorem LawAt.sub {S : Sc} {k : Int} {pa D : Addr} {ns : List Int} {rows : List PRec} {rs : List Rec} (H : LawAt σ L S k pa D ns rows rs) (s : Sub σ τ) : LawAt τ L S k pa D ns rows rs :=
  ⟨s.ap H.cp, s.ap H.cd, s.ap H.pool, H.plan.sub s, H.sc.sub s, s.ap H.bux, H.row.sub s, H.con, H.ok, H.pos, H.few, H.fewn, H.ap1, H.ap2, H.ap3⟩
theorem LawAt.len {S : Sc} {k : Int} {pa D : Addr} {ns : List Int} {rows : List PRec} {rs : List Rec} (H : LawAt σ L S k pa D ns rows rs) : rows.length = rs.length := by
  simpa using (congrArg List.length H.con).symm
theorem LawAt.same {S : Sc} {k : Int} {pa D : Addr} {ns : List Int} {rows : List PRec} {rs : List Rec} (H : LawAt σ L S k pa D ns rows rs) (d : Rec) (d' : PRec) {i : Nat} (hi : i < rs.length) : trip (rs.getD i d).2.2 = (rows.getD i d').2 ∧ okInf (rs.getD i d).2.2 := by
  have h1 := getD_at (d := d) hi
  have h2 := getD_atP (d := d') (rs := rows) (i := i) (by rw [H.len]; exact hi)
  have := congrArg (fun l => l[i]?) H.con
  simp only [List.getElem?_map, h1, h2, Option.map_some, Option.some.injEq] at this
  exact ⟨this, H.ok _ (List.mem_of_getElem? h1)⟩
theorem LawAt.agree {S : Sc} {k : Int} {pa D : Addr} {ns : List Int} {rows : List PRec} {rs : List Rec} (H : LawAt σ L S k pa D ns rows rs) (d : Rec) (d' : PRec) {p0 : Nat} {ps : List Nat} (h0 : p0 < rs.length) (hps : ∀ p ∈ ps, p < rs.length) :
    (ps.all fun p => holdsTo (rs.getD p0 d).2.2 (rs.getD p d).2.2) = ps.all fun p => mayTo (rows.getD p0 d') (rows.getD p d') := by
  have hb : ∀ {xs : List Nat} {f g : Nat → Bool}, (∀ x ∈ xs, f x = g x) → xs.all f = xs.all g := fun {xs f g} h => by
    induction xs with
    | nil => rfl
    | cons x r ih => rw [List.all_cons, List.all_cons, h x (.head _), ih fun y hy => h y (.tail _ hy)]
  with_reducible refine hb fun p hp => ?_
  obtain ⟨a1, a2⟩ := H.same d d' h0
  obtain ⟨b1, b2⟩ := H.same d d' (hps p hp)
  exact hold_may a1 b1 a2 b2
theorem law15 (G : Gnd w h₀) (r : Room A 3) (O : EnvOk env L lawLo lawGl [("pool", L + 1), ("plan", L + 2)]) {Q : Fl → Loc → St → Prop} (hQ : ∀ l σ, Q (.ret (.bool true)) l σ) {S : Sc} {k : Int} {pa D : Addr} {ns : List Int} {rows : List PRec} {rs : List Rec}
    (H : LawAt σ L S k pa D ns rows rs) {sa : Addr} {p0 : Nat} {ps : List Nat} (hl : locChk l [("buffer", .ref S.bu), ("spots", .ref sa)]) (hs : σ sa = some (.list (nv p0 :: ps.map nv))) (h0 : p0 < rs.length) (hps : ∀ p ∈ ps, p < rs.length) (hz : ps.length ≤ 100) :
    AXs w h₀ A L env (lawBody.drop 15) Q l σ := by
  have d : Rec := (0, 0, ⟨0, 0, 0, 0, 0⟩)
  have d' : PRec := (0, 0, 0, 0)
  have mp : (("plan" : Str), L + 2) ∈ [(("pool" : Str), L + 1), (("plan" : Str), L + 2)] := .tail _ (.head _)
  with_reducible refine AXs.loc (locLe.of hl) ?_
  refine  x_cons ?_
  repeat walk_at "v"
  with_reducible refine e_call (fa := 145) G O (by decide +kernel) (by kernel_rfl) (by kernel_rfl) (by with_unfolding_all rfl) ?_
  repeat walk_at "v"
  with_reducible refine g_bu_row G H.sc H.bux ?_
  repeat walk_at "v"
  with_reducible refine k_ret (fun τ k => ad_hold_together (d := d) G (r.less (by omega)) (H.row.sub k) (by have := H.few; omega) (k.ap hs) (by omega) h0 hps) ?_
  with_reducible refine e_call (fa := 442) G O (by decide +kernel) (by kernel_rfl) (by kernel_rfl) (by with_unfolding_all rfl) ?_
  repeat walk_at "v"
  with_reducible refine e_cell O mp H.cd ?_ (by decide +kernel) (by decide +kernel)
  repeat walk_at "v"
  have hrl := H.len
  with_reducible refine k_ret (fun τ k => ad_may (d := d') G (r.less (by omega)) (H.plan.sub k) (by have := H.few; omega) (k.ap hs) (by omega) (by omega) (fun p hp => by have := hps p hp; omega)) ?_
  rw [H.agree d d' h0 hps]
  repeat walk_at "v"
  rw [beq_self_eq_true]
  exact hQ _ _
theorem LawAt.take {S : Sc} {k : Int} {pa D : Addr} {ns ns' : List Int} {rows : List PRec} {rs : List Rec} (H : LawAt σ L S k pa D ns rows rs) (h : ns'.length ≤ ns.length) : LawAt (upd σ pa (.list (ns'.map V.int))) L S k pa D ns' rows rs := by
  have kp : Keep (fun a => a = pa) σ (upd σ pa (.list (ns'.map V.int))) := keep_one
  have ne : ∀ {a : Addr} {y : AO}, σ a = some y → (∀ vs, y ≠ .list vs) → ¬ a = pa := fun {a y} e n h => by subst h; rw [H.pool] at e; cases e; exact n _ rfl
  refine  ⟨kp _ _ (ne H.cp (by simp)) H.cp, kp _ _ (ne H.cd (by simp)) H.cd, upd_self .., ⟨kp _ _ (fun h => H.ap2 h.symm) H.plan.lst, fun e he => kp _ _ (H.ap3 e he) (H.plan.obj e he)⟩, H.sc.keep kp fun a ha => ?_, kp _ _ (ne H.bux (by simp)) H.bux, H.row.keep kp (fun h => H.ap1 h.symm) fun e he => ⟨ne (H.row.obj e he).1 (by simp), ne (H.row.obj e he).2 (by simp)⟩, H.con, H.ok, H.pos, H.few, Nat.le_trans h H.fewn, H.ap1, H.ap2, H.ap3⟩
  subst ha
  refine  .inr ⟨_, H.pool, fun r hr => ?_⟩
  cases ns with
  | nil => cases hr
  | cons n ns => rw [List.map_cons] at hr; injection hr with h1 _; cases h1
theorem FR_put {σ : St} {L C D I a : Addr} {l : Loc} {acc : List V} {x y z : AO} (P : Fits4 σ L C D I) (h : σ a = some z) : Fits4 (upd σ a y) L C D I ∧ FR (upd σ a y) L D I l acc x = upd (FR σ L D I l acc x) a y := by
  have h1 := ne_of_none P.nI h
  have h2 := ne_of_none P.nD h
  have h3 := ne_of_none P.nL h
  with_reducible refine ⟨⟨upd_none h3.symm P.nL, upd_none h2.symm P.nD, upd_none h1.symm P.nI, P.LC, P.LD, P.LI, P.CD, P.CI, P.DI⟩, ?_⟩
  unfold FR
  rw [upd_comm (a := a) (b := L) h3, upd_comm (a := a) (b := D) h2, upd_comm (a := a) (b := I) h1]
theorem sub_keep {σ τ : St} {a : Addr} {x : AO} (k : Keep (fun b => b = a) σ τ) (h : τ a = some x) : Sub (upd σ a x) τ := fun b y e => by
  by_cases c : b = a
  · subst c; rw [upd_self] at e; rw [h]; exact e
  · rw [upd_ne c] at e; exact k b y c e
theorem boot_sorted : bootBuiltins "sorted" = some (.builtin "sorted") := by decide +kernel
theorem perm_nat {ds : List Nat} {ns : List Int} (h : ns.Perm (ds.map fun n : Nat => (n : Int))) : ∃ es : List Nat, ns = (es.map fun n : Nat => (n : Int)) ∧ es.Perm ds := by
  with_reducible refine ⟨ns.map Int.toNat, ?_, ?_⟩
  · rw [List.map_map]
    have : ∀ x ∈ ns, x = ((fun n : Nat => (n : Int)) ∘ Int.toNat) x := fun x hx => by
      obtain ⟨d, _, e⟩ := List.mem_map.mp (h.mem_iff.mp hx)
      subst e
      rfl
    conv => lhs; rw [← List.map_id ns]
    exact List.map_congr_left this
  · have := h.map Int.toNat
    rw [List.map_map] at this
    have e : (Int.toNat ∘ fun n : Nat => (n : Int)) = id := rfl
    rw [e, List.map_id] at this
    exact this
theorem law14 (G : Gnd w h₀) (r : Room A 3) (O : EnvOk env L lawLo lawGl [("pool", L + 1), ("plan", L + 2)]) {Q : Fl → Loc → St → Prop} (hQ : ∀ l σ, Q (.ret (.bool true)) l σ) {S : Sc} {k : Int} {pa D : Addr} {ns : List Int} {rows : List PRec} {rs : List Rec}
    (H : LawAt σ L S k pa D ns rows rs) (hl : locChk l [("buffer", .ref S.bu)]) :
    AXs w h₀ A L env (lawBody.drop 14) Q l σ := by
  have mp : (("plan" : Str), L + 2) ∈ [(("pool" : Str), L + 1), (("plan" : Str), L + 2)] := .tail _ (.head _)
  have hrl := H.len
  have hpos := H.pos
  have hfew := H.few
  with_reducible refine AXs.loc (locLe.of hl) ?_
  refine  x_cons ?_
  repeat walk_at "v"
  with_reducible refine e_callB G O (by decide +kernel) (by kernel_rfl) boot_sorted (by with_unfolding_all rfl) ?_
  repeat walk_at "v"
  with_reducible refine e_comp (closureFor_is O (by kernel_rfl)) (by with_unfolding_all rfl) (by decide +kernel) ?_ (by intro _; with_unfolding_all rfl)
  with_reducible refine e_callT G O (by decide +kernel) (by kernel_rfl) boot_range (by with_unfolding_all rfl) ?_
  repeat walk_at "v"
  with_reducible refine c_range1 fun rg hrg => ?_
  refine  co_loop (lo' := ["turn"]) (gl' := ["_law_take", "len"]) (ce' := [("plan", L + 2), ("pool", L + 1)]) (by decide) rfl (fun C => comp_envC O _ _ _ (by kernel_rfl) (fun p hp => ?_)) (by decide +kernel) (fun i acc σ' => ∃ ds : List Nat, acc = ds.map nv ∧ ds.length = i ∧ (∀ d ∈ ds, d < rs.length) ∧ ∃ ns', LawAt σ' L S k pa D ns' rows rs) (Starts.range r.hh (upd_self ..) (small_one (by decide) (by decide) (by decide) (by decide))) (fun _ _ _ _ => trivial) (by decide) ⟨[], rfl, rfl, (fun d hd => by cases hd), ns, H.sub (sub_upd hrg)⟩
    (fun _ _ _ _ => trivial) ?_ ?_
  · rcases List.mem_cons.mp hp with rfl | hp
    · exact ⟨by kernel_rfl, by kernel_rfl⟩
    rcases List.mem_cons.mp hp with rfl | hp
    · exact ⟨by kernel_rfl, by kernel_rfl⟩
    · cases hp
  · rintro env' C E J i acc σ' OC hi ⟨ds, rfl, hds, hdl, ns', H'⟩ PF
    with_reducible refine ts_nil ⟨fun _ => ?_, fun hc => (nomatch hc)⟩
    repeat walk_at "v"
    with_reducible refine e_call (fa := 435) G OC (by decide +kernel) (by kernel_rfl) (by kernel_rfl) (by with_unfolding_all rfl) ?_
    repeat walk_at "v"
    with_reducible refine e_cell OC (List.mem_cons_of_mem _ (List.mem_cons_self ..)) ((FR_sub PF).ap H'.cp) ?_ (by decide +kernel) (by decide +kernel)
    repeat walk_at "v"
    have hpool : ∀ {lx : Loc} {ax : AO}, FR σ' L E J lx (ds.map nv) ax pa = some (.list (ns'.map V.int)) := fun {lx ax} => (FR_sub PF).ap H'.pool
    refine  k_keep (S := fun b => b = pa) (P := fun v σ' => ∃ (d : Int) (ns'' : List Int), v = .int d ∧ 0 ≤ d ∧ d < 12 ∧ ns''.length ≤ ns'.length ∧ σ' pa = some (.list (ns''.map V.int))) (fun b hb => by subst hb; rw [hpool]; simp) (fun off => (ad_take G (r.less (by omega)) ((sub_upd off).ap hpool) (by have := H'.fewn; omega) (by decide) (by decide)).af) ?_ ?_
    · rintro v τ ⟨d, ns'', e1, e2, e3, e4, e5⟩ hτ
      exact ⟨d, ns'', e1, e2, e3, e4, rm_get hτ e5 (by intro _ h; cases h)⟩
    rintro v σ2 k2 hσ2C ⟨d, ns'', rfl, hd0, hd12, hn2, hp2⟩
    have H2 := H'.take hn2
    have hcd2 := k2 _ _ (fun h => by have e := H'.cd; rw [h, H'.pool] at e; cases e) ((FR_sub PF).ap H'.cd)
    have hpl2 := k2 _ _ (fun h => H'.ap2 h.symm) ((FR_sub PF).ap H'.plan.lst)
    with_reducible refine e_callB G OC (by decide +kernel) (by kernel_rfl) boot_len (by with_unfolding_all rfl) ?_
    repeat walk_at "v"
    with_reducible refine e_cell OC (List.mem_cons_self ..) hcd2 ?_ (by decide +kernel) (by decide +kernel)
    repeat walk_at "v"
    with_reducible refine c_len hpl2 (by rw [List.length_map]; omega) ?_
    rw [List.length_map]
    with_reducible refine b_mod (by omega) ?_
    have hm0 : 0 ≤ d.fmod (rows.length : Int) := Int.fmod_nonneg_of_pos _ (by omega)
    have hm1 : d.fmod (rows.length : Int) < (rows.length : Int) := Int.fmod_lt_of_pos _ (by omega)
    refine  ⟨upd σ' pa (.list (ns''.map V.int)), ?_, (FR_put (l := []) (acc := []) (x := .cell0) PF H'.pool).1, ds ++ [(d.fmod (rows.length : Int)).toNat], ?_, by simp [hds], ?_, ns'', H2⟩
    · rw [(FR_put PF H'.pool).2]
      exact sub_keep k2 hp2
    · rw [List.map_append, List.map_singleton]
      congr 2
      show V.int _ = V.int _
      congr 1
      omega
    · intro x hx
      rcases List.mem_append.mp hx with hx | hx
      · exact hdl x hx
      · rw [List.mem_singleton.mp hx]; omega
  · rintro E acc σ' ⟨ds, rfl, hds, hdl, ns', H'⟩ hE hL'
    have hds3 : ds.length = 3 := hds
    repeat walk_at "v"
    rw [nv_map]
    with_reducible refine c_sorted (upd_self ..) (by rw [List.length_map]; omega) fun ns2 b hp hb => ?_
    obtain ⟨es, rfl, hpe⟩ := perm_nat hp
    have hes := hpe.length_eq
    obtain ⟨p0, ps, rfl⟩ : ∃ p0 ps, es = p0 :: ps := by
      cases es with
      | nil => rw [List.length_nil] at hes; omega
      | cons p0 ps => exact ⟨p0, ps, rfl⟩
    have hall : ∀ p ∈ p0 :: ps, p < rs.length := fun p hp => hdl p (hpe.mem_iff.mp hp)
    refine  law15 (sa := b) (p0 := p0) (ps := ps) (ns := ns') (rows := rows) (rs := rs) (S := S) (k := k) (pa := pa) (D := D) G r O hQ ?_ ?_ ?_ ?_ ?_ ?_
    · exact (H'.sub (sub_upd hE)).sub (sub_upd hb)
    · exact ⟨rfl, rfl, trivial⟩
    · rw [upd_self, ← nv_map]; rfl
    · exact hall _ (.head _)
    · exact fun p hp => hall p (.tail _ hp)
    · rw [List.length_cons] at hes; omega
end
section
variable {w : World} {h₀ : Heap} {A : Around} {L : Addr} {l : Loc} {σ σ₀ τ : St} {env : Env} {lo gl : List Str} {ce : List (Str × Addr)}
theorem law13 (G : Gnd w h₀) (r : Room A 3) (O : EnvOk env L lawLo lawGl [("pool", L + 1), ("plan", L + 2)]) {Q : Fl → Loc → St → Prop} (hQ : ∀ l σ, Q (.ret (.bool true)) l σ) {S : Sc} {k : Int} {pa D : Addr} {ns : List Int} {rows : List PRec} {rs : List Rec}
    (H : LawAt σ L S k pa D ns rows rs) (hl : locChk l [("buffer", .ref S.bu)]) :
    AXs w h₀ A L env (lawBody.drop 13) Q l σ := by
  have mp : (("plan" : Str), L + 2) ∈ [(("pool" : Str), L + 1), (("plan" : Str), L + 2)] := .tail _ (.head _)
  have d : Rec := (0, 0, ⟨0, 0, 0, 0, 0⟩)
  have d' : PRec := (0, 0, 0, 0)
  have hrl := H.len
  have hfew := H.few
  with_reducible refine AXs.loc (locLe.of hl) ?_
  refine  x_cons ?_
  repeat walk_at "v"
  with_reducible refine e_callT G O (by decide +kernel) (by kernel_rfl) boot_range (by with_unfolding_all rfl) ?_
  repeat walk_at "v"
  with_reducible refine e_callB G O (by decide +kernel) (by kernel_rfl) boot_len (by with_unfolding_all rfl) ?_
  repeat walk_at "v"
  with_reducible refine e_cell O mp H.cd ?_ (by decide +kernel) (by decide +kernel)
  repeat walk_at "v"
  with_reducible refine c_len H.plan.lst (by rw [List.length_map]; omega) ?_
  rw [List.length_map]
  repeat walk_at "v"
  with_reducible refine c_range1 fun rg hrg => ?_
  refine  f_loop (fun i l' σ' => Sub σ σ' ∧ locChk l' [("buffer", .ref S.bu)]) (Starts.range r.hh (upd_self ..) (small_one (by decide) (by decide) (by omega) (by omega))) ⟨sub_upd hrg, ⟨rfl, trivial⟩⟩ (fun _ _ _ _ => trivial) ?_ ?_
  · rintro I i l' σ' hi ⟨hs, hl'⟩ hI hIL
    have hi' : i < rs.length := by omega
    rw [show ((0 : Int) + (i : Int)) = ((i : Nat) : Int) by omega]
    have H1 := H.sub (hs.trans (sub_upd (x := rit 0 ((rows.length : Int) - 0).toNat (i + 1)) hI))
    with_reducible refine AA.loc (locLe.of hl') ?_
    repeat walk_at "v"
    with_reducible refine e_callT G O (by decide +kernel) (by kernel_rfl) boot_range (by with_unfolding_all rfl) ?_
    repeat walk_at "v"
    with_reducible refine e_callB G O (by decide +kernel) (by kernel_rfl) boot_len (by with_unfolding_all rfl) ?_
    repeat walk_at "v"
    with_reducible refine e_cell O mp H1.cd ?_ (by decide +kernel) (by decide +kernel)
    repeat walk_at "v"
    with_reducible refine c_len H1.plan.lst (by rw [List.length_map]; omega) ?_
    rw [List.length_map]
    repeat walk_at "v"
    with_reducible refine c_range2 fun rg2 hrg2 => ?_
    refine  f_loop (fun j l'' σ'' => Sub (upd σ' I (rit 0 ((rows.length : Int) - 0).toNat (i + 1))) σ'' ∧ locChk l'' [("buffer", .ref S.bu), ("one", nv i)]) (Starts.range r.hh (upd_self ..) (small_one (by omega) (by omega) (by omega) (by omega))) ⟨sub_upd hrg2, ⟨rfl, rfl, trivial⟩⟩ (fun _ _ _ _ => trivial) ?_ ?_
    · rintro I2 j l2 σ2 hj ⟨hs2, hl2⟩ hI2 hI2L
      have hj' : i + 1 + j < rs.length := by omega
      rw [show (((i : Nat) : Int) + 1 + (j : Int)) = ((i + 1 + j : Nat) : Int) by omega]
      with_reducible refine AA.loc (locLe.of hl2) ?_
      have s2 : Sub (upd σ' I (rit 0 ((rows.length : Int) - 0).toNat (i + 1))) (upd σ2 I2 (rit (((i : Nat) : Int) + 1) ((rows.length : Int) - (((i : Nat) : Int) + 1)).toNat (j + 1))) := hs2.trans (sub_upd hI2)
      have H2 := H1.sub s2
      repeat walk_at "v"
      with_reducible refine e_call (fa := 145) G O (by decide +kernel) (by kernel_rfl) (by kernel_rfl) (by with_unfolding_all rfl) ?_
      repeat walk_at "v"
      with_reducible refine g_bu_row G H2.sc H2.bux ?_
      repeat walk_at "v"
      with_reducible refine ⟨by simp, fun a1 ha1 => ?_⟩
      repeat walk_at "v"
      have H3 := H2.sub (sub_upd (x := .list [nv i, nv (i + 1 + j)]) ha1)
      refine  k_ret (fun τ k => ad_hold_together (d := d) (p0 := i) (ps := [i + 1 + j]) G (r.less (by omega)) (H3.row.sub k) (by omega) (k.ap (upd_self ..)) (by simp) hi' (fun p hp => by rw [List.mem_singleton.mp hp]; exact hj')) ?_
      with_reducible refine e_call (fa := 442) G O (by decide +kernel) (by kernel_rfl) (by kernel_rfl) (by with_unfolding_all rfl) ?_
      repeat walk_at "v"
      with_reducible refine e_cell O mp H3.cd ?_ (by decide +kernel) (by decide +kernel)
      repeat walk_at "v"
      with_reducible refine ⟨by simp, fun a2 ha2 => ?_⟩
      repeat walk_at "v"
      have H4 := H3.sub (sub_upd (x := .list [nv i, nv (i + 1 + j)]) ha2)
      refine  k_ret (fun τ k => ad_may (d := d') (p0 := i) (ps := [i + 1 + j]) G (r.less (by omega)) (H4.plan.sub k) (by omega) (k.ap (upd_self ..)) (by simp) (by omega) (fun p hp => by rw [List.mem_singleton.mp hp]; omega)) ?_
      rw [H.agree d d' hi' (fun p hp => by rw [List.mem_singleton.mp hp]; exact hj')]
      repeat walk_at "v"
      with_reducible refine ⟨fun hc => ?_, fun _ => ?_⟩
      · rw [bne_self_eq_false] at hc; cases hc
      · repeat walk_at "v"
        refine  turn_ok hI2 ((sub_upd ha1).trans (sub_upd ha2)) ⟨hs2, ⟨rfl, rfl, trivial⟩⟩
    · rintro l2 σ2 ⟨hs2, hl2⟩
      refine  x_nil (turn_ok hI hs2 ⟨hs, hl2.1, trivial⟩)
  · rintro l' σ' ⟨hs, hl'⟩
    exact law14 G r O hQ (H.sub hs) hl'
theorem list3 (σ : St) {a b : Addr} {t : Int × Int × Int} (ha : σ a = some (.list [.int t.1, .int t.2.1, .int t.2.2])) (hb : σ b = some (.list [.int t.1, .int t.2.1, .int t.2.2])) (hab : a ≠ b) : EqV h₀ σ 1 (.ref a) (.ref b) true := by
  have := EqV.list (h₀ := h₀) (n := 0) ha hb rfl (fun _ => true) (fun j v u h1 h2 => by
    match j, h1, h2 with
    | 0, h1, h2 => cases h1; cases h2; have := EqV.int (h₀ := h₀) (σ := σ) t.1 t.1; rwa [beq_self_eq_true] at this
    | 1, h1, h2 => cases h1; cases h2; have := EqV.int (h₀ := h₀) (σ := σ) t.2.1 t.2.1; rwa [beq_self_eq_true] at this
    | 2, h1, h2 => cases h1; cases h2; have := EqV.int (h₀ := h₀) (σ := σ) t.2.2 t.2.2; rwa [beq_self_eq_true] at this) hab
  exact this
theorem law12 (G : Gnd w h₀) (r : Room A 3) (O : EnvOk env L lawLo lawGl [("pool", L + 1), ("plan", L + 2)]) {Q : Fl → Loc → St → Prop} (hQ : ∀ l σ, Q (.ret (.bool true)) l σ) {S : Sc} {k : Int} {pa D : Addr} {ns : List Int} {rows : List PRec} {rs : List Rec}
    (H : LawAt σ L S k pa D ns rows rs) (hl : locChk l [("buffer", .ref S.bu)]) :
    AXs w h₀ A L env (lawBody.drop 12) Q l σ := by
  have mp : (("plan" : Str), L + 2) ∈ [(("pool" : Str), L + 1), (("plan" : Str), L + 2)] := .tail _ (.head _)
  have hrl := H.len
  have hfew := H.few
  have hlm : (rs.map fun e => V.ref e.1).length = rs.length := by simp
  with_reducible refine AXs.loc (locLe.of hl) ?_
  refine  x_cons ?_
  repeat walk_at "v"
  with_reducible refine e_comp (closureFor_none (by decide)) (by with_unfolding_all rfl) (by decide +kernel) ?_ (by intro _; with_unfolding_all rfl)
  repeat walk_at "v"
  with_reducible refine g_bu_row G H.sc H.bux ?_
  refine  co_loop (lo' := ["info"]) (gl' := []) (by decide) rfl (fun C => comp_env O _ _ (by kernel_rfl)) (by decide +kernel) (fun i acc σ' => ∃ bs : List PRec, acc = bs.map (fun e => V.ref e.1) ∧ bs.map (fun e => e.2) = (rs.take i).map (fun e => trip e.2.2) ∧ (∀ e ∈ bs, σ' e.1 = some (.list [.int e.2.1, .int e.2.2.1, .int e.2.2.2]) ∧ σ e.1 = none) ∧ Sub σ σ') (Starts.list r.hh (.int 0) H.row.lst) (fun _ _ h k => k.ap h) (by rw [hlm]; omega) ⟨[], rfl, rfl, (fun e he => by cases he), Sub.refl _⟩
    (fun i acc σ' ⟨_, _, _, _, k⟩ => k.ap H.row.lst) ?_ ?_
  · rintro env' C E J i acc σ' OC hi ⟨bs, rfl, hbs, hbo, hs⟩ PF
    rw [hlm] at hi
    have hx := List.getElem?_eq_getElem hi
    have hit : (rs.map fun e => V.ref e.1).getD i (.int 0) = .ref rs[i].1 := by rw [List.getD_eq_getElem?_getD, List.getElem?_map, hx]; rfl
    rw [hit]
    with_reducible refine ts_nil ⟨fun _ => ?_, fun hc => (nomatch hc)⟩
    repeat walk_at "v"
    with_reducible refine g_lig_id G (((H.row.get hx).1.sub hs).sub (FR_sub PF)) ?_
    repeat walk_at "v"
    with_reducible refine g_lig_part G (((H.row.get hx).1.sub hs).sub (FR_sub PF)) ?_
    repeat walk_at "v"
    with_reducible refine g_lig_count G (((H.row.get hx).1.sub hs).sub (FR_sub PF)) ?_
    repeat walk_at "v"
    with_reducible refine ⟨by simp, fun a ha => ?_⟩
    obtain ⟨n1, PF', e1⟩ := FR_new (y := .list [.int rs[i].2.2.id, .int rs[i].2.2.part, .int rs[i].2.2.cnt]) PF ha
    refine  ⟨_, by rw [e1]; exact Sub.refl _, PF', bs ++ [(a, trip rs[i].2.2)], by simp, ?_, ?_, hs.trans (sub_upd n1)⟩
    · rw [List.take_add_one, hx, List.map_append, List.map_append, hbs]
      rfl
    · intro e he
      rcases List.mem_append.mp he with he | he
      · exact ⟨upd_old n1 (hbo e he).1, (hbo e he).2⟩
      · rw [List.mem_singleton.mp he]
        exact ⟨upd_self .., sub_off hs n1⟩
  · rintro E acc σ' ⟨bs, rfl, hbs, hbo, hs⟩ hE hL'
    rw [hlm, List.take_of_length_le (Nat.le_refl _)] at hbs
    have hcon : bs.map (fun e => e.2) = rows.map fun e => e.2 := hbs.trans H.con
    have hlen : bs.length = rows.length := by simpa using congrArg List.length hcon
    have H2 := (H.sub hs).sub (sub_upd (x := .list (bs.map fun e => V.ref e.1)) hE)
    with_reducible refine e_cell O mp H2.cd ?_ (by decide +kernel) (by decide +kernel)
    refine  b_ne_list (n := 1) (by have := r.u; omega) (upd_self ..) H2.plan.lst (by rw [List.length_map, List.length_map]; exact hlen) (fun _ => true) (fun j v u h1 h2 => ?_) ?_
    · rw [List.getElem?_map] at h1 h2
      obtain ⟨b, hb, rfl⟩ := Option.map_eq_some_iff.mp h1
      obtain ⟨c, hc, rfl⟩ := Option.map_eq_some_iff.mp h2
      have e1 := congrArg (fun l => l[j]?) hcon
      simp only [List.getElem?_map, hb, hc, Option.map_some, Option.some.injEq] at e1
      have o1 := hbo b (List.mem_of_getElem? hb)
      have o2 := H2.plan.obj c (List.mem_of_getElem? hc)
      have o3 := H.plan.obj c (List.mem_of_getElem? hc)
      refine  list3 _ (t := c.2) (by rw [← e1]; exact upd_old hE o1.1) o2 ?_
      rintro h
      rw [h, o3] at o1
      cases o1.2
    · have : (!(List.range (bs.map fun e => V.ref e.1).length).all fun _ => true) = false := by simp
      rw [this]
      repeat walk_at "v"
      with_reducible refine ⟨fun hc => (nomatch hc), fun _ => ?_⟩
      refine  x_nil (law13 G r O hQ H2 ⟨rfl, trivial⟩)
end
/-- content of an info, but for its cluster -/
noncomputable abbrev CI := Int × Int × Int × Int
noncomputable def key (e : Rec) : CI := (e.2.2.g, e.2.2.id, e.2.2.part, e.2.2.cnt)
noncomputable abbrev fr (g : Int) : CI := (g, 0, 0, 0)
theorem sk_key {e e' : Rec} (h : sk e' = sk e) : key e' = key e := by
  obtain ⟨_, _, h1, h2, h3, h4⟩ := sk_inf h
  unfold key
  rw [h1, h2, h3, h4]
theorem sk_keys {rs rs' : List Rec} (h : rs'.map sk = rs.map sk) : rs'.map key = rs.map key := by
  apply List.ext_getElem (by simpa using congrArg List.length h)
  intro i h1 h2
  have h1' : i < rs'.length := by simpa using h1
  have h2' : i < rs.length := by simpa using h2
  have := congrArg (fun l => l[i]?) h
  simp only [List.getElem?_map, List.getElem?_eq_getElem h1', List.getElem?_eq_getElem h2', Option.map_some, Option.some.injEq] at this
  rw [List.getElem_map, List.getElem_map]
  exact sk_key this
-- tied, along a list
noncomputable def tieRec (id : Int) (c : Nat) (e : Rec) : Rec := (e.1, e.2.1, { e.2.2 with id := id, part := c, cnt := 0 })
theorem tied_cons (id : Int) (f : Nat → Nat) (e : Rec) (r : List Rec) : tied id f (e :: r) = (e.1, e.2.1, if f 0 = 0 then e.2.2 else { e.2.2 with id := id, part := f 0, cnt := 0 }) :: tied id (fun i => f (i + 1)) r := by
  unfold tied
  rw [List.mapIdx_cons]
theorem tied_app (id : Int) : ∀ (f : Nat → Nat) (xs ys : List Rec), tied id f (xs ++ ys) = tied id f xs ++ tied id (fun i => f (i + xs.length)) ys
  | f, [], ys => by simp [tied]
  | f, x :: xs, ys => by
    rw [List.cons_append, tied_cons, tied_cons, tied_app id _ xs ys, List.cons_append]
    rfl
theorem tied_none (id : Int) {f : Nat → Nat} {xs : List Rec} (h : ∀ i, i < xs.length → f i = 0) : tied id f xs = xs := by
  rw [tied_congr (g := fun _ => 0) xs h, tied_zero]
theorem tied_all (id : Int) {c : Nat} (hc : c ≠ 0) : ∀ {f : Nat → Nat} {xs : List Rec}, (∀ i, i < xs.length → f i = c) → tied id f xs = xs.map (tieRec id c)
  | _, [], _ => by simp [tied]
  | f, x :: xs, h => by
    rw [tied_cons, List.map_cons, tied_all id hc (f := fun i => f (i + 1)) (xs := xs) fun i hi => h (i + 1) (by rw [List.length_cons]; omega)]
    rw [h 0 (by rw [List.length_cons]; omega), if_neg hc]
    rfl
theorem turnAt_mid (xs ys : List Rec) (e : Rec) (f : Inf → Inf) : turnAt (xs ++ e :: ys) xs.length f = xs ++ (e.1, e.2.1, f e.2.2) :: ys := by
  rw [turnAt_is (e := e) (by simp)]
  simp
-- what a join leaves of a segment
noncomputable def pick (P : List Nat) : Nat → List Rec → List Rec
  | _, [] => []
  | k, e :: r => if keepSpot P k then e :: pick P (k + 1) r else pick P (k + 1) r
theorem pick_cons (P : List Nat) (k : Nat) (e : Rec) (r : List Rec) : pick P k (e :: r) = if keepSpot P k then e :: pick P (k + 1) r else pick P (k + 1) r := rfl
theorem pick_app (P : List Nat) : ∀ (k : Nat) (xs ys : List Rec), pick P k (xs ++ ys) = pick P k xs ++ pick P (k + xs.length) ys
  | k, [], ys => by simp [pick]
  | k, x :: xs, ys => by
    rw [List.cons_append, pick_cons, pick_cons, pick_app P (k + 1) xs ys, List.length_cons, show k + 1 + xs.length = k + (xs.length + 1) by omega]
    split <;> rfl
theorem pick_all (P : List Nat) : ∀ (k : Nat) (xs : List Rec), (∀ i, i < xs.length → keepSpot P (k + i) = true) → pick P k xs = xs
  | k, [], _ => rfl
  | k, x :: xs, h => by
    unfold pick
    rw [if_pos (by have := h 0 (by simp); simpa using this), pick_all P (k + 1) xs fun i hi => by
      have := h (i + 1) (by simp; omega)
      rwa [show k + 1 + i = k + (i + 1) by omega]]
theorem pick_no {P : List Nat} {k : Nat} {e : Rec} (h : keepSpot P k = false) : pick P k [e] = [] := by
  unfold pick
  rw [h]
  rfl
theorem segOf_pick (P : List Nat) (pre post : List Rec) (hP : P.getD 0 0 = pre.length) : ∀ (m : Nat) (Y : List Rec), m ≤ Y.length → segOf P (pre ++ (Y ++ post)) m = pick P pre.length (Y.take m)
  | 0, Y, _ => by simp [segOf, pick]
  | m + 1, Y, h => by
    have he : (pre ++ (Y ++ post))[P.getD 0 0 + m]? = some Y[m] := by
      rw [hP, List.getElem?_append_right (by omega), show pre.length + m - pre.length = m by omega, List.getElem?_append_left (by omega), List.getElem?_eq_getElem]
    rw [segOf_succ _ _ _ he, segOf_pick P pre post hP m Y (by omega), List.take_add_one, List.getElem?_eq_getElem (by omega), pick_app, hP]
    rw [show (Y.take m).length = m by rw [List.length_take]; omega]
    show _ = pick P pre.length (Y.take m) ++ pick P (pre.length + m) [Y[m]]
    by_cases c : keepSpot P (pre.length + m) = true
    · rw [if_pos c]
      congr 1
      unfold pick
      rw [if_pos c]
      rfl
    · rw [if_neg c, pick_no (by simpa using c), List.append_nil]
-- the search
theorem fnd_skip (t : Int) (x : Rec) (r : List Rec) (h9 : x.2.2.g ≠ 9) : ∀ (M : List Rec) (i : Nat), (∀ e ∈ M, e.2.2.g = 9) → fnd t (infs (M ++ x :: r)) i = if x.2.2.g = t then ((i + M.length : Nat) : Int) else -1
  | [], i, _ => by
    show fnd t (x.2.2 :: infs r) i = _
    unfold fnd
    rw [if_neg h9]
    rfl
  | m :: M, i, h => by
    show fnd t (m.2.2 :: infs (M ++ x :: r)) i = _
    unfold fnd
    rw [if_pos (h m (.head _)), fnd_skip t x r h9 M (i + 1) fun e he => h e (.tail _ he), List.length_cons, show i + 1 + M.length = i + (M.length + 1) by omega]
theorem fnd_out (t : Int) : ∀ (M : List Rec) (i : Nat), (∀ e ∈ M, e.2.2.g = 9) → fnd t (infs M) i = -1
  | [], i, _ => rfl
  | m :: M, i, h => by
    show fnd t (m.2.2 :: infs M) i = _
    unfold fnd
    rw [if_pos (h m (.head _)), fnd_out t M (i + 1) fun e he => h e (.tail _ he)]
theorem infs_dropA (xs ys : List Rec) (n : Nat) (h : n = xs.length) : (infs (xs ++ ys)).drop n = infs ys := by
  subst h
  unfold infs
  rw [List.map_append, List.drop_left' (by simp)]
theorem infs_at (xs ys : List Rec) (e : Rec) : (infs (xs ++ e :: ys))[xs.length]? = some e.2.2 := by
  unfold infs
  rw [List.getElem?_map]
  simp
theorem key_g {e : Rec} {c : CI} (h : key e = c) : e.2.2.g = c.1 := by rw [← h]; rfl
theorem inpGo_cons (xs : List Inf) (t : Int) (ts : List Int) (last : Nat) (acc : List Nat) : inpGo xs (t :: ts) last acc = if fnd t (xs.drop (last + 1)) (last + 1) < 0 then none else inpGo xs ts (fnd t (xs.drop (last + 1)) (last + 1)).toNat (acc ++ [(fnd t (xs.drop (last + 1)) (last + 1)).toNat]) := rfl
theorem inpGo_hit {xs : List Inf} {t : Int} {ts : List Int} {last j : Nat} {acc : List Nat} (h : fnd t (xs.drop (last + 1)) (last + 1) = (j : Int)) : inpGo xs (t :: ts) last acc = inpGo xs ts j (acc ++ [j]) := by
  rw [inpGo_cons, h, if_neg (by omega), Int.toNat_natCast]
theorem inpGo_miss {xs : List Inf} {t : Int} {ts : List Int} {last : Nat} {acc : List Nat} (h : fnd t (xs.drop (last + 1)) (last + 1) = -1) : inpGo xs (t :: ts) last acc = none := by
  rw [inpGo_cons, h, if_pos (by decide)]
theorem inp_start {pre r : List Rec} {h : Rec} (hh : h.2.2.g = 1) (ts : List Int) : inp (infs (pre ++ h :: r)) 1 ts pre.length = inpGo (infs (pre ++ h :: r)) ts pre.length [pre.length] := by
  unfold inp
  rw [infs_at]
  dsimp only
  rw [hh, if_pos rfl]
theorem first_hit {pre M0 X : List Rec} {h s1 : Rec} (h0 : ∀ e ∈ M0, e.2.2.g = 9) (hs : s1.2.2.g = 2) :
    fnd 2 ((infs (pre ++ h :: (M0 ++ s1 :: X))).drop (pre.length + 1)) (pre.length + 1) = ((pre.length + 1 + M0.length : Nat) : Int) := by
  rw [show pre ++ h :: (M0 ++ s1 :: X) = (pre ++ [h]) ++ (M0 ++ s1 :: X) by simp, infs_dropA _ _ _ (by simp), fnd_skip 2 s1 X (by rw [hs]; decide) M0 _ h0, if_pos hs]
theorem second_at {pre M0 X : List Rec} {h s1 : Rec} (i : Nat) : (infs (pre ++ h :: (M0 ++ s1 :: X))).drop (pre.length + 1 + M0.length + 1) = infs X := by
  rw [show pre ++ h :: (M0 ++ s1 :: X) = (pre ++ h :: (M0 ++ [s1])) ++ X by simp, infs_dropA _ _ _ (by simp; omega)]
theorem inp_two {pre M0 X : List Rec} {h s1 : Rec} (hh : h.2.2.g = 1) (h0 : ∀ e ∈ M0, e.2.2.g = 9) (hs : s1.2.2.g = 2) (hX : ∀ i, fnd 2 (infs X) i = -1) :
    inp (infs (pre ++ h :: (M0 ++ s1 :: X))) 1 [2, 2] pre.length = none ∧ inp (infs (pre ++ h :: (M0 ++ s1 :: X))) 1 [2] pre.length = some [pre.length, pre.length + 1 + M0.length] := by
  with_reducible refine ⟨?_, ?_⟩
  · rw [inp_start hh, inpGo_hit (first_hit h0 hs), inpGo_miss (by rw [second_at 0]; exact hX _)]
  · rw [inp_start hh, inpGo_hit (first_hit h0 hs)]
    rfl
theorem inp_three {pre M0 M1 X : List Rec} {h s1 s2 : Rec} (hh : h.2.2.g = 1) (h0 : ∀ e ∈ M0, e.2.2.g = 9) (hs : s1.2.2.g = 2) (h1 : ∀ e ∈ M1, e.2.2.g = 9) (hs2 : s2.2.2.g = 2) :
    inp (infs (pre ++ h :: (M0 ++ s1 :: (M1 ++ s2 :: X)))) 1 [2, 2] pre.length = some [pre.length, pre.length + 1 + M0.length, pre.length + 1 + M0.length + 1 + M1.length] := by
  rw [inp_start hh, inpGo_hit (first_hit h0 hs), inpGo_hit (j := pre.length + 1 + M0.length + 1 + M1.length) (by rw [second_at 0, fnd_skip 2 s2 X (by rw [hs2]; decide) M1 _ h1, if_pos hs2])]
  rfl
theorem contains_no {P : List Nat} {s : Nat} (h : ∀ p ∈ P, p ≠ s) : P.contains s = false := by
  rw [Bool.eq_false_iff]
  intro c
  rw [List.contains_iff_mem] at c
  exact h s c rfl
theorem join_two (g id : Int) {pre M0 X : List Rec} {h s1 : Rec} :
    joinRow g id [pre.length, pre.length + 1 + M0.length] (pre ++ h :: (M0 ++ s1 :: X)) = pre ++ ((h.1, h.2.1, headInf g id 2 h.2.2) :: (M0.map (tieRec id 1) ++ X)) := by
  have et : tied id (gapIn [pre.length, pre.length + 1 + M0.length] 1) (pre ++ h :: (M0 ++ s1 :: X)) = pre ++ h :: (M0.map (tieRec id 1) ++ s1 :: X) := by
    have f_is : ∀ i, gapIn [pre.length, pre.length + 1 + M0.length] 1 i = if pre.length < i ∧ i < pre.length + 1 + M0.length then 1 else 0 := fun i => rfl
    rw [tied_app, tied_none _ (xs := pre) fun i hi => by rw [f_is, if_neg (by omega)]]
    congr 1
    rw [show h :: (M0 ++ s1 :: X) = [h] ++ (M0 ++ s1 :: X) from rfl, tied_app, tied_none _ (xs := [h]) fun i hi => by
      rw [List.length_singleton] at hi
      rw [f_is, if_neg (by omega)]]
    rw [List.singleton_append]
    congr 1
    rw [tied_app, tied_all id (c := 1) (by decide) (xs := M0) fun i hi => by
      rw [f_is, if_pos (by rw [List.length_singleton]; omega)]]
    congr 1
    with_reducible refine tied_none _ fun i hi => ?_
    rw [f_is, if_neg (by rw [List.length_singleton]; omega)]
  have hl : (M0.map (tieRec id 1)).length = M0.length := by simp
  unfold joinRow
  show ((turnAt (tied id (gapIn [pre.length, pre.length + 1 + M0.length] 1) (pre ++ h :: (M0 ++ s1 :: X))) pre.length (headInf g id 2)).take pre.length ++ segOf [pre.length, pre.length + 1 + M0.length] (turnAt (tied id (gapIn [pre.length, pre.length + 1 + M0.length] 1) (pre ++ h :: (M0 ++ s1 :: X))) pre.length (headInf g id 2)) (pre.length + 1 + M0.length + 1 - pre.length) ++ (turnAt (tied id (gapIn [pre.length, pre.length + 1 + M0.length] 1) (pre ++ h :: (M0 ++ s1 :: X))) pre.length (headInf g id 2)).drop (pre.length + 1 + M0.length + 1)) = _
  rw [et, turnAt_mid]
  generalize hh' : ((h.1, h.2.1, headInf g id 2 h.2.2) : Rec) = h'
  generalize hM : M0.map (tieRec id 1) = M0' at *
  rw [List.take_left' rfl]
  rw [show pre ++ h' :: (M0' ++ s1 :: X) = pre ++ ((h' :: (M0' ++ [s1])) ++ X) by simp, segOf_pick _ pre X rfl _ _ (by simp; omega)]
  rw [List.take_of_length_le (by simp; omega)]
  rw [← List.append_assoc, List.drop_left' (by simp; omega)]
  rw [show h' :: (M0' ++ [s1]) = (h' :: M0') ++ [s1] from rfl, pick_app, pick_all _ _ (h' :: M0') fun i hi => ?_, pick_no ?_]
  · simp
  · unfold keepSpot
    have : (pre.length + (h' :: M0').length == pre.length) = false := by rw [beq_eq_false_iff_ne, List.length_cons]; omega
    show (pre.length + (h' :: M0').length == pre.length || _) = false
    rw [this, List.length_cons, hl, show pre.length + (M0.length + 1) = pre.length + 1 + M0.length by omega]
    simp
  · unfold keepSpot
    show (pre.length + i == pre.length || _) = true
    rw [List.length_cons] at hi
    by_cases c : i = 0
    · subst c; simp
    · rw [contains_no]
      · simp
      · intro p hp
        rcases List.mem_cons.mp hp with rfl | hp
        · omega
        · rw [List.mem_singleton.mp hp]; omega
theorem join_three (g id : Int) {pre M0 M1 X : List Rec} {h s1 s2 : Rec} :
    joinRow g id [pre.length, pre.length + 1 + M0.length, pre.length + 1 + M0.length + 1 + M1.length] (pre ++ h :: (M0 ++ s1 :: (M1 ++ s2 :: X))) = pre ++ ((h.1, h.2.1, headInf g id 3 h.2.2) :: (M0.map (tieRec id 1) ++ (M1.map (tieRec id 2) ++ X))) := by
  have f_is : ∀ i, gapIn [pre.length, pre.length + 1 + M0.length, pre.length + 1 + M0.length + 1 + M1.length] 2 i = if pre.length + 1 + M0.length < i ∧ i < pre.length + 1 + M0.length + 1 + M1.length then 2 else if pre.length < i ∧ i < pre.length + 1 + M0.length then 1 else 0 := fun i => rfl
  have et : tied id (gapIn [pre.length, pre.length + 1 + M0.length, pre.length + 1 + M0.length + 1 + M1.length] 2) (pre ++ h :: (M0 ++ s1 :: (M1 ++ s2 :: X))) = pre ++ h :: (M0.map (tieRec id 1) ++ s1 :: (M1.map (tieRec id 2) ++ s2 :: X)) := by
    rw [tied_app, tied_none _ (xs := pre) fun i hi => by rw [f_is, if_neg (by omega), if_neg (by omega)]]
    congr 1
    rw [show h :: (M0 ++ s1 :: (M1 ++ s2 :: X)) = [h] ++ (M0 ++ ([s1] ++ (M1 ++ s2 :: X))) from rfl, tied_app, tied_none _ (xs := [h]) fun i hi => by
      rw [List.length_singleton] at hi
      rw [f_is, if_neg (by omega), if_neg (by omega)]]
    rw [List.singleton_append]
    congr 1
    rw [tied_app, tied_all id (c := 1) (by decide) (xs := M0) fun i hi => by
      rw [f_is, if_neg (by rw [List.length_singleton]; omega), if_pos (by rw [List.length_singleton]; omega)]]
    congr 1
    rw [tied_app, tied_none _ (xs := [s1]) fun i hi => by
      rw [List.length_singleton] at hi
      rw [f_is, if_neg (by rw [List.length_singleton]; omega), if_neg (by rw [List.length_singleton]; omega)]]
    rw [List.singleton_append]
    congr 1
    rw [tied_app, tied_all id (c := 2) (by decide) (xs := M1) fun i hi => by
      rw [f_is, if_pos (by rw [List.length_singleton, List.length_singleton]; omega)]]
    congr 1
    refine  tied_none _ fun i hi => ?_
    rw [f_is, if_neg (by rw [List.length_singleton, List.length_singleton]; omega), if_neg (by rw [List.length_singleton, List.length_singleton]; omega)]
  have hl : (M0.map (tieRec id 1)).length = M0.length := by simp
  have hl1 : (M1.map (tieRec id 2)).length = M1.length := by simp
  unfold joinRow
  show ((turnAt (tied id (gapIn [pre.length, pre.length + 1 + M0.length, pre.length + 1 + M0.length + 1 + M1.length] 2) (pre ++ h :: (M0 ++ s1 :: (M1 ++ s2 :: X)))) pre.length (headInf g id 3)).take pre.length ++ segOf [pre.length, pre.length + 1 + M0.length, pre.length + 1 + M0.length + 1 + M1.length] (turnAt (tied id (gapIn [pre.length, pre.length + 1 + M0.length, pre.length + 1 + M0.length + 1 + M1.length] 2) (pre ++ h :: (M0 ++ s1 :: (M1 ++ s2 :: X)))) pre.length (headInf g id 3)) (pre.length + 1 + M0.length + 1 + M1.length + 1 - pre.length) ++ (turnAt (tied id (gapIn [pre.length, pre.length + 1 + M0.length, pre.length + 1 + M0.length + 1 + M1.length] 2) (pre ++ h :: (M0 ++ s1 :: (M1 ++ s2 :: X)))) pre.length (headInf g id 3)).drop (pre.length + 1 + M0.length + 1 + M1.length + 1)) = _
  rw [et, turnAt_mid]
  generalize hh' : ((h.1, h.2.1, headInf g id 3 h.2.2) : Rec) = h'
  generalize hM : M0.map (tieRec id 1) = M0' at *
  generalize hM1 : M1.map (tieRec id 2) = M1' at *
  rw [List.take_left' rfl]
  rw [show pre ++ h' :: (M0' ++ s1 :: (M1' ++ s2 :: X)) = pre ++ ((h' :: (M0' ++ (s1 :: (M1' ++ [s2])))) ++ X) by simp, segOf_pick _ pre X rfl _ _ (by simp; omega)]
  rw [List.take_of_length_le (by simp; omega)]
  rw [← List.append_assoc, List.drop_left' (by simp; omega)]
  rw [show h' :: (M0' ++ (s1 :: (M1' ++ [s2]))) = (h' :: M0') ++ ([s1] ++ (M1' ++ [s2])) by simp, pick_app, pick_app, pick_app, pick_all _ _ (h' :: M0') fun i hi => ?_, pick_no ?_, pick_all _ _ M1' fun i hi => ?_, pick_no ?_]
  · simp
  · unfold keepSpot
    have e : pre.length + (h' :: M0').length + [s1].length + M1'.length = pre.length + 1 + M0.length + 1 + M1.length := by rw [List.length_cons, List.length_singleton, hl, hl1]; omega
    rw [e]
    show (pre.length + 1 + M0.length + 1 + M1.length == pre.length || _) = false
    rw [show (pre.length + 1 + M0.length + 1 + M1.length == pre.length) = false by rw [beq_eq_false_iff_ne]; omega]
    simp
  · unfold keepSpot
    have e : pre.length + (h' :: M0').length + [s1].length + i = pre.length + 1 + M0.length + 1 + i := by rw [List.length_cons, List.length_singleton, hl]; omega
    rw [e, contains_no]
    · simp
    · intro p hp
      rcases List.mem_cons.mp hp with rfl | hp
      · omega
      rcases List.mem_cons.mp hp with rfl | hp
      · omega
      · rw [List.mem_singleton.mp hp]; omega
  · unfold keepSpot
    have e : pre.length + (h' :: M0').length = pre.length + 1 + M0.length := by rw [List.length_cons, hl]; omega
    rw [e]
    show (pre.length + 1 + M0.length == pre.length || _) = false
    rw [show (pre.length + 1 + M0.length == pre.length) = false by rw [beq_eq_false_iff_ne]; omega]
    simp
  · unfold keepSpot
    show (pre.length + i == pre.length || _) = true
    rw [List.length_cons] at hi
    by_cases c : i = 0
    · subst c; simp
    · rw [contains_no]
      · simp
      · intro p hp
        rcases List.mem_cons.mp hp with rfl | hp
        · omega
        rcases List.mem_cons.mp hp with rfl | hp
        · omega
        · rw [List.mem_singleton.mp hp]; omega
inductive Lig where
  | two (m0 m1 : Nat) (gap : Bool)
  | three (m0 m1 m2 : Nat) (gap : Bool)
noncomputable def gapC (g : Bool) : List CI := if g then [fr 5] else []
noncomputable def raw : Lig → List CI
  | .two m0 m1 g => fr 1 :: (List.replicate m0 (fr 9) ++ fr 2 :: (List.replicate m1 (fr 9) ++ gapC g))
  | .three m0 m1 m2 g => fr 1 :: (List.replicate m0 (fr 9) ++ fr 2 :: (List.replicate m1 (fr 9) ++ fr 2 :: (List.replicate m2 (fr 9) ++ gapC g)))
noncomputable def don (n : Int) : Lig → List CI
  | .two m0 m1 g => (6, n + 1, 0, 2) :: (List.replicate m0 (9, n + 1, 1, 0) ++ (List.replicate m1 (fr 9) ++ gapC g))
  | .three m0 m1 m2 g => (7, n + 1, 0, 3) :: (List.replicate m0 (9, n + 1, 1, 0) ++ (List.replicate m1 (9, n + 1, 2, 0) ++ (List.replicate m2 (fr 9) ++ gapC g)))
noncomputable def StepOk (rs : List Rec) (Pre : List CI) (n : Int) (D Rest : List CI) : Prop :=
  ∃ (e : Rec) (g : Int) (P : List Nat) (m : Nat), rs[Pre.length]? = some e ∧ e.2.2.g = 1 ∧ ((inp (infs rs) 1 [2, 2] Pre.length = some P ∧ g = 7 ∧ m = 2) ∨ (inp (infs rs) 1 [2, 2] Pre.length = none ∧ inp (infs rs) 1 [2] Pre.length = some P ∧ g = 6 ∧ m = 1)) ∧ 2 ≤ P.length ∧ P.length ≤ 400 ∧
    (∀ s, s + 1 < P.length → P.getD s 0 < P.getD (s + 1) 0) ∧ (∀ s, s < P.length → P.getD s 0 < rs.length) ∧ (∀ i e, P.getD 0 0 ≤ i → i ≤ P.getD (P.length - 1) 0 → rs[i]? = some e → e.2.2.id = 0 ∧ e.2.2.part = 0 ∧ e.2.2.cnt = 0) ∧
    (∀ s e, 1 ≤ s → s < P.length → rs[P.getD s 0]? = some e → e.2.2.g ≠ 9) ∧ m ≤ P.getD (P.length - 1) 0 + 1 ∧
    ∀ rs1, rs1.map sk = rs.map sk → (joinRow g (n + 1) P rs1).map key = Pre ++ (D ++ Rest) ∧ ((joinRow g (n + 1) P rs1).map fun e => e.2.1).Sublist (rs1.map fun e => e.2.1)
theorem all9 {M : List Rec} {m : Nat} (h : M.map key = List.replicate m (fr 9)) : M.length = m ∧ ∀ e ∈ M, e.2.2.g = 9 :=
  ⟨by simpa using congrArg List.length h, fun e he => by
    have : key e ∈ List.replicate m (fr 9) := h ▸ List.mem_map.mpr ⟨e, he, rfl⟩
    exact key_g (List.eq_of_mem_replicate this)⟩
theorem cut2 {rs : List Rec} {Pre Y : List CI} {m0 : Nat} (hk : rs.map key = Pre ++ (fr 1 :: (List.replicate m0 (fr 9) ++ fr 2 :: Y))) :
    ∃ pre h M0 s1 X, rs = pre ++ h :: (M0 ++ s1 :: X) ∧ pre.map key = Pre ∧ pre.length = Pre.length ∧ key h = fr 1 ∧ M0.length = m0 ∧ (∀ e ∈ M0, e.2.2.g = 9) ∧ M0.map key = List.replicate m0 (fr 9) ∧ key s1 = fr 2 ∧ X.map key = Y := by
  obtain ⟨pre, q, rfl, e1, e2⟩ := List.map_eq_append_iff.mp hk
  obtain ⟨h, q, rfl, e3, e4⟩ := List.map_eq_cons_iff.mp e2
  obtain ⟨M0, q, rfl, e5, e6⟩ := List.map_eq_append_iff.mp e4
  obtain ⟨s1, X, rfl, e7, e8⟩ := List.map_eq_cons_iff.mp e6
  exact ⟨pre, h, M0, s1, X, rfl, e1, by rw [← e1]; simp, e3, (all9 e5).1, (all9 e5).2, e5, e7, e8⟩
theorem cut1 {X : List Rec} {Y : List CI} {m1 : Nat} (hk : X.map key = List.replicate m1 (fr 9) ++ Y) : ∃ M1 Z, X = M1 ++ Z ∧ M1.length = m1 ∧ (∀ e ∈ M1, e.2.2.g = 9) ∧ M1.map key = List.replicate m1 (fr 9) ∧ Z.map key = Y := by
  obtain ⟨M1, Z, rfl, e5, e6⟩ := List.map_eq_append_iff.mp hk
  exact ⟨M1, Z, rfl, (all9 e5).1, (all9 e5).2, e5, e6⟩
theorem fresh_of {rs : List Rec} {Pre R Rest : List CI} (hk : rs.map key = Pre ++ (R ++ Rest)) (hR : ∀ c ∈ R, c.2 = (0, 0, 0)) {i : Nat} {e : Rec} (h1 : Pre.length ≤ i) (h2 : i < Pre.length + R.length) (he : rs[i]? = some e) : e.2.2.id = 0 ∧ e.2.2.part = 0 ∧ e.2.2.cnt = 0 := by
  have := congrArg (fun l => l[i]?) hk
  simp only [List.getElem?_map, he, Option.map_some] at this
  rw [List.getElem?_append_right h1, List.getElem?_append_left (by omega), List.getElem?_eq_getElem (by omega)] at this
  have hm : key e ∈ R := by rw [Option.some.inj this]; exact List.getElem_mem _
  have := hR _ hm
  unfold key at this
  injection this with q1 q2
  injection q2 with q2 q3
  exact ⟨q1, q2, q3⟩
theorem raw_fresh (l : Lig) : ∀ c ∈ raw l, c.2 = (0, 0, 0) := by
  have rep : ∀ (m : Nat) (c : CI), c ∈ List.replicate m (fr 9) → c.2 = (0, 0, 0) := fun m c h => by rw [List.eq_of_mem_replicate h]
  have gp : ∀ (g : Bool) (c : CI), c ∈ gapC g → c.2 = (0, 0, 0) := fun g c h => by
    cases g with
    | true => rw [List.mem_singleton.mp h]
    | false => cases h
  cases l with
  | two m0 m1 g =>
    intro c h
    rcases List.mem_cons.mp h with rfl | h
    · rfl
    rcases List.mem_append.mp h with h | h
    · exact rep _ _ h
    rcases List.mem_cons.mp h with rfl | h
    · rfl
    rcases List.mem_append.mp h with h | h
    · exact rep _ _ h
    · exact gp _ _ h
  | three m0 m1 m2 g =>
    intro c h
    rcases List.mem_cons.mp h with rfl | h
    · rfl
    rcases List.mem_append.mp h with h | h
    · exact rep _ _ h
    rcases List.mem_cons.mp h with rfl | h
    · rfl
    rcases List.mem_append.mp h with h | h
    · exact rep _ _ h
    rcases List.mem_cons.mp h with rfl | h
    · rfl
    rcases List.mem_append.mp h with h | h
    · exact rep _ _ h
    · exact gp _ _ h
theorem no_two {X : List Rec} {m : Nat} {g : Bool} {Rest : List CI} (hk : X.map key = List.replicate m (fr 9) ++ (gapC g ++ Rest)) (hR : Rest = [] ∨ ∃ r, Rest = fr 1 :: r) (i : Nat) : fnd 2 (infs X) i = -1 := by
  obtain ⟨M1, Z, rfl, _, h9, _, hZ⟩ := cut1 hk
  have one : ∀ (c : Int) (r : List CI), c ≠ 9 → c ≠ 2 → Z.map key = fr c :: r → fnd 2 (infs (M1 ++ Z)) i = -1 := fun c r n1 n2 hz => by
    obtain ⟨x, r', rfl, e1, _⟩ := List.map_eq_cons_iff.mp hz
    have hg := key_g e1
    rw [fnd_skip 2 x r' (by rw [hg]; exact n1) M1 i h9, if_neg (by rw [hg]; exact n2)]
  cases g with
  | true => exact one 5 _ (by decide) (by decide) hZ
  | false =>
    rcases hR with rfl | ⟨r, rfl⟩
    · have : Z = [] := by cases Z with
        | nil => rfl
        | cons x r => cases hZ
      rw [this, List.append_nil, fnd_out 2 M1 i h9]
    · exact one 1 r (by decide) (by decide) hZ
theorem tieRec_keys {M : List Rec} {m : Nat} (h : M.map key = List.replicate m (fr 9)) (id : Int) (c : Nat) : (M.map (tieRec id c)).map key = List.replicate m (9, id, (c : Int), 0) := by
  have hl := (all9 h).1
  rw [List.map_map]
  apply List.ext_getElem (by simp [hl])
  intro i h1 h2
  have hi : i < M.length := by simpa using h1
  rw [List.getElem_map, List.getElem_replicate]
  have := (all9 h).2 _ (List.getElem_mem hi)
  show ((M[i]).2.2.g, id, (c : Int), (0 : Int)) = _
  rw [this]
theorem nd_sub {xs ys : List Rec} (h : Nd ys) (s : (xs.map fun e => e.2.1).Sublist (ys.map fun e => e.2.1)) : Nd xs := List.Nodup.sublist s h
theorem dx_tie (id : Int) (c : Nat) (M : List Rec) : (M.map (tieRec id c)).map (fun e => e.2.1) = M.map fun e => e.2.1 := by
  rw [List.map_map]; rfl
theorem step_two {rs : List Rec} {Pre Rest : List CI} {m0 m1 : Nat} {gp : Bool} (n : Int) (hk : rs.map key = Pre ++ (raw (.two m0 m1 gp) ++ Rest)) (hR : Rest = [] ∨ ∃ r, Rest = fr 1 :: r) : StepOk rs Pre n (don n (.two m0 m1 gp)) Rest := by
  have hk' : rs.map key = Pre ++ (fr 1 :: (List.replicate m0 (fr 9) ++ fr 2 :: (List.replicate m1 (fr 9) ++ (gapC gp ++ Rest)))) := by
    rw [hk]; unfold raw; simp
  obtain ⟨pre, h, M0, s1, X, rfl, e1, hpl, e2, l0, g0, k0, e3, hX⟩ := cut2 hk'
  have hx := no_two hX hR
  have hin := inp_two (X := X) (pre := pre) (M0 := M0) (key_g e2) g0 (key_g e3) hx
  rw [hpl, l0] at hin
  have hb : (pre ++ h :: (M0 ++ s1 :: X))[Pre.length + 1 + m0]? = some s1 := by
    rw [← hpl, List.getElem?_append_right (by omega), show pre.length + 1 + m0 - pre.length = m0 + 1 by omega, List.getElem?_cons_succ, List.getElem?_append_right (by omega), l0]
    simp
  have hlen : Pre.length + 1 + m0 < (pre ++ h :: (M0 ++ s1 :: X)).length := (List.getElem?_eq_some_iff.mp hb).1
  refine  ⟨h, 6, [Pre.length, Pre.length + 1 + m0], 1, by rw [← hpl]; simp, key_g e2, .inr ⟨hin.1, hin.2, rfl, rfl⟩, by simp, by simp, fun s hs => ?_, fun s hs => ?_, fun i e h1 h2 he => ?_, fun s e h1 h2 he => ?_, ?_, fun rs1 hsk => ?_⟩
  · match s, hs with
    | 0, _ => (show Pre.length < Pre.length + 1 + m0; omega)
    | s + 1, hs => exact absurd hs (by simp only [List.length_cons, List.length_nil]; omega)
  · match s, hs with
    | 0, _ => (show Pre.length < _; omega)
    | 1, _ => exact hlen
    | s + 2, hs => exact absurd hs (by simp only [List.length_cons, List.length_nil]; omega)
  · refine  fresh_of hk (raw_fresh _) h1 ?_ he
    have h2' : i ≤ Pre.length + 1 + m0 := h2
    unfold raw
    rw [List.length_cons, List.length_append, List.length_cons, List.length_replicate]
    omega
  · match s, h1, h2 with
    | 1, _, _ =>
      have he' : (pre ++ h :: (M0 ++ s1 :: X))[Pre.length + 1 + m0]? = some e := he
      rw [hb] at he'
      cases he'
      rw [key_g e3]
      decide
    | s + 2, _, h2 => exact absurd h2 (by simp only [List.length_cons, List.length_nil]; omega)
  · show 1 ≤ Pre.length + 1 + m0 + 1; omega
  · have hk1 := (sk_keys hsk).trans hk'
    obtain ⟨pre', h', M0', s1', X', rfl, e1', hpl', e2', l0', g0', k0', e3', hX'⟩ := cut2 hk1
    have := join_two 6 (n + 1) (pre := pre') (M0 := M0') (X := X') (h := h') (s1 := s1')
    rw [hpl', l0'] at this
    rw [this]
    refine  ⟨?_, ?_⟩
    · rw [List.map_append, List.map_cons, List.map_append, e1', tieRec_keys k0', hX']
      show Pre ++ ((6, n + 1, (0 : Int), (2 : Int)) :: _) = _
      unfold don
      simp
    · rw [List.map_append, List.map_cons, List.map_append, dx_tie, List.map_append, List.map_cons, List.map_append, List.map_cons]
      exact List.Sublist.append_left (List.Sublist.cons_cons _ (List.Sublist.append_left (List.sublist_cons_self ..) _)) _
theorem step_three {rs : List Rec} {Pre Rest : List CI} {m0 m1 m2 : Nat} {gp : Bool} (n : Int) (hk : rs.map key = Pre ++ (raw (.three m0 m1 m2 gp) ++ Rest)) : StepOk rs Pre n (don n (.three m0 m1 m2 gp)) Rest := by
  have hk' : rs.map key = Pre ++ (fr 1 :: (List.replicate m0 (fr 9) ++ fr 2 :: (List.replicate m1 (fr 9) ++ (fr 2 :: (List.replicate m2 (fr 9) ++ (gapC gp ++ Rest)))))) := by
    rw [hk]; unfold raw; simp
  obtain ⟨pre, h, M0, s1, X, rfl, e1, hpl, e2, l0, g0, k0, e3, hX⟩ := cut2 hk'
  obtain ⟨M1, Z, rfl, l1, g1, k1, hZ⟩ := cut1 hX
  obtain ⟨s2, X, rfl, e4, hX2⟩ := List.map_eq_cons_iff.mp hZ
  have hin := inp_three (X := X) (pre := pre) (M0 := M0) (M1 := M1) (key_g e2) g0 (key_g e3) g1 (key_g e4)
  rw [hpl, l0, l1] at hin
  have hb : (pre ++ h :: (M0 ++ s1 :: (M1 ++ s2 :: X)))[Pre.length + 1 + m0]? = some s1 := by
    rw [← hpl, List.getElem?_append_right (by omega), show pre.length + 1 + m0 - pre.length = m0 + 1 by omega, List.getElem?_cons_succ, List.getElem?_append_right (by omega), l0]
    simp
  have hb2 : (pre ++ h :: (M0 ++ s1 :: (M1 ++ s2 :: X)))[Pre.length + 1 + m0 + 1 + m1]? = some s2 := by
    rw [← hpl, List.getElem?_append_right (by omega), show pre.length + 1 + m0 + 1 + m1 - pre.length = (m0 + (m1 + 1)) + 1 by omega, List.getElem?_cons_succ, List.getElem?_append_right (by omega), l0, show m0 + (m1 + 1) - m0 = m1 + 1 by omega, List.getElem?_cons_succ, List.getElem?_append_right (by omega), l1]
    simp
  have hlen : Pre.length + 1 + m0 + 1 + m1 < (pre ++ h :: (M0 ++ s1 :: (M1 ++ s2 :: X))).length := (List.getElem?_eq_some_iff.mp hb2).1
  refine  ⟨h, 7, [Pre.length, Pre.length + 1 + m0, Pre.length + 1 + m0 + 1 + m1], 2, by rw [← hpl]; simp, key_g e2, .inl ⟨hin, rfl, rfl⟩, by simp, by simp, fun s hs => ?_, fun s hs => ?_, fun i e h1 h2 he => ?_, fun s e h1 h2 he => ?_, ?_, fun rs1 hsk => ?_⟩
  · match s, hs with
    | 0, _ => (show Pre.length < Pre.length + 1 + m0; omega)
    | 1, _ => (show Pre.length + 1 + m0 < Pre.length + 1 + m0 + 1 + m1; omega)
    | s + 2, hs => exact absurd hs (by simp only [List.length_cons, List.length_nil]; omega)
  · match s, hs with
    | 0, _ => (show Pre.length < _; omega)
    | 1, _ => (show Pre.length + 1 + m0 < _; omega)
    | 2, _ => exact hlen
    | s + 3, hs => exact absurd hs (by simp only [List.length_cons, List.length_nil]; omega)
  · refine  fresh_of hk (raw_fresh _) h1 ?_ he
    have h2' : i ≤ Pre.length + 1 + m0 + 1 + m1 := h2
    unfold raw
    rw [List.length_cons, List.length_append, List.length_cons, List.length_append, List.length_cons, List.length_replicate, List.length_replicate]
    omega
  · match s, h1, h2 with
    | 1, _, _ =>
      have he' : (pre ++ h :: (M0 ++ s1 :: (M1 ++ s2 :: X)))[Pre.length + 1 + m0]? = some e := he
      rw [hb] at he'
      cases he'
      rw [key_g e3]
      decide
    | 2, _, _ =>
      have he' : (pre ++ h :: (M0 ++ s1 :: (M1 ++ s2 :: X)))[Pre.length + 1 + m0 + 1 + m1]? = some e := he
      rw [hb2] at he'
      cases he'
      rw [key_g e4]
      decide
    | s + 3, _, h2 => exact absurd h2 (by simp only [List.length_cons, List.length_nil]; omega)
  · show 2 ≤ Pre.length + 1 + m0 + 1 + m1 + 1; omega
  · have hk1 := (sk_keys hsk).trans hk'
    obtain ⟨pre', h', M0', s1', X', rfl, e1', hpl', e2', l0', g0', k0', e3', hX'⟩ := cut2 hk1
    obtain ⟨M1', Z', rfl, l1', g1', k1', hZ'⟩ := cut1 hX'
    obtain ⟨s2', X', rfl, e4', hX2'⟩ := List.map_eq_cons_iff.mp hZ'
    have := join_three 7 (n + 1) (pre := pre') (M0 := M0') (M1 := M1') (X := X') (h := h') (s1 := s1') (s2 := s2')
    rw [hpl', l0', l1'] at this
    rw [this]
    refine  ⟨?_, ?_⟩
    · rw [List.map_append, List.map_cons, List.map_append, List.map_append, e1', tieRec_keys k0', tieRec_keys k1', hX2']
      show Pre ++ ((7, n + 1, (0 : Int), (3 : Int)) :: _) = _
      unfold don
      simp
    · simp only [List.map_append, List.map_cons, dx_tie]
      exact List.Sublist.append_left (List.Sublist.cons_cons _ (List.Sublist.append_left (List.Sublist.cons _ (List.Sublist.append_left (List.sublist_cons_self ..) _)) _)) _
theorem step_ok {rs : List Rec} {Pre Rest : List CI} (l : Lig) (n : Int) (hk : rs.map key = Pre ++ (raw l ++ Rest)) (hR : Rest = [] ∨ ∃ r, Rest = fr 1 :: r) : StepOk rs Pre n (don n l) Rest := by
  cases l with
  | two m0 m1 g => exact step_two n hk hR
  | three m0 m1 m2 g => exact step_three n hk
noncomputable def rawAll : List Lig → List CI
  | [] => []
  | l :: r => raw l ++ rawAll r
noncomputable def donAll : Int → List Lig → List CI
  | _, [] => []
  | n, l :: r => don n l ++ donAll (n + 1) r
theorem rawAll_app : ∀ (A B : List Lig), rawAll (A ++ B) = rawAll A ++ rawAll B
  | [], _ => rfl
  | l :: A, B => by rw [List.cons_append, rawAll, rawAll, rawAll_app A B, List.append_assoc]
theorem donAll_app : ∀ (n : Int) (A B : List Lig), donAll n (A ++ B) = donAll n A ++ donAll (n + A.length) B
  | n, [], B => by simp [donAll]
  | n, l :: A, B => by
    rw [List.cons_append, donAll, donAll, donAll_app (n + 1) A B, List.append_assoc, List.length_cons]
    congr 3
    push_cast
    omega
theorem raw_head (l : Lig) : ∃ r, raw l = fr 1 :: r := by
  cases l <;> exact ⟨_, rfl⟩
theorem rawAll_head (B : List Lig) : rawAll B = [] ∨ ∃ r, rawAll B = fr 1 :: r := by
  cases B with
  | nil => exact .inl rfl
  | cons l B =>
    obtain ⟨r, e⟩ := raw_head l
    exact .inr ⟨_, by rw [rawAll, e]; rfl⟩
section
variable {w : World} {h₀ : Heap} {A : Around} {L : Addr} {l : Loc} {σ σ₀ τ : St} {env : Env} {lo gl : List Str} {ce : List (Str × Addr)}
theorem rm_ao {σ : St} {J a b : Addr} {i : Nat} {x : AO} (hJ : σ J = some (.liter b i)) (h : σ a = some x) (n : x ≠ .liter b i) : rm σ J a = some x := by
  have : a ≠ J := ne_ao h hJ n
  unfold rm; rw [if_neg this]; exact h
theorem ScAt.off {σ : St} {S : Sc} {J b : Addr} {i : Nat} (I : ScAt σ S) (hJ : σ J = some (.liter b i)) : ScAt (rm σ J) S :=
  ⟨rm_ao hJ I.h_sc (by simp), rm_ao hJ I.h_scx (by simp), rm_ao hJ I.h_gd (by simp), rm_ao hJ I.h_gdx (by simp), rm_ao hJ I.h_lk (by simp), rm_ao hJ I.h_lkx (by simp), rm_ao hJ I.h_cd (by simp), rm_ao hJ I.h_cdx (by simp), rm_ao hJ I.h_tab (by simp), rm_ao hJ I.h_tabx (by simp), rm_ao hJ I.h_bu (by simp), rm_ao hJ I.h_cdd (by simp), rm_ao hJ I.h_tabd (by simp), rm_ao hJ I.h_lst (by simp), rm_ao hJ I.h_p7 (by simp), rm_ao hJ I.h_p6 (by simp), rm_ao hJ I.h_t22 (by simp), rm_ao hJ I.h_t2 (by simp)⟩
theorem RowAt.off {σ : St} {ra J b : Addr} {i : Nat} {rs : List Rec} (R : RowAt σ ra rs) (hJ : σ J = some (.liter b i)) : RowAt (Mine.rm σ J) ra rs :=
  ⟨rm_ao hJ R.lst (by simp), fun e he => ⟨rm_ao hJ (R.obj e he).1 (by simp), rm_ao hJ (R.obj e he).2 (by simp)⟩⟩
theorem sub_rmx {σ : St} {J : Addr} {x : AO} (h : σ J = some x) : Sub (upd (rm σ J) J x) σ := fun a y e => by
  by_cases c : a = J
  · subst c; rw [upd_self] at e; rw [h]; exact e
  · rw [upd_ne c] at e; unfold rm at e; rw [if_neg c] at e; exact e
theorem law10 (G : Gnd w h₀) (r : Room A 8) (O : EnvOk env L lawLo lawGl [("pool", L + 1), ("plan", L + 2)]) {Q : Fl → Loc → St → Prop} {S : Sc} {rs : List Rec} {ba : Addr} {bs : List Nat} {ligs : List Lig}
    (I : ScAt σ S) (hbx : σ S.bux = some (.attrs (bufFs S 0))) (R : RowAt σ S.ra rs) (hn : Nd rs) (hz : rs.length ≤ 400) (hk : rs.map key = rawAll ligs) (hba : σ ba = some (.list (bs.map nv))) (hbl : bs.length = ligs.length) (hb : ∀ j, j < bs.length → bs.getD j 0 = (rawAll (ligs.take j)).length) (hbz : bs.length ≤ 100) (hbr : ba ≠ S.ra)
    (hl : locChk l [("buffer", .ref S.bu), ("scene", .ref S.sc), ("table", .ref S.tab), ("begins", .ref ba), ("gone", .int 0)])
    (h : ∀ l' σ' rs', locChk l' [("buffer", .ref S.bu)] → Keep (fun a => dxs rs a ∨ a = S.bux ∨ a = S.ra) σ σ' → ScAt σ' S → σ' S.bux = some (.attrs (bufFs S ligs.length)) → RowAt σ' S.ra rs' → rs'.map key = donAll 0 ligs → AXs w h₀ A L env (lawBody.drop 11) Q l' σ') :
    AXs w h₀ A L env (lawBody.drop 10) Q l σ := by
  have hbm : (bs.map nv).length = bs.length := by simp
  with_reducible refine AXs.loc (locLe.of hl) ?_
  refine  x_cons ?_
  repeat walk_at "v"
  refine  f_loop (fun j l' σ' => locChk l' [("buffer", .ref S.bu), ("scene", .ref S.sc), ("table", .ref S.tab), ("gone", .int (((rawAll (ligs.take j)).length : Int) - ((donAll 0 (ligs.take j)).length : Int)))] ∧ σ' ba = some (.list (bs.map nv)) ∧ Keep (fun a => dxs rs a ∨ a = S.bux ∨ a = S.ra) σ σ' ∧ ScAt σ' S ∧ σ' S.bux = some (.attrs (bufFs S j)) ∧
      ∃ rs', RowAt σ' S.ra rs' ∧ Nd rs' ∧ (∀ a, dxs rs' a → dxs rs a) ∧ rs'.length ≤ 400 ∧ rs'.map key = donAll 0 (ligs.take j) ++ rawAll (ligs.drop j))
    (Starts.list r.hh (.int 0) hba) ⟨⟨rfl, rfl, rfl, rfl, trivial⟩, hba, Keep.refl _ _, I, hbx, rs, R, hn, fun _ h => h, hz, hk⟩ (fun j l' σ' h => h.2.1) ?_ ?_
  · rintro J j l' σ' hj ⟨hl', hba', hkp, I', hbx', rs', R', hn', hdx, hz', hk'⟩ hJ hJL
    rw [hbm] at hj
    rw [getD_map (d' := 0) hj, hb j hj]
    have hjl : j < ligs.length := by omega
    have hdrop : ligs.drop j = ligs[j] :: ligs.drop (j + 1) := List.drop_eq_getElem_cons hjl
    have htake : ligs.take (j + 1) = ligs.take j ++ [ligs[j]] := by rw [List.take_add_one, List.getElem?_eq_getElem hjl]; rfl
    have htl : (ligs.take j).length = j := by rw [List.length_take]; omega
    rw [hdrop, rawAll] at hk'
    obtain ⟨e, g, P, m, a1, a2, a3, a4, a5, a6, a7, a8, a9, a10, a11⟩ := step_ok ligs[j] (j : Int) hk' (rawAll_head _)
    have sJ : Sub σ' (upd σ' J (.liter ba (j + 1))) := sub_upd hJ
    have hln := congrArg List.length hk'
    rw [List.length_map, List.length_append, List.length_append] at hln
    have hpos : 0 < rs'.length := by have := (List.getElem?_eq_some_iff.mp a1).1; omega
    with_reducible refine AA.loc (locLe.of hl') ?_
    repeat walk_at "v"
    with_reducible refine e_callB G O (by decide +kernel) (by kernel_rfl) boot_len (by with_unfolding_all rfl) ?_
    repeat walk_at "v"
    with_reducible refine g_bu_row G (I'.sub sJ) (sJ.ap hbx') ?_
    repeat walk_at "v"
    with_reducible refine c_len (R'.sub sJ).lst (by rw [List.length_map]; omega) ?_
    rw [List.length_map]
    repeat walk_at "v"
    with_reducible refine e_call (fa := 428) G O (by decide +kernel) (by kernel_rfl) (by kernel_rfl) (by with_unfolding_all rfl) ?_
    repeat walk_at "v"
    rw [show ((rawAll (ligs.take j)).length : Int) - (((rawAll (ligs.take j)).length : Int) - ((donAll 0 (ligs.take j)).length : Int)) = (((donAll 0 (ligs.take j)).length : Nat) : Int) by omega]
    repeat walk_at "v"
    refine  k_keep (S := fun a => dxs rs' a ∨ a = S.bux ∨ a = S.ra) (P := fun v σ' => v = .int ((P.getD (P.length - 1) 0 : Nat) + 1 - m) ∧ σ' S.bux = some (.attrs (bufFs S (j + 1))) ∧ ∃ rs1, rs1.map sk = rs'.map sk ∧ RowAt σ' S.ra (joinRow g (j + 1) P rs1)) ?_ (fun off => (ad_apply G (r.less (by omega)) ((I'.sub sJ).sub (sub_upd off)) ((sub_upd off).ap (sJ.ap hbx')) ((R'.sub sJ).sub (sub_upd off)) hn' hz' a1 a2 a3 a4 a5 a6 a7 a8 a9).af) ?_ ?_
    · rintro x (h | h | h)
      · exact (R'.sub sJ).dxs' x h
      · rw [h, sJ.ap hbx']; simp
      · rw [h, (R'.sub sJ).lst]; simp
    · rintro v τ ⟨e1, e2, rs1, e3, e4⟩ hτ
      exact ⟨e1, rm_get hτ e2 (by intro _ h; cases h), rs1, e3, e4.rm hτ⟩
    rintro v σ2 k2 hσ2L ⟨rfl, hb2, rs1, hsk, R2⟩
    obtain ⟨b1, b2⟩ := a11 rs1 hsk
    have I2 := (I'.sub sJ).keep k2 fun a ha => by
      rcases ha with ha | ha | ha
      · exact (R'.sub sJ).notSc ha
      · rw [ha]; exact bux_notSc (sJ.ap hbx')
      · rw [ha]; exact ra_notSc (I'.sub sJ) (R'.sub sJ) hpos
    repeat walk_at "v"
    with_reducible refine ⟨fun hc => ?_, fun _ => ?_⟩
    · have := of_decide_eq_true hc
      omega
    repeat walk_at "v"
    with_reducible refine e_callB G O (by decide +kernel) (by kernel_rfl) boot_len (by with_unfolding_all rfl) ?_
    repeat walk_at "v"
    with_reducible refine g_bu_row G I2 hb2 ?_
    repeat walk_at "v"
    have hln2 := congrArg List.length b1
    rw [List.length_map, List.length_append, List.length_append] at hln2
    have hlen1 := sk_len hsk
    have hjz : (joinRow g (j + 1) P rs1).length ≤ 400 := by
      have := b2.length_le
      simp only [List.length_map] at this
      omega
    with_reducible refine c_len R2.lst (by rw [List.length_map]; omega) ?_
    rw [List.length_map]
    repeat walk_at "v"
    have hJ2 := k2 J _ (fun hs => by
      rcases hs with hs | hs | hs
      · exact R'.dxs' J hs hJ
      · rw [hs, hbx'] at hJ; cases hJ
      · rw [hs, R'.lst] at hJ; cases hJ) (upd_self ..)
    have hdon : donAll 0 (ligs.take (j + 1)) = donAll 0 (ligs.take j) ++ don j ligs[j] := by
      rw [htake, donAll_app, htl]
      simp [donAll]
    have hraw : rawAll (ligs.take (j + 1)) = rawAll (ligs.take j) ++ raw ligs[j] := by
      rw [htake, rawAll_app]
      simp [rawAll]
    have hl1 := congrArg List.length hdon
    have hl2 := congrArg List.length hraw
    rw [List.length_append] at hl1 hl2
    have hsub : ∀ a, dxs (joinRow g (j + 1) P rs1) a → dxs rs a := fun a ha => hdx a ((dxs_of hsk a).mp (b2.subset ha))
    refine  turn_ok (σ := rm σ2 J) (rm_self _ _) (sub_rmx hJ2) ⟨⟨rfl, rfl, rfl, ?_, trivial⟩, ?_, fun a x n e => ?_, I2.off hJ2, ?_, joinRow g (j + 1) P rs1, R2.off hJ2, ?_, hsub, ?_, ?_⟩
    · show some (V.int _) = some (V.int _)
      congr 2
      omega
    · refine  rm_ao hJ2 (k2 _ _ (fun hs => ?_) (sJ.ap hba')) (by simp)
      rcases hs with hs | hs | hs
      · obtain ⟨q, eq⟩ := R'.dxs hs
        rw [hba'] at eq; cases eq
      · rw [hs, hbx'] at hba'; cases hba'
      · exact hbr hs
    · have e' := hkp a x n e
      have hne : a ≠ J := ne_of_none hJ e'
      unfold rm
      rw [if_neg hne]
      refine  k2 a x (fun hs => n ?_) (sJ.ap e')
      rcases hs with hs | hs | hs
      · exact .inl (hdx a hs)
      · exact .inr (.inl hs)
      · exact .inr (.inr hs)
    · exact rm_ao hJ2 hb2 (by simp)
    · exact nd_sub (by unfold Nd; rw [sk_dxs hsk]; exact hn') b2
    · exact hjz
    · rw [b1, hdon, List.append_assoc]
  · rintro l' σ' ⟨hl', hba', hkp, I', hbx', rs', R', hn', hdx, hz', hk'⟩
    rw [hbm, hbl, List.take_of_length_le (Nat.le_refl _), List.drop_of_length_le (Nat.le_refl _), rawAll, List.append_nil] at hk'
    rw [hbm, hbl] at hbx'
    exact h l' σ' rs' ⟨hl'.1, trivial⟩ hkp I' hbx' R' hk'
end
section
variable {w : World} {h₀ : Heap} {A : Around} {L : Addr} {l : Loc} {σ σ₀ τ : St} {env : Env} {lo gl : List Str} {ce : List (Str × Addr)}
noncomputable abbrev fs0 (g c : Int) : Loc := [("code", .int 65), ("glyph", .int g), ("cluster", .int c), ("mask", .int 0), ("is_unsafe", .bool false), ("lig_id", .int 0), ("lig_part", .int 0), ("lig_count", .int 0), ("split_id", .int 0), ("kind", .str ""), ("x_advance", .int 0), ("y_advance", .int 0), ("x_offset", .int 0), ("y_offset", .int 0), ("parent", .int 0), ("bond", .str "")]
theorem set_mask (g c : Int) : setF (fs0 g c) ("mask" : Str) (.int 1) = infoFs ⟨g, c, 0, 0, 0⟩ := by kernel_rfl
theorem law4 (G : Gnd w h₀) (r : Room A 3) (O : EnvOk env L lawLo lawGl [("pool", L + 1), ("plan", L + 2)]) {Q : Fl → Loc → St → Prop} {ga ba : Addr} {gs : List Int} (hg : σ ga = some (.list (gs.map V.int))) (hz : gs.length ≤ 400)
    (hl : locChk l [("glyphs", .ref ga), ("begins", .ref ba)])
    (h : ∀ l' σ' ra rs, locChk l' [("begins", .ref ba), ("infos", .ref ra)] → Sub σ σ' → σ ra = none → RowAt σ' ra rs → Nd rs → rs.map key = gs.map fr → (∀ a, dxs rs a → σ a = none) → AXs w h₀ A L env (lawBody.drop 5) Q l' σ') :
    AXs w h₀ A L env (lawBody.drop 3) Q l σ := by
  with_reducible refine AXs.loc (locLe.of hl) ?_
  refine  x_cons ?_
  repeat walk_at "v"
  with_reducible refine ⟨by simp, fun ra hra => ?_⟩
  have s1 : Sub σ (upd σ ra (.list [])) := sub_upd hra
  repeat walk_at "v"
  with_reducible refine e_callT G O (by decide +kernel) (by kernel_rfl) boot_range (by with_unfolding_all rfl) ?_
  repeat walk_at "v"
  with_reducible refine e_callB G O (by decide +kernel) (by kernel_rfl) boot_len (by with_unfolding_all rfl) ?_
  repeat walk_at "v"
  with_reducible refine c_len (s1.ap hg) (by rw [List.length_map]; omega) ?_
  rw [List.length_map]
  repeat walk_at "v"
  with_reducible refine c_range1 fun rg hrg => ?_
  refine  f_loop (fun i l' σ' => locChk l' [("glyphs", .ref ga), ("begins", .ref ba), ("infos", .ref ra)] ∧ Sub σ σ' ∧ ∃ rs, RowAt σ' ra rs ∧ Nd rs ∧ rs.length = i ∧ rs.map key = (gs.take i).map fr ∧ ∀ a, dxs rs a → σ a = none) (Starts.range r.hh (upd_self ..) (small_one (by decide) (by decide) (by omega) (by omega)))
    ⟨⟨rfl, rfl, rfl, trivial⟩, s1.trans (sub_upd hrg), [], ⟨upd_old hrg (upd_self ..), fun e he => by cases he⟩, List.nodup_nil, rfl, rfl, fun a ha => by cases ha⟩ (fun _ _ _ _ => trivial) ?_ ?_
  · rintro I i l' σ' hi ⟨hl', hs, rs, R, hn, hlen, hkey, hfr⟩ hI hIL
    have hi' : i < gs.length := by omega
    rw [show ((0 : Int) + (i : Int)) = ((i : Nat) : Int) by omega]
    have sI : Sub σ' (upd σ' I (rit 0 ((gs.length : Int) - 0).toNat (i + 1))) := sub_upd hI
    have sg := (hs.trans sI).ap hg
    with_reducible refine AA.loc (locLe.of hl') ?_
    repeat walk_at "v"
    intro t
    with_reducible refine m_append (R.sub sI).lst ?_ t
    with_reducible refine cw_B (by with_unfolding_all rfl) ?_
    repeat walk_at "v"
    with_reducible refine e_call (fa := 176) G O (by decide +kernel) (by kernel_rfl) (by kernel_rfl) (by with_unfolding_all rfl) ?_
    repeat walk_at "v"
    with_reducible refine s_listN (v := .int (gs.getD i 0)) sg (by omega) (by rw [List.getElem?_map, List.getD_eq_getElem?_getD, List.getElem?_eq_getElem hi']; with_unfolding_all rfl) ?_ (by intro _; with_unfolding_all rfl)
    repeat walk_at "v"
    refine  k_made (fs := fs0 (gs.getD i 0) i) (fun τ k fr => ad_mk_Info G (r.less (by omega))) ?_
    rintro v σ2 s2 hσ2L ⟨x, dx, rfl, hx, hd, hx0, hd0⟩
    have R2 := (R.sub sI).sub s2
    repeat walk_at "v"
    with_reducible refine c_append R2.lst (by rw [List.length_map]; omega) ?_
    repeat walk_at "v"
    have hra2 : upd σ2 ra (.list ((rs.map fun e => V.ref e.1) ++ [.ref x])) ra = some (.list ((rs.map fun e => V.ref e.1) ++ [.ref x])) := upd_self ..
    have hnra : ∀ {a : Addr} {y : AO}, σ2 a = some y → (∀ vs, y ≠ .list vs) → upd σ2 ra (.list ((rs.map fun e => V.ref e.1) ++ [.ref x])) a = some y := fun {a y} e n => by
      rw [upd_ne (ne_ao e R2.lst (n _))]; exact e
    have hx3 := hnra hx (by simp)
    have hd3 := hnra hd (by simp)
    with_reducible refine s_listN (v := .ref x) hra2 (by omega) (by rw [List.getElem?_append_right (by rw [List.length_map]; omega), List.length_map, hlen, Nat.sub_self]; with_unfolding_all rfl) ?_ (by intro _; with_unfolding_all rfl)
    refine  ⟨x, 176, dx, _, rfl, hx3, hd3, cls_Info _, f_mask _, Nat.le_of_ble_eq_true rfl, ?_⟩
    rw [set_mask]
    repeat walk_at "v"
    have hdxI : dx ≠ I := by rintro rfl; rw [upd_self] at hd0; cases hd0
    have hxI : x ≠ I := by rintro rfl; rw [upd_self] at hx0; cases hx0
    have hd0' : σ' dx = none := by rw [upd_ne hdxI] at hd0; exact hd0
    have hx0' : σ' x = none := by rw [upd_ne hxI] at hx0; exact hx0
    have hraI : ra ≠ I := ne_of_none hI R.lst
    have hI2 := s2.ap (upd_self σ' I (rit 0 ((gs.length : Int) - 0).toNat (i + 1)))
    have hI3 := hnra hI2 (by unfold rit; simp)
    have hI5 : upd (upd σ2 ra (.list ((rs.map fun e => V.ref e.1) ++ [.ref x]))) dx (.attrs (infoFs ⟨gs.getD i 0, i, 0, 0, 0⟩)) I = some (rit 0 ((gs.length : Int) - 0).toNat (i + 1)) := by rw [upd_ne hdxI.symm]; exact hI3
    have off : ∀ {a : Addr} {y : AO}, upd (upd σ2 ra (.list ((rs.map fun e => V.ref e.1) ++ [.ref x]))) dx (.attrs (infoFs ⟨gs.getD i 0, i, 0, 0, 0⟩)) a = some y → y ≠ rit 0 ((gs.length : Int) - 0).toNat (i + 1) → rm (upd (upd σ2 ra (.list ((rs.map fun e => V.ref e.1) ++ [.ref x]))) dx (.attrs (infoFs ⟨gs.getD i 0, i, 0, 0, 0⟩))) I a = some y := fun {a y} e n => by
      have : a ≠ I := ne_ao e hI5 n
      unfold rm; rw [if_neg this]; exact e
    have hdxold : ∀ e ∈ rs, e.2.1 ≠ dx := fun e he h => by
      have := (R.obj e he).2
      rw [h, hd0'] at this
      cases this
    refine  turn_ok (σ := rm (upd (upd σ2 ra (.list ((rs.map fun e => V.ref e.1) ++ [.ref x]))) dx (.attrs (infoFs ⟨gs.getD i 0, i, 0, 0, 0⟩))) I) (rm_self _ _) (sub_rmx hI5) ⟨⟨rfl, rfl, rfl, trivial⟩, ?_, rs ++ [(x, dx, ⟨gs.getD i 0, i, 0, 0, 0⟩)], ⟨?_, ?_⟩, ?_, by simp [hlen], ?_, ?_⟩
    · intro a y e
      have e' := hs a y e
      have h1 : a ≠ I := ne_of_none hI e'
      have h2 : a ≠ ra := ne_of_none hra e
      have h3 : a ≠ dx := ne_of_none hd0' e'
      unfold rm
      rw [if_neg h1, upd_ne h3, upd_ne h2]
      exact s2 _ _ (sI _ _ e')
    · refine  off ?_ (by unfold rit; simp)
      rw [upd_ne (ne_ao hra2 hd3 (by simp))]
      rw [hra2]
      simp
    · intro e he
      rcases List.mem_append.mp he with he | he
      · have o1 := (R2.obj e he).1
        have o2 := (R2.obj e he).2
        refine  ⟨off ?_ (by unfold rit; simp), off ?_ (by unfold rit; simp)⟩
        · rw [upd_ne (ne_ao (hnra o1 (by simp)) hd3 (by simp))]; exact hnra o1 (by simp)
        · rw [upd_ne (hdxold e he)]; exact hnra o2 (by simp)
      · rw [List.mem_singleton.mp he]
        refine  ⟨off ?_ (by unfold rit; simp), off (upd_self ..) (by unfold rit; simp)⟩
        rw [upd_ne (ne_ao hx3 hd3 (by simp))]; exact hx3
    · unfold Nd
      rw [List.map_append, List.nodup_append]
      refine  ⟨hn, by simp, fun a ha b hb => ?_⟩
      obtain ⟨e, he, rfl⟩ := List.mem_map.mp ha
      rw [List.map_singleton, List.mem_singleton] at hb
      rw [hb]
      exact hdxold e he
    · rw [List.map_append, hkey, List.take_add_one, List.getElem?_eq_getElem hi', List.map_append]
      rw [List.getD_eq_getElem?_getD, List.getElem?_eq_getElem hi']
      rfl
    · intro a ha
      obtain ⟨e, he, rfl⟩ := List.mem_map.mp ha
      rcases List.mem_append.mp he with he | he
      · exact hfr _ (List.mem_map.mpr ⟨e, he, rfl⟩)
      · rw [List.mem_singleton.mp he]
        exact sub_off hs hd0'
  · rintro l' σ' ⟨hl', hs, rs, R, hn, hlen, hkey, hfr⟩
    rw [show ((gs.length : Int) - 0).toNat = gs.length by omega] at hkey
    rw [List.take_of_length_le (Nat.le_refl _)] at hkey
    exact h l' σ' ra rs ⟨hl'.2.1, hl'.2.2.1, trivial⟩ hs hra R hn hkey hfr
end
section
variable {w : World} {h₀ : Heap} {A : Around} {L : Addr} {l : Loc} {σ σ₀ τ : St} {env : Env} {lo gl : List Str} {ce : List (Str × Addr)} {Q : V → Loc → St → Prop}
theorem k_madeP {C : Addr} {vs : List V} (F : Loc → Prop) (h : ∀ τ, Sub σ τ → AD w h₀ A (.ref C) vs (fun v σ' => Sub τ σ' ∧ ∃ fs, F fs ∧ Made τ C fs v σ') τ) (q : ∀ fs x dx σ', F fs → Sub σ σ' → σ' L = none → σ' x = some (.inst C dx) → σ' dx = some (.attrs fs) → σ x = none → σ dx = none → Q (.ref x) l σ') : AK w h₀ A L (.ref C) vs Q l σ :=
  k_new (P := fun v σ' => ∃ fs, F fs ∧ Made σ C fs v σ') (fun off => ((h _ (sub_upd off)).mono fun v σ' ⟨k, fs, f, x, dx, e1, e2, e3, e4, e5⟩ => ⟨k, fs, f, x, dx, e1, e2, e3, (none_ne e4).2, (none_ne e5).2⟩).af) (fun v σ' ⟨fs, f, m⟩ hL => ⟨fs, f, m.rm hL⟩) fun v σ' k off ⟨fs, f, x, dx, e1, e2, e3, e4, e5⟩ => by subst e1; exact q fs x dx σ' f k off e2 e3 e4 e5
theorem rmu {σ : St} {d a : Addr} {x y z : AO} (hd : σ d = some y) (h : σ a = some x) (n : x ≠ y) : upd (Mine.rm σ d) d z a = some x := by
  have : a ≠ d := ne_ao h hd n
  rw [upd_ne this]; unfold rm; rw [if_neg this]; exact h
theorem law5 (G : Gnd w h₀) (r : Room A 3) (O : EnvOk env L lawLo lawGl [("pool", L + 1), ("plan", L + 2)]) {Q : Fl → Loc → St → Prop} {ba ra : Addr}
    (hl : locChk l [("begins", .ref ba), ("infos", .ref ra)])
    (h : ∀ l' σ' S, locChk l' [("buffer", .ref S.bu), ("scene", .ref S.sc), ("table", .ref S.tab), ("begins", .ref ba), ("gone", .int 0)] → S.ra = ra → Sub σ σ' → ScAt σ' S → σ' S.bux = some (.attrs (bufFs S 0)) → AXs w h₀ A L env (lawBody.drop 10) Q l' σ') :
    AXs w h₀ A L env (lawBody.drop 5) Q l σ := by
  with_reducible refine AXs.loc (locLe.of hl) ?_
  refine  x_cons ?_
  repeat walk_at "v"
  with_reducible refine e_call (fa := 227) G O (by decide +kernel) (by kernel_rfl) (by kernel_rfl) (by with_unfolding_all rfl) ?_
  repeat walk_at "v"
  refine  k_madeP (fun fs => fs = ([("row", .ref ra), ("is_backward", .bool false), ("last_lig", .int 0), ("last_split", .int 0)] : Loc)) (fun τ k => (ad_mk_Buffer G (r.less (by omega))).mono fun v σ' ⟨k, m⟩ => ⟨k, _, rfl, m⟩) ?_
  rintro _ bu bux σ1 rfl s1 _ hbu hbux _ _
  repeat walk_at "v"
  with_reducible refine e_call (fa := 43) G O (by decide +kernel) (by kernel_rfl) (by kernel_rfl) (by with_unfolding_all rfl) ?_
  repeat walk_at "v"
  with_reducible refine e_glob G O (by decide +kernel) (gl_marks _) ?_
  repeat walk_at "v"
  with_reducible refine ⟨by simp, fun tb htb => ?_⟩
  repeat walk_at "v"
  refine  k_madeP (fun fs => fs = ([("kind", .str "ligature"), ("flag", .int 8), ("mark_set", .int 0), ("tables", .ref tb)] : Loc)) (fun τ k => (ad_mk_Lookup G (r.less (by omega))).mono fun v σ' ⟨k, m⟩ => ⟨k, _, rfl, m⟩) ?_
  rintro _ lk lkx σ2 rfl s2' _ hlk hlkx _ _
  have s2 := (sub_upd (x := .list []) htb).trans s2'
  repeat walk_at "v"
  with_reducible refine e_call (fa := 65) G O (by decide +kernel) (by kernel_rfl) (by kernel_rfl) (by with_unfolding_all rfl) ?_
  repeat walk_at "v"
  with_reducible refine e_call (fa := 341) G O (by decide +kernel) (by kernel_rfl) (by kernel_rfl) (by with_unfolding_all rfl) ?_
  repeat walk_at "v"
  with_reducible refine e_call (fa := 293) G O (by decide +kernel) (by kernel_rfl) (by kernel_rfl) (by with_unfolding_all rfl) ?_
  repeat walk_at "v"
  with_reducible refine e_dict (by with_unfolding_all rfl) (by with_unfolding_all rfl) (by simp) (by decide) fun cdd hcdd hcddL => ?_
  repeat walk_at "v"
  with_reducible refine ⟨_, rfl, _, rfl, _, rfl, _, rfl, by decide, σ2, Sub.refl _, hcdd, ?_⟩
  repeat walk_at "v"
  refine  k_madeP (fun fs => fs = ([("classes", .ref cdd)] : Loc)) (fun τ k => (ad_mk_ClassDef G (r.less (by omega))).mono fun v σ' ⟨k, m⟩ => ⟨k, _, rfl, m⟩) ?_
  rintro _ cd cdx σ3 rfl s3' _ hcd hcdx _ _
  have hcddd := s3'.ap (upd_self ..)
  have s3 := (sub_upd hcdd).trans s3'
  repeat walk_at "v"
  with_reducible refine e_call (fa := 293) G O (by decide +kernel) (by kernel_rfl) (by kernel_rfl) (by with_unfolding_all rfl) ?_
  repeat walk_at "v"
  intro d0 hd0
  repeat walk_at "v"
  refine  k_madeP (fun fs => fs = ([("classes", .ref d0)] : Loc)) (fun τ k => (ad_mk_ClassDef G (r.less (by omega))).mono fun v σ' ⟨k, m⟩ => ⟨k, _, rfl, m⟩) ?_
  rintro _ ad adx σ4 rfl s4' _ had hadx _ _
  have s4 := (sub_upd (x := .idict []) hd0).trans s4'
  repeat walk_at "v"
  with_reducible refine ⟨by simp, fun sets hsets => ?_⟩
  repeat walk_at "v"
  refine  k_madeP (fun fs => ∃ pt ct : Addr, fs = ([("classes", .ref cd), ("attach", .ref ad), ("sets", .ref sets), ("points", .ref pt), ("carets", .ref ct)] : Loc)) (fun τ k => (ad_mk_Gdef G (r.less (by omega))).mono fun v σ' ⟨k, pt, ct, m⟩ => ⟨k, _, ⟨pt, ct, rfl⟩, m⟩) ?_
  rintro _ gd gdx σ5 ⟨pt, ct, rfl⟩ s5' _ hgd hgdx _ _
  have s5 := (sub_upd (x := .list []) hsets).trans s5'
  repeat walk_at "v"
  with_reducible refine ⟨by simp, fun ls hls => ?_⟩
  repeat walk_at "v"
  refine  k_madeP (fun fs => ∃ st : Addr, fs = ([("buffer", .ref bu), ("gdef", .ref gd), ("lookups", .ref ls), ("lookup", .ref lk), ("mask", .int 1), ("depth", .int 0), ("steps", .ref st)] : Loc)) (fun τ k => (ad_mk_Scene G (r.less (by omega))).mono fun v σ' ⟨k, st, m⟩ => ⟨k, _, ⟨st, rfl⟩, m⟩) ?_
  rintro _ sc scx σ6 ⟨st, rfl⟩ s6' _ hsc hscx _ _
  have s6 := (sub_upd (x := .list [V.ref lk]) hls).trans s6'
  repeat walk_at "v"
  with_reducible refine e_call (fa := 379) G O (by decide +kernel) (by kernel_rfl) (by kernel_rfl) (by with_unfolding_all rfl) ?_
  repeat walk_at "v"
  with_reducible refine e_dict (by with_unfolding_all rfl) (by with_unfolding_all rfl) (by simp) (by decide) fun td htd htdL => ?_
  repeat walk_at "v"
  with_reducible refine ⟨by simp, fun t22 ht22 => ?_⟩
  repeat walk_at "v"
  with_reducible refine ⟨by simp, fun p7 hp7 => ?_⟩
  repeat walk_at "v"
  with_reducible refine ⟨by simp, fun t2 ht2 => ?_⟩
  repeat walk_at "v"
  with_reducible refine ⟨by simp, fun p6 hp6 => ?_⟩
  repeat walk_at "v"
  with_reducible refine ⟨by simp, fun lst hlst => ?_⟩
  repeat walk_at "v"
  have f22 : upd (upd (upd (upd (upd (upd σ6 td (.idict [])) t22 (.tup [.int 2, .int 2])) p7 (.tup [.ref t22, .int 7])) t2 (.tup [.int 2])) p6 (.tup [.ref t2, .int 6])) lst (.list [.ref p7, .ref p6]) t22 = some (.tup [.int 2, .int 2]) := upd_old hlst (upd_old hp6 (upd_old ht2 (upd_old hp7 (upd_self ..))))
  have f7 : upd (upd (upd (upd (upd (upd σ6 td (.idict [])) t22 (.tup [.int 2, .int 2])) p7 (.tup [.ref t22, .int 7])) t2 (.tup [.int 2])) p6 (.tup [.ref t2, .int 6])) lst (.list [.ref p7, .ref p6]) p7 = some (.tup [.ref t22, .int 7]) := upd_old hlst (upd_old hp6 (upd_old ht2 (upd_self ..)))
  have f2 : upd (upd (upd (upd (upd (upd σ6 td (.idict [])) t22 (.tup [.int 2, .int 2])) p7 (.tup [.ref t22, .int 7])) t2 (.tup [.int 2])) p6 (.tup [.ref t2, .int 6])) lst (.list [.ref p7, .ref p6]) t2 = some (.tup [.int 2]) := upd_old hlst (upd_old hp6 (upd_self ..))
  have f6 : upd (upd (upd (upd (upd (upd σ6 td (.idict [])) t22 (.tup [.int 2, .int 2])) p7 (.tup [.ref t22, .int 7])) t2 (.tup [.int 2])) p6 (.tup [.ref t2, .int 6])) lst (.list [.ref p7, .ref p6]) p6 = some (.tup [.ref t2, .int 6]) := upd_old hlst (upd_self ..)
  have fl : upd (upd (upd (upd (upd (upd σ6 td (.idict [])) t22 (.tup [.int 2, .int 2])) p7 (.tup [.ref t22, .int 7])) t2 (.tup [.int 2])) p6 (.tup [.ref t2, .int 6])) lst (.list [.ref p7, .ref p6]) lst = some (.list [.ref p7, .ref p6]) := upd_self ..
  have fd : upd (upd (upd (upd (upd (upd σ6 td (.idict [])) t22 (.tup [.int 2, .int 2])) p7 (.tup [.ref t22, .int 7])) t2 (.tup [.int 2])) p6 (.tup [.ref t2, .int 6])) lst (.list [.ref p7, .ref p6]) td = some (.idict []) := upd_old hlst (upd_old hp6 (upd_old ht2 (upd_old hp7 (upd_old ht22 (upd_self ..)))))
  have s7 : Sub (upd σ6 td (.idict [])) (upd (upd (upd (upd (upd (upd σ6 td (.idict [])) t22 (.tup [.int 2, .int 2])) p7 (.tup [.ref t22, .int 7])) t2 (.tup [.int 2])) p6 (.tup [.ref t2, .int 6])) lst (.list [.ref p7, .ref p6])) := ((((sub_upd ht22).trans (sub_upd hp7)).trans (sub_upd ht2)).trans (sub_upd hp6)).trans (sub_upd hlst)
  generalize upd (upd (upd (upd (upd (upd σ6 td (.idict [])) t22 (.tup [.int 2, .int 2])) p7 (.tup [.ref t22, .int 7])) t2 (.tup [.int 2])) p6 (.tup [.ref t2, .int 6])) lst (.list [.ref p7, .ref p6]) = σ7 at *
  with_reducible refine ⟨_, rfl, by simp, rm σ7 td, sub_rmx fd, rm_self _ _, ?_⟩
  have s8 : Sub σ6 (upd (rm σ7 td) td (.idict [(1, .ref lst)])) := fun a x e => by
    have hne := ne_of_none htd e
    rw [upd_ne hne]
    unfold rm
    rw [if_neg hne]
    exact s7 _ _ (upd_old htd e)
  have g22 := rmu (z := .idict [(1, .ref lst)]) fd f22 (by simp)
  have g7 := rmu (z := .idict [(1, .ref lst)]) fd f7 (by simp)
  have g2 := rmu (z := .idict [(1, .ref lst)]) fd f2 (by simp)
  have g6 := rmu (z := .idict [(1, .ref lst)]) fd f6 (by simp)
  have gl' := rmu (z := .idict [(1, .ref lst)]) fd fl (by simp)
  have gd' : upd (rm σ7 td) td (.idict [(1, .ref lst)]) td = some (.idict [(1, .ref lst)]) := upd_self ..
  generalize upd (rm σ7 td) td (.idict [(1, .ref lst)]) = σ8 at *
  repeat walk_at "v"
  refine  k_madeP (fun fs => fs = ([("sets", .ref td)] : Loc)) (fun τ k => (ad_mk_Ligature G (r.less (by omega))).mono fun v σ' ⟨k, m⟩ => ⟨k, _, rfl, m⟩) ?_
  rintro _ tab tabx σ9 rfl s9 _ htab htabx _ _
  refine  x_cons (x_assign O (by decide +kernel) (e_int ?_) (by with_unfolding_all rfl))
  have t12 := s2.trans s3
  have t4 := (s4.trans s5).trans ((s6.trans s8).trans s9)
  have t3 := s3.trans t4
  refine  h _ σ9 ⟨sc, scx, bu, bux, gd, gdx, ls, lk, lkx, cd, cdx, cdd, ad, st, sets, pt, ct, ra, tb, tab, tabx, td, t22, t2, p7, p6, lst⟩ ?_ rfl ((s1.trans s2).trans t3) ?_ ((s2.trans t3).ap hbux)
  · exact ⟨rfl, rfl, rfl, rfl, rfl, trivial⟩
  have t5 := (s5.trans (s6.trans s8)).trans s9
  have t6 := (s6.trans s8).trans s9
  have t8 := s8.trans s9
  exact ⟨t8.ap hsc, t8.ap hscx, t6.ap hgd, t6.ap hgdx, t3.ap hlk, t3.ap hlkx, t4.ap hcd, t4.ap hcdx, htab, htabx, (s2.trans t3).ap hbu, t4.ap hcddd, s9.ap gd', s9.ap gl', s9.ap g7, s9.ap g6, s9.ap g22, s9.ap g2⟩
end
theorem don_ok (n : Int) (hn : 0 ≤ n) (l : Lig) : ∀ c ∈ don n l, 0 ≤ c.2.2.1 ∧ (c.2.2.1 > 0 → c.2.1 ≠ 0) := by
  have rep : ∀ (m : Nat) (d c : CI), c ∈ List.replicate m d → c = d := fun m d c h => List.eq_of_mem_replicate h
  have gp : ∀ (g : Bool) (c : CI), c ∈ gapC g → c = fr 5 := fun g c h => by
    cases g with
    | true => exact List.mem_singleton.mp h
    | false => cases h
  have f0 : ∀ g : Int, 0 ≤ (fr g).2.2.1 ∧ ((fr g).2.2.1 > 0 → (fr g).2.1 ≠ 0) := fun g => ⟨Int.le_refl _, fun h => absurd (show (0 : Int) > 0 from h) (by decide)⟩
  cases l with
  | two m0 m1 g =>
    intro c h
    rcases List.mem_cons.mp h with rfl | h
    · exact ⟨Int.le_refl _, fun h => absurd (show (0 : Int) > 0 from h) (by decide)⟩
    rcases List.mem_append.mp h with h | h
    · rw [rep _ _ _ h]; exact ⟨by simp, fun _ => by simp only [ne_eq]; omega⟩
    rcases List.mem_append.mp h with h | h
    · rw [rep _ _ _ h]; exact f0 9
    · rw [gp _ _ h]; exact f0 5
  | three m0 m1 m2 g =>
    intro c h
    rcases List.mem_cons.mp h with rfl | h
    · exact ⟨Int.le_refl _, fun h => absurd (show (0 : Int) > 0 from h) (by decide)⟩
    rcases List.mem_append.mp h with h | h
    · rw [rep _ _ _ h]; exact ⟨by simp, fun _ => by simp only [ne_eq]; omega⟩
    rcases List.mem_append.mp h with h | h
    · rw [rep _ _ _ h]; exact ⟨by simp, fun _ => by simp only [ne_eq]; omega⟩
    rcases List.mem_append.mp h with h | h
    · rw [rep _ _ _ h]; exact f0 9
    · rw [gp _ _ h]; exact f0 5
theorem donAll_ok : ∀ (n : Int) (_ : 0 ≤ n) (ligs : List Lig), ∀ c ∈ donAll n ligs, 0 ≤ c.2.2.1 ∧ (c.2.2.1 > 0 → c.2.1 ≠ 0)
  | _, _, [], _, h => by cases h
  | n, hn, l :: r, c, h => by
    rw [donAll] at h
    rcases List.mem_append.mp h with h | h
    · exact don_ok n hn l c h
    · exact donAll_ok (n + 1) (by omega) r c h
theorem don_pos (n : Int) (l : Lig) : 0 < (don n l).length := by cases l <;> simp [don]
theorem ScAt.of {σ τ : St} {S : Sc} (I : ScAt σ S) (k : ∀ a x, (∀ v, x ≠ .cell v) → σ a = some x → τ a = some x) : ScAt τ S :=
  ⟨k _ _ (by simp) I.h_sc, k _ _ (by simp) I.h_scx, k _ _ (by simp) I.h_gd, k _ _ (by simp) I.h_gdx, k _ _ (by simp) I.h_lk, k _ _ (by simp) I.h_lkx, k _ _ (by simp) I.h_cd, k _ _ (by simp) I.h_cdx, k _ _ (by simp) I.h_tab, k _ _ (by simp) I.h_tabx, k _ _ (by simp) I.h_bu, k _ _ (by simp) I.h_cdd, k _ _ (by simp) I.h_tabd, k _ _ (by simp) I.h_lst, k _ _ (by simp) I.h_p7, k _ _ (by simp) I.h_p6, k _ _ (by simp) I.h_t22, k _ _ (by simp) I.h_t2⟩
theorem RowAt.of {σ τ : St} {ra : Addr} {rs : List Rec} (R : RowAt σ ra rs) (k : ∀ a x, (∀ v, x ≠ .cell v) → σ a = some x → τ a = some x) : RowAt τ ra rs :=
  ⟨k _ _ (by simp) R.lst, fun e he => ⟨k _ _ (by simp) (R.obj e he).1, k _ _ (by simp) (R.obj e he).2⟩⟩
section
variable {w : World} {h₀ : Heap} {A : Around} {L : Addr} {l : Loc} {σ σ₀ τ : St} {env : Env} {lo gl : List Str} {ce : List (Str × Addr)}
theorem law3 (G : Gnd w h₀) (r : Room A 8) (O : EnvOk env L lawLo lawGl [("pool", L + 1), ("plan", L + 2)]) (hkp : env.kindOf "plan" = some .cell) {Q : Fl → Loc → St → Prop} (hQ : ∀ l σ, Q (.ret (.bool true)) l σ) {pa pl ga ba : Addr} {ns gs : List Int} {bs : List Nat} {PL : List (Option PRec)} {ligs : List Lig}
    (cp : σ (L + 1) = some (.cell (.ref pa))) (cd : σ (L + 2) = some (.cell (.ref pl))) (hpa : σ pa = some (.list (ns.map V.int))) (hns : ns.length ≤ 200) (hpl : PlanO σ pl PL) (hPz : PL.length ≤ 200) (hap : ∀ e, some e ∈ PL → e.1 ≠ pa) (hg : σ ga = some (.list (gs.map V.int))) (hgs : gs.map fr = rawAll ligs) (hgz : gs.length ≤ 200)
    (hba : σ ba = some (.list (bs.map nv))) (hbl : bs.length = ligs.length) (hb : ∀ j, j < bs.length → bs.getD j 0 = (rawAll (ligs.take j)).length) (hbz : bs.length ≤ 100) (hcon : (PL.filterMap id).map (fun e => e.2) = (donAll 0 ligs).map fun c => c.2) (hne : ligs ≠ []) (hl : locChk l [("glyphs", .ref ga), ("begins", .ref ba)]) :
    AXs w h₀ A L env (lawBody.drop 3) Q l σ := by
  refine  law4 G (r.less (by omega)) O hg (by omega) hl ?_
  intro l1 σ1 ra rs hl1 s1 hra0 R1 hn1 hkey hfr
  refine  law5 G (r.less (by omega)) O (ba := ba) (ra := ra) ⟨hl1.1, hl1.2.1, trivial⟩ ?_
  rintro l2 σ2 S hl2 rfl s2 I2 hbx2
  have s12 := s1.trans s2
  have R2 := R1.sub s2
  have hlen : rs.length = gs.length := by simpa using congrArg List.length hkey
  have hbr : ba ≠ S.ra := by rintro h; rw [h, hra0] at hba; cases hba
  refine  law10 G r O I2 hbx2 R2 hn1 (by omega) (hkey.trans hgs) (s12.ap hba) hbl hb hbz hbr hl2 ?_
  intro l3 σ3 rs3 hl3 k3 I3 hbx3 R3 hkey3
  have old : ∀ {a : Addr} {x : AO}, σ a = some x → (∀ fs, x ≠ .attrs fs) → σ3 a = some x := fun {a x} e n => by
    refine  k3 a x ?_ (s12 _ _ e)
    rintro (h | h | h)
    · rw [hfr a h] at e; cases e
    · have := s12 _ _ e
      rw [h, hbx2] at this
      cases this
      exact n _ rfl
    · rw [h, hra0] at e; cases e
  have cd3 := old cd (by simp)
  have hpl3 : PlanO σ3 pl PL := ⟨old hpl.lst (by simp), fun e he => old (hpl.obj e he) (by simp)⟩
  refine  law11 G (r.less (by omega)) O hkp cd3 hpl3 hPz ?_
  intro D τ cdD hkeep hD hPlan
  have kc : ∀ a x, (∀ v, x ≠ .cell v) → σ3 a = some x → τ a = some x := fun a x n e => hkeep a x (ne_ao e cd3 (n _)) e
  have hlen3 : (donAll 0 ligs).length = rs3.length := by simpa using (congrArg List.length hkey3).symm
  have hlenP : (PL.filterMap id).length = rs3.length := by
    have := congrArg List.length hcon
    rw [List.length_map, List.length_map] at this
    omega
  have hrs3 : rs3.length ≤ 200 := by
    rw [← hlenP]
    exact Nat.le_trans (List.length_filterMap_le _ _) hPz
  refine  law12 (S := S) (k := ligs.length) (pa := pa) (D := D) (ns := ns) (rows := PL.filterMap id) (rs := rs3) G (r.less (by omega)) O hQ ⟨?_, cdD, kc _ _ (by simp) (old hpa (by simp)), hPlan, I3.of kc, kc _ _ (by simp) hbx3, R3.of kc, ?_, ?_, ?_, hrs3, hns, ?_, ?_, ?_⟩ hl3
  · exact hkeep _ _ (Nat.ne_of_lt (Nat.lt_succ_self (L + 1))) (old cp (by simp))
  · rw [hcon, ← hkey3, List.map_map]
    rfl
  · intro e he
    have hm : key e ∈ donAll 0 ligs := hkey3 ▸ List.mem_map.mpr ⟨e, he, rfl⟩
    exact donAll_ok 0 (by decide) ligs _ hm
  · rw [← hlen3]
    cases ligs with
    | nil => exact absurd rfl hne
    | cons l r =>
      rw [donAll, List.length_append]
      have := don_pos 0 l
      omega
  · rintro h
    rw [h, hra0] at hpa
    cases hpa
  · rintro h
    have := old hpa (by simp)
    rw [h, hD] at this
    cases this
  · intro e he
    obtain ⟨o, ho, e'⟩ := List.mem_filterMap.mp he
    have ho' : o = some e := by simpa using e'
    subst ho'
    exact hap e ho
end
section
variable {w : World} {h₀ : Heap} {A : Around} {L : Addr} {l : Loc} {σ σ₀ τ : St} {env : Env} {lo gl : List Str} {ce : List (Str × Addr)} {Q : V → Loc → St → Prop}
theorem s_slice_base {o i : Expr} {a b : Addr} {cs : List Value} {ns : List Int} {n : Nat} (ha : h₀.IsList a cs.toArray) (hi : IntsAre cs ns) (hb : σ b = some (.slice .none (.int n))) (hz : ns.length ≤ 1000)
    (q : ∀ c, σ c = none → Q (.ref c) l (upd σ c (.list ((ns.take n).map V.int))))
    (hs : subscripted i false (.ref a) (.ref b) = operate [.ref b, .ref a] (getItem (.ref a) (.ref b)) := by with_unfolding_all rfl) :
    AB w h₀ A L (subscriptTail o i) (.ref a) (.ref b) Q l σ := fun t u E s H => by
  obtain ⟨oa, hoa, r⟩ := ha
  have hl : s.heap.IsList a cs.toArray := ⟨oa, H.mod.base _ _ hoa, r⟩
  obtain ⟨_, os, hos, t1, t2, rfl⟩ := H.mod.obj _ _ hb
  have hlen : cs.length = ns.length := hi.length
  refine  tail_any hl.typeIs list_getitem_lookup (wpAny_getItem_list_slice hl ⟨_, hos, rfl, rfl⟩ .none (.int n t2) .none (by simp) ?_ (by rw [List.size_toArray, hlen]; exact len_small hz)) hs
  refine  ⟨_, _, _, _, rfl, H.push (x := .list ((ns.take n).map V.int)) ⟨_, _, rfl, ?_⟩ rfl, .ref s.heap.objs.size, 0, rfl, q _ H.mod.fresh⟩
  rw [slicePick_upto']
  simpa using ints_vl (hi.take n)
theorem boot_abs : bootBuiltins "abs" = some (.builtin "abs") := by decide +kernel
theorem law0 (G : Gnd w h₀) (r : Room A 3) (O : EnvOk env L lawLo lawGl [("pool", L + 1), ("plan", L + 2)]) (hk : env.kindOf "pool" = some .cell) {Q : Fl → Loc → St → Prop} {sa : Addr} {cs : List Value} {ns : List Int} (ha : h₀.IsList sa cs.toArray) (hi : IntsAre cs ns) (hz : ns.length ≤ 100)
    (hc : σ (L + 1) = some .cell0) (hl : locChk l [("script", .ref sa)])
    (h : ∀ (σ' : St) (pa : Addr) (ms : List Int), (∀ a x, a ≠ L + 1 → σ a = some x → σ' a = some x) → σ' (L + 1) = some (.cell (.ref pa)) → σ' pa = some (.list (ms.map V.int)) → ms.length ≤ 100 → AXs w h₀ A L env (lawBody.drop 1) Q [] σ') :
    AXs w h₀ A L env (lawBody.drop 0) Q l σ := by
  have mp : (("pool" : Str), L + 1) ∈ [(("pool" : Str), L + 1), (("plan" : Str), L + 2)] := .head _
  with_reducible refine AXs.loc (locLe.of hl) ?_
  refine  x_cons ?_
  with_reducible refine x_cell O mp hk ?_ (swaps_cell hk)
  with_reducible refine e_comp (closureFor_none (by decide)) (by with_unfolding_all rfl) (by decide +kernel) ?_ (by intro _; with_unfolding_all rfl)
  repeat walk_at "v"
  intro c hcn
  with_reducible refine s_slice_base (n := 24) ha hi (upd_self ..) (by omega) (fun d hd => ?_) (by with_unfolding_all rfl)
  have sub1 : Sub σ (upd (upd σ c (.slice .none (.int (24 : Nat)))) d (.list ((ns.take 24).map V.int))) := (sub_upd hcn).trans (sub_upd hd)
  have hln : ((ns.take 24).map V.int).length ≤ 24 := by simp; omega
  refine  co_loop (lo' := ["number"]) (gl' := ["abs"]) (by decide) rfl (fun C => comp_env O _ _ (by kernel_rfl)) (by decide +kernel) (fun i acc σ' => ∃ ms : List Int, acc = ms.map V.int ∧ ms.length = i ∧ Sub (upd (upd σ c (.slice .none (.int (24 : Nat)))) d (.list ((ns.take 24).map V.int))) σ') (Starts.list r.hh (.int 0) (upd_self ..)) (fun _ _ h k => k.ap h) (by omega) ⟨[], rfl, rfl, Sub.refl _⟩
    (fun i acc σ' ⟨_, _, _, k⟩ => k.ap (upd_self ..)) ?_ ?_
  · rintro env' C D J i acc σ' OC hi2 ⟨ms, rfl, hms, hs⟩ PF
    have hi3 : i < (ns.take 24).length := by simpa using hi2
    rw [getD_map (d' := 0) hi3]
    with_reducible refine ts_nil ⟨fun _ => ?_, fun hc => (nomatch hc)⟩
    repeat walk_at "v"
    with_reducible refine e_callB G OC (by decide +kernel) (by kernel_rfl) boot_abs (by with_unfolding_all rfl) ?_
    repeat walk_at "v"
    with_reducible refine c_abs ?_
    repeat walk_at "v"
    with_reducible refine b_pow (by decide) (by decide +kernel) ?_
    with_reducible refine b_mod (by decide +kernel) ?_
    generalize (if (List.take 24 ns).getD i 0 < 0 then -(List.take 24 ns).getD i 0 else (List.take 24 ns).getD i 0).fmod (10 ^ (80 : Int).toNat) = z
    refine  ⟨σ', Sub.refl _, PF, ms ++ [z], by simp, by simp [hms], hs⟩
  · rintro D acc σ' ⟨ms, rfl, hms, hs⟩ hD hL'
    have hs2 := (sub1.trans hs).trans (sub_upd (x := .list (ms.map V.int)) hD)
    refine  ⟨_, hs2.ap hc, .inl rfl, AXs.loc (l := []) (fun _ _ e => by cases e) (h _ D ms (fun a x n e => by rw [upd_ne n]; exact hs2.ap e) (upd_self ..) ?_ (by omega))⟩
    have hne : D ≠ L + 1 := by rintro rfl; have := (sub1.trans hs).ap hc; rw [hD] at this; cases this
    rw [upd_ne hne, upd_self]
end
section
variable {w : World} {h₀ : Heap} {A : Around} {L : Addr} {l : Loc} {σ σ₀ τ : St} {env : Env} {lo gl : List Str} {ce : List (Str × Addr)} {Q : V → Loc → St → Prop}
/-- the four lists that are built -/
structure Adr where
  (pa pl ga ba : Addr)
structure BuildAt (σ : St) (L : Addr) (D : Adr) (ns gs : List Int) (PL : List (Option PRec)) (bs : List Nat) (xs : List (Addr × Obj)) : Prop where
  cp : σ (L + 1) = some (.cell (.ref D.pa))
  cd : σ (L + 2) = some (.cell (.ref D.pl))
  pool : σ D.pa = some (.list (ns.map V.int))
  plan : PlanO σ D.pl PL
  gly : σ D.ga = some (.list (gs.map V.int))
  beg : σ D.ba = some (.list (bs.map nv))
  raws : ∀ p ∈ xs, σ p.1 = some (.raw p.2)
  few : ns.length ≤ 200
  d1 : D.pa ≠ D.pl
  d2 : D.pa ≠ D.ga
  d3 : D.pa ≠ D.ba
  d4 : D.pl ≠ D.ga
  d5 : D.pl ≠ D.ba
  d6 : D.ga ≠ D.ba
  rows : ∀ e, some e ∈ PL → e.1 ≠ D.pa ∧ e.1 ≠ D.pl ∧ e.1 ≠ D.ga ∧ e.1 ≠ D.ba
section
variable {D : Adr} {ns gs : List Int} {PL : List (Option PRec)} {bs : List Nat} {xs : List (Addr × Obj)}
theorem BuildAt.sub (B : BuildAt σ L D ns gs PL bs xs) (s : Sub σ τ) : BuildAt τ L D ns gs PL bs xs :=
  ⟨s _ _ B.cp, s _ _ B.cd, s _ _ B.pool, B.plan.sub s, s _ _ B.gly, s _ _ B.beg, fun p hp => s _ _ (B.raws p hp), B.few, B.d1, B.d2, B.d3, B.d4, B.d5, B.d6, B.rows⟩
/-- what is kept but for one list -/
theorem BuildAt.put (B : BuildAt σ L D ns gs PL bs xs) {d : Addr} {vs : List V} (hd : σ d = some (.list vs)) (k : Keep (fun a => a = d) σ τ) {ns' gs' : List Int} {PL' : List (Option PRec)} {bs' : List Nat}
    (h1 : D.pa = d → τ d = some (.list (ns'.map V.int))) (h1' : D.pa ≠ d → ns' = ns) (h2 : D.pl = d → τ d = some (.list (PL'.map pv))) (h2' : D.pl ≠ d → PL' = PL) (h3 : D.ga = d → τ d = some (.list (gs'.map V.int))) (h3' : D.ga ≠ d → gs' = gs)
    (h4 : D.ba = d → τ d = some (.list (bs'.map nv))) (h4' : D.ba ≠ d → bs' = bs) (hf : ns'.length ≤ 200) (hr : ∀ e, some e ∈ PL → e.1 ≠ d) (hPL : ∀ e, some e ∈ PL' → some e ∈ PL ∨ (τ e.1 = some (.list [.int e.2.1, .int e.2.2.1, .int e.2.2.2]) ∧ e.1 ≠ D.pa ∧ e.1 ≠ D.pl ∧ e.1 ≠ D.ga ∧ e.1 ≠ D.ba)) : BuildAt τ L D ns' gs' PL' bs' xs := by
  have ne : ∀ {a : Addr} {y : AO}, σ a = some y → (∀ vs, y ≠ .list vs) → ¬ a = d := fun {a y} e n h => by subst h; rw [hd] at e; cases e; exact n _ rfl
  have at_ : ∀ {a : Addr} {y : AO}, (a = d → τ d = some y) → (a ≠ d → σ a = some y) → τ a = some y := fun {a y} p q => by
    by_cases c : a = d
    · rw [c]; exact p c
    · exact k _ _ c (q c)
  refine  ⟨k _ _ (ne B.cp (by simp)) B.cp, k _ _ (ne B.cd (by simp)) B.cd, at_ h1 fun c => by rw [h1' c]; exact B.pool, ⟨at_ h2 fun c => by rw [h2' c]; exact B.plan.lst, fun e he => ?_⟩, at_ h3 fun c => by rw [h3' c]; exact B.gly, at_ h4 fun c => by rw [h4' c]; exact B.beg, fun p hp => k _ _ (ne (B.raws p hp) (by simp)) (B.raws p hp), hf, B.d1, B.d2, B.d3, B.d4, B.d5, B.d6, fun e he => ?_⟩
  · rcases hPL e he with h | h
    · exact k _ _ (hr e h) (B.plan.obj e h)
    · exact h.1
  · rcases hPL e he with h | h
    · exact B.rows e h
    · exact h.2
theorem BuildAt.take (B : BuildAt σ L D ns gs PL bs xs) (k : Keep (fun a => a = D.pa) σ τ) {ns' : List Int} (h : τ D.pa = some (.list (ns'.map V.int))) (hf : ns'.length ≤ ns.length) : BuildAt τ L D ns' gs PL bs xs :=
  B.put B.pool k (fun _ => h) (fun c => absurd rfl c) (fun c => absurd c.symm B.d1) (fun _ => rfl) (fun c => absurd c.symm B.d2) (fun _ => rfl) (fun c => absurd c.symm B.d3) (fun _ => rfl) (Nat.le_trans hf B.few) (fun e he => (B.rows e he).1) fun e he => .inl he
theorem BuildAt.glyph (B : BuildAt σ L D ns gs PL bs xs) (g : Int) : BuildAt (upd σ D.ga (.list (gs.map V.int ++ [.int g]))) L D ns (gs ++ [g]) PL bs xs :=
  B.put B.gly keep_one (fun c => absurd c B.d2) (fun _ => rfl) (fun c => absurd c B.d4) (fun _ => rfl) (fun _ => by rw [upd_self]; simp) (fun c => absurd rfl c) (fun c => absurd c.symm B.d6) (fun _ => rfl) B.few (fun e he => (B.rows e he).2.2.1) fun e he => .inl he
theorem BuildAt.begin (B : BuildAt σ L D ns gs PL bs xs) (b : Nat) : BuildAt (upd σ D.ba (.list (bs.map nv ++ [nv b]))) L D ns gs PL (bs ++ [b]) xs :=
  B.put B.beg keep_one (fun c => absurd c B.d3) (fun _ => rfl) (fun c => absurd c B.d5) (fun _ => rfl) (fun c => absurd c B.d6) (fun _ => rfl) (fun _ => by rw [upd_self]; simp) (fun c => absurd rfl c) B.few (fun e he => (B.rows e he).2.2.2) fun e he => .inl he
theorem BuildAt.noPlan (B : BuildAt σ L D ns gs PL bs xs) : BuildAt (upd σ D.pl (.list (PL.map pv ++ [.none]))) L D ns gs (PL ++ [none]) bs xs :=
  B.put B.plan.lst keep_one (fun c => absurd c B.d1) (fun _ => rfl) (fun _ => by rw [upd_self]; simp [pv]) (fun c => absurd rfl c) (fun c => absurd c.symm B.d4) (fun _ => rfl) (fun c => absurd c.symm B.d5) (fun _ => rfl) B.few (fun e he => (B.rows e he).2.1) fun e he => by
    rcases List.mem_append.mp he with he | he
    · exact .inl he
    · simp at he
/-- a row of the plan is made and hung on -/
theorem BuildAt.onPlan (B : BuildAt σ L D ns gs PL bs xs) {a : Addr} (ha : σ a = none) (t : Int × Int × Int) : BuildAt (upd (upd σ a (.list [.int t.1, .int t.2.1, .int t.2.2])) D.pl (.list (PL.map pv ++ [.ref a]))) L D ns gs (PL ++ [some (a, t)]) bs xs := by
  have n1 : a ≠ D.pl := by rintro rfl; have := B.plan.lst; rw [ha] at this; cases this
  have n2 : a ≠ D.pa := by rintro rfl; have := B.pool; rw [ha] at this; cases this
  have n3 : a ≠ D.ga := by rintro rfl; have := B.gly; rw [ha] at this; cases this
  have n4 : a ≠ D.ba := by rintro rfl; have := B.beg; rw [ha] at this; cases this
  have B' := B.sub (sub_upd (x := .list [.int t.1, .int t.2.1, .int t.2.2]) ha)
  refine  B'.put B'.plan.lst keep_one (fun c => absurd c B.d1) (fun _ => rfl) (fun _ => by rw [upd_self]; simp [pv]) (fun c => absurd rfl c) (fun c => absurd c.symm B.d4) (fun _ => rfl) (fun c => absurd c.symm B.d5) (fun _ => rfl) B.few (fun e he => (B.rows e he).2.1) fun e he => ?_
  rcases List.mem_append.mp he with he | he
  · exact .inl he
  · have : e = (a, t) := by simpa using he
    subst this
    refine  .inr ⟨?_, n2, n1, n3, n4⟩
    rw [upd_ne n1, upd_self]
theorem BuildAt.off (B : BuildAt σ L D ns gs PL bs xs) {J : Addr} {o : Obj} (hJ : σ J = some (.raw o)) (hx : ∀ p ∈ xs, p.1 ≠ J) : BuildAt (rm σ J) L D ns gs PL bs xs := by
  have ne : ∀ {a : Addr} {y : AO}, σ a = some y → (∀ o, y ≠ .raw o) → rm σ J a = some y := fun {a y} e n => by
    have : a ≠ J := ne_ao e hJ (n _)
    unfold rm; rw [if_neg this]; exact e
  exact ⟨ne B.cp (by simp), ne B.cd (by simp), ne B.pool (by simp), ⟨ne B.plan.lst (by simp), fun e he => ne (B.plan.obj e he) (by simp)⟩, ne B.gly (by simp), ne B.beg (by simp), fun p hp => by
    unfold rm; rw [if_neg (hx p hp)]; exact B.raws p hp, B.few, B.d1, B.d2, B.d3, B.d4, B.d5, B.d6, B.rows⟩
end
/-- a call of _law_take(pool, m) -/
theorem e_take (G : Gnd w h₀) (r : Room A 2) (O : EnvOk env L lawLo lawGl [("pool", L + 1), ("plan", L + 2)]) {D : Adr} {ns gs : List Int} {PL : List (Option PRec)} {bs : List Nat} {xs : List (Addr × Obj)} (B : BuildAt σ L D ns gs PL bs xs) {m : Int} {k : Nat} {p1 p2 p3 p4 : Pos} (hm : 0 < m) (hm2 : m < 1000)
    (q : ∀ d ns' σ', 0 ≤ d → d < m → BuildAt σ' L D ns' gs PL bs xs → Q (.int d) l σ') : AE w h₀ A L env (.Call (.Name "_law_take" p1) [.Name "pool" p2, .Constant (.int m) k p3] [] p4) Q l σ := by
  have mp : (("pool" : Str), L + 1) ∈ [(("pool" : Str), L + 1), (("plan" : Str), L + 2)] := .head _
  with_reducible refine e_call (fa := 435) G O (by decide +kernel) (by kernel_rfl) (by kernel_rfl) (by with_unfolding_all rfl) ?_
  repeat walk_at "v"
  with_reducible refine e_cell O mp B.cp ?_ (by decide +kernel) (by decide +kernel)
  repeat walk_at "v"
  refine  k_keep (S := fun b => b = D.pa) (P := fun v σ' => ∃ (d : Int) (ns'' : List Int), v = .int d ∧ 0 ≤ d ∧ d < m ∧ ns''.length ≤ ns.length ∧ σ' D.pa = some (.list (ns''.map V.int))) (fun b hb => by subst hb; rw [B.pool]; simp) (fun off => (ad_take G (r.less (by omega)) ((sub_upd off).ap B.pool) (by have := B.few; omega) hm hm2).af) ?_ ?_
  · rintro v τ ⟨d, ns'', e1, e2, e3, e4, e5⟩ hτ
    exact ⟨d, ns'', e1, e2, e3, e4, rm_get hτ e5 (by intro _ h; cases h)⟩
  rintro v σ2 k2 hσ2C ⟨d, ns'', rfl, hd0, hd12, hn2, hp2⟩
  exact q d ns'' σ2 hd0 hd12 (B.take k2 hp2 hn2)
end
noncomputable abbrev T3 := Int × Int × Int
noncomputable def partG : Nat → List Nat → List CI
  | _, [] => []
  | p, m :: r => fr (if p = 0 then 1 else 2) :: (List.replicate m (fr 9) ++ partG (p + 1) r)
noncomputable def markT (n parts : Int) (p : Nat) : T3 := if (p : Int) + 1 < parts then (n + 1, (p : Int) + 1, 0) else (0, 0, 0)
noncomputable def partP (n parts : Int) : Nat → List Nat → List (Option T3)
  | _, [] => []
  | p, m :: r => (if p = 0 then some (n + 1, 0, parts) else none) :: (List.replicate m (some (markT n parts p)) ++ partP n parts (p + 1) r)
theorem partG_snoc : ∀ (p : Nat) (ms : List Nat) (m : Nat), partG p (ms ++ [m]) = partG p ms ++ (fr (if p + ms.length = 0 then 1 else 2) :: List.replicate m (fr 9))
  | p, [], m => by simp [partG]
  | p, a :: r, m => by
    rw [List.cons_append, partG, partG, partG_snoc (p + 1) r m, List.length_cons, show p + 1 + r.length = p + (r.length + 1) by omega]
    simp
theorem partP_snoc (n parts : Int) : ∀ (p : Nat) (ms : List Nat) (m : Nat), partP n parts p (ms ++ [m]) = partP n parts p ms ++ ((if p + ms.length = 0 then some (n + 1, 0, parts) else none) :: List.replicate m (some (markT n parts (p + ms.length))))
  | p, [], m => by simp [partP]
  | p, a :: r, m => by
    rw [List.cons_append, partP, partP, partP_snoc n parts (p + 1) r m, List.length_cons, show p + 1 + r.length = p + (r.length + 1) by omega]
    simp
noncomputable def gapP (g : Bool) : List (Option T3) := if g then [some (0, 0, 0)] else []
noncomputable def planL (n : Int) : Lig → List (Option T3)
  | .two m0 m1 g => partP n 2 0 [m0, m1] ++ gapP g
  | .three m0 m1 m2 g => partP n 3 0 [m0, m1, m2] ++ gapP g
noncomputable def planAll : Int → List Lig → List (Option T3)
  | _, [] => []
  | n, l :: r => planL n l ++ planAll (n + 1) r
theorem planAll_app : ∀ (n : Int) (A B : List Lig), planAll n (A ++ B) = planAll n A ++ planAll (n + A.length) B
  | n, [], B => by simp [planAll]
  | n, l :: A, B => by
    rw [List.cons_append, planAll, planAll, planAll_app (n + 1) A B, List.append_assoc, List.length_cons]
    congr 3
    push_cast
    omega
theorem fm_rep (m : Nat) (x : T3) : (List.replicate m (some x)).filterMap id = List.replicate m x := by
  induction m with
  | zero => rfl
  | succ m ih => rw [List.replicate_succ, List.replicate_succ, List.filterMap_cons]; simp [ih]
theorem gap_fm (g : Bool) : (gapP g).filterMap id = (gapC g).map fun c => c.2 := by cases g <;> rfl
theorem planL_fm (n : Int) (l : Lig) : (planL n l).filterMap id = (don n l).map fun c => c.2 := by
  cases l with
  | two m0 m1 g =>
    unfold planL don
    simp only [partP, List.filterMap_append, List.filterMap_cons, fm_rep, gap_fm, List.map_cons, List.map_append, List.map_replicate, markT]
    simp
  | three m0 m1 m2 g =>
    unfold planL don
    simp only [partP, List.filterMap_append, List.filterMap_cons, fm_rep, gap_fm, List.map_cons, List.map_append, List.map_replicate, markT]
    simp
theorem planAll_fm : ∀ (n : Int) (ligs : List Lig), (planAll n ligs).filterMap id = (donAll n ligs).map fun c => c.2
  | _, [] => rfl
  | n, l :: r => by rw [planAll, donAll, List.filterMap_append, List.map_append, planL_fm, planAll_fm (n + 1) r]
/-- a lig out of its marks -/
theorem lig_of (ms : List Nat) (g : Bool) (h : ms.length = 2 ∨ ms.length = 3) (n : Int) : ∃ l : Lig, raw l = partG 0 ms ++ gapC g ∧ planL n l = partP n ms.length 0 ms ++ gapP g := by
  rcases h with h | h
  · match ms, h with
    | [m0, m1], _ => exact ⟨.two m0 m1 g, by simp [raw, partG], rfl⟩
  · match ms, h with
    | [m0, m1, m2], _ => exact ⟨.three m0 m1 m2 g, by simp [raw, partG], rfl⟩
noncomputable def pc (PL : List (Option PRec)) : List (Option T3) := PL.map (Option.map fun e => e.2)
theorem pc_fm (PL : List (Option PRec)) : (PL.filterMap id).map (fun e => e.2) = (pc PL).filterMap id := by
  unfold pc
  induction PL with
  | nil => rfl
  | cons a r ih => cases a <;> simp_all
noncomputable def forBody : Stmt → List Stmt
  | .For _ _ b _ _ => b
  | _ => []
noncomputable def numFor : Stmt := lawBody.getD 2 noSt
noncomputable def numBody : List Stmt := forBody numFor
noncomputable def partFor : Stmt := numBody.getD 2 noSt
noncomputable def partBody : List Stmt := forBody partFor
noncomputable def turnFor : Stmt := partBody.getD 2 noSt
section
variable {w : World} {h₀ : Heap} {A : Around} {L : Addr} {l : Loc} {σ σ₀ τ : St} {env : Env} {lo gl : List Str} {ce : List (Str × Addr)} {Q : V → Loc → St → Prop}
section
variable {D : Adr} {ns gs : List Int} {PL : List (Option PRec)} {bs : List Nat} {xs : List (Addr × Obj)}
theorem BuildAt.more (B : BuildAt σ L D ns gs PL bs xs) {J : Addr} {o : Obj} (h : σ J = some (.raw o)) : BuildAt σ L D ns gs PL bs ((J, o) :: xs) :=
  have hr : ∀ p ∈ (J, o) :: xs, σ p.1 = some (.raw p.2) := fun p hp => by
    rcases List.mem_cons.mp hp with rfl | hp
    · exact h
    · exact B.raws p hp
  { B with raws := hr }
theorem BuildAt.less {p : Addr × Obj} (B : BuildAt σ L D ns gs PL bs (p :: xs)) : BuildAt σ L D ns gs PL bs xs := { B with raws := fun q hq => B.raws q (.tail _ hq) }
theorem BuildAt.apart (B : BuildAt σ L D ns gs PL bs xs) {J : Addr} (h : σ J = none) : ∀ p ∈ xs, p.1 ≠ J := fun p hp e => by
  have := B.raws p hp
  rw [e, h] at this
  cases this
/-- a turn's end -/
theorem BuildAt.turn (B : BuildAt σ L D ns gs PL bs xs) {I : Addr} {o : Obj} {ns' gs' : List Int} {PL' : List (Option PRec)} {bs' : List Nat} (hI : σ I = none) (B' : BuildAt τ L D ns' gs' PL' bs' ((I, o) :: xs)) : ∃ σ'', Sub (upd σ'' I (.raw o)) τ ∧ σ'' I = none ∧ BuildAt σ'' L D ns' gs' PL' bs' xs :=
  ⟨rm τ I, sub_rmx (B'.raws _ (.head _)), rm_self _ _, B'.less.off (B'.raws _ (.head _)) (B.apart hI)⟩
end
theorem AE.cut2 {e : Expr} (P : V → St → Prop) (h : AE w h₀ A L env e (fun v l' σ' => l' = l ∧ P v σ') l σ) (k : ∀ v σ', P v σ' → Q v l σ') : AE w h₀ A L env e Q l σ :=
  AE.mono h fun v l' σ' ⟨e1, p⟩ => by subst e1; exact k v σ' p
theorem law_turn (G : Gnd w h₀) (r : Room A 3) (O : EnvOk env L lawLo lawGl [("pool", L + 1), ("plan", L + 2)]) {D : Adr} {ns gs : List Int} {PL : List (Option PRec)} {bs : List Nat} {xs : List (Addr × Obj)} {n p : Nat} {parts : Int} {Q : Fl → Loc → St → Prop} (hp : p < 3)
    (B : BuildAt σ L D ns gs PL bs xs) (hz : gs.length ≤ 500) (hzP : PL.length ≤ 500) (hl : locChk l [("glyphs", .ref D.ga), ("begins", .ref D.ba), ("number", nv n), ("parts", .int parts), ("part", nv p)])
    (h : ∀ (m : Nat) ns' gs' PL' l' σ', m ≤ 2 → BuildAt σ' L D ns' gs' PL' bs xs → gs'.map fr = gs.map fr ++ List.replicate m (fr 9) → pc PL' = pc PL ++ List.replicate m (some (markT n parts p)) → locChk l' [("glyphs", .ref D.ga), ("begins", .ref D.ba), ("number", nv n), ("parts", .int parts)] → Q .next l' σ') :
    AX w h₀ A L env turnFor Q l σ := by
  have mq : (("plan" : Str), L + 2) ∈ [(("pool" : Str), L + 1), (("plan" : Str), L + 2)] := .tail _ (.head _)
  with_reducible refine AX.loc (locLe.of hl) ?_
  refine  x_for (e_callT G O (by decide +kernel) (by kernel_rfl) boot_range (by rfl) (es_cons (AE.cut2 (fun v σ' => ∃ m : Nat, m ≤ 2 ∧ v = nv m ∧ ∃ ns', BuildAt σ' L D ns' gs PL bs xs) ?_ ?_))) (by intro _; with_unfolding_all rfl)
  · repeat walk_at "v"
    with_reducible refine ⟨fun _ => ?_, fun _ => ?_⟩
    · repeat walk_at "v"
      refine  e_take G (r.less (by omega)) O B (by decide) (by decide) fun d ns' σ' h0 h1 B' => ?_
      repeat walk_at "v"
      exact ⟨rfl, (1 + d).toNat, by omega, by show V.int _ = V.int _; congr 1; omega, ns', B'⟩
    · refine  e_take G (r.less (by omega)) O B (by decide) (by decide) fun d ns' σ' h0 h1 B' => ?_
      exact ⟨rfl, d.toNat, by omega, by show V.int _ = V.int _; congr 1; omega, ns', B'⟩
  · rintro v σ1 ⟨m, hm, rfl, ns1, B1⟩
    repeat walk_at "v"
    with_reducible refine c_range1 fun rg hrg => ?_
    refine  f_loop (fun t l' σ' => locChk l' [("glyphs", .ref D.ga), ("begins", .ref D.ba), ("number", nv n), ("parts", .int parts), ("part", nv p)] ∧ ∃ ns' gs' PL', BuildAt σ' L D ns' gs' PL' bs xs ∧ gs'.map fr = gs.map fr ++ List.replicate t (fr 9) ∧ pc PL' = pc PL ++ List.replicate t (some (markT n parts p)))
      (Starts.range r.hh (upd_self ..) (small_one (by decide) (by decide) (by omega) (by omega))) ⟨⟨rfl, rfl, rfl, rfl, rfl, trivial⟩, ns1, gs, PL, B1.sub (sub_upd hrg), by simp, by simp⟩ (fun _ _ _ _ => trivial) ?_ ?_
    · rintro I t l' σ' ht ⟨hl', ns2, gs2, PL2, B2, e1, e2⟩ hI hIL
      have htm : t < m := by omega
      have g2l : gs2.length = gs.length + t := by simpa using congrArg List.length e1
      have P2l : PL2.length = PL.length + t := by unfold pc at e2; simpa using congrArg List.length e2
      have B3 := (B2.sub (sub_upd (x := rit 0 ((m : Int) - 0).toNat (t + 1)) hI)).more (upd_self ..)
      with_reducible refine AA.loc (locLe.of hl') ?_
      repeat walk_at "v"
      intro tk
      with_reducible refine m_append B3.gly ?_ tk
      with_reducible refine cw_B (by with_unfolding_all rfl) ?_
      repeat walk_at "v"
      with_reducible refine c_append B3.gly (by rw [List.length_map]; omega) ?_
      have B4 := B3.glyph 9
      repeat walk_at "v"
      with_reducible refine e_cell O mq B4.cd ?_ (by decide +kernel) (by decide +kernel)
      intro tk2
      with_reducible refine m_append B4.plan.lst ?_ tk2
      with_reducible refine cw_B (by with_unfolding_all rfl) ?_
      repeat walk_at "v"
      with_reducible refine ⟨fun hc => ?_, fun hc => ?_⟩
      · repeat walk_at "v"
        with_reducible refine ⟨by simp, fun a ha => ?_⟩
        repeat walk_at "v"
        have B5 := B4.onPlan ha (markT n parts p)
        have em : markT n parts p = ((n : Int) + 1, (p : Int) + 1, 0) := by unfold markT; rw [if_pos (of_decide_eq_true hc)]
        rw [em] at B5
        refine  c_append (upd_old ha B4.plan.lst) (by rw [List.length_map]; omega) ?_
        repeat walk_at "v"
        obtain ⟨σ4, k1, k2, k3⟩ := B2.turn hI B5
        refine  ⟨σ4, k1, k2, ⟨rfl, rfl, rfl, rfl, rfl, trivial⟩, ns2, _, _, k3, ?_, ?_⟩
        · rw [List.map_append, e1, List.replicate_succ', ← List.append_assoc]; rfl
        · rw [List.replicate_succ', ← List.append_assoc, ← e2, em]; unfold pc; rw [List.map_append]; rfl
      · repeat walk_at "v"
        with_reducible refine ⟨by simp, fun a ha => ?_⟩
        repeat walk_at "v"
        have B5 := B4.onPlan ha (markT n parts p)
        have em : markT n parts p = (0, 0, 0) := by unfold markT; rw [if_neg (of_decide_eq_false hc)]
        rw [em] at B5
        refine  c_append (upd_old ha B4.plan.lst) (by rw [List.length_map]; omega) ?_
        repeat walk_at "v"
        obtain ⟨σ4, k1, k2, k3⟩ := B2.turn hI B5
        refine  ⟨σ4, k1, k2, ⟨rfl, rfl, rfl, rfl, rfl, trivial⟩, ns2, _, _, k3, ?_, ?_⟩
        · rw [List.map_append, e1, List.replicate_succ', ← List.append_assoc]; rfl
        · rw [List.replicate_succ', ← List.append_assoc, ← e2, em]; unfold pc; rw [List.map_append]; rfl
    · rintro l' σ' ⟨hl', ns2, gs2, PL2, B2, e1, e2⟩
      rw [show ((m : Int) - 0).toNat = m by omega] at e1 e2
      exact h m ns2 gs2 PL2 l' σ' hm B2 e1 e2 ⟨hl'.1, hl'.2.1, hl'.2.2.1, hl'.2.2.2.1, trivial⟩
end
section
variable {w : World} {h₀ : Heap} {A : Around} {L : Addr} {l : Loc} {σ σ₀ τ : St} {env : Env} {lo gl : List Str} {ce : List (Str × Addr)} {Q : V → Loc → St → Prop}
theorem law_part (G : Gnd w h₀) (r : Room A 3) (O : EnvOk env L lawLo lawGl [("pool", L + 1), ("plan", L + 2)]) {D : Adr} {ns gs : List Int} {PL : List (Option PRec)} {bs : List Nat} {xs : List (Addr × Obj)} {n P : Nat} {Q : Fl → Loc → St → Prop} (hP : P ≤ 3)
    (B : BuildAt σ L D ns gs PL bs xs) (hz : gs.length ≤ 300) (hzP : PL.length ≤ 300) (hl : locChk l [("glyphs", .ref D.ga), ("begins", .ref D.ba), ("number", nv n), ("parts", nv P)])
    (h : ∀ (ms : List Nat) ns' gs' PL' l' σ', ms.length = P → gs'.length ≤ gs.length + 3 * P → PL'.length ≤ PL.length + 3 * P → BuildAt σ' L D ns' gs' PL' bs xs → gs'.map fr = gs.map fr ++ partG 0 ms → pc PL' = pc PL ++ partP n P 0 ms → locChk l' [("glyphs", .ref D.ga), ("begins", .ref D.ba), ("number", nv n)] → Q .next l' σ') :
    AX w h₀ A L env partFor Q l σ := by
  have mq : (("plan" : Str), L + 2) ∈ [(("pool" : Str), L + 1), (("plan" : Str), L + 2)] := .tail _ (.head _)
  with_reducible refine AX.loc (locLe.of hl) ?_
  refine  x_for (e_callT G O (by decide +kernel) (by kernel_rfl) boot_range (by rfl) (es_cons ?_)) (by intro _; with_unfolding_all rfl)
  repeat walk_at "v"
  with_reducible refine c_range1 fun rg hrg => ?_
  refine  f_loop (fun p l' σ' => locChk l' [("glyphs", .ref D.ga), ("begins", .ref D.ba), ("number", nv n), ("parts", nv P)] ∧ ∃ ms ns' gs' PL', ms.length = p ∧ gs'.length ≤ gs.length + 3 * p ∧ PL'.length ≤ PL.length + 3 * p ∧ BuildAt σ' L D ns' gs' PL' bs xs ∧ gs'.map fr = gs.map fr ++ partG 0 ms ∧ pc PL' = pc PL ++ partP n P 0 ms)
    (Starts.range r.hh (upd_self ..) (small_one (by decide) (by decide) (by omega) (by omega))) ⟨⟨rfl, rfl, rfl, rfl, trivial⟩, [], ns, gs, PL, rfl, by simp, by simp, B.sub (sub_upd hrg), by simp [partG], by simp [partP]⟩ (fun _ _ _ _ => trivial) ?_ ?_
  · rintro I p l' σ' hp ⟨hl', ms, ns2, gs2, PL2, hms, z1, z2, B2, e1, e2⟩ hI hIL
    have hp2 : p < P := by omega
    obtain ⟨o, ho⟩ : ∃ o, rit 0 ((P : Int) - 0).toNat (p + 1) = .raw o := ⟨_, rfl⟩
    have B3 := (B2.sub (sub_upd (x := rit 0 ((P : Int) - 0).toNat (p + 1)) hI)).more ((upd_self ..).trans (congrArg some ho))
    with_reducible refine AA.loc (locLe.of hl') ?_
    repeat walk_at "v"
    intro tk
    with_reducible refine m_append B3.gly ?_ tk
    with_reducible refine cw_B (by with_unfolding_all rfl) ?_
    with_reducible refine es_cons ?_
    refine  AE.cut2 (fun v σ2 => v = .int (if p = 0 then 1 else 2) ∧ σ2 = upd σ' I (rit 0 ((P : Int) - 0).toNat (p + 1))) ?_ ?_
    · repeat walk_at "v"
      with_reducible refine ⟨fun hc => ?_, fun hc => ?_⟩
      · have : p = 0 := by have := eq_of_beq hc; omega
        repeat walk_at "v"
        refine  ⟨rfl, by rw [if_pos this], rfl⟩
      · have : p ≠ 0 := by rintro rfl; simp at hc
        repeat walk_at "v"
        refine  ⟨rfl, by rw [if_neg this], rfl⟩
    rintro v σ2 ⟨rfl, rfl⟩
    repeat walk_at "v"
    refine  c_append B3.gly (by rw [List.length_map]; omega) ?_
    have B4 := B3.glyph (if p = 0 then 1 else 2)
    repeat walk_at "v"
    with_reducible refine e_cell O mq B4.cd ?_ (by decide +kernel) (by decide +kernel)
    intro tk2
    with_reducible refine m_append B4.plan.lst ?_ tk2
    with_reducible refine cw_B (by with_unfolding_all rfl) ?_
    with_reducible refine es_cons ?_
    refine  AE.cut2 (fun v σ2 => ∃ PL3, pc PL3 = pc PL2 ++ [if p = 0 then some ((n : Int) + 1, 0, (P : Int)) else none] ∧ σ2 D.pl = some (.list (PL2.map pv)) ∧ BuildAt (upd σ2 D.pl (.list (PL2.map pv ++ [v]))) L D ns2 (gs2 ++ [if p = 0 then 1 else 2]) PL3 bs ((I, o) :: xs)) ?_ ?_
    · repeat walk_at "v"
      with_reducible refine ⟨fun hc => ?_, fun hc => ?_⟩
      · have hp0 : p = 0 := by have := eq_of_beq hc; omega
        repeat walk_at "v"
        with_reducible refine ⟨by simp, fun a ha => ?_⟩
        repeat walk_at "v"
        have B5 := B4.onPlan ha ((n : Int) + 1, 0, (P : Int))
        refine  ⟨rfl, _, ?_, upd_old ha B4.plan.lst, B5⟩
        rw [if_pos hp0]; unfold pc; rw [List.map_append]; rfl
      · have hp0 : p ≠ 0 := by rintro rfl; simp at hc
        repeat walk_at "v"
        refine  ⟨rfl, _, ?_, B4.plan.lst, B4.noPlan⟩
        rw [if_neg hp0]; unfold pc; rw [List.map_append]; rfl
    rintro v σ2 ⟨PL3, e3, hpl, B5⟩
    repeat walk_at "v"
    refine  c_append hpl (by rw [List.length_map]; omega) ?_
    have z3 : PL3.length = PL2.length + 1 := by unfold pc at e3; simpa using congrArg List.length e3
    refine  x_cons ?_
    refine  law_turn G r O (n := n) (p := p) (parts := (P : Int)) (by omega) B5 (by rw [List.length_append, List.length_singleton]; omega) (by omega) ⟨rfl, rfl, rfl, rfl, ?_, trivial⟩ ?_
    · show some (V.int _) = some (V.int _); congr 2; omega
    rintro m ns4 gs4 PL4 l4 σ4 hm B6 e5 e6 hl4
    with_reducible refine x_nil ?_
    obtain ⟨σ5, k1, k2, k3⟩ := B2.turn hI B6
    have z4 : gs4.length = gs2.length + (m + 1) := by simpa using congrArg List.length e5
    have z5 : PL4.length = PL3.length + m := by unfold pc at e6; simpa using congrArg List.length e6
    refine  ⟨σ5, by rw [ho]; exact k1, k2, hl4, ms ++ [m], ns4, gs4, PL4, by simp [hms], by omega, by omega, k3, ?_, ?_⟩
    · rw [e5, List.map_append, e1, partG_snoc, hms]; simp
    · rw [e6, e3, e2, partP_snoc, hms]; simp
  · rintro l' σ' ⟨hl', ms, ns2, gs2, PL2, hms, z1, z2, B2, e1, e2⟩
    have eP : ((P : Int) - 0).toNat = P := by omega
    rw [eP] at hms z1 z2
    exact h ms ns2 gs2 PL2 l' σ' hms z1 z2 B2 e1 e2 ⟨hl'.1, hl'.2.1, hl'.2.2.1, trivial⟩
end
theorem begin_snoc {ligs : List Lig} {bs : List Nat} {lg : Lig} {z : Nat} (hl : bs.length = ligs.length) (hb : ∀ j, j < bs.length → bs.getD j 0 = (rawAll (ligs.take j)).length) (hz : z = (rawAll ligs).length) : ∀ j, j < (bs ++ [z]).length → (bs ++ [z]).getD j 0 = (rawAll ((ligs ++ [lg]).take j)).length := fun j hj => by
  rw [List.length_append, List.length_singleton] at hj
  rcases Nat.lt_or_eq_of_le (Nat.le_of_lt_succ hj) with h | h
  · rw [List.getD_eq_getElem?_getD, List.getElem?_append_left h, ← List.getD_eq_getElem?_getD, hb j h, List.take_append_of_le_length (by omega)]
  · subst h
    rw [List.getD_eq_getElem?_getD, List.getElem?_append_right (Nat.le_refl _), Nat.sub_self, hl, List.take_append_of_le_length (Nat.le_refl _), List.take_length]
    simpa using hz
section
variable {w : World} {h₀ : Heap} {A : Around} {L : Addr} {l : Loc} {σ σ₀ τ : St} {env : Env} {lo gl : List Str} {ce : List (Str × Addr)} {Q : V → Loc → St → Prop}
structure NumI (σ : St) (L : Addr) (D : Adr) (t : Nat) (ligs : List Lig) (ns gs : List Int) (PL : List (Option PRec)) (bs : List Nat) : Prop where
  B : BuildAt σ L D ns gs PL bs []
  n : ligs.length = t
  bl : bs.length = ligs.length
  b : ∀ j, j < bs.length → bs.getD j 0 = (rawAll (ligs.take j)).length
  g : gs.map fr = rawAll ligs
  p : pc PL = planAll 0 ligs
  gz : gs.length ≤ 10 * t
  pz : PL.length ≤ 10 * t
theorem law_num (G : Gnd w h₀) (r : Room A 3) (O : EnvOk env L lawLo lawGl [("pool", L + 1), ("plan", L + 2)]) {D : Adr} {ns : List Int} {Q : Fl → Loc → St → Prop}
    (B : BuildAt σ L D ns [] [] [] []) (hl : locChk l [("glyphs", .ref D.ga), ("begins", .ref D.ba)])
    (h : ∀ t ligs ns' gs' PL' bs' l' σ', 1 ≤ t → t ≤ 3 → NumI σ' L D t ligs ns' gs' PL' bs' → locChk l' [("glyphs", .ref D.ga), ("begins", .ref D.ba)] → Q .next l' σ') :
    AX w h₀ A L env numFor Q l σ := by
  have mq : (("plan" : Str), L + 2) ∈ [(("pool" : Str), L + 1), (("plan" : Str), L + 2)] := .tail _ (.head _)
  with_reducible refine AX.loc (locLe.of hl) ?_
  refine  x_for (e_callT G O (by decide +kernel) (by kernel_rfl) boot_range (by rfl) (es_cons (AE.cut2 (fun v σ' => ∃ m : Nat, 1 ≤ m ∧ m ≤ 3 ∧ v = nv m ∧ ∃ ns', BuildAt σ' L D ns' [] [] [] []) ?_ ?_))) (by intro _; with_unfolding_all rfl)
  · repeat walk_at "v"
    refine  e_take G (r.less (by omega)) O B (by decide) (by decide) fun d ns' σ' h0 h1 B' => ?_
    repeat walk_at "v"
    exact ⟨rfl, (1 + d).toNat, by omega, by omega, by show V.int _ = V.int _; congr 1; omega, ns', B'⟩
  · rintro v σ1 ⟨T, hT1, hT3, rfl, ns1, B1⟩
    repeat walk_at "v"
    with_reducible refine c_range1 fun rg hrg => ?_
    refine  f_loop (fun t l' σ' => locChk l' [("glyphs", .ref D.ga), ("begins", .ref D.ba)] ∧ ∃ ligs ns' gs' PL' bs', NumI σ' L D t ligs ns' gs' PL' bs')
      (Starts.range r.hh (upd_self ..) (small_one (by decide) (by decide) (by omega) (by omega))) ⟨⟨rfl, rfl, trivial⟩, [], ns1, [], [], [], B1.sub (sub_upd hrg), rfl, rfl, (fun j hj => absurd hj (by simp)), rfl, rfl, by simp, by simp⟩ (fun _ _ _ _ => trivial) ?_ ?_
    · rintro I t l' σ' ht ⟨hl', ligs, ns2, gs2, PL2, bs2, N⟩ hI hIL
      obtain ⟨o, ho⟩ : ∃ o, rit 0 ((T : Int) - 0).toNat (t + 1) = .raw o := ⟨_, rfl⟩
      have B3 := (N.B.sub (sub_upd (x := rit 0 ((T : Int) - 0).toNat (t + 1)) hI)).more ((upd_self ..).trans (congrArg some ho))
      have gz := N.gz
      have pz := N.pz
      have bz : bs2.length = t := N.bl.trans N.n
      have ht3 : t < 3 := by omega
      with_reducible refine AA.loc (locLe.of hl') ?_
      repeat walk_at "v"
      refine  e_take G (r.less (by omega)) O B3 (by decide) (by decide) fun d ns3 σ3 h0 h1 B4 => ?_
      obtain ⟨P, hP⟩ : ∃ P : Nat, (2 + d : Int) = P := ⟨(2 + d).toNat, by omega⟩
      have hP2 : 2 ≤ P := by omega
      have hP3 : P ≤ 3 := by omega
      repeat walk_at "v"
      intro tk
      with_reducible refine m_append B4.beg ?_ tk
      with_reducible refine cw_B (by with_unfolding_all rfl) ?_
      repeat walk_at "v"
      with_reducible refine e_callB G O (by decide +kernel) (by kernel_rfl) boot_len (by with_unfolding_all rfl) ?_
      repeat walk_at "v"
      with_reducible refine c_len B4.gly (by rw [List.length_map]; omega) ?_
      repeat walk_at "v"
      with_reducible refine c_append B4.beg (by rw [List.length_map]; omega) ?_
      have B5 := B4.begin gs2.length
      refine  x_cons ?_
      refine  law_part G r O (n := t) (P := P) (by omega) (D := D) (ns := ns3) (gs := gs2) (PL := PL2) (bs := bs2 ++ [gs2.length]) (xs := [(I, o)]) ?_ (by omega) (by omega) ?_ ?_
      · rw [List.length_map]; exact B5
      · refine  ⟨rfl, rfl, ?_, ?_, trivial⟩
        · show some (V.int _) = some (V.int _); congr 2; omega
        · exact congrArg (fun z => some (V.int z)) hP
      intro ms ns4 gs4 PL4 l4 σ4 hms z1 z2 B6 e1 e2 hl4
      have fin : ∀ (g : Bool) (ns5 gs5 : List Int) (PL5 : List (Option PRec)) (τ : St) (l5 : Loc), BuildAt τ L D ns5 gs5 PL5 (bs2 ++ [gs2.length]) [(I, o)] → gs5.map fr = gs4.map fr ++ gapC g → pc PL5 = pc PL4 ++ gapP g → locChk l5 [("glyphs", .ref D.ga), ("begins", .ref D.ba)] →
          ∃ σ'', Sub (upd σ'' I (rit 0 ((T : Int) - 0).toNat (t + 1))) τ ∧ σ'' I = none ∧ locChk l5 [("glyphs", .ref D.ga), ("begins", .ref D.ba)] ∧ ∃ ligs ns' gs' PL' bs', NumI σ'' L D (t + 1) ligs ns' gs' PL' bs' := by
        intro g ns5 gs5 PL5 τ l5 B7 e3 e4 hl5
        obtain ⟨σ5, k1, k2, k3⟩ := N.B.turn hI B7
        obtain ⟨lg, q1, q2⟩ := lig_of ms g (by omega) (t : Int)
        have z5 : gs5.length = gs4.length + (gapC g).length := by simpa using congrArg List.length e3
        have z6 : PL5.length = PL4.length + (gapP g).length := by unfold pc at e4; simpa using congrArg List.length e4
        have y1 : (gapC g).length ≤ 1 := by cases g <;> simp [gapC]
        have y2 : (gapP g).length ≤ 1 := by cases g <;> simp [gapP]
        refine  ⟨σ5, by rw [ho]; exact k1, k2, hl5, ligs ++ [lg], ns5, gs5, PL5, bs2 ++ [gs2.length], k3, by simp [N.n], by simp [N.bl], begin_snoc N.bl N.b (by simpa using congrArg List.length N.g), ?_, ?_, by omega, by omega⟩
        · rw [e3, e1, N.g, rawAll_app, List.append_assoc, ← q1]; simp [rawAll]
        · rw [e4, e2, N.p, planAll_app, List.append_assoc, ← hms, ← q2, N.n]; simp [planAll]
      refine  AXs.loc (locLe.of hl4) ?_
      repeat walk_at "v"
      refine  e_take G (r.less (by omega)) O B6 (by decide) (by decide) fun d2 ns5 σ5 h2 h3 B7 => ?_
      repeat walk_at "v"
      with_reducible refine ⟨fun hc => ?_, fun hc => ?_⟩
      · repeat walk_at "v"
        intro tk2
        with_reducible refine m_append B7.gly ?_ tk2
        with_reducible refine cw_B (by with_unfolding_all rfl) ?_
        repeat walk_at "v"
        with_reducible refine c_append B7.gly (by rw [List.length_map]; omega) ?_
        have B8 := B7.glyph 5
        repeat walk_at "v"
        with_reducible refine e_cell O mq B8.cd ?_ (by decide +kernel) (by decide +kernel)
        intro tk3
        with_reducible refine m_append B8.plan.lst ?_ tk3
        with_reducible refine cw_B (by with_unfolding_all rfl) ?_
        repeat walk_at "v"
        with_reducible refine ⟨by simp, fun a ha => ?_⟩
        repeat walk_at "v"
        have B9 := B8.onPlan ha (0, 0, 0)
        refine  c_append (upd_old ha B8.plan.lst) (by rw [List.length_map]; omega) ?_
        repeat walk_at "v"
        refine  fin true _ _ _ _ _ B9 (by rw [List.map_append]; rfl) (by unfold pc; rw [List.map_append]; rfl) ⟨rfl, rfl, trivial⟩
      · repeat walk_at "v"
        refine  fin false _ _ _ _ _ B7 (by simp [gapC]) (by simp [gapP]) ⟨rfl, rfl, trivial⟩
    · rintro l' σ' ⟨hl', ligs, ns2, gs2, PL2, bs2, N⟩
      exact h _ ligs ns2 gs2 PL2 bs2 l' σ' (by omega) (by omega) N ⟨hl'.1, hl'.2.1, trivial⟩
end
section
variable {w : World} {h₀ : Heap} {A : Around} {L : Addr} {l : Loc} {σ σ₀ τ : St} {env : Env} {lo gl : List Str} {ce : List (Str × Addr)} {Q : V → Loc → St → Prop}
theorem fm3 {α β : Type} {f : α → Option β} {x y z : α} (h : f y = none) : ¬ (List.filterMap f [x, y, z]).length = 3 := by
  simp only [List.filterMap_cons, h, List.filterMap_nil]
  cases f x <;> cases f z <;> simp
theorem fm1 {α β : Type} {f : α → Option β} {z : α} : ¬ (List.filterMap f [z]).length = 3 := by
  simp only [List.filterMap_cons, List.filterMap_nil]
  cases f z <;> simp
theorem no_swap {env : Env} (hkp : env.kindOf "plan" = some .cell) {p1 p2 p3 p4 p5 p6 p7 p8 : Pos} {k1 k2 : Nat} : swappedStores [.Tuple [.Name "glyphs" p1, .Name "plan" p2, .Name "begins" p3] k1 p4] (.Tuple [.List [] p5, .List [] p6, .List [] p7] k2 p8) env = pure none := by
  refine  Eq.trans (b := ite _ (pure none) (ite _ (pure none) (ite _ (pure none) (ite _ (pure none) (ite _ _ _))))) rfl ?_
  by_cases hb : (env.blockKind != .function) = true
  · exact if_pos hb
  · refine  (if_neg (fun hC => hb hC)).trans ?_
    refine  (if_neg (fun hC => absurd (show false = true from hC) (by decide))).trans ?_
    refine  if_pos ?_
    refine  (Bool.or_eq_true _ _).mpr (.inl (bne_iff_ne.mpr (fm3 (if_neg fun hC => ?_))))
    have h : (env.kindOf "plan" == some NameKind.local && p2.line == p1.line) = true := hC
    rw [hkp] at h
    exact absurd (Bool.and_eq_true_iff.mp h).1 (by decide)
theorem law1 (G : Gnd w h₀) (r : Room A 3) (O : EnvOk env L lawLo lawGl [("pool", L + 1), ("plan", L + 2)]) (hkp : env.kindOf "plan" = some .cell) {ns : List Int} {pa : Addr} {Q : Fl → Loc → St → Prop} (hf : ns.length ≤ 200)
    (cp : σ (L + 1) = some (.cell (.ref pa))) (cd : σ (L + 2) = some .cell0) (hpa : σ pa = some (.list (ns.map V.int)))
    (h : ∀ D σ', BuildAt σ' L D ns [] [] [] [] → Q .next [("begins", .ref D.ba), ("glyphs", .ref D.ga)] σ') :
    AX w h₀ A L env (lawBody.getD 1 noSt) Q [] σ := by
  have mq : (("plan" : Str), L + 2) ∈ [(("pool" : Str), L + 1), (("plan" : Str), L + 2)] := .tail _ (.head _)
  refine  x_tuple ?_ (by with_unfolding_all rfl) (no_swap hkp)
  repeat walk_at "v"
  with_reducible refine ⟨by simp, fun a ha => ?_⟩
  repeat walk_at "v"
  with_reducible refine ⟨by simp, fun b hb => ?_⟩
  repeat walk_at "v"
  with_reducible refine ⟨by simp, fun c hc => ?_⟩
  repeat walk_at "v"
  with_reducible refine ⟨by simp, fun t ht => ?_⟩
  have u1 : Sub σ (upd σ a (.list [])) := sub_upd ha
  have u2 := u1.trans (sub_upd (x := .list []) hb)
  have u3 := u2.trans (sub_upd (x := .list []) hc)
  have ga := (((sub_upd (x := .list []) hb).trans (sub_upd (x := .list []) hc)).trans (sub_upd (x := .tup [.ref a, .ref b, .ref c]) ht)).ap (upd_self ..)
  have gb := ((sub_upd (x := .list []) hc).trans (sub_upd (x := .tup [.ref a, .ref b, .ref c]) ht)).ap (upd_self ..)
  have gc := (sub_upd (x := .tup [.ref a, .ref b, .ref c]) ht).ap (upd_self ..)
  have u4 := u3.trans (sub_upd (x := .tup [.ref a, .ref b, .ref c]) ht)
  with_reducible refine a_tuple r.hh (by with_unfolding_all rfl) (upd_self ..) (by with_unfolding_all rfl) ?_
  repeat walk_at "v"
  with_reducible refine a_cell O mq hkp (u4.ap cd) (.inl rfl) ?_
  repeat walk_at "v"
  have ne : ∀ {x : Addr} {y : AO}, (upd (upd (upd (upd σ a (AO.list [])) b (AO.list [])) c (AO.list [])) t (AO.tup [V.ref a, V.ref b, V.ref c])) x = some y → y ≠ .cell0 → (upd (upd (upd (upd (upd σ a (AO.list [])) b (AO.list [])) c (AO.list [])) t (AO.tup [V.ref a, V.ref b, V.ref c])) (L + 2) (.cell (.ref b))) x = some y := fun {x y} e n => by
    rw [upd_ne (by rintro rfl; rw [u4.ap cd] at e; cases e; exact n rfl)]; exact e
  have ab : a ≠ b := by rintro rfl; rw [upd_self] at hb; cases hb
  have ac : a ≠ c := by rintro rfl; rw [upd_ne ab, upd_self] at hc; cases hc
  have bc : b ≠ c := by rintro rfl; rw [upd_self] at hc; cases hc
  have pa1 : pa ≠ a := by rintro rfl; rw [ha] at hpa; cases hpa
  have pa2 : pa ≠ b := by rintro rfl; rw [u1.ap hpa] at hb; cases hb
  have pa3 : pa ≠ c := by rintro rfl; rw [u2.ap hpa] at hc; cases hc
  refine  h ⟨pa, b, a, c⟩ _ ⟨ne (u4.ap cp) (by simp), upd_self .., ne (u4.ap hpa) (by simp), ⟨ne gb (by simp), fun e he => absurd he (by simp)⟩, ne ga (by simp), ne gc (by simp), fun p hp => absurd hp (by simp), hf, pa2, pa1, pa3, ab.symm, bc, ac, fun e he => absurd he (by simp)⟩
end
section
variable {w : World} {h₀ : Heap} {A : Around} {L : Addr} {l : Loc} {σ σ₀ τ : St} {env : Env} {lo gl : List Str} {ce : List (Str × Addr)} {Q : V → Loc → St → Prop}
theorem law_all (G : Gnd w h₀) (r : Room A 8) (O : EnvOk env L lawLo lawGl [("pool", L + 1), ("plan", L + 2)]) (hk : env.kindOf "pool" = some .cell) (hkp : env.kindOf "plan" = some .cell) {Q : Fl → Loc → St → Prop} (hQ : ∀ l σ, Q (.ret (.bool true)) l σ)
    {sa : Addr} {cs : List Value} {ns : List Int} (ha : h₀.IsList sa cs.toArray) (hi : IntsAre cs ns) (hz : ns.length ≤ 100) (hc : σ (L + 1) = some .cell0) (hd : σ (L + 2) = some .cell0) (hl : locChk l [("script", .ref sa)]) :
    AXs w h₀ A L env (lawBody.drop 0) Q l σ := by
  refine  law0 G (r.less (by omega)) O hk ha hi hz hc hl ?_
  intro σ1 pa ms old c1 p1 z1
  refine  x_cons ?_
  refine  law1 G (r.less (by omega)) O hkp (ns := ms) (by omega) c1 (old _ _ (fun e => absurd (Nat.add_left_cancel (show L + 2 = L + 1 from e)) (by decide)) hd) p1 ?_
  intro D σ2 B
  refine  x_cons ?_
  refine  law_num G (r.less (by omega)) O B ⟨rfl, rfl, trivial⟩ ?_
  intro t ligs ns' gs' PL' bs' l' σ3 t1 t3 N hl'
  have gz := N.gz
  have pz := N.pz
  have bz := N.bl
  have nz := N.n
  refine  law3 G r O hkp hQ N.B.cp N.B.cd N.B.pool N.B.few N.B.plan (by omega) (fun e he => (N.B.rows e he).1) N.B.gly N.g (by omega) N.B.beg N.bl N.b (by omega) (by rw [pc_fm, N.p, planAll_fm]) (by rintro rfl; simp at nz; omega) hl'
end
section
variable {w : World} {h₀ : Heap} {A : Around} {σ : St}
theorem ad_law (G : Gnd w h₀) (r : Room A 9) {sa : Addr} {cs : List Value} {ns : List Int} (ha : h₀.IsList sa cs.toArray) (hi : IntsAre cs ns) (hz : ns.length ≤ 100) : AD w h₀ A (.ref 447) [.ref sa] (fun v _ => v = .bool true) σ := by
  refine  d_callC (n := 8) (fd := F447) (body := lawBody) (names := ["script"]) G r [("script", .ref sa)] (fun L => [("pool", L + 1, .cell0), ("plan", L + 2, .cell0)]) (by kernel_rfl) (by kernel_rfl) (by kernel_rfl) (fun cs hv => by obtain ⟨t, rfl⟩ := vl1 hv; with_unfolding_all rfl) (by kernel_rfl) (fun n x hx => ?_) (fun L cs hv p hp => ?_) (fun L cs hv p hp => ?_) (by kernel_rfl) (by kernel_rfl) (by kernel_rfl) fun L A' hL hcl r' => ?_
  · rcases List.mem_cons.mp hx with rfl | hx
    · exact .inl (by kernel_rfl)
    · cases hx
  · obtain ⟨t0, rfl⟩ := vl1 hv
    rcases List.mem_cons.mp hp with rfl | hp
    · exact ⟨t0, by kernel_rfl⟩
    · cases hp
  · obtain ⟨t0, rfl⟩ := vl1 hv
    rcases List.mem_cons.mp hp with rfl | hp
    · exact ⟨by kernel_rfl, by show bindC _ _ _ _ = none; kernel_rfl⟩
    rcases List.mem_cons.mp hp with rfl | hp
    · exact ⟨by kernel_rfl, by show bindC _ _ _ _ = none; kernel_rfl⟩
    · cases hp
  have hc1 : σ (L + 1) = none := (hcl ("pool", L + 1, .cell0) (.head _)).1
  have hc2 : σ (L + 2) = none := (hcl ("plan", L + 2, .cell0) (.tail _ (.head _))).1
  with_reducible refine with_envC lawLo lawGl [("pool", L + 1), ("plan", L + 2)] (by kernel_rfl) (by kernel_rfl) (by kernel_rfl) (by kernel_rfl) (fun p hp => ?_) fun env O hk => ?_
  · rcases List.mem_cons.mp hp with rfl | hp
    · exact ⟨by kernel_rfl, by kernel_rfl⟩
    rcases List.mem_cons.mp hp with rfl | hp
    · exact ⟨by kernel_rfl, by kernel_rfl⟩
    · cases hp
  refine  law_all G r' O (hk ("pool", L + 1) (.head _)) (hk ("plan", L + 2) (.tail _ (.head _))) (fun l σ' => ?_) ha hi hz ?_ (upd_self ..) ⟨rfl, trivial⟩
  · exact ⟨σ', Sub.refl _, rfl⟩
  · exact (upd_ne (fun e => absurd (Nat.add_left_cancel (show L + 1 = L + 2 from e)) (by decide))).trans (upd_self ..)
end
end Mine
namespace Mine
/-- a script that is read: a list of ints -/
theorem ints_read {R : WRecords} {cl : Str → Option Addr} {h : Heap} : ∀ {ds : List WData} {vs : List Value} {as : List Addr}, (∀ d ∈ ds, WShape.has R d .int = true) → ReadsAllW R cl h vs ds as → ∃ ns, IntsAre vs ns ∧ ns.length = ds.length
  | [], _, _, _, r => by obtain ⟨rfl, _⟩ := readsAllW_nil_inv r; exact ⟨[], .nil, rfl⟩
  | d :: ds, _, _, hs, r => by
    obtain ⟨v, vs, a1, a2, rfl, rfl, r1, r2⟩ := readsAllW_cons_inv r
    obtain ⟨ns, hn, hl⟩ := ints_read (fun d hd => hs d (List.mem_cons_of_mem _ hd)) r2
    obtain ⟨i, rfl⟩ := hasW_int (hs d (.head _))
    obtain ⟨t, rfl, _⟩ := readsW_int_inv r1
    exact ⟨i :: ns, .cons i t hn, by rw [List.length_cons, List.length_cons, hl]⟩
noncomputable def lawRow : RowW := (OpenLaw.row PySem.Challenge.rw_pb0197_01).toRowW
theorem few {xs : List WData} (h : lawRow.pre.holds lawRow.records { args := [.list xs] } = true) : xs.length ≤ 63 := by
  have h' : (WTm.and (.not (.lt (.lit (.int 63)) (.len (.arg 0)))) (.lit (.bool true))).holds lawRow.records { args := [.list xs] } = true := h
  clear h
  simp [WTm.holds, WTm.value] at h'
  have e : PySem.W.less? (WData.int 63) (WData.int ↑xs.length) = some (decide ((63 : Int) < xs.length)) := rfl
  rw [e] at h'
  by_cases q : (63 : Int) < xs.length
  · rw [decide_eq_true q] at h'; simp at h'
  · omega
theorem post_true {xs : List WData} : lawRow.claim.post [WData.list xs] (WData.bool true) [WData.list xs] = true := by
  have h1 : WShape.has lawRow.records (.bool true) .bool = true := by decide +kernel
  have h2 : (WTm.eq .res (.lit (.bool true))).holds lawRow.records { args := [WData.list xs], res := some (.bool true), after := [WData.list xs] } = true := by
    have e : PySem.W.same (WData.bool true) (WData.bool true) = true := by decide +kernel
    simp [WTm.holds, WTm.value, e]
  exact Bool.and_eq_true_iff.mpr ⟨h1, h2⟩
theorem law_walk (w : World) {s : Shared} {fa : Addr} (G : Gnd w s.heap) {xs : List WData} {cl : Str → Option Addr} {v : Value} {as : List Addr} {mean : ExcName → Option Value} (hf : fa = 447) (hp : lawRow.claim.pre [.list xs] = true)
    (r : ReadsW lawRow.records cl s.heap v (.list xs) as) (hg : s.gens = #[]) :
    wpAny (model PG w) callerA (call (.ref fa) [v]) (fun v s' => GoodW lawRow.claim cl mean [.list xs] s (.ok (.ret v)) s') (fun e s' => GoodW lawRow.claim cl mean [.list xs] s (.error e) s') s := by
  subst hf
  obtain ⟨h1, h2⟩ := pre_splitW hp
  obtain ⟨d, r', e, h3, h4⟩ := hasAllW_cons h1
  cases e
  obtain ⟨xs', e, h5⟩ := hasW_list h3
  cases e
  obtain ⟨a, vs, as', rfl, h6, h7, rfl⟩ := readsW_list_inv r
  obtain ⟨ns, hn, hl⟩ := ints_read (fun d hd => hasItemsW_at h5 d hd) h7
  have h8 := few h2
  have H : Mod s.heap (fun _ => none) s.heap := ⟨fun _ _ e => e, fun _ _ e => by cases e⟩
  have D := ad_law (w := w) (h₀ := s.heap) (A := callerA) (σ := fun _ => none) G ⟨rfl, by decide, by decide⟩ (sa := a) (cs := vs.toList) h6 hn (by omega)
  refine (D.af [.ref a] ⟨⟨0, rfl⟩, trivial⟩).use H fun c h' tk' σ' H' q => ?_
  obtain ⟨v, t, rfl, rfl⟩ := q
  exact ⟨.inl ⟨_, .bool true, [], rfl, fun _ => rfl, .bool true, post_true, fun _ => ⟨.nil, fun _ h => nomatch h⟩⟩, H'.base, rfl, hg⟩
end Mine
namespace Mine.Hd
-- the head: the objects, the states at the cuts
noncomputable def o11 (P : Params) : Obj := ⟨(.type "tuple"), none, (.seq #[] 0), #[]⟩
noncomputable def o12 (P : Params) : Obj := ⟨.none, none, (.fields #[]), #[]⟩
noncomputable def o13 (P : Params) : Obj := ⟨(.type "code"), none, (.fields #[(.str (Str.ofString "<module>") 182), (.str (Str.ofString "<module>") 183), (.str (Str.ofString "/claim/cut.py") 184), (.int 1 0), (.int 0 0), (.int 0 0), (.int 0 0), (.int 0 0), (.ref 11), (.bool false), (.int 181 0), (.ref 12), .none, .none, .none, .none, (.int 185 0), (.int 1 0), (.str (Str.ofString "/claim/cut.py") 186)]), #[]⟩
noncomputable def o14 (P : Params) : Obj := ⟨(.type "frame"), none, .plain, #[(some (.ref 13)), (some (.ref 3)), (some (.ref 3)), none, (some (.str (Str.ofString "__main__") 164)), none, (some (.ref 0))]⟩
noncomputable def o3_1 (P : Params) : Obj := ⟨(.type "dict"), none, (.dict #[⟨PyData.keyHash P (Str.ofString "__name__"), (.str (Str.ofString "__name__") 165), (.str (Str.ofString "joinedhand.flags") 194)⟩, ⟨PyData.keyHash P (Str.ofString "__doc__"), (.str (Str.ofString "__doc__") 166), .none⟩, ⟨PyData.keyHash P (Str.ofString "__package__"), (.str (Str.ofString "__package__") 167), .none⟩, ⟨PyData.keyHash P (Str.ofString "__loader__"), (.str (Str.ofString "__loader__") 168), (.builtin "__main__.__loader__#opaque")⟩, ⟨PyData.keyHash P (Str.ofString "__spec__"), (.str (Str.ofString "__spec__") 169), .none⟩, ⟨PyData.keyHash P (Str.ofString "__annotations__"), (.str (Str.ofString "__annotations__") 170), (.ref 6)⟩, ⟨PyData.keyHash P (Str.ofString "__builtins__"), (.str (Str.ofString "__builtins__") 171), (.ref 4)⟩, ⟨PyData.keyHash P (Str.ofString "__file__"), (.str (Str.ofString "__file__") 173), (.str (Str.ofString "/claim/cut.py") 172)⟩, ⟨PyData.keyHash P (Str.ofString "__cached__"), (.str (Str.ofString "__cached__") 174), .none⟩, ⟨PyData.keyHash P (Str.ofString "_wall"), (.str (Str.ofString "_wall") 193), (.ref 21)⟩, ⟨PyData.keyHash P (Str.ofString "IGNORE_BASES"), (.str (Str.ofString "IGNORE_BASES") 197), (.int 2 196)⟩, ⟨PyData.keyHash P (Str.ofString "IGNORE_LIGATURES"), (.str (Str.ofString "IGNORE_LIGATURES") 199), (.int 4 198)⟩, ⟨PyData.keyHash P (Str.ofString "IGNORE_MARKS"), (.str (Str.ofString "IGNORE_MARKS") 201), (.int 8 200)⟩, ⟨PyData.keyHash P (Str.ofString "USE_SET"), (.str (Str.ofString "USE_SET") 203), (.int 16 202)⟩, ⟨PyData.keyHash P (Str.ofString "Lookup"), (.str (Str.ofString "Lookup") 244), (.ref 43)⟩] 15), #[]⟩
noncomputable def o12_1 (P : Params) : Obj := ⟨.none, none, (.fields #[(.int 1 0), (.int 0 0), (.ref 20), (.int 9 0), (.int 0 0), (.ref 27)]), #[]⟩
noncomputable def o15 (P : Params) : Obj := ⟨(.type "tuple"), none, (.seq #[] 0), #[]⟩
noncomputable def o16 (P : Params) : Obj := ⟨.none, none, (.fields #[]), #[]⟩
noncomputable def o17 (P : Params) : Obj := ⟨(.type "tuple"), none, (.seq #[(.str (Str.ofString "k") 190)] 0), #[]⟩
noncomputable def o18 (P : Params) : Obj := ⟨(.type "tuple"), none, (.seq #[] 0), #[]⟩
noncomputable def o19 (P : Params) : Obj := ⟨.none, none, (.func { name := (Str.ofString "_wall"), qualname := (Str.ofString "_wall"), params := stArgs (topAt 0), body := .stmts (stBody (topAt 0)), scope := stScope (topAt 0), globals := 0, closure := [], defaults := .none, kwdefaults := .none, doc := .none, pyModule := .none, annotations := none, code := .none, closureTuple := .none, builtins := 0 }), #[]⟩
noncomputable def o20 (P : Params) : Obj := ⟨(.type "code"), none, (.fields #[(.str (Str.ofString "_wall") 187), (.str (Str.ofString "_wall") 188), (.str (Str.ofString "/claim/cut.py") 189), (.int 1 0), (.int 1 0), (.int 0 0), (.int 0 0), (.int 3 0), (.ref 15), (.bool true), (.int 181 0), (.ref 16), .none, (.ref 17), (.ref 18), (.ref 19), (.int 191 0), (.int 1 0), (.str (Str.ofString "/claim/cut.py") 192)]), #[]⟩
noncomputable def o21 (P : Params) : Obj := ⟨(.type "function"), none, (.func { name := (Str.ofString "_wall"), qualname := (Str.ofString "_wall"), params := stArgs (topAt 0), body := .stmts (stBody (topAt 0)), scope := stScope (topAt 0), globals := 3, closure := [], defaults := .none, kwdefaults := .none, doc := .none, pyModule := (.str (Str.ofString "__main__") 164), annotations := none, code := (.ref 20), closureTuple := .none, builtins := 0 }), #[]⟩
noncomputable def o22 (P : Params) : Obj := ⟨(.type "tuple"), none, (.seq #[] 0), #[]⟩
noncomputable def o23 (P : Params) : Obj := ⟨(.type "builtin_function_or_method"), none, (.fields #[(.builtin "type.__prepare__"), (.type "type")]), #[]⟩
noncomputable def o24 (P : Params) : Obj := ⟨(.type "dict"), none, (.dict #[⟨PyData.keyHash P (Str.ofString "__module__"), (.str (Str.ofString "__module__") 211), (.str (Str.ofString "joinedhand.flags") 194)⟩, ⟨PyData.keyHash P (Str.ofString "__qualname__"), (.str (Str.ofString "__qualname__") 213), (.str (Str.ofString "Lookup") 212)⟩, ⟨PyData.keyHash P (Str.ofString "__firstlineno__"), (.str (Str.ofString "__firstlineno__") 215), (.int 9 214)⟩, ⟨PyData.keyHash P (Str.ofString "__init__"), (.str (Str.ofString "__init__") 226), (.ref 35)⟩, ⟨PyData.keyHash P (Str.ofString "told"), (.str (Str.ofString "told") 232), (.ref 40)⟩, ⟨PyData.keyHash P (Str.ofString "__static_attributes__"), (.str (Str.ofString "__static_attributes__") 237), (.ref 41)⟩] 6), #[]⟩
noncomputable def o25 (P : Params) : Obj := ⟨(.type "tuple"), none, (.seq #[] 0), #[]⟩
noncomputable def o26 (P : Params) : Obj := ⟨.none, none, (.fields #[(.int 11 0), (.int 4 0), (.ref 34), (.int 17 0), (.int 4 0), (.ref 39)]), #[]⟩
noncomputable def o27 (P : Params) : Obj := ⟨(.type "code"), none, (.fields #[(.str (Str.ofString "Lookup") 206), (.str (Str.ofString "Lookup") 207), (.str (Str.ofString "/claim/cut.py") 208), (.int 9 0), (.int 0 0), (.int 0 0), (.int 0 0), (.int 0 0), (.ref 25), (.bool false), (.int 181 0), (.ref 26), .none, .none, .none, .none, (.int 209 0), (.int 9 0), (.str (Str.ofString "/claim/cut.py") 210)]), #[]⟩
noncomputable def o28 (P : Params) : Obj := ⟨(.type "frame"), none, .plain, #[(some (.ref 27)), (some (.ref 3)), (some (.ref 24)), none, (some (.str (Str.ofString "joinedhand.flags") 194)), none, (some (.ref 0))]⟩
noncomputable def o29 (P : Params) : Obj := ⟨(.type "tuple"), none, (.seq #[] 0), #[]⟩
noncomputable def o30 (P : Params) : Obj := ⟨.none, none, (.fields #[]), #[]⟩
noncomputable def o31 (P : Params) : Obj := ⟨(.type "tuple"), none, (.seq #[(.str (Str.ofString "self") 219), (.str (Str.ofString "kind") 220), (.str (Str.ofString "flag") 221), (.str (Str.ofString "mark_set") 222), (.str (Str.ofString "tables") 223)] 0), #[]⟩
noncomputable def o32 (P : Params) : Obj := ⟨(.type "tuple"), none, (.seq #[] 0), #[]⟩
noncomputable def o33 (P : Params) : Obj := ⟨.none, none, (.func { name := (Str.ofString "__init__"), qualname := (Str.ofString "Lookup.__init__"), params := stArgs (inAt 6 0), body := .stmts (stBody (inAt 6 0)), scope := stScope (inAt 6 0), globals := 0, closure := [], defaults := .none, kwdefaults := .none, doc := .none, pyModule := .none, annotations := none, code := .none, closureTuple := .none, builtins := 0 }), #[]⟩
noncomputable def o34 (P : Params) : Obj := ⟨(.type "code"), none, (.fields #[(.str (Str.ofString "__init__") 216), (.str (Str.ofString "Lookup.__init__") 217), (.str (Str.ofString "/claim/cut.py") 218), (.int 11 0), (.int 5 0), (.int 0 0), (.int 0 0), (.int 3 0), (.ref 29), (.bool true), (.int 181 0), (.ref 30), .none, (.ref 31), (.ref 32), (.ref 33), (.int 224 0), (.int 11 0), (.str (Str.ofString "/claim/cut.py") 225)]), #[]⟩
noncomputable def o35 (P : Params) : Obj := ⟨(.type "function"), none, (.func F35), #[]⟩
noncomputable def o36 (P : Params) : Obj := ⟨(.type "tuple"), none, (.seq #[] 0), #[]⟩
noncomputable def o37 (P : Params) : Obj := ⟨.none, none, (.fields #[]), #[]⟩
noncomputable def o38 (P : Params) : Obj := ⟨.none, none, (.func { name := (Str.ofString "told"), qualname := (Str.ofString "Lookup.told"), params := stArgs (inAt 6 1), body := .stmts (stBody (inAt 6 1)), scope := stScope (inAt 6 1), globals := 0, closure := [], defaults := .none, kwdefaults := .none, doc := .none, pyModule := .none, annotations := none, code := .none, closureTuple := .none, builtins := 0 }), #[]⟩
noncomputable def o39 (P : Params) : Obj := ⟨(.type "code"), none, (.fields #[(.str (Str.ofString "told") 227), (.str (Str.ofString "Lookup.told") 228), (.str (Str.ofString "/claim/cut.py") 229), (.int 17 0), (.int 1 0), (.int 0 0), (.int 0 0), (.int 3 0), (.ref 36), (.bool true), (.int 181 0), (.ref 37), .none, .none, .none, (.ref 38), (.int 230 0), (.int 17 0), (.str (Str.ofString "/claim/cut.py") 231)]), #[]⟩
noncomputable def o40 (P : Params) : Obj := ⟨(.type "function"), none, (.func { name := (Str.ofString "told"), qualname := (Str.ofString "Lookup.told"), params := stArgs (inAt 6 1), body := .stmts (stBody (inAt 6 1)), scope := stScope (inAt 6 1), globals := 3, closure := [], defaults := .none, kwdefaults := .none, doc := .none, pyModule := (.str (Str.ofString "joinedhand.flags") 194), annotations := none, code := (.ref 39), closureTuple := .none, builtins := 0 }), #[]⟩
noncomputable def o41 (P : Params) : Obj := ⟨(.type "tuple"), none, (.seq #[(.str (Str.ofString "flag") 233), (.str (Str.ofString "kind") 234), (.str (Str.ofString "mark_set") 235), (.str (Str.ofString "tables") 236)] 0), #[]⟩
noncomputable def o42 (P : Params) : Obj := ⟨(.type "dict"), none, (.dict #[⟨PyData.keyHash P (Str.ofString "__module__"), (.str (Str.ofString "__module__") 211), (.str (Str.ofString "joinedhand.flags") 194)⟩, ⟨PyData.keyHash P (Str.ofString "__firstlineno__"), (.str (Str.ofString "__firstlineno__") 215), (.int 9 214)⟩, ⟨PyData.keyHash P (Str.ofString "__init__"), (.str (Str.ofString "__init__") 226), (.ref 35)⟩, ⟨PyData.keyHash P (Str.ofString "told"), (.str (Str.ofString "told") 232), (.ref 40)⟩, ⟨PyData.keyHash P (Str.ofString "__static_attributes__"), (.str (Str.ofString "__static_attributes__") 237), (.ref 41)⟩, ⟨PyData.keyHash P (Str.ofString "__dict__"), (.str (Str.ofString "__dict__") 239), (.ref 44)⟩, ⟨PyData.keyHash P (Str.ofString "__weakref__"), (.str (Str.ofString "__weakref__") 241), (.ref 45)⟩, ⟨PyData.keyHash P (Str.ofString "__doc__"), (.str (Str.ofString "__doc__") 242), .none⟩] 4), #[]⟩
noncomputable def o43 (P : Params) : Obj := ⟨(.type "type"), none, (.cls { name := (Str.ofString "Lookup"), bases := [(.type "object")], mro := [(.ref 43), (.type "object")], ns := 42, qualname := (Str.ofString "Lookup"), hasDict := true, slotNames := [], subclasses := [], abstract := false, collection := none, hasDel := false }), #[none, none, (some (.str (Str.ofString "Lookup") 204)), (some (.str (Str.ofString "Lookup") 212)), (some (.builtin "object.__new__")), (some (.bool true))]⟩
noncomputable def o44 (P : Params) : Obj := ⟨(.type "getset_descriptor"), none, (.fields #[(.str (Str.ofString "__dict__") 238), (.ref 43), (.builtin "function.__dict__"), (.builtin "function.__dict__#set")]), #[]⟩
noncomputable def o45 (P : Params) : Obj := ⟨(.type "getset_descriptor"), none, (.fields #[(.str (Str.ofString "__weakref__") 240), (.ref 43), (.builtin "ExceptionGroup.__weakref__"), .none]), #[]⟩
noncomputable def o46 (P : Params) : Obj := ⟨(.type "super"), none, (.fields #[(.ref 43), (.ref 43), (.ref 43)]), #[]⟩
noncomputable def o47 (P : Params) : Obj := ⟨(.type "builtin_function_or_method"), none, (.fields #[(.builtin "object.__init_subclass__"), (.ref 43)]), #[]⟩
noncomputable def o3_2 (P : Params) : Obj := ⟨(.type "dict"), none, (.dict #[⟨PyData.keyHash P (Str.ofString "__name__"), (.str (Str.ofString "__name__") 165), (.str (Str.ofString "joinedhand.matching") 319)⟩, ⟨PyData.keyHash P (Str.ofString "__doc__"), (.str (Str.ofString "__doc__") 166), .none⟩, ⟨PyData.keyHash P (Str.ofString "__package__"), (.str (Str.ofString "__package__") 167), .none⟩, ⟨PyData.keyHash P (Str.ofString "__loader__"), (.str (Str.ofString "__loader__") 168), (.builtin "__main__.__loader__#opaque")⟩, ⟨PyData.keyHash P (Str.ofString "__spec__"), (.str (Str.ofString "__spec__") 169), .none⟩, ⟨PyData.keyHash P (Str.ofString "__annotations__"), (.str (Str.ofString "__annotations__") 170), (.ref 6)⟩, ⟨PyData.keyHash P (Str.ofString "__builtins__"), (.str (Str.ofString "__builtins__") 171), (.ref 4)⟩, ⟨PyData.keyHash P (Str.ofString "__file__"), (.str (Str.ofString "__file__") 173), (.str (Str.ofString "/claim/cut.py") 172)⟩, ⟨PyData.keyHash P (Str.ofString "__cached__"), (.str (Str.ofString "__cached__") 174), .none⟩, ⟨PyData.keyHash P (Str.ofString "_wall"), (.str (Str.ofString "_wall") 193), (.ref 21)⟩, ⟨PyData.keyHash P (Str.ofString "IGNORE_BASES"), (.str (Str.ofString "IGNORE_BASES") 197), (.int 2 196)⟩, ⟨PyData.keyHash P (Str.ofString "IGNORE_LIGATURES"), (.str (Str.ofString "IGNORE_LIGATURES") 199), (.int 4 198)⟩, ⟨PyData.keyHash P (Str.ofString "IGNORE_MARKS"), (.str (Str.ofString "IGNORE_MARKS") 201), (.int 8 200)⟩, ⟨PyData.keyHash P (Str.ofString "USE_SET"), (.str (Str.ofString "USE_SET") 203), (.int 16 202)⟩, ⟨PyData.keyHash P (Str.ofString "Lookup"), (.str (Str.ofString "Lookup") 244), (.ref 43)⟩, ⟨PyData.keyHash P (Str.ofString "Scene"), (.str (Str.ofString "Scene") 285), (.ref 65)⟩, ⟨PyData.keyHash P (Str.ofString "attach_wanted"), (.str (Str.ofString "attach_wanted") 292), (.ref 76)⟩, ⟨PyData.keyHash P (Str.ofString "class_bit"), (.str (Str.ofString "class_bit") 299), (.ref 83)⟩, ⟨PyData.keyHash P (Str.ofString "is_ignored"), (.str (Str.ofString "is_ignored") 310), (.ref 90)⟩, ⟨PyData.keyHash P (Str.ofString "passes"), (.str (Str.ofString "passes") 318), (.ref 97)⟩, ⟨PyData.keyHash P (Str.ofString "KINDS_IN_INPUT"), (.str (Str.ofString "KINDS_IN_INPUT") 323), (.ref 98)⟩] 21), #[]⟩
noncomputable def o12_2 (P : Params) : Obj := ⟨.none, none, (.fields #[(.int 1 0), (.int 0 0), (.ref 20), (.int 9 0), (.int 0 0), (.ref 27), (.int 20 0), (.int 0 0), (.ref 53), (.int 30 0), (.int 0 0), (.ref 75), (.int 32 0), (.int 0 0), (.ref 82), (.int 34 0), (.int 0 0), (.ref 89), (.int 44 0), (.int 0 0), (.ref 96)]), #[]⟩
noncomputable def o48 (P : Params) : Obj := ⟨(.type "tuple"), none, (.seq #[] 0), #[]⟩
noncomputable def o49 (P : Params) : Obj := ⟨(.type "builtin_function_or_method"), none, (.fields #[(.builtin "type.__prepare__"), (.type "type")]), #[]⟩
noncomputable def o50 (P : Params) : Obj := ⟨(.type "dict"), none, (.dict #[⟨PyData.keyHash P (Str.ofString "__module__"), (.str (Str.ofString "__module__") 252), (.str (Str.ofString "joinedhand.flags") 194)⟩, ⟨PyData.keyHash P (Str.ofString "__qualname__"), (.str (Str.ofString "__qualname__") 254), (.str (Str.ofString "Scene") 253)⟩, ⟨PyData.keyHash P (Str.ofString "__firstlineno__"), (.str (Str.ofString "__firstlineno__") 256), (.int 20 255)⟩, ⟨PyData.keyHash P (Str.ofString "__init__"), (.str (Str.ofString "__init__") 270), (.ref 62)⟩, ⟨PyData.keyHash P (Str.ofString "__static_attributes__"), (.str (Str.ofString "__static_attributes__") 278), (.ref 63)⟩] 5), #[]⟩
noncomputable def o51 (P : Params) : Obj := ⟨(.type "tuple"), none, (.seq #[] 0), #[]⟩
noncomputable def o52 (P : Params) : Obj := ⟨.none, none, (.fields #[(.int 22 0), (.int 4 0), (.ref 61)]), #[]⟩
noncomputable def o53 (P : Params) : Obj := ⟨(.type "code"), none, (.fields #[(.str (Str.ofString "Scene") 247), (.str (Str.ofString "Scene") 248), (.str (Str.ofString "/claim/cut.py") 249), (.int 20 0), (.int 0 0), (.int 0 0), (.int 0 0), (.int 0 0), (.ref 51), (.bool false), (.int 181 0), (.ref 52), .none, .none, .none, .none, (.int 250 0), (.int 20 0), (.str (Str.ofString "/claim/cut.py") 251)]), #[]⟩
noncomputable def o54 (P : Params) : Obj := ⟨(.type "frame"), none, .plain, #[(some (.ref 53)), (some (.ref 3)), (some (.ref 50)), none, (some (.str (Str.ofString "joinedhand.flags") 194)), none, (some (.ref 0))]⟩
noncomputable def o55 (P : Params) : Obj := ⟨(.type "tuple"), none, (.seq #[(.int 0 257)] 0), #[]⟩
noncomputable def o56 (P : Params) : Obj := ⟨(.type "tuple"), none, (.seq #[] 0), #[]⟩
noncomputable def o57 (P : Params) : Obj := ⟨.none, none, (.fields #[]), #[]⟩
noncomputable def o58 (P : Params) : Obj := ⟨(.type "tuple"), none, (.seq #[(.str (Str.ofString "self") 261), (.str (Str.ofString "buffer") 262), (.str (Str.ofString "gdef") 263), (.str (Str.ofString "lookups") 264), (.str (Str.ofString "lookup") 265), (.str (Str.ofString "mask") 266), (.str (Str.ofString "depth") 267)] 0), #[]⟩
noncomputable def o59 (P : Params) : Obj := ⟨(.type "tuple"), none, (.seq #[] 0), #[]⟩
noncomputable def o60 (P : Params) : Obj := ⟨.none, none, (.func { name := (Str.ofString "__init__"), qualname := (Str.ofString "Scene.__init__"), params := stArgs (inAt 7 0), body := .stmts (stBody (inAt 7 0)), scope := stScope (inAt 7 0), globals := 0, closure := [], defaults := .none, kwdefaults := .none, doc := .none, pyModule := .none, annotations := none, code := .none, closureTuple := .none, builtins := 0 }), #[]⟩
noncomputable def o61 (P : Params) : Obj := ⟨(.type "code"), none, (.fields #[(.str (Str.ofString "__init__") 258), (.str (Str.ofString "Scene.__init__") 259), (.str (Str.ofString "/claim/cut.py") 260), (.int 22 0), (.int 7 0), (.int 0 0), (.int 0 0), (.int 3 0), (.ref 56), (.bool true), (.int 181 0), (.ref 57), .none, (.ref 58), (.ref 59), (.ref 60), (.int 268 0), (.int 22 0), (.str (Str.ofString "/claim/cut.py") 269)]), #[]⟩
noncomputable def o62 (P : Params) : Obj := ⟨(.type "function"), none, (.func F62), #[]⟩
noncomputable def o63 (P : Params) : Obj := ⟨(.type "tuple"), none, (.seq #[(.str (Str.ofString "buffer") 271), (.str (Str.ofString "depth") 272), (.str (Str.ofString "gdef") 273), (.str (Str.ofString "lookup") 274), (.str (Str.ofString "lookups") 275), (.str (Str.ofString "mask") 276), (.str (Str.ofString "steps") 277)] 0), #[]⟩
noncomputable def o64 (P : Params) : Obj := ⟨(.type "dict"), none, (.dict #[⟨PyData.keyHash P (Str.ofString "__module__"), (.str (Str.ofString "__module__") 252), (.str (Str.ofString "joinedhand.flags") 194)⟩, ⟨PyData.keyHash P (Str.ofString "__firstlineno__"), (.str (Str.ofString "__firstlineno__") 256), (.int 20 255)⟩, ⟨PyData.keyHash P (Str.ofString "__init__"), (.str (Str.ofString "__init__") 270), (.ref 62)⟩, ⟨PyData.keyHash P (Str.ofString "__static_attributes__"), (.str (Str.ofString "__static_attributes__") 278), (.ref 63)⟩, ⟨PyData.keyHash P (Str.ofString "__dict__"), (.str (Str.ofString "__dict__") 280), (.ref 66)⟩, ⟨PyData.keyHash P (Str.ofString "__weakref__"), (.str (Str.ofString "__weakref__") 282), (.ref 67)⟩, ⟨PyData.keyHash P (Str.ofString "__doc__"), (.str (Str.ofString "__doc__") 283), .none⟩] 4), #[]⟩
noncomputable def o65 (P : Params) : Obj := ⟨(.type "type"), none, (.cls { name := (Str.ofString "Scene"), bases := [(.type "object")], mro := [(.ref 65), (.type "object")], ns := 64, qualname := (Str.ofString "Scene"), hasDict := true, slotNames := [], subclasses := [], abstract := false, collection := none, hasDel := false }), #[none, none, (some (.str (Str.ofString "Scene") 245)), (some (.str (Str.ofString "Scene") 253)), (some (.builtin "object.__new__")), (some (.bool true))]⟩
noncomputable def o66 (P : Params) : Obj := ⟨(.type "getset_descriptor"), none, (.fields #[(.str (Str.ofString "__dict__") 279), (.ref 65), (.builtin "function.__dict__"), (.builtin "function.__dict__#set")]), #[]⟩
noncomputable def o67 (P : Params) : Obj := ⟨(.type "getset_descriptor"), none, (.fields #[(.str (Str.ofString "__weakref__") 281), (.ref 65), (.builtin "ExceptionGroup.__weakref__"), .none]), #[]⟩
noncomputable def o68 (P : Params) : Obj := ⟨(.type "super"), none, (.fields #[(.ref 65), (.ref 65), (.ref 65)]), #[]⟩
noncomputable def o69 (P : Params) : Obj := ⟨(.type "builtin_function_or_method"), none, (.fields #[(.builtin "object.__init_subclass__"), (.ref 65)]), #[]⟩
noncomputable def o70 (P : Params) : Obj := ⟨(.type "tuple"), none, (.seq #[] 0), #[]⟩
noncomputable def o71 (P : Params) : Obj := ⟨.none, none, (.fields #[]), #[]⟩
noncomputable def o72 (P : Params) : Obj := ⟨(.type "tuple"), none, (.seq #[(.str (Str.ofString "flag") 289)] 0), #[]⟩
noncomputable def o73 (P : Params) : Obj := ⟨(.type "tuple"), none, (.seq #[] 0), #[]⟩
noncomputable def o74 (P : Params) : Obj := ⟨.none, none, (.func { name := (Str.ofString "attach_wanted"), qualname := (Str.ofString "attach_wanted"), params := stArgs (topAt 8), body := .stmts (stBody (topAt 8)), scope := stScope (topAt 8), globals := 0, closure := [], defaults := .none, kwdefaults := .none, doc := .none, pyModule := .none, annotations := none, code := .none, closureTuple := .none, builtins := 0 }), #[]⟩
noncomputable def o75 (P : Params) : Obj := ⟨(.type "code"), none, (.fields #[(.str (Str.ofString "attach_wanted") 286), (.str (Str.ofString "attach_wanted") 287), (.str (Str.ofString "/claim/cut.py") 288), (.int 30 0), (.int 1 0), (.int 0 0), (.int 0 0), (.int 3 0), (.ref 70), (.bool true), (.int 181 0), (.ref 71), .none, (.ref 72), (.ref 73), (.ref 74), (.int 290 0), (.int 30 0), (.str (Str.ofString "/claim/cut.py") 291)]), #[]⟩
noncomputable def o76 (P : Params) : Obj := ⟨(.type "function"), none, (.func { name := (Str.ofString "attach_wanted"), qualname := (Str.ofString "attach_wanted"), params := stArgs (topAt 8), body := .stmts (stBody (topAt 8)), scope := stScope (topAt 8), globals := 3, closure := [], defaults := .none, kwdefaults := .none, doc := .none, pyModule := (.str (Str.ofString "joinedhand.flags") 194), annotations := none, code := (.ref 75), closureTuple := .none, builtins := 0 }), #[]⟩
noncomputable def o77 (P : Params) : Obj := ⟨(.type "tuple"), none, (.seq #[] 0), #[]⟩
noncomputable def o78 (P : Params) : Obj := ⟨.none, none, (.fields #[]), #[]⟩
noncomputable def o79 (P : Params) : Obj := ⟨(.type "tuple"), none, (.seq #[(.str (Str.ofString "number") 296)] 0), #[]⟩
noncomputable def o80 (P : Params) : Obj := ⟨(.type "tuple"), none, (.seq #[] 0), #[]⟩
noncomputable def o81 (P : Params) : Obj := ⟨.none, none, (.func { name := (Str.ofString "class_bit"), qualname := (Str.ofString "class_bit"), params := stArgs (topAt 9), body := .stmts (stBody (topAt 9)), scope := stScope (topAt 9), globals := 0, closure := [], defaults := .none, kwdefaults := .none, doc := .none, pyModule := .none, annotations := none, code := .none, closureTuple := .none, builtins := 0 }), #[]⟩
noncomputable def o82 (P : Params) : Obj := ⟨(.type "code"), none, (.fields #[(.str (Str.ofString "class_bit") 293), (.str (Str.ofString "class_bit") 294), (.str (Str.ofString "/claim/cut.py") 295), (.int 32 0), (.int 1 0), (.int 0 0), (.int 0 0), (.int 3 0), (.ref 77), (.bool true), (.int 181 0), (.ref 78), .none, (.ref 79), (.ref 80), (.ref 81), (.int 297 0), (.int 32 0), (.str (Str.ofString "/claim/cut.py") 298)]), #[]⟩
noncomputable def o83 (P : Params) : Obj := ⟨(.type "function"), none, (.func F83), #[]⟩
noncomputable def o84 (P : Params) : Obj := ⟨(.type "tuple"), none, (.seq #[] 0), #[]⟩
noncomputable def o85 (P : Params) : Obj := ⟨.none, none, (.fields #[]), #[]⟩
noncomputable def o86 (P : Params) : Obj := ⟨(.type "tuple"), none, (.seq #[(.str (Str.ofString "gdef") 303), (.str (Str.ofString "lookup") 304), (.str (Str.ofString "glyph") 305), (.str (Str.ofString "number") 306), (.str (Str.ofString "wanted") 307)] 0), #[]⟩
noncomputable def o87 (P : Params) : Obj := ⟨(.type "tuple"), none, (.seq #[] 0), #[]⟩
noncomputable def o88 (P : Params) : Obj := ⟨.none, none, (.func { name := (Str.ofString "is_ignored"), qualname := (Str.ofString "is_ignored"), params := stArgs (topAt 10), body := .stmts (stBody (topAt 10)), scope := stScope (topAt 10), globals := 0, closure := [], defaults := .none, kwdefaults := .none, doc := .none, pyModule := .none, annotations := none, code := .none, closureTuple := .none, builtins := 0 }), #[]⟩
noncomputable def o89 (P : Params) : Obj := ⟨(.type "code"), none, (.fields #[(.str (Str.ofString "is_ignored") 300), (.str (Str.ofString "is_ignored") 301), (.str (Str.ofString "/claim/cut.py") 302), (.int 34 0), (.int 3 0), (.int 0 0), (.int 0 0), (.int 3 0), (.ref 84), (.bool true), (.int 181 0), (.ref 85), .none, (.ref 86), (.ref 87), (.ref 88), (.int 308 0), (.int 34 0), (.str (Str.ofString "/claim/cut.py") 309)]), #[]⟩
noncomputable def o90 (P : Params) : Obj := ⟨(.type "function"), none, (.func F90), #[]⟩
noncomputable def o91 (P : Params) : Obj := ⟨(.type "tuple"), none, (.seq #[] 0), #[]⟩
noncomputable def o92 (P : Params) : Obj := ⟨.none, none, (.fields #[]), #[]⟩
noncomputable def o93 (P : Params) : Obj := ⟨(.type "tuple"), none, (.seq #[(.str (Str.ofString "scene") 314), (.str (Str.ofString "at") 315)] 0), #[]⟩
noncomputable def o94 (P : Params) : Obj := ⟨(.type "tuple"), none, (.seq #[] 0), #[]⟩
noncomputable def o95 (P : Params) : Obj := ⟨.none, none, (.func { name := (Str.ofString "passes"), qualname := (Str.ofString "passes"), params := stArgs (topAt 11), body := .stmts (stBody (topAt 11)), scope := stScope (topAt 11), globals := 0, closure := [], defaults := .none, kwdefaults := .none, doc := .none, pyModule := .none, annotations := none, code := .none, closureTuple := .none, builtins := 0 }), #[]⟩
noncomputable def o96 (P : Params) : Obj := ⟨(.type "code"), none, (.fields #[(.str (Str.ofString "passes") 311), (.str (Str.ofString "passes") 312), (.str (Str.ofString "/claim/cut.py") 313), (.int 44 0), (.int 2 0), (.int 0 0), (.int 0 0), (.int 3 0), (.ref 91), (.bool true), (.int 181 0), (.ref 92), .none, (.ref 93), (.ref 94), (.ref 95), (.int 316 0), (.int 44 0), (.str (Str.ofString "/claim/cut.py") 317)]), #[]⟩
noncomputable def o97 (P : Params) : Obj := ⟨(.type "function"), none, (.func F97), #[]⟩
noncomputable def o98 (P : Params) : Obj := ⟨(.type "tuple"), none, (.seq #[(.str (Str.ofString "zwj") 321), (.str (Str.ofString "hidden") 322)] 0), #[]⟩
noncomputable def o3_3 (P : Params) : Obj := ⟨(.type "dict"), none, (.dict #[⟨PyData.keyHash P (Str.ofString "__name__"), (.str (Str.ofString "__name__") 165), (.str (Str.ofString "joinedhand.buffer") 390)⟩, ⟨PyData.keyHash P (Str.ofString "__doc__"), (.str (Str.ofString "__doc__") 166), .none⟩, ⟨PyData.keyHash P (Str.ofString "__package__"), (.str (Str.ofString "__package__") 167), .none⟩, ⟨PyData.keyHash P (Str.ofString "__loader__"), (.str (Str.ofString "__loader__") 168), (.builtin "__main__.__loader__#opaque")⟩, ⟨PyData.keyHash P (Str.ofString "__spec__"), (.str (Str.ofString "__spec__") 169), .none⟩, ⟨PyData.keyHash P (Str.ofString "__annotations__"), (.str (Str.ofString "__annotations__") 170), (.ref 6)⟩, ⟨PyData.keyHash P (Str.ofString "__builtins__"), (.str (Str.ofString "__builtins__") 171), (.ref 4)⟩, ⟨PyData.keyHash P (Str.ofString "__file__"), (.str (Str.ofString "__file__") 173), (.str (Str.ofString "/claim/cut.py") 172)⟩, ⟨PyData.keyHash P (Str.ofString "__cached__"), (.str (Str.ofString "__cached__") 174), .none⟩, ⟨PyData.keyHash P (Str.ofString "_wall"), (.str (Str.ofString "_wall") 193), (.ref 21)⟩, ⟨PyData.keyHash P (Str.ofString "IGNORE_BASES"), (.str (Str.ofString "IGNORE_BASES") 197), (.int 2 196)⟩, ⟨PyData.keyHash P (Str.ofString "IGNORE_LIGATURES"), (.str (Str.ofString "IGNORE_LIGATURES") 199), (.int 4 198)⟩, ⟨PyData.keyHash P (Str.ofString "IGNORE_MARKS"), (.str (Str.ofString "IGNORE_MARKS") 201), (.int 8 200)⟩, ⟨PyData.keyHash P (Str.ofString "USE_SET"), (.str (Str.ofString "USE_SET") 203), (.int 16 202)⟩, ⟨PyData.keyHash P (Str.ofString "Lookup"), (.str (Str.ofString "Lookup") 244), (.ref 43)⟩, ⟨PyData.keyHash P (Str.ofString "Scene"), (.str (Str.ofString "Scene") 285), (.ref 65)⟩, ⟨PyData.keyHash P (Str.ofString "attach_wanted"), (.str (Str.ofString "attach_wanted") 292), (.ref 76)⟩, ⟨PyData.keyHash P (Str.ofString "class_bit"), (.str (Str.ofString "class_bit") 299), (.ref 83)⟩, ⟨PyData.keyHash P (Str.ofString "is_ignored"), (.str (Str.ofString "is_ignored") 310), (.ref 90)⟩, ⟨PyData.keyHash P (Str.ofString "passes"), (.str (Str.ofString "passes") 318), (.ref 97)⟩, ⟨PyData.keyHash P (Str.ofString "KINDS_IN_INPUT"), (.str (Str.ofString "KINDS_IN_INPUT") 323), (.ref 98)⟩, ⟨PyData.keyHash P (Str.ofString "glyph_tests"), (.str (Str.ofString "glyph_tests") 329), (.ref 103)⟩, ⟨PyData.keyHash P (Str.ofString "fits"), (.str (Str.ofString "fits") 337), (.ref 110)⟩, ⟨PyData.keyHash P (Str.ofString "is_borne"), (.str (Str.ofString "is_borne") 345), (.ref 117)⟩, ⟨PyData.keyHash P (Str.ofString "found_at"), (.str (Str.ofString "found_at") 359), (.ref 124)⟩, ⟨PyData.keyHash P (Str.ofString "input_at"), (.str (Str.ofString "input_at") 371), (.ref 131)⟩, ⟨PyData.keyHash P (Str.ofString "is_piece"), (.str (Str.ofString "is_piece") 378), (.ref 138)⟩, ⟨PyData.keyHash P (Str.ofString "hold_together"), (.str (Str.ofString "hold_together") 389), (.ref 145)⟩] 28), #[]⟩
noncomputable def o12_3 (P : Params) : Obj := ⟨.none, none, (.fields #[(.int 1 0), (.int 0 0), (.ref 20), (.int 9 0), (.int 0 0), (.ref 27), (.int 20 0), (.int 0 0), (.ref 53), (.int 30 0), (.int 0 0), (.ref 75), (.int 32 0), (.int 0 0), (.ref 82), (.int 34 0), (.int 0 0), (.ref 89), (.int 44 0), (.int 0 0), (.ref 96), (.int 48 0), (.int 0 0), (.ref 102), (.int 50 0), (.int 0 0), (.ref 109), (.int 56 0), (.int 0 0), (.ref 116), (.int 58 0), (.int 0 0), (.ref 123), (.int 69 0), (.int 0 0), (.ref 130), (.int 79 0), (.int 0 0), (.ref 137), (.int 81 0), (.int 0 0), (.ref 144)]), #[]⟩
noncomputable def o99 (P : Params) : Obj := ⟨(.type "tuple"), none, (.seq #[] 0), #[]⟩
noncomputable def o100 (P : Params) : Obj := ⟨.none, none, (.fields #[]), #[]⟩
noncomputable def o101 (P : Params) : Obj := ⟨.none, none, (.func { name := (Str.ofString "glyph_tests"), qualname := (Str.ofString "glyph_tests"), params := stArgs (topAt 14), body := .stmts (stBody (topAt 14)), scope := stScope (topAt 14), globals := 0, closure := [], defaults := .none, kwdefaults := .none, doc := .none, pyModule := .none, annotations := none, code := .none, closureTuple := .none, builtins := 0 }), #[]⟩
noncomputable def o102 (P : Params) : Obj := ⟨(.type "code"), none, (.fields #[(.str (Str.ofString "glyph_tests") 324), (.str (Str.ofString "glyph_tests") 325), (.str (Str.ofString "/claim/cut.py") 326), (.int 48 0), (.int 1 0), (.int 0 0), (.int 0 0), (.int 3 0), (.ref 99), (.bool true), (.int 181 0), (.ref 100), .none, .none, .none, (.ref 101), (.int 327 0), (.int 48 0), (.str (Str.ofString "/claim/cut.py") 328)]), #[]⟩
noncomputable def o103 (P : Params) : Obj := ⟨(.type "function"), none, (.func F103), #[]⟩
noncomputable def o104 (P : Params) : Obj := ⟨(.type "tuple"), none, (.seq #[] 0), #[]⟩
noncomputable def o105 (P : Params) : Obj := ⟨.none, none, (.fields #[]), #[]⟩
noncomputable def o106 (P : Params) : Obj := ⟨(.type "tuple"), none, (.seq #[(.str (Str.ofString "test") 333), (.str (Str.ofString "glyph") 334)] 0), #[]⟩
noncomputable def o107 (P : Params) : Obj := ⟨(.type "tuple"), none, (.seq #[] 0), #[]⟩
noncomputable def o108 (P : Params) : Obj := ⟨.none, none, (.func { name := (Str.ofString "fits"), qualname := (Str.ofString "fits"), params := stArgs (topAt 15), body := .stmts (stBody (topAt 15)), scope := stScope (topAt 15), globals := 0, closure := [], defaults := .none, kwdefaults := .none, doc := .none, pyModule := .none, annotations := none, code := .none, closureTuple := .none, builtins := 0 }), #[]⟩
noncomputable def o109 (P : Params) : Obj := ⟨(.type "code"), none, (.fields #[(.str (Str.ofString "fits") 330), (.str (Str.ofString "fits") 331), (.str (Str.ofString "/claim/cut.py") 332), (.int 50 0), (.int 2 0), (.int 0 0), (.int 0 0), (.int 3 0), (.ref 104), (.bool true), (.int 181 0), (.ref 105), .none, (.ref 106), (.ref 107), (.ref 108), (.int 335 0), (.int 50 0), (.str (Str.ofString "/claim/cut.py") 336)]), #[]⟩
noncomputable def o110 (P : Params) : Obj := ⟨(.type "function"), none, (.func F110), #[]⟩
noncomputable def o111 (P : Params) : Obj := ⟨(.type "tuple"), none, (.seq #[] 0), #[]⟩
noncomputable def o112 (P : Params) : Obj := ⟨.none, none, (.fields #[]), #[]⟩
noncomputable def o113 (P : Params) : Obj := ⟨(.type "tuple"), none, (.seq #[(.str (Str.ofString "scene") 341), (.str (Str.ofString "info") 342)] 0), #[]⟩
noncomputable def o114 (P : Params) : Obj := ⟨(.type "tuple"), none, (.seq #[] 0), #[]⟩
noncomputable def o115 (P : Params) : Obj := ⟨.none, none, (.func { name := (Str.ofString "is_borne"), qualname := (Str.ofString "is_borne"), params := stArgs (topAt 16), body := .stmts (stBody (topAt 16)), scope := stScope (topAt 16), globals := 0, closure := [], defaults := .none, kwdefaults := .none, doc := .none, pyModule := .none, annotations := none, code := .none, closureTuple := .none, builtins := 0 }), #[]⟩
noncomputable def o116 (P : Params) : Obj := ⟨(.type "code"), none, (.fields #[(.str (Str.ofString "is_borne") 338), (.str (Str.ofString "is_borne") 339), (.str (Str.ofString "/claim/cut.py") 340), (.int 56 0), (.int 2 0), (.int 0 0), (.int 0 0), (.int 3 0), (.ref 111), (.bool true), (.int 181 0), (.ref 112), .none, (.ref 113), (.ref 114), (.ref 115), (.int 343 0), (.int 56 0), (.str (Str.ofString "/claim/cut.py") 344)]), #[]⟩
noncomputable def o117 (P : Params) : Obj := ⟨(.type "function"), none, (.func F117), #[]⟩
noncomputable def o118 (P : Params) : Obj := ⟨(.type "tuple"), none, (.seq #[] 0), #[]⟩
noncomputable def o119 (P : Params) : Obj := ⟨.none, none, (.fields #[]), #[]⟩
noncomputable def o120 (P : Params) : Obj := ⟨(.type "tuple"), none, (.seq #[(.str (Str.ofString "scene") 349), (.str (Str.ofString "at") 350), (.str (Str.ofString "step") 351), (.str (Str.ofString "test") 352), (.str (Str.ofString "kinds") 353), (.str (Str.ofString "is_input") 354), (.str (Str.ofString "here") 355), (.str (Str.ofString "info") 356)] 0), #[]⟩
noncomputable def o121 (P : Params) : Obj := ⟨(.type "tuple"), none, (.seq #[] 0), #[]⟩
noncomputable def o122 (P : Params) : Obj := ⟨.none, none, (.func { name := (Str.ofString "found_at"), qualname := (Str.ofString "found_at"), params := stArgs (topAt 17), body := .stmts (stBody (topAt 17)), scope := stScope (topAt 17), globals := 0, closure := [], defaults := .none, kwdefaults := .none, doc := .none, pyModule := .none, annotations := none, code := .none, closureTuple := .none, builtins := 0 }), #[]⟩
noncomputable def o123 (P : Params) : Obj := ⟨(.type "code"), none, (.fields #[(.str (Str.ofString "found_at") 346), (.str (Str.ofString "found_at") 347), (.str (Str.ofString "/claim/cut.py") 348), (.int 58 0), (.int 6 0), (.int 0 0), (.int 0 0), (.int 3 0), (.ref 118), (.bool true), (.int 181 0), (.ref 119), .none, (.ref 120), (.ref 121), (.ref 122), (.int 357 0), (.int 58 0), (.str (Str.ofString "/claim/cut.py") 358)]), #[]⟩
noncomputable def o124 (P : Params) : Obj := ⟨(.type "function"), none, (.func F124), #[]⟩
noncomputable def o125 (P : Params) : Obj := ⟨(.type "tuple"), none, (.seq #[] 0), #[]⟩
noncomputable def o126 (P : Params) : Obj := ⟨.none, none, (.fields #[]), #[]⟩
noncomputable def o127 (P : Params) : Obj := ⟨(.type "tuple"), none, (.seq #[(.str (Str.ofString "scene") 363), (.str (Str.ofString "at") 364), (.str (Str.ofString "tests") 365), (.str (Str.ofString "found") 366), (.str (Str.ofString "test") 367), (.str (Str.ofString "here") 368)] 0), #[]⟩
noncomputable def o128 (P : Params) : Obj := ⟨(.type "tuple"), none, (.seq #[] 0), #[]⟩
noncomputable def o129 (P : Params) : Obj := ⟨.none, none, (.func { name := (Str.ofString "input_at"), qualname := (Str.ofString "input_at"), params := stArgs (topAt 18), body := .stmts (stBody (topAt 18)), scope := stScope (topAt 18), globals := 0, closure := [], defaults := .none, kwdefaults := .none, doc := .none, pyModule := .none, annotations := none, code := .none, closureTuple := .none, builtins := 0 }), #[]⟩
noncomputable def o130 (P : Params) : Obj := ⟨(.type "code"), none, (.fields #[(.str (Str.ofString "input_at") 360), (.str (Str.ofString "input_at") 361), (.str (Str.ofString "/claim/cut.py") 362), (.int 69 0), (.int 3 0), (.int 0 0), (.int 0 0), (.int 3 0), (.ref 125), (.bool true), (.int 181 0), (.ref 126), .none, (.ref 127), (.ref 128), (.ref 129), (.int 369 0), (.int 69 0), (.str (Str.ofString "/claim/cut.py") 370)]), #[]⟩
noncomputable def o131 (P : Params) : Obj := ⟨(.type "function"), none, (.func F131), #[]⟩
noncomputable def o132 (P : Params) : Obj := ⟨(.type "tuple"), none, (.seq #[] 0), #[]⟩
noncomputable def o133 (P : Params) : Obj := ⟨.none, none, (.fields #[]), #[]⟩
noncomputable def o134 (P : Params) : Obj := ⟨(.type "tuple"), none, (.seq #[(.str (Str.ofString "info") 375)] 0), #[]⟩
noncomputable def o135 (P : Params) : Obj := ⟨(.type "tuple"), none, (.seq #[] 0), #[]⟩
noncomputable def o136 (P : Params) : Obj := ⟨.none, none, (.func { name := (Str.ofString "is_piece"), qualname := (Str.ofString "is_piece"), params := stArgs (topAt 19), body := .stmts (stBody (topAt 19)), scope := stScope (topAt 19), globals := 0, closure := [], defaults := .none, kwdefaults := .none, doc := .none, pyModule := .none, annotations := none, code := .none, closureTuple := .none, builtins := 0 }), #[]⟩
noncomputable def o137 (P : Params) : Obj := ⟨(.type "code"), none, (.fields #[(.str (Str.ofString "is_piece") 372), (.str (Str.ofString "is_piece") 373), (.str (Str.ofString "/claim/cut.py") 374), (.int 79 0), (.int 1 0), (.int 0 0), (.int 0 0), (.int 3 0), (.ref 132), (.bool true), (.int 181 0), (.ref 133), .none, (.ref 134), (.ref 135), (.ref 136), (.int 376 0), (.int 79 0), (.str (Str.ofString "/claim/cut.py") 377)]), #[]⟩
noncomputable def o138 (P : Params) : Obj := ⟨(.type "function"), none, (.func F138), #[]⟩
noncomputable def o139 (P : Params) : Obj := ⟨(.type "tuple"), none, (.seq #[] 0), #[]⟩
noncomputable def o140 (P : Params) : Obj := ⟨.none, none, (.fields #[]), #[]⟩
noncomputable def o141 (P : Params) : Obj := ⟨(.type "tuple"), none, (.seq #[(.str (Str.ofString "row") 382), (.str (Str.ofString "positions") 383), (.str (Str.ofString "first") 384), (.str (Str.ofString "at") 385), (.str (Str.ofString "other") 386)] 0), #[]⟩
noncomputable def o142 (P : Params) : Obj := ⟨(.type "tuple"), none, (.seq #[] 0), #[]⟩
noncomputable def o143 (P : Params) : Obj := ⟨.none, none, (.func { name := (Str.ofString "hold_together"), qualname := (Str.ofString "hold_together"), params := stArgs (topAt 20), body := .stmts (stBody (topAt 20)), scope := stScope (topAt 20), globals := 0, closure := [], defaults := .none, kwdefaults := .none, doc := .none, pyModule := .none, annotations := none, code := .none, closureTuple := .none, builtins := 0 }), #[]⟩
noncomputable def o144 (P : Params) : Obj := ⟨(.type "code"), none, (.fields #[(.str (Str.ofString "hold_together") 379), (.str (Str.ofString "hold_together") 380), (.str (Str.ofString "/claim/cut.py") 381), (.int 81 0), (.int 2 0), (.int 0 0), (.int 0 0), (.int 3 0), (.ref 139), (.bool true), (.int 181 0), (.ref 140), .none, (.ref 141), (.ref 142), (.ref 143), (.int 387 0), (.int 81 0), (.str (Str.ofString "/claim/cut.py") 388)]), #[]⟩
noncomputable def o145 (P : Params) : Obj := ⟨(.type "function"), none, (.func F145), #[]⟩
noncomputable def o3_4 (P : Params) : Obj := ⟨(.type "dict"), none, (.dict #[⟨PyData.keyHash P (Str.ofString "__name__"), (.str (Str.ofString "__name__") 165), (.str (Str.ofString "joinedhand.buffer") 390)⟩, ⟨PyData.keyHash P (Str.ofString "__doc__"), (.str (Str.ofString "__doc__") 166), .none⟩, ⟨PyData.keyHash P (Str.ofString "__package__"), (.str (Str.ofString "__package__") 167), .none⟩, ⟨PyData.keyHash P (Str.ofString "__loader__"), (.str (Str.ofString "__loader__") 168), (.builtin "__main__.__loader__#opaque")⟩, ⟨PyData.keyHash P (Str.ofString "__spec__"), (.str (Str.ofString "__spec__") 169), .none⟩, ⟨PyData.keyHash P (Str.ofString "__annotations__"), (.str (Str.ofString "__annotations__") 170), (.ref 6)⟩, ⟨PyData.keyHash P (Str.ofString "__builtins__"), (.str (Str.ofString "__builtins__") 171), (.ref 4)⟩, ⟨PyData.keyHash P (Str.ofString "__file__"), (.str (Str.ofString "__file__") 173), (.str (Str.ofString "/claim/cut.py") 172)⟩, ⟨PyData.keyHash P (Str.ofString "__cached__"), (.str (Str.ofString "__cached__") 174), .none⟩, ⟨PyData.keyHash P (Str.ofString "_wall"), (.str (Str.ofString "_wall") 193), (.ref 21)⟩, ⟨PyData.keyHash P (Str.ofString "IGNORE_BASES"), (.str (Str.ofString "IGNORE_BASES") 197), (.int 2 196)⟩, ⟨PyData.keyHash P (Str.ofString "IGNORE_LIGATURES"), (.str (Str.ofString "IGNORE_LIGATURES") 199), (.int 4 198)⟩, ⟨PyData.keyHash P (Str.ofString "IGNORE_MARKS"), (.str (Str.ofString "IGNORE_MARKS") 201), (.int 8 200)⟩, ⟨PyData.keyHash P (Str.ofString "USE_SET"), (.str (Str.ofString "USE_SET") 203), (.int 16 202)⟩, ⟨PyData.keyHash P (Str.ofString "Lookup"), (.str (Str.ofString "Lookup") 244), (.ref 43)⟩, ⟨PyData.keyHash P (Str.ofString "Scene"), (.str (Str.ofString "Scene") 285), (.ref 65)⟩, ⟨PyData.keyHash P (Str.ofString "attach_wanted"), (.str (Str.ofString "attach_wanted") 292), (.ref 76)⟩, ⟨PyData.keyHash P (Str.ofString "class_bit"), (.str (Str.ofString "class_bit") 299), (.ref 83)⟩, ⟨PyData.keyHash P (Str.ofString "is_ignored"), (.str (Str.ofString "is_ignored") 310), (.ref 90)⟩, ⟨PyData.keyHash P (Str.ofString "passes"), (.str (Str.ofString "passes") 318), (.ref 97)⟩, ⟨PyData.keyHash P (Str.ofString "KINDS_IN_INPUT"), (.str (Str.ofString "KINDS_IN_INPUT") 323), (.ref 98)⟩, ⟨PyData.keyHash P (Str.ofString "glyph_tests"), (.str (Str.ofString "glyph_tests") 329), (.ref 103)⟩, ⟨PyData.keyHash P (Str.ofString "fits"), (.str (Str.ofString "fits") 337), (.ref 110)⟩, ⟨PyData.keyHash P (Str.ofString "is_borne"), (.str (Str.ofString "is_borne") 345), (.ref 117)⟩, ⟨PyData.keyHash P (Str.ofString "found_at"), (.str (Str.ofString "found_at") 359), (.ref 124)⟩, ⟨PyData.keyHash P (Str.ofString "input_at"), (.str (Str.ofString "input_at") 371), (.ref 131)⟩, ⟨PyData.keyHash P (Str.ofString "is_piece"), (.str (Str.ofString "is_piece") 378), (.ref 138)⟩, ⟨PyData.keyHash P (Str.ofString "hold_together"), (.str (Str.ofString "hold_together") 389), (.ref 145)⟩, ⟨PyData.keyHash P (Str.ofString "Info"), (.str (Str.ofString "Info") 451), (.ref 176)⟩] 29), #[]⟩
noncomputable def o12_4 (P : Params) : Obj := ⟨.none, none, (.fields #[(.int 1 0), (.int 0 0), (.ref 20), (.int 9 0), (.int 0 0), (.ref 27), (.int 20 0), (.int 0 0), (.ref 53), (.int 30 0), (.int 0 0), (.ref 75), (.int 32 0), (.int 0 0), (.ref 82), (.int 34 0), (.int 0 0), (.ref 89), (.int 44 0), (.int 0 0), (.ref 96), (.int 48 0), (.int 0 0), (.ref 102), (.int 50 0), (.int 0 0), (.ref 109), (.int 56 0), (.int 0 0), (.ref 116), (.int 58 0), (.int 0 0), (.ref 123), (.int 69 0), (.int 0 0), (.ref 130), (.int 79 0), (.int 0 0), (.ref 137), (.int 81 0), (.int 0 0), (.ref 144), (.int 92 0), (.int 0 0), (.ref 151)]), #[]⟩
noncomputable def o146 (P : Params) : Obj := ⟨(.type "tuple"), none, (.seq #[] 0), #[]⟩
noncomputable def o147 (P : Params) : Obj := ⟨(.type "builtin_function_or_method"), none, (.fields #[(.builtin "type.__prepare__"), (.type "type")]), #[]⟩
noncomputable def o148 (P : Params) : Obj := ⟨(.type "dict"), none, (.dict #[⟨PyData.keyHash P (Str.ofString "__module__"), (.str (Str.ofString "__module__") 399), (.str (Str.ofString "joinedhand.buffer") 390)⟩, ⟨PyData.keyHash P (Str.ofString "__qualname__"), (.str (Str.ofString "__qualname__") 401), (.str (Str.ofString "Info") 400)⟩, ⟨PyData.keyHash P (Str.ofString "__firstlineno__"), (.str (Str.ofString "__firstlineno__") 403), (.int 92 402)⟩, ⟨PyData.keyHash P (Str.ofString "__init__"), (.str (Str.ofString "__init__") 413), (.ref 159)⟩, ⟨PyData.keyHash P (Str.ofString "copied"), (.str (Str.ofString "copied") 420), (.ref 166)⟩, ⟨PyData.keyHash P (Str.ofString "told"), (.str (Str.ofString "told") 427), (.ref 173)⟩, ⟨PyData.keyHash P (Str.ofString "__static_attributes__"), (.str (Str.ofString "__static_attributes__") 444), (.ref 174)⟩] 7), #[]⟩
noncomputable def o149 (P : Params) : Obj := ⟨(.type "tuple"), none, (.seq #[] 0), #[]⟩
noncomputable def o150 (P : Params) : Obj := ⟨.none, none, (.fields #[(.int 94 0), (.int 4 0), (.ref 158), (.int 112 0), (.int 4 0), (.ref 165), (.int 115 0), (.int 4 0), (.ref 172)]), #[]⟩
noncomputable def o151 (P : Params) : Obj := ⟨(.type "code"), none, (.fields #[(.str (Str.ofString "Info") 394), (.str (Str.ofString "Info") 395), (.str (Str.ofString "/claim/cut.py") 396), (.int 92 0), (.int 0 0), (.int 0 0), (.int 0 0), (.int 0 0), (.ref 149), (.bool false), (.int 181 0), (.ref 150), .none, .none, .none, .none, (.int 397 0), (.int 92 0), (.str (Str.ofString "/claim/cut.py") 398)]), #[]⟩
noncomputable def o152 (P : Params) : Obj := ⟨(.type "frame"), none, .plain, #[(some (.ref 151)), (some (.ref 3)), (some (.ref 148)), none, (some (.str (Str.ofString "joinedhand.buffer") 390)), none, (some (.ref 0))]⟩
noncomputable def o153 (P : Params) : Obj := ⟨(.type "tuple"), none, (.seq #[] 0), #[]⟩
noncomputable def o154 (P : Params) : Obj := ⟨.none, none, (.fields #[]), #[]⟩
noncomputable def o155 (P : Params) : Obj := ⟨(.type "tuple"), none, (.seq #[(.str (Str.ofString "self") 407), (.str (Str.ofString "code") 408), (.str (Str.ofString "glyph") 409), (.str (Str.ofString "cluster") 410)] 0), #[]⟩
noncomputable def o156 (P : Params) : Obj := ⟨(.type "tuple"), none, (.seq #[] 0), #[]⟩
noncomputable def o157 (P : Params) : Obj := ⟨.none, none, (.func { name := (Str.ofString "__init__"), qualname := (Str.ofString "Info.__init__"), params := stArgs (inAt 22 0), body := .stmts (stBody (inAt 22 0)), scope := stScope (inAt 22 0), globals := 0, closure := [], defaults := .none, kwdefaults := .none, doc := .none, pyModule := .none, annotations := none, code := .none, closureTuple := .none, builtins := 0 }), #[]⟩
noncomputable def o158 (P : Params) : Obj := ⟨(.type "code"), none, (.fields #[(.str (Str.ofString "__init__") 404), (.str (Str.ofString "Info.__init__") 405), (.str (Str.ofString "/claim/cut.py") 406), (.int 94 0), (.int 4 0), (.int 0 0), (.int 0 0), (.int 3 0), (.ref 153), (.bool true), (.int 181 0), (.ref 154), .none, (.ref 155), (.ref 156), (.ref 157), (.int 411 0), (.int 94 0), (.str (Str.ofString "/claim/cut.py") 412)]), #[]⟩
noncomputable def o159 (P : Params) : Obj := ⟨(.type "function"), none, (.func F159), #[]⟩
noncomputable def o160 (P : Params) : Obj := ⟨(.type "tuple"), none, (.seq #[] 0), #[]⟩
noncomputable def o161 (P : Params) : Obj := ⟨.none, none, (.fields #[]), #[]⟩
noncomputable def o162 (P : Params) : Obj := ⟨(.type "tuple"), none, (.seq #[(.str (Str.ofString "self") 417)] 0), #[]⟩
noncomputable def o163 (P : Params) : Obj := ⟨(.type "tuple"), none, (.seq #[] 0), #[]⟩
noncomputable def o164 (P : Params) : Obj := ⟨.none, none, (.func { name := (Str.ofString "copied"), qualname := (Str.ofString "Info.copied"), params := stArgs (inAt 22 1), body := .stmts (stBody (inAt 22 1)), scope := stScope (inAt 22 1), globals := 0, closure := [], defaults := .none, kwdefaults := .none, doc := .none, pyModule := .none, annotations := none, code := .none, closureTuple := .none, builtins := 0 }), #[]⟩
noncomputable def o165 (P : Params) : Obj := ⟨(.type "code"), none, (.fields #[(.str (Str.ofString "copied") 414), (.str (Str.ofString "Info.copied") 415), (.str (Str.ofString "/claim/cut.py") 416), (.int 112 0), (.int 1 0), (.int 0 0), (.int 0 0), (.int 3 0), (.ref 160), (.bool true), (.int 181 0), (.ref 161), .none, (.ref 162), (.ref 163), (.ref 164), (.int 418 0), (.int 112 0), (.str (Str.ofString "/claim/cut.py") 419)]), #[]⟩
noncomputable def o166 (P : Params) : Obj := ⟨(.type "function"), none, (.func { name := (Str.ofString "copied"), qualname := (Str.ofString "Info.copied"), params := stArgs (inAt 22 1), body := .stmts (stBody (inAt 22 1)), scope := stScope (inAt 22 1), globals := 3, closure := [], defaults := .none, kwdefaults := .none, doc := .none, pyModule := (.str (Str.ofString "joinedhand.buffer") 390), annotations := none, code := (.ref 165), closureTuple := .none, builtins := 0 }), #[]⟩
noncomputable def o167 (P : Params) : Obj := ⟨(.type "tuple"), none, (.seq #[] 0), #[]⟩
noncomputable def o168 (P : Params) : Obj := ⟨.none, none, (.fields #[]), #[]⟩
noncomputable def o169 (P : Params) : Obj := ⟨(.type "tuple"), none, (.seq #[(.str (Str.ofString "self") 424)] 0), #[]⟩
noncomputable def o170 (P : Params) : Obj := ⟨(.type "tuple"), none, (.seq #[] 0), #[]⟩
noncomputable def o171 (P : Params) : Obj := ⟨.none, none, (.func { name := (Str.ofString "told"), qualname := (Str.ofString "Info.told"), params := stArgs (inAt 22 2), body := .stmts (stBody (inAt 22 2)), scope := stScope (inAt 22 2), globals := 0, closure := [], defaults := .none, kwdefaults := .none, doc := .none, pyModule := .none, annotations := none, code := .none, closureTuple := .none, builtins := 0 }), #[]⟩
noncomputable def o172 (P : Params) : Obj := ⟨(.type "code"), none, (.fields #[(.str (Str.ofString "told") 421), (.str (Str.ofString "Info.told") 422), (.str (Str.ofString "/claim/cut.py") 423), (.int 115 0), (.int 1 0), (.int 0 0), (.int 0 0), (.int 3 0), (.ref 167), (.bool true), (.int 181 0), (.ref 168), .none, (.ref 169), (.ref 170), (.ref 171), (.int 425 0), (.int 115 0), (.str (Str.ofString "/claim/cut.py") 426)]), #[]⟩
noncomputable def o173 (P : Params) : Obj := ⟨(.type "function"), none, (.func { name := (Str.ofString "told"), qualname := (Str.ofString "Info.told"), params := stArgs (inAt 22 2), body := .stmts (stBody (inAt 22 2)), scope := stScope (inAt 22 2), globals := 3, closure := [], defaults := .none, kwdefaults := .none, doc := .none, pyModule := (.str (Str.ofString "joinedhand.buffer") 390), annotations := none, code := (.ref 172), closureTuple := .none, builtins := 0 }), #[]⟩
noncomputable def o174 (P : Params) : Obj := ⟨(.type "tuple"), none, (.seq #[(.str (Str.ofString "bond") 428), (.str (Str.ofString "cluster") 429), (.str (Str.ofString "code") 430), (.str (Str.ofString "glyph") 431), (.str (Str.ofString "is_unsafe") 432), (.str (Str.ofString "kind") 433), (.str (Str.ofString "lig_count") 434), (.str (Str.ofString "lig_id") 435), (.str (Str.ofString "lig_part") 436), (.str (Str.ofString "mask") 437), (.str (Str.ofString "parent") 438), (.str (Str.ofString "split_id") 439), (.str (Str.ofString "x_advance") 440), (.str (Str.ofString "x_offset") 441), (.str (Str.ofString "y_advance") 442), (.str (Str.ofString "y_offset") 443)] 0), #[]⟩
noncomputable def o175 (P : Params) : Obj := ⟨(.type "dict"), none, (.dict #[⟨PyData.keyHash P (Str.ofString "__module__"), (.str (Str.ofString "__module__") 399), (.str (Str.ofString "joinedhand.buffer") 390)⟩, ⟨PyData.keyHash P (Str.ofString "__firstlineno__"), (.str (Str.ofString "__firstlineno__") 403), (.int 92 402)⟩, ⟨PyData.keyHash P (Str.ofString "__init__"), (.str (Str.ofString "__init__") 413), (.ref 159)⟩, ⟨PyData.keyHash P (Str.ofString "copied"), (.str (Str.ofString "copied") 420), (.ref 166)⟩, ⟨PyData.keyHash P (Str.ofString "told"), (.str (Str.ofString "told") 427), (.ref 173)⟩, ⟨PyData.keyHash P (Str.ofString "__static_attributes__"), (.str (Str.ofString "__static_attributes__") 444), (.ref 174)⟩, ⟨PyData.keyHash P (Str.ofString "__dict__"), (.str (Str.ofString "__dict__") 446), (.ref 177)⟩, ⟨PyData.keyHash P (Str.ofString "__weakref__"), (.str (Str.ofString "__weakref__") 448), (.ref 178)⟩, ⟨PyData.keyHash P (Str.ofString "__doc__"), (.str (Str.ofString "__doc__") 449), .none⟩] 4), #[]⟩
noncomputable def o176 (P : Params) : Obj := ⟨(.type "type"), none, (.cls { name := (Str.ofString "Info"), bases := [(.type "object")], mro := [(.ref 176), (.type "object")], ns := 175, qualname := (Str.ofString "Info"), hasDict := true, slotNames := [], subclasses := [], abstract := false, collection := none, hasDel := false }), #[none, none, (some (.str (Str.ofString "Info") 392)), (some (.str (Str.ofString "Info") 400)), (some (.builtin "object.__new__")), (some (.bool true))]⟩
noncomputable def o177 (P : Params) : Obj := ⟨(.type "getset_descriptor"), none, (.fields #[(.str (Str.ofString "__dict__") 445), (.ref 176), (.builtin "function.__dict__"), (.builtin "function.__dict__#set")]), #[]⟩
noncomputable def o178 (P : Params) : Obj := ⟨(.type "getset_descriptor"), none, (.fields #[(.str (Str.ofString "__weakref__") 447), (.ref 176), (.builtin "ExceptionGroup.__weakref__"), .none]), #[]⟩
noncomputable def o179 (P : Params) : Obj := ⟨(.type "super"), none, (.fields #[(.ref 176), (.ref 176), (.ref 176)]), #[]⟩
noncomputable def o180 (P : Params) : Obj := ⟨(.type "builtin_function_or_method"), none, (.fields #[(.builtin "object.__init_subclass__"), (.ref 176)]), #[]⟩
noncomputable def o3_5 (P : Params) : Obj := ⟨(.type "dict"), none, (.dict #[⟨PyData.keyHash P (Str.ofString "__name__"), (.str (Str.ofString "__name__") 165), (.str (Str.ofString "joinedhand.buffer") 390)⟩, ⟨PyData.keyHash P (Str.ofString "__doc__"), (.str (Str.ofString "__doc__") 166), .none⟩, ⟨PyData.keyHash P (Str.ofString "__package__"), (.str (Str.ofString "__package__") 167), .none⟩, ⟨PyData.keyHash P (Str.ofString "__loader__"), (.str (Str.ofString "__loader__") 168), (.builtin "__main__.__loader__#opaque")⟩, ⟨PyData.keyHash P (Str.ofString "__spec__"), (.str (Str.ofString "__spec__") 169), .none⟩, ⟨PyData.keyHash P (Str.ofString "__annotations__"), (.str (Str.ofString "__annotations__") 170), (.ref 6)⟩, ⟨PyData.keyHash P (Str.ofString "__builtins__"), (.str (Str.ofString "__builtins__") 171), (.ref 4)⟩, ⟨PyData.keyHash P (Str.ofString "__file__"), (.str (Str.ofString "__file__") 173), (.str (Str.ofString "/claim/cut.py") 172)⟩, ⟨PyData.keyHash P (Str.ofString "__cached__"), (.str (Str.ofString "__cached__") 174), .none⟩, ⟨PyData.keyHash P (Str.ofString "_wall"), (.str (Str.ofString "_wall") 193), (.ref 21)⟩, ⟨PyData.keyHash P (Str.ofString "IGNORE_BASES"), (.str (Str.ofString "IGNORE_BASES") 197), (.int 2 196)⟩, ⟨PyData.keyHash P (Str.ofString "IGNORE_LIGATURES"), (.str (Str.ofString "IGNORE_LIGATURES") 199), (.int 4 198)⟩, ⟨PyData.keyHash P (Str.ofString "IGNORE_MARKS"), (.str (Str.ofString "IGNORE_MARKS") 201), (.int 8 200)⟩, ⟨PyData.keyHash P (Str.ofString "USE_SET"), (.str (Str.ofString "USE_SET") 203), (.int 16 202)⟩, ⟨PyData.keyHash P (Str.ofString "Lookup"), (.str (Str.ofString "Lookup") 244), (.ref 43)⟩, ⟨PyData.keyHash P (Str.ofString "Scene"), (.str (Str.ofString "Scene") 285), (.ref 65)⟩, ⟨PyData.keyHash P (Str.ofString "attach_wanted"), (.str (Str.ofString "attach_wanted") 292), (.ref 76)⟩, ⟨PyData.keyHash P (Str.ofString "class_bit"), (.str (Str.ofString "class_bit") 299), (.ref 83)⟩, ⟨PyData.keyHash P (Str.ofString "is_ignored"), (.str (Str.ofString "is_ignored") 310), (.ref 90)⟩, ⟨PyData.keyHash P (Str.ofString "passes"), (.str (Str.ofString "passes") 318), (.ref 97)⟩, ⟨PyData.keyHash P (Str.ofString "KINDS_IN_INPUT"), (.str (Str.ofString "KINDS_IN_INPUT") 323), (.ref 98)⟩, ⟨PyData.keyHash P (Str.ofString "glyph_tests"), (.str (Str.ofString "glyph_tests") 329), (.ref 103)⟩, ⟨PyData.keyHash P (Str.ofString "fits"), (.str (Str.ofString "fits") 337), (.ref 110)⟩, ⟨PyData.keyHash P (Str.ofString "is_borne"), (.str (Str.ofString "is_borne") 345), (.ref 117)⟩, ⟨PyData.keyHash P (Str.ofString "found_at"), (.str (Str.ofString "found_at") 359), (.ref 124)⟩, ⟨PyData.keyHash P (Str.ofString "input_at"), (.str (Str.ofString "input_at") 371), (.ref 131)⟩, ⟨PyData.keyHash P (Str.ofString "is_piece"), (.str (Str.ofString "is_piece") 378), (.ref 138)⟩, ⟨PyData.keyHash P (Str.ofString "hold_together"), (.str (Str.ofString "hold_together") 389), (.ref 145)⟩, ⟨PyData.keyHash P (Str.ofString "Info"), (.str (Str.ofString "Info") 451), (.ref 176)⟩, ⟨PyData.keyHash P (Str.ofString "Buffer"), (.str (Str.ofString "Buffer") 516), (.ref 227)⟩] 30), #[]⟩
noncomputable def o12_5 (P : Params) : Obj := ⟨.none, none, (.fields #[(.int 1 0), (.int 0 0), (.ref 20), (.int 9 0), (.int 0 0), (.ref 27), (.int 20 0), (.int 0 0), (.ref 53), (.int 30 0), (.int 0 0), (.ref 75), (.int 32 0), (.int 0 0), (.ref 82), (.int 34 0), (.int 0 0), (.ref 89), (.int 44 0), (.int 0 0), (.ref 96), (.int 48 0), (.int 0 0), (.ref 102), (.int 50 0), (.int 0 0), (.ref 109), (.int 56 0), (.int 0 0), (.ref 116), (.int 58 0), (.int 0 0), (.ref 123), (.int 69 0), (.int 0 0), (.ref 130), (.int 79 0), (.int 0 0), (.ref 137), (.int 81 0), (.int 0 0), (.ref 144), (.int 92 0), (.int 0 0), (.ref 151), (.int 117 0), (.int 0 0), (.ref 186)]), #[]⟩
noncomputable def o181 (P : Params) : Obj := ⟨(.type "tuple"), none, (.seq #[] 0), #[]⟩
noncomputable def o182 (P : Params) : Obj := ⟨(.type "builtin_function_or_method"), none, (.fields #[(.builtin "type.__prepare__"), (.type "type")]), #[]⟩
noncomputable def o183 (P : Params) : Obj := ⟨(.type "dict"), none, (.dict #[⟨PyData.keyHash P (Str.ofString "__module__"), (.str (Str.ofString "__module__") 459), (.str (Str.ofString "joinedhand.buffer") 390)⟩, ⟨PyData.keyHash P (Str.ofString "__qualname__"), (.str (Str.ofString "__qualname__") 461), (.str (Str.ofString "Buffer") 460)⟩, ⟨PyData.keyHash P (Str.ofString "__firstlineno__"), (.str (Str.ofString "__firstlineno__") 463), (.int 117 462)⟩, ⟨PyData.keyHash P (Str.ofString "__init__"), (.str (Str.ofString "__init__") 472), (.ref 195)⟩, ⟨PyData.keyHash P (Str.ofString "glyphs"), (.str (Str.ofString "glyphs") 478), (.ref 200)⟩, ⟨PyData.keyHash P (Str.ofString "clusters"), (.str (Str.ofString "clusters") 484), (.ref 205)⟩, ⟨PyData.keyHash P (Str.ofString "told"), (.str (Str.ofString "told") 490), (.ref 210)⟩, ⟨PyData.keyHash P (Str.ofString "next_lig"), (.str (Str.ofString "next_lig") 497), (.ref 217)⟩, ⟨PyData.keyHash P (Str.ofString "next_split"), (.str (Str.ofString "next_split") 504), (.ref 224)⟩, ⟨PyData.keyHash P (Str.ofString "__static_attributes__"), (.str (Str.ofString "__static_attributes__") 509), (.ref 225)⟩] 10), #[]⟩
noncomputable def o184 (P : Params) : Obj := ⟨(.type "tuple"), none, (.seq #[] 0), #[]⟩
noncomputable def o185 (P : Params) : Obj := ⟨.none, none, (.fields #[(.int 119 0), (.int 4 0), (.ref 194), (.int 125 0), (.int 4 0), (.ref 199), (.int 128 0), (.int 4 0), (.ref 204), (.int 131 0), (.int 4 0), (.ref 209), (.int 134 0), (.int 4 0), (.ref 216), (.int 138 0), (.int 4 0), (.ref 223)]), #[]⟩
noncomputable def o186 (P : Params) : Obj := ⟨(.type "code"), none, (.fields #[(.str (Str.ofString "Buffer") 454), (.str (Str.ofString "Buffer") 455), (.str (Str.ofString "/claim/cut.py") 456), (.int 117 0), (.int 0 0), (.int 0 0), (.int 0 0), (.int 0 0), (.ref 184), (.bool false), (.int 181 0), (.ref 185), .none, .none, .none, .none, (.int 457 0), (.int 117 0), (.str (Str.ofString "/claim/cut.py") 458)]), #[]⟩
noncomputable def o187 (P : Params) : Obj := ⟨(.type "frame"), none, .plain, #[(some (.ref 186)), (some (.ref 3)), (some (.ref 183)), none, (some (.str (Str.ofString "joinedhand.buffer") 390)), none, (some (.ref 0))]⟩
noncomputable def o188 (P : Params) : Obj := ⟨(.type "tuple"), none, (.seq #[(.bool false)] 0), #[]⟩
noncomputable def o189 (P : Params) : Obj := ⟨(.type "tuple"), none, (.seq #[] 0), #[]⟩
noncomputable def o190 (P : Params) : Obj := ⟨.none, none, (.fields #[]), #[]⟩
noncomputable def o191 (P : Params) : Obj := ⟨(.type "tuple"), none, (.seq #[(.str (Str.ofString "self") 467), (.str (Str.ofString "infos") 468), (.str (Str.ofString "is_backward") 469)] 0), #[]⟩
noncomputable def o192 (P : Params) : Obj := ⟨(.type "tuple"), none, (.seq #[] 0), #[]⟩
noncomputable def o193 (P : Params) : Obj := ⟨.none, none, (.func { name := (Str.ofString "__init__"), qualname := (Str.ofString "Buffer.__init__"), params := stArgs (inAt 23 0), body := .stmts (stBody (inAt 23 0)), scope := stScope (inAt 23 0), globals := 0, closure := [], defaults := .none, kwdefaults := .none, doc := .none, pyModule := .none, annotations := none, code := .none, closureTuple := .none, builtins := 0 }), #[]⟩
noncomputable def o194 (P : Params) : Obj := ⟨(.type "code"), none, (.fields #[(.str (Str.ofString "__init__") 464), (.str (Str.ofString "Buffer.__init__") 465), (.str (Str.ofString "/claim/cut.py") 466), (.int 119 0), (.int 3 0), (.int 0 0), (.int 0 0), (.int 3 0), (.ref 189), (.bool true), (.int 181 0), (.ref 190), .none, (.ref 191), (.ref 192), (.ref 193), (.int 470 0), (.int 119 0), (.str (Str.ofString "/claim/cut.py") 471)]), #[]⟩
noncomputable def o195 (P : Params) : Obj := ⟨(.type "function"), none, (.func F195), #[]⟩
noncomputable def o196 (P : Params) : Obj := ⟨(.type "tuple"), none, (.seq #[] 0), #[]⟩
noncomputable def o197 (P : Params) : Obj := ⟨.none, none, (.fields #[]), #[]⟩
noncomputable def o198 (P : Params) : Obj := ⟨.none, none, (.func { name := (Str.ofString "glyphs"), qualname := (Str.ofString "Buffer.glyphs"), params := stArgs (inAt 23 1), body := .stmts (stBody (inAt 23 1)), scope := stScope (inAt 23 1), globals := 0, closure := [], defaults := .none, kwdefaults := .none, doc := .none, pyModule := .none, annotations := none, code := .none, closureTuple := .none, builtins := 0 }), #[]⟩
noncomputable def o199 (P : Params) : Obj := ⟨(.type "code"), none, (.fields #[(.str (Str.ofString "glyphs") 473), (.str (Str.ofString "Buffer.glyphs") 474), (.str (Str.ofString "/claim/cut.py") 475), (.int 125 0), (.int 1 0), (.int 0 0), (.int 0 0), (.int 3 0), (.ref 196), (.bool true), (.int 181 0), (.ref 197), .none, .none, .none, (.ref 198), (.int 476 0), (.int 125 0), (.str (Str.ofString "/claim/cut.py") 477)]), #[]⟩
noncomputable def o200 (P : Params) : Obj := ⟨(.type "function"), none, (.func { name := (Str.ofString "glyphs"), qualname := (Str.ofString "Buffer.glyphs"), params := stArgs (inAt 23 1), body := .stmts (stBody (inAt 23 1)), scope := stScope (inAt 23 1), globals := 3, closure := [], defaults := .none, kwdefaults := .none, doc := .none, pyModule := (.str (Str.ofString "joinedhand.buffer") 390), annotations := none, code := (.ref 199), closureTuple := .none, builtins := 0 }), #[]⟩
noncomputable def o201 (P : Params) : Obj := ⟨(.type "tuple"), none, (.seq #[] 0), #[]⟩
noncomputable def o202 (P : Params) : Obj := ⟨.none, none, (.fields #[]), #[]⟩
noncomputable def o203 (P : Params) : Obj := ⟨.none, none, (.func { name := (Str.ofString "clusters"), qualname := (Str.ofString "Buffer.clusters"), params := stArgs (inAt 23 2), body := .stmts (stBody (inAt 23 2)), scope := stScope (inAt 23 2), globals := 0, closure := [], defaults := .none, kwdefaults := .none, doc := .none, pyModule := .none, annotations := none, code := .none, closureTuple := .none, builtins := 0 }), #[]⟩
noncomputable def o204 (P : Params) : Obj := ⟨(.type "code"), none, (.fields #[(.str (Str.ofString "clusters") 479), (.str (Str.ofString "Buffer.clusters") 480), (.str (Str.ofString "/claim/cut.py") 481), (.int 128 0), (.int 1 0), (.int 0 0), (.int 0 0), (.int 3 0), (.ref 201), (.bool true), (.int 181 0), (.ref 202), .none, .none, .none, (.ref 203), (.int 482 0), (.int 128 0), (.str (Str.ofString "/claim/cut.py") 483)]), #[]⟩
noncomputable def o205 (P : Params) : Obj := ⟨(.type "function"), none, (.func { name := (Str.ofString "clusters"), qualname := (Str.ofString "Buffer.clusters"), params := stArgs (inAt 23 2), body := .stmts (stBody (inAt 23 2)), scope := stScope (inAt 23 2), globals := 3, closure := [], defaults := .none, kwdefaults := .none, doc := .none, pyModule := (.str (Str.ofString "joinedhand.buffer") 390), annotations := none, code := (.ref 204), closureTuple := .none, builtins := 0 }), #[]⟩
noncomputable def o206 (P : Params) : Obj := ⟨(.type "tuple"), none, (.seq #[] 0), #[]⟩
noncomputable def o207 (P : Params) : Obj := ⟨.none, none, (.fields #[]), #[]⟩
noncomputable def o208 (P : Params) : Obj := ⟨.none, none, (.func { name := (Str.ofString "told"), qualname := (Str.ofString "Buffer.told"), params := stArgs (inAt 23 3), body := .stmts (stBody (inAt 23 3)), scope := stScope (inAt 23 3), globals := 0, closure := [], defaults := .none, kwdefaults := .none, doc := .none, pyModule := .none, annotations := none, code := .none, closureTuple := .none, builtins := 0 }), #[]⟩
noncomputable def o209 (P : Params) : Obj := ⟨(.type "code"), none, (.fields #[(.str (Str.ofString "told") 485), (.str (Str.ofString "Buffer.told") 486), (.str (Str.ofString "/claim/cut.py") 487), (.int 131 0), (.int 1 0), (.int 0 0), (.int 0 0), (.int 3 0), (.ref 206), (.bool true), (.int 181 0), (.ref 207), .none, .none, .none, (.ref 208), (.int 488 0), (.int 131 0), (.str (Str.ofString "/claim/cut.py") 489)]), #[]⟩
noncomputable def o210 (P : Params) : Obj := ⟨(.type "function"), none, (.func { name := (Str.ofString "told"), qualname := (Str.ofString "Buffer.told"), params := stArgs (inAt 23 3), body := .stmts (stBody (inAt 23 3)), scope := stScope (inAt 23 3), globals := 3, closure := [], defaults := .none, kwdefaults := .none, doc := .none, pyModule := (.str (Str.ofString "joinedhand.buffer") 390), annotations := none, code := (.ref 209), closureTuple := .none, builtins := 0 }), #[]⟩
noncomputable def o211 (P : Params) : Obj := ⟨(.type "tuple"), none, (.seq #[] 0), #[]⟩
noncomputable def o212 (P : Params) : Obj := ⟨.none, none, (.fields #[]), #[]⟩
noncomputable def o213 (P : Params) : Obj := ⟨(.type "tuple"), none, (.seq #[(.str (Str.ofString "self") 494)] 0), #[]⟩
noncomputable def o214 (P : Params) : Obj := ⟨(.type "tuple"), none, (.seq #[] 0), #[]⟩
noncomputable def o215 (P : Params) : Obj := ⟨.none, none, (.func { name := (Str.ofString "next_lig"), qualname := (Str.ofString "Buffer.next_lig"), params := stArgs (inAt 23 4), body := .stmts (stBody (inAt 23 4)), scope := stScope (inAt 23 4), globals := 0, closure := [], defaults := .none, kwdefaults := .none, doc := .none, pyModule := .none, annotations := none, code := .none, closureTuple := .none, builtins := 0 }), #[]⟩
noncomputable def o216 (P : Params) : Obj := ⟨(.type "code"), none, (.fields #[(.str (Str.ofString "next_lig") 491), (.str (Str.ofString "Buffer.next_lig") 492), (.str (Str.ofString "/claim/cut.py") 493), (.int 134 0), (.int 1 0), (.int 0 0), (.int 0 0), (.int 3 0), (.ref 211), (.bool true), (.int 181 0), (.ref 212), .none, (.ref 213), (.ref 214), (.ref 215), (.int 495 0), (.int 134 0), (.str (Str.ofString "/claim/cut.py") 496)]), #[]⟩
noncomputable def o217 (P : Params) : Obj := ⟨(.type "function"), none, (.func F217), #[]⟩
noncomputable def o218 (P : Params) : Obj := ⟨(.type "tuple"), none, (.seq #[] 0), #[]⟩
noncomputable def o219 (P : Params) : Obj := ⟨.none, none, (.fields #[]), #[]⟩
noncomputable def o220 (P : Params) : Obj := ⟨(.type "tuple"), none, (.seq #[(.str (Str.ofString "self") 501)] 0), #[]⟩
noncomputable def o221 (P : Params) : Obj := ⟨(.type "tuple"), none, (.seq #[] 0), #[]⟩
noncomputable def o222 (P : Params) : Obj := ⟨.none, none, (.func { name := (Str.ofString "next_split"), qualname := (Str.ofString "Buffer.next_split"), params := stArgs (inAt 23 5), body := .stmts (stBody (inAt 23 5)), scope := stScope (inAt 23 5), globals := 0, closure := [], defaults := .none, kwdefaults := .none, doc := .none, pyModule := .none, annotations := none, code := .none, closureTuple := .none, builtins := 0 }), #[]⟩
noncomputable def o223 (P : Params) : Obj := ⟨(.type "code"), none, (.fields #[(.str (Str.ofString "next_split") 498), (.str (Str.ofString "Buffer.next_split") 499), (.str (Str.ofString "/claim/cut.py") 500), (.int 138 0), (.int 1 0), (.int 0 0), (.int 0 0), (.int 3 0), (.ref 218), (.bool true), (.int 181 0), (.ref 219), .none, (.ref 220), (.ref 221), (.ref 222), (.int 502 0), (.int 138 0), (.str (Str.ofString "/claim/cut.py") 503)]), #[]⟩
noncomputable def o224 (P : Params) : Obj := ⟨(.type "function"), none, (.func { name := (Str.ofString "next_split"), qualname := (Str.ofString "Buffer.next_split"), params := stArgs (inAt 23 5), body := .stmts (stBody (inAt 23 5)), scope := stScope (inAt 23 5), globals := 3, closure := [], defaults := .none, kwdefaults := .none, doc := .none, pyModule := (.str (Str.ofString "joinedhand.buffer") 390), annotations := none, code := (.ref 223), closureTuple := .none, builtins := 0 }), #[]⟩
noncomputable def o225 (P : Params) : Obj := ⟨(.type "tuple"), none, (.seq #[(.str (Str.ofString "is_backward") 505), (.str (Str.ofString "last_lig") 506), (.str (Str.ofString "last_split") 507), (.str (Str.ofString "row") 508)] 0), #[]⟩
noncomputable def o226 (P : Params) : Obj := ⟨(.type "dict"), none, (.dict #[⟨PyData.keyHash P (Str.ofString "__module__"), (.str (Str.ofString "__module__") 459), (.str (Str.ofString "joinedhand.buffer") 390)⟩, ⟨PyData.keyHash P (Str.ofString "__firstlineno__"), (.str (Str.ofString "__firstlineno__") 463), (.int 117 462)⟩, ⟨PyData.keyHash P (Str.ofString "__init__"), (.str (Str.ofString "__init__") 472), (.ref 195)⟩, ⟨PyData.keyHash P (Str.ofString "glyphs"), (.str (Str.ofString "glyphs") 478), (.ref 200)⟩, ⟨PyData.keyHash P (Str.ofString "clusters"), (.str (Str.ofString "clusters") 484), (.ref 205)⟩, ⟨PyData.keyHash P (Str.ofString "told"), (.str (Str.ofString "told") 490), (.ref 210)⟩, ⟨PyData.keyHash P (Str.ofString "next_lig"), (.str (Str.ofString "next_lig") 497), (.ref 217)⟩, ⟨PyData.keyHash P (Str.ofString "next_split"), (.str (Str.ofString "next_split") 504), (.ref 224)⟩, ⟨PyData.keyHash P (Str.ofString "__static_attributes__"), (.str (Str.ofString "__static_attributes__") 509), (.ref 225)⟩, ⟨PyData.keyHash P (Str.ofString "__dict__"), (.str (Str.ofString "__dict__") 511), (.ref 228)⟩, ⟨PyData.keyHash P (Str.ofString "__weakref__"), (.str (Str.ofString "__weakref__") 513), (.ref 229)⟩, ⟨PyData.keyHash P (Str.ofString "__doc__"), (.str (Str.ofString "__doc__") 514), .none⟩] 4), #[]⟩
noncomputable def o227 (P : Params) : Obj := ⟨(.type "type"), none, (.cls { name := (Str.ofString "Buffer"), bases := [(.type "object")], mro := [(.ref 227), (.type "object")], ns := 226, qualname := (Str.ofString "Buffer"), hasDict := true, slotNames := [], subclasses := [], abstract := false, collection := none, hasDel := false }), #[none, none, (some (.str (Str.ofString "Buffer") 452)), (some (.str (Str.ofString "Buffer") 460)), (some (.builtin "object.__new__")), (some (.bool true))]⟩
noncomputable def o228 (P : Params) : Obj := ⟨(.type "getset_descriptor"), none, (.fields #[(.str (Str.ofString "__dict__") 510), (.ref 227), (.builtin "function.__dict__"), (.builtin "function.__dict__#set")]), #[]⟩
noncomputable def o229 (P : Params) : Obj := ⟨(.type "getset_descriptor"), none, (.fields #[(.str (Str.ofString "__weakref__") 512), (.ref 227), (.builtin "ExceptionGroup.__weakref__"), .none]), #[]⟩
noncomputable def o230 (P : Params) : Obj := ⟨(.type "super"), none, (.fields #[(.ref 227), (.ref 227), (.ref 227)]), #[]⟩
noncomputable def o231 (P : Params) : Obj := ⟨(.type "builtin_function_or_method"), none, (.fields #[(.builtin "object.__init_subclass__"), (.ref 227)]), #[]⟩
noncomputable def o3_6 (P : Params) : Obj := ⟨(.type "dict"), none, (.dict #[⟨PyData.keyHash P (Str.ofString "__name__"), (.str (Str.ofString "__name__") 165), (.str (Str.ofString "joinedhand.classdefs") 542)⟩, ⟨PyData.keyHash P (Str.ofString "__doc__"), (.str (Str.ofString "__doc__") 166), .none⟩, ⟨PyData.keyHash P (Str.ofString "__package__"), (.str (Str.ofString "__package__") 167), .none⟩, ⟨PyData.keyHash P (Str.ofString "__loader__"), (.str (Str.ofString "__loader__") 168), (.builtin "__main__.__loader__#opaque")⟩, ⟨PyData.keyHash P (Str.ofString "__spec__"), (.str (Str.ofString "__spec__") 169), .none⟩, ⟨PyData.keyHash P (Str.ofString "__annotations__"), (.str (Str.ofString "__annotations__") 170), (.ref 6)⟩, ⟨PyData.keyHash P (Str.ofString "__builtins__"), (.str (Str.ofString "__builtins__") 171), (.ref 4)⟩, ⟨PyData.keyHash P (Str.ofString "__file__"), (.str (Str.ofString "__file__") 173), (.str (Str.ofString "/claim/cut.py") 172)⟩, ⟨PyData.keyHash P (Str.ofString "__cached__"), (.str (Str.ofString "__cached__") 174), .none⟩, ⟨PyData.keyHash P (Str.ofString "_wall"), (.str (Str.ofString "_wall") 193), (.ref 21)⟩, ⟨PyData.keyHash P (Str.ofString "IGNORE_BASES"), (.str (Str.ofString "IGNORE_BASES") 197), (.int 2 196)⟩, ⟨PyData.keyHash P (Str.ofString "IGNORE_LIGATURES"), (.str (Str.ofString "IGNORE_LIGATURES") 199), (.int 4 198)⟩, ⟨PyData.keyHash P (Str.ofString "IGNORE_MARKS"), (.str (Str.ofString "IGNORE_MARKS") 201), (.int 8 200)⟩, ⟨PyData.keyHash P (Str.ofString "USE_SET"), (.str (Str.ofString "USE_SET") 203), (.int 16 202)⟩, ⟨PyData.keyHash P (Str.ofString "Lookup"), (.str (Str.ofString "Lookup") 244), (.ref 43)⟩, ⟨PyData.keyHash P (Str.ofString "Scene"), (.str (Str.ofString "Scene") 285), (.ref 65)⟩, ⟨PyData.keyHash P (Str.ofString "attach_wanted"), (.str (Str.ofString "attach_wanted") 292), (.ref 76)⟩, ⟨PyData.keyHash P (Str.ofString "class_bit"), (.str (Str.ofString "class_bit") 299), (.ref 83)⟩, ⟨PyData.keyHash P (Str.ofString "is_ignored"), (.str (Str.ofString "is_ignored") 310), (.ref 90)⟩, ⟨PyData.keyHash P (Str.ofString "passes"), (.str (Str.ofString "passes") 318), (.ref 97)⟩, ⟨PyData.keyHash P (Str.ofString "KINDS_IN_INPUT"), (.str (Str.ofString "KINDS_IN_INPUT") 323), (.ref 98)⟩, ⟨PyData.keyHash P (Str.ofString "glyph_tests"), (.str (Str.ofString "glyph_tests") 329), (.ref 103)⟩, ⟨PyData.keyHash P (Str.ofString "fits"), (.str (Str.ofString "fits") 337), (.ref 110)⟩, ⟨PyData.keyHash P (Str.ofString "is_borne"), (.str (Str.ofString "is_borne") 345), (.ref 117)⟩, ⟨PyData.keyHash P (Str.ofString "found_at"), (.str (Str.ofString "found_at") 359), (.ref 124)⟩, ⟨PyData.keyHash P (Str.ofString "input_at"), (.str (Str.ofString "input_at") 371), (.ref 131)⟩, ⟨PyData.keyHash P (Str.ofString "is_piece"), (.str (Str.ofString "is_piece") 378), (.ref 138)⟩, ⟨PyData.keyHash P (Str.ofString "hold_together"), (.str (Str.ofString "hold_together") 389), (.ref 145)⟩, ⟨PyData.keyHash P (Str.ofString "Info"), (.str (Str.ofString "Info") 451), (.ref 176)⟩, ⟨PyData.keyHash P (Str.ofString "Buffer"), (.str (Str.ofString "Buffer") 516), (.ref 227)⟩, ⟨PyData.keyHash P (Str.ofString "set_cluster"), (.str (Str.ofString "set_cluster") 524), (.ref 238)⟩, ⟨PyData.keyHash P (Str.ofString "widened"), (.str (Str.ofString "widened") 535), (.ref 245)⟩, ⟨PyData.keyHash P (Str.ofString "merge"), (.str (Str.ofString "merge") 541), (.ref 250)⟩] 33), #[]⟩
noncomputable def o12_6 (P : Params) : Obj := ⟨.none, none, (.fields #[(.int 1 0), (.int 0 0), (.ref 20), (.int 9 0), (.int 0 0), (.ref 27), (.int 20 0), (.int 0 0), (.ref 53), (.int 30 0), (.int 0 0), (.ref 75), (.int 32 0), (.int 0 0), (.ref 82), (.int 34 0), (.int 0 0), (.ref 89), (.int 44 0), (.int 0 0), (.ref 96), (.int 48 0), (.int 0 0), (.ref 102), (.int 50 0), (.int 0 0), (.ref 109), (.int 56 0), (.int 0 0), (.ref 116), (.int 58 0), (.int 0 0), (.ref 123), (.int 69 0), (.int 0 0), (.ref 130), (.int 79 0), (.int 0 0), (.ref 137), (.int 81 0), (.int 0 0), (.ref 144), (.int 92 0), (.int 0 0), (.ref 151), (.int 117 0), (.int 0 0), (.ref 186), (.int 140 0), (.int 0 0), (.ref 237), (.int 144 0), (.int 0 0), (.ref 244), (.int 152 0), (.int 0 0), (.ref 249)]), #[]⟩
noncomputable def o232 (P : Params) : Obj := ⟨(.type "tuple"), none, (.seq #[] 0), #[]⟩
noncomputable def o233 (P : Params) : Obj := ⟨.none, none, (.fields #[]), #[]⟩
noncomputable def o234 (P : Params) : Obj := ⟨(.type "tuple"), none, (.seq #[(.str (Str.ofString "info") 520), (.str (Str.ofString "cluster") 521)] 0), #[]⟩
noncomputable def o235 (P : Params) : Obj := ⟨(.type "tuple"), none, (.seq #[] 0), #[]⟩
noncomputable def o236 (P : Params) : Obj := ⟨.none, none, (.func { name := (Str.ofString "set_cluster"), qualname := (Str.ofString "set_cluster"), params := stArgs (topAt 24), body := .stmts (stBody (topAt 24)), scope := stScope (topAt 24), globals := 0, closure := [], defaults := .none, kwdefaults := .none, doc := .none, pyModule := .none, annotations := none, code := .none, closureTuple := .none, builtins := 0 }), #[]⟩
noncomputable def o237 (P : Params) : Obj := ⟨(.type "code"), none, (.fields #[(.str (Str.ofString "set_cluster") 517), (.str (Str.ofString "set_cluster") 518), (.str (Str.ofString "/claim/cut.py") 519), (.int 140 0), (.int 2 0), (.int 0 0), (.int 0 0), (.int 3 0), (.ref 232), (.bool true), (.int 181 0), (.ref 233), .none, (.ref 234), (.ref 235), (.ref 236), (.int 522 0), (.int 140 0), (.str (Str.ofString "/claim/cut.py") 523)]), #[]⟩
noncomputable def o238 (P : Params) : Obj := ⟨(.type "function"), none, (.func F238), #[]⟩
noncomputable def o239 (P : Params) : Obj := ⟨(.type "tuple"), none, (.seq #[] 0), #[]⟩
noncomputable def o240 (P : Params) : Obj := ⟨.none, none, (.fields #[]), #[]⟩
noncomputable def o241 (P : Params) : Obj := ⟨(.type "tuple"), none, (.seq #[(.str (Str.ofString "row") 528), (.str (Str.ofString "begin") 529), (.str (Str.ofString "end") 530), (.str (Str.ofString "first") 531), (.str (Str.ofString "behind") 532)] 0), #[]⟩
noncomputable def o242 (P : Params) : Obj := ⟨(.type "tuple"), none, (.seq #[] 0), #[]⟩
noncomputable def o243 (P : Params) : Obj := ⟨.none, none, (.func { name := (Str.ofString "widened"), qualname := (Str.ofString "widened"), params := stArgs (topAt 25), body := .stmts (stBody (topAt 25)), scope := stScope (topAt 25), globals := 0, closure := [], defaults := .none, kwdefaults := .none, doc := .none, pyModule := .none, annotations := none, code := .none, closureTuple := .none, builtins := 0 }), #[]⟩
noncomputable def o244 (P : Params) : Obj := ⟨(.type "code"), none, (.fields #[(.str (Str.ofString "widened") 525), (.str (Str.ofString "widened") 526), (.str (Str.ofString "/claim/cut.py") 527), (.int 144 0), (.int 3 0), (.int 0 0), (.int 0 0), (.int 3 0), (.ref 239), (.bool true), (.int 181 0), (.ref 240), .none, (.ref 241), (.ref 242), (.ref 243), (.int 533 0), (.int 144 0), (.str (Str.ofString "/claim/cut.py") 534)]), #[]⟩
noncomputable def o245 (P : Params) : Obj := ⟨(.type "function"), none, (.func F245), #[]⟩
noncomputable def o246 (P : Params) : Obj := ⟨(.type "tuple"), none, (.seq #[] 0), #[]⟩
noncomputable def o247 (P : Params) : Obj := ⟨.none, none, (.fields #[]), #[]⟩
noncomputable def o248 (P : Params) : Obj := ⟨.none, none, (.func { name := (Str.ofString "merge"), qualname := (Str.ofString "merge"), params := stArgs (topAt 26), body := .stmts (stBody (topAt 26)), scope := stScope (topAt 26), globals := 0, closure := [], defaults := .none, kwdefaults := .none, doc := .none, pyModule := .none, annotations := none, code := .none, closureTuple := .none, builtins := 0 }), #[]⟩
noncomputable def o249 (P : Params) : Obj := ⟨(.type "code"), none, (.fields #[(.str (Str.ofString "merge") 536), (.str (Str.ofString "merge") 537), (.str (Str.ofString "/claim/cut.py") 538), (.int 152 0), (.int 3 0), (.int 0 0), (.int 0 0), (.int 3 0), (.ref 246), (.bool true), (.int 181 0), (.ref 247), .none, .none, .none, (.ref 248), (.int 539 0), (.int 152 0), (.str (Str.ofString "/claim/cut.py") 540)]), #[]⟩
noncomputable def o250 (P : Params) : Obj := ⟨(.type "function"), none, (.func F250), #[]⟩
noncomputable def o3_7 (P : Params) : Obj := ⟨(.type "dict"), none, (.dict #[⟨PyData.keyHash P (Str.ofString "__name__"), (.str (Str.ofString "__name__") 165), (.str (Str.ofString "joinedhand.gdef") 604)⟩, ⟨PyData.keyHash P (Str.ofString "__doc__"), (.str (Str.ofString "__doc__") 166), .none⟩, ⟨PyData.keyHash P (Str.ofString "__package__"), (.str (Str.ofString "__package__") 167), .none⟩, ⟨PyData.keyHash P (Str.ofString "__loader__"), (.str (Str.ofString "__loader__") 168), (.builtin "__main__.__loader__#opaque")⟩, ⟨PyData.keyHash P (Str.ofString "__spec__"), (.str (Str.ofString "__spec__") 169), .none⟩, ⟨PyData.keyHash P (Str.ofString "__annotations__"), (.str (Str.ofString "__annotations__") 170), (.ref 6)⟩, ⟨PyData.keyHash P (Str.ofString "__builtins__"), (.str (Str.ofString "__builtins__") 171), (.ref 4)⟩, ⟨PyData.keyHash P (Str.ofString "__file__"), (.str (Str.ofString "__file__") 173), (.str (Str.ofString "/claim/cut.py") 172)⟩, ⟨PyData.keyHash P (Str.ofString "__cached__"), (.str (Str.ofString "__cached__") 174), .none⟩, ⟨PyData.keyHash P (Str.ofString "_wall"), (.str (Str.ofString "_wall") 193), (.ref 21)⟩, ⟨PyData.keyHash P (Str.ofString "IGNORE_BASES"), (.str (Str.ofString "IGNORE_BASES") 197), (.int 2 196)⟩, ⟨PyData.keyHash P (Str.ofString "IGNORE_LIGATURES"), (.str (Str.ofString "IGNORE_LIGATURES") 199), (.int 4 198)⟩, ⟨PyData.keyHash P (Str.ofString "IGNORE_MARKS"), (.str (Str.ofString "IGNORE_MARKS") 201), (.int 8 200)⟩, ⟨PyData.keyHash P (Str.ofString "USE_SET"), (.str (Str.ofString "USE_SET") 203), (.int 16 202)⟩, ⟨PyData.keyHash P (Str.ofString "Lookup"), (.str (Str.ofString "Lookup") 244), (.ref 43)⟩, ⟨PyData.keyHash P (Str.ofString "Scene"), (.str (Str.ofString "Scene") 285), (.ref 65)⟩, ⟨PyData.keyHash P (Str.ofString "attach_wanted"), (.str (Str.ofString "attach_wanted") 292), (.ref 76)⟩, ⟨PyData.keyHash P (Str.ofString "class_bit"), (.str (Str.ofString "class_bit") 299), (.ref 83)⟩, ⟨PyData.keyHash P (Str.ofString "is_ignored"), (.str (Str.ofString "is_ignored") 310), (.ref 90)⟩, ⟨PyData.keyHash P (Str.ofString "passes"), (.str (Str.ofString "passes") 318), (.ref 97)⟩, ⟨PyData.keyHash P (Str.ofString "KINDS_IN_INPUT"), (.str (Str.ofString "KINDS_IN_INPUT") 323), (.ref 98)⟩, ⟨PyData.keyHash P (Str.ofString "glyph_tests"), (.str (Str.ofString "glyph_tests") 329), (.ref 103)⟩, ⟨PyData.keyHash P (Str.ofString "fits"), (.str (Str.ofString "fits") 337), (.ref 110)⟩, ⟨PyData.keyHash P (Str.ofString "is_borne"), (.str (Str.ofString "is_borne") 345), (.ref 117)⟩, ⟨PyData.keyHash P (Str.ofString "found_at"), (.str (Str.ofString "found_at") 359), (.ref 124)⟩, ⟨PyData.keyHash P (Str.ofString "input_at"), (.str (Str.ofString "input_at") 371), (.ref 131)⟩, ⟨PyData.keyHash P (Str.ofString "is_piece"), (.str (Str.ofString "is_piece") 378), (.ref 138)⟩, ⟨PyData.keyHash P (Str.ofString "hold_together"), (.str (Str.ofString "hold_together") 389), (.ref 145)⟩, ⟨PyData.keyHash P (Str.ofString "Info"), (.str (Str.ofString "Info") 451), (.ref 176)⟩, ⟨PyData.keyHash P (Str.ofString "Buffer"), (.str (Str.ofString "Buffer") 516), (.ref 227)⟩, ⟨PyData.keyHash P (Str.ofString "set_cluster"), (.str (Str.ofString "set_cluster") 524), (.ref 238)⟩, ⟨PyData.keyHash P (Str.ofString "widened"), (.str (Str.ofString "widened") 535), (.ref 245)⟩, ⟨PyData.keyHash P (Str.ofString "merge"), (.str (Str.ofString "merge") 541), (.ref 250)⟩, ⟨PyData.keyHash P (Str.ofString "ClassDef"), (.str (Str.ofString "ClassDef") 603), (.ref 293)⟩, ⟨PyData.keyHash P (Str.ofString "NO_CLASS"), (.str (Str.ofString "NO_CLASS") 607), (.int 0 606)⟩, ⟨PyData.keyHash P (Str.ofString "BASE_gdef"), (.str (Str.ofString "BASE_gdef") 609), (.int 1 608)⟩, ⟨PyData.keyHash P (Str.ofString "COMPONENT"), (.str (Str.ofString "COMPONENT") 611), (.int 4 610)⟩] 37), #[]⟩
noncomputable def o12_7 (P : Params) : Obj := ⟨.none, none, (.fields #[(.int 1 0), (.int 0 0), (.ref 20), (.int 9 0), (.int 0 0), (.ref 27), (.int 20 0), (.int 0 0), (.ref 53), (.int 30 0), (.int 0 0), (.ref 75), (.int 32 0), (.int 0 0), (.ref 82), (.int 34 0), (.int 0 0), (.ref 89), (.int 44 0), (.int 0 0), (.ref 96), (.int 48 0), (.int 0 0), (.ref 102), (.int 50 0), (.int 0 0), (.ref 109), (.int 56 0), (.int 0 0), (.ref 116), (.int 58 0), (.int 0 0), (.ref 123), (.int 69 0), (.int 0 0), (.ref 130), (.int 79 0), (.int 0 0), (.ref 137), (.int 81 0), (.int 0 0), (.ref 144), (.int 92 0), (.int 0 0), (.ref 151), (.int 117 0), (.int 0 0), (.ref 186), (.int 140 0), (.int 0 0), (.ref 237), (.int 144 0), (.int 0 0), (.ref 244), (.int 152 0), (.int 0 0), (.ref 249), (.int 160 0), (.int 0 0), (.ref 256)]), #[]⟩
noncomputable def o251 (P : Params) : Obj := ⟨(.type "tuple"), none, (.seq #[] 0), #[]⟩
noncomputable def o252 (P : Params) : Obj := ⟨(.type "builtin_function_or_method"), none, (.fields #[(.builtin "type.__prepare__"), (.type "type")]), #[]⟩
noncomputable def o253 (P : Params) : Obj := ⟨(.type "dict"), none, (.dict #[⟨PyData.keyHash P (Str.ofString "__module__"), (.str (Str.ofString "__module__") 551), (.str (Str.ofString "joinedhand.classdefs") 542)⟩, ⟨PyData.keyHash P (Str.ofString "__qualname__"), (.str (Str.ofString "__qualname__") 553), (.str (Str.ofString "ClassDef") 552)⟩, ⟨PyData.keyHash P (Str.ofString "__firstlineno__"), (.str (Str.ofString "__firstlineno__") 555), (.int 160 554)⟩, ⟨PyData.keyHash P (Str.ofString "__init__"), (.str (Str.ofString "__init__") 563), (.ref 264)⟩, ⟨PyData.keyHash P (Str.ofString "class_of"), (.str (Str.ofString "class_of") 571), (.ref 271)⟩, ⟨PyData.keyHash P (Str.ofString "glyphs_of"), (.str (Str.ofString "glyphs_of") 579), (.ref 278)⟩, ⟨PyData.keyHash P (Str.ofString "count"), (.str (Str.ofString "count") 588), (.ref 285)⟩, ⟨PyData.keyHash P (Str.ofString "told"), (.str (Str.ofString "told") 594), (.ref 290)⟩, ⟨PyData.keyHash P (Str.ofString "__static_attributes__"), (.str (Str.ofString "__static_attributes__") 596), (.ref 291)⟩] 9), #[]⟩
noncomputable def o254 (P : Params) : Obj := ⟨(.type "tuple"), none, (.seq #[] 0), #[]⟩
noncomputable def o255 (P : Params) : Obj := ⟨.none, none, (.fields #[(.int 162 0), (.int 4 0), (.ref 263), (.int 165 0), (.int 4 0), (.ref 270), (.int 168 0), (.int 4 0), (.ref 277), (.int 171 0), (.int 4 0), (.ref 284), (.int 177 0), (.int 4 0), (.ref 289)]), #[]⟩
noncomputable def o256 (P : Params) : Obj := ⟨(.type "code"), none, (.fields #[(.str (Str.ofString "ClassDef") 546), (.str (Str.ofString "ClassDef") 547), (.str (Str.ofString "/claim/cut.py") 548), (.int 160 0), (.int 0 0), (.int 0 0), (.int 0 0), (.int 0 0), (.ref 254), (.bool false), (.int 181 0), (.ref 255), .none, .none, .none, .none, (.int 549 0), (.int 160 0), (.str (Str.ofString "/claim/cut.py") 550)]), #[]⟩
noncomputable def o257 (P : Params) : Obj := ⟨(.type "frame"), none, .plain, #[(some (.ref 256)), (some (.ref 3)), (some (.ref 253)), none, (some (.str (Str.ofString "joinedhand.classdefs") 542)), none, (some (.ref 0))]⟩
noncomputable def o258 (P : Params) : Obj := ⟨(.type "tuple"), none, (.seq #[] 0), #[]⟩
noncomputable def o259 (P : Params) : Obj := ⟨.none, none, (.fields #[]), #[]⟩
noncomputable def o260 (P : Params) : Obj := ⟨(.type "tuple"), none, (.seq #[(.str (Str.ofString "self") 559), (.str (Str.ofString "classes") 560)] 0), #[]⟩
noncomputable def o261 (P : Params) : Obj := ⟨(.type "tuple"), none, (.seq #[] 0), #[]⟩
noncomputable def o262 (P : Params) : Obj := ⟨.none, none, (.func { name := (Str.ofString "__init__"), qualname := (Str.ofString "ClassDef.__init__"), params := stArgs (inAt 28 0), body := .stmts (stBody (inAt 28 0)), scope := stScope (inAt 28 0), globals := 0, closure := [], defaults := .none, kwdefaults := .none, doc := .none, pyModule := .none, annotations := none, code := .none, closureTuple := .none, builtins := 0 }), #[]⟩
noncomputable def o263 (P : Params) : Obj := ⟨(.type "code"), none, (.fields #[(.str (Str.ofString "__init__") 556), (.str (Str.ofString "ClassDef.__init__") 557), (.str (Str.ofString "/claim/cut.py") 558), (.int 162 0), (.int 2 0), (.int 0 0), (.int 0 0), (.int 3 0), (.ref 258), (.bool true), (.int 181 0), (.ref 259), .none, (.ref 260), (.ref 261), (.ref 262), (.int 561 0), (.int 162 0), (.str (Str.ofString "/claim/cut.py") 562)]), #[]⟩
noncomputable def o264 (P : Params) : Obj := ⟨(.type "function"), none, (.func F264), #[]⟩
noncomputable def o265 (P : Params) : Obj := ⟨(.type "tuple"), none, (.seq #[] 0), #[]⟩
noncomputable def o266 (P : Params) : Obj := ⟨.none, none, (.fields #[]), #[]⟩
noncomputable def o267 (P : Params) : Obj := ⟨(.type "tuple"), none, (.seq #[(.str (Str.ofString "self") 567), (.str (Str.ofString "glyph") 568)] 0), #[]⟩
noncomputable def o268 (P : Params) : Obj := ⟨(.type "tuple"), none, (.seq #[] 0), #[]⟩
noncomputable def o269 (P : Params) : Obj := ⟨.none, none, (.func { name := (Str.ofString "class_of"), qualname := (Str.ofString "ClassDef.class_of"), params := stArgs (inAt 28 1), body := .stmts (stBody (inAt 28 1)), scope := stScope (inAt 28 1), globals := 0, closure := [], defaults := .none, kwdefaults := .none, doc := .none, pyModule := .none, annotations := none, code := .none, closureTuple := .none, builtins := 0 }), #[]⟩
noncomputable def o270 (P : Params) : Obj := ⟨(.type "code"), none, (.fields #[(.str (Str.ofString "class_of") 564), (.str (Str.ofString "ClassDef.class_of") 565), (.str (Str.ofString "/claim/cut.py") 566), (.int 165 0), (.int 2 0), (.int 0 0), (.int 0 0), (.int 3 0), (.ref 265), (.bool true), (.int 181 0), (.ref 266), .none, (.ref 267), (.ref 268), (.ref 269), (.int 569 0), (.int 165 0), (.str (Str.ofString "/claim/cut.py") 570)]), #[]⟩
noncomputable def o271 (P : Params) : Obj := ⟨(.type "function"), none, (.func F271), #[]⟩
noncomputable def o272 (P : Params) : Obj := ⟨(.type "tuple"), none, (.seq #[] 0), #[]⟩
noncomputable def o273 (P : Params) : Obj := ⟨.none, none, (.fields #[]), #[]⟩
noncomputable def o274 (P : Params) : Obj := ⟨(.type "tuple"), none, (.seq #[(.str (Str.ofString "self") 575), (.str (Str.ofString "number") 576)] 0), #[]⟩
noncomputable def o275 (P : Params) : Obj := ⟨(.type "tuple"), none, (.seq #[] 0), #[]⟩
noncomputable def o276 (P : Params) : Obj := ⟨.none, none, (.func { name := (Str.ofString "glyphs_of"), qualname := (Str.ofString "ClassDef.glyphs_of"), params := stArgs (inAt 28 2), body := .stmts (stBody (inAt 28 2)), scope := stScope (inAt 28 2), globals := 0, closure := [], defaults := .none, kwdefaults := .none, doc := .none, pyModule := .none, annotations := none, code := .none, closureTuple := .none, builtins := 0 }), #[]⟩
noncomputable def o277 (P : Params) : Obj := ⟨(.type "code"), none, (.fields #[(.str (Str.ofString "glyphs_of") 572), (.str (Str.ofString "ClassDef.glyphs_of") 573), (.str (Str.ofString "/claim/cut.py") 574), (.int 168 0), (.int 2 0), (.int 0 0), (.int 0 0), (.int 3 0), (.ref 272), (.bool true), (.int 181 0), (.ref 273), .none, (.ref 274), (.ref 275), (.ref 276), (.int 577 0), (.int 168 0), (.str (Str.ofString "/claim/cut.py") 578)]), #[]⟩
noncomputable def o278 (P : Params) : Obj := ⟨(.type "function"), none, (.func { name := (Str.ofString "glyphs_of"), qualname := (Str.ofString "ClassDef.glyphs_of"), params := stArgs (inAt 28 2), body := .stmts (stBody (inAt 28 2)), scope := stScope (inAt 28 2), globals := 3, closure := [], defaults := .none, kwdefaults := .none, doc := .none, pyModule := (.str (Str.ofString "joinedhand.classdefs") 542), annotations := none, code := (.ref 277), closureTuple := .none, builtins := 0 }), #[]⟩
noncomputable def o279 (P : Params) : Obj := ⟨(.type "tuple"), none, (.seq #[] 0), #[]⟩
noncomputable def o280 (P : Params) : Obj := ⟨.none, none, (.fields #[]), #[]⟩
noncomputable def o281 (P : Params) : Obj := ⟨(.type "tuple"), none, (.seq #[(.str (Str.ofString "self") 583), (.str (Str.ofString "most") 584), (.str (Str.ofString "glyph") 585)] 0), #[]⟩
noncomputable def o282 (P : Params) : Obj := ⟨(.type "tuple"), none, (.seq #[] 0), #[]⟩
noncomputable def o283 (P : Params) : Obj := ⟨.none, none, (.func { name := (Str.ofString "count"), qualname := (Str.ofString "ClassDef.count"), params := stArgs (inAt 28 3), body := .stmts (stBody (inAt 28 3)), scope := stScope (inAt 28 3), globals := 0, closure := [], defaults := .none, kwdefaults := .none, doc := .none, pyModule := .none, annotations := none, code := .none, closureTuple := .none, builtins := 0 }), #[]⟩
noncomputable def o284 (P : Params) : Obj := ⟨(.type "code"), none, (.fields #[(.str (Str.ofString "count") 580), (.str (Str.ofString "ClassDef.count") 581), (.str (Str.ofString "/claim/cut.py") 582), (.int 171 0), (.int 1 0), (.int 0 0), (.int 0 0), (.int 3 0), (.ref 279), (.bool true), (.int 181 0), (.ref 280), .none, (.ref 281), (.ref 282), (.ref 283), (.int 586 0), (.int 171 0), (.str (Str.ofString "/claim/cut.py") 587)]), #[]⟩
noncomputable def o285 (P : Params) : Obj := ⟨(.type "function"), none, (.func { name := (Str.ofString "count"), qualname := (Str.ofString "ClassDef.count"), params := stArgs (inAt 28 3), body := .stmts (stBody (inAt 28 3)), scope := stScope (inAt 28 3), globals := 3, closure := [], defaults := .none, kwdefaults := .none, doc := .none, pyModule := (.str (Str.ofString "joinedhand.classdefs") 542), annotations := none, code := (.ref 284), closureTuple := .none, builtins := 0 }), #[]⟩
noncomputable def o286 (P : Params) : Obj := ⟨(.type "tuple"), none, (.seq #[] 0), #[]⟩
noncomputable def o287 (P : Params) : Obj := ⟨.none, none, (.fields #[]), #[]⟩
noncomputable def o288 (P : Params) : Obj := ⟨.none, none, (.func { name := (Str.ofString "told"), qualname := (Str.ofString "ClassDef.told"), params := stArgs (inAt 28 4), body := .stmts (stBody (inAt 28 4)), scope := stScope (inAt 28 4), globals := 0, closure := [], defaults := .none, kwdefaults := .none, doc := .none, pyModule := .none, annotations := none, code := .none, closureTuple := .none, builtins := 0 }), #[]⟩
noncomputable def o289 (P : Params) : Obj := ⟨(.type "code"), none, (.fields #[(.str (Str.ofString "told") 589), (.str (Str.ofString "ClassDef.told") 590), (.str (Str.ofString "/claim/cut.py") 591), (.int 177 0), (.int 1 0), (.int 0 0), (.int 0 0), (.int 3 0), (.ref 286), (.bool true), (.int 181 0), (.ref 287), .none, .none, .none, (.ref 288), (.int 592 0), (.int 177 0), (.str (Str.ofString "/claim/cut.py") 593)]), #[]⟩
noncomputable def o290 (P : Params) : Obj := ⟨(.type "function"), none, (.func { name := (Str.ofString "told"), qualname := (Str.ofString "ClassDef.told"), params := stArgs (inAt 28 4), body := .stmts (stBody (inAt 28 4)), scope := stScope (inAt 28 4), globals := 3, closure := [], defaults := .none, kwdefaults := .none, doc := .none, pyModule := (.str (Str.ofString "joinedhand.classdefs") 542), annotations := none, code := (.ref 289), closureTuple := .none, builtins := 0 }), #[]⟩
noncomputable def o291 (P : Params) : Obj := ⟨(.type "tuple"), none, (.seq #[(.str (Str.ofString "classes") 595)] 0), #[]⟩
noncomputable def o292 (P : Params) : Obj := ⟨(.type "dict"), none, (.dict #[⟨PyData.keyHash P (Str.ofString "__module__"), (.str (Str.ofString "__module__") 551), (.str (Str.ofString "joinedhand.classdefs") 542)⟩, ⟨PyData.keyHash P (Str.ofString "__firstlineno__"), (.str (Str.ofString "__firstlineno__") 555), (.int 160 554)⟩, ⟨PyData.keyHash P (Str.ofString "__init__"), (.str (Str.ofString "__init__") 563), (.ref 264)⟩, ⟨PyData.keyHash P (Str.ofString "class_of"), (.str (Str.ofString "class_of") 571), (.ref 271)⟩, ⟨PyData.keyHash P (Str.ofString "glyphs_of"), (.str (Str.ofString "glyphs_of") 579), (.ref 278)⟩, ⟨PyData.keyHash P (Str.ofString "count"), (.str (Str.ofString "count") 588), (.ref 285)⟩, ⟨PyData.keyHash P (Str.ofString "told"), (.str (Str.ofString "told") 594), (.ref 290)⟩, ⟨PyData.keyHash P (Str.ofString "__static_attributes__"), (.str (Str.ofString "__static_attributes__") 596), (.ref 291)⟩, ⟨PyData.keyHash P (Str.ofString "__dict__"), (.str (Str.ofString "__dict__") 598), (.ref 294)⟩, ⟨PyData.keyHash P (Str.ofString "__weakref__"), (.str (Str.ofString "__weakref__") 600), (.ref 295)⟩, ⟨PyData.keyHash P (Str.ofString "__doc__"), (.str (Str.ofString "__doc__") 601), .none⟩] 4), #[]⟩
noncomputable def o293 (P : Params) : Obj := ⟨(.type "type"), none, (.cls { name := (Str.ofString "ClassDef"), bases := [(.type "object")], mro := [(.ref 293), (.type "object")], ns := 292, qualname := (Str.ofString "ClassDef"), hasDict := true, slotNames := [], subclasses := [], abstract := false, collection := none, hasDel := false }), #[none, none, (some (.str (Str.ofString "ClassDef") 544)), (some (.str (Str.ofString "ClassDef") 552)), (some (.builtin "object.__new__")), (some (.bool true))]⟩
noncomputable def o294 (P : Params) : Obj := ⟨(.type "getset_descriptor"), none, (.fields #[(.str (Str.ofString "__dict__") 597), (.ref 293), (.builtin "function.__dict__"), (.builtin "function.__dict__#set")]), #[]⟩
noncomputable def o295 (P : Params) : Obj := ⟨(.type "getset_descriptor"), none, (.fields #[(.str (Str.ofString "__weakref__") 599), (.ref 293), (.builtin "ExceptionGroup.__weakref__"), .none]), #[]⟩
noncomputable def o296 (P : Params) : Obj := ⟨(.type "super"), none, (.fields #[(.ref 293), (.ref 293), (.ref 293)]), #[]⟩
noncomputable def o297 (P : Params) : Obj := ⟨(.type "builtin_function_or_method"), none, (.fields #[(.builtin "object.__init_subclass__"), (.ref 293)]), #[]⟩
noncomputable def o3_8 (P : Params) : Obj := ⟨(.type "dict"), none, (.dict #[⟨PyData.keyHash P (Str.ofString "__name__"), (.str (Str.ofString "__name__") 165), (.str (Str.ofString "joinedhand.ligature") 681)⟩, ⟨PyData.keyHash P (Str.ofString "__doc__"), (.str (Str.ofString "__doc__") 166), .none⟩, ⟨PyData.keyHash P (Str.ofString "__package__"), (.str (Str.ofString "__package__") 167), .none⟩, ⟨PyData.keyHash P (Str.ofString "__loader__"), (.str (Str.ofString "__loader__") 168), (.builtin "__main__.__loader__#opaque")⟩, ⟨PyData.keyHash P (Str.ofString "__spec__"), (.str (Str.ofString "__spec__") 169), .none⟩, ⟨PyData.keyHash P (Str.ofString "__annotations__"), (.str (Str.ofString "__annotations__") 170), (.ref 6)⟩, ⟨PyData.keyHash P (Str.ofString "__builtins__"), (.str (Str.ofString "__builtins__") 171), (.ref 4)⟩, ⟨PyData.keyHash P (Str.ofString "__file__"), (.str (Str.ofString "__file__") 173), (.str (Str.ofString "/claim/cut.py") 172)⟩, ⟨PyData.keyHash P (Str.ofString "__cached__"), (.str (Str.ofString "__cached__") 174), .none⟩, ⟨PyData.keyHash P (Str.ofString "_wall"), (.str (Str.ofString "_wall") 193), (.ref 21)⟩, ⟨PyData.keyHash P (Str.ofString "IGNORE_BASES"), (.str (Str.ofString "IGNORE_BASES") 197), (.int 2 196)⟩, ⟨PyData.keyHash P (Str.ofString "IGNORE_LIGATURES"), (.str (Str.ofString "IGNORE_LIGATURES") 199), (.int 4 198)⟩, ⟨PyData.keyHash P (Str.ofString "IGNORE_MARKS"), (.str (Str.ofString "IGNORE_MARKS") 201), (.int 8 200)⟩, ⟨PyData.keyHash P (Str.ofString "USE_SET"), (.str (Str.ofString "USE_SET") 203), (.int 16 202)⟩, ⟨PyData.keyHash P (Str.ofString "Lookup"), (.str (Str.ofString "Lookup") 244), (.ref 43)⟩, ⟨PyData.keyHash P (Str.ofString "Scene"), (.str (Str.ofString "Scene") 285), (.ref 65)⟩, ⟨PyData.keyHash P (Str.ofString "attach_wanted"), (.str (Str.ofString "attach_wanted") 292), (.ref 76)⟩, ⟨PyData.keyHash P (Str.ofString "class_bit"), (.str (Str.ofString "class_bit") 299), (.ref 83)⟩, ⟨PyData.keyHash P (Str.ofString "is_ignored"), (.str (Str.ofString "is_ignored") 310), (.ref 90)⟩, ⟨PyData.keyHash P (Str.ofString "passes"), (.str (Str.ofString "passes") 318), (.ref 97)⟩, ⟨PyData.keyHash P (Str.ofString "KINDS_IN_INPUT"), (.str (Str.ofString "KINDS_IN_INPUT") 323), (.ref 98)⟩, ⟨PyData.keyHash P (Str.ofString "glyph_tests"), (.str (Str.ofString "glyph_tests") 329), (.ref 103)⟩, ⟨PyData.keyHash P (Str.ofString "fits"), (.str (Str.ofString "fits") 337), (.ref 110)⟩, ⟨PyData.keyHash P (Str.ofString "is_borne"), (.str (Str.ofString "is_borne") 345), (.ref 117)⟩, ⟨PyData.keyHash P (Str.ofString "found_at"), (.str (Str.ofString "found_at") 359), (.ref 124)⟩, ⟨PyData.keyHash P (Str.ofString "input_at"), (.str (Str.ofString "input_at") 371), (.ref 131)⟩, ⟨PyData.keyHash P (Str.ofString "is_piece"), (.str (Str.ofString "is_piece") 378), (.ref 138)⟩, ⟨PyData.keyHash P (Str.ofString "hold_together"), (.str (Str.ofString "hold_together") 389), (.ref 145)⟩, ⟨PyData.keyHash P (Str.ofString "Info"), (.str (Str.ofString "Info") 451), (.ref 176)⟩, ⟨PyData.keyHash P (Str.ofString "Buffer"), (.str (Str.ofString "Buffer") 516), (.ref 227)⟩, ⟨PyData.keyHash P (Str.ofString "set_cluster"), (.str (Str.ofString "set_cluster") 524), (.ref 238)⟩, ⟨PyData.keyHash P (Str.ofString "widened"), (.str (Str.ofString "widened") 535), (.ref 245)⟩, ⟨PyData.keyHash P (Str.ofString "merge"), (.str (Str.ofString "merge") 541), (.ref 250)⟩, ⟨PyData.keyHash P (Str.ofString "ClassDef"), (.str (Str.ofString "ClassDef") 603), (.ref 293)⟩, ⟨PyData.keyHash P (Str.ofString "NO_CLASS"), (.str (Str.ofString "NO_CLASS") 607), (.int 0 606)⟩, ⟨PyData.keyHash P (Str.ofString "BASE_gdef"), (.str (Str.ofString "BASE_gdef") 609), (.int 1 608)⟩, ⟨PyData.keyHash P (Str.ofString "COMPONENT"), (.str (Str.ofString "COMPONENT") 611), (.int 4 610)⟩, ⟨PyData.keyHash P (Str.ofString "Gdef"), (.str (Str.ofString "Gdef") 680), (.ref 341)⟩, ⟨PyData.keyHash P (Str.ofString "BASE_ligature"), (.str (Str.ofString "BASE_ligature") 684), (.int 1 683)⟩, ⟨PyData.keyHash P (Str.ofString "MARK"), (.str (Str.ofString "MARK") 686), (.int 3 685)⟩] 40), #[]⟩
noncomputable def o12_8 (P : Params) : Obj := ⟨.none, none, (.fields #[(.int 1 0), (.int 0 0), (.ref 20), (.int 9 0), (.int 0 0), (.ref 27), (.int 20 0), (.int 0 0), (.ref 53), (.int 30 0), (.int 0 0), (.ref 75), (.int 32 0), (.int 0 0), (.ref 82), (.int 34 0), (.int 0 0), (.ref 89), (.int 44 0), (.int 0 0), (.ref 96), (.int 48 0), (.int 0 0), (.ref 102), (.int 50 0), (.int 0 0), (.ref 109), (.int 56 0), (.int 0 0), (.ref 116), (.int 58 0), (.int 0 0), (.ref 123), (.int 69 0), (.int 0 0), (.ref 130), (.int 79 0), (.int 0 0), (.ref 137), (.int 81 0), (.int 0 0), (.ref 144), (.int 92 0), (.int 0 0), (.ref 151), (.int 117 0), (.int 0 0), (.ref 186), (.int 140 0), (.int 0 0), (.ref 237), (.int 144 0), (.int 0 0), (.ref 244), (.int 152 0), (.int 0 0), (.ref 249), (.int 160 0), (.int 0 0), (.ref 256), (.int 183 0), (.int 0 0), (.ref 303)]), #[]⟩
noncomputable def o298 (P : Params) : Obj := ⟨(.type "tuple"), none, (.seq #[] 0), #[]⟩
noncomputable def o299 (P : Params) : Obj := ⟨(.type "builtin_function_or_method"), none, (.fields #[(.builtin "type.__prepare__"), (.type "type")]), #[]⟩
noncomputable def o300 (P : Params) : Obj := ⟨(.type "dict"), none, (.dict #[⟨PyData.keyHash P (Str.ofString "__module__"), (.str (Str.ofString "__module__") 619), (.str (Str.ofString "joinedhand.gdef") 604)⟩, ⟨PyData.keyHash P (Str.ofString "__qualname__"), (.str (Str.ofString "__qualname__") 621), (.str (Str.ofString "Gdef") 620)⟩, ⟨PyData.keyHash P (Str.ofString "__firstlineno__"), (.str (Str.ofString "__firstlineno__") 623), (.int 183 622)⟩, ⟨PyData.keyHash P (Str.ofString "__init__"), (.str (Str.ofString "__init__") 635), (.ref 312)⟩, ⟨PyData.keyHash P (Str.ofString "glyph_class"), (.str (Str.ofString "glyph_class") 644), (.ref 319)⟩, ⟨PyData.keyHash P (Str.ofString "attach_class"), (.str (Str.ofString "attach_class") 652), (.ref 326)⟩, ⟨PyData.keyHash P (Str.ofString "is_in_set"), (.str (Str.ofString "is_in_set") 661), (.ref 333)⟩, ⟨PyData.keyHash P (Str.ofString "told"), (.str (Str.ofString "told") 667), (.ref 338)⟩, ⟨PyData.keyHash P (Str.ofString "__static_attributes__"), (.str (Str.ofString "__static_attributes__") 673), (.ref 339)⟩] 9), #[]⟩
noncomputable def o301 (P : Params) : Obj := ⟨(.type "tuple"), none, (.seq #[] 0), #[]⟩
noncomputable def o302 (P : Params) : Obj := ⟨.none, none, (.fields #[(.int 185 0), (.int 4 0), (.ref 311), (.int 192 0), (.int 4 0), (.ref 318), (.int 196 0), (.int 4 0), (.ref 325), (.int 199 0), (.int 4 0), (.ref 332), (.int 202 0), (.int 4 0), (.ref 337)]), #[]⟩
noncomputable def o303 (P : Params) : Obj := ⟨(.type "code"), none, (.fields #[(.str (Str.ofString "Gdef") 614), (.str (Str.ofString "Gdef") 615), (.str (Str.ofString "/claim/cut.py") 616), (.int 183 0), (.int 0 0), (.int 0 0), (.int 0 0), (.int 0 0), (.ref 301), (.bool false), (.int 181 0), (.ref 302), .none, .none, .none, .none, (.int 617 0), (.int 183 0), (.str (Str.ofString "/claim/cut.py") 618)]), #[]⟩
noncomputable def o304 (P : Params) : Obj := ⟨(.type "frame"), none, .plain, #[(some (.ref 303)), (some (.ref 3)), (some (.ref 300)), none, (some (.str (Str.ofString "joinedhand.gdef") 604)), none, (some (.ref 0))]⟩
noncomputable def o305 (P : Params) : Obj := ⟨(.type "tuple"), none, (.seq #[.none, .none] 0), #[]⟩
noncomputable def o306 (P : Params) : Obj := ⟨(.type "tuple"), none, (.seq #[] 0), #[]⟩
noncomputable def o307 (P : Params) : Obj := ⟨.none, none, (.fields #[]), #[]⟩
noncomputable def o308 (P : Params) : Obj := ⟨(.type "tuple"), none, (.seq #[(.str (Str.ofString "self") 627), (.str (Str.ofString "classes") 628), (.str (Str.ofString "attach") 629), (.str (Str.ofString "sets") 630), (.str (Str.ofString "points") 631), (.str (Str.ofString "carets") 632)] 0), #[]⟩
noncomputable def o309 (P : Params) : Obj := ⟨(.type "tuple"), none, (.seq #[] 0), #[]⟩
noncomputable def o310 (P : Params) : Obj := ⟨.none, none, (.func { name := (Str.ofString "__init__"), qualname := (Str.ofString "Gdef.__init__"), params := stArgs (inAt 33 0), body := .stmts (stBody (inAt 33 0)), scope := stScope (inAt 33 0), globals := 0, closure := [], defaults := .none, kwdefaults := .none, doc := .none, pyModule := .none, annotations := none, code := .none, closureTuple := .none, builtins := 0 }), #[]⟩
noncomputable def o311 (P : Params) : Obj := ⟨(.type "code"), none, (.fields #[(.str (Str.ofString "__init__") 624), (.str (Str.ofString "Gdef.__init__") 625), (.str (Str.ofString "/claim/cut.py") 626), (.int 185 0), (.int 6 0), (.int 0 0), (.int 0 0), (.int 3 0), (.ref 306), (.bool true), (.int 181 0), (.ref 307), .none, (.ref 308), (.ref 309), (.ref 310), (.int 633 0), (.int 185 0), (.str (Str.ofString "/claim/cut.py") 634)]), #[]⟩
noncomputable def o312 (P : Params) : Obj := ⟨(.type "function"), none, (.func F312), #[]⟩
noncomputable def o313 (P : Params) : Obj := ⟨(.type "tuple"), none, (.seq #[] 0), #[]⟩
noncomputable def o314 (P : Params) : Obj := ⟨.none, none, (.fields #[]), #[]⟩
noncomputable def o315 (P : Params) : Obj := ⟨(.type "tuple"), none, (.seq #[(.str (Str.ofString "self") 639), (.str (Str.ofString "glyph") 640), (.str (Str.ofString "number") 641)] 0), #[]⟩
noncomputable def o316 (P : Params) : Obj := ⟨(.type "tuple"), none, (.seq #[] 0), #[]⟩
noncomputable def o317 (P : Params) : Obj := ⟨.none, none, (.func { name := (Str.ofString "glyph_class"), qualname := (Str.ofString "Gdef.glyph_class"), params := stArgs (inAt 33 1), body := .stmts (stBody (inAt 33 1)), scope := stScope (inAt 33 1), globals := 0, closure := [], defaults := .none, kwdefaults := .none, doc := .none, pyModule := .none, annotations := none, code := .none, closureTuple := .none, builtins := 0 }), #[]⟩
noncomputable def o318 (P : Params) : Obj := ⟨(.type "code"), none, (.fields #[(.str (Str.ofString "glyph_class") 636), (.str (Str.ofString "Gdef.glyph_class") 637), (.str (Str.ofString "/claim/cut.py") 638), (.int 192 0), (.int 2 0), (.int 0 0), (.int 0 0), (.int 3 0), (.ref 313), (.bool true), (.int 181 0), (.ref 314), .none, (.ref 315), (.ref 316), (.ref 317), (.int 642 0), (.int 192 0), (.str (Str.ofString "/claim/cut.py") 643)]), #[]⟩
noncomputable def o319 (P : Params) : Obj := ⟨(.type "function"), none, (.func F319), #[]⟩
noncomputable def o320 (P : Params) : Obj := ⟨(.type "tuple"), none, (.seq #[] 0), #[]⟩
noncomputable def o321 (P : Params) : Obj := ⟨.none, none, (.fields #[]), #[]⟩
noncomputable def o322 (P : Params) : Obj := ⟨(.type "tuple"), none, (.seq #[(.str (Str.ofString "self") 648), (.str (Str.ofString "glyph") 649)] 0), #[]⟩
noncomputable def o323 (P : Params) : Obj := ⟨(.type "tuple"), none, (.seq #[] 0), #[]⟩
noncomputable def o324 (P : Params) : Obj := ⟨.none, none, (.func { name := (Str.ofString "attach_class"), qualname := (Str.ofString "Gdef.attach_class"), params := stArgs (inAt 33 2), body := .stmts (stBody (inAt 33 2)), scope := stScope (inAt 33 2), globals := 0, closure := [], defaults := .none, kwdefaults := .none, doc := .none, pyModule := .none, annotations := none, code := .none, closureTuple := .none, builtins := 0 }), #[]⟩
noncomputable def o325 (P : Params) : Obj := ⟨(.type "code"), none, (.fields #[(.str (Str.ofString "attach_class") 645), (.str (Str.ofString "Gdef.attach_class") 646), (.str (Str.ofString "/claim/cut.py") 647), (.int 196 0), (.int 2 0), (.int 0 0), (.int 0 0), (.int 3 0), (.ref 320), (.bool true), (.int 181 0), (.ref 321), .none, (.ref 322), (.ref 323), (.ref 324), (.int 650 0), (.int 196 0), (.str (Str.ofString "/claim/cut.py") 651)]), #[]⟩
noncomputable def o326 (P : Params) : Obj := ⟨(.type "function"), none, (.func { name := (Str.ofString "attach_class"), qualname := (Str.ofString "Gdef.attach_class"), params := stArgs (inAt 33 2), body := .stmts (stBody (inAt 33 2)), scope := stScope (inAt 33 2), globals := 3, closure := [], defaults := .none, kwdefaults := .none, doc := .none, pyModule := (.str (Str.ofString "joinedhand.gdef") 604), annotations := none, code := (.ref 325), closureTuple := .none, builtins := 0 }), #[]⟩
noncomputable def o327 (P : Params) : Obj := ⟨(.type "tuple"), none, (.seq #[] 0), #[]⟩
noncomputable def o328 (P : Params) : Obj := ⟨.none, none, (.fields #[]), #[]⟩
noncomputable def o329 (P : Params) : Obj := ⟨(.type "tuple"), none, (.seq #[(.str (Str.ofString "self") 656), (.str (Str.ofString "number") 657), (.str (Str.ofString "glyph") 658)] 0), #[]⟩
noncomputable def o330 (P : Params) : Obj := ⟨(.type "tuple"), none, (.seq #[] 0), #[]⟩
noncomputable def o331 (P : Params) : Obj := ⟨.none, none, (.func { name := (Str.ofString "is_in_set"), qualname := (Str.ofString "Gdef.is_in_set"), params := stArgs (inAt 33 3), body := .stmts (stBody (inAt 33 3)), scope := stScope (inAt 33 3), globals := 0, closure := [], defaults := .none, kwdefaults := .none, doc := .none, pyModule := .none, annotations := none, code := .none, closureTuple := .none, builtins := 0 }), #[]⟩
noncomputable def o332 (P : Params) : Obj := ⟨(.type "code"), none, (.fields #[(.str (Str.ofString "is_in_set") 653), (.str (Str.ofString "Gdef.is_in_set") 654), (.str (Str.ofString "/claim/cut.py") 655), (.int 199 0), (.int 3 0), (.int 0 0), (.int 0 0), (.int 3 0), (.ref 327), (.bool true), (.int 181 0), (.ref 328), .none, (.ref 329), (.ref 330), (.ref 331), (.int 659 0), (.int 199 0), (.str (Str.ofString "/claim/cut.py") 660)]), #[]⟩
noncomputable def o333 (P : Params) : Obj := ⟨(.type "function"), none, (.func { name := (Str.ofString "is_in_set"), qualname := (Str.ofString "Gdef.is_in_set"), params := stArgs (inAt 33 3), body := .stmts (stBody (inAt 33 3)), scope := stScope (inAt 33 3), globals := 3, closure := [], defaults := .none, kwdefaults := .none, doc := .none, pyModule := (.str (Str.ofString "joinedhand.gdef") 604), annotations := none, code := (.ref 332), closureTuple := .none, builtins := 0 }), #[]⟩
noncomputable def o334 (P : Params) : Obj := ⟨(.type "tuple"), none, (.seq #[] 0), #[]⟩
noncomputable def o335 (P : Params) : Obj := ⟨.none, none, (.fields #[]), #[]⟩
noncomputable def o336 (P : Params) : Obj := ⟨.none, none, (.func { name := (Str.ofString "told"), qualname := (Str.ofString "Gdef.told"), params := stArgs (inAt 33 4), body := .stmts (stBody (inAt 33 4)), scope := stScope (inAt 33 4), globals := 0, closure := [], defaults := .none, kwdefaults := .none, doc := .none, pyModule := .none, annotations := none, code := .none, closureTuple := .none, builtins := 0 }), #[]⟩
noncomputable def o337 (P : Params) : Obj := ⟨(.type "code"), none, (.fields #[(.str (Str.ofString "told") 662), (.str (Str.ofString "Gdef.told") 663), (.str (Str.ofString "/claim/cut.py") 664), (.int 202 0), (.int 1 0), (.int 0 0), (.int 0 0), (.int 3 0), (.ref 334), (.bool true), (.int 181 0), (.ref 335), .none, .none, .none, (.ref 336), (.int 665 0), (.int 202 0), (.str (Str.ofString "/claim/cut.py") 666)]), #[]⟩
noncomputable def o338 (P : Params) : Obj := ⟨(.type "function"), none, (.func { name := (Str.ofString "told"), qualname := (Str.ofString "Gdef.told"), params := stArgs (inAt 33 4), body := .stmts (stBody (inAt 33 4)), scope := stScope (inAt 33 4), globals := 3, closure := [], defaults := .none, kwdefaults := .none, doc := .none, pyModule := (.str (Str.ofString "joinedhand.gdef") 604), annotations := none, code := (.ref 337), closureTuple := .none, builtins := 0 }), #[]⟩
noncomputable def o339 (P : Params) : Obj := ⟨(.type "tuple"), none, (.seq #[(.str (Str.ofString "attach") 668), (.str (Str.ofString "carets") 669), (.str (Str.ofString "classes") 670), (.str (Str.ofString "points") 671), (.str (Str.ofString "sets") 672)] 0), #[]⟩
noncomputable def o340 (P : Params) : Obj := ⟨(.type "dict"), none, (.dict #[⟨PyData.keyHash P (Str.ofString "__module__"), (.str (Str.ofString "__module__") 619), (.str (Str.ofString "joinedhand.gdef") 604)⟩, ⟨PyData.keyHash P (Str.ofString "__firstlineno__"), (.str (Str.ofString "__firstlineno__") 623), (.int 183 622)⟩, ⟨PyData.keyHash P (Str.ofString "__init__"), (.str (Str.ofString "__init__") 635), (.ref 312)⟩, ⟨PyData.keyHash P (Str.ofString "glyph_class"), (.str (Str.ofString "glyph_class") 644), (.ref 319)⟩, ⟨PyData.keyHash P (Str.ofString "attach_class"), (.str (Str.ofString "attach_class") 652), (.ref 326)⟩, ⟨PyData.keyHash P (Str.ofString "is_in_set"), (.str (Str.ofString "is_in_set") 661), (.ref 333)⟩, ⟨PyData.keyHash P (Str.ofString "told"), (.str (Str.ofString "told") 667), (.ref 338)⟩, ⟨PyData.keyHash P (Str.ofString "__static_attributes__"), (.str (Str.ofString "__static_attributes__") 673), (.ref 339)⟩, ⟨PyData.keyHash P (Str.ofString "__dict__"), (.str (Str.ofString "__dict__") 675), (.ref 342)⟩, ⟨PyData.keyHash P (Str.ofString "__weakref__"), (.str (Str.ofString "__weakref__") 677), (.ref 343)⟩, ⟨PyData.keyHash P (Str.ofString "__doc__"), (.str (Str.ofString "__doc__") 678), .none⟩] 4), #[]⟩
noncomputable def o341 (P : Params) : Obj := ⟨(.type "type"), none, (.cls { name := (Str.ofString "Gdef"), bases := [(.type "object")], mro := [(.ref 341), (.type "object")], ns := 340, qualname := (Str.ofString "Gdef"), hasDict := true, slotNames := [], subclasses := [], abstract := false, collection := none, hasDel := false }), #[none, none, (some (.str (Str.ofString "Gdef") 612)), (some (.str (Str.ofString "Gdef") 620)), (some (.builtin "object.__new__")), (some (.bool true))]⟩
noncomputable def o342 (P : Params) : Obj := ⟨(.type "getset_descriptor"), none, (.fields #[(.str (Str.ofString "__dict__") 674), (.ref 341), (.builtin "function.__dict__"), (.builtin "function.__dict__#set")]), #[]⟩
noncomputable def o343 (P : Params) : Obj := ⟨(.type "getset_descriptor"), none, (.fields #[(.str (Str.ofString "__weakref__") 676), (.ref 341), (.builtin "ExceptionGroup.__weakref__"), .none]), #[]⟩
noncomputable def o344 (P : Params) : Obj := ⟨(.type "super"), none, (.fields #[(.ref 341), (.ref 341), (.ref 341)]), #[]⟩
noncomputable def o345 (P : Params) : Obj := ⟨(.type "builtin_function_or_method"), none, (.fields #[(.builtin "object.__init_subclass__"), (.ref 341)]), #[]⟩
noncomputable def o3_9 (P : Params) : Obj := ⟨(.type "dict"), none, (.dict #[⟨PyData.keyHash P (Str.ofString "__name__"), (.str (Str.ofString "__name__") 165), (.str (Str.ofString "joinedhand.ligature") 681)⟩, ⟨PyData.keyHash P (Str.ofString "__doc__"), (.str (Str.ofString "__doc__") 166), .none⟩, ⟨PyData.keyHash P (Str.ofString "__package__"), (.str (Str.ofString "__package__") 167), .none⟩, ⟨PyData.keyHash P (Str.ofString "__loader__"), (.str (Str.ofString "__loader__") 168), (.builtin "__main__.__loader__#opaque")⟩, ⟨PyData.keyHash P (Str.ofString "__spec__"), (.str (Str.ofString "__spec__") 169), .none⟩, ⟨PyData.keyHash P (Str.ofString "__annotations__"), (.str (Str.ofString "__annotations__") 170), (.ref 6)⟩, ⟨PyData.keyHash P (Str.ofString "__builtins__"), (.str (Str.ofString "__builtins__") 171), (.ref 4)⟩, ⟨PyData.keyHash P (Str.ofString "__file__"), (.str (Str.ofString "__file__") 173), (.str (Str.ofString "/claim/cut.py") 172)⟩, ⟨PyData.keyHash P (Str.ofString "__cached__"), (.str (Str.ofString "__cached__") 174), .none⟩, ⟨PyData.keyHash P (Str.ofString "_wall"), (.str (Str.ofString "_wall") 193), (.ref 21)⟩, ⟨PyData.keyHash P (Str.ofString "IGNORE_BASES"), (.str (Str.ofString "IGNORE_BASES") 197), (.int 2 196)⟩, ⟨PyData.keyHash P (Str.ofString "IGNORE_LIGATURES"), (.str (Str.ofString "IGNORE_LIGATURES") 199), (.int 4 198)⟩, ⟨PyData.keyHash P (Str.ofString "IGNORE_MARKS"), (.str (Str.ofString "IGNORE_MARKS") 201), (.int 8 200)⟩, ⟨PyData.keyHash P (Str.ofString "USE_SET"), (.str (Str.ofString "USE_SET") 203), (.int 16 202)⟩, ⟨PyData.keyHash P (Str.ofString "Lookup"), (.str (Str.ofString "Lookup") 244), (.ref 43)⟩, ⟨PyData.keyHash P (Str.ofString "Scene"), (.str (Str.ofString "Scene") 285), (.ref 65)⟩, ⟨PyData.keyHash P (Str.ofString "attach_wanted"), (.str (Str.ofString "attach_wanted") 292), (.ref 76)⟩, ⟨PyData.keyHash P (Str.ofString "class_bit"), (.str (Str.ofString "class_bit") 299), (.ref 83)⟩, ⟨PyData.keyHash P (Str.ofString "is_ignored"), (.str (Str.ofString "is_ignored") 310), (.ref 90)⟩, ⟨PyData.keyHash P (Str.ofString "passes"), (.str (Str.ofString "passes") 318), (.ref 97)⟩, ⟨PyData.keyHash P (Str.ofString "KINDS_IN_INPUT"), (.str (Str.ofString "KINDS_IN_INPUT") 323), (.ref 98)⟩, ⟨PyData.keyHash P (Str.ofString "glyph_tests"), (.str (Str.ofString "glyph_tests") 329), (.ref 103)⟩, ⟨PyData.keyHash P (Str.ofString "fits"), (.str (Str.ofString "fits") 337), (.ref 110)⟩, ⟨PyData.keyHash P (Str.ofString "is_borne"), (.str (Str.ofString "is_borne") 345), (.ref 117)⟩, ⟨PyData.keyHash P (Str.ofString "found_at"), (.str (Str.ofString "found_at") 359), (.ref 124)⟩, ⟨PyData.keyHash P (Str.ofString "input_at"), (.str (Str.ofString "input_at") 371), (.ref 131)⟩, ⟨PyData.keyHash P (Str.ofString "is_piece"), (.str (Str.ofString "is_piece") 378), (.ref 138)⟩, ⟨PyData.keyHash P (Str.ofString "hold_together"), (.str (Str.ofString "hold_together") 389), (.ref 145)⟩, ⟨PyData.keyHash P (Str.ofString "Info"), (.str (Str.ofString "Info") 451), (.ref 176)⟩, ⟨PyData.keyHash P (Str.ofString "Buffer"), (.str (Str.ofString "Buffer") 516), (.ref 227)⟩, ⟨PyData.keyHash P (Str.ofString "set_cluster"), (.str (Str.ofString "set_cluster") 524), (.ref 238)⟩, ⟨PyData.keyHash P (Str.ofString "widened"), (.str (Str.ofString "widened") 535), (.ref 245)⟩, ⟨PyData.keyHash P (Str.ofString "merge"), (.str (Str.ofString "merge") 541), (.ref 250)⟩, ⟨PyData.keyHash P (Str.ofString "ClassDef"), (.str (Str.ofString "ClassDef") 603), (.ref 293)⟩, ⟨PyData.keyHash P (Str.ofString "NO_CLASS"), (.str (Str.ofString "NO_CLASS") 607), (.int 0 606)⟩, ⟨PyData.keyHash P (Str.ofString "BASE_gdef"), (.str (Str.ofString "BASE_gdef") 609), (.int 1 608)⟩, ⟨PyData.keyHash P (Str.ofString "COMPONENT"), (.str (Str.ofString "COMPONENT") 611), (.int 4 610)⟩, ⟨PyData.keyHash P (Str.ofString "Gdef"), (.str (Str.ofString "Gdef") 680), (.ref 341)⟩, ⟨PyData.keyHash P (Str.ofString "BASE_ligature"), (.str (Str.ofString "BASE_ligature") 684), (.int 1 683)⟩, ⟨PyData.keyHash P (Str.ofString "MARK"), (.str (Str.ofString "MARK") 686), (.int 3 685)⟩, ⟨PyData.keyHash P (Str.ofString "begins_with"), (.str (Str.ofString "begins_with") 694), (.ref 352)⟩, ⟨PyData.keyHash P (Str.ofString "live_rows"), (.str (Str.ofString "live_rows") 700), (.ref 357)⟩, ⟨PyData.keyHash P (Str.ofString "Ligature"), (.str (Str.ofString "Ligature") 735), (.ref 379)⟩, ⟨PyData.keyHash P (Str.ofString "part_count"), (.str (Str.ofString "part_count") 742), (.ref 390)⟩, ⟨PyData.keyHash P (Str.ofString "way_of"), (.str (Str.ofString "way_of") 748), (.ref 395)⟩, ⟨PyData.keyHash P (Str.ofString "tie"), (.str (Str.ofString "tie") 759), (.ref 402)⟩] 46), #[]⟩
noncomputable def o12_9 (P : Params) : Obj := ⟨.none, none, (.fields #[(.int 1 0), (.int 0 0), (.ref 20), (.int 9 0), (.int 0 0), (.ref 27), (.int 20 0), (.int 0 0), (.ref 53), (.int 30 0), (.int 0 0), (.ref 75), (.int 32 0), (.int 0 0), (.ref 82), (.int 34 0), (.int 0 0), (.ref 89), (.int 44 0), (.int 0 0), (.ref 96), (.int 48 0), (.int 0 0), (.ref 102), (.int 50 0), (.int 0 0), (.ref 109), (.int 56 0), (.int 0 0), (.ref 116), (.int 58 0), (.int 0 0), (.ref 123), (.int 69 0), (.int 0 0), (.ref 130), (.int 79 0), (.int 0 0), (.ref 137), (.int 81 0), (.int 0 0), (.ref 144), (.int 92 0), (.int 0 0), (.ref 151), (.int 117 0), (.int 0 0), (.ref 186), (.int 140 0), (.int 0 0), (.ref 237), (.int 144 0), (.int 0 0), (.ref 244), (.int 152 0), (.int 0 0), (.ref 249), (.int 160 0), (.int 0 0), (.ref 256), (.int 183 0), (.int 0 0), (.ref 303), (.int 209 0), (.int 0 0), (.ref 351), (.int 211 0), (.int 0 0), (.ref 356), (.int 217 0), (.int 0 0), (.ref 363), (.int 225 0), (.int 0 0), (.ref 389), (.int 227 0), (.int 0 0), (.ref 394), (.int 231 0), (.int 0 0), (.ref 401)]), #[]⟩
noncomputable def o346 (P : Params) : Obj := ⟨(.type "tuple"), none, (.seq #[] 0), #[]⟩
noncomputable def o347 (P : Params) : Obj := ⟨.none, none, (.fields #[]), #[]⟩
noncomputable def o348 (P : Params) : Obj := ⟨(.type "tuple"), none, (.seq #[(.str (Str.ofString "glyphs") 690), (.str (Str.ofString "lead") 691)] 0), #[]⟩
noncomputable def o349 (P : Params) : Obj := ⟨(.type "tuple"), none, (.seq #[] 0), #[]⟩
noncomputable def o350 (P : Params) : Obj := ⟨.none, none, (.func { name := (Str.ofString "begins_with"), qualname := (Str.ofString "begins_with"), params := stArgs (topAt 37), body := .stmts (stBody (topAt 37)), scope := stScope (topAt 37), globals := 0, closure := [], defaults := .none, kwdefaults := .none, doc := .none, pyModule := .none, annotations := none, code := .none, closureTuple := .none, builtins := 0 }), #[]⟩
noncomputable def o351 (P : Params) : Obj := ⟨(.type "code"), none, (.fields #[(.str (Str.ofString "begins_with") 687), (.str (Str.ofString "begins_with") 688), (.str (Str.ofString "/claim/cut.py") 689), (.int 209 0), (.int 2 0), (.int 0 0), (.int 0 0), (.int 3 0), (.ref 346), (.bool true), (.int 181 0), (.ref 347), .none, (.ref 348), (.ref 349), (.ref 350), (.int 692 0), (.int 209 0), (.str (Str.ofString "/claim/cut.py") 693)]), #[]⟩
noncomputable def o352 (P : Params) : Obj := ⟨(.type "function"), none, (.func { name := (Str.ofString "begins_with"), qualname := (Str.ofString "begins_with"), params := stArgs (topAt 37), body := .stmts (stBody (topAt 37)), scope := stScope (topAt 37), globals := 3, closure := [], defaults := .none, kwdefaults := .none, doc := .none, pyModule := (.str (Str.ofString "joinedhand.ligature") 681), annotations := none, code := (.ref 351), closureTuple := .none, builtins := 0 }), #[]⟩
noncomputable def o353 (P : Params) : Obj := ⟨(.type "tuple"), none, (.seq #[] 0), #[]⟩
noncomputable def o354 (P : Params) : Obj := ⟨.none, none, (.fields #[]), #[]⟩
noncomputable def o355 (P : Params) : Obj := ⟨.none, none, (.func { name := (Str.ofString "live_rows"), qualname := (Str.ofString "live_rows"), params := stArgs (topAt 38), body := .stmts (stBody (topAt 38)), scope := stScope (topAt 38), globals := 0, closure := [], defaults := .none, kwdefaults := .none, doc := .none, pyModule := .none, annotations := none, code := .none, closureTuple := .none, builtins := 0 }), #[]⟩
noncomputable def o356 (P : Params) : Obj := ⟨(.type "code"), none, (.fields #[(.str (Str.ofString "live_rows") 695), (.str (Str.ofString "live_rows") 696), (.str (Str.ofString "/claim/cut.py") 697), (.int 211 0), (.int 1 0), (.int 0 0), (.int 0 0), (.int 3 0), (.ref 353), (.bool true), (.int 181 0), (.ref 354), .none, .none, .none, (.ref 355), (.int 698 0), (.int 211 0), (.str (Str.ofString "/claim/cut.py") 699)]), #[]⟩
noncomputable def o357 (P : Params) : Obj := ⟨(.type "function"), none, (.func { name := (Str.ofString "live_rows"), qualname := (Str.ofString "live_rows"), params := stArgs (topAt 38), body := .stmts (stBody (topAt 38)), scope := stScope (topAt 38), globals := 3, closure := [], defaults := .none, kwdefaults := .none, doc := .none, pyModule := (.str (Str.ofString "joinedhand.ligature") 681), annotations := none, code := (.ref 356), closureTuple := .none, builtins := 0 }), #[]⟩
noncomputable def o358 (P : Params) : Obj := ⟨(.type "tuple"), none, (.seq #[] 0), #[]⟩
noncomputable def o359 (P : Params) : Obj := ⟨(.type "builtin_function_or_method"), none, (.fields #[(.builtin "type.__prepare__"), (.type "type")]), #[]⟩
noncomputable def o360 (P : Params) : Obj := ⟨(.type "dict"), none, (.dict #[⟨PyData.keyHash P (Str.ofString "__module__"), (.str (Str.ofString "__module__") 708), (.str (Str.ofString "joinedhand.ligature") 681)⟩, ⟨PyData.keyHash P (Str.ofString "__qualname__"), (.str (Str.ofString "__qualname__") 710), (.str (Str.ofString "Ligature") 709)⟩, ⟨PyData.keyHash P (Str.ofString "__firstlineno__"), (.str (Str.ofString "__firstlineno__") 712), (.int 217 711)⟩, ⟨PyData.keyHash P (Str.ofString "__init__"), (.str (Str.ofString "__init__") 720), (.ref 371)⟩, ⟨PyData.keyHash P (Str.ofString "told"), (.str (Str.ofString "told") 726), (.ref 376)⟩, ⟨PyData.keyHash P (Str.ofString "__static_attributes__"), (.str (Str.ofString "__static_attributes__") 728), (.ref 377)⟩] 6), #[]⟩
noncomputable def o361 (P : Params) : Obj := ⟨(.type "tuple"), none, (.seq #[] 0), #[]⟩
noncomputable def o362 (P : Params) : Obj := ⟨.none, none, (.fields #[(.int 219 0), (.int 4 0), (.ref 370), (.int 222 0), (.int 4 0), (.ref 375)]), #[]⟩
noncomputable def o363 (P : Params) : Obj := ⟨(.type "code"), none, (.fields #[(.str (Str.ofString "Ligature") 703), (.str (Str.ofString "Ligature") 704), (.str (Str.ofString "/claim/cut.py") 705), (.int 217 0), (.int 0 0), (.int 0 0), (.int 0 0), (.int 0 0), (.ref 361), (.bool false), (.int 181 0), (.ref 362), .none, .none, .none, .none, (.int 706 0), (.int 217 0), (.str (Str.ofString "/claim/cut.py") 707)]), #[]⟩
noncomputable def o364 (P : Params) : Obj := ⟨(.type "frame"), none, .plain, #[(some (.ref 363)), (some (.ref 3)), (some (.ref 360)), none, (some (.str (Str.ofString "joinedhand.ligature") 681)), none, (some (.ref 0))]⟩
noncomputable def o365 (P : Params) : Obj := ⟨(.type "tuple"), none, (.seq #[] 0), #[]⟩
noncomputable def o366 (P : Params) : Obj := ⟨.none, none, (.fields #[]), #[]⟩
noncomputable def o367 (P : Params) : Obj := ⟨(.type "tuple"), none, (.seq #[(.str (Str.ofString "self") 716), (.str (Str.ofString "sets") 717)] 0), #[]⟩
noncomputable def o368 (P : Params) : Obj := ⟨(.type "tuple"), none, (.seq #[] 0), #[]⟩
noncomputable def o369 (P : Params) : Obj := ⟨.none, none, (.func { name := (Str.ofString "__init__"), qualname := (Str.ofString "Ligature.__init__"), params := stArgs (inAt 39 0), body := .stmts (stBody (inAt 39 0)), scope := stScope (inAt 39 0), globals := 0, closure := [], defaults := .none, kwdefaults := .none, doc := .none, pyModule := .none, annotations := none, code := .none, closureTuple := .none, builtins := 0 }), #[]⟩
noncomputable def o370 (P : Params) : Obj := ⟨(.type "code"), none, (.fields #[(.str (Str.ofString "__init__") 713), (.str (Str.ofString "Ligature.__init__") 714), (.str (Str.ofString "/claim/cut.py") 715), (.int 219 0), (.int 2 0), (.int 0 0), (.int 0 0), (.int 3 0), (.ref 365), (.bool true), (.int 181 0), (.ref 366), .none, (.ref 367), (.ref 368), (.ref 369), (.int 718 0), (.int 219 0), (.str (Str.ofString "/claim/cut.py") 719)]), #[]⟩
noncomputable def o371 (P : Params) : Obj := ⟨(.type "function"), none, (.func F371), #[]⟩
noncomputable def o372 (P : Params) : Obj := ⟨(.type "tuple"), none, (.seq #[] 0), #[]⟩
noncomputable def o373 (P : Params) : Obj := ⟨.none, none, (.fields #[]), #[]⟩
noncomputable def o374 (P : Params) : Obj := ⟨.none, none, (.func { name := (Str.ofString "told"), qualname := (Str.ofString "Ligature.told"), params := stArgs (inAt 39 1), body := .stmts (stBody (inAt 39 1)), scope := stScope (inAt 39 1), globals := 0, closure := [], defaults := .none, kwdefaults := .none, doc := .none, pyModule := .none, annotations := none, code := .none, closureTuple := .none, builtins := 0 }), #[]⟩
noncomputable def o375 (P : Params) : Obj := ⟨(.type "code"), none, (.fields #[(.str (Str.ofString "told") 721), (.str (Str.ofString "Ligature.told") 722), (.str (Str.ofString "/claim/cut.py") 723), (.int 222 0), (.int 1 0), (.int 0 0), (.int 0 0), (.int 3 0), (.ref 372), (.bool true), (.int 181 0), (.ref 373), .none, .none, .none, (.ref 374), (.int 724 0), (.int 222 0), (.str (Str.ofString "/claim/cut.py") 725)]), #[]⟩
noncomputable def o376 (P : Params) : Obj := ⟨(.type "function"), none, (.func { name := (Str.ofString "told"), qualname := (Str.ofString "Ligature.told"), params := stArgs (inAt 39 1), body := .stmts (stBody (inAt 39 1)), scope := stScope (inAt 39 1), globals := 3, closure := [], defaults := .none, kwdefaults := .none, doc := .none, pyModule := (.str (Str.ofString "joinedhand.ligature") 681), annotations := none, code := (.ref 375), closureTuple := .none, builtins := 0 }), #[]⟩
noncomputable def o377 (P : Params) : Obj := ⟨(.type "tuple"), none, (.seq #[(.str (Str.ofString "sets") 727)] 0), #[]⟩
noncomputable def o378 (P : Params) : Obj := ⟨(.type "dict"), none, (.dict #[⟨PyData.keyHash P (Str.ofString "__module__"), (.str (Str.ofString "__module__") 708), (.str (Str.ofString "joinedhand.ligature") 681)⟩, ⟨PyData.keyHash P (Str.ofString "__firstlineno__"), (.str (Str.ofString "__firstlineno__") 712), (.int 217 711)⟩, ⟨PyData.keyHash P (Str.ofString "__init__"), (.str (Str.ofString "__init__") 720), (.ref 371)⟩, ⟨PyData.keyHash P (Str.ofString "told"), (.str (Str.ofString "told") 726), (.ref 376)⟩, ⟨PyData.keyHash P (Str.ofString "__static_attributes__"), (.str (Str.ofString "__static_attributes__") 728), (.ref 377)⟩, ⟨PyData.keyHash P (Str.ofString "__dict__"), (.str (Str.ofString "__dict__") 730), (.ref 380)⟩, ⟨PyData.keyHash P (Str.ofString "__weakref__"), (.str (Str.ofString "__weakref__") 732), (.ref 381)⟩, ⟨PyData.keyHash P (Str.ofString "__doc__"), (.str (Str.ofString "__doc__") 733), .none⟩] 4), #[]⟩
noncomputable def o379 (P : Params) : Obj := ⟨(.type "type"), none, (.cls { name := (Str.ofString "Ligature"), bases := [(.type "object")], mro := [(.ref 379), (.type "object")], ns := 378, qualname := (Str.ofString "Ligature"), hasDict := true, slotNames := [], subclasses := [], abstract := false, collection := none, hasDel := false }), #[none, none, (some (.str (Str.ofString "Ligature") 701)), (some (.str (Str.ofString "Ligature") 709)), (some (.builtin "object.__new__")), (some (.bool true))]⟩
noncomputable def o380 (P : Params) : Obj := ⟨(.type "getset_descriptor"), none, (.fields #[(.str (Str.ofString "__dict__") 729), (.ref 379), (.builtin "function.__dict__"), (.builtin "function.__dict__#set")]), #[]⟩
noncomputable def o381 (P : Params) : Obj := ⟨(.type "getset_descriptor"), none, (.fields #[(.str (Str.ofString "__weakref__") 731), (.ref 379), (.builtin "ExceptionGroup.__weakref__"), .none]), #[]⟩
noncomputable def o382 (P : Params) : Obj := ⟨(.type "super"), none, (.fields #[(.ref 379), (.ref 379), (.ref 379)]), #[]⟩
noncomputable def o383 (P : Params) : Obj := ⟨(.type "builtin_function_or_method"), none, (.fields #[(.builtin "object.__init_subclass__"), (.ref 379)]), #[]⟩
noncomputable def o384 (P : Params) : Obj := ⟨(.type "tuple"), none, (.seq #[] 0), #[]⟩
noncomputable def o385 (P : Params) : Obj := ⟨.none, none, (.fields #[]), #[]⟩
noncomputable def o386 (P : Params) : Obj := ⟨(.type "tuple"), none, (.seq #[(.str (Str.ofString "info") 739)] 0), #[]⟩
noncomputable def o387 (P : Params) : Obj := ⟨(.type "tuple"), none, (.seq #[] 0), #[]⟩
noncomputable def o388 (P : Params) : Obj := ⟨.none, none, (.func { name := (Str.ofString "part_count"), qualname := (Str.ofString "part_count"), params := stArgs (topAt 40), body := .stmts (stBody (topAt 40)), scope := stScope (topAt 40), globals := 0, closure := [], defaults := .none, kwdefaults := .none, doc := .none, pyModule := .none, annotations := none, code := .none, closureTuple := .none, builtins := 0 }), #[]⟩
noncomputable def o389 (P : Params) : Obj := ⟨(.type "code"), none, (.fields #[(.str (Str.ofString "part_count") 736), (.str (Str.ofString "part_count") 737), (.str (Str.ofString "/claim/cut.py") 738), (.int 225 0), (.int 1 0), (.int 0 0), (.int 0 0), (.int 3 0), (.ref 384), (.bool true), (.int 181 0), (.ref 385), .none, (.ref 386), (.ref 387), (.ref 388), (.int 740 0), (.int 225 0), (.str (Str.ofString "/claim/cut.py") 741)]), #[]⟩
noncomputable def o390 (P : Params) : Obj := ⟨(.type "function"), none, (.func F390), #[]⟩
noncomputable def o391 (P : Params) : Obj := ⟨(.type "tuple"), none, (.seq #[] 0), #[]⟩
noncomputable def o392 (P : Params) : Obj := ⟨.none, none, (.fields #[]), #[]⟩
noncomputable def o393 (P : Params) : Obj := ⟨.none, none, (.func { name := (Str.ofString "way_of"), qualname := (Str.ofString "way_of"), params := stArgs (topAt 41), body := .stmts (stBody (topAt 41)), scope := stScope (topAt 41), globals := 0, closure := [], defaults := .none, kwdefaults := .none, doc := .none, pyModule := .none, annotations := none, code := .none, closureTuple := .none, builtins := 0 }), #[]⟩
noncomputable def o394 (P : Params) : Obj := ⟨(.type "code"), none, (.fields #[(.str (Str.ofString "way_of") 743), (.str (Str.ofString "way_of") 744), (.str (Str.ofString "/claim/cut.py") 745), (.int 227 0), (.int 2 0), (.int 0 0), (.int 0 0), (.int 3 0), (.ref 391), (.bool true), (.int 181 0), (.ref 392), .none, .none, .none, (.ref 393), (.int 746 0), (.int 227 0), (.str (Str.ofString "/claim/cut.py") 747)]), #[]⟩
noncomputable def o395 (P : Params) : Obj := ⟨(.type "function"), none, (.func F395), #[]⟩
noncomputable def o396 (P : Params) : Obj := ⟨(.type "tuple"), none, (.seq #[] 0), #[]⟩
noncomputable def o397 (P : Params) : Obj := ⟨.none, none, (.fields #[]), #[]⟩
noncomputable def o398 (P : Params) : Obj := ⟨(.type "tuple"), none, (.seq #[(.str (Str.ofString "info") 752), (.str (Str.ofString "lig_id") 753), (.str (Str.ofString "ahead") 754), (.str (Str.ofString "count") 755), (.str (Str.ofString "part") 756)] 0), #[]⟩
noncomputable def o399 (P : Params) : Obj := ⟨(.type "tuple"), none, (.seq #[] 0), #[]⟩
noncomputable def o400 (P : Params) : Obj := ⟨.none, none, (.func { name := (Str.ofString "tie"), qualname := (Str.ofString "tie"), params := stArgs (topAt 42), body := .stmts (stBody (topAt 42)), scope := stScope (topAt 42), globals := 0, closure := [], defaults := .none, kwdefaults := .none, doc := .none, pyModule := .none, annotations := none, code := .none, closureTuple := .none, builtins := 0 }), #[]⟩
noncomputable def o401 (P : Params) : Obj := ⟨(.type "code"), none, (.fields #[(.str (Str.ofString "tie") 749), (.str (Str.ofString "tie") 750), (.str (Str.ofString "/claim/cut.py") 751), (.int 231 0), (.int 4 0), (.int 0 0), (.int 0 0), (.int 3 0), (.ref 396), (.bool true), (.int 181 0), (.ref 397), .none, (.ref 398), (.ref 399), (.ref 400), (.int 757 0), (.int 231 0), (.str (Str.ofString "/claim/cut.py") 758)]), #[]⟩
noncomputable def o402 (P : Params) : Obj := ⟨(.type "function"), none, (.func F402), #[]⟩
noncomputable def o3_10 (P : Params) : Obj := ⟨(.type "dict"), none, (.dict #[⟨PyData.keyHash P (Str.ofString "__name__"), (.str (Str.ofString "__name__") 165), (.str (Str.ofString "law_pb0197_01") 809)⟩, ⟨PyData.keyHash P (Str.ofString "__doc__"), (.str (Str.ofString "__doc__") 166), .none⟩, ⟨PyData.keyHash P (Str.ofString "__package__"), (.str (Str.ofString "__package__") 167), .none⟩, ⟨PyData.keyHash P (Str.ofString "__loader__"), (.str (Str.ofString "__loader__") 168), (.builtin "__main__.__loader__#opaque")⟩, ⟨PyData.keyHash P (Str.ofString "__spec__"), (.str (Str.ofString "__spec__") 169), .none⟩, ⟨PyData.keyHash P (Str.ofString "__annotations__"), (.str (Str.ofString "__annotations__") 170), (.ref 6)⟩, ⟨PyData.keyHash P (Str.ofString "__builtins__"), (.str (Str.ofString "__builtins__") 171), (.ref 4)⟩, ⟨PyData.keyHash P (Str.ofString "__file__"), (.str (Str.ofString "__file__") 173), (.str (Str.ofString "/claim/cut.py") 172)⟩, ⟨PyData.keyHash P (Str.ofString "__cached__"), (.str (Str.ofString "__cached__") 174), .none⟩, ⟨PyData.keyHash P (Str.ofString "_wall"), (.str (Str.ofString "_wall") 193), (.ref 21)⟩, ⟨PyData.keyHash P (Str.ofString "IGNORE_BASES"), (.str (Str.ofString "IGNORE_BASES") 197), (.int 2 196)⟩, ⟨PyData.keyHash P (Str.ofString "IGNORE_LIGATURES"), (.str (Str.ofString "IGNORE_LIGATURES") 199), (.int 4 198)⟩, ⟨PyData.keyHash P (Str.ofString "IGNORE_MARKS"), (.str (Str.ofString "IGNORE_MARKS") 201), (.int 8 200)⟩, ⟨PyData.keyHash P (Str.ofString "USE_SET"), (.str (Str.ofString "USE_SET") 203), (.int 16 202)⟩, ⟨PyData.keyHash P (Str.ofString "Lookup"), (.str (Str.ofString "Lookup") 244), (.ref 43)⟩, ⟨PyData.keyHash P (Str.ofString "Scene"), (.str (Str.ofString "Scene") 285), (.ref 65)⟩, ⟨PyData.keyHash P (Str.ofString "attach_wanted"), (.str (Str.ofString "attach_wanted") 292), (.ref 76)⟩, ⟨PyData.keyHash P (Str.ofString "class_bit"), (.str (Str.ofString "class_bit") 299), (.ref 83)⟩, ⟨PyData.keyHash P (Str.ofString "is_ignored"), (.str (Str.ofString "is_ignored") 310), (.ref 90)⟩, ⟨PyData.keyHash P (Str.ofString "passes"), (.str (Str.ofString "passes") 318), (.ref 97)⟩, ⟨PyData.keyHash P (Str.ofString "KINDS_IN_INPUT"), (.str (Str.ofString "KINDS_IN_INPUT") 323), (.ref 98)⟩, ⟨PyData.keyHash P (Str.ofString "glyph_tests"), (.str (Str.ofString "glyph_tests") 329), (.ref 103)⟩, ⟨PyData.keyHash P (Str.ofString "fits"), (.str (Str.ofString "fits") 337), (.ref 110)⟩, ⟨PyData.keyHash P (Str.ofString "is_borne"), (.str (Str.ofString "is_borne") 345), (.ref 117)⟩, ⟨PyData.keyHash P (Str.ofString "found_at"), (.str (Str.ofString "found_at") 359), (.ref 124)⟩, ⟨PyData.keyHash P (Str.ofString "input_at"), (.str (Str.ofString "input_at") 371), (.ref 131)⟩, ⟨PyData.keyHash P (Str.ofString "is_piece"), (.str (Str.ofString "is_piece") 378), (.ref 138)⟩, ⟨PyData.keyHash P (Str.ofString "hold_together"), (.str (Str.ofString "hold_together") 389), (.ref 145)⟩, ⟨PyData.keyHash P (Str.ofString "Info"), (.str (Str.ofString "Info") 451), (.ref 176)⟩, ⟨PyData.keyHash P (Str.ofString "Buffer"), (.str (Str.ofString "Buffer") 516), (.ref 227)⟩, ⟨PyData.keyHash P (Str.ofString "set_cluster"), (.str (Str.ofString "set_cluster") 524), (.ref 238)⟩, ⟨PyData.keyHash P (Str.ofString "widened"), (.str (Str.ofString "widened") 535), (.ref 245)⟩, ⟨PyData.keyHash P (Str.ofString "merge"), (.str (Str.ofString "merge") 541), (.ref 250)⟩, ⟨PyData.keyHash P (Str.ofString "ClassDef"), (.str (Str.ofString "ClassDef") 603), (.ref 293)⟩, ⟨PyData.keyHash P (Str.ofString "NO_CLASS"), (.str (Str.ofString "NO_CLASS") 607), (.int 0 606)⟩, ⟨PyData.keyHash P (Str.ofString "BASE_gdef"), (.str (Str.ofString "BASE_gdef") 609), (.int 1 608)⟩, ⟨PyData.keyHash P (Str.ofString "COMPONENT"), (.str (Str.ofString "COMPONENT") 611), (.int 4 610)⟩, ⟨PyData.keyHash P (Str.ofString "Gdef"), (.str (Str.ofString "Gdef") 680), (.ref 341)⟩, ⟨PyData.keyHash P (Str.ofString "BASE_ligature"), (.str (Str.ofString "BASE_ligature") 684), (.int 1 683)⟩, ⟨PyData.keyHash P (Str.ofString "MARK"), (.str (Str.ofString "MARK") 686), (.int 3 685)⟩, ⟨PyData.keyHash P (Str.ofString "begins_with"), (.str (Str.ofString "begins_with") 694), (.ref 352)⟩, ⟨PyData.keyHash P (Str.ofString "live_rows"), (.str (Str.ofString "live_rows") 700), (.ref 357)⟩, ⟨PyData.keyHash P (Str.ofString "Ligature"), (.str (Str.ofString "Ligature") 735), (.ref 379)⟩, ⟨PyData.keyHash P (Str.ofString "part_count"), (.str (Str.ofString "part_count") 742), (.ref 390)⟩, ⟨PyData.keyHash P (Str.ofString "way_of"), (.str (Str.ofString "way_of") 748), (.ref 395)⟩, ⟨PyData.keyHash P (Str.ofString "tie"), (.str (Str.ofString "tie") 759), (.ref 402)⟩, ⟨PyData.keyHash P (Str.ofString "tie_behind"), (.str (Str.ofString "tie_behind") 772), (.ref 409)⟩, ⟨PyData.keyHash P (Str.ofString "tie_all"), (.str (Str.ofString "tie_all") 788), (.ref 416)⟩, ⟨PyData.keyHash P (Str.ofString "join"), (.str (Str.ofString "join") 794), (.ref 421)⟩, ⟨PyData.keyHash P (Str.ofString "apply_ligature"), (.str (Str.ofString "apply_ligature") 808), (.ref 428)⟩, ⟨PyData.keyHash P (Str.ofString "_law_take"), (.str (Str.ofString "_law_take") 819), (.ref 435)⟩, ⟨PyData.keyHash P (Str.ofString "_law_may"), (.str (Str.ofString "_law_may") 830), (.ref 442)⟩, ⟨PyData.keyHash P (Str.ofString "law"), (.str (Str.ofString "law") 836), (.ref 447)⟩] 53), #[]⟩
noncomputable def o12_10 (P : Params) : Obj := ⟨.none, none, (.fields #[(.int 1 0), (.int 0 0), (.ref 20), (.int 9 0), (.int 0 0), (.ref 27), (.int 20 0), (.int 0 0), (.ref 53), (.int 30 0), (.int 0 0), (.ref 75), (.int 32 0), (.int 0 0), (.ref 82), (.int 34 0), (.int 0 0), (.ref 89), (.int 44 0), (.int 0 0), (.ref 96), (.int 48 0), (.int 0 0), (.ref 102), (.int 50 0), (.int 0 0), (.ref 109), (.int 56 0), (.int 0 0), (.ref 116), (.int 58 0), (.int 0 0), (.ref 123), (.int 69 0), (.int 0 0), (.ref 130), (.int 79 0), (.int 0 0), (.ref 137), (.int 81 0), (.int 0 0), (.ref 144), (.int 92 0), (.int 0 0), (.ref 151), (.int 117 0), (.int 0 0), (.ref 186), (.int 140 0), (.int 0 0), (.ref 237), (.int 144 0), (.int 0 0), (.ref 244), (.int 152 0), (.int 0 0), (.ref 249), (.int 160 0), (.int 0 0), (.ref 256), (.int 183 0), (.int 0 0), (.ref 303), (.int 209 0), (.int 0 0), (.ref 351), (.int 211 0), (.int 0 0), (.ref 356), (.int 217 0), (.int 0 0), (.ref 363), (.int 225 0), (.int 0 0), (.ref 389), (.int 227 0), (.int 0 0), (.ref 394), (.int 231 0), (.int 0 0), (.ref 401), (.int 236 0), (.int 0 0), (.ref 408), (.int 241 0), (.int 0 0), (.ref 415), (.int 253 0), (.int 0 0), (.ref 420), (.int 269 0), (.int 0 0), (.ref 427), (.int 282 0), (.int 0 0), (.ref 434), (.int 290 0), (.int 0 0), (.ref 441), (.int 300 0), (.int 0 0), (.ref 446)]), #[]⟩
noncomputable def o403 (P : Params) : Obj := ⟨(.type "tuple"), none, (.seq #[] 0), #[]⟩
noncomputable def o404 (P : Params) : Obj := ⟨.none, none, (.fields #[]), #[]⟩
noncomputable def o405 (P : Params) : Obj := ⟨(.type "tuple"), none, (.seq #[(.str (Str.ofString "row") 763), (.str (Str.ofString "at") 764), (.str (Str.ofString "old_id") 765), (.str (Str.ofString "lig_id") 766), (.str (Str.ofString "ahead") 767), (.str (Str.ofString "count") 768), (.str (Str.ofString "spot") 769)] 0), #[]⟩
noncomputable def o406 (P : Params) : Obj := ⟨(.type "tuple"), none, (.seq #[] 0), #[]⟩
noncomputable def o407 (P : Params) : Obj := ⟨.none, none, (.func { name := (Str.ofString "tie_behind"), qualname := (Str.ofString "tie_behind"), params := stArgs (topAt 43), body := .stmts (stBody (topAt 43)), scope := stScope (topAt 43), globals := 0, closure := [], defaults := .none, kwdefaults := .none, doc := .none, pyModule := .none, annotations := none, code := .none, closureTuple := .none, builtins := 0 }), #[]⟩
noncomputable def o408 (P : Params) : Obj := ⟨(.type "code"), none, (.fields #[(.str (Str.ofString "tie_behind") 760), (.str (Str.ofString "tie_behind") 761), (.str (Str.ofString "/claim/cut.py") 762), (.int 236 0), (.int 6 0), (.int 0 0), (.int 0 0), (.int 3 0), (.ref 403), (.bool true), (.int 181 0), (.ref 404), .none, (.ref 405), (.ref 406), (.ref 407), (.int 770 0), (.int 236 0), (.str (Str.ofString "/claim/cut.py") 771)]), #[]⟩
noncomputable def o409 (P : Params) : Obj := ⟨(.type "function"), none, (.func F409), #[]⟩
noncomputable def o410 (P : Params) : Obj := ⟨(.type "tuple"), none, (.seq #[] 0), #[]⟩
noncomputable def o411 (P : Params) : Obj := ⟨.none, none, (.fields #[]), #[]⟩
noncomputable def o412 (P : Params) : Obj := ⟨(.type "tuple"), none, (.seq #[(.str (Str.ofString "row") 776), (.str (Str.ofString "places") 777), (.str (Str.ofString "way") 778), (.str (Str.ofString "lig_id") 779), (.str (Str.ofString "last") 780), (.str (Str.ofString "ahead") 781), (.str (Str.ofString "count") 782), (.str (Str.ofString "old_id") 783), (.str (Str.ofString "spot") 784), (.str (Str.ofString "passed") 785)] 0), #[]⟩
noncomputable def o413 (P : Params) : Obj := ⟨(.type "tuple"), none, (.seq #[] 0), #[]⟩
noncomputable def o414 (P : Params) : Obj := ⟨.none, none, (.func { name := (Str.ofString "tie_all"), qualname := (Str.ofString "tie_all"), params := stArgs (topAt 44), body := .stmts (stBody (topAt 44)), scope := stScope (topAt 44), globals := 0, closure := [], defaults := .none, kwdefaults := .none, doc := .none, pyModule := .none, annotations := none, code := .none, closureTuple := .none, builtins := 0 }), #[]⟩
noncomputable def o415 (P : Params) : Obj := ⟨(.type "code"), none, (.fields #[(.str (Str.ofString "tie_all") 773), (.str (Str.ofString "tie_all") 774), (.str (Str.ofString "/claim/cut.py") 775), (.int 241 0), (.int 4 0), (.int 0 0), (.int 0 0), (.int 3 0), (.ref 410), (.bool true), (.int 181 0), (.ref 411), .none, (.ref 412), (.ref 413), (.ref 414), (.int 786 0), (.int 241 0), (.str (Str.ofString "/claim/cut.py") 787)]), #[]⟩
noncomputable def o416 (P : Params) : Obj := ⟨(.type "function"), none, (.func F416), #[]⟩
noncomputable def o417 (P : Params) : Obj := ⟨(.type "tuple"), none, (.seq #[] 0), #[]⟩
noncomputable def o418 (P : Params) : Obj := ⟨.none, none, (.fields #[]), #[]⟩
noncomputable def o419 (P : Params) : Obj := ⟨.none, none, (.func { name := (Str.ofString "join"), qualname := (Str.ofString "join"), params := stArgs (topAt 45), body := .stmts (stBody (topAt 45)), scope := stScope (topAt 45), globals := 0, closure := [], defaults := .none, kwdefaults := .none, doc := .none, pyModule := .none, annotations := none, code := .none, closureTuple := .none, builtins := 0 }), #[]⟩
noncomputable def o420 (P : Params) : Obj := ⟨(.type "code"), none, (.fields #[(.str (Str.ofString "join") 789), (.str (Str.ofString "join") 790), (.str (Str.ofString "/claim/cut.py") 791), (.int 253 0), (.int 3 0), (.int 0 0), (.int 0 0), (.int 3 0), (.ref 417), (.bool true), (.int 181 0), (.ref 418), .none, .none, .none, (.ref 419), (.int 792 0), (.int 253 0), (.str (Str.ofString "/claim/cut.py") 793)]), #[]⟩
noncomputable def o421 (P : Params) : Obj := ⟨(.type "function"), none, (.func F421), #[]⟩
noncomputable def o422 (P : Params) : Obj := ⟨(.type "tuple"), none, (.seq #[] 0), #[]⟩
noncomputable def o423 (P : Params) : Obj := ⟨.none, none, (.fields #[]), #[]⟩
noncomputable def o424 (P : Params) : Obj := ⟨(.type "tuple"), none, (.seq #[(.str (Str.ofString "scene") 798), (.str (Str.ofString "table") 799), (.str (Str.ofString "at") 800), (.str (Str.ofString "row") 801), (.str (Str.ofString "first") 802), (.str (Str.ofString "rest") 803), (.str (Str.ofString "ligature") 804), (.str (Str.ofString "places") 805)] 0), #[]⟩
noncomputable def o425 (P : Params) : Obj := ⟨(.type "tuple"), none, (.seq #[] 0), #[]⟩
noncomputable def o426 (P : Params) : Obj := ⟨.none, none, (.func { name := (Str.ofString "apply_ligature"), qualname := (Str.ofString "apply_ligature"), params := stArgs (topAt 46), body := .stmts (stBody (topAt 46)), scope := stScope (topAt 46), globals := 0, closure := [], defaults := .none, kwdefaults := .none, doc := .none, pyModule := .none, annotations := none, code := .none, closureTuple := .none, builtins := 0 }), #[]⟩
noncomputable def o427 (P : Params) : Obj := ⟨(.type "code"), none, (.fields #[(.str (Str.ofString "apply_ligature") 795), (.str (Str.ofString "apply_ligature") 796), (.str (Str.ofString "/claim/cut.py") 797), (.int 269 0), (.int 3 0), (.int 0 0), (.int 0 0), (.int 3 0), (.ref 422), (.bool true), (.int 181 0), (.ref 423), .none, (.ref 424), (.ref 425), (.ref 426), (.int 806 0), (.int 269 0), (.str (Str.ofString "/claim/cut.py") 807)]), #[]⟩
noncomputable def o428 (P : Params) : Obj := ⟨(.type "function"), none, (.func F428), #[]⟩
noncomputable def o429 (P : Params) : Obj := ⟨(.type "tuple"), none, (.seq #[] 0), #[]⟩
noncomputable def o430 (P : Params) : Obj := ⟨.none, none, (.fields #[]), #[]⟩
noncomputable def o431 (P : Params) : Obj := ⟨(.type "tuple"), none, (.seq #[(.str (Str.ofString "pool") 814), (.str (Str.ofString "many") 815), (.str (Str.ofString "digit") 816)] 0), #[]⟩
noncomputable def o432 (P : Params) : Obj := ⟨(.type "tuple"), none, (.seq #[] 0), #[]⟩
noncomputable def o433 (P : Params) : Obj := ⟨.none, none, (.func { name := (Str.ofString "_law_take"), qualname := (Str.ofString "_law_take"), params := stArgs (topAt 48), body := .stmts (stBody (topAt 48)), scope := stScope (topAt 48), globals := 0, closure := [], defaults := .none, kwdefaults := .none, doc := .none, pyModule := .none, annotations := none, code := .none, closureTuple := .none, builtins := 0 }), #[]⟩
noncomputable def o434 (P : Params) : Obj := ⟨(.type "code"), none, (.fields #[(.str (Str.ofString "_law_take") 811), (.str (Str.ofString "_law_take") 812), (.str (Str.ofString "/claim/cut.py") 813), (.int 282 0), (.int 2 0), (.int 0 0), (.int 0 0), (.int 3 0), (.ref 429), (.bool true), (.int 181 0), (.ref 430), .none, (.ref 431), (.ref 432), (.ref 433), (.int 817 0), (.int 282 0), (.str (Str.ofString "/claim/cut.py") 818)]), #[]⟩
noncomputable def o435 (P : Params) : Obj := ⟨(.type "function"), none, (.func F435), #[]⟩
noncomputable def o436 (P : Params) : Obj := ⟨(.type "tuple"), none, (.seq #[] 0), #[]⟩
noncomputable def o437 (P : Params) : Obj := ⟨.none, none, (.fields #[]), #[]⟩
noncomputable def o438 (P : Params) : Obj := ⟨(.type "tuple"), none, (.seq #[(.str (Str.ofString "plan") 823), (.str (Str.ofString "spots") 824), (.str (Str.ofString "first") 825), (.str (Str.ofString "at") 826), (.str (Str.ofString "other") 827)] 0), #[]⟩
noncomputable def o439 (P : Params) : Obj := ⟨(.type "tuple"), none, (.seq #[] 0), #[]⟩
noncomputable def o440 (P : Params) : Obj := ⟨.none, none, (.func { name := (Str.ofString "_law_may"), qualname := (Str.ofString "_law_may"), params := stArgs (topAt 49), body := .stmts (stBody (topAt 49)), scope := stScope (topAt 49), globals := 0, closure := [], defaults := .none, kwdefaults := .none, doc := .none, pyModule := .none, annotations := none, code := .none, closureTuple := .none, builtins := 0 }), #[]⟩
noncomputable def o441 (P : Params) : Obj := ⟨(.type "code"), none, (.fields #[(.str (Str.ofString "_law_may") 820), (.str (Str.ofString "_law_may") 821), (.str (Str.ofString "/claim/cut.py") 822), (.int 290 0), (.int 2 0), (.int 0 0), (.int 0 0), (.int 3 0), (.ref 436), (.bool true), (.int 181 0), (.ref 437), .none, (.ref 438), (.ref 439), (.ref 440), (.int 828 0), (.int 290 0), (.str (Str.ofString "/claim/cut.py") 829)]), #[]⟩
noncomputable def o442 (P : Params) : Obj := ⟨(.type "function"), none, (.func F442), #[]⟩
noncomputable def o443 (P : Params) : Obj := ⟨(.type "tuple"), none, (.seq #[] 0), #[]⟩
noncomputable def o444 (P : Params) : Obj := ⟨.none, none, (.fields #[]), #[]⟩
noncomputable def o445 (P : Params) : Obj := ⟨.none, none, (.func { name := (Str.ofString "law"), qualname := (Str.ofString "law"), params := stArgs (topAt 50), body := .stmts (stBody (topAt 50)), scope := stScope (topAt 50), globals := 0, closure := [], defaults := .none, kwdefaults := .none, doc := .none, pyModule := .none, annotations := none, code := .none, closureTuple := .none, builtins := 0 }), #[]⟩
noncomputable def o446 (P : Params) : Obj := ⟨(.type "code"), none, (.fields #[(.str (Str.ofString "law") 831), (.str (Str.ofString "law") 832), (.str (Str.ofString "/claim/cut.py") 833), (.int 300 0), (.int 1 0), (.int 0 0), (.int 0 0), (.int 3 0), (.ref 443), (.bool true), (.int 181 0), (.ref 444), .none, .none, .none, (.ref 445), (.int 834 0), (.int 300 0), (.str (Str.ofString "/claim/cut.py") 835)]), #[]⟩
noncomputable def o447 (P : Params) : Obj := ⟨(.type "function"), none, (.func F447), #[]⟩
noncomputable def T_a (P : Params) : BT := (.node (boot_o_0 P) (.node (boot_o_1 P) (.node (boot_o_3 P) (.node (boot_o_7 P) .nil .nil) (.node (o11 P) .nil .nil)) (.node (boot_o_5 P) (.node (boot_o_9 P) .nil .nil) (.node (o13 P) .nil .nil))) (.node (boot_o_2 P) (.node (boot_o_4 P) (.node (boot_o_8 P) .nil .nil) (.node (o12 P) .nil .nil)) (.node (boot_o_6 P) (.node (boot_o_10 P) .nil .nil) (.node (o14 P) .nil .nil))))
noncomputable def S_a (w : World) (os : OsState) : SharedT := ⟨T_a w.params, 15, {}, #[], {}, 187, os⟩
noncomputable def T_1 (P : Params) : BT := (.node (boot_o_0 P) (.node (boot_o_1 P) (.node (o3_1 P) (.node (boot_o_7 P) (.node (o15 P) (.node (o31 P) .nil .nil) (.node (o47 P) .nil .nil)) (.node (o23 P) (.node (o39 P) .nil .nil) .nil)) (.node (o11 P) (.node (o19 P) (.node (o35 P) .nil .nil) .nil) (.node (o27 P) (.node (o43 P) .nil .nil) .nil))) (.node (boot_o_5 P) (.node (boot_o_9 P) (.node (o17 P) (.node (o33 P) .nil .nil) .nil) (.node (o25 P) (.node (o41 P) .nil .nil) .nil)) (.node (o13 P) (.node (o21 P) (.node (o37 P) .nil .nil) .nil) (.node (o29 P) (.node (o45 P) .nil .nil) .nil)))) (.node (boot_o_2 P) (.node (boot_o_4 P) (.node (boot_o_8 P) (.node (o16 P) (.node (o32 P) .nil .nil) .nil) (.node (o24 P) (.node (o40 P) .nil .nil) .nil)) (.node (o12_1 P) (.node (o20 P) (.node (o36 P) .nil .nil) .nil) (.node (o28 P) (.node (o44 P) .nil .nil) .nil))) (.node (boot_o_6 P) (.node (boot_o_10 P) (.node (o18 P) (.node (o34 P) .nil .nil) .nil) (.node (o26 P) (.node (o42 P) .nil .nil) .nil)) (.node (o14 P) (.node (o22 P) (.node (o38 P) .nil .nil) .nil) (.node (o30 P) (.node (o46 P) .nil .nil) .nil)))))
noncomputable def S_1 (w : World) (os : OsState) : SharedT := ⟨T_1 w.params, 48, {}, #[], {}, 245, os⟩
noncomputable def T_2 (P : Params) : BT := (.node (boot_o_0 P) (.node (boot_o_1 P) (.node (o3_2 P) (.node (boot_o_7 P) (.node (o15 P) (.node (o31 P) (.node (o63 P) .nil .nil) (.node (o95 P) .nil .nil)) (.node (o47 P) (.node (o79 P) .nil .nil) .nil)) (.node (o23 P) (.node (o39 P) (.node (o71 P) .nil .nil) .nil) (.node (o55 P) (.node (o87 P) .nil .nil) .nil))) (.node (o11 P) (.node (o19 P) (.node (o35 P) (.node (o67 P) .nil .nil) .nil) (.node (o51 P) (.node (o83 P) .nil .nil) .nil)) (.node (o27 P) (.node (o43 P) (.node (o75 P) .nil .nil) .nil) (.node (o59 P) (.node (o91 P) .nil .nil) .nil)))) (.node (boot_o_5 P) (.node (boot_o_9 P) (.node (o17 P) (.node (o33 P) (.node (o65 P) .nil .nil) (.node (o97 P) .nil .nil)) (.node (o49 P) (.node (o81 P) .nil .nil) .nil)) (.node (o25 P) (.node (o41 P) (.node (o73 P) .nil .nil) .nil) (.node (o57 P) (.node (o89 P) .nil .nil) .nil))) (.node (o13 P) (.node (o21 P) (.node (o37 P) (.node (o69 P) .nil .nil) .nil) (.node (o53 P) (.node (o85 P) .nil .nil) .nil)) (.node (o29 P) (.node (o45 P) (.node (o77 P) .nil .nil) .nil) (.node (o61 P) (.node (o93 P) .nil .nil) .nil))))) (.node (boot_o_2 P) (.node (boot_o_4 P) (.node (boot_o_8 P) (.node (o16 P) (.node (o32 P) (.node (o64 P) .nil .nil) (.node (o96 P) .nil .nil)) (.node (o48 P) (.node (o80 P) .nil .nil) .nil)) (.node (o24 P) (.node (o40 P) (.node (o72 P) .nil .nil) .nil) (.node (o56 P) (.node (o88 P) .nil .nil) .nil))) (.node (o12_2 P) (.node (o20 P) (.node (o36 P) (.node (o68 P) .nil .nil) .nil) (.node (o52 P) (.node (o84 P) .nil .nil) .nil)) (.node (o28 P) (.node (o44 P) (.node (o76 P) .nil .nil) .nil) (.node (o60 P) (.node (o92 P) .nil .nil) .nil)))) (.node (boot_o_6 P) (.node (boot_o_10 P) (.node (o18 P) (.node (o34 P) (.node (o66 P) .nil .nil) (.node (o98 P) .nil .nil)) (.node (o50 P) (.node (o82 P) .nil .nil) .nil)) (.node (o26 P) (.node (o42 P) (.node (o74 P) .nil .nil) .nil) (.node (o58 P) (.node (o90 P) .nil .nil) .nil))) (.node (o14 P) (.node (o22 P) (.node (o38 P) (.node (o70 P) .nil .nil) .nil) (.node (o54 P) (.node (o86 P) .nil .nil) .nil)) (.node (o30 P) (.node (o46 P) (.node (o78 P) .nil .nil) .nil) (.node (o62 P) (.node (o94 P) .nil .nil) .nil))))))
noncomputable def S_2 (w : World) (os : OsState) : SharedT := ⟨T_2 w.params, 99, {}, #[], {}, 324, os⟩
noncomputable def T_3 (P : Params) : BT := (.node (boot_o_0 P) (.node (boot_o_1 P) (.node (o3_3 P) (.node (boot_o_7 P) (.node (o15 P) (.node (o31 P) (.node (o63 P) (.node (o127 P) .nil .nil) .nil) (.node (o95 P) .nil .nil)) (.node (o47 P) (.node (o79 P) (.node (o143 P) .nil .nil) .nil) (.node (o111 P) .nil .nil))) (.node (o23 P) (.node (o39 P) (.node (o71 P) (.node (o135 P) .nil .nil) .nil) (.node (o103 P) .nil .nil)) (.node (o55 P) (.node (o87 P) .nil .nil) (.node (o119 P) .nil .nil)))) (.node (o11 P) (.node (o19 P) (.node (o35 P) (.node (o67 P) (.node (o131 P) .nil .nil) .nil) (.node (o99 P) .nil .nil)) (.node (o51 P) (.node (o83 P) .nil .nil) (.node (o115 P) .nil .nil))) (.node (o27 P) (.node (o43 P) (.node (o75 P) (.node (o139 P) .nil .nil) .nil) (.node (o107 P) .nil .nil)) (.node (o59 P) (.node (o91 P) .nil .nil) (.node (o123 P) .nil .nil))))) (.node (boot_o_5 P) (.node (boot_o_9 P) (.node (o17 P) (.node (o33 P) (.node (o65 P) (.node (o129 P) .nil .nil) .nil) (.node (o97 P) .nil .nil)) (.node (o49 P) (.node (o81 P) (.node (o145 P) .nil .nil) .nil) (.node (o113 P) .nil .nil))) (.node (o25 P) (.node (o41 P) (.node (o73 P) (.node (o137 P) .nil .nil) .nil) (.node (o105 P) .nil .nil)) (.node (o57 P) (.node (o89 P) .nil .nil) (.node (o121 P) .nil .nil)))) (.node (o13 P) (.node (o21 P) (.node (o37 P) (.node (o69 P) (.node (o133 P) .nil .nil) .nil) (.node (o101 P) .nil .nil)) (.node (o53 P) (.node (o85 P) .nil .nil) (.node (o117 P) .nil .nil))) (.node (o29 P) (.node (o45 P) (.node (o77 P) (.node (o141 P) .nil .nil) .nil) (.node (o109 P) .nil .nil)) (.node (o61 P) (.node (o93 P) .nil .nil) (.node (o125 P) .nil .nil)))))) (.node (boot_o_2 P) (.node (boot_o_4 P) (.node (boot_o_8 P) (.node (o16 P) (.node (o32 P) (.node (o64 P) (.node (o128 P) .nil .nil) .nil) (.node (o96 P) .nil .nil)) (.node (o48 P) (.node (o80 P) (.node (o144 P) .nil .nil) .nil) (.node (o112 P) .nil .nil))) (.node (o24 P) (.node (o40 P) (.node (o72 P) (.node (o136 P) .nil .nil) .nil) (.node (o104 P) .nil .nil)) (.node (o56 P) (.node (o88 P) .nil .nil) (.node (o120 P) .nil .nil)))) (.node (o12_3 P) (.node (o20 P) (.node (o36 P) (.node (o68 P) (.node (o132 P) .nil .nil) .nil) (.node (o100 P) .nil .nil)) (.node (o52 P) (.node (o84 P) .nil .nil) (.node (o116 P) .nil .nil))) (.node (o28 P) (.node (o44 P) (.node (o76 P) (.node (o140 P) .nil .nil) .nil) (.node (o108 P) .nil .nil)) (.node (o60 P) (.node (o92 P) .nil .nil) (.node (o124 P) .nil .nil))))) (.node (boot_o_6 P) (.node (boot_o_10 P) (.node (o18 P) (.node (o34 P) (.node (o66 P) (.node (o130 P) .nil .nil) .nil) (.node (o98 P) .nil .nil)) (.node (o50 P) (.node (o82 P) .nil .nil) (.node (o114 P) .nil .nil))) (.node (o26 P) (.node (o42 P) (.node (o74 P) (.node (o138 P) .nil .nil) .nil) (.node (o106 P) .nil .nil)) (.node (o58 P) (.node (o90 P) .nil .nil) (.node (o122 P) .nil .nil)))) (.node (o14 P) (.node (o22 P) (.node (o38 P) (.node (o70 P) (.node (o134 P) .nil .nil) .nil) (.node (o102 P) .nil .nil)) (.node (o54 P) (.node (o86 P) .nil .nil) (.node (o118 P) .nil .nil))) (.node (o30 P) (.node (o46 P) (.node (o78 P) (.node (o142 P) .nil .nil) .nil) (.node (o110 P) .nil .nil)) (.node (o62 P) (.node (o94 P) .nil .nil) (.node (o126 P) .nil .nil)))))))
noncomputable def S_3 (w : World) (os : OsState) : SharedT := ⟨T_3 w.params, 146, {}, #[], {}, 392, os⟩
noncomputable def T_4 (P : Params) : BT := (.node (boot_o_0 P) (.node (boot_o_1 P) (.node (o3_4 P) (.node (boot_o_7 P) (.node (o15 P) (.node (o31 P) (.node (o63 P) (.node (o127 P) .nil .nil) .nil) (.node (o95 P) (.node (o159 P) .nil .nil) .nil)) (.node (o47 P) (.node (o79 P) (.node (o143 P) .nil .nil) .nil) (.node (o111 P) (.node (o175 P) .nil .nil) .nil))) (.node (o23 P) (.node (o39 P) (.node (o71 P) (.node (o135 P) .nil .nil) .nil) (.node (o103 P) (.node (o167 P) .nil .nil) .nil)) (.node (o55 P) (.node (o87 P) (.node (o151 P) .nil .nil) .nil) (.node (o119 P) .nil .nil)))) (.node (o11 P) (.node (o19 P) (.node (o35 P) (.node (o67 P) (.node (o131 P) .nil .nil) .nil) (.node (o99 P) (.node (o163 P) .nil .nil) .nil)) (.node (o51 P) (.node (o83 P) (.node (o147 P) .nil .nil) .nil) (.node (o115 P) (.node (o179 P) .nil .nil) .nil))) (.node (o27 P) (.node (o43 P) (.node (o75 P) (.node (o139 P) .nil .nil) .nil) (.node (o107 P) (.node (o171 P) .nil .nil) .nil)) (.node (o59 P) (.node (o91 P) (.node (o155 P) .nil .nil) .nil) (.node (o123 P) .nil .nil))))) (.node (boot_o_5 P) (.node (boot_o_9 P) (.node (o17 P) (.node (o33 P) (.node (o65 P) (.node (o129 P) .nil .nil) .nil) (.node (o97 P) (.node (o161 P) .nil .nil) .nil)) (.node (o49 P) (.node (o81 P) (.node (o145 P) .nil .nil) .nil) (.node (o113 P) (.node (o177 P) .nil .nil) .nil))) (.node (o25 P) (.node (o41 P) (.node (o73 P) (.node (o137 P) .nil .nil) .nil) (.node (o105 P) (.node (o169 P) .nil .nil) .nil)) (.node (o57 P) (.node (o89 P) (.node (o153 P) .nil .nil) .nil) (.node (o121 P) .nil .nil)))) (.node (o13 P) (.node (o21 P) (.node (o37 P) (.node (o69 P) (.node (o133 P) .nil .nil) .nil) (.node (o101 P) (.node (o165 P) .nil .nil) .nil)) (.node (o53 P) (.node (o85 P) (.node (o149 P) .nil .nil) .nil) (.node (o117 P) .nil .nil))) (.node (o29 P) (.node (o45 P) (.node (o77 P) (.node (o141 P) .nil .nil) .nil) (.node (o109 P) (.node (o173 P) .nil .nil) .nil)) (.node (o61 P) (.node (o93 P) (.node (o157 P) .nil .nil) .nil) (.node (o125 P) .nil .nil)))))) (.node (boot_o_2 P) (.node (boot_o_4 P) (.node (boot_o_8 P) (.node (o16 P) (.node (o32 P) (.node (o64 P) (.node (o128 P) .nil .nil) .nil) (.node (o96 P) (.node (o160 P) .nil .nil) .nil)) (.node (o48 P) (.node (o80 P) (.node (o144 P) .nil .nil) .nil) (.node (o112 P) (.node (o176 P) .nil .nil) .nil))) (.node (o24 P) (.node (o40 P) (.node (o72 P) (.node (o136 P) .nil .nil) .nil) (.node (o104 P) (.node (o168 P) .nil .nil) .nil)) (.node (o56 P) (.node (o88 P) (.node (o152 P) .nil .nil) .nil) (.node (o120 P) .nil .nil)))) (.node (o12_4 P) (.node (o20 P) (.node (o36 P) (.node (o68 P) (.node (o132 P) .nil .nil) .nil) (.node (o100 P) (.node (o164 P) .nil .nil) .nil)) (.node (o52 P) (.node (o84 P) (.node (o148 P) .nil .nil) .nil) (.node (o116 P) (.node (o180 P) .nil .nil) .nil))) (.node (o28 P) (.node (o44 P) (.node (o76 P) (.node (o140 P) .nil .nil) .nil) (.node (o108 P) (.node (o172 P) .nil .nil) .nil)) (.node (o60 P) (.node (o92 P) (.node (o156 P) .nil .nil) .nil) (.node (o124 P) .nil .nil))))) (.node (boot_o_6 P) (.node (boot_o_10 P) (.node (o18 P) (.node (o34 P) (.node (o66 P) (.node (o130 P) .nil .nil) .nil) (.node (o98 P) (.node (o162 P) .nil .nil) .nil)) (.node (o50 P) (.node (o82 P) (.node (o146 P) .nil .nil) .nil) (.node (o114 P) (.node (o178 P) .nil .nil) .nil))) (.node (o26 P) (.node (o42 P) (.node (o74 P) (.node (o138 P) .nil .nil) .nil) (.node (o106 P) (.node (o170 P) .nil .nil) .nil)) (.node (o58 P) (.node (o90 P) (.node (o154 P) .nil .nil) .nil) (.node (o122 P) .nil .nil)))) (.node (o14 P) (.node (o22 P) (.node (o38 P) (.node (o70 P) (.node (o134 P) .nil .nil) .nil) (.node (o102 P) (.node (o166 P) .nil .nil) .nil)) (.node (o54 P) (.node (o86 P) (.node (o150 P) .nil .nil) .nil) (.node (o118 P) .nil .nil))) (.node (o30 P) (.node (o46 P) (.node (o78 P) (.node (o142 P) .nil .nil) .nil) (.node (o110 P) (.node (o174 P) .nil .nil) .nil)) (.node (o62 P) (.node (o94 P) (.node (o158 P) .nil .nil) .nil) (.node (o126 P) .nil .nil)))))))
noncomputable def S_4 (w : World) (os : OsState) : SharedT := ⟨T_4 w.params, 181, {}, #[], {}, 452, os⟩
noncomputable def T_5 (P : Params) : BT := (.node (boot_o_0 P) (.node (boot_o_1 P) (.node (o3_5 P) (.node (boot_o_7 P) (.node (o15 P) (.node (o31 P) (.node (o63 P) (.node (o127 P) .nil .nil) (.node (o191 P) .nil .nil)) (.node (o95 P) (.node (o159 P) .nil .nil) (.node (o223 P) .nil .nil))) (.node (o47 P) (.node (o79 P) (.node (o143 P) .nil .nil) (.node (o207 P) .nil .nil)) (.node (o111 P) (.node (o175 P) .nil .nil) .nil))) (.node (o23 P) (.node (o39 P) (.node (o71 P) (.node (o135 P) .nil .nil) (.node (o199 P) .nil .nil)) (.node (o103 P) (.node (o167 P) .nil .nil) (.node (o231 P) .nil .nil))) (.node (o55 P) (.node (o87 P) (.node (o151 P) .nil .nil) (.node (o215 P) .nil .nil)) (.node (o119 P) (.node (o183 P) .nil .nil) .nil)))) (.node (o11 P) (.node (o19 P) (.node (o35 P) (.node (o67 P) (.node (o131 P) .nil .nil) (.node (o195 P) .nil .nil)) (.node (o99 P) (.node (o163 P) .nil .nil) (.node (o227 P) .nil .nil))) (.node (o51 P) (.node (o83 P) (.node (o147 P) .nil .nil) (.node (o211 P) .nil .nil)) (.node (o115 P) (.node (o179 P) .nil .nil) .nil))) (.node (o27 P) (.node (o43 P) (.node (o75 P) (.node (o139 P) .nil .nil) (.node (o203 P) .nil .nil)) (.node (o107 P) (.node (o171 P) .nil .nil) .nil)) (.node (o59 P) (.node (o91 P) (.node (o155 P) .nil .nil) (.node (o219 P) .nil .nil)) (.node (o123 P) (.node (o187 P) .nil .nil) .nil))))) (.node (boot_o_5 P) (.node (boot_o_9 P) (.node (o17 P) (.node (o33 P) (.node (o65 P) (.node (o129 P) .nil .nil) (.node (o193 P) .nil .nil)) (.node (o97 P) (.node (o161 P) .nil .nil) (.node (o225 P) .nil .nil))) (.node (o49 P) (.node (o81 P) (.node (o145 P) .nil .nil) (.node (o209 P) .nil .nil)) (.node (o113 P) (.node (o177 P) .nil .nil) .nil))) (.node (o25 P) (.node (o41 P) (.node (o73 P) (.node (o137 P) .nil .nil) (.node (o201 P) .nil .nil)) (.node (o105 P) (.node (o169 P) .nil .nil) .nil)) (.node (o57 P) (.node (o89 P) (.node (o153 P) .nil .nil) (.node (o217 P) .nil .nil)) (.node (o121 P) (.node (o185 P) .nil .nil) .nil)))) (.node (o13 P) (.node (o21 P) (.node (o37 P) (.node (o69 P) (.node (o133 P) .nil .nil) (.node (o197 P) .nil .nil)) (.node (o101 P) (.node (o165 P) .nil .nil) (.node (o229 P) .nil .nil))) (.node (o53 P) (.node (o85 P) (.node (o149 P) .nil .nil) (.node (o213 P) .nil .nil)) (.node (o117 P) (.node (o181 P) .nil .nil) .nil))) (.node (o29 P) (.node (o45 P) (.node (o77 P) (.node (o141 P) .nil .nil) (.node (o205 P) .nil .nil)) (.node (o109 P) (.node (o173 P) .nil .nil) .nil)) (.node (o61 P) (.node (o93 P) (.node (o157 P) .nil .nil) (.node (o221 P) .nil .nil)) (.node (o125 P) (.node (o189 P) .nil .nil) .nil)))))) (.node (boot_o_2 P) (.node (boot_o_4 P) (.node (boot_o_8 P) (.node (o16 P) (.node (o32 P) (.node (o64 P) (.node (o128 P) .nil .nil) (.node (o192 P) .nil .nil)) (.node (o96 P) (.node (o160 P) .nil .nil) (.node (o224 P) .nil .nil))) (.node (o48 P) (.node (o80 P) (.node (o144 P) .nil .nil) (.node (o208 P) .nil .nil)) (.node (o112 P) (.node (o176 P) .nil .nil) .nil))) (.node (o24 P) (.node (o40 P) (.node (o72 P) (.node (o136 P) .nil .nil) (.node (o200 P) .nil .nil)) (.node (o104 P) (.node (o168 P) .nil .nil) .nil)) (.node (o56 P) (.node (o88 P) (.node (o152 P) .nil .nil) (.node (o216 P) .nil .nil)) (.node (o120 P) (.node (o184 P) .nil .nil) .nil)))) (.node (o12_5 P) (.node (o20 P) (.node (o36 P) (.node (o68 P) (.node (o132 P) .nil .nil) (.node (o196 P) .nil .nil)) (.node (o100 P) (.node (o164 P) .nil .nil) (.node (o228 P) .nil .nil))) (.node (o52 P) (.node (o84 P) (.node (o148 P) .nil .nil) (.node (o212 P) .nil .nil)) (.node (o116 P) (.node (o180 P) .nil .nil) .nil))) (.node (o28 P) (.node (o44 P) (.node (o76 P) (.node (o140 P) .nil .nil) (.node (o204 P) .nil .nil)) (.node (o108 P) (.node (o172 P) .nil .nil) .nil)) (.node (o60 P) (.node (o92 P) (.node (o156 P) .nil .nil) (.node (o220 P) .nil .nil)) (.node (o124 P) (.node (o188 P) .nil .nil) .nil))))) (.node (boot_o_6 P) (.node (boot_o_10 P) (.node (o18 P) (.node (o34 P) (.node (o66 P) (.node (o130 P) .nil .nil) (.node (o194 P) .nil .nil)) (.node (o98 P) (.node (o162 P) .nil .nil) (.node (o226 P) .nil .nil))) (.node (o50 P) (.node (o82 P) (.node (o146 P) .nil .nil) (.node (o210 P) .nil .nil)) (.node (o114 P) (.node (o178 P) .nil .nil) .nil))) (.node (o26 P) (.node (o42 P) (.node (o74 P) (.node (o138 P) .nil .nil) (.node (o202 P) .nil .nil)) (.node (o106 P) (.node (o170 P) .nil .nil) .nil)) (.node (o58 P) (.node (o90 P) (.node (o154 P) .nil .nil) (.node (o218 P) .nil .nil)) (.node (o122 P) (.node (o186 P) .nil .nil) .nil)))) (.node (o14 P) (.node (o22 P) (.node (o38 P) (.node (o70 P) (.node (o134 P) .nil .nil) (.node (o198 P) .nil .nil)) (.node (o102 P) (.node (o166 P) .nil .nil) (.node (o230 P) .nil .nil))) (.node (o54 P) (.node (o86 P) (.node (o150 P) .nil .nil) (.node (o214 P) .nil .nil)) (.node (o118 P) (.node (o182 P) .nil .nil) .nil))) (.node (o30 P) (.node (o46 P) (.node (o78 P) (.node (o142 P) .nil .nil) (.node (o206 P) .nil .nil)) (.node (o110 P) (.node (o174 P) .nil .nil) .nil)) (.node (o62 P) (.node (o94 P) (.node (o158 P) .nil .nil) (.node (o222 P) .nil .nil)) (.node (o126 P) (.node (o190 P) .nil .nil) .nil)))))))
noncomputable def S_5 (w : World) (os : OsState) : SharedT := ⟨T_5 w.params, 232, {}, #[], {}, 517, os⟩
noncomputable def T_6 (P : Params) : BT := (.node (boot_o_0 P) (.node (boot_o_1 P) (.node (o3_6 P) (.node (boot_o_7 P) (.node (o15 P) (.node (o31 P) (.node (o63 P) (.node (o127 P) .nil .nil) (.node (o191 P) .nil .nil)) (.node (o95 P) (.node (o159 P) .nil .nil) (.node (o223 P) .nil .nil))) (.node (o47 P) (.node (o79 P) (.node (o143 P) .nil .nil) (.node (o207 P) .nil .nil)) (.node (o111 P) (.node (o175 P) .nil .nil) (.node (o239 P) .nil .nil)))) (.node (o23 P) (.node (o39 P) (.node (o71 P) (.node (o135 P) .nil .nil) (.node (o199 P) .nil .nil)) (.node (o103 P) (.node (o167 P) .nil .nil) (.node (o231 P) .nil .nil))) (.node (o55 P) (.node (o87 P) (.node (o151 P) .nil .nil) (.node (o215 P) .nil .nil)) (.node (o119 P) (.node (o183 P) .nil .nil) (.node (o247 P) .nil .nil))))) (.node (o11 P) (.node (o19 P) (.node (o35 P) (.node (o67 P) (.node (o131 P) .nil .nil) (.node (o195 P) .nil .nil)) (.node (o99 P) (.node (o163 P) .nil .nil) (.node (o227 P) .nil .nil))) (.node (o51 P) (.node (o83 P) (.node (o147 P) .nil .nil) (.node (o211 P) .nil .nil)) (.node (o115 P) (.node (o179 P) .nil .nil) (.node (o243 P) .nil .nil)))) (.node (o27 P) (.node (o43 P) (.node (o75 P) (.node (o139 P) .nil .nil) (.node (o203 P) .nil .nil)) (.node (o107 P) (.node (o171 P) .nil .nil) (.node (o235 P) .nil .nil))) (.node (o59 P) (.node (o91 P) (.node (o155 P) .nil .nil) (.node (o219 P) .nil .nil)) (.node (o123 P) (.node (o187 P) .nil .nil) .nil))))) (.node (boot_o_5 P) (.node (boot_o_9 P) (.node (o17 P) (.node (o33 P) (.node (o65 P) (.node (o129 P) .nil .nil) (.node (o193 P) .nil .nil)) (.node (o97 P) (.node (o161 P) .nil .nil) (.node (o225 P) .nil .nil))) (.node (o49 P) (.node (o81 P) (.node (o145 P) .nil .nil) (.node (o209 P) .nil .nil)) (.node (o113 P) (.node (o177 P) .nil .nil) (.node (o241 P) .nil .nil)))) (.node (o25 P) (.node (o41 P) (.node (o73 P) (.node (o137 P) .nil .nil) (.node (o201 P) .nil .nil)) (.node (o105 P) (.node (o169 P) .nil .nil) (.node (o233 P) .nil .nil))) (.node (o57 P) (.node (o89 P) (.node (o153 P) .nil .nil) (.node (o217 P) .nil .nil)) (.node (o121 P) (.node (o185 P) .nil .nil) (.node (o249 P) .nil .nil))))) (.node (o13 P) (.node (o21 P) (.node (o37 P) (.node (o69 P) (.node (o133 P) .nil .nil) (.node (o197 P) .nil .nil)) (.node (o101 P) (.node (o165 P) .nil .nil) (.node (o229 P) .nil .nil))) (.node (o53 P) (.node (o85 P) (.node (o149 P) .nil .nil) (.node (o213 P) .nil .nil)) (.node (o117 P) (.node (o181 P) .nil .nil) (.node (o245 P) .nil .nil)))) (.node (o29 P) (.node (o45 P) (.node (o77 P) (.node (o141 P) .nil .nil) (.node (o205 P) .nil .nil)) (.node (o109 P) (.node (o173 P) .nil .nil) (.node (o237 P) .nil .nil))) (.node (o61 P) (.node (o93 P) (.node (o157 P) .nil .nil) (.node (o221 P) .nil .nil)) (.node (o125 P) (.node (o189 P) .nil .nil) .nil)))))) (.node (boot_o_2 P) (.node (boot_o_4 P) (.node (boot_o_8 P) (.node (o16 P) (.node (o32 P) (.node (o64 P) (.node (o128 P) .nil .nil) (.node (o192 P) .nil .nil)) (.node (o96 P) (.node (o160 P) .nil .nil) (.node (o224 P) .nil .nil))) (.node (o48 P) (.node (o80 P) (.node (o144 P) .nil .nil) (.node (o208 P) .nil .nil)) (.node (o112 P) (.node (o176 P) .nil .nil) (.node (o240 P) .nil .nil)))) (.node (o24 P) (.node (o40 P) (.node (o72 P) (.node (o136 P) .nil .nil) (.node (o200 P) .nil .nil)) (.node (o104 P) (.node (o168 P) .nil .nil) (.node (o232 P) .nil .nil))) (.node (o56 P) (.node (o88 P) (.node (o152 P) .nil .nil) (.node (o216 P) .nil .nil)) (.node (o120 P) (.node (o184 P) .nil .nil) (.node (o248 P) .nil .nil))))) (.node (o12_6 P) (.node (o20 P) (.node (o36 P) (.node (o68 P) (.node (o132 P) .nil .nil) (.node (o196 P) .nil .nil)) (.node (o100 P) (.node (o164 P) .nil .nil) (.node (o228 P) .nil .nil))) (.node (o52 P) (.node (o84 P) (.node (o148 P) .nil .nil) (.node (o212 P) .nil .nil)) (.node (o116 P) (.node (o180 P) .nil .nil) (.node (o244 P) .nil .nil)))) (.node (o28 P) (.node (o44 P) (.node (o76 P) (.node (o140 P) .nil .nil) (.node (o204 P) .nil .nil)) (.node (o108 P) (.node (o172 P) .nil .nil) (.node (o236 P) .nil .nil))) (.node (o60 P) (.node (o92 P) (.node (o156 P) .nil .nil) (.node (o220 P) .nil .nil)) (.node (o124 P) (.node (o188 P) .nil .nil) .nil))))) (.node (boot_o_6 P) (.node (boot_o_10 P) (.node (o18 P) (.node (o34 P) (.node (o66 P) (.node (o130 P) .nil .nil) (.node (o194 P) .nil .nil)) (.node (o98 P) (.node (o162 P) .nil .nil) (.node (o226 P) .nil .nil))) (.node (o50 P) (.node (o82 P) (.node (o146 P) .nil .nil) (.node (o210 P) .nil .nil)) (.node (o114 P) (.node (o178 P) .nil .nil) (.node (o242 P) .nil .nil)))) (.node (o26 P) (.node (o42 P) (.node (o74 P) (.node (o138 P) .nil .nil) (.node (o202 P) .nil .nil)) (.node (o106 P) (.node (o170 P) .nil .nil) (.node (o234 P) .nil .nil))) (.node (o58 P) (.node (o90 P) (.node (o154 P) .nil .nil) (.node (o218 P) .nil .nil)) (.node (o122 P) (.node (o186 P) .nil .nil) (.node (o250 P) .nil .nil))))) (.node (o14 P) (.node (o22 P) (.node (o38 P) (.node (o70 P) (.node (o134 P) .nil .nil) (.node (o198 P) .nil .nil)) (.node (o102 P) (.node (o166 P) .nil .nil) (.node (o230 P) .nil .nil))) (.node (o54 P) (.node (o86 P) (.node (o150 P) .nil .nil) (.node (o214 P) .nil .nil)) (.node (o118 P) (.node (o182 P) .nil .nil) (.node (o246 P) .nil .nil)))) (.node (o30 P) (.node (o46 P) (.node (o78 P) (.node (o142 P) .nil .nil) (.node (o206 P) .nil .nil)) (.node (o110 P) (.node (o174 P) .nil .nil) (.node (o238 P) .nil .nil))) (.node (o62 P) (.node (o94 P) (.node (o158 P) .nil .nil) (.node (o222 P) .nil .nil)) (.node (o126 P) (.node (o190 P) .nil .nil) .nil)))))))
noncomputable def S_6 (w : World) (os : OsState) : SharedT := ⟨T_6 w.params, 251, {}, #[], {}, 544, os⟩
noncomputable def T_7 (P : Params) : BT := (.node (boot_o_0 P) (.node (boot_o_1 P) (.node (o3_7 P) (.node (boot_o_7 P) (.node (o15 P) (.node (o31 P) (.node (o63 P) (.node (o127 P) (.node (o255 P) .nil .nil) .nil) (.node (o191 P) .nil .nil)) (.node (o95 P) (.node (o159 P) (.node (o287 P) .nil .nil) .nil) (.node (o223 P) .nil .nil))) (.node (o47 P) (.node (o79 P) (.node (o143 P) (.node (o271 P) .nil .nil) .nil) (.node (o207 P) .nil .nil)) (.node (o111 P) (.node (o175 P) .nil .nil) (.node (o239 P) .nil .nil)))) (.node (o23 P) (.node (o39 P) (.node (o71 P) (.node (o135 P) (.node (o263 P) .nil .nil) .nil) (.node (o199 P) .nil .nil)) (.node (o103 P) (.node (o167 P) (.node (o295 P) .nil .nil) .nil) (.node (o231 P) .nil .nil))) (.node (o55 P) (.node (o87 P) (.node (o151 P) (.node (o279 P) .nil .nil) .nil) (.node (o215 P) .nil .nil)) (.node (o119 P) (.node (o183 P) .nil .nil) (.node (o247 P) .nil .nil))))) (.node (o11 P) (.node (o19 P) (.node (o35 P) (.node (o67 P) (.node (o131 P) (.node (o259 P) .nil .nil) .nil) (.node (o195 P) .nil .nil)) (.node (o99 P) (.node (o163 P) (.node (o291 P) .nil .nil) .nil) (.node (o227 P) .nil .nil))) (.node (o51 P) (.node (o83 P) (.node (o147 P) (.node (o275 P) .nil .nil) .nil) (.node (o211 P) .nil .nil)) (.node (o115 P) (.node (o179 P) .nil .nil) (.node (o243 P) .nil .nil)))) (.node (o27 P) (.node (o43 P) (.node (o75 P) (.node (o139 P) (.node (o267 P) .nil .nil) .nil) (.node (o203 P) .nil .nil)) (.node (o107 P) (.node (o171 P) .nil .nil) (.node (o235 P) .nil .nil))) (.node (o59 P) (.node (o91 P) (.node (o155 P) (.node (o283 P) .nil .nil) .nil) (.node (o219 P) .nil .nil)) (.node (o123 P) (.node (o187 P) .nil .nil) (.node (o251 P) .nil .nil)))))) (.node (boot_o_5 P) (.node (boot_o_9 P) (.node (o17 P) (.node (o33 P) (.node (o65 P) (.node (o129 P) (.node (o257 P) .nil .nil) .nil) (.node (o193 P) .nil .nil)) (.node (o97 P) (.node (o161 P) (.node (o289 P) .nil .nil) .nil) (.node (o225 P) .nil .nil))) (.node (o49 P) (.node (o81 P) (.node (o145 P) (.node (o273 P) .nil .nil) .nil) (.node (o209 P) .nil .nil)) (.node (o113 P) (.node (o177 P) .nil .nil) (.node (o241 P) .nil .nil)))) (.node (o25 P) (.node (o41 P) (.node (o73 P) (.node (o137 P) (.node (o265 P) .nil .nil) .nil) (.node (o201 P) .nil .nil)) (.node (o105 P) (.node (o169 P) (.node (o297 P) .nil .nil) .nil) (.node (o233 P) .nil .nil))) (.node (o57 P) (.node (o89 P) (.node (o153 P) (.node (o281 P) .nil .nil) .nil) (.node (o217 P) .nil .nil)) (.node (o121 P) (.node (o185 P) .nil .nil) (.node (o249 P) .nil .nil))))) (.node (o13 P) (.node (o21 P) (.node (o37 P) (.node (o69 P) (.node (o133 P) (.node (o261 P) .nil .nil) .nil) (.node (o197 P) .nil .nil)) (.node (o101 P) (.node (o165 P) (.node (o293 P) .nil .nil) .nil) (.node (o229 P) .nil .nil))) (.node (o53 P) (.node (o85 P) (.node (o149 P) (.node (o277 P) .nil .nil) .nil) (.node (o213 P) .nil .nil)) (.node (o117 P) (.node (o181 P) .nil .nil) (.node (o245 P) .nil .nil)))) (.node (o29 P) (.node (o45 P) (.node (o77 P) (.node (o141 P) (.node (o269 P) .nil .nil) .nil) (.node (o205 P) .nil .nil)) (.node (o109 P) (.node (o173 P) .nil .nil) (.node (o237 P) .nil .nil))) (.node (o61 P) (.node (o93 P) (.node (o157 P) (.node (o285 P) .nil .nil) .nil) (.node (o221 P) .nil .nil)) (.node (o125 P) (.node (o189 P) .nil .nil) (.node (o253 P) .nil .nil))))))) (.node (boot_o_2 P) (.node (boot_o_4 P) (.node (boot_o_8 P) (.node (o16 P) (.node (o32 P) (.node (o64 P) (.node (o128 P) (.node (o256 P) .nil .nil) .nil) (.node (o192 P) .nil .nil)) (.node (o96 P) (.node (o160 P) (.node (o288 P) .nil .nil) .nil) (.node (o224 P) .nil .nil))) (.node (o48 P) (.node (o80 P) (.node (o144 P) (.node (o272 P) .nil .nil) .nil) (.node (o208 P) .nil .nil)) (.node (o112 P) (.node (o176 P) .nil .nil) (.node (o240 P) .nil .nil)))) (.node (o24 P) (.node (o40 P) (.node (o72 P) (.node (o136 P) (.node (o264 P) .nil .nil) .nil) (.node (o200 P) .nil .nil)) (.node (o104 P) (.node (o168 P) (.node (o296 P) .nil .nil) .nil) (.node (o232 P) .nil .nil))) (.node (o56 P) (.node (o88 P) (.node (o152 P) (.node (o280 P) .nil .nil) .nil) (.node (o216 P) .nil .nil)) (.node (o120 P) (.node (o184 P) .nil .nil) (.node (o248 P) .nil .nil))))) (.node (o12_7 P) (.node (o20 P) (.node (o36 P) (.node (o68 P) (.node (o132 P) (.node (o260 P) .nil .nil) .nil) (.node (o196 P) .nil .nil)) (.node (o100 P) (.node (o164 P) (.node (o292 P) .nil .nil) .nil) (.node (o228 P) .nil .nil))) (.node (o52 P) (.node (o84 P) (.node (o148 P) (.node (o276 P) .nil .nil) .nil) (.node (o212 P) .nil .nil)) (.node (o116 P) (.node (o180 P) .nil .nil) (.node (o244 P) .nil .nil)))) (.node (o28 P) (.node (o44 P) (.node (o76 P) (.node (o140 P) (.node (o268 P) .nil .nil) .nil) (.node (o204 P) .nil .nil)) (.node (o108 P) (.node (o172 P) .nil .nil) (.node (o236 P) .nil .nil))) (.node (o60 P) (.node (o92 P) (.node (o156 P) (.node (o284 P) .nil .nil) .nil) (.node (o220 P) .nil .nil)) (.node (o124 P) (.node (o188 P) .nil .nil) (.node (o252 P) .nil .nil)))))) (.node (boot_o_6 P) (.node (boot_o_10 P) (.node (o18 P) (.node (o34 P) (.node (o66 P) (.node (o130 P) (.node (o258 P) .nil .nil) .nil) (.node (o194 P) .nil .nil)) (.node (o98 P) (.node (o162 P) (.node (o290 P) .nil .nil) .nil) (.node (o226 P) .nil .nil))) (.node (o50 P) (.node (o82 P) (.node (o146 P) (.node (o274 P) .nil .nil) .nil) (.node (o210 P) .nil .nil)) (.node (o114 P) (.node (o178 P) .nil .nil) (.node (o242 P) .nil .nil)))) (.node (o26 P) (.node (o42 P) (.node (o74 P) (.node (o138 P) (.node (o266 P) .nil .nil) .nil) (.node (o202 P) .nil .nil)) (.node (o106 P) (.node (o170 P) .nil .nil) (.node (o234 P) .nil .nil))) (.node (o58 P) (.node (o90 P) (.node (o154 P) (.node (o282 P) .nil .nil) .nil) (.node (o218 P) .nil .nil)) (.node (o122 P) (.node (o186 P) .nil .nil) (.node (o250 P) .nil .nil))))) (.node (o14 P) (.node (o22 P) (.node (o38 P) (.node (o70 P) (.node (o134 P) (.node (o262 P) .nil .nil) .nil) (.node (o198 P) .nil .nil)) (.node (o102 P) (.node (o166 P) (.node (o294 P) .nil .nil) .nil) (.node (o230 P) .nil .nil))) (.node (o54 P) (.node (o86 P) (.node (o150 P) (.node (o278 P) .nil .nil) .nil) (.node (o214 P) .nil .nil)) (.node (o118 P) (.node (o182 P) .nil .nil) (.node (o246 P) .nil .nil)))) (.node (o30 P) (.node (o46 P) (.node (o78 P) (.node (o142 P) (.node (o270 P) .nil .nil) .nil) (.node (o206 P) .nil .nil)) (.node (o110 P) (.node (o174 P) .nil .nil) (.node (o238 P) .nil .nil))) (.node (o62 P) (.node (o94 P) (.node (o158 P) (.node (o286 P) .nil .nil) .nil) (.node (o222 P) .nil .nil)) (.node (o126 P) (.node (o190 P) .nil .nil) (.node (o254 P) .nil .nil))))))))
noncomputable def S_7 (w : World) (os : OsState) : SharedT := ⟨T_7 w.params, 298, {}, #[], {}, 612, os⟩
noncomputable def T_8 (P : Params) : BT := (.node (boot_o_0 P) (.node (boot_o_1 P) (.node (o3_8 P) (.node (boot_o_7 P) (.node (o15 P) (.node (o31 P) (.node (o63 P) (.node (o127 P) (.node (o255 P) .nil .nil) .nil) (.node (o191 P) (.node (o319 P) .nil .nil) .nil)) (.node (o95 P) (.node (o159 P) (.node (o287 P) .nil .nil) .nil) (.node (o223 P) .nil .nil))) (.node (o47 P) (.node (o79 P) (.node (o143 P) (.node (o271 P) .nil .nil) .nil) (.node (o207 P) (.node (o335 P) .nil .nil) .nil)) (.node (o111 P) (.node (o175 P) (.node (o303 P) .nil .nil) .nil) (.node (o239 P) .nil .nil)))) (.node (o23 P) (.node (o39 P) (.node (o71 P) (.node (o135 P) (.node (o263 P) .nil .nil) .nil) (.node (o199 P) (.node (o327 P) .nil .nil) .nil)) (.node (o103 P) (.node (o167 P) (.node (o295 P) .nil .nil) .nil) (.node (o231 P) .nil .nil))) (.node (o55 P) (.node (o87 P) (.node (o151 P) (.node (o279 P) .nil .nil) .nil) (.node (o215 P) (.node (o343 P) .nil .nil) .nil)) (.node (o119 P) (.node (o183 P) (.node (o311 P) .nil .nil) .nil) (.node (o247 P) .nil .nil))))) (.node (o11 P) (.node (o19 P) (.node (o35 P) (.node (o67 P) (.node (o131 P) (.node (o259 P) .nil .nil) .nil) (.node (o195 P) (.node (o323 P) .nil .nil) .nil)) (.node (o99 P) (.node (o163 P) (.node (o291 P) .nil .nil) .nil) (.node (o227 P) .nil .nil))) (.node (o51 P) (.node (o83 P) (.node (o147 P) (.node (o275 P) .nil .nil) .nil) (.node (o211 P) (.node (o339 P) .nil .nil) .nil)) (.node (o115 P) (.node (o179 P) (.node (o307 P) .nil .nil) .nil) (.node (o243 P) .nil .nil)))) (.node (o27 P) (.node (o43 P) (.node (o75 P) (.node (o139 P) (.node (o267 P) .nil .nil) .nil) (.node (o203 P) (.node (o331 P) .nil .nil) .nil)) (.node (o107 P) (.node (o171 P) (.node (o299 P) .nil .nil) .nil) (.node (o235 P) .nil .nil))) (.node (o59 P) (.node (o91 P) (.node (o155 P) (.node (o283 P) .nil .nil) .nil) (.node (o219 P) .nil .nil)) (.node (o123 P) (.node (o187 P) (.node (o315 P) .nil .nil) .nil) (.node (o251 P) .nil .nil)))))) (.node (boot_o_5 P) (.node (boot_o_9 P) (.node (o17 P) (.node (o33 P) (.node (o65 P) (.node (o129 P) (.node (o257 P) .nil .nil) .nil) (.node (o193 P) (.node (o321 P) .nil .nil) .nil)) (.node (o97 P) (.node (o161 P) (.node (o289 P) .nil .nil) .nil) (.node (o225 P) .nil .nil))) (.node (o49 P) (.node (o81 P) (.node (o145 P) (.node (o273 P) .nil .nil) .nil) (.node (o209 P) (.node (o337 P) .nil .nil) .nil)) (.node (o113 P) (.node (o177 P) (.node (o305 P) .nil .nil) .nil) (.node (o241 P) .nil .nil)))) (.node (o25 P) (.node (o41 P) (.node (o73 P) (.node (o137 P) (.node (o265 P) .nil .nil) .nil) (.node (o201 P) (.node (o329 P) .nil .nil) .nil)) (.node (o105 P) (.node (o169 P) (.node (o297 P) .nil .nil) .nil) (.node (o233 P) .nil .nil))) (.node (o57 P) (.node (o89 P) (.node (o153 P) (.node (o281 P) .nil .nil) .nil) (.node (o217 P) (.node (o345 P) .nil .nil) .nil)) (.node (o121 P) (.node (o185 P) (.node (o313 P) .nil .nil) .nil) (.node (o249 P) .nil .nil))))) (.node (o13 P) (.node (o21 P) (.node (o37 P) (.node (o69 P) (.node (o133 P) (.node (o261 P) .nil .nil) .nil) (.node (o197 P) (.node (o325 P) .nil .nil) .nil)) (.node (o101 P) (.node (o165 P) (.node (o293 P) .nil .nil) .nil) (.node (o229 P) .nil .nil))) (.node (o53 P) (.node (o85 P) (.node (o149 P) (.node (o277 P) .nil .nil) .nil) (.node (o213 P) (.node (o341 P) .nil .nil) .nil)) (.node (o117 P) (.node (o181 P) (.node (o309 P) .nil .nil) .nil) (.node (o245 P) .nil .nil)))) (.node (o29 P) (.node (o45 P) (.node (o77 P) (.node (o141 P) (.node (o269 P) .nil .nil) .nil) (.node (o205 P) (.node (o333 P) .nil .nil) .nil)) (.node (o109 P) (.node (o173 P) (.node (o301 P) .nil .nil) .nil) (.node (o237 P) .nil .nil))) (.node (o61 P) (.node (o93 P) (.node (o157 P) (.node (o285 P) .nil .nil) .nil) (.node (o221 P) .nil .nil)) (.node (o125 P) (.node (o189 P) (.node (o317 P) .nil .nil) .nil) (.node (o253 P) .nil .nil))))))) (.node (boot_o_2 P) (.node (boot_o_4 P) (.node (boot_o_8 P) (.node (o16 P) (.node (o32 P) (.node (o64 P) (.node (o128 P) (.node (o256 P) .nil .nil) .nil) (.node (o192 P) (.node (o320 P) .nil .nil) .nil)) (.node (o96 P) (.node (o160 P) (.node (o288 P) .nil .nil) .nil) (.node (o224 P) .nil .nil))) (.node (o48 P) (.node (o80 P) (.node (o144 P) (.node (o272 P) .nil .nil) .nil) (.node (o208 P) (.node (o336 P) .nil .nil) .nil)) (.node (o112 P) (.node (o176 P) (.node (o304 P) .nil .nil) .nil) (.node (o240 P) .nil .nil)))) (.node (o24 P) (.node (o40 P) (.node (o72 P) (.node (o136 P) (.node (o264 P) .nil .nil) .nil) (.node (o200 P) (.node (o328 P) .nil .nil) .nil)) (.node (o104 P) (.node (o168 P) (.node (o296 P) .nil .nil) .nil) (.node (o232 P) .nil .nil))) (.node (o56 P) (.node (o88 P) (.node (o152 P) (.node (o280 P) .nil .nil) .nil) (.node (o216 P) (.node (o344 P) .nil .nil) .nil)) (.node (o120 P) (.node (o184 P) (.node (o312 P) .nil .nil) .nil) (.node (o248 P) .nil .nil))))) (.node (o12_8 P) (.node (o20 P) (.node (o36 P) (.node (o68 P) (.node (o132 P) (.node (o260 P) .nil .nil) .nil) (.node (o196 P) (.node (o324 P) .nil .nil) .nil)) (.node (o100 P) (.node (o164 P) (.node (o292 P) .nil .nil) .nil) (.node (o228 P) .nil .nil))) (.node (o52 P) (.node (o84 P) (.node (o148 P) (.node (o276 P) .nil .nil) .nil) (.node (o212 P) (.node (o340 P) .nil .nil) .nil)) (.node (o116 P) (.node (o180 P) (.node (o308 P) .nil .nil) .nil) (.node (o244 P) .nil .nil)))) (.node (o28 P) (.node (o44 P) (.node (o76 P) (.node (o140 P) (.node (o268 P) .nil .nil) .nil) (.node (o204 P) (.node (o332 P) .nil .nil) .nil)) (.node (o108 P) (.node (o172 P) (.node (o300 P) .nil .nil) .nil) (.node (o236 P) .nil .nil))) (.node (o60 P) (.node (o92 P) (.node (o156 P) (.node (o284 P) .nil .nil) .nil) (.node (o220 P) .nil .nil)) (.node (o124 P) (.node (o188 P) (.node (o316 P) .nil .nil) .nil) (.node (o252 P) .nil .nil)))))) (.node (boot_o_6 P) (.node (boot_o_10 P) (.node (o18 P) (.node (o34 P) (.node (o66 P) (.node (o130 P) (.node (o258 P) .nil .nil) .nil) (.node (o194 P) (.node (o322 P) .nil .nil) .nil)) (.node (o98 P) (.node (o162 P) (.node (o290 P) .nil .nil) .nil) (.node (o226 P) .nil .nil))) (.node (o50 P) (.node (o82 P) (.node (o146 P) (.node (o274 P) .nil .nil) .nil) (.node (o210 P) (.node (o338 P) .nil .nil) .nil)) (.node (o114 P) (.node (o178 P) (.node (o306 P) .nil .nil) .nil) (.node (o242 P) .nil .nil)))) (.node (o26 P) (.node (o42 P) (.node (o74 P) (.node (o138 P) (.node (o266 P) .nil .nil) .nil) (.node (o202 P) (.node (o330 P) .nil .nil) .nil)) (.node (o106 P) (.node (o170 P) (.node (o298 P) .nil .nil) .nil) (.node (o234 P) .nil .nil))) (.node (o58 P) (.node (o90 P) (.node (o154 P) (.node (o282 P) .nil .nil) .nil) (.node (o218 P) .nil .nil)) (.node (o122 P) (.node (o186 P) (.node (o314 P) .nil .nil) .nil) (.node (o250 P) .nil .nil))))) (.node (o14 P) (.node (o22 P) (.node (o38 P) (.node (o70 P) (.node (o134 P) (.node (o262 P) .nil .nil) .nil) (.node (o198 P) (.node (o326 P) .nil .nil) .nil)) (.node (o102 P) (.node (o166 P) (.node (o294 P) .nil .nil) .nil) (.node (o230 P) .nil .nil))) (.node (o54 P) (.node (o86 P) (.node (o150 P) (.node (o278 P) .nil .nil) .nil) (.node (o214 P) (.node (o342 P) .nil .nil) .nil)) (.node (o118 P) (.node (o182 P) (.node (o310 P) .nil .nil) .nil) (.node (o246 P) .nil .nil)))) (.node (o30 P) (.node (o46 P) (.node (o78 P) (.node (o142 P) (.node (o270 P) .nil .nil) .nil) (.node (o206 P) (.node (o334 P) .nil .nil) .nil)) (.node (o110 P) (.node (o174 P) (.node (o302 P) .nil .nil) .nil) (.node (o238 P) .nil .nil))) (.node (o62 P) (.node (o94 P) (.node (o158 P) (.node (o286 P) .nil .nil) .nil) (.node (o222 P) .nil .nil)) (.node (o126 P) (.node (o190 P) (.node (o318 P) .nil .nil) .nil) (.node (o254 P) .nil .nil))))))))
noncomputable def S_8 (w : World) (os : OsState) : SharedT := ⟨T_8 w.params, 346, {}, #[], {}, 687, os⟩
noncomputable def T_9 (P : Params) : BT := (.node (boot_o_0 P) (.node (boot_o_1 P) (.node (o3_9 P) (.node (boot_o_7 P) (.node (o15 P) (.node (o31 P) (.node (o63 P) (.node (o127 P) (.node (o255 P) .nil .nil) (.node (o383 P) .nil .nil)) (.node (o191 P) (.node (o319 P) .nil .nil) .nil)) (.node (o95 P) (.node (o159 P) (.node (o287 P) .nil .nil) .nil) (.node (o223 P) (.node (o351 P) .nil .nil) .nil))) (.node (o47 P) (.node (o79 P) (.node (o143 P) (.node (o271 P) .nil .nil) (.node (o399 P) .nil .nil)) (.node (o207 P) (.node (o335 P) .nil .nil) .nil)) (.node (o111 P) (.node (o175 P) (.node (o303 P) .nil .nil) .nil) (.node (o239 P) (.node (o367 P) .nil .nil) .nil)))) (.node (o23 P) (.node (o39 P) (.node (o71 P) (.node (o135 P) (.node (o263 P) .nil .nil) (.node (o391 P) .nil .nil)) (.node (o199 P) (.node (o327 P) .nil .nil) .nil)) (.node (o103 P) (.node (o167 P) (.node (o295 P) .nil .nil) .nil) (.node (o231 P) (.node (o359 P) .nil .nil) .nil))) (.node (o55 P) (.node (o87 P) (.node (o151 P) (.node (o279 P) .nil .nil) .nil) (.node (o215 P) (.node (o343 P) .nil .nil) .nil)) (.node (o119 P) (.node (o183 P) (.node (o311 P) .nil .nil) .nil) (.node (o247 P) (.node (o375 P) .nil .nil) .nil))))) (.node (o11 P) (.node (o19 P) (.node (o35 P) (.node (o67 P) (.node (o131 P) (.node (o259 P) .nil .nil) (.node (o387 P) .nil .nil)) (.node (o195 P) (.node (o323 P) .nil .nil) .nil)) (.node (o99 P) (.node (o163 P) (.node (o291 P) .nil .nil) .nil) (.node (o227 P) (.node (o355 P) .nil .nil) .nil))) (.node (o51 P) (.node (o83 P) (.node (o147 P) (.node (o275 P) .nil .nil) .nil) (.node (o211 P) (.node (o339 P) .nil .nil) .nil)) (.node (o115 P) (.node (o179 P) (.node (o307 P) .nil .nil) .nil) (.node (o243 P) (.node (o371 P) .nil .nil) .nil)))) (.node (o27 P) (.node (o43 P) (.node (o75 P) (.node (o139 P) (.node (o267 P) .nil .nil) (.node (o395 P) .nil .nil)) (.node (o203 P) (.node (o331 P) .nil .nil) .nil)) (.node (o107 P) (.node (o171 P) (.node (o299 P) .nil .nil) .nil) (.node (o235 P) (.node (o363 P) .nil .nil) .nil))) (.node (o59 P) (.node (o91 P) (.node (o155 P) (.node (o283 P) .nil .nil) .nil) (.node (o219 P) (.node (o347 P) .nil .nil) .nil)) (.node (o123 P) (.node (o187 P) (.node (o315 P) .nil .nil) .nil) (.node (o251 P) (.node (o379 P) .nil .nil) .nil)))))) (.node (boot_o_5 P) (.node (boot_o_9 P) (.node (o17 P) (.node (o33 P) (.node (o65 P) (.node (o129 P) (.node (o257 P) .nil .nil) (.node (o385 P) .nil .nil)) (.node (o193 P) (.node (o321 P) .nil .nil) .nil)) (.node (o97 P) (.node (o161 P) (.node (o289 P) .nil .nil) .nil) (.node (o225 P) (.node (o353 P) .nil .nil) .nil))) (.node (o49 P) (.node (o81 P) (.node (o145 P) (.node (o273 P) .nil .nil) (.node (o401 P) .nil .nil)) (.node (o209 P) (.node (o337 P) .nil .nil) .nil)) (.node (o113 P) (.node (o177 P) (.node (o305 P) .nil .nil) .nil) (.node (o241 P) (.node (o369 P) .nil .nil) .nil)))) (.node (o25 P) (.node (o41 P) (.node (o73 P) (.node (o137 P) (.node (o265 P) .nil .nil) (.node (o393 P) .nil .nil)) (.node (o201 P) (.node (o329 P) .nil .nil) .nil)) (.node (o105 P) (.node (o169 P) (.node (o297 P) .nil .nil) .nil) (.node (o233 P) (.node (o361 P) .nil .nil) .nil))) (.node (o57 P) (.node (o89 P) (.node (o153 P) (.node (o281 P) .nil .nil) .nil) (.node (o217 P) (.node (o345 P) .nil .nil) .nil)) (.node (o121 P) (.node (o185 P) (.node (o313 P) .nil .nil) .nil) (.node (o249 P) (.node (o377 P) .nil .nil) .nil))))) (.node (o13 P) (.node (o21 P) (.node (o37 P) (.node (o69 P) (.node (o133 P) (.node (o261 P) .nil .nil) (.node (o389 P) .nil .nil)) (.node (o197 P) (.node (o325 P) .nil .nil) .nil)) (.node (o101 P) (.node (o165 P) (.node (o293 P) .nil .nil) .nil) (.node (o229 P) (.node (o357 P) .nil .nil) .nil))) (.node (o53 P) (.node (o85 P) (.node (o149 P) (.node (o277 P) .nil .nil) .nil) (.node (o213 P) (.node (o341 P) .nil .nil) .nil)) (.node (o117 P) (.node (o181 P) (.node (o309 P) .nil .nil) .nil) (.node (o245 P) (.node (o373 P) .nil .nil) .nil)))) (.node (o29 P) (.node (o45 P) (.node (o77 P) (.node (o141 P) (.node (o269 P) .nil .nil) (.node (o397 P) .nil .nil)) (.node (o205 P) (.node (o333 P) .nil .nil) .nil)) (.node (o109 P) (.node (o173 P) (.node (o301 P) .nil .nil) .nil) (.node (o237 P) (.node (o365 P) .nil .nil) .nil))) (.node (o61 P) (.node (o93 P) (.node (o157 P) (.node (o285 P) .nil .nil) .nil) (.node (o221 P) (.node (o349 P) .nil .nil) .nil)) (.node (o125 P) (.node (o189 P) (.node (o317 P) .nil .nil) .nil) (.node (o253 P) (.node (o381 P) .nil .nil) .nil))))))) (.node (boot_o_2 P) (.node (boot_o_4 P) (.node (boot_o_8 P) (.node (o16 P) (.node (o32 P) (.node (o64 P) (.node (o128 P) (.node (o256 P) .nil .nil) (.node (o384 P) .nil .nil)) (.node (o192 P) (.node (o320 P) .nil .nil) .nil)) (.node (o96 P) (.node (o160 P) (.node (o288 P) .nil .nil) .nil) (.node (o224 P) (.node (o352 P) .nil .nil) .nil))) (.node (o48 P) (.node (o80 P) (.node (o144 P) (.node (o272 P) .nil .nil) (.node (o400 P) .nil .nil)) (.node (o208 P) (.node (o336 P) .nil .nil) .nil)) (.node (o112 P) (.node (o176 P) (.node (o304 P) .nil .nil) .nil) (.node (o240 P) (.node (o368 P) .nil .nil) .nil)))) (.node (o24 P) (.node (o40 P) (.node (o72 P) (.node (o136 P) (.node (o264 P) .nil .nil) (.node (o392 P) .nil .nil)) (.node (o200 P) (.node (o328 P) .nil .nil) .nil)) (.node (o104 P) (.node (o168 P) (.node (o296 P) .nil .nil) .nil) (.node (o232 P) (.node (o360 P) .nil .nil) .nil))) (.node (o56 P) (.node (o88 P) (.node (o152 P) (.node (o280 P) .nil .nil) .nil) (.node (o216 P) (.node (o344 P) .nil .nil) .nil)) (.node (o120 P) (.node (o184 P) (.node (o312 P) .nil .nil) .nil) (.node (o248 P) (.node (o376 P) .nil .nil) .nil))))) (.node (o12_9 P) (.node (o20 P) (.node (o36 P) (.node (o68 P) (.node (o132 P) (.node (o260 P) .nil .nil) (.node (o388 P) .nil .nil)) (.node (o196 P) (.node (o324 P) .nil .nil) .nil)) (.node (o100 P) (.node (o164 P) (.node (o292 P) .nil .nil) .nil) (.node (o228 P) (.node (o356 P) .nil .nil) .nil))) (.node (o52 P) (.node (o84 P) (.node (o148 P) (.node (o276 P) .nil .nil) .nil) (.node (o212 P) (.node (o340 P) .nil .nil) .nil)) (.node (o116 P) (.node (o180 P) (.node (o308 P) .nil .nil) .nil) (.node (o244 P) (.node (o372 P) .nil .nil) .nil)))) (.node (o28 P) (.node (o44 P) (.node (o76 P) (.node (o140 P) (.node (o268 P) .nil .nil) (.node (o396 P) .nil .nil)) (.node (o204 P) (.node (o332 P) .nil .nil) .nil)) (.node (o108 P) (.node (o172 P) (.node (o300 P) .nil .nil) .nil) (.node (o236 P) (.node (o364 P) .nil .nil) .nil))) (.node (o60 P) (.node (o92 P) (.node (o156 P) (.node (o284 P) .nil .nil) .nil) (.node (o220 P) (.node (o348 P) .nil .nil) .nil)) (.node (o124 P) (.node (o188 P) (.node (o316 P) .nil .nil) .nil) (.node (o252 P) (.node (o380 P) .nil .nil) .nil)))))) (.node (boot_o_6 P) (.node (boot_o_10 P) (.node (o18 P) (.node (o34 P) (.node (o66 P) (.node (o130 P) (.node (o258 P) .nil .nil) (.node (o386 P) .nil .nil)) (.node (o194 P) (.node (o322 P) .nil .nil) .nil)) (.node (o98 P) (.node (o162 P) (.node (o290 P) .nil .nil) .nil) (.node (o226 P) (.node (o354 P) .nil .nil) .nil))) (.node (o50 P) (.node (o82 P) (.node (o146 P) (.node (o274 P) .nil .nil) (.node (o402 P) .nil .nil)) (.node (o210 P) (.node (o338 P) .nil .nil) .nil)) (.node (o114 P) (.node (o178 P) (.node (o306 P) .nil .nil) .nil) (.node (o242 P) (.node (o370 P) .nil .nil) .nil)))) (.node (o26 P) (.node (o42 P) (.node (o74 P) (.node (o138 P) (.node (o266 P) .nil .nil) (.node (o394 P) .nil .nil)) (.node (o202 P) (.node (o330 P) .nil .nil) .nil)) (.node (o106 P) (.node (o170 P) (.node (o298 P) .nil .nil) .nil) (.node (o234 P) (.node (o362 P) .nil .nil) .nil))) (.node (o58 P) (.node (o90 P) (.node (o154 P) (.node (o282 P) .nil .nil) .nil) (.node (o218 P) (.node (o346 P) .nil .nil) .nil)) (.node (o122 P) (.node (o186 P) (.node (o314 P) .nil .nil) .nil) (.node (o250 P) (.node (o378 P) .nil .nil) .nil))))) (.node (o14 P) (.node (o22 P) (.node (o38 P) (.node (o70 P) (.node (o134 P) (.node (o262 P) .nil .nil) (.node (o390 P) .nil .nil)) (.node (o198 P) (.node (o326 P) .nil .nil) .nil)) (.node (o102 P) (.node (o166 P) (.node (o294 P) .nil .nil) .nil) (.node (o230 P) (.node (o358 P) .nil .nil) .nil))) (.node (o54 P) (.node (o86 P) (.node (o150 P) (.node (o278 P) .nil .nil) .nil) (.node (o214 P) (.node (o342 P) .nil .nil) .nil)) (.node (o118 P) (.node (o182 P) (.node (o310 P) .nil .nil) .nil) (.node (o246 P) (.node (o374 P) .nil .nil) .nil)))) (.node (o30 P) (.node (o46 P) (.node (o78 P) (.node (o142 P) (.node (o270 P) .nil .nil) (.node (o398 P) .nil .nil)) (.node (o206 P) (.node (o334 P) .nil .nil) .nil)) (.node (o110 P) (.node (o174 P) (.node (o302 P) .nil .nil) .nil) (.node (o238 P) (.node (o366 P) .nil .nil) .nil))) (.node (o62 P) (.node (o94 P) (.node (o158 P) (.node (o286 P) .nil .nil) .nil) (.node (o222 P) (.node (o350 P) .nil .nil) .nil)) (.node (o126 P) (.node (o190 P) (.node (o318 P) .nil .nil) .nil) (.node (o254 P) (.node (o382 P) .nil .nil) .nil))))))))
noncomputable def S_9 (w : World) (os : OsState) : SharedT := ⟨T_9 w.params, 403, {}, #[], {}, 760, os⟩
noncomputable def T_10 (P : Params) : BT := (.node (boot_o_0 P) (.node (boot_o_1 P) (.node (o3_10 P) (.node (boot_o_7 P) (.node (o15 P) (.node (o31 P) (.node (o63 P) (.node (o127 P) (.node (o255 P) .nil .nil) (.node (o383 P) .nil .nil)) (.node (o191 P) (.node (o319 P) .nil .nil) (.node (o447 P) .nil .nil))) (.node (o95 P) (.node (o159 P) (.node (o287 P) .nil .nil) (.node (o415 P) .nil .nil)) (.node (o223 P) (.node (o351 P) .nil .nil) .nil))) (.node (o47 P) (.node (o79 P) (.node (o143 P) (.node (o271 P) .nil .nil) (.node (o399 P) .nil .nil)) (.node (o207 P) (.node (o335 P) .nil .nil) .nil)) (.node (o111 P) (.node (o175 P) (.node (o303 P) .nil .nil) (.node (o431 P) .nil .nil)) (.node (o239 P) (.node (o367 P) .nil .nil) .nil)))) (.node (o23 P) (.node (o39 P) (.node (o71 P) (.node (o135 P) (.node (o263 P) .nil .nil) (.node (o391 P) .nil .nil)) (.node (o199 P) (.node (o327 P) .nil .nil) .nil)) (.node (o103 P) (.node (o167 P) (.node (o295 P) .nil .nil) (.node (o423 P) .nil .nil)) (.node (o231 P) (.node (o359 P) .nil .nil) .nil))) (.node (o55 P) (.node (o87 P) (.node (o151 P) (.node (o279 P) .nil .nil) (.node (o407 P) .nil .nil)) (.node (o215 P) (.node (o343 P) .nil .nil) .nil)) (.node (o119 P) (.node (o183 P) (.node (o311 P) .nil .nil) (.node (o439 P) .nil .nil)) (.node (o247 P) (.node (o375 P) .nil .nil) .nil))))) (.node (o11 P) (.node (o19 P) (.node (o35 P) (.node (o67 P) (.node (o131 P) (.node (o259 P) .nil .nil) (.node (o387 P) .nil .nil)) (.node (o195 P) (.node (o323 P) .nil .nil) .nil)) (.node (o99 P) (.node (o163 P) (.node (o291 P) .nil .nil) (.node (o419 P) .nil .nil)) (.node (o227 P) (.node (o355 P) .nil .nil) .nil))) (.node (o51 P) (.node (o83 P) (.node (o147 P) (.node (o275 P) .nil .nil) (.node (o403 P) .nil .nil)) (.node (o211 P) (.node (o339 P) .nil .nil) .nil)) (.node (o115 P) (.node (o179 P) (.node (o307 P) .nil .nil) (.node (o435 P) .nil .nil)) (.node (o243 P) (.node (o371 P) .nil .nil) .nil)))) (.node (o27 P) (.node (o43 P) (.node (o75 P) (.node (o139 P) (.node (o267 P) .nil .nil) (.node (o395 P) .nil .nil)) (.node (o203 P) (.node (o331 P) .nil .nil) .nil)) (.node (o107 P) (.node (o171 P) (.node (o299 P) .nil .nil) (.node (o427 P) .nil .nil)) (.node (o235 P) (.node (o363 P) .nil .nil) .nil))) (.node (o59 P) (.node (o91 P) (.node (o155 P) (.node (o283 P) .nil .nil) (.node (o411 P) .nil .nil)) (.node (o219 P) (.node (o347 P) .nil .nil) .nil)) (.node (o123 P) (.node (o187 P) (.node (o315 P) .nil .nil) (.node (o443 P) .nil .nil)) (.node (o251 P) (.node (o379 P) .nil .nil) .nil)))))) (.node (boot_o_5 P) (.node (boot_o_9 P) (.node (o17 P) (.node (o33 P) (.node (o65 P) (.node (o129 P) (.node (o257 P) .nil .nil) (.node (o385 P) .nil .nil)) (.node (o193 P) (.node (o321 P) .nil .nil) .nil)) (.node (o97 P) (.node (o161 P) (.node (o289 P) .nil .nil) (.node (o417 P) .nil .nil)) (.node (o225 P) (.node (o353 P) .nil .nil) .nil))) (.node (o49 P) (.node (o81 P) (.node (o145 P) (.node (o273 P) .nil .nil) (.node (o401 P) .nil .nil)) (.node (o209 P) (.node (o337 P) .nil .nil) .nil)) (.node (o113 P) (.node (o177 P) (.node (o305 P) .nil .nil) (.node (o433 P) .nil .nil)) (.node (o241 P) (.node (o369 P) .nil .nil) .nil)))) (.node (o25 P) (.node (o41 P) (.node (o73 P) (.node (o137 P) (.node (o265 P) .nil .nil) (.node (o393 P) .nil .nil)) (.node (o201 P) (.node (o329 P) .nil .nil) .nil)) (.node (o105 P) (.node (o169 P) (.node (o297 P) .nil .nil) (.node (o425 P) .nil .nil)) (.node (o233 P) (.node (o361 P) .nil .nil) .nil))) (.node (o57 P) (.node (o89 P) (.node (o153 P) (.node (o281 P) .nil .nil) (.node (o409 P) .nil .nil)) (.node (o217 P) (.node (o345 P) .nil .nil) .nil)) (.node (o121 P) (.node (o185 P) (.node (o313 P) .nil .nil) (.node (o441 P) .nil .nil)) (.node (o249 P) (.node (o377 P) .nil .nil) .nil))))) (.node (o13 P) (.node (o21 P) (.node (o37 P) (.node (o69 P) (.node (o133 P) (.node (o261 P) .nil .nil) (.node (o389 P) .nil .nil)) (.node (o197 P) (.node (o325 P) .nil .nil) .nil)) (.node (o101 P) (.node (o165 P) (.node (o293 P) .nil .nil) (.node (o421 P) .nil .nil)) (.node (o229 P) (.node (o357 P) .nil .nil) .nil))) (.node (o53 P) (.node (o85 P) (.node (o149 P) (.node (o277 P) .nil .nil) (.node (o405 P) .nil .nil)) (.node (o213 P) (.node (o341 P) .nil .nil) .nil)) (.node (o117 P) (.node (o181 P) (.node (o309 P) .nil .nil) (.node (o437 P) .nil .nil)) (.node (o245 P) (.node (o373 P) .nil .nil) .nil)))) (.node (o29 P) (.node (o45 P) (.node (o77 P) (.node (o141 P) (.node (o269 P) .nil .nil) (.node (o397 P) .nil .nil)) (.node (o205 P) (.node (o333 P) .nil .nil) .nil)) (.node (o109 P) (.node (o173 P) (.node (o301 P) .nil .nil) (.node (o429 P) .nil .nil)) (.node (o237 P) (.node (o365 P) .nil .nil) .nil))) (.node (o61 P) (.node (o93 P) (.node (o157 P) (.node (o285 P) .nil .nil) (.node (o413 P) .nil .nil)) (.node (o221 P) (.node (o349 P) .nil .nil) .nil)) (.node (o125 P) (.node (o189 P) (.node (o317 P) .nil .nil) (.node (o445 P) .nil .nil)) (.node (o253 P) (.node (o381 P) .nil .nil) .nil))))))) (.node (boot_o_2 P) (.node (boot_o_4 P) (.node (boot_o_8 P) (.node (o16 P) (.node (o32 P) (.node (o64 P) (.node (o128 P) (.node (o256 P) .nil .nil) (.node (o384 P) .nil .nil)) (.node (o192 P) (.node (o320 P) .nil .nil) .nil)) (.node (o96 P) (.node (o160 P) (.node (o288 P) .nil .nil) (.node (o416 P) .nil .nil)) (.node (o224 P) (.node (o352 P) .nil .nil) .nil))) (.node (o48 P) (.node (o80 P) (.node (o144 P) (.node (o272 P) .nil .nil) (.node (o400 P) .nil .nil)) (.node (o208 P) (.node (o336 P) .nil .nil) .nil)) (.node (o112 P) (.node (o176 P) (.node (o304 P) .nil .nil) (.node (o432 P) .nil .nil)) (.node (o240 P) (.node (o368 P) .nil .nil) .nil)))) (.node (o24 P) (.node (o40 P) (.node (o72 P) (.node (o136 P) (.node (o264 P) .nil .nil) (.node (o392 P) .nil .nil)) (.node (o200 P) (.node (o328 P) .nil .nil) .nil)) (.node (o104 P) (.node (o168 P) (.node (o296 P) .nil .nil) (.node (o424 P) .nil .nil)) (.node (o232 P) (.node (o360 P) .nil .nil) .nil))) (.node (o56 P) (.node (o88 P) (.node (o152 P) (.node (o280 P) .nil .nil) (.node (o408 P) .nil .nil)) (.node (o216 P) (.node (o344 P) .nil .nil) .nil)) (.node (o120 P) (.node (o184 P) (.node (o312 P) .nil .nil) (.node (o440 P) .nil .nil)) (.node (o248 P) (.node (o376 P) .nil .nil) .nil))))) (.node (o12_10 P) (.node (o20 P) (.node (o36 P) (.node (o68 P) (.node (o132 P) (.node (o260 P) .nil .nil) (.node (o388 P) .nil .nil)) (.node (o196 P) (.node (o324 P) .nil .nil) .nil)) (.node (o100 P) (.node (o164 P) (.node (o292 P) .nil .nil) (.node (o420 P) .nil .nil)) (.node (o228 P) (.node (o356 P) .nil .nil) .nil))) (.node (o52 P) (.node (o84 P) (.node (o148 P) (.node (o276 P) .nil .nil) (.node (o404 P) .nil .nil)) (.node (o212 P) (.node (o340 P) .nil .nil) .nil)) (.node (o116 P) (.node (o180 P) (.node (o308 P) .nil .nil) (.node (o436 P) .nil .nil)) (.node (o244 P) (.node (o372 P) .nil .nil) .nil)))) (.node (o28 P) (.node (o44 P) (.node (o76 P) (.node (o140 P) (.node (o268 P) .nil .nil) (.node (o396 P) .nil .nil)) (.node (o204 P) (.node (o332 P) .nil .nil) .nil)) (.node (o108 P) (.node (o172 P) (.node (o300 P) .nil .nil) (.node (o428 P) .nil .nil)) (.node (o236 P) (.node (o364 P) .nil .nil) .nil))) (.node (o60 P) (.node (o92 P) (.node (o156 P) (.node (o284 P) .nil .nil) (.node (o412 P) .nil .nil)) (.node (o220 P) (.node (o348 P) .nil .nil) .nil)) (.node (o124 P) (.node (o188 P) (.node (o316 P) .nil .nil) (.node (o444 P) .nil .nil)) (.node (o252 P) (.node (o380 P) .nil .nil) .nil)))))) (.node (boot_o_6 P) (.node (boot_o_10 P) (.node (o18 P) (.node (o34 P) (.node (o66 P) (.node (o130 P) (.node (o258 P) .nil .nil) (.node (o386 P) .nil .nil)) (.node (o194 P) (.node (o322 P) .nil .nil) .nil)) (.node (o98 P) (.node (o162 P) (.node (o290 P) .nil .nil) (.node (o418 P) .nil .nil)) (.node (o226 P) (.node (o354 P) .nil .nil) .nil))) (.node (o50 P) (.node (o82 P) (.node (o146 P) (.node (o274 P) .nil .nil) (.node (o402 P) .nil .nil)) (.node (o210 P) (.node (o338 P) .nil .nil) .nil)) (.node (o114 P) (.node (o178 P) (.node (o306 P) .nil .nil) (.node (o434 P) .nil .nil)) (.node (o242 P) (.node (o370 P) .nil .nil) .nil)))) (.node (o26 P) (.node (o42 P) (.node (o74 P) (.node (o138 P) (.node (o266 P) .nil .nil) (.node (o394 P) .nil .nil)) (.node (o202 P) (.node (o330 P) .nil .nil) .nil)) (.node (o106 P) (.node (o170 P) (.node (o298 P) .nil .nil) (.node (o426 P) .nil .nil)) (.node (o234 P) (.node (o362 P) .nil .nil) .nil))) (.node (o58 P) (.node (o90 P) (.node (o154 P) (.node (o282 P) .nil .nil) (.node (o410 P) .nil .nil)) (.node (o218 P) (.node (o346 P) .nil .nil) .nil)) (.node (o122 P) (.node (o186 P) (.node (o314 P) .nil .nil) (.node (o442 P) .nil .nil)) (.node (o250 P) (.node (o378 P) .nil .nil) .nil))))) (.node (o14 P) (.node (o22 P) (.node (o38 P) (.node (o70 P) (.node (o134 P) (.node (o262 P) .nil .nil) (.node (o390 P) .nil .nil)) (.node (o198 P) (.node (o326 P) .nil .nil) .nil)) (.node (o102 P) (.node (o166 P) (.node (o294 P) .nil .nil) (.node (o422 P) .nil .nil)) (.node (o230 P) (.node (o358 P) .nil .nil) .nil))) (.node (o54 P) (.node (o86 P) (.node (o150 P) (.node (o278 P) .nil .nil) (.node (o406 P) .nil .nil)) (.node (o214 P) (.node (o342 P) .nil .nil) .nil)) (.node (o118 P) (.node (o182 P) (.node (o310 P) .nil .nil) (.node (o438 P) .nil .nil)) (.node (o246 P) (.node (o374 P) .nil .nil) .nil)))) (.node (o30 P) (.node (o46 P) (.node (o78 P) (.node (o142 P) (.node (o270 P) .nil .nil) (.node (o398 P) .nil .nil)) (.node (o206 P) (.node (o334 P) .nil .nil) .nil)) (.node (o110 P) (.node (o174 P) (.node (o302 P) .nil .nil) (.node (o430 P) .nil .nil)) (.node (o238 P) (.node (o366 P) .nil .nil) .nil))) (.node (o62 P) (.node (o94 P) (.node (o158 P) (.node (o286 P) .nil .nil) (.node (o414 P) .nil .nil)) (.node (o222 P) (.node (o350 P) .nil .nil) .nil)) (.node (o126 P) (.node (o190 P) (.node (o318 P) .nil .nil) (.node (o446 P) .nil .nil)) (.node (o254 P) (.node (o382 P) .nil .nil) .nil))))))))
noncomputable def S_10 (w : World) (os : OsState) : SharedT := ⟨T_10 w.params, 448, {}, #[], {}, 837, os⟩
noncomputable def H1 (P : Params) : Heap := ⟨#[boot_o_0 P, boot_o_1 P, boot_o_2 P, o3_10 P, boot_o_4 P, boot_o_5 P, boot_o_6 P, boot_o_7 P, boot_o_8 P, boot_o_9 P, boot_o_10 P, o11 P, o12_10 P, o13 P, o14 P, o15 P, o16 P, o17 P, o18 P, o19 P, o20 P, o21 P, o22 P, o23 P, o24 P, o25 P, o26 P, o27 P, o28 P, o29 P, o30 P, o31 P, o32 P, o33 P, o34 P, o35 P, o36 P, o37 P, o38 P, o39 P, o40 P, o41 P, o42 P, o43 P, o44 P, o45 P, o46 P, o47 P, o48 P, o49 P, o50 P, o51 P, o52 P, o53 P, o54 P, o55 P, o56 P, o57 P, o58 P, o59 P, o60 P, o61 P, o62 P, o63 P, o64 P, o65 P, o66 P, o67 P, o68 P, o69 P, o70 P, o71 P, o72 P, o73 P, o74 P, o75 P, o76 P, o77 P, o78 P, o79 P, o80 P, o81 P, o82 P, o83 P, o84 P, o85 P, o86 P, o87 P, o88 P, o89 P, o90 P, o91 P, o92 P, o93 P, o94 P, o95 P, o96 P, o97 P, o98 P, o99 P, o100 P, o101 P, o102 P, o103 P, o104 P, o105 P, o106 P, o107 P, o108 P, o109 P, o110 P, o111 P, o112 P, o113 P, o114 P, o115 P, o116 P, o117 P, o118 P, o119 P, o120 P, o121 P, o122 P, o123 P, o124 P, o125 P, o126 P, o127 P, o128 P, o129 P, o130 P, o131 P, o132 P, o133 P, o134 P, o135 P, o136 P, o137 P, o138 P, o139 P, o140 P, o141 P, o142 P, o143 P, o144 P, o145 P, o146 P, o147 P, o148 P, o149 P, o150 P, o151 P, o152 P, o153 P, o154 P, o155 P, o156 P, o157 P, o158 P, o159 P, o160 P, o161 P, o162 P, o163 P, o164 P, o165 P, o166 P, o167 P, o168 P, o169 P, o170 P, o171 P, o172 P, o173 P, o174 P, o175 P, o176 P, o177 P, o178 P, o179 P, o180 P, o181 P, o182 P, o183 P, o184 P, o185 P, o186 P, o187 P, o188 P, o189 P, o190 P, o191 P, o192 P, o193 P, o194 P, o195 P, o196 P, o197 P, o198 P, o199 P, o200 P, o201 P, o202 P, o203 P, o204 P, o205 P, o206 P, o207 P, o208 P, o209 P, o210 P, o211 P, o212 P, o213 P, o214 P, o215 P, o216 P, o217 P, o218 P, o219 P, o220 P, o221 P, o222 P, o223 P, o224 P, o225 P, o226 P, o227 P, o228 P, o229 P, o230 P, o231 P, o232 P, o233 P, o234 P, o235 P, o236 P, o237 P, o238 P, o239 P, o240 P, o241 P, o242 P, o243 P, o244 P, o245 P, o246 P, o247 P, o248 P, o249 P, o250 P, o251 P, o252 P, o253 P, o254 P, o255 P, o256 P, o257 P, o258 P, o259 P, o260 P, o261 P, o262 P, o263 P, o264 P, o265 P, o266 P, o267 P, o268 P, o269 P, o270 P, o271 P, o272 P, o273 P, o274 P, o275 P, o276 P, o277 P, o278 P, o279 P, o280 P, o281 P, o282 P, o283 P, o284 P, o285 P, o286 P, o287 P, o288 P, o289 P, o290 P, o291 P, o292 P, o293 P, o294 P, o295 P, o296 P, o297 P, o298 P, o299 P, o300 P, o301 P, o302 P, o303 P, o304 P, o305 P, o306 P, o307 P, o308 P, o309 P, o310 P, o311 P, o312 P, o313 P, o314 P, o315 P, o316 P, o317 P, o318 P, o319 P, o320 P, o321 P, o322 P, o323 P, o324 P, o325 P, o326 P, o327 P, o328 P, o329 P, o330 P, o331 P, o332 P, o333 P, o334 P, o335 P, o336 P, o337 P, o338 P, o339 P, o340 P, o341 P, o342 P, o343 P, o344 P, o345 P, o346 P, o347 P, o348 P, o349 P, o350 P, o351 P, o352 P, o353 P, o354 P, o355 P, o356 P, o357 P, o358 P, o359 P, o360 P, o361 P, o362 P, o363 P, o364 P, o365 P, o366 P, o367 P, o368 P, o369 P, o370 P, o371 P, o372 P, o373 P, o374 P, o375 P, o376 P, o377 P, o378 P, o379 P, o380 P, o381 P, o382 P, o383 P, o384 P, o385 P, o386 P, o387 P, o388 P, o389 P, o390 P, o391 P, o392 P, o393 P, o394 P, o395 P, o396 P, o397 P, o398 P, o399 P, o400 P, o401 P, o402 P, o403 P, o404 P, o405 P, o406 P, o407 P, o408 P, o409 P, o410 P, o411 P, o412 P, o413 P, o414 P, o415 P, o416 P, o417 P, o418 P, o419 P, o420 P, o421 P, o422 P, o423 P, o424 P, o425 P, o426 P, o427 P, o428 P, o429 P, o430 P, o431 P, o432 P, o433 P, o434 P, o435 P, o436 P, o437 P, o438 P, o439 P, o440 P, o441 P, o442 P, o443 P, o444 P, o445 P, o446 P, o447 P], {}⟩
noncomputable def Ha (P : Params) : Heap := ⟨#[boot_o_0 P, boot_o_1 P, boot_o_2 P, boot_o_3 P, boot_o_4 P, boot_o_5 P, boot_o_6 P, boot_o_7 P, boot_o_8 P, boot_o_9 P, boot_o_10 P, o11 P, o12 P, o13 P, o14 P], {}⟩
noncomputable def posQ : Pos := ⟨0, 0, 0, 0⟩
noncomputable def pos_p : Pos := ⟨0, 0, 0, 0⟩
noncomputable def pos_a : Pos := ⟨0, 0, 0, 0⟩
noncomputable def pos_1 : Pos := ⟨9, 0, 19, 91⟩
noncomputable def pos_2 : Pos := ⟨47, 0, 47, 14⟩
noncomputable def pos_3 : Pos := ⟨91, 0, 91, 8⟩
noncomputable def pos_4 : Pos := ⟨92, 0, 116, 103⟩
noncomputable def pos_5 : Pos := ⟨117, 0, 139, 16⟩
noncomputable def pos_6 : Pos := ⟨159, 0, 159, 8⟩
noncomputable def pos_7 : Pos := ⟨182, 0, 182, 9⟩
noncomputable def pos_8 : Pos := ⟨208, 0, 208, 4⟩
noncomputable def pos_9 : Pos := ⟨231, 0, 235, 22⟩
noncomputable def pos_10 : Pos := ⟨300, 0, 337, 68⟩
noncomputable def sts_1 : List Stmt := [topAt 0, topAt 1, topAt 2, topAt 3, topAt 4, topAt 5, topAt 6]
noncomputable def sts_2 : List Stmt := [topAt 7, topAt 8, topAt 9, topAt 10, topAt 11, topAt 12, topAt 13]
noncomputable def sts_3 : List Stmt := [topAt 14, topAt 15, topAt 16, topAt 17, topAt 18, topAt 19, topAt 20, topAt 21]
noncomputable def sts_4 : List Stmt := [topAt 22]
noncomputable def sts_5 : List Stmt := [topAt 23]
noncomputable def sts_6 : List Stmt := [topAt 24, topAt 25, topAt 26, topAt 27]
noncomputable def sts_7 : List Stmt := [topAt 28, topAt 29, topAt 30, topAt 31, topAt 32]
noncomputable def sts_8 : List Stmt := [topAt 33, topAt 34, topAt 35, topAt 36]
noncomputable def sts_9 : List Stmt := [topAt 37, topAt 38, topAt 39, topAt 40, topAt 41, topAt 42]
noncomputable def sts_10 : List Stmt := [topAt 43, topAt 44, topAt 45, topAt 46, topAt 47, topAt 48, topAt 49, topAt 50]
noncomputable abbrev annE : Option Value := some (.ref 6)
noncomputable def bE : List Stmt := behindTheImports PG
noncomputable def envE : Env := { scope := PG.main.scope, locals := mainNs, globals := mainNs, cells := [], code := .ref 13, frame := some 14 }
noncomputable def cE : Code := .body bE envE
noncomputable def S0 (w : World) (os : OsState) : Shared := ⟨boot_heap w.params, Array.mk [], boot_drawn, boot_toks, os⟩
noncomputable def Sa (w : World) (os : OsState) : Shared := ⟨Ha w.params, #[], {}, 187, os⟩
noncomputable def Sf (w : World) (os : OsState) : Shared := ⟨H1 w.params, #[], {}, 837, os⟩
theorem r_pre : ∀ w : World, (fun os => topGo treeTable PG w 11 annE 12 (S0 w os) (topStub PG)) = fun os => some (Sa w os, ⟨denote treeTable cE, cE, pos_p, [topFrame posQ]⟩) := fun w => by kernel_rfl
theorem r_block : ∀ w : World, (fun os => segRun treeTable PG w 11 annE 1 1 (Sa w os) (blockOf bE envE cE pos_p [topFrame posQ])) = fun os => some (.next, (S_a w os).abs, cE, pos_a) := fun w => by kernel_rfl
theorem r_1 : ∀ w : World, (fun os => segRunT treeTable PG w 11 annE 1 331 (S_a w os) (piecesOf sts_1 envE cE pos_a [topFrame posQ])) = fun os => some (.next, S_1 w os, cE, pos_1) := fun w => by first | (rw [PySem.W.Fast.te10110043849684766642, PySem.W.Fast.te14364793385576792824]; kernel_rfl) | kernel_rfl
theorem r_2 : ∀ w : World, (fun os => segRunT treeTable PG w 11 annE 1 378 (S_1 w os) (piecesOf sts_2 envE cE pos_1 [topFrame posQ])) = fun os => some (.next, S_2 w os, cE, pos_2) := fun w => by first | (rw [PySem.W.Fast.te10110043849684766642, PySem.W.Fast.te14364793385576792824]; kernel_rfl) | kernel_rfl
theorem r_3 : ∀ w : World, (fun os => segRunT treeTable PG w 11 annE 1 228 (S_2 w os) (piecesOf sts_3 envE cE pos_2 [topFrame posQ])) = fun os => some (.next, S_3 w os, cE, pos_3) := fun w => by first | (rw [PySem.W.Fast.te10110043849684766642, PySem.W.Fast.te14364793385576792824]; kernel_rfl) | kernel_rfl
theorem r_4 : ∀ w : World, (fun os => segRunT treeTable PG w 11 annE 1 302 (S_3 w os) (piecesOf sts_4 envE cE pos_3 [topFrame posQ])) = fun os => some (.next, S_4 w os, cE, pos_4) := fun w => by first | (rw [PySem.W.Fast.te10110043849684766642, PySem.W.Fast.te14364793385576792824]; kernel_rfl) | kernel_rfl
theorem r_5 : ∀ w : World, (fun os => segRunT treeTable PG w 11 annE 1 374 (S_4 w os) (piecesOf sts_5 envE cE pos_4 [topFrame posQ])) = fun os => some (.next, S_5 w os, cE, pos_5) := fun w => by first | (rw [PySem.W.Fast.te10110043849684766642, PySem.W.Fast.te14364793385576792824]; kernel_rfl) | kernel_rfl
theorem r_6 : ∀ w : World, (fun os => segRunT treeTable PG w 11 annE 1 99 (S_5 w os) (piecesOf sts_6 envE cE pos_5 [topFrame posQ])) = fun os => some (.next, S_6 w os, cE, pos_6) := fun w => by first | (rw [PySem.W.Fast.te10110043849684766642, PySem.W.Fast.te14364793385576792824]; kernel_rfl) | kernel_rfl
theorem r_7 : ∀ w : World, (fun os => segRunT treeTable PG w 11 annE 1 384 (S_6 w os) (piecesOf sts_7 envE cE pos_6 [topFrame posQ])) = fun os => some (.next, S_7 w os, cE, pos_7) := fun w => by first | (rw [PySem.W.Fast.te10110043849684766642, PySem.W.Fast.te14364793385576792824]; kernel_rfl) | kernel_rfl
theorem r_8 : ∀ w : World, (fun os => segRunT treeTable PG w 11 annE 1 385 (S_7 w os) (piecesOf sts_8 envE cE pos_7 [topFrame posQ])) = fun os => some (.next, S_8 w os, cE, pos_8) := fun w => by first | (rw [PySem.W.Fast.te10110043849684766642, PySem.W.Fast.te14364793385576792824]; kernel_rfl) | kernel_rfl
theorem r_9 : ∀ w : World, (fun os => segRunT treeTable PG w 11 annE 1 395 (S_8 w os) (piecesOf sts_9 envE cE pos_8 [topFrame posQ])) = fun os => some (.next, S_9 w os, cE, pos_9) := fun w => by first | (rw [PySem.W.Fast.te10110043849684766642, PySem.W.Fast.te14364793385576792824]; kernel_rfl) | kernel_rfl
theorem r_10 : ∀ w : World, (fun os => segRunT treeTable PG w 11 annE 1 235 (S_9 w os) (piecesOf sts_10 envE cE pos_9 [topFrame posQ])) = fun os => some (.next, S_10 w os, cE, pos_10) := fun w => by first | (rw [PySem.W.Fast.te10110043849684766642, PySem.W.Fast.te14364793385576792824]; kernel_rfl) | kernel_rfl
theorem r_fin : ∀ w : World, (fun os => topRun treeTable PG w 11 annE 2 (S_10 w os).abs ⟨doneF .next, cE, pos_10, [topFrame posQ]⟩) = fun os => some (Sf w os) := fun w => by kernel_rfl
theorem b_eq : bE = sts_1 ++ (sts_2 ++ (sts_3 ++ (sts_4 ++ (sts_5 ++ (sts_6 ++ (sts_7 ++ (sts_8 ++ (sts_9 ++ (sts_10 ++ []))))))))) := by kernel_rfl
theorem r_top (w : World) (os : OsState) : topRun treeTable PG w 11 annE (12 + (1 + (331 + (378 + (228 + (302 + (374 + (99 + (384 + (385 + (395 + (235 + 2)))))))))))) (S0 w os) (topStub PG) = some (Sf w os) := by
  have k : topRun treeTable PG w 11 annE (331 + (378 + (228 + (302 + (374 + (99 + (384 + (385 + (395 + (235 + 2)))))))))) (S_a w os).abs (restOf (sts_1 ++ (sts_2 ++ (sts_3 ++ (sts_4 ++ (sts_5 ++ (sts_6 ++ (sts_7 ++ (sts_8 ++ (sts_9 ++ (sts_10 ++ [])))))))))) envE cE pos_a [topFrame posQ]) = some (Sf w os) :=
    piece_app (segRun_of (congrFun (r_1 w) os)) (piece_app (segRun_of (congrFun (r_2 w) os)) (piece_app (segRun_of (congrFun (r_3 w) os)) (piece_app (segRun_of (congrFun (r_4 w) os)) (piece_app (segRun_of (congrFun (r_5 w) os)) (piece_app (segRun_of (congrFun (r_6 w) os)) (piece_app (segRun_of (congrFun (r_7 w) os)) (piece_app (segRun_of (congrFun (r_8 w) os)) (piece_app (segRun_of (congrFun (r_9 w) os)) (piece_app (segRun_of (congrFun (r_10 w) os)) (piece_nil (congrFun (r_fin w) os)))))))))))
  rw [← b_eq] at k
  exact go_top (congrFun (r_pre w) os) (piece_block (congrFun (r_block w) os) k)
end Mine.Hd
namespace Mine.Hd
-- the head: what is looked at behind the run
noncomputable def Q : Program := { PG with main := { PG.main with body := [topAt 50] } }
noncomputable def Loose : List Str := [.ofString "_wall", .ofString "IGNORE_BASES", .ofString "IGNORE_LIGATURES", .ofString "IGNORE_MARKS", .ofString "USE_SET", .ofString "Lookup", .ofString "Scene", .ofString "attach_wanted", .ofString "class_bit", .ofString "is_ignored", .ofString "passes", .ofString "KINDS_IN_INPUT", .ofString "glyph_tests", .ofString "fits", .ofString "is_borne", .ofString "found_at", .ofString "input_at", .ofString "is_piece", .ofString "hold_together", .ofString "Info", .ofString "Buffer", .ofString "set_cluster", .ofString "widened", .ofString "merge", .ofString "ClassDef", .ofString "NO_CLASS", .ofString "BASE_gdef", .ofString "COMPONENT", .ofString "Gdef", .ofString "BASE_ligature", .ofString "MARK", .ofString "begins_with", .ofString "live_rows", .ofString "Ligature", .ofString "part_count", .ofString "way_of", .ofString "tie", .ofString "tie_behind", .ofString "tie_all", .ofString "join", .ofString "apply_ligature", .ofString "_law_take", .ofString "_law_may"]
noncomputable def Xt (s : Shared) : Bool := (s.heap.get? sysModules).isSome
noncomputable def XP (mg : Str → Option Value) (h : Heap) : Prop := ∃ o, h.get? sysModules = some o
theorem l_size : ∀ w : World, ((boot_heap w.params).isNs mainGlobals && (Array.mk [] : Array GenState).size == 0, (boot_heap w.params).objs.size, (boot_heap w.params).nsMap mainGlobals "__annotations__") = (true, 11, annE) := fun w => by kernel_rfl
theorem l_top (w : World) (os : OsState) : (staticsOk (importedModules PG.main.body) (boot_heap w.params) (H1 w.params) && namesBound PG (H1 w.params) && gensDone (Sf w os) && laidKept (boot_heap w.params) (H1 w.params)) = true := by kernel_rfl
theorem l_K (w : World) (os : OsState) : (kHook K KA KA_eq).obs (Sf w os) = (kHook K KA KA_eq).val w := by kernel_rfl
theorem l_seen (w : World) (os : OsState) : openSeen Q Loose (importedModules PG.main.body) Xt true (Sf w os) = openGood Q Loose := by kernel_rfl
end Mine.Hd
namespace Mine.Hd
-- the head: joined
theorem left : LeftO PG Q Loose Xt (kHook K KA KA_eq).obs (kHook K KA KA_eq).val 6328 := by
  refine LeftO.of_pieces (H₀ := boot_heap) (H₁ := H1) (gs₀ := Array.mk []) (gs₁ := #[]) (d₀ := boot_drawn) (d₁ := {}) (k₀ := boot_toks) (k₁ := 837) (m₀ := 11) (ann := annE)
    (boot_open (by kernel_rfl) (by kernel_rfl) (fun s => by kernel_rfl)) l_size r_top (by kernel_rfl) (fun w => funext fun os => ?_)
  exact Prod.ext (l_top w os) (Prod.ext (l_seen w os) (l_K w os))
theorem ands {a b : Bool} (x : a = true) (y : b = true) : (a && b) = true := by rw [x, y]; rfl
noncomputable abbrev LW : OpenLaw := PySem.Challenge.rw_pb0197_01
theorem looks_ok : looksOpen LW.row.prog = true := by
  unfold looksOpen
  repeat' (with_reducible refine ands ?_ ?_)
  all_goals first
    | (rw [PySem.W.Fast.te8326940854005059898]; decide +kernel)
    | (rw [PySem.W.Fast.te17119622794617984870]; decide +kernel)
    | (rw [PySem.W.Fast.te8377067652309620493]; decide +kernel)
    | decide +kernel
theorem part_ok : LW.row.partSaid = true := by
  unfold OpenRow.partSaid
  repeat' (with_reducible refine ands ?_ ?_)
  · exact looks_ok
  all_goals decide +kernel
theorem row_ok : LW.row.wellSaid = true := by
  unfold OpenRow.wellSaid
  repeat' (with_reducible refine ands ?_ ?_)
  · exact part_ok
  all_goals decide +kernel
theorem said : LW.wellSaid = true := by
  unfold OpenLaw.wellSaid
  repeat' (with_reducible refine ands ?_ ?_)
  · exact row_ok
  all_goals first
    | (rw [PySem.W.Fast.te8326940854005059898]; decide +kernel)
    | (rw [PySem.W.Fast.te17119622794617984870]; decide +kernel)
    | decide +kernel
end Mine.Hd
namespace Mine.Hd
noncomputable def stPos : Stmt → Pos
  | .FunctionDef _ _ _ _ _ _ _ _ _ p => p
  | _ => ⟨0, 0, 0, 0⟩
noncomputable def lawRec : DefRec := { name := .ofString "law", params := stArgs (topAt 50), body := stBody (topAt 50), scope := stScope (topAt 50), pos := stPos (topAt 50) }
noncomputable abbrev lrow : OpenRow := OpenLaw.row PySem.Challenge.rw_pb0197_01
theorem d_law : defOf Q lrow.name = some (lawRec, []) := by kernel_rfl
theorem d_the : lrow.prog.theDef lrow.name = some (lawRec.params, lawRec.body, lawRec.scope) := by kernel_rfl
theorem d_kw : kwWritten? lawRec.params.kwonlyargs lawRec.params.kw_defaults = some [] := by kernel_rfl
theorem d_wr : (!lrow.writes || lrow.records.isEmpty) = true := by kernel_rfl
theorem d_ok : (chainsOk Q && opensWell lrow.prog && (frees lrow.toRowW && lrow.within.isEmpty)) = true := by decide +kernel
theorem d_bare : lrow.prog.bare := ⟨rfl, rfl, rfl, rfl, rfl, by decide +kernel⟩
theorem d_prom : lrow.toRowW.promised := ⟨[.list []], by decide +kernel, by decide +kernel⟩
theorem d_rec (s : Shared) : RecFacts lrow.records s.heap := recFacts_of (R := lrow.records) (s := s) rfl
theorem k_law (P : Params) : nsIn (K P) mainGlobals "law" = some (some (.ref 447)) := by kernel_rfl
theorem walk : WalkO Q Loose XP (kHook K KA KA_eq).says lrow.toRowW lawRec [] fun f vs => PySem.call f vs := by
  intro w s₀ s₁ mg mb G Y fa o pm cd doc dV kV ho hd hcd hD hmg hg args vals as hpre hlay hrd hwl hlo
  have X := kIn_of Y
  have hfa : fa = 447 := by
    have := mg_of X G.T.g (k_law w.params)
    have e : mg lawRec.name = some (.ref 447) := this
    rw [hmg] at e
    cases e; rfl
  have Gn : Gnd w s₁.heap := ⟨X, ⟨mg, G.T.g⟩, ⟨mb, G.T.b, G.T.builtins⟩, G.T.nolimit, G.X⟩
  obtain ⟨h1, h2⟩ := pre_splitW hpre
  obtain ⟨d, r', e, h3, h4⟩ := hasAllW_cons h1
  subst e
  obtain rfl := hasAllW_nil h4
  obtain ⟨xs, rfl, h5⟩ := hasW_list h3
  obtain ⟨v, vs, a1, a2, rfl, rfl, r1, r2⟩ := readsAllW_cons_inv hrd
  obtain ⟨rfl, rfl⟩ := readsAllW_nil_inv r2
  exact wpAny_mono (law_walk w Gn hfa hpre r1 hg) (fun _ _ g => g.toG) fun _ _ g => g.toG
theorem x_of (s : Shared) (h : Xt s = true) : XP (s.heap.nsMap mainGlobals) s.heap := Option.isSome_iff_exists.mp h
theorem x_keeps (mg : Str → Option Value) (h h' : Heap) (x : XP mg h) (k : ∀ b o, h.get? b = some o → h'.get? b = some o) : XP mg h' := Exists.elim x fun o ho => ⟨o, k _ _ ho⟩
end Mine.Hd
theorem PySem.Challenge.cw_pb0197_01_holds : PySem.Challenge.rw_pb0197_01.Holds := by
  refine PySem.W.holds_law Mine.Hd.said fun said => ?_
  exact PySem.W.holds_open (q := Mine.Hd.Q) (loose := Mine.Hd.Loose) (Xt := Mine.Hd.Xt) (XP := Mine.Hd.XP) Mine.Hd.left (Hook.of _) (Hook.keeps _)
    Mine.Hd.x_of Mine.Hd.x_keeps Mine.Hd.d_law Mine.Hd.d_the Mine.Hd.d_kw (fun s _ => Mine.Hd.d_rec s) Mine.Hd.d_wr said Mine.Hd.d_ok Mine.Hd.d_bare Mine.Hd.d_prom Mine.Hd.walk
